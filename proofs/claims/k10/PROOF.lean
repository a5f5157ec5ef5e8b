import PyProof.Rows.All
import HandS.ForMost
import HandS.Wide
import KE.KMathGC
import HandS.ForExc
import HandS.CallSlots
import HandS.HeadHook2
import HandS.TryMany
import HandS.IsInst
import HandS.ExcIs
import HandS.ExcField
import HandS.Iter
import KE.KExcIs
import KE.GoesEnum
import HandS.Flow
import HandS.TupAny
import HandS.Conv
import HandS.Style
import HandS.OwnEq
import PyProof.Rows.SeqMore
import HandS.Star
import HandS.Gcd
import HandS.Comp
import HandS.DictComp
import HandS.Small
import HandS.Dict
import HandS.WordsExc
import HandS.ExcInit
import HandS.ExcSuper
import KE.KSuper
import KE.KExcSuper
import HandS.HeadHook4
import HandS.HeadEnd
import HandS.Head2
import PySem.Challenge.RW_everybowl_k10_corners_of_subsets
import HandS.Head3
section
set_option Elab.async false
set_option linter.all false
set_option maxRecDepth 100000
/-! PD1: pure data, a small resolved syntax, its evaluator. -/
namespace PD
open PySem L2

/-- pure data: what a value is, without the heap. un: nothing is known (an unassigned slot) -/
inductive D where
  | un | non
  | bl (b : Bool) | int (i : Int) | str (x : Str)
  | tup (xs : List D) | lst (xs : List D)
  /-- a dict whose keys are tuples -/
  | dic (ks : List (List Key)) (vs : List D)
  /-- a range; dicts that nobody changes any more -/
  | rng (lo hi : Int)
  | dit (ks : List (List Key)) (vs : List D)
  | dik (ks : List Key) (vs : List D)
  /-- an instance of the program's class number c: its fields in the order of the class's layout -/
  | ins (c : Nat) (vs : List D)
  deriving Inhabited

/-- an exception of the program's class number c, its fields -/
structure Exn where
  c : Nat
  vs : List D

inductive R (α : Type) where
  | ok (a : α) | ex (x : Exn) | no

theorem eqt {α : Sort _} {a b : α} (h : a = b) : a = b := h
def R.bd {α β : Type} (r : R α) (f : α → R β) : R β := match r with
  | .ok a => f a
  | .ex x => .ex x
  | .no => .no

@[simp] theorem R.bd_ok {α β : Type} (a : α) (f : α → R β) : (R.ok a).bd f = f a := eqt rfl
@[simp] theorem R.bd_ex {α β : Type} (x : Exn) (f : α → R β) : (R.ex x : R α).bd f = .ex x := eqt rfl
@[simp] theorem R.bd_no {α β : Type} (f : α → R β) : (R.no : R α).bd f = .no := eqt rfl

abbrev Env := List D

/-! ### operations -/
/-- the bound of a product's two sides, of a divisor -/
def bigN : Nat := 2 ^ 9000
def small (i : Int) : Bool := decide (i.natAbs < bigN)
theorem small_of {i : Int} (h1 : -(10 ^ 100) ≤ i) (h2 : i ≤ 10 ^ 100) : small i = true := by
  unfold small
  have h : (10 : Nat) ^ 100 < bigN := by unfold bigN; decide +kernel
  have h3 : i.natAbs ≤ 10 ^ 100 := by omega
  exact decide_eq_true (Nat.lt_of_le_of_lt h3 h)

def maxLen : Nat := 100000
def small62 (i : Int) : Bool := decide (-(2 ^ 62) ≤ i) && decide (i < 2 ^ 62)

def keyD : Key → D
  | .inl i => .int i
  | .inr x => .str x
def keyOf : D → Option Key
  | .int i => some (.inl i)
  | .str x => some (.inr x)
  | _ => none
def keysOf : List D → Option (List Key)
  | [] => some []
  | d :: ds => match keyOf d, keysOf ds with
    | some k, some ks => some (k :: ks)
    | _, _ => none

mutual
def D.py : D → PyData
  | .non => .none
  | .bl b => .bool b
  | .int i => .int i
  | .str x => .str x
  | .tup xs => .tuple (D.pys xs)
  | .lst xs => .list (D.pys xs)
  | _ => .none
def D.pys : List D → List PyData
  | [] => []
  | d :: ds => d.py :: D.pys ds
end
mutual
/-- data alone -/
def D.dat : D → Bool
  | .non => true
  | .bl _ => true
  | .int _ => true
  | .str _ => true
  | .tup xs => D.dats xs
  | .lst xs => D.dats xs
  | _ => false
def D.dats : List D → Bool
  | [] => true
  | d :: ds => d.dat && D.dats ds
end
mutual
/-- no list, dict, instance in it -/
def D.noL : D → Bool
  | .un => true
  | .non => true
  | .bl _ => true
  | .int _ => true
  | .str _ => true
  | .tup xs => D.noLs xs
  | _ => false
def D.noLs : List D → Bool
  | [] => true
  | d :: ds => d.noL && D.noLs ds
end
def D.isNon : D → Bool
  | .non => true
  | _ => false
def D.flat : D → Bool
  | .non => true
  | .bl _ => true
  | .int _ => true
  | .str _ => true
  | _ => false
/-- the value of flat data -/
def D.fv : D → V
  | .non => .non
  | .bl b => .bl b
  | .int i => .int i
  | .str x => .str x
  | _ => .non

def truth : D → R Bool
  | .non => .ok false
  | .bl b => .ok b
  | .int i => .ok (i != 0)
  | .tup xs => .ok (!xs.isEmpty)
  | .lst xs => .ok (!xs.isEmpty)
  | _ => .no

def itemsOf : D → R (List D)
  | .tup xs => .ok xs
  | .lst xs => .ok xs
  | _ => .no

def lenOf : D → R D
  | .tup xs => .ok (.int xs.length)
  | .lst xs => .ok (.int xs.length)
  | _ => .no

def getAt (xs : List D) (i : Int) : R D := match atI xs i with
  | some d => .ok d
  | none => .no

/-- the place of a key -/
def lookK {κ : Type} [DecidableEq κ] (k : κ) : List κ → List D → R D
  | a :: as, d :: ds => if a = k then .ok d else lookK k as ds
  | _, _ => .no

def item : D → D → R D
  | .tup xs, .int i => getAt xs i
  | .lst xs, .int i => getAt xs i
  | .dic ks vs, .tup ds => match keysOf ds with
    | some k => lookK k ks vs
    | none => .no
  | .dit ks vs, .tup ds => match keysOf ds with
    | some k => lookK k ks vs
    | none => .no
  | .dik ks vs, d => match keyOf d with
    | some k => lookK k ks vs
    | none => .no
  | _, _ => .no

/-- a slice's part -/
def partOf : D → Option (Option Int)
  | .non => some none
  | .int i => some (some i)
  | _ => none
def cutL (xs : List D) (lo hi : Option Int) : List D := (xs.drop (HT.sIx xs.length 0 lo)).take (HT.sIx xs.length xs.length hi - HT.sIx xs.length 0 lo)
def cutD (x l h : D) : R D := match x, partOf l, partOf h with
  | .lst xs, some lo, some hi => .ok (.lst (cutL xs lo hi))
  | .tup xs, some lo, some hi => .ok (.tup (cutL xs lo hi))
  | _, _, _ => .no

/-- a list or tuple of ints -/
def intsOf : List D → Option (List Int)
  | [] => some []
  | .int i :: r => match intsOf r with
    | some is => some (i :: is)
    | none => none
  | _ => none

def eqD (a b : D) : R Bool := if a.dat && b.dat && SeqAt.shaped a.py && SeqAt.shaped b.py then .ok (PyData.eqv a.py b.py) else .no

def binD : Operator → D → D → R D
  | .Add, .int a, .int b => .ok (.int (a + b))
  | .Add, .tup a, .tup b => if a.length + b.length ≤ maxLen then .ok (.tup (a ++ b)) else .no
  | .Add, .lst a, .lst b => if a.length + b.length ≤ maxLen then .ok (.lst (a ++ b)) else .no
  | .Mult, .lst a, .int k => if (small62 k && decide (k.toNat ≤ maxLen)) && decide (a.length * k.toNat ≤ maxLen) then .ok (.lst (List.replicate k.toNat a).flatten) else .no
  | .Sub, .int a, .int b => .ok (.int (a - b))
  | .Mult, .int a, .int b => if small a && small b then .ok (.int (a * b)) else .no
  | .FloorDiv, .int a, .int b => if decide (0 < b) && small b then .ok (.int (a / b)) else .no
  | .Mod, .int a, .int b => if 0 < b then .ok (.int (a % b)) else .no
  | .LShift, .int a, .int b => if decide (0 ≤ b) && decide (b ≤ 1000) && decide (a.natAbs < 2 ^ 64) then .ok (.int (a * 2 ^ b.toNat)) else .no
  | .RShift, .int a, .int b => if 0 ≤ b then .ok (.int (a / 2 ^ b.toNat)) else .no
  | .BitAnd, .int a, .int b => if decide (0 ≤ a) && decide (0 ≤ b) then .ok (.int ((a.toNat &&& b.toNat : Nat) : Int)) else .no
  | .Pow, .int a, .int b => if decide (0 ≤ b) && decide (b ≤ 1000000) && decide (a.natAbs < 2 ^ 64) then .ok (.int (a ^ b.toNat)) else .no
  | _, _, _ => .no

def inD (a : D) : D → R Bool
  | .tup xs => if a.flat && xs.all D.flat then .ok (xs.any fun y => eqV y.fv a.fv) else .no
  | .lst xs => if a.flat && xs.all D.flat then .ok (xs.any fun y => eqV y.fv a.fv) else .no
  | _ => .no

def cmpD : CmpOp → D → D → R D
  | .Lt, .int a, .int b => .ok (.bl (decide (a < b)))
  | .LtE, .int a, .int b => .ok (.bl (decide (a ≤ b)))
  | .Gt, .int a, .int b => .ok (.bl (decide (b < a)))
  | .GtE, .int a, .int b => .ok (.bl (decide (b ≤ a)))
  | .Eq, a, b => (eqD a b).bd fun t => .ok (.bl t)
  | .NotEq, a, b => (eqD a b).bd fun t => .ok (.bl !t)
  | .In, a, b => (inD a b).bd fun t => .ok (.bl t)
  | .NotIn, a, b => (inD a b).bd fun t => .ok (.bl !t)
  | .Is, a, .non => .ok (.bl a.isNon)
  | .IsNot, a, .non => .ok (.bl !a.isNon)
  | .Is, .bl a, .bl b => .ok (.bl (decide (a = b)))
  | _, _, _ => .no

/-! ### built-in functions by number: what they do with values -/
inductive Blt where
  | len | abs | int | tuple | list | sum | max | min | sorted | all | any
  deriving DecidableEq

def absD : D → R D
  | .int i => .ok (.int (if i < 0 then -i else i))
  | _ => .no
def isort (xs : List Int) : List Int := xs.mergeSort
def intD : D → R D
  | .int i => .ok (.int i)
  | .bl b => .ok (.int (if b then 1 else 0))
  | _ => .no
def tupD : D → R D
  | .tup xs => .ok (.tup xs)
  | .lst xs => .ok (.tup xs)
  | _ => .no
def lstD : D → R D
  | .tup xs => .ok (.lst xs)
  | .lst xs => .ok (.lst xs)
  | _ => .no
def sumD : D → R D
  | .lst xs => match intsOf xs with
    | some is => .ok (.int is.sum)
    | none => .no
  | _ => .no
def maxD : D → R D
  | .lst xs => match (intsOf xs).bind List.max? with
    | some i => .ok (.int i)
    | none => .no
  | _ => .no
def minD : D → R D
  | .lst xs => match (intsOf xs).bind List.min? with
    | some i => .ok (.int i)
    | none => .no
  | _ => .no
def sortD (d : D) : R D := match itemsOf d with
  | .ok xs => (match intsOf xs with
    | some is => if is.length < 64 then .ok (.lst ((isort is).map .int)) else .no
    | none => .no)
  | _ => .no
/-- functions of math: 0 comb, 1 gcd -/
def combD : List D → R D
  | [.int a, .int b] => if decide (0 ≤ a) && decide (a ≤ 1000) && decide (0 ≤ b) && decide (b ≤ 1000) then .ok (.int (PySem.W.mcComb a b)) else .no
  | _ => .no
def gcdD : List D → R D
  | [.int a, .int b] => .ok (.int ((Nat.gcd a.natAbs b.natAbs : Nat) : Int))
  | _ => .no
def mfnD : Nat → List D → R D
  | 0, ds => combD ds
  | _ + 1, ds => gcdD ds
def blt1 (b : Blt) (d : D) : R D := match b with
  | .sorted => sortD d
  | .len => lenOf d | .abs => absD d | .int => intD d | .tuple => tupD d | .list => lstD d | .sum => sumD d | .max => maxD d | .min => minD d
  | _ => .no
def bltD (b : Blt) (ds : List D) : R D := match ds with
  | [d] => blt1 b d
  | _ => .no

/-- the type's number: 0 int, 1 bool, 2 tuple, 3 list, 4 str, 5 NoneType; own classes from 10 -/
def tyOf : D → Nat
  | .int _ => 0
  | .bl _ => 1
  | .tup _ => 2
  | .lst _ => 3
  | .str _ => 4
  | .non => 5
  | .ins c _ => 10 + c
  | _ => 9

/-! ### targets -/
inductive RT where
  | nm (i : Nat)
  | nil
  | cons (a r : RT)
/-- a name takes the value; nil and cons: a tuple of that length -/
def asgT : RT → D → Env → Option Env
  | .nm i, d, env => if i < env.length then some (env.set i d) else none
  | .nil, .tup [], env => some env
  | .cons a r, .tup (d :: ds), env => match asgT a d env with
    | some e => asgT r (.tup ds) e
    | none => none
  | .cons a r, .lst (d :: ds), env => match asgT a d env with
    | some e => asgT r (.tup ds) e
    | none => none
  | _, _, _ => none

/-- the same, into slots of which nothing is known -/
def asgU : RT → D → Env → Option Env
  | .nm i, d, env => match env[i]? with
    | some .un => some (env.set i d)
    | _ => none
  | .nil, .tup [], env => some env
  | .cons a r, .tup (d :: ds), env => match asgU a d env with
    | some e => asgU r (.tup ds) e
    | none => none
  | _, _, _ => none

/-! ### expressions -/
inductive RE where
  | var (i : Nat)
  | int (i : Int) | str (x : Str) | bl (b : Bool) | non
  /-- a module's int -/
  | gint (x : Str) (i : Int)
  | bin (op : Operator) (a b : RE)
  | neg (a : RE)
  | cmp (op : CmpOp) (a b : RE)
  | and (a b : RE) | or (a b : RE) | not (a : RE)
  | ife (c a b : RE)
  /-- lists of expressions: the value is the tuple of theirs -/
  | nil | cons (a r : RE)
  | tup (es : RE) | lst (es : RE)
  | item (a i : RE)
  /-- a slice; part, nopart: its parts -/
  | cut (a lo hi : RE) | nopart | part (a : RE)
  /-- a field by its number; a class's int constant, read through an instance -/
  | attr (a : RE) (f : Nat)
  | con (a : RE) (f : Nat)
  | call (f : Nat) (es : RE)
  | new (c : Nat) (es : RE)
  | meth (o : RE) (m : Nat) (es : RE)
  | blt (b : Blt) (es : RE)
  | isi (a : RE) (t : Nat)
  /-- the caught exception: a field, a test -/
  | curf (k : Nat) | curis (ts : List Nat)
  /-- tuple(range(a, b)) -/
  | tupR (a b : RE)
  /-- a == b by an own `__eq__` of number m; len of an instance by `__len__`; a[::-1] -/
  | ceq (m : Nat) (a b : RE) | dlen (m : Nat) (a : RE) | rev (a : RE)
  /-- walked things -/
  | rng1 (a : RE) | rng2 (a b : RE) | enum (a : RE)
  /-- a list comprehension: the block's own slots, the clauses -/
  | comp (own : List Nat) (t : RT) (it b : RE)
  | forc (t : RT) (it b : RE) | ifc (c b : RE) | one (a : RE)
  /-- a range as a value; dict comprehensions, keys tuples or (tk false) ints and texts; what they put -/
  | rgv (a : RE)
  | dcomp (tk : Bool) (own : List Nat) (t : RT) (it b : RE)
  | kv (k v : RE)
  /-- among the items of a display: *a; a dict of four keys; a function of math -/
  | star (a r : RE)
  | dct4 (k1 v1 k2 v2 k3 v3 k4 v4 : RE)
  | mfn (k : Nat) (es : RE)

/-- the loops of a comprehension -/
def coll (f : D → R D) : List D → R (List D)
  | [] => .ok []
  | x :: xs => (f x).bd fun y => match y with
    | .lst a => (coll f xs).bd fun b => .ok (a ++ b)
    | _ => .no

def wipeE (env : Env) : List Nat → Env
  | [] => env
  | i :: r => (wipeE env r).set i .un

def rangeD (lo : Int) (n : Nat) : List D := (List.range n).map fun i => .int (lo + (i : Nat))
/-- what a walk gives -/
def walkOf : D → R (List D)
  | .tup xs => .ok xs
  | .lst xs => .ok xs
  | .rng lo hi => .ok (rangeD lo (hi - lo).toNat)
  | .dit ks vs => .ok (ks.map fun k => .tup (k.map keyD))
  | .dik ks vs => .ok (ks.map keyD)
  | _ => .no
/-- a dict out of pairs -/
def putV {κ : Type} [DecidableEq κ] (ks : List κ) (vs : List D) (k : κ) (v : D) : List D := match ks, vs with
  | a :: as, d :: ds => (if a = k then v else d) :: putV as ds k v
  | _, _ => []
def putK {κ : Type} [DecidableEq κ] (ks : List κ) (vs : List D) (k : κ) (v : D) : List κ × List D :=
  if ks.any (fun a => decide (a = k)) then (ks, putV ks vs k v) else (ks ++ [k], vs ++ [v])
def tkOf : D → Option (List Key)
  | .tup ds => keysOf ds
  | _ => none
def putsK {κ : Type} [DecidableEq κ] (f : D → Option κ) : List D → List κ → List D → Option (List κ × List D)
  | [], ks, vs => some (ks, vs)
  | .tup [k, v] :: r, ks, vs => match f k with
    | some k => putsK f r (putK ks vs k v).1 (putK ks vs k v).2
    | none => none
  | _, _, _ => none

/-- what the program's classes say: methods and fields by class and number, constants, isinstance, the fields of exceptions, except -/
structure Stat where
  meth : Nat → Nat → Option Nat
  fld : Nat → Nat → Option Nat
  con : Nat → Nat → Option Int
  isi : Nat → Nat → Option Bool
  xfld : Nat → Nat → Option Nat
  /-- how many fields -/
  xlen : Nat → Nat
  exm : Nat → Nat → Option Bool
structure Ctx where
  st : Stat
  call : Nat → List D → R D
  new : Nat → List D → R D

def anyIs (f : Nat → Nat → Option Bool) (c : Nat) : List Nat → Option Bool
  | [] => some false
  | t :: ts => match f c t, anyIs f c ts with
    | some b, some r => some (b || r)
    | _, _ => none

def getF (S : Stat) (x : D) (f : Nat) : R D := match x with
  | .ins c vs => match S.fld c f with
    | some k => match vs[k]? with
      | some d => .ok d
      | none => .no
    | none => .no
  | _ => .no
def getC (S : Stat) (x : D) (f : Nat) : R D := match x with
  | .ins c _ => match S.con c f with
    | some i => .ok (.int i)
    | none => .no
  | _ => .no

def methOf (S : Stat) (x : D) (m : Nat) : Option Nat := match x with
  | .ins c _ => S.meth c m
  | _ => none

def eqM (G : Ctx) (m : Nat) (x y : D) : R D := match x, y with
  | .ins c vs, .ins c' ws => if c = c' then (match G.st.meth c m with
    | some g => (G.call g [.ins c vs, .ins c' ws]).bd fun d => match d with
      | .bl t => .ok (.bl t)
      | _ => .no
    | none => .no) else .no
  | _, _ => .no
def lenM (G : Ctx) (m : Nat) (x : D) : R D := match methOf G.st x m with
  | some g => (G.call g [x]).bd fun d => match d with
    | .int i => if decide (0 ≤ i) && small62 i then .ok (.int i) else .no
    | _ => .no
  | none => .no
def revD : D → R D
  | .lst xs => .ok (.lst xs.reverse)
  | _ => .no
/-- the dict of what a comprehension puts -/
def dictOf (tk : Bool) (r : R (List D)) : R D := match r with
  | .ok ys => if ys.length ≤ maxLen then (match tk with
    | true => (match putsK tkOf ys [] [] with
      | some r => .ok (.dit r.1 r.2)
      | none => .no)
    | false => (match putsK keyOf ys [] [] with
      | some r => .ok (.dik r.1 r.2)
      | none => .no)) else .no
  | _ => .no
def evE (G : Ctx) (cur : Option Exn) : RE → Env → R D
  | .var i, env => match env[i]? with
    | some .un => .no
    | some d => .ok d
    | none => .no
  | .int i, _ => .ok (.int i)
  | .str x, _ => .ok (.str x)
  | .bl b, _ => .ok (.bl b)
  | .non, _ => .ok .non
  | .gint _ i, _ => .ok (.int i)
  | .bin op a b, env => (evE G cur a env).bd fun x => (evE G cur b env).bd fun y => binD op x y
  | .neg a, env => (evE G cur a env).bd fun x => match x with
    | .int i => .ok (.int (-i))
    | _ => .no
  | .cmp op a b, env => (evE G cur a env).bd fun x => (evE G cur b env).bd fun y => cmpD op x y
  | .and a b, env => (evE G cur a env).bd fun x => match x with
    | .bl true => evE G cur b env
    | .bl false => .ok (.bl false)
    | _ => .no
  | .or a b, env => (evE G cur a env).bd fun x => match x with
    | .bl true => .ok (.bl true)
    | .bl false => evE G cur b env
    | _ => .no
  | .not a, env => (evE G cur a env).bd fun x => match x with
    | .bl t => .ok (.bl (!t))
    | _ => .no
  | .ife c a b, env => (evE G cur c env).bd fun x => match x with
    | .bl true => evE G cur a env
    | .bl false => evE G cur b env
    | _ => .no
  | .nil, _ => .ok (.tup [])
  | .cons a r, env => (evE G cur a env).bd fun x => (evE G cur r env).bd fun y => match y with
    | .tup ys => .ok (.tup (x :: ys))
    | _ => .no
  | .tup es, env => (evE G cur es env).bd fun y => match y with
    | .tup ys => if ys.length ≤ maxLen then .ok (.tup ys) else .no
    | _ => .no
  | .lst es, env => (evE G cur es env).bd fun y => match y with
    | .tup ys => if ys.length ≤ maxLen then .ok (.lst ys) else .no
    | _ => .no
  | .item a i, env => (evE G cur a env).bd fun x => (evE G cur i env).bd fun y => item x y
  | .nopart, _ => .ok .non
  | .part a, env => (evE G cur a env).bd fun x => match x with
    | .int i => .ok (.int i)
    | _ => .no
  | .cut a lo hi, env => (evE G cur a env).bd fun x => (evE G cur lo env).bd fun l => (evE G cur hi env).bd fun h =>
    cutD x l h
  | .attr a f, env => (evE G cur a env).bd fun x => getF G.st x f
  | .con a f, env => (evE G cur a env).bd fun x => getC G.st x f
  | .call f es, env => (evE G cur es env).bd fun y => match y with
    | .tup ys => G.call f ys
    | _ => .no
  | .new c es, env => (evE G cur es env).bd fun y => match y with
    | .tup ys => G.new c ys
    | _ => .no
  | .meth o m es, env => (evE G cur o env).bd fun x => match methOf G.st x m with
    | some g => (evE G cur es env).bd fun y => match y with
      | .tup ys => G.call g (x :: ys)
      | _ => .no
    | none => .no
  | .blt b es, env => (evE G cur es env).bd fun y => match y with
    | .tup ys => bltD b ys
    | _ => .no
  | .isi a t, env => (evE G cur a env).bd fun x => match G.st.isi (tyOf x) t with
    | some b => .ok (.bl b)
    | none => .no
  | .curf k, _ => match cur with
    | some x => match G.st.xfld x.c k with
      | some k => match x.vs[k]? with
        | some d => .ok d
        | none => .no
      | none => .no
    | none => .no
  | .curis ts, _ => match cur with
    | some x => match anyIs G.st.exm x.c ts with
      | some b => .ok (.bl b)
      | none => .no
    | none => .no
  | .ceq m a b, env => (evE G cur a env).bd fun x => (evE G cur b env).bd fun y => eqM G m x y
  | .dlen m a, env => (evE G cur a env).bd fun x => lenM G m x
  | .rev a, env => (evE G cur a env).bd fun x => revD x
  | .rng1 a, env => (evE G cur a env).bd fun x => match x with
    | .int n => if small62 n then .ok (.lst (rangeD 0 n.toNat)) else .no
    | _ => .no
  | .rng2 a b, env => (evE G cur a env).bd fun x => (evE G cur b env).bd fun y => match x, y with
    | .int i, .int j => if small62 i && small62 j then .ok (.lst (rangeD i (j - i).toNat)) else .no
    | _, _ => .no
  | .tupR a b, env => (evE G cur a env).bd fun x => (evE G cur b env).bd fun y => match x, y with
    | .int i, .int j => if (small62 i && small62 j) && decide ((j - i).toNat ≤ maxLen) then .ok (.tup (rangeD i (j - i).toNat)) else .no
    | _, _ => .no
  | .enum a, env => (evE G cur a env).bd fun x => (itemsOf x).bd fun xs => .ok (.lst (xs.mapIdx fun i d => .tup [.int (i : Nat), d]))
  | .comp own t it b, env => (evE G cur it env).bd fun s => (walkOf s).bd fun xs =>
    match coll (fun x => match asgU t x (wipeE env own) with
      | some env' => evE G cur b env'
      | none => .no) xs with
    | .ok ys => if ys.length ≤ maxLen then .ok (.lst ys) else .no
    | _ => .no
  | .forc t it b, env => (evE G cur it env).bd fun s => (walkOf s).bd fun xs =>
    (coll (fun x => match asgU t x env with
      | some env' => evE G cur b env'
      | none => .no) xs).bd fun ys => .ok (.lst ys)
  | .ifc c b, env => (evE G cur c env).bd fun x => (truth x).bd fun t => if t then evE G cur b env else .ok (.lst [])
  | .one a, env => (evE G cur a env).bd fun x => .ok (.lst [x])
  | .rgv a, env => (evE G cur a env).bd fun x => match x with
    | .int n => if small62 n then .ok (.rng 0 n) else .no
    | _ => .no
  | .dcomp tk own t it b, env => (evE G cur it env).bd fun s => (walkOf s).bd fun xs =>
    dictOf tk (coll (fun x => match asgU t x (wipeE env own) with
      | some env' => evE G cur b env'
      | none => .no) xs)
  | .kv k v, env => (evE G cur k env).bd fun x => (evE G cur v env).bd fun y => .ok (.lst [.tup [x, y]])
  | .star a r, env => (evE G cur a env).bd fun x => (itemsOf x).bd fun xs => (evE G cur r env).bd fun y => match y with
    | .tup ys => .ok (.tup (xs ++ ys))
    | _ => .no
  | .dct4 k1 v1 k2 v2 k3 v3 k4 v4, env => (evE G cur k1 env).bd fun x1 => (evE G cur v1 env).bd fun y1 => (evE G cur k2 env).bd fun x2 => (evE G cur v2 env).bd fun y2 =>
    (evE G cur k3 env).bd fun x3 => (evE G cur v3 env).bd fun y3 => (evE G cur k4 env).bd fun x4 => (evE G cur v4 env).bd fun y4 => dictOf false (.ok [.tup [x1, y1], .tup [x2, y2], .tup [x3, y3], .tup [x4, y4]])
  | .mfn k es, env => (evE G cur es env).bd fun y => match y with
    | .tup ys => mfnD k ys
    | _ => .no

/-! ### equations of evE -/
section
variable {G : Ctx} {cur : Option Exn}
theorem evE_var {i} {env} : evE G cur (.var i) env = (match env[i]? with
    | some .un => .no
    | some d => .ok d
    | none => .no) := rfl
theorem evE_int {i} {u1} : evE G cur (.int i) u1 = (.ok (.int i)) := rfl
theorem evE_str {x} {u1} : evE G cur (.str x) u1 = (.ok (.str x)) := rfl
theorem evE_bl {b} {u1} : evE G cur (.bl b) u1 = (.ok (.bl b)) := rfl
theorem evE_non {u1} : evE G cur .non u1 = (.ok .non) := rfl
theorem evE_gint {u1} {i} {u2} : evE G cur (.gint u1 i) u2 = (.ok (.int i)) := rfl
theorem evE_bin {op} {a} {b} {env} : evE G cur (.bin op a b) env = ((evE G cur a env).bd fun x => (evE G cur b env).bd fun y => binD op x y) := rfl
theorem evE_neg {a} {env} : evE G cur (.neg a) env = ((evE G cur a env).bd fun x => match x with
    | .int i => .ok (.int (-i))
    | _ => .no) := rfl
theorem evE_cmp {op} {a} {b} {env} : evE G cur (.cmp op a b) env = ((evE G cur a env).bd fun x => (evE G cur b env).bd fun y => cmpD op x y) := rfl
theorem evE_and {a} {b} {env} : evE G cur (.and a b) env = ((evE G cur a env).bd fun x => match x with
    | .bl true => evE G cur b env
    | .bl false => .ok (.bl false)
    | _ => .no) := rfl
theorem evE_or {a} {b} {env} : evE G cur (.or a b) env = ((evE G cur a env).bd fun x => match x with
    | .bl true => .ok (.bl true)
    | .bl false => evE G cur b env
    | _ => .no) := rfl
theorem evE_not {a} {env} : evE G cur (.not a) env = ((evE G cur a env).bd fun x => match x with
    | .bl t => .ok (.bl (!t))
    | _ => .no) := rfl
theorem evE_ife {c} {a} {b} {env} : evE G cur (.ife c a b) env = ((evE G cur c env).bd fun x => match x with
    | .bl true => evE G cur a env
    | .bl false => evE G cur b env
    | _ => .no) := rfl
theorem evE_nil {u1} : evE G cur .nil u1 = (.ok (.tup [])) := rfl
theorem evE_cons {a} {r} {env} : evE G cur (.cons a r) env = ((evE G cur a env).bd fun x => (evE G cur r env).bd fun y => match y with
    | .tup ys => .ok (.tup (x :: ys))
    | _ => .no) := rfl
theorem evE_tup {es} {env} : evE G cur (.tup es) env = ((evE G cur es env).bd fun y => match y with
    | .tup ys => if ys.length ≤ maxLen then .ok (.tup ys) else .no
    | _ => .no) := rfl
theorem evE_lst {es} {env} : evE G cur (.lst es) env = ((evE G cur es env).bd fun y => match y with
    | .tup ys => if ys.length ≤ maxLen then .ok (.lst ys) else .no
    | _ => .no) := rfl
theorem evE_item {a} {i} {env} : evE G cur (.item a i) env = ((evE G cur a env).bd fun x => (evE G cur i env).bd fun y => item x y) := rfl
theorem evE_nopart {u1} : evE G cur .nopart u1 = (.ok .non) := rfl
theorem evE_part {a} {env} : evE G cur (.part a) env = ((evE G cur a env).bd fun x => match x with
    | .int i => .ok (.int i)
    | _ => .no) := rfl
theorem evE_cut {a} {lo} {hi} {env} : evE G cur (.cut a lo hi) env = ((evE G cur a env).bd fun x => (evE G cur lo env).bd fun l => (evE G cur hi env).bd fun h =>
    cutD x l h) := rfl
theorem evE_attr {a} {f} {env} : evE G cur (.attr a f) env = ((evE G cur a env).bd fun x => getF G.st x f) := rfl
theorem evE_con {a} {f} {env} : evE G cur (.con a f) env = ((evE G cur a env).bd fun x => getC G.st x f) := rfl
theorem evE_call {f} {es} {env} : evE G cur (.call f es) env = ((evE G cur es env).bd fun y => match y with
    | .tup ys => G.call f ys
    | _ => .no) := rfl
theorem evE_new {c} {es} {env} : evE G cur (.new c es) env = ((evE G cur es env).bd fun y => match y with
    | .tup ys => G.new c ys
    | _ => .no) := rfl
theorem evE_meth {o} {m} {es} {env} : evE G cur (.meth o m es) env = ((evE G cur o env).bd fun x => match methOf G.st x m with
    | some g => (evE G cur es env).bd fun y => match y with
      | .tup ys => G.call g (x :: ys)
      | _ => .no
    | none => .no) := rfl
theorem evE_blt {b} {es} {env} : evE G cur (.blt b es) env = ((evE G cur es env).bd fun y => match y with
    | .tup ys => bltD b ys
    | _ => .no) := rfl
theorem evE_isi {a} {t} {env} : evE G cur (.isi a t) env = ((evE G cur a env).bd fun x => match G.st.isi (tyOf x) t with
    | some b => .ok (.bl b)
    | none => .no) := rfl
theorem evE_curf {k} {u1} : evE G cur (.curf k) u1 = (match cur with
    | some x => match G.st.xfld x.c k with
      | some k => match x.vs[k]? with
        | some d => .ok d
        | none => .no
      | none => .no
    | none => .no) := rfl
theorem evE_curis {ts} {u1} : evE G cur (.curis ts) u1 = (match cur with
    | some x => match anyIs G.st.exm x.c ts with
      | some b => .ok (.bl b)
      | none => .no
    | none => .no) := rfl
theorem evE_ceq {m} {a} {b} {env} : evE G cur (.ceq m a b) env = ((evE G cur a env).bd fun x => (evE G cur b env).bd fun y => eqM G m x y) := rfl
theorem evE_dlen {m} {a} {env} : evE G cur (.dlen m a) env = ((evE G cur a env).bd fun x => lenM G m x) := rfl
theorem evE_rev {a} {env} : evE G cur (.rev a) env = ((evE G cur a env).bd fun x => revD x) := rfl
theorem evE_rng1 {a} {env} : evE G cur (.rng1 a) env = ((evE G cur a env).bd fun x => match x with
    | .int n => if small62 n then .ok (.lst (rangeD 0 n.toNat)) else .no
    | _ => .no) := rfl
theorem evE_rng2 {a} {b} {env} : evE G cur (.rng2 a b) env = ((evE G cur a env).bd fun x => (evE G cur b env).bd fun y => match x, y with
    | .int i, .int j => if small62 i && small62 j then .ok (.lst (rangeD i (j - i).toNat)) else .no
    | _, _ => .no) := rfl
theorem evE_tupR {a} {b} {env} : evE G cur (.tupR a b) env = ((evE G cur a env).bd fun x => (evE G cur b env).bd fun y => match x, y with
    | .int i, .int j => if (small62 i && small62 j) && decide ((j - i).toNat ≤ maxLen) then .ok (.tup (rangeD i (j - i).toNat)) else .no
    | _, _ => .no) := rfl
theorem evE_enum {a} {env} : evE G cur (.enum a) env = ((evE G cur a env).bd fun x => (itemsOf x).bd fun xs => .ok (.lst (xs.mapIdx fun i d => .tup [.int (i : Nat), d]))) := rfl
theorem evE_comp {own} {t} {it} {b} {env} : evE G cur (.comp own t it b) env = ((evE G cur it env).bd fun s => (walkOf s).bd fun xs =>
    match coll (fun x => match asgU t x (wipeE env own) with
      | some env' => evE G cur b env'
      | none => .no) xs with
    | .ok ys => if ys.length ≤ maxLen then .ok (.lst ys) else .no
    | _ => .no) := rfl
theorem evE_forc {t} {it} {b} {env} : evE G cur (.forc t it b) env = ((evE G cur it env).bd fun s => (walkOf s).bd fun xs =>
    (coll (fun x => match asgU t x env with
      | some env' => evE G cur b env'
      | none => .no) xs).bd fun ys => .ok (.lst ys)) := rfl
theorem evE_ifc {c} {b} {env} : evE G cur (.ifc c b) env = ((evE G cur c env).bd fun x => (truth x).bd fun t => if t then evE G cur b env else .ok (.lst [])) := rfl
theorem evE_one {a} {env} : evE G cur (.one a) env = ((evE G cur a env).bd fun x => .ok (.lst [x])) := rfl
theorem evE_rgv {a} {env} : evE G cur (.rgv a) env = ((evE G cur a env).bd fun x => match x with
    | .int n => if small62 n then .ok (.rng 0 n) else .no
    | _ => .no) := rfl
theorem evE_dcomp {tk} {own} {t} {it} {b} {env} : evE G cur (.dcomp tk own t it b) env = ((evE G cur it env).bd fun s => (walkOf s).bd fun xs =>
    dictOf tk (coll (fun x => match asgU t x (wipeE env own) with
      | some env' => evE G cur b env'
      | none => .no) xs)) := rfl
theorem evE_kv {k} {v} {env} : evE G cur (.kv k v) env = ((evE G cur k env).bd fun x => (evE G cur v env).bd fun y => .ok (.lst [.tup [x, y]])) := rfl
theorem evE_star {a} {r} {env} : evE G cur (.star a r) env = ((evE G cur a env).bd fun x => (itemsOf x).bd fun xs => (evE G cur r env).bd fun y => match y with
    | .tup ys => .ok (.tup (xs ++ ys))
    | _ => .no) := rfl
theorem evE_dct4 {k1} {v1} {k2} {v2} {k3} {v3} {k4} {v4} {env} : evE G cur (.dct4 k1 v1 k2 v2 k3 v3 k4 v4) env = ((evE G cur k1 env).bd fun x1 => (evE G cur v1 env).bd fun y1 => (evE G cur k2 env).bd fun x2 => (evE G cur v2 env).bd fun y2 =>
    (evE G cur k3 env).bd fun x3 => (evE G cur v3 env).bd fun y3 => (evE G cur k4 env).bd fun x4 => (evE G cur v4 env).bd fun y4 => dictOf false (.ok [.tup [x1, y1], .tup [x2, y2], .tup [x3, y3], .tup [x4, y4]])) := rfl
theorem evE_mfn {k} {es} {env} : evE G cur (.mfn k es) env = ((evE G cur es env).bd fun y => match y with
    | .tup ys => mfnD k ys
    | _ => .no) := rfl
end

/-! ### statements -/
inductive Out where
  | nx (e : Env) | bk (e : Env) | ct (e : Env)
  | rt (d : D) (e : Env)
  | ex (x : Exn) (e : Env)
  | no

inductive RS where
  | skip | seq (a b : RS)
  | asg (i : Nat) (e : RE)
  /-- a new object that stays the slot's own: it may be changed -/
  | asgF (i : Nat) (e : RE)
  /-- from here on slot i is as any other -/
  | frz (i : Nat) (b : RS)
  | asgT (t : RT) (e : RE)
  | app (i : Nat) (e : RE)
  /-- x.append(y.pop(e)); x.extend(e); x.reverse() -/
  | popA (i j : Nat) (e : RE)
  | extL (i : Nat) (e : RE)
  | revL (i : Nat)
  | setL (i : Nat) (k e : RE)
  /-- d[k1] = d[k2] = d[k3] = e: i the dict's slot, the keys -/
  | setK (i : Nat) (ks e : RE)
  | newT (i : Nat)
  | setF (i : Nat) (k : Nat) (e : RE)
  | ife (c : RE) (a b : RS)
  | for_ (t : RT) (it : RE) (b : RS)
  | whl (n : Nat) (c : RE) (b : RS)
  | ret (e : RE) | retN
  | brk | cnt | pass
  | raise (c : Nat) (es : RE)
  | try_ (b hs : RS)
  | hnil | hcons (c : Nat) (i : Nat) (s rest : RS)
  | expr (e : RE)

def loop (f : D → Env → Out) : List D → Env → Out
  | [], env => .nx env
  | x :: xs, env => match f x env with
    | .nx e => loop f xs e
    | .ct e => loop f xs e
    | .bk e => .nx e
    | o => o
def wloop (c : Env → R D) (b : Env → Out) : Nat → Env → Out
  | 0, _ => .no
  | n + 1, env => match c env with
    | .ok (.bl true) => match b env with
      | .nx e => wloop c b n e
      | .ct e => wloop c b n e
      | .bk e => .nx e
      | o => o
    | .ok (.bl false) => .nx env
    | .ex x => .ex x env
    | _ => .no

def Out.of (r : R D) (env : Env) (f : D → Out) : Out := match r with
  | .ok d => f d
  | .ex x => .ex x env
  | .no => .no
@[simp] theorem Out.of_ok (d : D) (env : Env) (f : D → Out) : Out.of (.ok d) env f = f d := eqt rfl
@[simp] theorem Out.of_ex (x : Exn) (env : Env) (f : D → Out) : Out.of (.ex x) env f = .ex x env := eqt rfl
@[simp] theorem Out.of_no (env : Env) (f : D → Out) : Out.of .no env f = .no := eqt rfl

def Out.wipe (i : Nat) : Out → Out
  | .nx e => .nx (e.set i .un)
  | .bk e => .bk (e.set i .un)
  | .ct e => .ct (e.set i .un)
  | .rt d e => .rt d (e.set i .un)
  | .ex _ _ => .no
  | .no => .no
def setA (env : Env) (i : Nat) (d : D) : Out := if i < env.length then .nx (env.set i d) else .no

def putKs (v : D) : List D → List (List Key) → List D → Option (List (List Key) × List D)
  | [], ks, vs => some (ks, vs)
  | .tup ds :: r, ks, vs => match keysOf ds with
    | some k => if ks.length < maxLen then putKs v r (putK ks vs k v).1 (putK ks vs k v).2 else none
    | none => none
  | _, _, _ => none

def putL (env : Env) (i : Nat) (kd d : D) : Out := match env[i]? with
  | some (.lst xs) => (match kd with
    | .int k => (match ixN xs.length k with
      | some j => .nx (env.set i (.lst (xs.set j d)))
      | none => .no)
    | _ => .no)
  | _ => .no
def putD (env : Env) (i : Nat) (y d : D) : Out := match env[i]? with
  | some (.dic ks vs) => (match y with
    | .tup ys => (match putKs d ys ks vs with
      | some r => .nx (env.set i (.dic r.1 r.2))
      | none => .no)
    | _ => .no)
  | _ => .no
def putA (S : Stat) (env : Env) (i f : Nat) (d : D) : Out := match env[i]? with
  | some (.ins c vs) => if S.fld c f = some vs.length ∧ vs.length < 500 then .nx (env.set i (.ins c (vs ++ [d]))) else .no
  | _ => .no
/-- one item goes from the one list to the other's end -/
def popD (env : Env) (i j : Nat) (xs ys : List D) (d : D) : Out := match d with
  | .int k => if decide (0 ≤ k) && decide (k < ys.length) && decide (xs.length < maxLen) && decide (i ≠ j) && decide (ys.length ≤ maxLen) then (match ys[k.toNat]? with
    | some y => .nx ((env.set j (.lst (ys.eraseIdx k.toNat))).set i (.lst (xs ++ [y])))
    | none => .no) else .no
  | _ => .no
def evS (G : Ctx) : Option Exn → RS → Env → Out
  | _, .skip, env => .nx env
  | cur, .seq a b, env => match evS G cur a env with
    | .nx e => evS G cur b e
    | o => o
  | cur, .asg i e, env => .of (evE G cur e env) env fun d => setA env i d
  | cur, .asgF i e, env => .of (evE G cur e env) env fun d => match d with
    | .lst xs => setA env i (.lst xs)
    | _ => .no
  | cur, .frz i b, env => match env[i]? with
    | some (.ins _ _) => .no
    | _ => evS G cur b env
  | cur, .asgT t e, env => .of (evE G cur e env) env fun d => match PD.asgT t d env with
    | some e => .nx e
    | none => .no
  | cur, .app i e, env => match env[i]? with
    | some (.lst xs) => .of (evE G cur e env) env fun d => if xs.length < maxLen then .nx (env.set i (.lst (xs ++ [d]))) else .no
    | _ => .no
  | cur, .popA i j e, env => match env[i]?, env[j]? with
    | some (.lst xs), some (.lst ys) => .of (evE G cur e env) env fun d => popD env i j xs ys d
    | _, _ => .no
  | cur, .extL i e, env => match env[i]? with
    | some (.lst xs) => .of (evE G cur e env) env fun d => match d with
      | .lst ys => if xs.length + ys.length ≤ maxLen then .nx (env.set i (.lst (xs ++ ys))) else .no
      | _ => .no
    | _ => .no
  | _, .revL i, env => match env[i]? with
    | some (.lst xs) => .nx (env.set i (.lst xs.reverse))
    | _ => .no
  | cur, .setL i k e, env => .of (evE G cur e env) env fun d => .of (evE G cur k env) env fun kd => putL env i kd d
  | cur, .setK i ks e, env => .of (evE G cur e env) env fun d => .of (evE G cur ks env) env fun y => putD env i y d
  | _, .newT i, env => setA env i (.dic [] [])
  | cur, .setF i k e, env => .of (evE G cur e env) env fun d => putA G.st env i k d
  | cur, .ife c a b, env => .of (evE G cur c env) env fun d => match truth d with
    | .ok true => evS G cur a env
    | .ok false => evS G cur b env
    | _ => .no
  | cur, .for_ t it b, env => .of (evE G cur it env) env fun s => match walkOf s with
    | .ok xs => loop (fun x env => match PD.asgT t x env with
      | some e => evS G cur b e
      | none => .no) xs env
    | _ => .no
  | cur, .whl n c b, env => wloop (evE G cur c) (evS G cur b) n env
  | cur, .ret e, env => .of (evE G cur e env) env fun d => .rt d env
  | _, .retN, env => .rt .non env
  | _, .brk, env => .bk env
  | _, .cnt, env => .ct env
  | _, .pass, env => .nx env
  | cur, .raise c es, env => .of (evE G cur es env) env fun y => match y with
    | .tup ys => if ys.length = G.st.xlen c ∧ 0 < ys.length then .ex ⟨c, ys⟩ env else .no
    | _ => .no
  | cur, .try_ b hs, env => match evS G cur b env with
    | .ex x e => evS G (some x) hs e
    | o => o
  | cur, .hnil, env => match cur with
    | some x => .ex x env
    | none => .no
  | cur, .hcons c i s rest, env => match cur with
    | some x => match G.st.exm x.c c with
      | some true => if i < env.length then (evS G cur s (env.set i .un)).wipe i else .no
      | some false => evS G cur rest env
      | none => .no
    | none => .no
  | cur, .expr e, env => .of (evE G cur e env) env fun _ => .nx env

/-! ### equations of evS -/
section
variable {G : Ctx}
theorem evS_skip {u1} {env} : evS G u1 .skip env = (.nx env) := rfl
theorem evS_seq {a} {b} {cur} {env} : evS G cur (.seq a b) env = (match evS G cur a env with
    | .nx e => evS G cur b e
    | o => o) := rfl
theorem evS_asg {i} {e} {cur} {env} : evS G cur (.asg i e) env = (.of (evE G cur e env) env fun d => setA env i d) := rfl
theorem evS_asgF {i} {e} {cur} {env} : evS G cur (.asgF i e) env = (.of (evE G cur e env) env fun d => match d with
    | .lst xs => setA env i (.lst xs)
    | _ => .no) := rfl
theorem evS_frz {i} {b} {cur} {env} : evS G cur (.frz i b) env = (match env[i]? with
    | some (.ins _ _) => .no
    | _ => evS G cur b env) := rfl
theorem evS_asgT {t} {e} {cur} {env} : evS G cur (.asgT t e) env = (.of (evE G cur e env) env fun d => match PD.asgT t d env with
    | some e => .nx e
    | none => .no) := rfl
theorem evS_app {i} {e} {cur} {env} : evS G cur (.app i e) env = (match env[i]? with
    | some (.lst xs) => .of (evE G cur e env) env fun d => if xs.length < maxLen then .nx (env.set i (.lst (xs ++ [d]))) else .no
    | _ => .no) := rfl
theorem evS_popA {i} {j} {e} {cur} {env} : evS G cur (.popA i j e) env = (match env[i]?, env[j]? with
    | some (.lst xs), some (.lst ys) => .of (evE G cur e env) env fun d => popD env i j xs ys d
    | _, _ => .no) := rfl
theorem evS_extL {i} {e} {cur} {env} : evS G cur (.extL i e) env = (match env[i]? with
    | some (.lst xs) => .of (evE G cur e env) env fun d => match d with
      | .lst ys => if xs.length + ys.length ≤ maxLen then .nx (env.set i (.lst (xs ++ ys))) else .no
      | _ => .no
    | _ => .no) := rfl
theorem evS_revL {i} {u1} {env} : evS G u1 (.revL i) env = (match env[i]? with
    | some (.lst xs) => .nx (env.set i (.lst xs.reverse))
    | _ => .no) := rfl
theorem evS_setL {i} {k} {e} {cur} {env} : evS G cur (.setL i k e) env = (.of (evE G cur e env) env fun d => .of (evE G cur k env) env fun kd => putL env i kd d) := rfl
theorem evS_setK {i} {ks} {e} {cur} {env} : evS G cur (.setK i ks e) env = (.of (evE G cur e env) env fun d => .of (evE G cur ks env) env fun y => putD env i y d) := rfl
theorem evS_newT {i} {u1} {env} : evS G u1 (.newT i) env = (setA env i (.dic [] [])) := rfl
theorem evS_setF {i} {k} {e} {cur} {env} : evS G cur (.setF i k e) env = (.of (evE G cur e env) env fun d => putA G.st env i k d) := rfl
theorem evS_ife {c} {a} {b} {cur} {env} : evS G cur (.ife c a b) env = (.of (evE G cur c env) env fun d => match truth d with
    | .ok true => evS G cur a env
    | .ok false => evS G cur b env
    | _ => .no) := rfl
theorem evS_for {t} {it} {b} {cur} {env} : evS G cur (.for_ t it b) env = (.of (evE G cur it env) env fun s => match walkOf s with
    | .ok xs => loop (fun x env => match PD.asgT t x env with
      | some e => evS G cur b e
      | none => .no) xs env
    | _ => .no) := rfl
theorem evS_whl {n} {c} {b} {cur} {env} : evS G cur (.whl n c b) env = (wloop (evE G cur c) (evS G cur b) n env) := rfl
theorem evS_ret {e} {cur} {env} : evS G cur (.ret e) env = (.of (evE G cur e env) env fun d => .rt d env) := rfl
theorem evS_retN {u1} {env} : evS G u1 .retN env = (.rt .non env) := rfl
theorem evS_brk {u1} {env} : evS G u1 .brk env = (.bk env) := rfl
theorem evS_cnt {u1} {env} : evS G u1 .cnt env = (.ct env) := rfl
theorem evS_pass {u1} {env} : evS G u1 .pass env = (.nx env) := rfl
theorem evS_raise {c} {es} {cur} {env} : evS G cur (.raise c es) env = (.of (evE G cur es env) env fun y => match y with
    | .tup ys => if ys.length = G.st.xlen c ∧ 0 < ys.length then .ex ⟨c, ys⟩ env else .no
    | _ => .no) := rfl
theorem evS_try {b} {hs} {cur} {env} : evS G cur (.try_ b hs) env = (match evS G cur b env with
    | .ex x e => evS G (some x) hs e
    | o => o) := rfl
theorem evS_hnil {cur} {env} : evS G cur .hnil env = (match cur with
    | some x => .ex x env
    | none => .no) := rfl
theorem evS_hcons {c} {i} {s} {rest} {cur} {env} : evS G cur (.hcons c i s rest) env = (match cur with
    | some x => match G.st.exm x.c c with
      | some true => if i < env.length then (evS G cur s (env.set i .un)).wipe i else .no
      | some false => evS G cur rest env
      | none => .no
    | none => .no) := rfl
theorem evS_expr {e} {cur} {env} : evS G cur (.expr e) env = (.of (evE G cur e env) env fun _ => .nx env) := rfl
end

/-! ### functions -/
structure Fn where
  /-- parameters, slots -/
  ps : Nat
  n : Nat
  body : RS

structure Prog where
  fn : Nat → Fn
  /-- the __init__ of a class -/
  init : Nat → Nat
  st : Stat

def Prog.start (f : Fn) (ds : List D) : Env := ds ++ List.replicate (f.n - ds.length) .un

def resOf : Out → R D
  | .nx _ => .ok .non
  | .rt d _ => .ok d
  | .ex x _ => .ex x
  | _ => .no
/-- the object behind its __init__ -/
def selfOf : Out → R D
  | .nx e => match e[0]? with
    | some d => .ok d
    | none => .no
  | .ex x _ => .ex x
  | _ => .no

/-- a call in a context of calls -/
def Prog.run (P : Prog) (C : Ctx) (f : Nat) (ds : List D) : R D :=
  if ds.length = (P.fn f).ps then resOf (evS C none (P.fn f).body (Prog.start (P.fn f) ds)) else .no
def Prog.mk_ (P : Prog) (C : Ctx) (c : Nat) (ds : List D) : R D :=
  if ds.length + 1 = (P.fn (P.init c)).ps then selfOf (evS C none (P.fn (P.init c)).body (Prog.start (P.fn (P.init c)) (.ins c [] :: ds))) else .no
def Prog.ctx (P : Prog) : Nat → Ctx
  | 0 => ⟨P.st, fun _ _ => .no, fun _ _ => .no⟩
  | n + 1 => ⟨P.st, P.run (P.ctx n), P.mk_ (P.ctx n)⟩
/-! a law's tables -/
structure Tabs where
  meth : List (Nat × Nat × Nat) := []
  fld : List (Nat × Nat × Nat) := []
  con : List (Nat × Nat × Int) := []
  isi : List (Nat × Nat × Bool) := []
  xfld : List (Nat × Nat × Nat) := []
  exm : List (Nat × Nat × Bool) := []
  xlen : List (Nat × Nat) := []
def find3 {α : Type} (l : List (Nat × Nat × α)) (a b : Nat) : Option α := match l with
  | [] => none
  | (x, y, z) :: r => if x = a ∧ y = b then some z else find3 r a b
def find2 (l : List (Nat × Nat)) (a : Nat) : Nat := match l with
  | [] => 0
  | (x, z) :: r => if x = a then z else find2 r a
def Tabs.stat (T : Tabs) : Stat := ⟨find3 T.meth, find3 T.fld, find3 T.con, find3 T.isi, find3 T.xfld, find2 T.xlen, find3 T.exm⟩
end PD
end

section
set_option Elab.async false
set_option linter.all false
set_option maxRecDepth 100000
/-! PD2: how pure data lies in the abstract heap; parts of the heap set aside; a promise beside them. -/
namespace PD
open PySem PySem.Spec PyProof.Rows L2

theorem Same.none {H H' : Hp} (e : Same H H') {l : Addr} (h : H' l = Option.none) : H l = Option.none := by
  cases q : H l with
  | none => rfl
  | some o => rw [e l o q] at h; cases h
theorem Same.rd {H H' : Hp} (e : Same H H') {a : Addr} {u : HO} (h : Rd H a u) : Rd H' a u := by
  rcases h with h | ⟨o, h⟩
  · exact .inl (e _ _ h)
  · exact .inr ⟨o, e _ _ h⟩
theorem Same.sqL {K : PySem.W.Frag} {H H' : Hp} (e : Same H H') {a : Addr} {xs : List V} (h : SqL K H a xs) : SqL K H' a xs := by
  rcases h with h | h
  · exact .inl (Same.rd e h)
  · exact .inr h
theorem Same.sqT {K : PySem.W.Frag} {H H' : Hp} (e : Same H H') {a : Addr} {xs : List V} (h : SqT K H a xs) : SqT K H' a xs := by
  rcases h with h | h
  · exact .inl (Same.rd e h)
  · exact .inr h
theorem same_upd {H : Hp} {p : Addr} {o : HO} (h : H p = none) : Same H (upd H p o) := fun b x e => by
  rw [upd_ne (ne_of_none e h)]
  exact e

/-- names of the program's classes and the layouts of their fields; names and fields of its exceptions -/
structure Info where
  /-- how many classes; their names, the layouts of their fields -/
  nc : Nat
  cn : Nat → Str
  lay : Nat → List Str
  /-- exceptions: names (ValueError among them), fields -/
  xn : Nat → Str
  xf : Nat → List Str
  /-- the module's ints; names that the module does not bind -/
  gints : List (Str × Int)
  frees : List Str
  /-- defs by number: how many; where each stands, its parameters, whether it is an __init__; names of methods -/
  nf : Nat
  fat : Nat → Str × Option Str
  pars : Nat → List Str
  ini : Nat → Bool
  mname : Nat → Str
  /-- exceptions that are raised -/
  raised : List Nat
  /-- .. caught -/
  caught : List Nat
  /-- fields, class constants, fields of exceptions by number -/
  fnm : Nat → Str
  /-- defs, methods that hand back a new list -/
  nw : Nat → Bool := fun _ => false
  nwm : Nat → Bool := fun _ => false
  /-- names of math's functions, by number -/
  mfns : List (Str × Nat) := []
def mfnId : Nat → String
  | 0 => "math.comb"
  | _ => "math.gcd"

section
variable (N : Info) (K : PySem.W.Frag)
mutual
inductive Rp (H : Hp) : V → D → Prop
  | non : Rp H .non .non
  | bl (b : Bool) : Rp H (.bl b) (.bl b)
  | int (i : Int) : Rp H (.int i) (.int i)
  | str (x : Str) : Rp H (.str x) (.str x)
  | tup {a : Addr} {vs : List V} {ds : List D} (h : H a = some (.tup vs)) (r : Rps H vs ds) : Rp H (.ref a) (.tup ds)
  | lst {a : Addr} {vs : List V} {ds : List D} (h : SqL K H a vs) (r : Rps H vs ds) : Rp H (.ref a) (.lst ds)
  | dic {a : Addr} {kvs : List (List Key × V)} {ds : List D} (h : H a = some (.dT kvs)) (r : Rps H (kvs.map (·.2)) ds) : Rp H (.ref a) (.dic (kvs.map (·.1)) ds)
  | rng {a : Addr} {lo hi : Int} (h : H a = some (.rng lo hi)) (b : small62 lo = true) (c : small62 hi = true) : Rp H (.ref a) (.rng lo hi)
  | dit {a : Addr} {o : Obj} {kvs : List (List Key × V)} {ds : List D} (h : H a = some (.frz o (.dT kvs))) (r : Rps H (kvs.map (·.2)) ds) : Rp H (.ref a) (.dit (kvs.map (·.1)) ds)
  | dik {a : Addr} {o : Obj} {kvs : List (Key × V)} {ds : List D} (h : H a = some (.frz o (.dK kvs))) (r : Rps H (kvs.map (·.2)) ds) : Rp H (.ref a) (.dik (kvs.map (·.1)) ds)
  | ins {a dx : Addr} {fs : List (Str × V)} {c : Nat} {ds : List D} (hc : c < N.nc) (h : H a = some (.ins (He.ga K (N.cn c)) dx fs)) (n : fs.map (·.1) = (N.lay c).take ds.length) (r : Rps H (fs.map (·.2)) ds) : Rp H (.ref a) (.ins c ds)
inductive Rps (H : Hp) : List V → List D → Prop
  | nil : Rps H [] []
  | cons {v : V} {vs : List V} {d : D} {ds : List D} (h : Rp H v d) (r : Rps H vs ds) : Rps H (v :: vs) (d :: ds)
end
end

section
variable {N : Info} {K : PySem.W.Frag} {H H' : Hp}
mutual
theorem Rp.mono (e : Same H H') : ∀ {v : V} {d : D}, Rp N K H v d → Rp N K H' v d
  | _, _, .non => .non
  | _, _, .bl b => .bl b
  | _, _, .int b => .int b
  | _, _, .str b => .str b
  | _, _, .tup h r => .tup (e _ _ h) (Rps.mono e r)
  | _, _, .lst h r => .lst (Same.sqL e h) (Rps.mono e r)
  | _, _, .dic h r => .dic (e _ _ h) (Rps.mono e r)
  | _, _, .rng h b c => .rng (e _ _ h) b c
  | _, _, .dit h r => .dit (e _ _ h) (Rps.mono e r)
  | _, _, .dik h r => .dik (e _ _ h) (Rps.mono e r)
  | _, _, .ins hc h n r => .ins hc (e _ _ h) n (Rps.mono e r)
theorem Rps.mono (e : Same H H') : ∀ {vs : List V} {ds : List D}, Rps N K H vs ds → Rps N K H' vs ds
  | _, _, .nil => .nil
  | _, _, .cons h r => .cons (Rp.mono e h) (Rps.mono e r)
end
theorem Rps.length : ∀ {vs : List V} {ds : List D}, Rps N K H vs ds → vs.length = ds.length
  | _, _, .nil => rfl
  | _, _, .cons _ r => by rw [List.length_cons, List.length_cons, Rps.length r]
theorem Rps.get : ∀ {vs : List V} {ds : List D} {i : Nat} {d : D}, Rps N K H vs ds → ds[i]? = some d → ∃ v, vs[i]? = some v ∧ Rp N K H v d
  | _, _, _, _, .nil, e => by simp at e
  | _, _, 0, d, .cons h _, e => by simp at e; subst e; exact ⟨_, rfl, h⟩
  | _, _, i + 1, d, .cons _ r, e => by
    obtain ⟨v, h1, h2⟩ := Rps.get (i := i) r (by simpa using e)
    exact ⟨v, by simpa using h1, h2⟩
theorem Rps.get' : ∀ {vs : List V} {ds : List D} {i : Nat} {v : V}, Rps N K H vs ds → vs[i]? = some v → ∃ d, ds[i]? = some d ∧ Rp N K H v d
  | _, _, _, _, .nil, e => by simp at e
  | _, _, 0, v, .cons h _, e => by simp at e; subst e; exact ⟨_, rfl, h⟩
  | _, _, i + 1, v, .cons _ r, e => by
    obtain ⟨d, h1, h2⟩ := Rps.get' (i := i) r (by simpa using e)
    exact ⟨d, by simpa using h1, h2⟩
theorem Rps.append : ∀ {vs us : List V} {ds es : List D}, Rps N K H vs ds → Rps N K H us es → Rps N K H (vs ++ us) (ds ++ es)
  | _, _, _, _, .nil, s => s
  | _, _, _, _, .cons h r, s => .cons h (Rps.append r s)
theorem Rps.take : ∀ {vs : List V} {ds : List D} (n : Nat), Rps N K H vs ds → Rps N K H (vs.take n) (ds.take n)
  | _, _, 0, _ => .nil
  | _, _, _ + 1, .nil => .nil
  | _, _, n + 1, .cons h r => .cons h (Rps.take n r)
theorem Rps.drop : ∀ {vs : List V} {ds : List D} (n : Nat), Rps N K H vs ds → Rps N K H (vs.drop n) (ds.drop n)
  | _, _, 0, r => r
  | _, _, _ + 1, .nil => .nil
  | _, _, n + 1, .cons _ r => Rps.drop n r
theorem Rps.set {v : V} {d : D} (h : Rp N K H v d) : ∀ {vs : List V} {ds : List D} (n : Nat), Rps N K H vs ds → Rps N K H (vs.set n v) (ds.set n d)
  | _, _, _, .nil => .nil
  | _, _, 0, .cons _ r => .cons h r
  | _, _, n + 1, .cons g r => .cons g (Rps.set h n r)
theorem Rps.one {v : V} {d : D} (h : Rp N K H v d) : Rps N K H [v] [d] := .cons h .nil
theorem Rps.atI {vs : List V} {ds : List D} {i : Int} {d : D} (r : Rps N K H vs ds) (e : atI ds i = some d) : ∃ v, L2.atI vs i = some v ∧ Rp N K H v d := by
  have hl := r.length
  unfold L2.atI at e ⊢
  rw [hl]
  cases h : ixN ds.length i with
  | none => rw [h] at e; cases e
  | some j =>
    rw [h] at e
    exact r.get e
theorem Rps.ints : ∀ {vs : List V} {is : List Int}, Rps N K H vs (is.map D.int) → vs = is.map V.int
  | [], [], _ => rfl
  | _, _ :: _, r => by
    cases r with
    | cons h r => cases h; rw [Rps.ints r]; rfl
theorem intsOf_eq : ∀ {ds : List D} {is : List Int}, intsOf ds = some is → ds = is.map D.int
  | [], is, h => by cases h; rfl
  | .int i :: r, is, h => by
    unfold intsOf at h
    cases q : intsOf r with
    | none => rw [q] at h; cases h
    | some js => rw [q] at h; cases h; rw [intsOf_eq q]; rfl
  | .un :: r, is, h => by cases h
  | .non :: r, is, h => by cases h
  | .bl _ :: r, is, h => by cases h
  | .str _ :: r, is, h => by cases h
  | .tup _ :: r, is, h => by cases h
  | .lst _ :: r, is, h => by cases h
  | .dic _ _ :: r, is, h => by cases h
  | .dik _ _ :: r, is, h => by cases h
  | .rng _ _ :: r, is, h => by cases h
  | .dit _ _ :: r, is, h => by cases h
  | .ins _ _ :: r, is, h => by cases h

/-! ### a part of the heap set aside -/
def sub (H : Hp) (A : List Addr) : Hp := fun a => if a ∈ A then none else H a
theorem sub_in {A : List Addr} {a : Addr} (h : a ∈ A) : sub H A a = none := if_pos h
theorem sub_out {A : List Addr} {a : Addr} (h : a ∉ A) : sub H A a = H a := if_neg h
theorem sub_some {A : List Addr} {a : Addr} {o : HO} (h : sub H A a = some o) : a ∉ A ∧ H a = some o := by
  unfold sub at h
  split at h
  · cases h
  · exact ⟨by assumption, h⟩
theorem sub_same {A : List Addr} : Same (sub H A) H := fun _ _ e => (sub_some e).2
theorem sub_mono {A : List Addr} (e : Same H H') : Same (sub H A) (sub H' A) := fun b o h => by
  obtain ⟨n, h⟩ := sub_some h
  rw [sub_out n]
  exact e b o h
theorem sub_nil : sub H [] = H := by
  funext a
  exact if_neg (by simp)
theorem sub_upd {A : List Addr} {a : Addr} {o : HO} (h : a ∈ A) : sub (upd H a o) A = sub H A := by
  funext b
  unfold sub
  split
  · rfl
  · rename_i hb
    rw [upd_ne (fun e => hb (by rw [e]; exact h))]
theorem sub_le {A B : List Addr} (h : ∀ a ∈ A, a ∈ B) : Same (sub H B) (sub H A) := fun b o e => by
  obtain ⟨n, e⟩ := sub_some e
  rw [sub_out fun z => n (h b z)]
  exact e
/-- what may be set aside: lists, dicts, instances with their own dicts -/
def AOk (H : Hp) (A : List Addr) : Prop := ∀ a ∈ A, (∃ xs, H a = some (.lst xs)) ∨ (∃ kvs, H a = some (.dT kvs)) ∨ (∃ kvs, H a = some (.dK kvs)) ∨ (∃ C dx fs, H a = some (.ins C dx fs) ∧ dx ∈ A ∧ H dx = some (.own a)) ∨ ∃ x, H a = some (.own x) ∧ x ∈ A ∧ ∃ C fs, H x = some (.ins C a fs)
theorem AOk.nil : AOk H [] := fun _ h => by simp at h
theorem AOk.tup {A : List Addr} (h : AOk H A) {a : Addr} {xs : List V} (e : H a = some (.tup xs)) : a ∉ A := fun z => by
  rcases h a z with ⟨_, q⟩ | ⟨_, q⟩ | ⟨_, q⟩ | ⟨_, _, _, q, _⟩ | ⟨_, q, _⟩ <;> rw [e] at q <;> cases q
theorem AOk.frz {A : List Addr} (h : AOk H A) {a : Addr} {ob : Obj} {u : HO} (e : H a = some (.frz ob u)) : a ∉ A := fun z => by
  rcases h a z with ⟨_, q⟩ | ⟨_, q⟩ | ⟨_, q⟩ | ⟨_, _, _, q, _⟩ | ⟨_, q, _⟩ <;> rw [e] at q <;> cases q
theorem AOk.tbl {A : List Addr} (h : AOk H A) {a : Addr} {ps : Array Value} (e : H a = some (.tbl ps)) : a ∉ A := fun z => by
  rcases h a z with ⟨_, q⟩ | ⟨_, q⟩ | ⟨_, q⟩ | ⟨_, _, _, q, _⟩ | ⟨_, q, _⟩ <;> rw [e] at q <;> cases q
theorem AOk.rng {A : List Addr} (h : AOk H A) {a : Addr} {lo hi : Int} (e : H a = some (.rng lo hi)) : a ∉ A := fun z => by
  rcases h a z with ⟨_, q⟩ | ⟨_, q⟩ | ⟨_, q⟩ | ⟨_, _, _, q, _⟩ | ⟨_, q, _⟩ <;> rw [e] at q <;> cases q
theorem AOk.own {A : List Addr} (h : AOk H A) {a x : Addr} (e : H a = some (.own x)) (z : a ∈ A) : x ∈ A := by
  rcases h a z with ⟨_, q⟩ | ⟨_, q⟩ | ⟨_, q⟩ | ⟨_, _, _, q, _⟩ | ⟨_, q, hx⟩ <;> rw [e] at q <;> cases q
  exact hx.1
theorem AOk.some {A : List Addr} (h : AOk H A) {a : Addr} (z : a ∈ A) : ∃ o, H a = some o := by
  rcases h a z with ⟨_, q⟩ | ⟨_, q⟩ | ⟨_, q⟩ | ⟨_, _, _, q, _⟩ | ⟨_, q, _⟩ <;> exact ⟨_, q⟩
theorem AOk.mono {A : List Addr} (h : AOk H A) (e : Same H H') : AOk H' A := fun a z => by
  rcases h a z with ⟨_, q⟩ | ⟨_, q⟩ | ⟨_, q⟩ | ⟨_, _, _, q, hx⟩ | ⟨_, q, hx⟩
  · exact .inl ⟨_, e _ _ q⟩
  · exact .inr (.inl ⟨_, e _ _ q⟩)
  · exact .inr (.inr (.inl ⟨_, e _ _ q⟩))
  · exact .inr (.inr (.inr (.inl ⟨_, _, _, e _ _ q, hx.1, e _ _ hx.2⟩)))
  · exact .inr (.inr (.inr (.inr ⟨_, e _ _ q, hx.1, let ⟨C, fs, h2⟩ := hx.2; ⟨C, fs, e _ _ h2⟩⟩)))
theorem AOk.hok {P : Program} {w : World} {h : Heap} {A : List Addr} (c : AOk H A) (x : HOk P w H h) : HOk P w (sub H A) h := fun a o e => by
  obtain ⟨n, e⟩ := sub_some e
  exact (x a o e).stay (fun _ _ _ q => q) (fun b q => by rw [sub_out fun z => n (c.own q z)]; exact q) (fun b xs q => by rw [sub_out (c.tup q)]; exact q)

mutual
theorem Rp.clean {A : List Addr} (c : AOk H A) : ∀ {v : V} {d : D}, Rp N K H v d → d.noL = true → Rp N K (sub H A) v d
  | _, _, .non, _ => .non
  | _, _, .bl b, _ => .bl b
  | _, _, .int b, _ => .int b
  | _, _, .str b, _ => .str b
  | _, _, .tup h r, n => by
    exact .tup (by rw [sub_out (c.tup h)]; exact h) (Rps.clean c r (by unfold D.noL at n; exact n))
  | _, _, .lst h r, n => by unfold D.noL at n; cases n
  | _, _, .dic h r, n => by unfold D.noL at n; cases n
  | _, _, .dik h r, n => by unfold D.noL at n; cases n
  | _, _, .rng _ _ _, n => by unfold D.noL at n; cases n
  | _, _, .dit h r, n => by unfold D.noL at n; cases n
  | _, _, .ins _ h _ r, n => by unfold D.noL at n; cases n
theorem Rps.clean {A : List Addr} (c : AOk H A) : ∀ {vs : List V} {ds : List D}, Rps N K H vs ds → D.noLs ds = true → Rps N K (sub H A) vs ds
  | _, _, .nil, _ => .nil
  | _, _, .cons h r, n => by
    unfold D.noLs at n
    rw [Bool.and_eq_true] at n
    exact .cons (Rp.clean c h n.1) (Rps.clean c r n.2)
end

/-- an object that is a slot's own: its items do not hang on what is set aside -/
def Own (N : Info) (K : PySem.W.Frag) (H : Hp) (A : List Addr) (a : Addr) : D → Prop
  | .lst ds => ∃ vs, H a = some (.lst vs) ∧ Rps N K (sub H A) vs ds
  | .dic ks ds => ∃ kvs, H a = some (.dT kvs) ∧ kvs.map (·.1) = ks ∧ Rps N K (sub H A) (kvs.map (·.2)) ds
  | .ins c ds => ∃ dx fs, c < N.nc ∧ dx ∈ A ∧ H a = some (.ins (He.ga K (N.cn c)) dx fs) ∧ fs.map (·.1) = (N.lay c).take ds.length ∧ Rps N K (sub H A) (fs.map (·.2)) ds
  | _ => False
theorem Own.mono {A : List Addr} {a : Addr} (e : Same H H') : ∀ {d : D}, Own N K H A a d → Own N K H' A a d
  | .lst ds, ⟨vs, h, r⟩ => ⟨vs, e _ _ h, r.mono (sub_mono e)⟩
  | .dic ks ds, ⟨kvs, h, n, r⟩ => ⟨kvs, e _ _ h, n, r.mono (sub_mono e)⟩
  | .ins c ds, ⟨dx, fs, hc, m, h, n, r⟩ => ⟨dx, fs, hc, m, e _ _ h, n, r.mono (sub_mono e)⟩
  | .un, h => h.elim
  | .non, h => h.elim
  | .bl _, h => h.elim
  | .int _, h => h.elim
  | .str _, h => h.elim
  | .tup _, h => h.elim
  | .dik _ _, h => h.elim
  | .rng _ _, h => h.elim
  | .dit _ _, h => h.elim
/-- it is read as any other -/
theorem Own.rp {A : List Addr} {a : Addr} : ∀ {d : D}, Own N K H A a d → Rp N K H (.ref a) d
  | .lst ds, ⟨vs, h, r⟩ => .lst (.inl (.inl h)) (r.mono sub_same)
  | .dic ks ds, ⟨kvs, h, n, r⟩ => by subst n; exact .dic h (r.mono sub_same)
  | .ins c ds, ⟨dx, fs, hc, m, h, n, r⟩ => .ins hc h n (r.mono sub_same)
  | .un, h => h.elim
  | .non, h => h.elim
  | .bl _, h => h.elim
  | .int _, h => h.elim
  | .str _, h => h.elim
  | .tup _, h => h.elim
  | .dik _ _, h => h.elim
  | .rng _ _, h => h.elim
  | .dit _ _, h => h.elim
/-- another object is written -/
theorem Own.upd {A : List Addr} {a b : Addr} {o : HO} (hb : b ∈ A) (n : a ≠ b) : ∀ {d : D}, Own N K H A a d → Own N K (L2.upd H b o) A a d
  | .lst ds, ⟨vs, h, r⟩ => ⟨vs, by rw [upd_ne n]; exact h, by rw [sub_upd hb]; exact r⟩
  | .dic ks ds, ⟨kvs, h, m, r⟩ => ⟨kvs, by rw [upd_ne n]; exact h, m, by rw [sub_upd hb]; exact r⟩
  | .ins c ds, ⟨dx, fs, hc, l, h, m, r⟩ => ⟨dx, fs, hc, l, by rw [upd_ne n]; exact h, m, by rw [sub_upd hb]; exact r⟩
  | .un, h => h.elim
  | .non, h => h.elim
  | .bl _, h => h.elim
  | .int _, h => h.elim
  | .str _, h => h.elim
  | .tup _, h => h.elim
  | .dik _ _, h => h.elim
  | .rng _ _, h => h.elim
  | .dit _ _, h => h.elim

/-- the items of it do not hang on what is set aside -/
def Itc (N : Info) (K : PySem.W.Frag) (H : Hp) (A : List Addr) (v : V) : D → Prop
  | .lst ds => ∃ a vs, v = .ref a ∧ SqL K H a vs ∧ Rps N K (sub H A) vs ds
  | .tup ds => ∃ a vs, v = .ref a ∧ H a = some (.tup vs) ∧ Rps N K (sub H A) vs ds
  | .dic ks ds => ∃ a kvs, v = .ref a ∧ H a = some (.dT kvs) ∧ kvs.map (·.1) = ks ∧ Rps N K (sub H A) (kvs.map (·.2)) ds
  | .ins c ds => ∃ a dx fs, v = .ref a ∧ c < N.nc ∧ H a = some (.ins (He.ga K (N.cn c)) dx fs) ∧ fs.map (·.1) = (N.lay c).take ds.length ∧ Rps N K (sub H A) (fs.map (·.2)) ds
  | .dit ks ds => ∃ a o kvs, v = .ref a ∧ H a = some (.frz o (.dT kvs)) ∧ kvs.map (·.1) = ks ∧ Rps N K (sub H A) (kvs.map (·.2)) ds
  | .dik ks ds => ∃ a o kvs, v = .ref a ∧ H a = some (.frz o (.dK kvs)) ∧ kvs.map (·.1) = ks ∧ Rps N K (sub H A) (kvs.map (·.2)) ds
  | _ => True
theorem Itc.of_rp {A : List Addr} {v : V} {d : D} (h : Rp N K (sub H A) v d) : Itc N K H A v d := by
  cases h with
  | lst h r => exact ⟨_, _, rfl, Same.sqL sub_same h, r⟩
  | tup h r => exact ⟨_, _, rfl, (sub_some h).2, r⟩
  | dic h r => exact ⟨_, _, rfl, (sub_some h).2, rfl, r⟩
  | ins hc h n r => exact ⟨_, _, _, rfl, hc, (sub_some h).2, n, r⟩
  | non => trivial
  | bl _ => trivial
  | int _ => trivial
  | str _ => trivial
  | dik h r => exact ⟨_, _, _, rfl, (sub_some h).2, rfl, r⟩
  | rng _ _ _ => trivial
  | dit h r => exact ⟨_, _, _, rfl, (sub_some h).2, rfl, r⟩
theorem Itc.of_own {A : List Addr} {a : Addr} : ∀ {d : D}, Own N K H A a d → Itc N K H A (.ref a) d
  | .lst ds, ⟨vs, h, r⟩ => ⟨_, vs, rfl, .inl (.inl h), r⟩
  | .dic ks ds, ⟨kvs, h, n, r⟩ => ⟨_, kvs, rfl, h, n, r⟩
  | .ins c ds, ⟨dx, fs, hc, m, h, n, r⟩ => ⟨_, dx, fs, rfl, hc, h, n, r⟩
  | .un, h => h.elim
  | .non, h => h.elim
  | .bl _, h => h.elim
  | .int _, h => h.elim
  | .str _, h => h.elim
  | .tup _, h => h.elim
  | .dik _ _, h => h.elim
  | .rng _ _, h => h.elim
  | .dit _ _, h => h.elim
theorem Itc.mono {A : List Addr} {v : V} (e : Same H H') : ∀ {d : D}, Itc N K H A v d → Itc N K H' A v d
  | .lst ds, ⟨a, vs, q, h, r⟩ => ⟨a, vs, q, Same.sqL e h, r.mono (sub_mono e)⟩
  | .tup ds, ⟨a, vs, q, h, r⟩ => ⟨a, vs, q, e _ _ h, r.mono (sub_mono e)⟩
  | .dic ks ds, ⟨a, kvs, q, h, n, r⟩ => ⟨a, kvs, q, e _ _ h, n, r.mono (sub_mono e)⟩
  | .ins c ds, ⟨a, dx, fs, q, hc, h, n, r⟩ => ⟨a, dx, fs, q, hc, e _ _ h, n, r.mono (sub_mono e)⟩
  | .un, h => trivial
  | .non, h => trivial
  | .bl _, h => trivial
  | .int _, h => trivial
  | .str _, h => trivial
  | .dit ks ds, ⟨a, o, kvs, q, h, n, r⟩ => ⟨a, o, kvs, q, e _ _ h, n, r.mono (sub_mono e)⟩
  | .dik ks ds, ⟨a, o, kvs, q, h, n, r⟩ => ⟨a, o, kvs, q, e _ _ h, n, r.mono (sub_mono e)⟩
  | .rng _ _, h => trivial
end
end PD
end

section
set_option Elab.async false
set_option linter.all false
set_option maxRecDepth 100000
/-! PD3: a promise beside a part of the heap that is set aside. -/
namespace PD
open PySem PySem.Spec PyProof.Rows L2

def join (H : Hp) (A : List Addr) (H' : Hp) : Hp := fun a => if a ∈ A then H a else H' a
section
variable {H H' : Hp} {A : List Addr}
theorem join_in {a : Addr} (h : a ∈ A) : join H A H' a = H a := if_pos h
theorem join_out {a : Addr} (h : a ∉ A) : join H A H' a = H' a := if_neg h
theorem out_of_none (n : ∀ a ∈ A, H' a = none) {b : Addr} {o : HO} (e : H' b = some o) : b ∉ A := fun z => by rw [n b z] at e; cases e
theorem join_up (n : ∀ a ∈ A, H' a = none) : Same H' (join H A H') := fun b o e => by
  rw [join_out (out_of_none n e)]
  exact e
theorem join_same (s : Same (sub H A) H') : Same H (join H A H') := fun b o e => by
  by_cases hb : b ∈ A
  · rw [join_in hb]; exact e
  · rw [join_out hb]; exact s b o (by rw [sub_out hb]; exact e)
theorem join_sub (n : ∀ a ∈ A, H' a = none) : sub (join H A H') A = H' := by
  funext b
  by_cases hb : b ∈ A
  · rw [sub_in hb, n b hb]
  · rw [sub_out hb, join_out hb]
end

theorem obj_at {P : Program} {w : World} {H : Hp} {h : Heap} {a : Addr} {o : HO} (x : ObjOk P w H h a o) : ∃ ob, h.get? a = some ob := by
  cases o with
  | lst xs => obtain ⟨_, _, _, _, e⟩ := x; exact ⟨_, e⟩
  | tup xs => obtain ⟨_, _, _, ob, e, _⟩ := x; exact ⟨_, e⟩
  | dK kvs => obtain ⟨_, _, _, _, o, _, _, e, _⟩ := x; exact ⟨_, e⟩
  | dT kvs => obtain ⟨_, _, _, _, o, _, _, e, _⟩ := x; exact ⟨_, e⟩
  | set S n => obtain ⟨o, _, _, _, e, _⟩ := x; exact ⟨_, e⟩
  | ins C dx fs => obtain ⟨_, _, _, e, _⟩ := x; exact ⟨_, e⟩
  | own y => obtain ⟨_, e⟩ := x; exact ⟨_, e⟩
  | xd fs => obtain ⟨_, ⟨_, _, _, e, _⟩, _⟩ := x; exact ⟨_, e⟩
  | rng lo hi => obtain ⟨_, _, _, e⟩ := x; exact ⟨_, e⟩
  | frz ob u => obtain ⟨e, _⟩ := x; exact ⟨_, e⟩
  | tbl ps => exact ⟨_, show h.get? a = some _ from x⟩
  | met f y => exact ⟨_, show h.get? a = some _ from x⟩
  | ext φ => obtain ⟨_, ⟨_, e⟩, _⟩ := x; exact ⟨_, e⟩

/-- what is set aside stands as it stood, the rest as it was left -/
theorem join_hok {P : Program} {w : World} {H H' : Hp} {h B : Heap} {A : List Addr} (c : AOk H A) (n : ∀ a ∈ A, H' a = none) (x : HOk P w H h) (x' : HOk P w H' B) (k : ∀ a ∈ A, ∀ o, h.get? a = some o → B.get? a = some o) (tp : ∀ b xs, sub H A b = some (.tup xs) → H' b = some (.tup xs)) : HOk P w (join H A H') B := fun b o e => by
  by_cases hb : b ∈ A
  · rw [join_in hb] at e
    have q := x b o e
    rcases c b hb with ⟨xs, z⟩ | ⟨kvs, z⟩ | ⟨kvs, z⟩ | ⟨C, dx, fs, z, hx⟩ | ⟨y, z, hx⟩
    · rw [e] at z; cases z
      obtain ⟨z1, its, m, r, g⟩ := q
      exact ⟨z1, its, m, r, k b hb _ g⟩
    · rw [e] at z; cases z
      obtain ⟨z1, y, xs, r, ob, es, ep, g, cc⟩ := q
      refine ⟨z1, y, xs, L2.Paired.mapP r fun p q t => ⟨t.1, ?_, t.2.2⟩, ob, es, ep, k b hb _ g, cc⟩
      have nA := c.tup t.2.1
      rw [join_out nA]
      exact tp _ _ (by rw [sub_out nA]; exact t.2.1)
    · rw [e] at z; cases z
      obtain ⟨z1, y, vs, r, ob, es, ep, g, cc⟩ := q
      exact ⟨z1, y, vs, r, ob, es, ep, k b hb _ g, cc⟩
    · rw [e] at z; cases z
      obtain ⟨d, z1, ne, g, mA, ⟨od, es, ep, g2, cc⟩, r⟩ := q
      refine ⟨by rw [join_in hx.1]; exact d, z1, ne, k b hb _ g, mA, ⟨od, es, ep, k dx hx.1 _ g2, cc⟩, r⟩
    · rw [e] at z; cases z
      obtain ⟨ob, g⟩ := q
      exact ⟨ob, k b hb _ g⟩
  · rw [join_out hb] at e
    exact (x' b o e).stay (fun _ _ _ q => q) (fun d q => by rw [join_out (out_of_none n q)]; exact q) (fun d xs q => by rw [join_out (out_of_none n q)]; exact q)

/-- a promise beside what is set aside -/
def framed (sp : Sp) : Sp := fun vs H Q E => ∃ A, AOk H A ∧ sp vs (sub H A) (fun v H' => (∀ a ∈ A, H' a = none) → Q v (join H A H')) (fun cls d H' => (∀ a ∈ A, H' a = none) → E cls d (join H A H'))
theorem fnok_framed {P : Program} {w : World} {K : PySem.W.Frag} {mg : Str → Option Value} {base : Heap} {k : Nat} {f : Addr} {fd : FuncData} {ps : List Str} {sp : Sp} (F : FnOk P w K mg base (L2.CX P w) k f fd ps sp) :
    FnOk P w K mg base (L2.CX P w) k f fd ps (framed sp) where
  len := fun vs H Q E ⟨A, _, h⟩ => F.len vs _ _ _ h
  run := fun Ar outer s H args us vs Q E hr he hb hv hs => by
    obtain ⟨A, c, h⟩ := hs
    have ok2 : HOk P w (sub H A) s.heap := c.hok he.hok
    have at_ : ∀ a ∈ A, ∃ o, s.heap.get? a = some o := fun a ha => let ⟨o, e⟩ := c.some ha; obj_at (he.hok a o e)
    have nfr : ∀ a ∈ A, a ∉ frs outer := fun a ha z => by
      obtain ⟨o, e⟩ := c.some ha
      rw [he.frf a z] at e; cases e
    have he2 : Env0 P w K mg base Ar outer s (sub H A) := ⟨he.frames, he.mod, fun b o e => ⟨(he.bs b o e).1, (by
      by_cases z : b ∈ A
      · exact sub_in z
      · rw [sub_out z]; exact (he.bs b o e).2)⟩, he.bsz, he.funs, fun b z => (by
      by_cases y : b ∈ A
      · exact sub_in y
      · rw [sub_out y]; exact he.frf b z), ok2, he.bare⟩
    refine codeAny_mono (F.run Ar outer s (sub H A) args us vs _ _ hr he2 hb hv h) fun r s' q => ?_
    cases r with
    | ok fl =>
      cases fl with
      | ret u =>
        obtain ⟨v, H', os, ag, un, hok, rv, q⟩ := q
        have n : ∀ a ∈ A, H' a = none := fun a ha => let ⟨o, e⟩ := at_ a ha; un.free a o e (sub_in ha) (by simp)
        have kA : ∀ a ∈ A, ∀ o, s.heap.get? a = some o → s'.heap.get? a = some o := fun a ha o e => un.keep a o e (sub_in ha) (nfr a ha) (by simp)
        have nA : ∀ b, H b = none → b ∉ A := fun b e z => by
          obtain ⟨o, e2⟩ := c.some z
          rw [e] at e2; cases e2
        have sn : ∀ b, H b = none → sub H A b = none := fun b e => by rw [sub_out (nA b e)]; exact e
        refine ⟨v, join H A H', os, ag, ⟨fun b o e z => un.keep b o e (sn b z), fun b o e z => un.slot b o e (sn b z), fun b o e z y => ?_, un.there, fun b xs z => ?_, fun b o u z => ?_, fun b ps z => ?_⟩, join_hok c n he.hok hok kA un.tups, rv, q n⟩
        · rw [join_out (nA b z)]
          exact un.free b o e (sn b z) y
        · have y := c.tup z
          rw [join_out y]
          exact un.tups b xs (by rw [sub_out y]; exact z)
        · have y := c.frz z
          rw [join_out y]
          exact un.frzs b o u (by rw [sub_out y]; exact z)
        · have y := c.tbl z
          rw [join_out y]
          exact un.tbls b ps (by rw [sub_out y]; exact z)
      | next => exact q
      | brk => exact q
      | cont => exact q
    | error e =>
      obtain ⟨a, B, H', cls, d, rfl, fl, hok, ub, na, os, ag, q⟩ := q
      have n : ∀ a ∈ A, H' a = none := fun a ha => let ⟨o, e⟩ := at_ a ha; ub.free a o e (sub_in ha)
      have kA : ∀ a ∈ A, ∀ o, s.heap.get? a = some o → B.get? a = some o := fun a ha o e => ub.keep a o e (sub_in ha) (nfr a ha)
      have nA : ∀ b, H b = none → b ∉ A := fun b e z => by
        obtain ⟨o, e2⟩ := c.some z
        rw [e] at e2; cases e2
      have sn : ∀ b, H b = none → sub H A b = none := fun b e => by rw [sub_out (nA b e)]; exact e
      have naA : a ∉ A := fun z => by
        obtain ⟨o, e⟩ := at_ a z
        have e2 := kA a z o e
        rw [fl.2.1] at e2; cases e2
      refine ⟨a, B, join H A H', cls, d, rfl, fl, join_hok c n he.hok hok kA ub.tups, ⟨fun b o e z => ub.keep b o e (sn b z), ub.slot, fun b o e z => ?_, ub.there, fun b xs z => ?_, fun b o u z => ?_, fun b ps z => ?_⟩, by rw [join_out naA]; exact na, os, ag, q n⟩
      · rw [join_out (nA b z)]
        exact ub.free b o e (sn b z)
      · have y := c.tup z
        rw [join_out y]
        exact ub.tups b xs (by rw [sub_out y]; exact z)
      · have y := c.frz z
        rw [join_out y]
        exact ub.frzs b o u (by rw [sub_out y]; exact z)
      · have y := c.tbl z
        rw [join_out y]
        exact ub.tbls b ps (by rw [sub_out y]; exact z)
end PD
end

section
set_option Elab.async false
set_option linter.all false
set_option maxRecDepth 100000
/-! PD4: frames of pure data, what an expression's evaluation promises. -/
namespace PD
open PySem PySem.Spec PyProof.Rows L2

/-! ### what the machine must do, by itself -/
def wE (X : Cx) (e : Expr) : TE := fun σ H Q => ∀ pins s, Inv X pins σ H s → wpAny (model X.prog X.w) X.A (eval e X.env) (EP X pins σ Q) X.xe s
def wT (X : Cx) (e : Expr) : TT := fun σ H Q => ∀ pins s, Inv X pins σ H s → wpAny (model X.prog X.w) X.A (isTrue e X.env (eval e X.env)) (TP X pins σ Q) X.xe s
def wA (X : Cx) (es : List Expr) : TA := fun σ H Q => ∀ (pos : Pos) pins s, Inv X pins σ H s → wpAny (model X.prog X.w) X.A (spliced (backTo pos (starEach es X.env))) (AP X pins σ Q) X.xe s
def wI (X : Cx) (tg iter : Expr) : TI := fun σ H R => ∀ pins s, Inv X pins σ H s →
    wpAny (model X.prog X.w) X.A (eval iter X.env) (fun v s1 => wpAny (model X.prog X.w) X.A (pyIter v) (PIE X pins σ tg R) X.xe s1) X.xe s
def wG (X : Cx) (tg : Expr) : TG := fun v σ H Q => ∀ pins s u, Inv X pins σ H s → RelV v u → wpAny (model X.prog X.w) X.A (assign tg X.env u) (fun _ s' => ∃ σ' H', Inv X pins σ' H' s' ∧ Q σ' H') X.xe s
def wS (X : Cx) (st : Stmt) : TS := fun D σ H => ∀ pins s, Inv X pins σ H s → wpAny (model X.prog X.w) X.A (exec st X.env) (SP X pins D) X.xe s
def wSs (X : Cx) (st : List Stmt) : TS := fun D σ H => ∀ pins s, Inv X pins σ H s → wpAny (model X.prog X.w) X.A (execs st X.env) (SP X pins D) X.xe s
section
variable {X : Cx}
theorem pe_w {e : Expr} : PE X e (wE X e) := ⟨fun pins s _ _ _ I h => h pins s I⟩
theorem pt_w {e : Expr} : PT X e (wT X e) := ⟨fun pins s _ _ _ I h => h pins s I⟩
theorem pa_w {es : List Expr} : PA X es (wA X es) := ⟨fun pos pins s _ _ _ I h => h pos pins s I⟩
theorem pi_w {tg iter : Expr} : PI X tg iter (wI X tg iter) := ⟨fun pins s _ _ _ I h => h pins s I⟩
theorem pg_w {tg : Expr} : PG X tg (wG X tg) := ⟨fun pins s _ _ _ _ _ I r h => h pins s _ I r⟩
theorem ps_w {st : Stmt} : PS X st (wS X st) := ⟨fun pins s _ _ _ I h => h pins s I⟩
theorem pss_w {st : List Stmt} : PSs X st (wSs X st) := ⟨fun pins s _ _ _ I h => h pins s I⟩
variable {σ : L2.St} {H : Hp}
theorem toE {e : Expr} {t : TE} (p : PE X e t) {Q : VK} (h : t σ H Q) : wE X e σ H Q := fun pins s I => p.run pins s σ H Q I h
theorem toT {e : Expr} {t : TT} (p : PT X e t) {Q : Bool → Hp → Prop} (h : t σ H Q) : wT X e σ H Q := fun pins s I => p.run pins s σ H Q I h
theorem toA {es : List Expr} {t : TA} (p : PA X es t) {Q : List V → Hp → Prop} (h : t σ H Q) : wA X es σ H Q := fun pos pins s I => p.run pos pins s σ H Q I h
theorem toI {tg it : Expr} {t : TI} (p : PI X tg it t) {R : It → Hp → Prop} (h : t σ H R) : wI X tg it σ H R := fun pins s I => p.run pins s σ H R I h
theorem toG {tg : Expr} {t : TG} (p : PG X tg t) {v : V} {Q : L2.St → Hp → Prop} (h : t v σ H Q) : wG X tg v σ H Q := fun pins s u I r => p.run pins s σ H v u Q I r h
theorem toS {st : Stmt} {t : TS} (p : PS X st t) {D : Ends} (h : t D σ H) : wS X st D σ H := fun pins s I => p.run pins s σ H D I h
theorem toSs {st : List Stmt} {t : TS} (p : PSs X st t) {D : Ends} (h : t D σ H) : wSs X st D σ H := fun pins s I => p.run pins s σ H D I h
end

/-! ### frames -/
/-- slots that hold objects of their own: own, at the addresses ad; A: what is set aside -/
structure Frm (N : Info) (K : PySem.W.Frag) (own : List Nat) (env : Env) (σ : L2.St) (H : Hp) (A : List Addr) (ad : Nat → Addr) : Prop where
  len : σ.length = env.length
  aok : AOk H A
  inA : ∀ i ∈ own, ad i ∈ A
  inj : ∀ i ∈ own, ∀ j ∈ own, ad i = ad j → i = j
  val : ∀ i d, env[i]? = some d → d ≠ .un → i ∉ own → ∃ v, σ[i]? = some (some v) ∧ Rp N K (sub H A) v d
  ownv : ∀ i ∈ own, ∃ d, env[i]? = some d ∧ σ[i]? = some (some (.ref (ad i))) ∧ Own N K H A (ad i) d
section
variable {N : Info} {K : PySem.W.Frag} {own : List Nat} {env : Env} {σ : L2.St} {H H' : Hp} {A : List Addr} {ad : Nat → Addr}
theorem Frm.mono (F : Frm N K own env σ H A ad) (e : Same H H') : Frm N K own env σ H' A ad where
  len := F.len
  aok := F.aok.mono e
  inA := F.inA
  inj := F.inj
  val := fun i d h n m => let ⟨v, q, r⟩ := F.val i d h n m; ⟨v, q, r.mono (sub_mono e)⟩
  ownv := fun i h => let ⟨d, q, r, o⟩ := F.ownv i h; ⟨d, q, r, o.mono e⟩

/-- what may hold something that is set aside; the same of the items -/
def leak (own : List Nat) : RE → Bool
  | .var i => own.contains i
  | .bin _ a b => leak own a || leak own b
  | .and _ b => leak own b
  | .or _ b => leak own b
  | .ife _ a b => leak own a || leak own b
  | .cons a r => leak own a || leak own r
  | .tup es => leak own es
  | .lst es => leak own es
  | .item a _ => match a with
    | .var _ => false
    | .enum a => (match a with
      | .var _ => false
      | a => leak own a)
    | a => leak own a
  | .cut a _ _ => match a with
    | .var _ => false
    | .enum a => (match a with
      | .var _ => false
      | a => leak own a)
    | a => leak own a
  | .rev a => match a with
    | .var _ => false
    | .enum a => (match a with
      | .var _ => false
      | a => leak own a)
    | a => leak own a
  | .attr a _ => match a with
    | .var _ => false
    | .enum a => (match a with
      | .var _ => false
      | a => leak own a)
    | a => leak own a
  | .call _ es => leak own es
  | .new _ es => leak own es
  | .ceq _ a b => leak own a || leak own b
  | .dlen _ a => leak own a
  | .meth o _ es => leak own o || leak own es
  | .blt b es => match b with
    | .len => false
    | .abs => false
    | .int => false
    | .sum => false
    | _ => match es with
      | .cons (.var _) .nil => false
      | es => leak own es
  | .enum a => leak own a
  | .curf _ => true
  | .star a r => (match a with
    | .var _ => false
    | .enum a => (match a with
      | .var _ => false
      | a => leak own a)
    | a => leak own a) || leak own r
  | _ => false
def leakI (own : List Nat) : RE → Bool
  | .var _ => false
  | .enum a => (match a with
    | .var _ => false
    | a => leak own a)
  | a => leak own a
/-- a list that was not there before, alone -/
def NewL (N : Info) (K : PySem.W.Frag) (H0 H : Hp) (v : V) (d : D) : Prop := ∀ xs, d = .lst xs → ∃ a vs, v = .ref a ∧ H0 a = none ∧ H a = some (.lst vs) ∧ Rps N K (sub H [a]) vs xs
theorem NewL.back {N : Info} {K : PySem.W.Frag} {H0 H1 H : Hp} {v : V} {d : D} (s : Same H0 H1) (h : NewL N K H1 H v d) : NewL N K H0 H v d := fun xs e => let ⟨a, vs, q1, q2, q3, q4⟩ := h xs e; ⟨a, vs, q1, Same.none s q2, q3, q4⟩
def fresh (N : Info) : RE → Bool
  | .call f _ => N.nw f
  | .meth _ m _ => N.nwm m
  | .lst _ => true
  | .comp _ _ _ _ => true
  | .blt .list _ => true
  | .blt .sorted _ => true
  | .bin .Add _ _ => true
  | .bin .Mult _ _ => true
  | .rev _ => true
  | _ => false

/-- what a value may not hang on: nothing where it leaks, else what is set aside -/
def bA (l : Bool) (A : List Addr) : List Addr := if l then [] else A
structure PostE (N : Info) (K : PySem.W.Frag) (H : Hp) (A : List Addr) (own : List Nat) (r : RE) (d : D) (v : V) (H' : Hp) : Prop where
  same : Same H H'
  rp : Rp N K (sub H' (bA (leak own r) A)) v d
  it : leakI own r = false → Itc N K H' A v d
  fr : fresh N r = true → leak own r = false → ∀ xs, d = .lst xs → ∃ a, v = .ref a ∧ H a = none ∧ Own N K H' (a :: A) a d

/-- an exception's own dict holds its fields -/
def XRep (N : Info) (K : PySem.W.Frag) (H : Hp) (x : Exn) (dx : Option Addr) : Prop := match x.vs with
  | [] => N.xf x.c = [] ∧ dx = none
  | _ => ∃ d fs, dx = some d ∧ H d = some (.xd fs) ∧ (N.xf x.c).length = x.vs.length ∧ ∀ (k : Nat) (f : Str) (y : D), (N.xf x.c)[k]? = some f → x.vs[k]? = some y → ∃ v, fs.lookup f = some v ∧ Rp N K H v y
theorem XRep.mono {x : Exn} {dx : Option Addr} (e : Same H H') (h : XRep N K H x dx) : XRep N K H' x dx := by
  unfold XRep at h ⊢
  split at h
  · exact h
  · obtain ⟨d, fs, q, r, l, z⟩ := h
    exact ⟨d, fs, q, e _ _ r, l, fun k f y h1 h2 => let ⟨v, a, b⟩ := z k f y h1 h2; ⟨v, a, b.mono e⟩⟩
structure PostX (N : Info) (K : PySem.W.Frag) (H : Hp) (A : List Addr) (x : Exn) (cls : Value) (dx : Option Addr) (H' : Hp) : Prop where
  same : Same H H'
  cls : cls = .ref (He.ga K (N.xn x.c))
  rep : XRep N K H' x dx
theorem PostX.back {x : Exn} {cls : Value} {dx : Option Addr} {H1 : Hp} (e : Same H H1) (h : PostX N K H1 A x cls dx H') : PostX N K H A x cls dx H' := ⟨e.trans h.same, h.cls, h.rep⟩

/-- the wish that meets what evaluation says -/
def WPE (N : Info) (K : PySem.W.Frag) (W : WX) (own : List Nat) (r : RE) (σ : L2.St) (H : Hp) (A : List Addr) (res : R D) (Q : VK) : Prop := match res with
  | .ok d => ∀ v H', PostE N K H A own r d v H' → Q v H'
  | .ex x => ∀ cls dx H', PostX N K H A x cls dx H' → W cls dx σ H'
  | .no => False
def WPA (N : Info) (K : PySem.W.Frag) (W : WX) (own : List Nat) (r : RE) (σ : L2.St) (H : Hp) (A : List Addr) (res : R D) (Q : List V → Hp → Prop) : Prop := match res with
  | .ok (.tup ds) => ∀ vs H', Same H H' → Rps N K (sub H' (bA (leak own r) A)) vs ds → Q vs H'
  | .ok _ => False
  | .ex x => ∀ cls dx H', PostX N K H A x cls dx H' → W cls dx σ H'
  | .no => False
def WPT (N : Info) (K : PySem.W.Frag) (W : WX) (σ : L2.St) (H : Hp) (A : List Addr) (res : R D) (Q : Bool → Hp → Prop) : Prop := match res with
  | .ok d => match truth d with
    | .ok t => ∀ H', Same H H' → Q t H'
    | _ => False
  | .ex x => ∀ cls dx H', PostX N K H A x cls dx H' → W cls dx σ H'
  | .no => False
/-- an iterator that yields these, wherever the heap has only grown; A': what is set aside then -/
def Yields (N : Info) (K : PySem.W.Frag) (J : It) (H : Hp) (A : List Addr) (ds : List D) : Prop :=
  ∀ H' A', Same H H' → (∀ a ∈ A', a ∈ A ∨ H a = none) → AOk H' A' → ∀ i, (∀ d, ds[i]? = some d → J.go i H' ∧ ∀ x H2, J.yld i H' x H2 → Same H' H2 ∧ Rp N K (sub H2 A') x d) ∧ (ds.length ≤ i → J.stop i H')
/-- .. wherever what is not set aside has only grown -/
def YieldsA (N : Info) (K : PySem.W.Frag) (J : It) (H : Hp) (A : List Addr) (ds : List D) : Prop :=
  ∀ H' A', Same (sub H A) (sub H' A) → (∀ a ∈ A', a ∈ A ∨ H a = none) → AOk H' A' → ∀ i, (∀ d, ds[i]? = some d → J.go i H' ∧ ∀ x H2, J.yld i H' x H2 → Same H' H2 ∧ Rp N K (sub H2 A') x d) ∧ (ds.length ≤ i → J.stop i H')
theorem sub_to {A A' : List Addr} (s : Same H H') (c : ∀ a ∈ A', a ∈ A ∨ H a = none) : Same (sub H A) (sub H' A') := fun b o h => by
  obtain ⟨n, h⟩ := sub_some h
  rw [sub_out fun z => (c b z).elim n fun e => by rw [e] at h; cases h]
  exact s b o h
theorem sub_toA {A A' : List Addr} (s : Same (sub H A) (sub H' A)) (c : ∀ a ∈ A', a ∈ A ∨ H a = none) : Same (sub H A) (sub H' A') := fun b o h => by
  have h2 := s b o h
  obtain ⟨n, h⟩ := sub_some h
  obtain ⟨_, h2⟩ := sub_some h2
  rw [sub_out fun z => (c b z).elim n fun e => by rw [e] at h; cases h]
  exact h2
def WPI (N : Info) (K : PySem.W.Frag) (W : WX) (own : List Nat) (r : RE) (σ : L2.St) (H : Hp) (A : List Addr) (res : R D) (Rr : It → Hp → Prop) : Prop := match res with
  | .ok d => match walkOf d with
    | .ok xs => ∀ J H', Same H H' → (leakI own r = false → Yields N K J H' A xs) → (leak own r = false → YieldsA N K J H' A xs) → Rr J H'
    | _ => False
  | .ex x => ∀ cls dx H', PostX N K H A x cls dx H' → W cls dx σ H'
  | .no => False
end
end PD
end

section
set_option Elab.async false
set_option linter.all false
set_option maxRecDepth 100000
/-! PD5: which text a resolved expression stands for; side conditions; the site of a body. -/
namespace PD
open PySem PySem.Spec PyProof.Rows L2

/-! ### shapes -/
def ord : Expr → Bool
  | .Name .. => true | .Constant .. => true | .BinOp .. => true | .UnaryOp .. => true | .Compare .. => true | .BoolOp .. => true
  | .IfExp .. => true | .Tuple .. => true | .List .. => true | .Subscript .. => true | .Attribute .. => true | .Call .. => true
  | .ListComp .. => true
  | _ => false
theorem ord_star {e : Expr} (h : ord e = true) (es : List Expr) (env : PySem.Env) : starEach (e :: es) env = (false, eval e env) :: starEach es env := by
  cases e <;> first | rfl | cases h
theorem ord_fold {e : Expr} (h : ord e = true) (env : PySem.Env) (x : Value) : foldedSetIterable e env x = pure x := by
  cases e <;> first | rfl | cases h
theorem ord_ix {e : Expr} (h : ord e = true) : PlainIx e := by
  intro o i
  cases e <;> first | rfl | cases h
theorem ord_mark {e : Expr} (h : ord e = true) (op : CmpOp) : behindInMarks op e = false := by
  cases e <;> first | rfl | cases h
/-- the text of an attribute's object: not super() -/
def noSuper : Expr → Bool
  | .Call (.Name x _) [] [] _ => x != "super"
  | _ => true
theorem noSuper_base {e : Expr} (h : noSuper e = true) (f : Str) (env : PySem.Env) (w : Sem Value) : attributeBase e f env w = w := by
  unfold noSuper at h
  split at h
  · unfold attributeBase
    simp only [h, Bool.true_or, if_true]
  · rename_i hn
    unfold attributeBase
    split
    · rename_i id p pos
      exact absurd rfl (hn id p pos)
    · rfl
/-- a test is the value's truth -/
def plainT : Expr → Bool
  | .UnaryOp .Not _ _ => false
  | .BoolOp .. => false
  | .IfExp .. => false
  | .Compare .. => false
  | _ => true
theorem plainT_ok {e : Expr} (h : plainT e = true) (env : PySem.Env) (whole : Sem Value) : isTrue e env whole = (do let v ← whole; standAt e.pos; holding [v] (truthy v)) := by
  cases e with
  | UnaryOp op _ _ => cases op <;> first | rfl | cases h
  | BoolOp _ _ _ => cases h
  | IfExp _ _ _ _ => cases h
  | Compare _ _ _ _ => cases h
  | _ => rfl

def vis (sc : Scope) (x : Str) : Bool := match sc.names.lookup x with
  | some .local => true
  | some .cell => true
  | some .free => true
  | _ => false
theorem vis_ok {sc : Scope} {x : Str} (h : vis sc x = true) : Vis sc x := by
  unfold vis at h
  unfold Vis
  split at h
  · exact .inl (by assumption)
  · exact .inr (.inl (by assumption))
  · exact .inr (.inr (by assumption))
  · cases h
def glb (sc : Scope) (x : Str) : Bool := match sc.names.lookup x with
  | some .globalImplicit => true
  | _ => false
theorem glb_ok {sc : Scope} {x : Str} (h : glb sc x = true) : sc.names.lookup x = some .globalImplicit := by
  unfold glb at h
  split at h
  · assumption
  · cases h
def loc (sc : Scope) (x : Str) : Bool := match sc.names.lookup x with
  | some .local => true
  | some .cell => true
  | _ => false
theorem loc_ok {sc : Scope} {x : Str} (h : loc sc x = true) : L2.Loc sc x := by
  unfold loc at h
  unfold L2.Loc
  split at h
  · exact .inl (by assumption)
  · exact .inr (by assumption)
  · cases h
def nameOk (x : Str) : Bool := !(x == ("__debug__" : Str)) && !(x == ("__classdict__" : Str))

def Blt.nm : Blt → Str
  | .len => "len" | .abs => "abs" | .int => "int" | .tuple => "tuple" | .list => "list" | .sum => "sum" | .max => "max" | .min => "min"
  | .sorted => "sorted" | .all => "all" | .any => "any"
/-- a built-in that is served where an exception is handled too -/
def Blt.cool : Blt → Bool
  | .sum => false | .max => false | .min => false | .all => false | .any => false
  | _ => true

/-- a comprehension's own names, with their places -/
def ownOf (NN : List Str) (scope : Scope) : List (Str × Nat) := scope.names.filterMap fun y => match y.2 with
  | .local => (NN.idxOf? y.1).map fun i => (y.1, i)
  | .cell => (NN.idxOf? y.1).map fun i => (y.1, i)
  | _ => none
/-- the scope of a comprehension's block -/
def blkSc (sc scope : Scope) : Scope := { scope with names := scope.names.map fun (n, k) => if (k == .free && sc.kind == .function && sc.names.lookup n == some .cell) then (n, .cell) else (n, k) }

def cellB (scope : Scope) (x : Str) : Bool := match scope.names.lookup x with
  | some .cell => true
  | _ => false
/-- enumerate's target is a tuple -/
def walkT : RE → Expr → Bool
  | .enum _, .Tuple .. => true
  | .enum _, _ => false
  | _, _ => true
/-- a target: the block's or the def's own names, no slot that holds an object of its own -/
def chkT (sc : Scope) (NN : List Str) (own : List Nat) (fnb : Str → Bool) : RT → Sum Expr (List Expr) → Bool
  | .nm i, .inl (.Name x _) => decide (NN[i]? = some x) && (match sc.names.lookup x with
    | some .local => true
    | some .cell => fnb x
    | _ => false) && !own.contains i
  | .nil, .inl (.Tuple [] _ _) => true
  | .cons a r, .inl (.Tuple (e :: es) _ _) => chkT sc NN own fnb a (.inl e) && chkT sc NN own fnb r (.inr es) && plainTs (e :: es)
  | .nil, .inr [] => true
  | .cons a r, .inr (e :: es) => chkT sc NN own fnb a (.inl e) && chkT sc NN own fnb r (.inr es)
  | _, _ => false
where plainTs : List Expr → Bool
  | [] => true
  | e :: es => (match e with
    | .Starred .. => false
    | _ => true) && plainTs es

/-- a type's name, an exception class's name; the text that names it -/
def tyNm (N : Info) : Nat → Str
  | 0 => "int" | 1 => "bool" | 2 => "tuple" | 3 => "list" | 4 => "str"
  | 5 => "" | 6 => "" | 7 => "" | 8 => "" | 9 => ""
  | n + 10 => N.cn n
def tyT (N : Info) (t : Nat) (sc : Scope) : Expr → Bool
  | .Name y _ => decide (tyNm N t = y) && (glb sc y && (nameOk y && ((decide (t < 5) && decide (y ∈ N.frees)) || (decide (10 ≤ t) && decide (t - 10 < N.nc)))))
  | _ => false
def xNm (N : Info) (t : Nat) : Str := if t = 0 then "ValueError" else N.xn t
def xT (N : Info) (t : Nat) (sc : Scope) : Expr → Bool
  | .Name y _ => decide (xNm N t = y) && (glb sc y && (nameOk y && (decide (t ≠ 0) || decide (y ∈ N.frees))))
  | _ => false
def xTl (N : Info) (sc : Scope) : List Nat → List Expr → Bool
  | [], [] => true
  | t :: ts, e :: es => xT N t sc e && xTl N sc ts es
  | _, _ => false
def xTs (N : Info) (sc : Scope) (ts : List Nat) : Expr → Bool
  | .Name y p => xTl N sc ts [.Name y p]
  | .Tuple es _ _ => decide (ts ≠ [] ∧ ts.length ≤ maxLen) && xTl N sc ts es
  | _ => false

/-- no star among the arguments -/
def noSt : RE → Bool
  | .star _ _ => false
  | .cons _ r => noSt r
  | _ => true
/-- what a comprehension is to put -/
inductive CKd where
  | lst (e : Expr) | dic (k v : Expr)
def CKd.ex : CKd → List Comprehension → Scope → Pos → Expr
  | .lst e, g, s, p => .ListComp e g s p
  | .dic k v, g, s, p => .DictComp k v g s p
section
variable (N : Info) (NN : List Str) (own : List Nat) (cm : Bool) (ci : Nat)
mutual
/-- the text of an expression; wk: where it is walked -/
def chkE : RE → Scope → Bool → Expr → Bool
  | .var i, sc, _, e => match e with
    | .Name x _ => decide (NN[i]? = some x) && (vis sc x && nameOk x)
    | _ => false
  | .int i, _, _, e => match e with
    | .Constant (.int j) _ _ => decide (i = j)
    | _ => false
  | .str x, _, _, e => match e with
    | .Constant (.str y) _ _ => decide (x = y)
    | _ => false
  | .bl b, _, _, e => match e with
    | .Constant (.bool c) _ _ => b == c
    | _ => false
  | .non, _, _, e => match e with
    | .Constant .none _ _ => true
    | _ => false
  | .gint x i, sc, _, e => match e with
    | .Name y _ => decide (x = y) && (decide ((x, i) ∈ N.gints) && (glb sc x && nameOk x))
    | _ => false
  | .bin op a b, sc, _, e => match e with
    | .BinOp ea op' eb _ => decide (op = op') && (chkE a sc false ea && chkE b sc false eb)
    | _ => false
  | .neg a, sc, _, e => match e with
    | .UnaryOp .USub ea _ => chkE a sc false ea
    | _ => false
  | .cmp op a b, sc, _, e => match e with
    | .Compare ea [op'] [eb] _ => decide (op = op') && (ord eb && (chkE a sc false ea && chkE b sc false eb))
    | _ => false
  | .and a b, sc, _, e => match e with
    | .BoolOp .And [ea, eb] _ => chkE a sc false ea && chkE b sc false eb
    | .BoolOp .And (ea :: eb :: ec :: es) p => chkE a sc false ea && chkE b sc false (.BoolOp .And (eb :: ec :: es) p)
    | _ => false
  | .or a b, sc, _, e => match e with
    | .BoolOp .Or [ea, eb] _ => chkE a sc false ea && chkE b sc false eb
    | .BoolOp .Or (ea :: eb :: ec :: es) p => chkE a sc false ea && chkE b sc false (.BoolOp .Or (eb :: ec :: es) p)
    | _ => false
  | .not a, sc, _, e => match e with
    | .UnaryOp .Not ea _ => chkE a sc false ea
    | _ => false
  | .ife c a b, sc, _, e => match e with
    | .IfExp ec ea eb _ => chkE c sc false ec && (chkE a sc false ea && chkE b sc false eb)
    | _ => false
  | .tup es, sc, _, e => match e with
    | .Tuple ees _ _ => chkA es sc ees
    | _ => false
  | .lst es, sc, _, e => match e with
    | .List ees _ => chkA es sc ees
    | _ => false
  | .item a i, sc, _, e => match e with
    | .Subscript ea ei _ => ord ei && (chkE a sc false ea && chkE i sc false ei)
    | _ => false
  | .cut a lo hi, sc, _, e => match e with
    | .Subscript ea (.Slice l h none _) _ => chkE a sc false ea && (chkP lo sc l && chkP hi sc h)
    | _ => false
  | .attr a f, sc, _, e => match e with
    | .Attribute ea x _ => decide (N.fnm f = x) && (noSuper ea && chkE a sc false ea)
    | _ => false
  | .con a f, sc, _, e => match e with
    | .Attribute ea x _ => decide (N.fnm f = x) && (noSuper ea && chkE a sc false ea)
    | _ => false
  | .call f es, sc, _, e => match e with
    | .Call (.Name x _) (e1 :: ees) [] _ => cm && (decide (f < N.nf) && (decide (N.fat f = (x, none)) && (!N.ini f && (glb sc x && (nameOk x && (noSt es && chkA es sc (e1 :: ees)))))))
    | _ => false
  | .new c es, sc, _, e => match e with
    | .Call (.Name x _) (e1 :: ees) [] _ => cm && (decide (c < N.nc) && (decide (N.cn c = x) && (glb sc x && (nameOk x && (noSt es && chkA es sc (e1 :: ees))))))
    | _ => false
  | .meth o m es, sc, _, e => match e with
    | .Call (.Attribute ea x ap) (e1 :: ees) [] p => cm && (decide (N.mname m = x) && (noSuper ea && (decide (ap.endLine = p.line) && (decide (ees.length < 28) && (chkE o sc false ea && (noSt es && chkA es sc (e1 :: ees)))))))
    | .Call (.Attribute ea x ap) [] [] p => cm && (decide (N.mname m = x) && (noSuper ea && (decide (ap.endLine = p.line) && (chkE o sc false ea && chkA es sc []))))
    | _ => false
  | .blt b es, sc, _, e => match e with
    | .Call (.Name x _) (e1 :: ees) [] _ => (cm || b.cool) && (decide (b.nm = x) && (decide (x ∈ N.frees) && (glb sc x && (noSt es && chkA es sc (e1 :: ees)))))
    | _ => false
  | .isi a t, sc, _, e => match e with
    | .Call (.Name x _) [ea, ec] [] _ => decide (x = "isinstance") && (decide (x ∈ N.frees) && (glb sc x && (ord ea && (chkE a sc false ea && tyT N t sc ec))))
    | _ => false
  | .curf k, sc, _, e => match e with
    | .Attribute (.Name x _) f _ => decide (NN[ci]? = some x) && (vis sc x && (nameOk x && decide (N.fnm k = f)))
    | _ => false
  | .curis ts, sc, _, e => match e with
    | .Call (.Name x _) [.Name y _, ec] [] _ => decide (x = "isinstance") && (decide (x ∈ N.frees) && (glb sc x && (decide (NN[ci]? = some y) && (vis sc y && (nameOk y && xTs N sc ts ec)))))
    | _ => false
  | .tupR a b, sc, _, e => match e with
    | .Call (.Name y _) [.Call (.Name x _) [ea, eb] [] _] [] _ => cm && (decide (y = "tuple") && (decide (y ∈ N.frees) && (glb sc y && (decide (x = "range") && (decide (x ∈ N.frees) && (glb sc x && (ord ea && (ord eb && (chkE a sc false ea && chkE b sc false eb)))))))))
    | _ => false
  | .ceq m a b, sc, _, e => match e with
    | .Compare ea [.Eq] [eb] _ => cm && (decide (N.mname m = "__eq__") && (ord eb && (chkE a sc false ea && chkE b sc false eb)))
    | _ => false
  | .dlen m a, sc, _, e => match e with
    | .Call (.Name x _) [ea] [] _ => cm && (decide (x = "len") && (decide (x ∈ N.frees) && (glb sc x && (decide (N.mname m = "__len__") && (ord ea && chkE a sc false ea)))))
    | _ => false
  | .rev a, sc, _, e => match e with
    | .Subscript ea (.Slice none none (some (.UnaryOp .USub (.Constant (.int 1) _ _) _)) _) _ => chkE a sc false ea
    | _ => false
  | .rng1 a, sc, wk, e => match e with
    | .Call (.Name x _) [ea] [] _ => wk && (cm && (decide (x = "range") && (decide (x ∈ N.frees) && (glb sc x && (ord ea && chkE a sc false ea)))))
    | _ => false
  | .rng2 a b, sc, wk, e => match e with
    | .Call (.Name x _) [ea, eb] [] _ => wk && (cm && (decide (x = "range") && (decide (x ∈ N.frees) && (glb sc x && (ord ea && (ord eb && (chkE a sc false ea && chkE b sc false eb)))))))
    | _ => false
  | .enum a, sc, wk, e => match e with
    | .Call (.Name x _) [ea] [] _ => wk && (cm && (decide (x = "enumerate") && (decide (x ∈ N.frees) && (glb sc x && (ord ea && chkE a sc false ea)))))
    | _ => false
  | .comp cown t it b, sc, _, e => match e with
    | .ListComp elt (⟨tg, iter, ifs, ia⟩ :: gens) scope _ => cm && (decide (ia = 0) && ((cown.all fun i => !own.contains i) && (ord iter && (!leakI own it && (chkE it sc true iter && (walkT it tg &&
        (chkT (blkSc sc scope) NN own (cellB scope) t (.inl tg) && (blkC NN sc scope (ownOf NN scope) && (decide (cown = (ownOf NN scope).map (·.2)) && chkC b (cellB scope) (blkSc sc scope) ifs gens (.lst elt))))))))))
    | _ => false
  | .dct4 k1 v1 k2 v2 k3 v3 k4 v4, sc, _, e => match e with
    | .Dict [some a1, some a2, some a3, some a4] [b1, b2, b3, b4] _ => (!leak own v1 && (!leak own v2 && (!leak own v3 && !leak own v4))) && (chkE k1 sc false a1 && (chkE v1 sc false b1 && (chkE k2 sc false a2 && (chkE v2 sc false b2 && (chkE k3 sc false a3 && (chkE v3 sc false b3 && (chkE k4 sc false a4 && chkE v4 sc false b4)))))))
    | _ => false
  | .mfn k es, sc, _, e => match e with
    | .Call (.Name x _) (e1 :: ees) [] _ => decide ((x, k) ∈ N.mfns) && (glb sc x && (nameOk x && (noSt es && chkA es sc (e1 :: ees))))
    | _ => false
  | .rgv a, sc, _, e => match e with
    | .Call (.Name x _) [ea] [] _ => cm && (decide (x = "range") && (decide (x ∈ N.frees) && (glb sc x && (ord ea && chkE a sc false ea))))
    | _ => false
  | .dcomp tk cown t it b, sc, _, e => match e with
    | .DictComp kx vx (⟨tg, iter, ifs, ia⟩ :: gens) scope _ => cm && (decide (ia = 0) && ((cown.all fun i => !own.contains i) && (ord iter && (!leakI own it && (chkE it sc true iter && (walkT it tg &&
        (chkT (blkSc sc scope) NN own (cellB scope) t (.inl tg) && (blkC NN sc scope (ownOf NN scope) && (decide (cown = (ownOf NN scope).map (·.2)) && chkC b (cellB scope) (blkSc sc scope) ifs gens (.dic kx vx))))))))))
    | _ => false
  | _, _, _, _ => false
def chkA : RE → Scope → List Expr → Bool
  | .nil, _, es => es.isEmpty
  | .cons a r, sc, es => match es with
    | e :: es => ord e && (chkE a sc false e && chkA r sc es)
    | _ => false
  | .star a r, sc, es => match es with
    | .Starred e _ :: es => chkE a sc false e && chkA r sc es
    | _ => false
  | _, _, _ => false
/-- a slice's part -/
def chkP : RE → Scope → Option Expr → Bool
  | .nopart, _, o => o.isNone
  | .part a, sc, o => match o with
    | some e => chkE a sc false e
    | none => false
  | _, _, _ => false
/-- the rest of a clause: its tests, the further clauses, the item -/
def chkC : RE → (Str → Bool) → Scope → List Expr → List Comprehension → CKd → Bool
  | .ifc c b, fnb, sc, ifs, gens, elt => match ifs with
    | e :: ifs => chkE c sc false e && chkC b fnb sc ifs gens elt
    | _ => false
  | .forc t it b, fnb, sc, ifs, gens, elt => match ifs, gens with
    | [], ⟨tg, iter, ifs, ia⟩ :: gens => decide (ia = 0) && (ord iter && (!leak own it && (chkE it sc true iter && (walkT it tg && (chkT sc NN own fnb t (.inl tg) && chkC b fnb sc ifs gens elt)))))
    | _, _ => false
  | .one a, _, sc, ifs, gens, elt => match elt with
    | .lst elt => ifs.isEmpty && (gens.isEmpty && (!leak own a && chkE a sc false elt))
    | _ => false
  | .kv k v, _, sc, ifs, gens, elt => match elt with
    | .dic ek ev => ifs.isEmpty && (gens.isEmpty && (!leak own v && (chkE k sc false ek && chkE v sc false ev)))
    | _ => false
  | _, _, _, _, _, _ => false
end
end

/-! ### equations of chkE -/
section
variable {N : Info} {NN : List Str} {own : List Nat} {cm : Bool} {ci : Nat}
theorem chkE_var {i} {sc} {u1} {e} : chkE N NN own cm ci (.var i) sc u1 e = (match e with
    | .Name x _ => decide (NN[i]? = some x) && (vis sc x && nameOk x)
    | _ => false) := rfl
theorem chkE_int {i} {u1} {u2} {e} : chkE N NN own cm ci (.int i) u1 u2 e = (match e with
    | .Constant (.int j) _ _ => decide (i = j)
    | _ => false) := rfl
theorem chkE_str {x} {u1} {u2} {e} : chkE N NN own cm ci (.str x) u1 u2 e = (match e with
    | .Constant (.str y) _ _ => decide (x = y)
    | _ => false) := rfl
theorem chkE_bl {b} {u1} {u2} {e} : chkE N NN own cm ci (.bl b) u1 u2 e = (match e with
    | .Constant (.bool c) _ _ => b == c
    | _ => false) := rfl
theorem chkE_non {u1} {u2} {e} : chkE N NN own cm ci .non u1 u2 e = (match e with
    | .Constant .none _ _ => true
    | _ => false) := rfl
theorem chkE_gint {x} {i} {sc} {u1} {e} : chkE N NN own cm ci (.gint x i) sc u1 e = (match e with
    | .Name y _ => decide (x = y) && (decide ((x, i) ∈ N.gints) && (glb sc x && nameOk x))
    | _ => false) := rfl
theorem chkE_bin {op} {a} {b} {sc} {u1} {e} : chkE N NN own cm ci (.bin op a b) sc u1 e = (match e with
    | .BinOp ea op' eb _ => decide (op = op') && (chkE N NN own cm ci a sc false ea && chkE N NN own cm ci b sc false eb)
    | _ => false) := rfl
theorem chkE_neg {a} {sc} {u1} {e} : chkE N NN own cm ci (.neg a) sc u1 e = (match e with
    | .UnaryOp .USub ea _ => chkE N NN own cm ci a sc false ea
    | _ => false) := rfl
theorem chkE_cmp {op} {a} {b} {sc} {u1} {e} : chkE N NN own cm ci (.cmp op a b) sc u1 e = (match e with
    | .Compare ea [op'] [eb] _ => decide (op = op') && (ord eb && (chkE N NN own cm ci a sc false ea && chkE N NN own cm ci b sc false eb))
    | _ => false) := rfl
theorem chkE_and {a} {b} {sc} {u1} {e} : chkE N NN own cm ci (.and a b) sc u1 e = (match e with
    | .BoolOp .And [ea, eb] _ => chkE N NN own cm ci a sc false ea && chkE N NN own cm ci b sc false eb
    | .BoolOp .And (ea :: eb :: ec :: es) p => chkE N NN own cm ci a sc false ea && chkE N NN own cm ci b sc false (.BoolOp .And (eb :: ec :: es) p)
    | _ => false) := rfl
theorem chkE_or {a} {b} {sc} {u1} {e} : chkE N NN own cm ci (.or a b) sc u1 e = (match e with
    | .BoolOp .Or [ea, eb] _ => chkE N NN own cm ci a sc false ea && chkE N NN own cm ci b sc false eb
    | .BoolOp .Or (ea :: eb :: ec :: es) p => chkE N NN own cm ci a sc false ea && chkE N NN own cm ci b sc false (.BoolOp .Or (eb :: ec :: es) p)
    | _ => false) := rfl
theorem chkE_not {a} {sc} {u1} {e} : chkE N NN own cm ci (.not a) sc u1 e = (match e with
    | .UnaryOp .Not ea _ => chkE N NN own cm ci a sc false ea
    | _ => false) := rfl
theorem chkE_ife {c} {a} {b} {sc} {u1} {e} : chkE N NN own cm ci (.ife c a b) sc u1 e = (match e with
    | .IfExp ec ea eb _ => chkE N NN own cm ci c sc false ec && (chkE N NN own cm ci a sc false ea && chkE N NN own cm ci b sc false eb)
    | _ => false) := rfl
theorem chkE_tup {es} {sc} {u1} {e} : chkE N NN own cm ci (.tup es) sc u1 e = (match e with
    | .Tuple ees _ _ => chkA N NN own cm ci es sc ees
    | _ => false) := rfl
theorem chkE_lst {es} {sc} {u1} {e} : chkE N NN own cm ci (.lst es) sc u1 e = (match e with
    | .List ees _ => chkA N NN own cm ci es sc ees
    | _ => false) := rfl
theorem chkE_item {a} {i} {sc} {u1} {e} : chkE N NN own cm ci (.item a i) sc u1 e = (match e with
    | .Subscript ea ei _ => ord ei && (chkE N NN own cm ci a sc false ea && chkE N NN own cm ci i sc false ei)
    | _ => false) := rfl
theorem chkE_cut {a} {lo} {hi} {sc} {u1} {e} : chkE N NN own cm ci (.cut a lo hi) sc u1 e = (match e with
    | .Subscript ea (.Slice l h none _) _ => chkE N NN own cm ci a sc false ea && (chkP N NN own cm ci lo sc l && chkP N NN own cm ci hi sc h)
    | _ => false) := rfl
theorem chkE_attr {a} {f} {sc} {u1} {e} : chkE N NN own cm ci (.attr a f) sc u1 e = (match e with
    | .Attribute ea x _ => decide (N.fnm f = x) && (noSuper ea && chkE N NN own cm ci a sc false ea)
    | _ => false) := rfl
theorem chkE_con {a} {f} {sc} {u1} {e} : chkE N NN own cm ci (.con a f) sc u1 e = (match e with
    | .Attribute ea x _ => decide (N.fnm f = x) && (noSuper ea && chkE N NN own cm ci a sc false ea)
    | _ => false) := rfl
theorem chkE_call {f} {es} {sc} {u1} {e} : chkE N NN own cm ci (.call f es) sc u1 e = (match e with
    | .Call (.Name x _) (e1 :: ees) [] _ => cm && (decide (f < N.nf) && (decide (N.fat f = (x, none)) && (!N.ini f && (glb sc x && (nameOk x && (noSt es && chkA N NN own cm ci es sc (e1 :: ees)))))))
    | _ => false) := rfl
theorem chkE_new {c} {es} {sc} {u1} {e} : chkE N NN own cm ci (.new c es) sc u1 e = (match e with
    | .Call (.Name x _) (e1 :: ees) [] _ => cm && (decide (c < N.nc) && (decide (N.cn c = x) && (glb sc x && (nameOk x && (noSt es && chkA N NN own cm ci es sc (e1 :: ees))))))
    | _ => false) := rfl
theorem chkE_meth {o} {m} {es} {sc} {u1} {e} : chkE N NN own cm ci (.meth o m es) sc u1 e = (match e with
    | .Call (.Attribute ea x ap) (e1 :: ees) [] p => cm && (decide (N.mname m = x) && (noSuper ea && (decide (ap.endLine = p.line) && (decide (ees.length < 28) && (chkE N NN own cm ci o sc false ea && (noSt es && chkA N NN own cm ci es sc (e1 :: ees)))))))
    | .Call (.Attribute ea x ap) [] [] p => cm && (decide (N.mname m = x) && (noSuper ea && (decide (ap.endLine = p.line) && (chkE N NN own cm ci o sc false ea && chkA N NN own cm ci es sc []))))
    | _ => false) := rfl
theorem chkE_blt {b} {es} {sc} {u1} {e} : chkE N NN own cm ci (.blt b es) sc u1 e = (match e with
    | .Call (.Name x _) (e1 :: ees) [] _ => (cm || b.cool) && (decide (b.nm = x) && (decide (x ∈ N.frees) && (glb sc x && (noSt es && chkA N NN own cm ci es sc (e1 :: ees)))))
    | _ => false) := rfl
theorem chkE_isi {a} {t} {sc} {u1} {e} : chkE N NN own cm ci (.isi a t) sc u1 e = (match e with
    | .Call (.Name x _) [ea, ec] [] _ => decide (x = "isinstance") && (decide (x ∈ N.frees) && (glb sc x && (ord ea && (chkE N NN own cm ci a sc false ea && tyT N t sc ec))))
    | _ => false) := rfl
theorem chkE_curf {k} {sc} {u1} {e} : chkE N NN own cm ci (.curf k) sc u1 e = (match e with
    | .Attribute (.Name x _) f _ => decide (NN[ci]? = some x) && (vis sc x && (nameOk x && decide (N.fnm k = f)))
    | _ => false) := rfl
theorem chkE_curis {ts} {sc} {u1} {e} : chkE N NN own cm ci (.curis ts) sc u1 e = (match e with
    | .Call (.Name x _) [.Name y _, ec] [] _ => decide (x = "isinstance") && (decide (x ∈ N.frees) && (glb sc x && (decide (NN[ci]? = some y) && (vis sc y && (nameOk y && xTs N sc ts ec)))))
    | _ => false) := rfl
theorem chkE_tupR {a} {b} {sc} {u1} {e} : chkE N NN own cm ci (.tupR a b) sc u1 e = (match e with
    | .Call (.Name y _) [.Call (.Name x _) [ea, eb] [] _] [] _ => cm && (decide (y = "tuple") && (decide (y ∈ N.frees) && (glb sc y && (decide (x = "range") && (decide (x ∈ N.frees) && (glb sc x && (ord ea && (ord eb && (chkE N NN own cm ci a sc false ea && chkE N NN own cm ci b sc false eb)))))))))
    | _ => false) := rfl
theorem chkE_ceq {m} {a} {b} {sc} {u1} {e} : chkE N NN own cm ci (.ceq m a b) sc u1 e = (match e with
    | .Compare ea [.Eq] [eb] _ => cm && (decide (N.mname m = "__eq__") && (ord eb && (chkE N NN own cm ci a sc false ea && chkE N NN own cm ci b sc false eb)))
    | _ => false) := rfl
theorem chkE_dlen {m} {a} {sc} {u1} {e} : chkE N NN own cm ci (.dlen m a) sc u1 e = (match e with
    | .Call (.Name x _) [ea] [] _ => cm && (decide (x = "len") && (decide (x ∈ N.frees) && (glb sc x && (decide (N.mname m = "__len__") && (ord ea && chkE N NN own cm ci a sc false ea)))))
    | _ => false) := rfl
theorem chkE_rev {a} {sc} {u1} {e} : chkE N NN own cm ci (.rev a) sc u1 e = (match e with
    | .Subscript ea (.Slice none none (some (.UnaryOp .USub (.Constant (.int 1) _ _) _)) _) _ => chkE N NN own cm ci a sc false ea
    | _ => false) := rfl
theorem chkE_rng1 {a} {sc} {wk} {e} : chkE N NN own cm ci (.rng1 a) sc wk e = (match e with
    | .Call (.Name x _) [ea] [] _ => wk && (cm && (decide (x = "range") && (decide (x ∈ N.frees) && (glb sc x && (ord ea && chkE N NN own cm ci a sc false ea)))))
    | _ => false) := rfl
theorem chkE_rng2 {a} {b} {sc} {wk} {e} : chkE N NN own cm ci (.rng2 a b) sc wk e = (match e with
    | .Call (.Name x _) [ea, eb] [] _ => wk && (cm && (decide (x = "range") && (decide (x ∈ N.frees) && (glb sc x && (ord ea && (ord eb && (chkE N NN own cm ci a sc false ea && chkE N NN own cm ci b sc false eb)))))))
    | _ => false) := rfl
theorem chkE_enum {a} {sc} {wk} {e} : chkE N NN own cm ci (.enum a) sc wk e = (match e with
    | .Call (.Name x _) [ea] [] _ => wk && (cm && (decide (x = "enumerate") && (decide (x ∈ N.frees) && (glb sc x && (ord ea && chkE N NN own cm ci a sc false ea)))))
    | _ => false) := rfl
theorem chkE_comp {cown} {t} {it} {b} {sc} {u1} {e} : chkE N NN own cm ci (.comp cown t it b) sc u1 e = (match e with
    | .ListComp elt (⟨tg, iter, ifs, ia⟩ :: gens) scope _ => cm && (decide (ia = 0) && ((cown.all fun i => !own.contains i) && (ord iter && (!leakI own it && (chkE N NN own cm ci it sc true iter && (walkT it tg &&
        (chkT (blkSc sc scope) NN own (cellB scope) t (.inl tg) && (blkC NN sc scope (ownOf NN scope) && (decide (cown = (ownOf NN scope).map (·.2)) && chkC N NN own cm ci b (cellB scope) (blkSc sc scope) ifs gens (.lst elt))))))))))
    | _ => false) := rfl
theorem chkE_dct4 {k1} {v1} {k2} {v2} {k3} {v3} {k4} {v4} {sc} {u1} {e} : chkE N NN own cm ci (.dct4 k1 v1 k2 v2 k3 v3 k4 v4) sc u1 e = (match e with
    | .Dict [some a1, some a2, some a3, some a4] [b1, b2, b3, b4] _ => (!leak own v1 && (!leak own v2 && (!leak own v3 && !leak own v4))) && (chkE N NN own cm ci k1 sc false a1 && (chkE N NN own cm ci v1 sc false b1 && (chkE N NN own cm ci k2 sc false a2 && (chkE N NN own cm ci v2 sc false b2 && (chkE N NN own cm ci k3 sc false a3 && (chkE N NN own cm ci v3 sc false b3 && (chkE N NN own cm ci k4 sc false a4 && chkE N NN own cm ci v4 sc false b4)))))))
    | _ => false) := rfl
theorem chkE_mfn {k} {es} {sc} {u1} {e} : chkE N NN own cm ci (.mfn k es) sc u1 e = (match e with
    | .Call (.Name x _) (e1 :: ees) [] _ => decide ((x, k) ∈ N.mfns) && (glb sc x && (nameOk x && (noSt es && chkA N NN own cm ci es sc (e1 :: ees))))
    | _ => false) := rfl
theorem chkE_rgv {a} {sc} {u1} {e} : chkE N NN own cm ci (.rgv a) sc u1 e = (match e with
    | .Call (.Name x _) [ea] [] _ => cm && (decide (x = "range") && (decide (x ∈ N.frees) && (glb sc x && (ord ea && chkE N NN own cm ci a sc false ea))))
    | _ => false) := rfl
theorem chkE_dcomp {tk} {cown} {t} {it} {b} {sc} {u1} {e} : chkE N NN own cm ci (.dcomp tk cown t it b) sc u1 e = (match e with
    | .DictComp kx vx (⟨tg, iter, ifs, ia⟩ :: gens) scope _ => cm && (decide (ia = 0) && ((cown.all fun i => !own.contains i) && (ord iter && (!leakI own it && (chkE N NN own cm ci it sc true iter && (walkT it tg &&
        (chkT (blkSc sc scope) NN own (cellB scope) t (.inl tg) && (blkC NN sc scope (ownOf NN scope) && (decide (cown = (ownOf NN scope).map (·.2)) && chkC N NN own cm ci b (cellB scope) (blkSc sc scope) ifs gens (.dic kx vx))))))))))
    | _ => false) := rfl
theorem chkA_nil {u1} {es} : chkA N NN own cm ci .nil u1 es = (es.isEmpty) := rfl
theorem chkA_cons {a} {r} {sc} {es} : chkA N NN own cm ci (.cons a r) sc es = (match es with
    | e :: es => ord e && (chkE N NN own cm ci a sc false e && chkA N NN own cm ci r sc es)
    | _ => false) := rfl
theorem chkA_star {a} {r} {sc} {es} : chkA N NN own cm ci (.star a r) sc es = (match es with
    | .Starred e _ :: es => chkE N NN own cm ci a sc false e && chkA N NN own cm ci r sc es
    | _ => false) := rfl
theorem chkP_nopart {u1} {o} : chkP N NN own cm ci .nopart u1 o = (o.isNone) := rfl
theorem chkP_part {a} {sc} {o} : chkP N NN own cm ci (.part a) sc o = (match o with
    | some e => chkE N NN own cm ci a sc false e
    | none => false) := rfl
theorem chkC_ifc {c} {b} {fnb} {sc} {ifs} {gens} {elt} : chkC N NN own cm ci (.ifc c b) fnb sc ifs gens elt = (match ifs with
    | e :: ifs => chkE N NN own cm ci c sc false e && chkC N NN own cm ci b fnb sc ifs gens elt
    | _ => false) := rfl
theorem chkC_forc {t} {it} {b} {fnb} {sc} {ifs} {gens} {elt} : chkC N NN own cm ci (.forc t it b) fnb sc ifs gens elt = (match ifs, gens with
    | [], ⟨tg, iter, ifs, ia⟩ :: gens => decide (ia = 0) && (ord iter && (!leak own it && (chkE N NN own cm ci it sc true iter && (walkT it tg && (chkT sc NN own fnb t (.inl tg) && chkC N NN own cm ci b fnb sc ifs gens elt)))))
    | _, _ => false) := rfl
theorem chkC_one {a} {u1} {sc} {ifs} {gens} {elt} : chkC N NN own cm ci (.one a) u1 sc ifs gens elt = (match elt with
    | .lst elt => ifs.isEmpty && (gens.isEmpty && (!leak own a && chkE N NN own cm ci a sc false elt))
    | _ => false) := rfl
theorem chkC_kv {k} {v} {u1} {sc} {ifs} {gens} {elt} : chkC N NN own cm ci (.kv k v) u1 sc ifs gens elt = (match elt with
    | .dic ek ev => ifs.isEmpty && (gens.isEmpty && (!leak own v && (chkE N NN own cm ci k sc false ek && chkE N NN own cm ci v sc false ev)))
    | _ => false) := rfl
end

/-! ### what the program's top has left -/
def tyVal (N : Info) (K : PySem.W.Frag) : Nat → Value
  | 0 => .type "int" | 1 => .type "bool" | 2 => .type "tuple" | 3 => .type "list" | 4 => .type "str" | 5 => .type "NoneType"
  | 6 => .none | 7 => .none | 8 => .none | 9 => .none
  | n + 10 => .ref (He.ga K (N.cn n))
abbrev cA (N : Info) (K : PySem.W.Frag) (c : Nat) : Addr := He.ga K (N.cn c)
abbrev fA (N : Info) (K : PySem.W.Frag) (f : Nat) : Addr := He.fAd K (N.fat f)
/-- an exception's class, as a value -/
abbrev xA (N : Info) (K : PySem.W.Frag) (c : Nat) : Addr := He.ga K (N.xn c)
def xVal (N : Info) (K : PySem.W.Frag) (t : Nat) : Value := if t = 0 then .type "ValueError" else .ref (xA N K t)
def xV (N : Info) (K : PySem.W.Frag) (t : Nat) : V := if t = 0 then .ty "ValueError" else .ref (xA N K t)
/-- what isinstance asks of a class -/
structure IsC (K : PySem.W.Frag) (C : Addr) : Prop where
  ha : PySem.W.findIn K (.ref C) "__class__" = some (some (.builtin "object.__class__"))
  hn : PySem.W.specialIn K (.builtin "object.__class__") "__get__" = some (some (.builtin "getset_descriptor.__get__"))
  ht : PySem.W.takesIn K (.builtin "object.__class__") = some true
  hm : PySem.W.mroIn K C (.type "object") = some true
structure Facts (P : Prog) (N : Info) (K : PySem.W.Frag) (mg : Str → Option Value) : Prop where
  gint : ∀ q ∈ N.gints, ∃ t, mg q.1 = some (.int q.2 t)
  free : ∀ x ∈ N.frees, mg x = none
  cls : ∀ c, c < N.nc → Cls K (cA N K c)
  clg : ∀ c, c < N.nc → mg (N.cn c) = some (.ref (cA N K c))
  fld : ∀ c m k, P.st.fld c m = some k → (N.lay c)[k]? = some (N.fnm m) ∧ NoAttr K (cA N K c) (N.fnm m)
  lnd : ∀ c, c < N.nc → (N.lay c).Nodup
  con : ∀ c m i, P.st.con c m = some i → (∃ u, Con K (cA N K c) (N.fnm m) (.int i) u) ∧ N.fnm m ∉ N.lay c
  meth : ∀ c m g, P.st.meth c m = some g → Meth K (cA N K c) (N.mname m) (fA N K g) ∧ N.mname m ∉ N.lay c ∧ g < N.nf ∧ N.ini g = false ∧ (N.nwm m = true → N.nw g = true)
  glf : ∀ f, f < N.nf → (N.fat f).2 = none → mg (N.fat f).1 = some (.ref (fA N K f)) ∧ PySem.W.keepIn K (.ref (fA N K f)) = true
  isi : ∀ k t b, P.st.isi k t = some b → PySem.W.kitOne K (tyVal N K k) (tyVal N K t) = some b ∧ (k < 6 ∨ 10 ≤ k)
  isc : ∀ c, c < N.nc → IsC K (cA N K c)
  exm : ∀ c t b, P.st.exm c t = some b → PySem.W.kitOne K (.ref (xA N K c)) (xVal N K t) = some b ∧ PySem.W.exmOne K (.ref (xA N K c)) (xVal N K t) = some b ∧ ExcC K (xA N K c) ∧ (t ≠ 0 → mg (N.xn t) = some (.ref (xA N K t)))
  xfld : ∀ c k j, P.st.xfld c k = some j → (N.xf c)[j]? = some (N.fnm k) ∧ XfC K (xA N K c) ∧ PySem.W.findIn K (.ref (xA N K c)) (N.fnm k) = some none
  xct : ∀ c ∈ N.caught, mg (N.xn c) = some (.ref (xA N K c))
  xlen : ∀ c ∈ N.raised, P.st.xlen c = (N.xf c).length
  xcl : ∀ c ∈ N.raised, mg (N.xn c) = some (.ref (xA N K c)) ∧ PySem.W.keepIn K (.ref (xA N K c)) = true
  mfn : ∀ q ∈ N.mfns, mg q.1 = some (.builtin (mfnId q.2))
  mke : ∀ c, c < N.nc → Mk K (cA N K c) (fA N K (P.init c))

/-- a def's promise: it hands back what the evaluator says -/
def spF (N : Info) (K : PySem.W.Frag) (nw : Bool) (ev : List D → R D) : Sp := fun vs H Q E => ∃ ds, Rps N K H vs ds ∧ match ev ds with
  | .ok d => ∀ v H', Same H H' → Rp N K H' v d → (nw = true → NewL N K H H' v d) → Q v H'
  | .ex x => ∀ cls dx H', Same H H' → cls = .ref (He.ga K (N.xn x.c)) → XRep N K H' x dx → E cls dx H'
  | .no => False
/-- an __init__'s promise -/
def spI (N : Info) (K : PySem.W.Frag) (c : Nat) (ev : List D → R D) : Sp := fun vs H Q E => ∃ a dx us ds, vs = .ref a :: us ∧ H a = some (.ins (cA N K c) dx []) ∧ H dx = some (.own a) ∧ Rps N K (sub H [a, dx]) us ds ∧ match ev ds with
  | .ok d => ∀ H', Same (sub H [a, dx]) H' → Rp N K H' (.ref a) d → Q .non H'
  | .ex x => ∀ cls dx' H', Same (sub H [a, dx]) H' → cls = .ref (He.ga K (N.xn x.c)) → XRep N K H' x dx' → E cls dx' H'
  | .no => False
/-- the making of an exception -/
def XMk (N : Info) (prog : Program) (w : World) (K : PySem.W.Frag) (mg : Str → Option Value) (base : Heap) (c : Nat) : Prop := ∀ (X : Cx), X.prog = prog → X.w = w → X.K = K → X.mg = mg → X.base = base → X.calm = true → Room 4 X.A →
  ∀ (pins : List (Addr × Obj)) (s : Shared) (σ : L2.St) (H : Hp) (vs : List V) (us : List Value) (Q : XK), Inv X pins σ H s → Vals vs us → vs.length = (N.xf c).length → 0 < vs.length →
    (∀ dx fs, H dx = none → (∀ (k : Nat) (f : Str) (y : V), (N.xf c)[k]? = some f → vs[k]? = some y → fs.lookup f = some y) → Q (.ref (xA N K c)) (some dx) (upd H dx (.xd fs))) →
    wpAny (model prog w) X.A (call (.ref (xA N K c)) us) (MkP X pins σ Q) X.xe s
structure FnsOk (P : Prog) (N : Info) (n : Nat) (prog : Program) (w : World) (K : PySem.W.Frag) (mg : Str → Option Value) (base : Heap) : Prop where
  fn : ∀ f, f < N.nf → N.ini f = false → ∃ fd, FnOk prog w K mg base (L2.CX prog w) (2 * n + 3) (fA N K f) fd (N.pars f) (spF N K (N.nw f) ((P.ctx n).call f)) ∧ Binds K fd (N.pars f) []
  ini : ∀ c, c < N.nc → ∃ fd, FnOk prog w K mg base (L2.CX prog w) (2 * n + 3) (fA N K (P.init c)) fd (N.pars (P.init c)) (spI N K c ((P.ctx n).new c)) ∧ Binds K fd (N.pars (P.init c)) []

structure FnsX (N : Info) (prog : Program) (w : World) (K : PySem.W.Frag) (mg : Str → Option Value) (base : Heap) : Prop where
  xmk : ∀ c ∈ N.raised, XMk N prog w K mg base c
structure Site (P : Prog) (N : Info) (n : Nat) (X : Cx) (W : WX) (sc : Scope) (NN : List Str) (cm : Bool) : Prop where
  sc : X.env.scope = sc
  nn : X.N = NN
  nd : NN.Nodup
  tk : Takes X W
  hu : X.A.units + 64 < cLine
  calm : cm = true → X.calm = true
  room : cm = true → Room (2 * n + 4) X.A
  facts : Facts P N X.K X.mg
  fns : cm = true → FnsOk P N n X.prog X.w X.K X.mg X.base
  xs : cm = true → FnsX N X.prog X.w X.K X.mg X.base
/-- the exception that an except suite holds, its name in slot ci -/
structure CurOk (N : Info) (X : Cx) (A : List Addr) (σ : L2.St) (H : Hp) (cm : Bool) (cur : Option Exn) (ci : Nat) : Prop where
  calm : cm = true → cur = none
  at_ : ∀ x, cur = some x → ∃ (X0 : Cx) (a : Addr) (oe : Obj) (pn : List (Addr × Obj)) (dx : Option Addr), X = X0.suite a ((a, oe) :: pn) ∧ Zc (.ref (He.ga X.K (N.xn x.c))) dx oe ∧ (∃ vs, oe.data = .fields vs) ∧ XRep N X.K H x dx ∧ σ[ci]? = some (some (.ref a))
theorem CurOk.mono {N : Info} {X : Cx} {A : List Addr} {σ : L2.St} {H H' : Hp} {cm : Bool} {cur : Option Exn} {ci : Nat} (c : CurOk N X A σ H cm cur ci) (e : Same H H') : CurOk N X A σ H' cm cur ci where
  calm := c.calm
  at_ := fun x q => let ⟨X0, a, oe, pn, dx, h1, h2, h3, h4, h5⟩ := c.at_ x q; ⟨X0, a, oe, pn, dx, h1, h2, h3, h4.mono e, h5⟩
end PD
end

section
set_option Elab.async false
set_option linter.all false
set_option maxRecDepth 100000
/-! PE1: list + list, list * int of lists that may be walked or written. -/
namespace PD
open PySem PySem.Spec PyProof.Rows L2
section
variable {X : Cx}
theorem op_catL : OpR X (binaryOp .Add) (fun x y H Q => ∃ l b xs zs, x = .ref l ∧ y = .ref b ∧ SqL X.K H l xs ∧ SqL X.K H b zs ∧ xs.length + zs.length ≤ sizeLine ∧ ∀ p, H p = none → Q (.ref p) (upd H p (.lst (xs ++ zs)))) := by
  intro pins s σ H x y v u Q I rx ry h
  obtain ⟨l, b, xs, zs, rfl, rfl, hs, hs2, hz, q⟩ := h
  obtain rfl : v = Value.ref l := rx
  obtain rfl : u = Value.ref b := ry
  obtain ⟨its, rv, ⟨⟨cls, dd, data, sl⟩, n, ho, hc, hdn, hd⟩, hlen⟩ := I.list hs
  obtain ⟨its2, rv2, ⟨⟨cls2, dd2, data2, sl2⟩, n2, ho2, hc2, hdn2, hd2⟩, hlen2⟩ := I.list hs2
  have hc1 : cls = Value.type "list" := hc
  have hd1 : data = Data.seq its.toArray n := hd
  have hc3 : cls2 = Value.type "list" := hc2
  have hd3 : data2 = Data.seq its2.toArray n2 := hd2
  subst hc1 hd1 hc3 hd3
  have e : its.toArray ++ its2.toArray = (its ++ its2).toArray := by simp
  refine concat_meets ⟨_, ho, rfl⟩ ⟨_, ho2, rfl⟩ noFill_list_add seq_list_add PySem.F.slot_list_add PySem.F.entry_list_add (PySem.F.args_list_add_2 _ _) (list_addW l b its.toArray its2.toArray n n2 dd dd2 sl sl2 (by rw [List.size_toArray, List.size_toArray, ← rv.length, ← rv2.length]; exact hz)) ⟨ho, ho2, ?_⟩
  rw [e]
  refine ⟨.ref s.heap.objs.size, upd H s.heap.objs.size (.lst (xs ++ zs)), I.laid (t' := s.toks) (fun b o e => Heap.get?_push_of_some _ e) (Nat.le_refl _) ⟨?_, _, 0, ?_, Heap.get?_push_size _ rfl⟩, rfl, q _ (I.hok.fresh (Nat.le_refl _))⟩
  · rw [List.length_append]; exact hz
  · exact rv.append rv2
theorem q_mul_int (l : Addr) (items : Array Value) (n : Nat) (d : Option Addr) (sl : Array (Option Value)) (x : Int) (t : Tok) (hc0 : ¬(!Builtin.List.listFitsIndex x) = true)
    (hc1 : ¬items.size * x.toNat > (2 ^ 63 - 1) / 8) (hc2 : ¬Builtin.List.listTooLong (items.size * x.toNat) = true) :
    Meets (Builtin.«list.__mul__» ⟨[.ref l, .int x t], []⟩) (fun _ R s => s.heap.get? l = some { cls := .type "list", dict := d, data := .seq items n, slots := sl } ∧ R (.ok (.ret (Value.ref s.heap.objs.size))) { s with heap := s.heap.push { cls := Value.type "list", data := Data.seq (List.foldl (fun x1 x2 => x1 ++ x2) #[] (List.replicate (if items.isEmpty = true then 0 else x.toNat) items)) }, toks := s.toks }) :=
  .of_wp fun prog w A R s h => by
    obtain ⟨hp, g, d, tk, os⟩ := s; obtain ⟨hl, h⟩ := h
    have hsz := AutoListH.joined_fits hc2
    wp_walk; refine wpAny_ite_false (decide_eq_false (Nat.not_lt.mpr hsz)) ?_; wp_walk; exact ⟨_, rfl, h⟩
theorem q_rmul_int (a : Int) (t : Tok) (l : Addr) (items : Array Value) (n : Nat) (d : Option Addr) (sl : Array (Option Value)) :
    Meets (Builtin.«int.__rmul__» ⟨[.int a t, .ref l], []⟩) (fun _ R s => s.heap.get? l = some { cls := .type "list", dict := d, data := .seq items n, slots := sl } ∧ R (.ok (.ret Value.notImplemented)) s) :=
  .of_wp fun prog w A R s h => by obtain ⟨hp, g, d, tk, os⟩ := s; obtain ⟨hl, h⟩ := h; wp_walk; exact ⟨_, rfl, h⟩
theorem op_repL : OpR X (binaryOp .Mult) (fun x y H Q => ∃ l k xs, x = .ref l ∧ y = .int k ∧ SqL X.K H l xs ∧ -(2 ^ 63) ≤ k ∧ k < 2 ^ 63 ∧ xs.length * k.toNat ≤ sizeLine ∧
  ∀ p, H p = none → Q (.ref p) (upd H p (.lst (List.replicate k.toNat xs).flatten))) := by
  intro pins s σ H x y v u Q I rx ry h
  obtain ⟨l, k, xs, rfl, rfl, hs, h1, h2, hz, q⟩ := h
  obtain rfl : v = Value.ref l := rx
  obtain ⟨t, rfl⟩ := ry
  obtain ⟨its, rv, ⟨⟨cls, dd, data, sl⟩, n, ho, hc, hdn, hd⟩, hlen⟩ := I.list hs
  have hc1 : cls = Value.type "list" := hc
  have hd1 : data = Data.seq its.toArray n := hd
  subst hc1 hd1
  have hl : xs.length = its.length := rv.length
  have hlen : its.toArray.size * k.toNat ≤ sizeLine := by rw [List.size_toArray, ← hl]; exact hz
  have hcap : ¬ its.toArray.size * k.toNat > (2 ^ 63 - 1) / 8 := by
    have : (sizeLine : Nat) ≤ (2 ^ 63 - 1) / 8 := by decide
    omega
  have hfit : ¬ (!Builtin.List.listFitsIndex k) = true := by
    rw [fitsIndex_both h1 h2]
    exact Bool.false_ne_true
  have hlong : ¬ Builtin.List.listTooLong (its.toArray.size * k.toNat) = true := by
    rw [notLongL hlen]
    exact Bool.false_ne_true
  have hnew : List.foldl (fun x1 x2 => x1 ++ x2) #[] (List.replicate (if its.toArray.isEmpty = true then 0 else k.toNat) its.toArray) = (List.replicate k.toNat its).flatten.toArray := by
    have f0 : ∀ m : Nat, List.foldl (fun x1 x2 => x1 ++ x2) #[] (List.replicate m its.toArray) = (List.replicate m its).flatten.toArray := fun m => by
      have := foldl_rep its m []
      rw [List.nil_append] at this
      exact this
    rw [f0]
    cases its with
    | nil => simp
    | cons a r' => rw [if_neg (by simp)]
  refine wpAny_binaryOp_repeat_ref (T := "list") (U := "int") (by decide) ⟨_, ho, rfl⟩ (fun s' => typeIs_int s' k t) noFill_list_mul F.fills_int_mul F.slot_int_rmul repeat_list F.slot_int_index.lookup
    (call_meets F.slot_int_rmul (typeIs_int s k t) F.entry_int_rmul (F.args_int_rmul_2 _ _) (q_rmul_int k t l its.toArray n dd sl)
      ⟨ho, rfl, ⟨_, ho, rfl⟩, call_meets F.slot_list_mul ⟨_, ho, rfl⟩ F.entry_list_mul (F.args_list_mul_2 _ _) (q_mul_int l its.toArray n dd sl k t hfit hcap hlong) ⟨ho, ?_⟩⟩)
  rw [hnew]
  refine ⟨.ref s.heap.objs.size, upd H s.heap.objs.size (.lst (List.replicate k.toNat xs).flatten), I.laid (t' := s.toks) (fun b o e => Heap.get?_push_of_some _ e) (Nat.le_refl _) ⟨?_, _, 0, ?_, Heap.get?_push_size _ rfl⟩, rfl, q _ (I.hok.fresh (Nat.le_refl _))⟩
  · rw [PyProof.Rows.lm_len_rep_flat, Nat.mul_comm]; exact hz
  · exact rv.rep k.toNat
end
end PD
end

section
set_option Elab.async false
set_option linter.all false
set_option maxRecDepth 100000
/-! PD6: each form of expression, once. -/
namespace PD
open PySem PySem.Spec PyProof.Rows L2

section
variable (P : Prog) (N : Info) (n : Nat) (NN : List Str) (own : List Nat) (cm : Bool) (ci : Nat)
def SE (r : RE) : Prop := ∀ (X : Cx) (W : WX) (sc : Scope) (e : Expr) (env : Env) (σ : L2.St) (H : Hp) (A : List Addr) (ad : Nat → Addr) (cur : Option Exn) (Q : VK),
  Site P N n X W sc NN cm → chkE N NN own cm ci r sc false e = true → Frm N X.K own env σ H A ad → CurOk N X A σ H cm cur ci → WPE N X.K W own r σ H A (evE (P.ctx n) cur r env) Q → wE X e σ H Q
def STt (r : RE) : Prop := ∀ (X : Cx) (W : WX) (sc : Scope) (e : Expr) (env : Env) (σ : L2.St) (H : Hp) (A : List Addr) (ad : Nat → Addr) (cur : Option Exn) (Q : Bool → Hp → Prop),
  Site P N n X W sc NN cm → chkE N NN own cm ci r sc false e = true → Frm N X.K own env σ H A ad → CurOk N X A σ H cm cur ci → WPT N X.K W σ H A (evE (P.ctx n) cur r env) Q → wT X e σ H Q
def SA (r : RE) : Prop := ∀ (X : Cx) (W : WX) (sc : Scope) (es : List Expr) (env : Env) (σ : L2.St) (H : Hp) (A : List Addr) (ad : Nat → Addr) (cur : Option Exn) (Q : List V → Hp → Prop),
  Site P N n X W sc NN cm → chkA N NN own cm ci r sc es = true → Frm N X.K own env σ H A ad → CurOk N X A σ H cm cur ci → WPA N X.K W own r σ H A (evE (P.ctx n) cur r env) Q → wA X es σ H Q
def SI (r : RE) : Prop := ∀ (X : Cx) (W : WX) (sc : Scope) (tg e : Expr) (env : Env) (σ : L2.St) (H : Hp) (A : List Addr) (ad : Nat → Addr) (cur : Option Exn) (R : It → Hp → Prop),
  Site P N n X W sc NN cm → chkE N NN own cm ci r sc true e = true → Frm N X.K own env σ H A ad → CurOk N X A σ H cm cur ci → WPI N X.K W own r σ H A (evE (P.ctx n) cur r env) R → wI X tg e σ H R
end

section
variable {P : Prog} {N : Info} {n : Nat} {NN : List Str} {own : List Nat} {cm : Bool} {ci : Nat}

theorem and_t {a b : Bool} (h : (a && b) = true) : a = true ∧ b = true := by rwa [Bool.and_eq_true] at h
theorem Site.glk {X : Cx} {W : WX} {sc : Scope} (S : Site P N n X W sc NN cm) {x : Str} (h : glb sc x = true) : Gl X x := by
  have e := glb_ok h
  rw [← S.sc] at e
  exact e

section
variable {K : PySem.W.Frag} {H H' : Hp} {A : List Addr} {r : RE}
theorem AOk.bA (c : AOk H A) (l : Bool) : AOk H (bA l A) := by
  unfold PD.bA
  split
  · exact .nil
  · exact c
theorem bA_le {l m : Bool} (h : l = false → m = false) : ∀ a ∈ bA l A, a ∈ bA m A := fun a ha => by
  cases l with
  | true => exact absurd (show a ∈ ([] : List Addr) from ha) (by simp)
  | false => rw [h rfl]; exact ha
/-- from what hangs on less -/
theorem Rp.up {v : V} {d : D} {l m : Bool} (h : Rp N K (sub H (PD.bA m A)) v d) (le : l = false → m = false) : Rp N K (sub H (PD.bA l A)) v d := h.mono (sub_le (bA_le le))
theorem Rps.up {v : List V} {d : List D} {l m : Bool} (h : Rps N K (sub H (PD.bA m A)) v d) (le : l = false → m = false) : Rps N K (sub H (PD.bA l A)) v d := h.mono (sub_le (bA_le le))
theorem PostE.rp0 {d : D} {v : V} (p : PostE N K H A own r d v H') : Rp N K H' v d := p.rp.mono sub_same
/-- a value without a heap -/
theorem PostE.flat {d : D} {v : V} (h : ∀ H, Rp N K H v d) (hi : Itc N K H A v d) (hf : fresh N r = false) : PostE N K H A own r d v H :=
  ⟨Same.refl H, h _, fun _ => hi, fun z => by rw [hf] at z; cases z⟩
theorem PostE.flatsN {d : D} {v : V} (e : Same H H') (h : ∀ H, Rp N K H v d) (hi : Itc N K H' A v d) (hd : ∀ xs, d ≠ .lst xs) : PostE N K H A own r d v H' :=
  ⟨e, h _, fun _ => hi, fun _ _ xs z => absurd z (hd xs)⟩
theorem PostE.flats {d : D} {v : V} (e : Same H H') (h : ∀ H, Rp N K H v d) (hi : Itc N K H' A v d) (hf : fresh N r = false) : PostE N K H A own r d v H' :=
  ⟨e, h _, fun _ => hi, fun z => by rw [hf] at z; cases z⟩
end

/-! ### leaves -/
theorem se_var {i : Nat} : SE P N n NN own cm ci (.var i) := fun X W sc e env σ H A ad cur Q S hk F C h => by
  rw [chkE_var] at hk
  split at hk
  case h_2 => cases hk
  case h_1 x pos =>
    obtain ⟨h1, h2⟩ := and_t hk
    obtain ⟨h2, h3⟩ := and_t h2
    obtain ⟨h3, h4⟩ := and_t h3
    have hN : X.N[i]? = some x := by rw [S.nn]; exact of_decide_eq_true h1
    have hv : Vis X.env.scope x := by rw [S.sc]; exact vis_ok h2
    refine toE (pe_var hN hv (by simpa using h3) (by simpa using h4)) ?_
    rw [evE_var] at h
    cases he : env[i]? with
    | none => rw [he] at h; exact h.elim
    | some d =>
      rw [he] at h
      have nu : d ≠ .un := fun z => by subst z; exact h.elim
      have h' : ∀ v H', PostE N X.K H A own (.var i) d v H' → Q v H' := by
        cases d <;> first | exact absurd rfl nu | exact h
      by_cases ho : i ∈ own
      · obtain ⟨d', e1, e2, o⟩ := F.ownv i ho
        rw [he] at e1; cases e1
        have hl : leak own (.var i) = true := by unfold leak; exact List.contains_iff_mem.mpr ho
        refine ⟨_, e2, h' _ _ ⟨Same.refl H, ?_, fun _ => .of_own o, fun z => by cases z⟩⟩
        rw [hl]
        exact o.rp.mono (by show Same H (sub H []); rw [sub_nil]; exact Same.refl H)
      · obtain ⟨v, e1, rp⟩ := F.val i d he nu ho
        have hl : leak own (.var i) = false := by
          unfold leak
          cases q : own.contains i with
          | false => rfl
          | true => exact absurd (List.contains_iff_mem.mp q) ho
        refine ⟨v, e1, h' _ _ ⟨Same.refl H, ?_, fun _ => .of_rp rp, fun z => by cases z⟩⟩
        rw [hl]
        exact rp
theorem se_int {i : Int} : SE P N n NN own cm ci (.int i) := fun X W sc e env σ H A ad cur Q S hk F C h => by
  rw [chkE_int] at hk
  split at hk
  case h_2 => cases hk
  case h_1 j k p =>
    obtain rfl : i = j := of_decide_eq_true hk
    exact toE pe_int (h _ _ (.flat (fun _ => .int i) trivial rfl))
theorem se_str {x : Str} : SE P N n NN own cm ci (.str x) := fun X W sc e env σ H A ad cur Q S hk F C h => by
  rw [chkE_str] at hk
  split at hk
  case h_2 => cases hk
  case h_1 j k p =>
    obtain rfl : x = j := of_decide_eq_true hk
    exact toE pe_str (h _ _ (.flat (fun _ => .str x) trivial rfl))
theorem se_bl {b : Bool} : SE P N n NN own cm ci (.bl b) := fun X W sc e env σ H A ad cur Q S hk F C h => by
  rw [chkE_bl] at hk
  split at hk
  case h_2 => cases hk
  case h_1 j k p =>
    obtain rfl : b = j := by simpa using hk
    exact toE pe_bl (h _ _ (.flat (fun _ => .bl b) trivial rfl))
theorem se_non : SE P N n NN own cm ci .non := fun X W sc e env σ H A ad cur Q S hk F C h => by
  rw [chkE_non] at hk
  split at hk
  case h_2 => cases hk
  case h_1 k p => exact toE pe_non (h _ _ (.flat (fun _ => .non) trivial rfl))
theorem se_gint {x : Str} {i : Int} : SE P N n NN own cm ci (.gint x i) := fun X W sc e env σ H A ad cur Q S hk F C h => by
  rw [chkE_gint] at hk
  split at hk
  case h_2 => cases hk
  case h_1 y p =>
    obtain ⟨h1, h2⟩ := and_t hk
    obtain ⟨h2, h3⟩ := and_t h2
    obtain ⟨h3, h4⟩ := and_t h3
    obtain ⟨h4, h5⟩ := and_t h4
    obtain rfl : x = y := of_decide_eq_true h1
    obtain ⟨t, hm⟩ := S.facts.gint _ (of_decide_eq_true h2)
    exact toE (pe_glob (v := .int i) (S.glk h3) hm ⟨t, rfl⟩ (by simpa using h4)) (h _ _ (.flat (fun _ => .int i) trivial rfl))

/-! ### one expression, then what follows -/
section
variable {X : Cx} {W : WX} {sc : Scope} {env : Env} {σ : L2.St} {H H0 : Hp} {A : List Addr} {ad : Nat → Addr} {cur : Option Exn} {a r : RE} {ea : Expr} {ees : List Expr} {f : D → R D} {Q Q1 : VK}
theorem se_step (ha : SE P N n NN own cm ci a) (S : Site P N n X W sc NN cm) (hk : chkE N NN own cm ci a sc false ea = true) (F : Frm N X.K own env σ H A ad) (C : CurOk N X A σ H cm cur ci) (e0 : Same H0 H)
    (h : WPE N X.K W own r σ H0 A ((evE (P.ctx n) cur a env).bd f) Q)
    (k : ∀ x v H1, PostE N X.K H A own a x v H1 → Same H0 H1 → Frm N X.K own env σ H1 A ad → CurOk N X A σ H1 cm cur ci → WPE N X.K W own r σ H0 A (f x) Q → Q1 v H1) : wE X ea σ H Q1 := by
  refine ha X W sc ea env σ H A ad cur _ S hk F C ?_
  cases he : evE (P.ctx n) cur a env with
  | ok x => rw [he] at h; exact fun v H1 p => k x v H1 p (e0.trans p.same) (F.mono p.same) (C.mono p.same) h
  | ex x => rw [he] at h; exact fun cls dx H' p => h cls dx H' (p.back e0)
  | no => rw [he] at h; exact h.elim
theorem sa_step {Q1 : List V → Hp → Prop} (ha : SA P N n NN own cm ci a) (S : Site P N n X W sc NN cm) (hk : chkA N NN own cm ci a sc ees = true) (F : Frm N X.K own env σ H A ad) (C : CurOk N X A σ H cm cur ci) (e0 : Same H0 H)
    (h : WPE N X.K W own r σ H0 A ((evE (P.ctx n) cur a env).bd fun y => match y with
      | .tup ys => f (.tup ys)
      | _ => .no) Q)
    (k : ∀ xs vs H1, Same H H1 → Rps N X.K (sub H1 (bA (leak own a) A)) vs xs → Same H0 H1 → Frm N X.K own env σ H1 A ad → CurOk N X A σ H1 cm cur ci → WPE N X.K W own r σ H0 A (f (.tup xs)) Q → Q1 vs H1) : wA X ees σ H Q1 := by
  refine ha X W sc ees env σ H A ad cur _ S hk F C ?_
  cases he : evE (P.ctx n) cur a env with
  | ok x =>
    rw [he] at h
    cases x <;> first | exact h.elim | exact fun vs H1 s rp => k _ vs H1 s rp (e0.trans s) (F.mono s) (C.mono s) h
  | ex x => rw [he] at h; exact fun cls dx H' p => h cls dx H' (p.back e0)
  | no => rw [he] at h; exact h.elim
/-- .. as a test -/
theorem st_step {Q2 : Bool → Hp → Prop} (ha : STt P N n NN own cm ci a) (S : Site P N n X W sc NN cm) (hk : chkE N NN own cm ci a sc false ea = true) (F : Frm N X.K own env σ H A ad) (C : CurOk N X A σ H cm cur ci)
    (hx : ∀ x, evE (P.ctx n) cur a env = .ex x → ∀ cls dx H', PostX N X.K H A x cls dx H' → W cls dx σ H') (hn : evE (P.ctx n) cur a env ≠ .no)
    (k : ∀ d, evE (P.ctx n) cur a env = .ok d → ∃ t, truth d = .ok t ∧ ∀ H1, Same H H1 → Frm N X.K own env σ H1 A ad → CurOk N X A σ H1 cm cur ci → Q2 t H1) : wT X ea σ H Q2 := by
  refine ha X W sc ea env σ H A ad cur _ S hk F C ?_
  cases he : evE (P.ctx n) cur a env with
  | ok x =>
    obtain ⟨t, ht, kk⟩ := k x he
    show match truth x with
      | .ok t => ∀ H', Same H H' → Q2 t H'
      | _ => False
    rw [ht]
    exact fun H1 s => kk H1 s (F.mono s) (C.mono s)
  | ex x => exact hx x he
  | no => exact absurd he hn
end

/-! ### operators -/
theorem small_lt {i : Int} (h : small i = true) : i.natAbs < 2 ^ 9000 := by
  unfold small bigN at h
  exact of_decide_eq_true h
theorem line_ok {k : Nat} (h : k ≤ maxLen) : k ≤ sizeLine := Nat.le_trans h (by unfold maxLen; decide)
theorem same_new {H : Hp} {p : Addr} {o : HO} (hp : H p = none) : Same H (upd H p o) := same_upd hp
/-- a new tuple, a new list of what is known -/
theorem rp_tup {K : PySem.W.Frag} {H : Hp} {p : Addr} {vs : List V} {ds : List D} (hp : H p = none) (r : Rps N K H vs ds) : Rp N K (upd H p (.tup vs)) (.ref p) (.tup ds) :=
  .tup upd_same (r.mono (same_upd hp))
theorem rp_lst {K : PySem.W.Frag} {H : Hp} {p : Addr} {vs : List V} {ds : List D} (hp : H p = none) (r : Rps N K H vs ds) : Rp N K (upd H p (.lst vs)) (.ref p) (.lst ds) :=
  .lst (.inl (.inl upd_same)) (r.mono (same_upd hp))
theorem AOk.out {H : Hp} {A : List Addr} (c : AOk H A) {p : Addr} (hp : H p = none) : p ∉ A := fun z => by
  obtain ⟨o, e⟩ := c.some z
  rw [hp] at e; cases e
theorem sub_upd_out {H : Hp} {A : List Addr} {p : Addr} {o : HO} (h : p ∉ A) : sub (upd H p o) A = upd (sub H A) p o := by
  funext b
  unfold sub upd
  by_cases hb : b = p
  · subst hb; rw [if_neg h, if_pos rfl, if_pos rfl]
  · rw [if_neg hb, if_neg hb]
theorem post_tup {K : PySem.W.Frag} {H0 H : Hp} {A : List Addr} {r : RE} {p : Addr} {vs : List V} {ds : List D} (e : Same H0 H) (c : AOk H A) (hp : H p = none) (rp : Rps N K (sub H (bA (leak own r) A)) vs ds) (hl : leakI own r = false → leak own r = false) (hf : fresh N r = false) :
    PostE N K H0 A own r (.tup ds) (.ref p) (upd H p (.tup vs)) := by
  have pB := (c.bA (leak own r)).out hp
  have hs : sub H (bA (leak own r) A) p = none := by rw [sub_out pB]; exact hp
  have q : Rp N K (sub (upd H p (.tup vs)) (bA (leak own r) A)) (.ref p) (.tup ds) := by
    rw [sub_upd_out pB]
    exact rp_tup hs rp
  refine ⟨e.trans (same_upd hp), q, fun l => ?_, fun z => by rw [hf] at z; cases z⟩
  rw [hl l] at q
  exact .of_rp q
theorem post_tupN {K : PySem.W.Frag} {H0 H : Hp} {A : List Addr} {r : RE} {p : Addr} {vs : List V} {ds : List D} (e : Same H0 H) (c : AOk H A) (hp : H p = none) (rp : Rps N K (sub H (bA (leak own r) A)) vs ds) (hl : leakI own r = false → leak own r = false) :
    PostE N K H0 A own r (.tup ds) (.ref p) (upd H p (.tup vs)) := by
  have pB := (c.bA (leak own r)).out hp
  have hs : sub H (bA (leak own r) A) p = none := by rw [sub_out pB]; exact hp
  have q : Rp N K (sub (upd H p (.tup vs)) (bA (leak own r) A)) (.ref p) (.tup ds) := by
    rw [sub_upd_out pB]
    exact rp_tup hs rp
  refine ⟨e.trans (same_upd hp), q, fun l => ?_, fun _ _ _ z => by cases z⟩
  rw [hl l] at q
  exact .of_rp q
theorem Rps.rep {K : PySem.W.Frag} {H : Hp} {vs : List V} {ds : List D} (r : Rps N K H vs ds) : ∀ k : Nat, Rps N K H (List.replicate k vs).flatten (List.replicate k ds).flatten
  | 0 => .nil
  | k + 1 => by
    rw [List.replicate_succ, List.replicate_succ, List.flatten_cons, List.flatten_cons]
    exact r.append (r.rep k)
theorem post_lst {K : PySem.W.Frag} {H0 H : Hp} {A : List Addr} {r : RE} {p : Addr} {vs : List V} {ds : List D} (e : Same H0 H) (c : AOk H A) (hp : H p = none) (rp : Rps N K (sub H (bA (leak own r) A)) vs ds) (hl : leakI own r = false → leak own r = false) :
    PostE N K H0 A own r (.lst ds) (.ref p) (upd H p (.lst vs)) := by
  have pB := (c.bA (leak own r)).out hp
  have hs : sub H (bA (leak own r) A) p = none := by rw [sub_out pB]; exact hp
  have q : Rp N K (sub (upd H p (.lst vs)) (bA (leak own r) A)) (.ref p) (.lst ds) := by
    rw [sub_upd_out pB]
    exact rp_lst hs rp
  refine ⟨e.trans (same_upd hp), q, fun l => ?_, fun z l xs ez => ⟨p, rfl, Same.none e hp, vs, upd_same, ?_⟩⟩
  · rw [hl l] at q
    exact .of_rp q
  · rw [l] at rp
    refine rp.mono fun b o hb => ?_
    obtain ⟨nb, hb⟩ := sub_some hb
    have ne : b ≠ p := ne_of_none hb hp
    have nb : b ∉ A := nb
    rw [sub_out (by simp [ne, nb]), upd_ne ne]
    exact hb
/-! ### two-place operators -/
/-- what an operation on values must do, by itself -/
def wOp (X : Cx) (f : Value → Value → Sem Value) : R2 := fun x y H Q => ∀ pins s σ v u, Inv X pins σ H s → RelV x v → RelV y u → wpAny (model X.prog X.w) X.A (f v u) (EP X pins σ Q) X.xe s
theorem wOp_ok {X : Cx} {f : Value → Value → Sem Value} : OpR X f (wOp X f) := fun pins s σ H x y v u Q I r1 r2 h => h pins s σ v u I r1 r2
theorem wOp_of {X : Cx} {f : Value → Value → Sem Value} {r : R2} (o : OpR X f r) {x y : V} {H : Hp} {Q : VK} (h : r x y H Q) : wOp X f x y H Q := fun pins s σ v u I r1 r2 => o pins s σ H x y v u Q I r1 r2 h

theorem bin_ok {X : Cx} {H0 H : Hp} {A : List Addr} {op : Operator} {a b : RE} {x y d : D} {vx vy : V} {Q : VK} (hb : binD op x y = .ok d) (e : Same H0 H) (c : AOk H A) (rx : Rp N X.K (sub H (bA (leak own (.bin op a b)) A)) vx x) (ry : Rp N X.K (sub H (bA (leak own (.bin op a b)) A)) vy y)
    (h : ∀ v H', PostE N X.K H0 A own (.bin op a b) d v H' → Q v H') : wOp X (binaryOp op) vx vy H Q := by
  have int2 : ∀ {i j k : Int} {g : Int → Int → V} {C : Int → Int → Prop}, OpR X (binaryOp op) (rI C g) → x = .int i → y = .int j → d = .int k → C i j → g i j = .int k → wOp X (binaryOp op) vx vy H Q := by
    intro i j k g C o e1 e2 e3 hc hg
    subst e1; subst e2; subst e3
    cases rx; cases ry
    refine wOp_of o ⟨i, j, rfl, rfl, hc, ?_⟩
    rw [hg]
    exact h _ _ (.flatsN e (fun _ => .int k) trivial (fun _ z => by cases z))
  have int0 : ∀ {i j k : Int} {g : Int → Int → V}, OpR X (binaryOp op) (rI0 g) → x = .int i → y = .int j → d = .int k → g i j = .int k → wOp X (binaryOp op) vx vy H Q := by
    intro i j k g o e1 e2 e3 hg
    subst e1; subst e2; subst e3
    cases rx; cases ry
    refine wOp_of o ⟨i, j, rfl, rfl, ?_⟩
    rw [hg]
    exact h _ _ (.flatsN e (fun _ => .int k) trivial (fun _ z => by cases z))
  have hI : leakI own (.bin op a b) = false → leak own (.bin op a b) = false := id
  unfold binD at hb
  split at hb
  · cases hb; exact int0 op_add rfl rfl rfl rfl
  · rename_i xs ys
    split at hb
    · rename_i hl
      cases hb
      cases rx with
      | tup hx rx =>
        cases ry with
        | tup hy ry =>
          rename_i pa vs pb us
          have hl2 : vs.length + us.length ≤ sizeLine := by rw [rx.length, ry.length]; exact line_ok hl
          refine wOp_of op_catA ⟨pa, pb, vs, us, rfl, rfl, .of (sub_some hx).2, .of (sub_some hy).2, hl2, fun z => ?_, fun _ z => ?_, fun _ _ p hp => ?_⟩
          · subst z
            cases rx
            exact h _ _ ⟨e, .tup hy ry, fun l => by rw [hI l] at hy ry; exact .of_rp (.tup hy ry), fun _ _ _ z => by cases z⟩
          · subst z
            cases ry
            rw [List.append_nil] at h
            exact h _ _ ⟨e, .tup hx rx, fun l => by rw [hI l] at hx rx; exact .of_rp (.tup hx rx), fun _ _ _ z => by cases z⟩
          · exact h _ _ (post_tupN e c hp (rx.append ry) hI)
    · cases hb
  · rename_i xs ys
    split at hb
    · rename_i hl
      cases hb
      cases rx with
      | lst hx rx =>
        cases ry with
        | lst hy ry =>
          rename_i pa vs pb us
          have hl2 : vs.length + us.length ≤ sizeLine := by rw [rx.length, ry.length]; exact line_ok hl
          exact wOp_of op_catL ⟨pa, pb, vs, us, rfl, rfl, Same.sqL sub_same hx, Same.sqL sub_same hy, hl2, fun p hp => h _ _ (post_lst e c hp (rx.append ry) hI)⟩
    · cases hb
  · rename_i xs k
    split at hb
    · rename_i hl
      obtain ⟨hl, hl3⟩ := and_t hl
      obtain ⟨hl, hl4⟩ := and_t hl
      obtain ⟨hl1, hl2⟩ := and_t hl
      cases hb
      cases ry
      cases rx with
      | lst hx rx =>
        rename_i pa vs
        have q1 := of_decide_eq_true hl1
        have q2 := of_decide_eq_true hl2
        have q3 : vs.length * k.toNat ≤ sizeLine := by rw [rx.length]; exact line_ok (of_decide_eq_true hl3)
        exact wOp_of op_repL ⟨pa, k, vs, rfl, rfl, Same.sqL sub_same hx, by omega, by omega, q3, fun p hp => h _ _ (post_lst e c hp (rx.rep k.toNat) hI)⟩
    · cases hb
  · cases hb; exact int0 op_sub rfl rfl rfl rfl
  · split at hb
    · rename_i i j hs
      obtain ⟨h1, h2⟩ := and_t hs
      cases hb
      exact int2 op_mulW rfl rfl rfl (wide_mul (small_lt h1) (small_lt h2) (by decide) (by decide) (by decide)) rfl
    · cases hb
  · split at hb
    · rename_i i j hs
      obtain ⟨h1, h2⟩ := and_t hs
      cases hb
      exact int2 op_fdivW rfl rfl rfl (wide_div (of_decide_eq_true h1) (small_lt h2) (by decide) (by decide)) rfl
    · cases hb
  · split at hb
    · rename_i i j hs
      cases hb
      exact int2 op_mod rfl rfl rfl hs rfl
    · cases hb
  · split at hb
    · rename_i i j hs
      obtain ⟨h1, h2⟩ := and_t hs
      obtain ⟨h0, h1⟩ := and_t h1
      cases hb
      exact int2 op_shl rfl rfl rfl ⟨of_decide_eq_true h0, by have := of_decide_eq_true h1; omega, of_decide_eq_true h2⟩ rfl
    · cases hb
  · split at hb
    · rename_i i j hs
      cases hb
      exact int2 op_shr rfl rfl rfl hs rfl
    · cases hb
  · split at hb
    · rename_i i j hs
      obtain ⟨h1, h2⟩ := and_t hs
      cases hb
      refine int0 op_and rfl rfl rfl ?_
      unfold Builtin.bitAnd
      rw [h1, h2]
    · cases hb
  · split at hb
    · rename_i i j hs
      obtain ⟨h1, h2⟩ := and_t hs
      obtain ⟨h0, h1⟩ := and_t h1
      cases hb
      exact int2 op_pow rfl rfl rfl ⟨of_decide_eq_true h0, of_decide_eq_true h1, of_decide_eq_true h2⟩ rfl
    · cases hb
  · cases hb
theorem se_bin {op : Operator} {a b : RE} (ha : SE P N n NN own cm ci a) (hb : SE P N n NN own cm ci b) : SE P N n NN own cm ci (.bin op a b) := fun X W sc e env σ H A ad cur Q S hk F C h => by
  rw [chkE_bin] at hk
  split at hk
  case h_2 => cases hk
  case h_1 ea op' eb p =>
    obtain ⟨h1, h2⟩ := and_t hk
    obtain ⟨h2, h3⟩ := and_t h2
    obtain rfl : op = op' := of_decide_eq_true h1
    rw [evE_bin] at h
    refine toE (pe_op wOp_ok pe_w pe_w) ?_
    refine se_step ha S h2 F C (Same.refl H) h fun x vx H1 p1 e1 F1 C1 h1 => ?_
    refine se_step hb S h3 F1 C1 e1 h1 fun y vy H2 p2 e2 F2 C2 h2 => ?_
    have lk : leak own (.bin op a b) = false → leak own a = false ∧ leak own b = false := fun l => by
      unfold leak at l
      exact Bool.or_eq_false_iff.mp l
    cases hd : binD op x y with
    | no => rw [hd] at h2; exact h2.elim
    | ex z => unfold binD at hd; (split at hd <;> first | cases hd | (split at hd <;> cases hd))
    | ok d =>
      rw [hd] at h2
      exact bin_ok hd e2 F2.aok ((p1.rp.mono (sub_mono p2.same)).up fun l => (lk l).1) (p2.rp.up fun l => (lk l).2) h2

/-! ### tests -/
theorem tru_of {K : PySem.W.Frag} {H : Hp} {v : V} {d : D} {t : Bool} (r : Rp N K H v d) (h : truth d = .ok t) : TruV K v H t := by
  cases r with
  | non => cases h; rfl
  | bl b => cases h; rfl
  | int i => cases h; rfl
  | str x => cases h
  | tup hq r =>
    cases h
    refine .inr (.inl ⟨_, .of hq, ?_⟩)
    cases r <;> rfl
  | lst hq r =>
    cases h
    refine .inl ⟨_, hq, ?_⟩
    cases r <;> rfl
  | dic _ _ => cases h
  | dik _ _ => cases h
  | rng _ _ _ => cases h
  | dit _ _ => cases h
  | ins _ _ _ => cases h
theorem st_of_se {r : RE} (hr : SE P N n NN own cm ci r) (hp : ∀ sc e, chkE N NN own cm ci r sc false e = true → plainT e = true) : STt P N n NN own cm ci r := fun X W sc e env σ H A ad cur Q S hk F C h => by
  refine toT (pt_truth pe_w fun w => plainT_ok (hp sc e hk) X.env w) ?_
  refine hr X W sc e env σ H A ad cur _ S hk F C ?_
  cases he : evE (P.ctx n) cur r env with
  | ok d =>
    rw [he] at h
    intro v H' p
    have h' : match truth d with
      | .ok t => ∀ H', Same H H' → Q t H'
      | _ => False := h
    cases ht : truth d with
    | ok t => rw [ht] at h'; exact ⟨t, tru_of p.rp0 ht, h' H' p.same⟩
    | ex _ => rw [ht] at h'; exact h'.elim
    | no => rw [ht] at h'; exact h'.elim
  | ex x => rw [he] at h; exact h
  | no => rw [he] at h; exact h.elim
/-- an expression whose value is a bool, from its test's rule -/
theorem wT_bool {X : Cx} {op : CmpOp} {a b : Expr} {pos : Pos} {σ : L2.St} {H : Hp} {Q : Bool → Hp → Prop} (hm : behindInMarks op b = false) (h : wE X a σ H fun x H1 => wE X b σ H1 fun y H2 => wOp X (compareOp op) x y H2 fun z H3 => ∃ k, z = .bl k ∧ Q k H3) : wT X (.Compare a [op] [b] pos) σ H Q :=
  toT (pt_cmpR wOp_ok pe_w pe_w hm) h

/-! ### comparisons -/
theorem dat_dp {K : PySem.W.Frag} {H : Hp} : ∀ {v : V} {d : D}, Rp N K H v d → d.dat = true → Dp K H v d.py
  | _, _, .non, _ => .non
  | _, _, .bl b, _ => .bl b
  | _, _, .int b, _ => .int b
  | _, _, .str b, _ => .str b
  | _, _, .tup h r, n => .tup (.of h) (dats_dp r (by unfold D.dat at n; exact n))
  | _, _, .lst h r, n => .lst h (dats_dp r (by unfold D.dat at n; exact n))
  | _, _, .dic _ _, n => by unfold D.dat at n; cases n
  | _, _, .dik _ _, n => by unfold D.dat at n; cases n
  | _, _, .rng _ _ _, n => by unfold D.dat at n; cases n
  | _, _, .dit _ _, n => by unfold D.dat at n; cases n
  | _, _, .ins _ _ _ _, n => by unfold D.dat at n; cases n
where dats_dp {K : PySem.W.Frag} {H : Hp} : ∀ {vs : List V} {ds : List D}, Rps N K H vs ds → D.dats ds = true → DpAll K H vs (D.pys ds)
  | _, _, .nil, _ => .nil
  | _, _, .cons h r, n => by
    unfold D.dats at n
    obtain ⟨n1, n2⟩ := and_t n
    exact .cons (dat_dp h n1) (dats_dp r n2)
theorem flat_v {K : PySem.W.Frag} {H : Hp} {v : V} {d : D} (r : Rp N K H v d) (h : d.flat = true) : v = d.fv ∧ flatV v = true := by
  cases r <;> first | exact ⟨rfl, rfl⟩ | cases h
theorem flats_v {K : PySem.W.Frag} {H : Hp} : ∀ {vs : List V} {ds : List D}, Rps N K H vs ds → ds.all D.flat = true → vs = ds.map D.fv ∧ vs.all flatV = true
  | _, _, .nil, _ => ⟨rfl, rfl⟩
  | _, _, .cons h r, n => by
    rw [List.all_cons] at n
    obtain ⟨n1, n2⟩ := and_t n
    obtain ⟨e1, f1⟩ := flat_v h n1
    obtain ⟨e2, f2⟩ := flats_v r n2
    exact ⟨by rw [List.map_cons, ← e1, ← e2], by rw [List.all_cons, f1, f2]; rfl⟩
theorem any_fv (x : V) (xs : List D) : (xs.map D.fv).any (fun y => eqV y x) = xs.any fun y => eqV y.fv x := by rw [List.any_map]; rfl
/-- what == says -/
theorem eq_ok {X : Cx} {H : Hp} {x y : D} {vx vy : V} {t : Bool} (hu : X.A.units + 64 < cLine) (hb : eqD x y = .ok t) (rx : Rp N X.K H vx x) (ry : Rp N X.K H vy y) {Q : VK} :
    (Q (.bl t) H → wOp X (compareOp .Eq) vx vy H Q) ∧ (Q (.bl (!t)) H → wOp X (compareOp .NotEq) vx vy H Q) := by
  unfold eqD at hb
  split at hb
  · rename_i hc
    obtain ⟨h1, h4⟩ := and_t hc
    obtain ⟨h1, h3⟩ := and_t h1
    obtain ⟨h1, h2⟩ := and_t h1
    cases hb
    exact ⟨fun q => wOp_of (op_eqD hu) ⟨_, _, dat_dp rx h1, dat_dp ry h2, h3, h4, q⟩, fun q => wOp_of (op_neD hu) ⟨_, _, dat_dp rx h1, dat_dp ry h2, h3, h4, q⟩⟩
  · cases hb
theorem in_ok {X : Cx} {H : Hp} {x y : D} {vx vy : V} {t : Bool} (hb : inD x y = .ok t) (rx : Rp N X.K H vx x) (ry : Rp N X.K H vy y) {Q : VK} :
    (Q (.bl t) H → wOp X (compareOp .In) vx vy H Q) ∧ (Q (.bl (!t)) H → wOp X (compareOp .NotIn) vx vy H Q) := by
  unfold inD at hb
  split at hb
  · split at hb
    · rename_i hc
      obtain ⟨h1, h2⟩ := and_t hc
      cases hb
      cases ry with
      | tup hq r =>
        obtain ⟨e1, f1⟩ := flat_v rx h1
        obtain ⟨e2, f2⟩ := flats_v r h2
        subst e1; subst e2
        rw [← any_fv]
        exact ⟨fun q => wOp_of op_in_seq ⟨_, _, rfl, .inr (.of hq), f1, f2, q⟩, fun q => wOp_of op_notIn_seq ⟨_, _, rfl, .inr (.of hq), f1, f2, q⟩⟩
    · cases hb
  · split at hb
    · rename_i hc
      obtain ⟨h1, h2⟩ := and_t hc
      cases hb
      cases ry with
      | lst hq r =>
        obtain ⟨e1, f1⟩ := flat_v rx h1
        obtain ⟨e2, f2⟩ := flats_v r h2
        subst e1; subst e2
        rw [← any_fv]
        exact ⟨fun q => wOp_of op_in_seq ⟨_, _, rfl, .inl hq, f1, f2, q⟩, fun q => wOp_of op_notIn_seq ⟨_, _, rfl, .inl hq, f1, f2, q⟩⟩
    · cases hb
  · cases hb
theorem non_v {K : PySem.W.Frag} {H : Hp} {v : V} {d : D} (r : Rp N K H v d) : decide (v = .non) = d.isNon := by
  cases r <;> rfl
/-- a comparison's value is a bool -/
theorem cmp_ok {X : Cx} {H : Hp} {op : CmpOp} {x y d : D} {vx vy : V} {Q : VK} (hu : X.A.units + 64 < cLine) (hb : cmpD op x y = .ok d) (rx : Rp N X.K H vx x) (ry : Rp N X.K H vy y) (h : ∀ t, d = .bl t → Q (.bl t) H) : wOp X (compareOp op) vx vy H Q := by
  unfold cmpD at hb
  split at hb
  · cases hb; cases rx; cases ry; exact wOp_of op_lt ⟨_, _, rfl, rfl, h _ rfl⟩
  · cases hb; cases rx; cases ry; exact wOp_of op_le ⟨_, _, rfl, rfl, h _ rfl⟩
  · cases hb; cases rx; cases ry; exact wOp_of op_gt ⟨_, _, rfl, rfl, h _ rfl⟩
  · cases hb; cases rx; cases ry; exact wOp_of op_ge ⟨_, _, rfl, rfl, h _ rfl⟩
  · cases he : eqD x y with
    | ok t => rw [he] at hb; cases hb; exact (eq_ok hu he rx ry).1 (h _ rfl)
    | ex _ => rw [he] at hb; cases hb
    | no => rw [he] at hb; cases hb
  · cases he : eqD x y with
    | ok t => rw [he] at hb; cases hb; exact (eq_ok hu he rx ry).2 (h _ rfl)
    | ex _ => rw [he] at hb; cases hb
    | no => rw [he] at hb; cases hb
  · cases he : inD x y with
    | ok t => rw [he] at hb; cases hb; exact (in_ok he rx ry).1 (h _ rfl)
    | ex _ => rw [he] at hb; cases hb
    | no => rw [he] at hb; cases hb
  · cases he : inD x y with
    | ok t => rw [he] at hb; cases hb; exact (in_ok he rx ry).2 (h _ rfl)
    | ex _ => rw [he] at hb; cases hb
    | no => rw [he] at hb; cases hb
  · cases hb
    cases ry
    exact wOp_of op_isN ⟨rfl, by rw [non_v rx]; exact h _ rfl⟩
  · cases hb
    cases ry
    exact wOp_of op_notN ⟨rfl, by rw [non_v rx]; exact h _ rfl⟩
  · cases hb
    cases rx
    cases ry
    exact wOp_of op_isBl ⟨_, _, rfl, rfl, h _ rfl⟩
  · cases hb
theorem cmp_noex {op : CmpOp} {x y : D} {z : Exn} : cmpD op x y ≠ .ex z := fun h => by
  unfold cmpD at h
  have e1 : eqD x y ≠ .ex z := fun q => by unfold eqD at q; split at q <;> cases q
  have e2 : inD x y ≠ .ex z := fun q => by unfold inD at q; split at q <;> first | cases q | (split at q <;> cases q)
  split at h <;> first
    | cases h
    | (cases he : eqD x y with
      | ok t => rw [he] at h; cases h
      | ex _ => rw [he] at h; cases h; exact e1 he
      | no => rw [he] at h; cases h)
    | (cases he : inD x y with
      | ok t => rw [he] at h; cases h
      | ex _ => rw [he] at h; cases h; exact e2 he
      | no => rw [he] at h; cases h)
theorem se_cmp {op : CmpOp} {a b : RE} (ha : SE P N n NN own cm ci a) (hb : SE P N n NN own cm ci b) : SE P N n NN own cm ci (.cmp op a b) := fun X W sc e env σ H A ad cur Q S hk F C h => by
  rw [chkE_cmp] at hk
  split at hk
  case h_2 => cases hk
  case h_1 ea op' eb p =>
    obtain ⟨h1, h2⟩ := and_t hk
    obtain ⟨h0, h2⟩ := and_t h2
    obtain ⟨h2, h3⟩ := and_t h2
    obtain rfl : op = op' := of_decide_eq_true h1
    rw [evE_cmp] at h
    refine toE (pe_cmpR wOp_ok pe_w pe_w (ord_mark h0 _)) ?_
    refine se_step ha S h2 F C (Same.refl H) h fun x vx H1 p1 e1 F1 C1 h1 => ?_
    refine se_step hb S h3 F1 C1 e1 h1 fun y vy H2 p2 e2 F2 C2 h2 => ?_
    cases hd : cmpD op x y with
    | no => rw [hd] at h2; exact h2.elim
    | ex z => exact absurd hd cmp_noex
    | ok d =>
      rw [hd] at h2
      refine cmp_ok S.hu hd (p1.rp0.mono p2.same) p2.rp0 fun t ht => ?_
      subst ht
      exact h2 _ _ (.flats e2 (fun _ => .bl t) trivial rfl)
theorem st_cmp {op : CmpOp} {a b : RE} (ha : SE P N n NN own cm ci a) (hb : SE P N n NN own cm ci b) : STt P N n NN own cm ci (.cmp op a b) := fun X W sc e env σ H A ad cur Q S hk F C h => by
  rw [chkE_cmp] at hk
  split at hk
  case h_2 => cases hk
  case h_1 ea op' eb p =>
    obtain ⟨h1, h2⟩ := and_t hk
    obtain ⟨h0, h2⟩ := and_t h2
    obtain ⟨h2, h3⟩ := and_t h2
    obtain rfl : op = op' := of_decide_eq_true h1
    refine wT_bool (ord_mark h0 _) ?_
    rw [evE_cmp] at h
    have hh : WPE N X.K W own (.cmp op a b) σ H A ((evE (P.ctx n) cur a env).bd fun x => (evE (P.ctx n) cur b env).bd fun y => cmpD op x y) (fun z H3 => ∃ k, z = .bl k ∧ Q k H3) := by
      generalize hz : ((evE (P.ctx n) cur a env).bd fun x => (evE (P.ctx n) cur b env).bd fun y => cmpD op x y) = z at h ⊢
      cases z with
      | no => exact h
      | ex x => exact h
      | ok d =>
        intro v H' pp
        have hb : ∃ t, d = .bl t := by
          cases h1 : evE (P.ctx n) cur a env with
          | no => rw [h1] at hz; cases hz
          | ex _ => rw [h1] at hz; cases hz
          | ok x =>
            rw [h1] at hz
            cases h2 : evE (P.ctx n) cur b env with
            | no => rw [h2] at hz; cases hz
            | ex _ => rw [h2] at hz; cases hz
            | ok y =>
              rw [h2] at hz
              have hz : cmpD op x y = .ok d := hz
              unfold cmpD at hz
              split at hz <;> first
                | (cases hz; done)
                | (cases hz; exact ⟨_, rfl⟩)
                | (cases he : eqD x y with
                  | ok t => rw [he] at hz; cases hz; exact ⟨_, rfl⟩
                  | ex _ => rw [he] at hz; cases hz
                  | no => rw [he] at hz; cases hz)
                | (cases he : inD x y with
                  | ok t => rw [he] at hz; cases hz; exact ⟨_, rfl⟩
                  | ex _ => rw [he] at hz; cases hz
                  | no => rw [he] at hz; cases hz)
        obtain ⟨t, rfl⟩ := hb
        have rr := pp.rp0
        cases rr
        exact ⟨t, rfl, h H' pp.same⟩
    refine se_step ha S h2 F C (Same.refl H) hh fun x vx H1 p1 e1 F1 C1 h1 => ?_
    refine se_step hb S h3 F1 C1 e1 h1 fun y vy H2 p2 e2 F2 C2 h2 => ?_
    cases hd : cmpD op x y with
    | no => rw [hd] at h2; exact h2.elim
    | ex z => exact absurd hd cmp_noex
    | ok d =>
      rw [hd] at h2
      refine cmp_ok S.hu hd (p1.rp0.mono p2.same) p2.rp0 fun t ht => ?_
      subst ht
      exact h2 _ _ (.flats e2 (fun _ => .bl t) trivial rfl)
end
end PD
end

section
set_option Elab.async false
set_option linter.all false
set_option maxRecDepth 100000
/-! PD7: more forms of expression. -/
namespace PD
open PySem PySem.Spec PyProof.Rows L2
section
variable {P : Prog} {N : Info} {n : Nat} {NN : List Str} {own : List Nat} {cm : Bool} {ci : Nat}

theorem PostE.mk' {K : PySem.W.Frag} {H H' : Hp} {A : List Addr} {r : RE} {d : D} {v : V} (e : Same H H') (rp : Rp N K (sub H' (bA (leak own r) A)) v d) (hI : leakI own r = false → leak own r = false) (hf : fresh N r = false) : PostE N K H A own r d v H' :=
  ⟨e, rp, fun l => by rw [hI l] at rp; exact .of_rp rp, fun z => by rw [hf] at z; cases z⟩
/-- the same of another text -/
theorem PostE.as {K : PySem.W.Frag} {H H0 H' : Hp} {A : List Addr} {r r' : RE} {d : D} {v : V} (p : PostE N K H A own r d v H') (e : Same H0 H) (le : leak own r' = false → leak own r = false) (hI : leakI own r' = false → leak own r' = false) (hf : fresh N r' = false) : PostE N K H0 A own r' d v H' :=
  .mk' (e.trans p.same) (p.rp.up le) hI hf

theorem PostE.items' {K : PySem.W.Frag} {H H' : Hp} {A : List Addr} {r : RE} {d : D} {v : V} (p : PostE N K H A own r d v H') : Itc N K H' (bA (leakI own r) A) v d := by
  cases q : leakI own r with
  | false => exact p.it q
  | true =>
    have r0 := p.rp0
    refine .of_rp ?_
    show Rp N K (sub H' []) v d
    rw [sub_nil]
    exact r0
theorem se_neg {a : RE} (ha : SE P N n NN own cm ci a) : SE P N n NN own cm ci (.neg a) := fun X W sc e env σ H A ad cur Q S hk F C h => by
  rw [chkE_neg] at hk
  split at hk
  case h_2 => cases hk
  case h_1 ea p =>
    rw [evE_neg] at h
    refine toE (pe_un un_neg pe_w) ?_
    refine se_step ha S hk F C (Same.refl H) h fun x vx H1 p1 e1 F1 C1 h1 => ?_
    have rp := p1.rp0
    cases rp <;> first | exact h1.elim | skip
    exact ⟨_, rfl, h1 _ _ (.flats e1 (fun _ => .int _) trivial rfl)⟩

/-! ### and, or, not, if -/
theorem se_and {a b : RE} (ha : SE P N n NN own cm ci a) (hb : SE P N n NN own cm ci b) : SE P N n NN own cm ci (.and a b) := fun X W sc e env σ H A ad cur Q S hk F C h => by
  rw [chkE_and] at hk
  rw [evE_and] at h
  have main : ∀ (ea : Expr) (te : TE), chkE N NN own cm ci a sc false ea = true → (∀ (H1 : Hp), Same H H1 → Frm N X.K own env σ H1 A ad → CurOk N X A σ H1 cm cur ci → WPE N X.K W own b σ H1 A (evE (P.ctx n) cur b env) Q → te σ H1 Q) → tAndV (wE X ea) te σ H Q := fun ea te k1 k2 => by
    refine se_step ha S k1 F C (Same.refl H) h fun x vx H1 p1 e1 F1 C1 h1 => ?_
    have rp := p1.rp0
    cases rp <;> first | exact h1.elim | skip
    rename_i t
    refine ⟨t, rfl, ?_⟩
    cases t with
    | true =>
      rw [if_pos rfl]
      refine k2 H1 e1 F1 C1 ?_
      have h1 : WPE N X.K W own (.and a b) σ H A (evE (P.ctx n) cur b env) Q := h1
      cases hb : evE (P.ctx n) cur b env with
      | ok d => rw [hb] at h1; exact fun v H' p => h1 v H' (p.as e1 id id rfl)
      | ex x => rw [hb] at h1; exact fun cls dx H' p => h1 cls dx H' (p.back e1)
      | no => rw [hb] at h1; exact h1
    | false =>
      rw [if_neg (by decide)]
      exact h1 _ _ (.flats e1 (fun _ => .bl false) trivial rfl)
  split at hk
  case h_3 => cases hk
  case h_1 ea eb p =>
    obtain ⟨k1, k2⟩ := and_t hk
    exact toE (pe_and pe_w (pe_one pe_w)) (main ea _ k1 fun H1 e1 F1 C1 h1 => hb X W sc eb env σ H1 A ad cur Q S k2 F1 C1 h1)
  case h_2 ea eb ec es p =>
    obtain ⟨k1, k2⟩ := and_t hk
    exact toE (pe_and pe_w pe_w) (main ea _ k1 fun H1 e1 F1 C1 h1 => hb X W sc _ env σ H1 A ad cur Q S k2 F1 C1 h1)
theorem se_or {a b : RE} (ha : SE P N n NN own cm ci a) (hb : SE P N n NN own cm ci b) : SE P N n NN own cm ci (.or a b) := fun X W sc e env σ H A ad cur Q S hk F C h => by
  rw [chkE_or] at hk
  rw [evE_or] at h
  have main : ∀ (ea : Expr) (te : TE), chkE N NN own cm ci a sc false ea = true → (∀ (H1 : Hp), Same H H1 → Frm N X.K own env σ H1 A ad → CurOk N X A σ H1 cm cur ci → WPE N X.K W own b σ H1 A (evE (P.ctx n) cur b env) Q → te σ H1 Q) → tOrV (wE X ea) te σ H Q := fun ea te k1 k2 => by
    refine se_step ha S k1 F C (Same.refl H) h fun x vx H1 p1 e1 F1 C1 h1 => ?_
    have rp := p1.rp0
    cases rp <;> first | exact h1.elim | skip
    rename_i t
    refine ⟨t, rfl, ?_⟩
    cases t with
    | false =>
      rw [if_neg (by decide)]
      refine k2 H1 e1 F1 C1 ?_
      have h1 : WPE N X.K W own (.or a b) σ H A (evE (P.ctx n) cur b env) Q := h1
      cases hb : evE (P.ctx n) cur b env with
      | ok d => rw [hb] at h1; exact fun v H' p => h1 v H' (p.as e1 id id rfl)
      | ex x => rw [hb] at h1; exact fun cls dx H' p => h1 cls dx H' (p.back e1)
      | no => rw [hb] at h1; exact h1
    | true =>
      rw [if_pos rfl]
      exact h1 _ _ (.flats e1 (fun _ => .bl true) trivial rfl)
  split at hk
  case h_3 => cases hk
  case h_1 ea eb p =>
    obtain ⟨k1, k2⟩ := and_t hk
    exact toE (pe_or pe_w (pe_one pe_w)) (main ea _ k1 fun H1 e1 F1 C1 h1 => hb X W sc eb env σ H1 A ad cur Q S k2 F1 C1 h1)
  case h_2 ea eb ec es p =>
    obtain ⟨k1, k2⟩ := and_t hk
    exact toE (pe_or pe_w pe_w) (main ea _ k1 fun H1 e1 F1 C1 h1 => hb X W sc _ env σ H1 A ad cur Q S k2 F1 C1 h1)
/-- a test's outcomes are the value's -/
theorem wpt_cases {K : PySem.W.Frag} {W : WX} {σ : L2.St} {H : Hp} {A : List Addr} {res : R D} {Q : Bool → Hp → Prop} (h : WPT N K W σ H A res Q) :
    (∃ d t, res = .ok d ∧ truth d = .ok t ∧ ∀ H', Same H H' → Q t H') ∨ (∃ x, res = .ex x ∧ ∀ cls dx H', PostX N K H A x cls dx H' → W cls dx σ H') := by
  cases res with
  | ok d =>
    have h : match truth d with
      | .ok t => ∀ H', Same H H' → Q t H'
      | _ => False := h
    cases ht : truth d with
    | ok t => rw [ht] at h; exact .inl ⟨d, t, rfl, ht, h⟩
    | ex _ => rw [ht] at h; exact h.elim
    | no => rw [ht] at h; exact h.elim
  | ex x => exact .inr ⟨x, rfl, h⟩
  | no => exact h.elim
theorem wpt_of {K : PySem.W.Frag} {W : WX} {σ : L2.St} {H : Hp} {A : List Addr} {d : D} {t : Bool} {Q : Bool → Hp → Prop} (ht : truth d = .ok t) (h : ∀ H', Same H H' → Q t H') : WPT N K W σ H A (.ok d) Q := by
  show match truth d with
      | .ok t => ∀ H', Same H H' → Q t H'
      | _ => False
  rw [ht]
  exact h
theorem wpt_back {K : PySem.W.Frag} {W : WX} {σ : L2.St} {H H1 : Hp} {A : List Addr} {res : R D} {Q : Bool → Hp → Prop} (e : Same H H1) (h : WPT N K W σ H A res Q) : WPT N K W σ H1 A res Q := by
  rcases wpt_cases h with ⟨d, t, rfl, ht, h⟩ | ⟨x, rfl, h⟩
  · exact wpt_of ht fun H' s => h H' (e.trans s)
  · exact fun cls dx H' p => h cls dx H' (p.back e)
theorem pw_of_pt {X : Cx} {op : BoolOp} {es : List Expr} {pos : Pos} {t : TT} (h : PT X (.BoolOp op es pos) t) : PW X (.BoolOp op es pos) t := ⟨fun _ pins s σ H Q I hw => h.run pins s σ H Q I hw⟩
theorem st_and {a b : RE} (ha : STt P N n NN own cm ci a) (hb : STt P N n NN own cm ci b) : STt P N n NN own cm ci (.and a b) := fun X W sc e env σ H A ad cur Q S hk F C h => by
  rw [chkE_and] at hk
  rw [evE_and] at h
  have main : ∀ (ea : Expr) (te : TT), chkE N NN own cm ci a sc false ea = true → (∀ (H1 : Hp), Same H H1 → Frm N X.K own env σ H1 A ad → CurOk N X A σ H1 cm cur ci → WPT N X.K W σ H1 A (evE (P.ctx n) cur b env) Q → te σ H1 Q) → tAnd (wT X ea) te σ H Q := fun ea te k1 k2 => by
    refine st_step ha S k1 F C (fun x hx => ?_) (fun z => ?_) fun d hd => ?_
    · rw [hx] at h; exact h
    · rw [z] at h; exact h
    · rw [hd] at h
      cases d <;> first | exact h.elim | skip
      rename_i t
      refine ⟨t, rfl, fun H1 s F1 C1 => ?_⟩
      cases t with
      | true => rw [if_pos rfl]; exact k2 H1 s F1 C1 (wpt_back s h)
      | false => rw [if_neg (by decide)]; exact h H1 s
  split at hk
  case h_3 => cases hk
  case h_1 ea eb p =>
    obtain ⟨k1, k2⟩ := and_t hk
    exact toT (pw_and pt_w (pw_and1 pt_w)).pt (main ea _ k1 fun H1 e1 F1 C1 h1 => hb X W sc eb env σ H1 A ad cur Q S k2 F1 C1 h1)
  case h_2 ea eb ec es p =>
    obtain ⟨k1, k2⟩ := and_t hk
    exact toT (pw_and pt_w (pw_of_pt pt_w)).pt (main ea _ k1 fun H1 e1 F1 C1 h1 => hb X W sc _ env σ H1 A ad cur Q S k2 F1 C1 h1)
theorem st_or {a b : RE} (ha : STt P N n NN own cm ci a) (hb : STt P N n NN own cm ci b) : STt P N n NN own cm ci (.or a b) := fun X W sc e env σ H A ad cur Q S hk F C h => by
  rw [chkE_or] at hk
  rw [evE_or] at h
  have main : ∀ (ea : Expr) (te : TT), chkE N NN own cm ci a sc false ea = true → (∀ (H1 : Hp), Same H H1 → Frm N X.K own env σ H1 A ad → CurOk N X A σ H1 cm cur ci → WPT N X.K W σ H1 A (evE (P.ctx n) cur b env) Q → te σ H1 Q) → tOr (wT X ea) te σ H Q := fun ea te k1 k2 => by
    refine st_step ha S k1 F C (fun x hx => ?_) (fun z => ?_) fun d hd => ?_
    · rw [hx] at h; exact h
    · rw [z] at h; exact h
    · rw [hd] at h
      cases d <;> first | exact h.elim | skip
      rename_i t
      refine ⟨t, rfl, fun H1 s F1 C1 => ?_⟩
      cases t with
      | true => rw [if_pos rfl]; exact h H1 s
      | false => rw [if_neg (by decide)]; exact k2 H1 s F1 C1 (wpt_back s h)
  split at hk
  case h_3 => cases hk
  case h_1 ea eb p =>
    obtain ⟨k1, k2⟩ := and_t hk
    exact toT (pw_or pt_w (pw_or1 pt_w)).pt (main ea _ k1 fun H1 e1 F1 C1 h1 => hb X W sc eb env σ H1 A ad cur Q S k2 F1 C1 h1)
  case h_2 ea eb ec es p =>
    obtain ⟨k1, k2⟩ := and_t hk
    exact toT (pw_or pt_w (pw_of_pt pt_w)).pt (main ea _ k1 fun H1 e1 F1 C1 h1 => hb X W sc _ env σ H1 A ad cur Q S k2 F1 C1 h1)
theorem se_not {a : RE} (ha : SE P N n NN own cm ci a) : SE P N n NN own cm ci (.not a) := fun X W sc e env σ H A ad cur Q S hk F C h => by
  rw [chkE_not] at hk
  split at hk
  case h_2 => cases hk
  case h_1 ea p =>
    rw [evE_not] at h
    refine toE (pe_not pe_w) ?_
    refine se_step ha S hk F C (Same.refl H) h fun x vx H1 p1 e1 F1 C1 h1 => ?_
    have rp := p1.rp0
    cases rp <;> first | exact h1.elim | skip
    exact ⟨_, rfl, h1 _ _ (.flats e1 (fun _ => .bl _) trivial rfl)⟩
theorem st_not {a : RE} (ha : STt P N n NN own cm ci a) : STt P N n NN own cm ci (.not a) := fun X W sc e env σ H A ad cur Q S hk F C h => by
  rw [chkE_not] at hk
  split at hk
  case h_2 => cases hk
  case h_1 ea p =>
    rw [evE_not] at h
    refine toT (pt_not pt_w) ?_
    refine st_step ha S hk F C (fun x hx => ?_) (fun z => ?_) fun d hd => ?_
    · rw [hx] at h; exact h
    · rw [z] at h; exact h
    · rw [hd] at h
      cases d <;> first | exact h.elim | skip
      exact ⟨_, rfl, fun H1 s _ _ => h H1 s⟩
theorem se_ife {c a b : RE} (hc : STt P N n NN own cm ci c) (ha : SE P N n NN own cm ci a) (hb : SE P N n NN own cm ci b) : SE P N n NN own cm ci (.ife c a b) := fun X W sc e env σ H A ad cur Q S hk F C h => by
  rw [chkE_ife] at hk
  split at hk
  case h_2 => cases hk
  case h_1 ec ea eb p =>
    obtain ⟨k1, k2⟩ := and_t hk
    obtain ⟨k2, k3⟩ := and_t k2
    rw [evE_ife] at h
    have lk : leak own (.ife c a b) = false → leak own a = false ∧ leak own b = false := fun l => by
      unfold leak at l
      exact Bool.or_eq_false_iff.mp l
    refine toE (pe_ifExp pt_w pe_w pe_w) ?_
    refine st_step hc S k1 F C (fun x hx => ?_) (fun z => ?_) fun d hd => ?_
    · rw [hx] at h; exact h
    · rw [z] at h; exact h
    · rw [hd] at h
      cases d <;> first | exact h.elim | skip
      rename_i t
      refine ⟨t, rfl, fun H1 s F1 C1 => ?_⟩
      cases t with
      | true =>
        rw [if_pos rfl]
        refine ha X W sc ea env σ H1 A ad cur Q S k2 F1 C1 ?_
        have h1 : WPE N X.K W own (.ife c a b) σ H A (evE (P.ctx n) cur a env) Q := h
        cases hb : evE (P.ctx n) cur a env with
        | ok d => rw [hb] at h1; exact fun v H' p => h1 v H' (p.as s (fun l => (lk l).1) id rfl)
        | ex x => rw [hb] at h1; exact fun cls dx H' p => h1 cls dx H' (p.back s)
        | no => rw [hb] at h1; exact h1
      | false =>
        rw [if_neg (by decide)]
        refine hb X W sc eb env σ H1 A ad cur Q S k3 F1 C1 ?_
        have h1 : WPE N X.K W own (.ife c a b) σ H A (evE (P.ctx n) cur b env) Q := h
        cases hb : evE (P.ctx n) cur b env with
        | ok d => rw [hb] at h1; exact fun v H' p => h1 v H' (p.as s (fun l => (lk l).2) id rfl)
        | ex x => rw [hb] at h1; exact fun cls dx H' p => h1 cls dx H' (p.back s)
        | no => rw [hb] at h1; exact h1
theorem st_ife {c a b : RE} (hc : STt P N n NN own cm ci c) (ha : STt P N n NN own cm ci a) (hb : STt P N n NN own cm ci b) : STt P N n NN own cm ci (.ife c a b) := fun X W sc e env σ H A ad cur Q S hk F C h => by
  rw [chkE_ife] at hk
  split at hk
  case h_2 => cases hk
  case h_1 ec ea eb p =>
    obtain ⟨k1, k2⟩ := and_t hk
    obtain ⟨k2, k3⟩ := and_t k2
    rw [evE_ife] at h
    have go : wT X ec σ H fun c H1 => if c = true then wT X ea σ H1 Q else wT X eb σ H1 Q := by
      refine st_step hc S k1 F C (fun x hx => ?_) (fun z => ?_) fun d hd => ?_
      · rw [hx] at h; exact h
      · rw [z] at h; exact h
      · rw [hd] at h
        cases d <;> first | exact h.elim | skip
        rename_i t
        refine ⟨t, rfl, fun H1 s F1 C1 => ?_⟩
        cases t with
        | true => rw [if_pos rfl]; exact ha X W sc ea env σ H1 A ad cur Q S k2 F1 C1 (wpt_back s h)
        | false => rw [if_neg (by decide)]; exact hb X W sc eb env σ H1 A ad cur Q S k3 F1 C1 (wpt_back s h)
    intro pins s I
    refine isTrue_IfExp (thn (go pins s I) fun t s1 ⟨H1, I1, q⟩ => ?_)
    cases t with
    | true => rw [if_pos rfl] at q ⊢; exact q pins s1 I1
    | false => rw [if_neg (by decide)] at q ⊢; exact q pins s1 I1

/-! ### displays -/
theorem sa_nil : SA P N n NN own cm ci .nil := fun X W sc es env σ H A ad cur Q S hk F C h => by
  rw [chkA_nil] at hk
  cases es with
  | nil => exact toA pa_nil (h [] H (Same.refl H) .nil)
  | cons _ _ => cases hk
theorem sa_cons {a r : RE} (ha : SE P N n NN own cm ci a) (hr : SA P N n NN own cm ci r) : SA P N n NN own cm ci (.cons a r) := fun X W sc es env σ H A ad cur Q S hk F C h => by
  rw [chkA_cons] at hk
  split at hk
  case h_2 => cases hk
  case h_1 e es =>
    obtain ⟨k0, k1⟩ := and_t hk
    obtain ⟨k1, k2⟩ := and_t k1
    rw [evE_cons] at h
    have lk : leak own (.cons a r) = false → leak own a = false ∧ leak own r = false := fun l => by
      unfold leak at l
      exact Bool.or_eq_false_iff.mp l
    refine toA (pa_cons pe_w pa_w (ord_star k0 es X.env)) ?_
    refine ha X W sc e env σ H A ad cur _ S k1 F C ?_
    cases he : evE (P.ctx n) cur a env with
    | no => rw [he] at h; exact h.elim
    | ex x => rw [he] at h; exact h
    | ok x =>
      rw [he] at h
      intro v H1 p1
      refine hr X W sc es env σ H1 A ad cur _ S k2 (F.mono p1.same) (C.mono p1.same) ?_
      have h : WPA N X.K W own (.cons a r) σ H A ((evE (P.ctx n) cur r env).bd fun y => match y with
        | .tup ys => .ok (.tup (x :: ys))
        | _ => .no) Q := h
      cases hr : evE (P.ctx n) cur r env with
      | no => rw [hr] at h; exact h.elim
      | ex x => rw [hr] at h; exact fun cls dx H' p => h cls dx H' (p.back p1.same)
      | ok y =>
        rw [hr] at h
        cases y <;> first | exact h.elim | skip
        exact fun vs H2 s2 rp => h (v :: vs) H2 (p1.same.trans s2) (.cons ((p1.rp.mono (sub_mono s2)).up fun l => (lk l).1) (rp.up fun l => (lk l).2))
theorem leak_star {a r : RE} : leak own (.star a r) = (leakI own a || leak own r) := by cases a <;> first | rfl | (rename_i a; cases a <;> rfl)
theorem sa_star {a r : RE} (ha : SE P N n NN own cm ci a) (hr : SA P N n NN own cm ci r) : SA P N n NN own cm ci (.star a r) := fun X W sc es env σ H A ad cur Q S hk F C h => by
  rw [chkA_star] at hk
  split at hk
  case h_2 => cases hk
  case h_1 e p es =>
    obtain ⟨k1, k2⟩ := and_t hk
    rw [evE_star] at h
    have lk : leak own (.star a r) = false → leakI own a = false ∧ leak own r = false := fun l => by
      rw [leak_star] at l
      exact Bool.or_eq_false_iff.mp l
    refine toA (StX.pa_star pe_w pa_w) ?_
    refine ha X W sc e env σ H A ad cur _ S k1 F C ?_
    cases he : evE (P.ctx n) cur a env with
    | no => rw [he] at h; exact h.elim
    | ex x => rw [he] at h; exact h
    | ok x =>
      rw [he] at h
      intro v H1 p1
      have go : ∀ {pa : Addr} {vs : List V} {xs : List D}, v = .ref pa → (SqT X.K H1 pa vs ∨ SqL X.K H1 pa vs) → Rps N X.K (sub H1 (bA (leakI own a) A)) vs xs → itemsOf x = .ok xs → ∃ p ys, v = V.ref p ∧ (SqT X.K H1 p ys ∨ SqL X.K H1 p ys) ∧ wA X es σ H1 fun zs H2 => Q (ys ++ zs) H2 := by
        intro pa vs xs e1 hs rs hi
        refine ⟨pa, vs, e1, hs, ?_⟩
        refine hr X W sc es env σ H1 A ad cur _ S k2 (F.mono p1.same) (C.mono p1.same) ?_
        have h : WPA N X.K W own (.star a r) σ H A ((itemsOf x).bd fun xs => (evE (P.ctx n) cur r env).bd fun y => match y with
          | .tup ys => .ok (.tup (xs ++ ys))
          | _ => .no) Q := h
        rw [hi] at h
        have h : WPA N X.K W own (.star a r) σ H A ((evE (P.ctx n) cur r env).bd fun y => match y with
          | .tup ys => .ok (.tup (xs ++ ys))
          | _ => .no) Q := h
        cases hr : evE (P.ctx n) cur r env with
        | no => rw [hr] at h; exact h.elim
        | ex x => rw [hr] at h; exact fun cls dx H' p => h cls dx H' (p.back p1.same)
        | ok y =>
          rw [hr] at h
          cases y <;> first | exact h.elim | skip
          exact fun us H2 s2 rp => h (vs ++ us) H2 (p1.same.trans s2) (Rps.append ((rs.mono (sub_mono s2)).up fun l => (lk l).1) (rp.up fun l => (lk l).2))
      have it := PostE.items' p1
      cases x with
      | lst xs => obtain ⟨pa, vs, rfl, h1, rs⟩ := it; exact go rfl (.inr h1) rs rfl
      | tup xs => obtain ⟨pa, vs, rfl, h1, rs⟩ := it; exact go rfl (.inl (.inl (.of h1))) rs rfl
      | _ => exact h.elim
theorem se_tup {es : RE} (hs : SA P N n NN own cm ci es) : SE P N n NN own cm ci (.tup es) := fun X W sc e env σ H A ad cur Q S hk F C h => by
  rw [chkE_tup] at hk
  split at hk
  case h_2 => cases hk
  case h_1 ees k p =>
    rw [evE_tup] at h
    refine toE (pe_tup pa_w) ?_
    refine sa_step (f := fun y => match y with
      | .tup ys => if ys.length ≤ maxLen then .ok (.tup ys) else .no
      | _ => .no) hs S hk F C (Same.refl H) h fun xs vs H1 s1 rp e1 F1 C1 h1 => ?_
    have h1 : WPE N X.K W own (.tup es) σ H A (if xs.length ≤ maxLen then .ok (.tup xs) else .no) Q := h1
    split at h1
    · rename_i hl
      exact ⟨by rw [rp.length]; exact line_ok hl, fun p hp => h1 _ _ (post_tup e1 F1.aok hp rp id rfl)⟩
    · exact h1.elim
theorem se_lst {es : RE} (hs : SA P N n NN own cm ci es) : SE P N n NN own cm ci (.lst es) := fun X W sc e env σ H A ad cur Q S hk F C h => by
  rw [chkE_lst] at hk
  split at hk
  case h_2 => cases hk
  case h_1 ees p =>
    rw [evE_lst] at h
    refine toE (pe_lst pa_w) ?_
    refine sa_step (f := fun y => match y with
      | .tup ys => if ys.length ≤ maxLen then .ok (.lst ys) else .no
      | _ => .no) hs S hk F C (Same.refl H) h fun xs vs H1 s1 rp e1 F1 C1 h1 => ?_
    have h1 : WPE N X.K W own (.lst es) σ H A (if xs.length ≤ maxLen then .ok (.lst xs) else .no) Q := h1
    split at h1
    · rename_i hl
      exact ⟨by rw [rp.length]; exact line_ok hl, fun p hp => h1 _ _ (post_lst e1 F1.aok hp rp id)⟩
    · exact h1.elim
end
end PD
end

section
set_option Elab.async false
set_option linter.all false
set_option maxRecDepth 100000
/-! PD8: subscripts, fields, calls. -/
namespace PD
open PySem PySem.Spec PyProof.Rows L2
section
variable {P : Prog} {N : Info} {n : Nat} {NN : List Str} {own : List Nat} {cm : Bool} {ci : Nat}

theorem PostE.items {K : PySem.W.Frag} {H H' : Hp} {A : List Addr} {r : RE} {d : D} {v : V} (p : PostE N K H A own r d v H') : Itc N K H' (bA (leakI own r) A) v d := by
  cases hl : leakI own r with
  | false => exact p.it hl
  | true =>
    refine .of_rp ?_
    show Rp N K (sub H' []) v d
    rw [sub_nil]
    exact p.rp0
theorem leak_item {a i : RE} : leak own (.item a i) = leakI own a := by cases a <;> first | rfl | (rename_i a; cases a <;> rfl)
theorem leak_cut {a i j : RE} : leak own (.cut a i j) = leakI own a := by cases a <;> first | rfl | (rename_i a; cases a <;> rfl)
theorem leak_attr {a : RE} {f : Nat} : leak own (.attr a f) = leakI own a := by cases a <;> first | rfl | (rename_i a; cases a <;> rfl)

/-! ### a[i] -/
def wIx (X : Cx) : R2 := fun x y H Q => ∀ (value slice : Expr) pins s σ v u, Inv X pins σ H s → RelV x v → RelV y u → subscripted slice false v u = operate [v, u] (getItem v u) → wpAny (model X.prog X.w) X.A (subscriptTail value slice v u) (EP X pins σ Q) X.xe s
theorem wIx_ok {X : Cx} : IxR X (wIx X) := fun value slice pins s σ H x y v u Q I r1 r2 h hs => h value slice pins s σ v u I r1 r2 hs
theorem wIx_of {X : Cx} {r : R2} (o : IxR X r) {x y : V} {H : Hp} {Q : VK} (h : r x y H Q) : wIx X x y H Q := fun value slice pins s σ v u I r1 r2 hs => o value slice pins s σ H x y v u Q I r1 r2 h hs
theorem tail_any {prog : Program} {w : World} {A : Around} {E : Value → Shared → Prop} {s : Shared} {value slice : Expr} {o i : Value} {T id : String} {Q : Value → Shared → Prop}
    (hl : typeLookup (.type T) "__getitem__" = pure (some (.builtin id))) (hT : s.TypeIs o T) (hs : subscripted slice false o i = operate [o, i] (getItem o i)) (h : wpAny (model prog w) A (getItem o i) Q E s) :
    wpAny (model prog w) A (subscriptTail value slice o i) Q E s := by
  have last : wpAny (model prog w) A (subscripted slice false o i) (fun r s₃ => wpAny (model prog w) A (letTemporaryGo value o r >>= fun _ => pure r) Q E s₃) E s := by
    rw [hs]
    exact wpAny_operating (wpAny_mono h (fun r s₃ q => wpAny_bind (wpAny_letTemporaryGo (wpAny_pure q))) fun _ _ x => x)
  unfold subscriptTail
  refine wpAny_bind ?_
  rw [getitemInPython_of_ne hT.not_modules]
  refine wpAny_bind (wpAny_specialOf hT hl ?_)
  first
    | exact wpAny_pure (wpAny_bind last)
    | exact wpAny_bind (wpAny_pure (wpAny_bind last))
    | exact wpAny_bind last
theorem ix_dict {X : Cx} (hu : X.A.units + 1 < cLine) : IxR X (fun x y H Q => ∃ a v, x = .ref a ∧ DGet H a y (some v) ∧ Q v H) := by
  intro value slice pins s σ H x y v u Q I rx ry h hs
  obtain ⟨a, z, rfl, g, q⟩ := h
  cases rx
  exact tail_any PySem.F.slot_dict_getitem.lookup (dict_typeIs I g) hs (d_getItem hu I g ry fun w' s3 I3 rw' => ⟨z, H, I3, rw', q⟩)
theorem keys_v {K : PySem.W.Frag} {H : Hp} : ∀ {vs : List V} {ds : List D} {k : List Key}, Rps N K H vs ds → keysOf ds = some k → vs = k.map kV
  | _, _, k, .nil, h => by cases h; rfl
  | v :: vs, d :: ds, k, .cons r rs, h => by
    unfold keysOf at h
    cases h1 : keyOf d with
    | none => rw [h1] at h; cases h
    | some a =>
      cases h2 : keysOf ds with
      | none => rw [h1, h2] at h; cases h
      | some as =>
        rw [h1, h2] at h
        cases h
        rw [keys_v rs h2, List.map_cons]
        cases r <;> first | (cases h1; rfl) | cases h1
theorem look_v {K : PySem.W.Frag} {H : Hp} {κ : Type} [DecidableEq κ] {k : κ} {d : D} : ∀ {kvs : List (κ × V)} {ds : List D}, Rps N K H (kvs.map (·.2)) ds → lookK k (kvs.map (·.1)) ds = .ok d → ∃ v, valV kvs k = some v ∧ Rp N K H v d
  | [], ds, _, h => by unfold lookK at h; cases h
  | (a, v) :: kvs, [], r, h => by cases r
  | (a, v) :: kvs, e :: ds, r, h => by
    rw [List.map_cons] at r h
    cases r with
    | cons r rs =>
      unfold lookK at h
      by_cases ha : a = k
      · rw [if_pos ha] at h
        cases h
        exact ⟨v, valV_pos ha, r⟩
      · rw [if_neg ha] at h
        obtain ⟨u, e1, e2⟩ := look_v rs h
        exact ⟨u, by rw [valV_neg ha]; exact e1, e2⟩
theorem item_ok {X : Cx} {H0 H : Hp} {A : List Addr} {a i : RE} {x y d : D} {vx vy : V} {Q : VK} (hu : X.A.units + 64 < cLine) (hb : item x y = .ok d) (e : Same H0 H) (ix : Itc N X.K H (bA (leakI own a) A) vx x) (ry : Rp N X.K H vy y)
    (h : ∀ v H', PostE N X.K H0 A own (.item a i) d v H' → Q v H') : wIx X vx vy H Q := by
  have fin : ∀ {v : V}, Rp N X.K (sub H (bA (leakI own a) A)) v d → Q v H := fun {v} r => h v H (.mk' e (by rw [leak_item]; exact r) id rfl)
  unfold item at hb
  split at hb
  · rename_i xs j
    unfold getAt at hb
    cases hg : atI xs j with
    | none => rw [hg] at hb; cases hb
    | some z =>
      rw [hg] at hb
      cases hb
      obtain ⟨p, vs, rfl, hp, rs⟩ := ix
      cases ry
      obtain ⟨v, e1, e2⟩ := rs.atI hg
      exact wIx_of ix_tup ⟨p, vs, j, v, rfl, rfl, .of hp, e1, fin e2⟩
  · rename_i xs j
    unfold getAt at hb
    cases hg : atI xs j with
    | none => rw [hg] at hb; cases hb
    | some z =>
      rw [hg] at hb
      cases hb
      obtain ⟨p, vs, rfl, hp, rs⟩ := ix
      cases ry
      obtain ⟨v, e1, e2⟩ := rs.atI hg
      exact wIx_of ix_list ⟨p, vs, j, v, rfl, rfl, hp, e1, fin e2⟩
  · rename_i ks vs ds
    cases hk : keysOf ds with
    | none => rw [hk] at hb; cases hb
    | some k =>
      rw [hk] at hb
      obtain ⟨p, kvs, rfl, hp, hn, rs⟩ := ix
      subst hn
      obtain ⟨v, e1, e2⟩ := look_v rs hb
      cases ry with
      | tup hq rk =>
        have e3 := keys_v rk hk
        subst e3
        refine wIx_of (ix_dict (by omega)) ⟨p, v, rfl, ?_, fin e2⟩
        rw [← e1]
        exact .t hp hq
  · rename_i ks vs ds
    cases hk : keysOf ds with
    | none => rw [hk] at hb; cases hb
    | some k =>
      rw [hk] at hb
      obtain ⟨p, o, kvs, rfl, hp, hn, rs⟩ := ix
      subst hn
      obtain ⟨v, e1, e2⟩ := look_v rs hb
      cases ry with
      | tup hq rk =>
        have e3 := keys_v rk hk
        subst e3
        refine wIx_of (ix_dict (by omega)) ⟨p, v, rfl, ?_, fin e2⟩
        rw [← e1]
        exact .inr ⟨_, _, _, .inr ⟨_, hp⟩, rfl, hq, rfl⟩
  · rename_i ks vs
    cases hk : keyOf y with
    | none => rw [hk] at hb; cases hb
    | some k =>
      rw [hk] at hb
      obtain ⟨p, o, kvs, rfl, hp, hn, rs⟩ := ix
      subst hn
      obtain ⟨v, e1, e2⟩ := look_v rs hb
      have e3 : vy = kV k := by
        cases ry <;> first | (cases hk; rfl) | cases hk
      subst e3
      refine wIx_of (ix_dict (by omega)) ⟨p, v, rfl, ?_, fin e2⟩
      rw [← e1]
      exact .inl ⟨_, _, .inr ⟨_, hp⟩, rfl, rfl⟩
  · cases hb
theorem item_noex {x y : D} {z : Exn} : item x y ≠ .ex z := fun h => by
  have l : ∀ (k : List Key) (ks : List (List Key)) (vs : List D), lookK k ks vs ≠ .ex z := fun k ks => by
    induction ks with
    | nil => intro vs q; unfold lookK at q; cases q
    | cons a as ih =>
      intro vs q
      cases vs with
      | nil => unfold lookK at q; cases q
      | cons v vs =>
        unfold lookK at q
        split at q
        · cases q
        · exact ih vs q
  have l2 : ∀ (k : Key) (ks : List Key) (vs : List D), lookK k ks vs ≠ .ex z := fun k ks => by
    induction ks with
    | nil => intro vs q; unfold lookK at q; cases q
    | cons a as ih =>
      intro vs q
      cases vs with
      | nil => unfold lookK at q; cases q
      | cons v vs =>
        unfold lookK at q
        split at q
        · cases q
        · exact ih vs q
  unfold item at h
  split at h
  · unfold getAt at h; split at h <;> cases h
  · unfold getAt at h; split at h <;> cases h
  · split at h
    · exact l _ _ _ h
    · cases h
  · split at h
    · exact l _ _ _ h
    · cases h
  · split at h
    · exact l2 _ _ _ h
    · cases h
  · cases h
theorem se_item {a i : RE} (ha : SE P N n NN own cm ci a) (hi : SE P N n NN own cm ci i) : SE P N n NN own cm ci (.item a i) := fun X W sc e env σ H A ad cur Q S hk F C h => by
  rw [chkE_item] at hk
  split at hk
  case h_2 => cases hk
  case h_1 ea ei p =>
    obtain ⟨k0, k1⟩ := and_t hk
    obtain ⟨k1, k2⟩ := and_t k1
    rw [evE_item] at h
    refine toE (pe_ix wIx_ok pe_w pe_w (ord_ix k0)) ?_
    refine se_step ha S k1 F C (Same.refl H) h fun x vx H1 p1 e1 F1 C1 h1 => ?_
    refine se_step hi S k2 F1 C1 e1 h1 fun y vy H2 p2 e2 F2 C2 h2 => ?_
    cases hd : item x y with
    | no => rw [hd] at h2; exact h2.elim
    | ex z => exact absurd hd item_noex
    | ok d =>
      rw [hd] at h2
      exact item_ok S.hu hd e2 (p1.items.mono p2.same) p2.rp0 h2

/-! ### a[lo:hi] -/
/-- a slice's part -/
def wP (X : Cx) (e : Option Expr) : TO := fun σ H Q => ∀ pins s, Inv X pins σ H s → wpAny (model X.prog X.w) X.A (evalPart e X.env) (fun u s' => ∃ o H', Inv X pins σ H' s' ∧ IsPart u o ∧ Q o H') X.xe s
theorem po_w {X : Cx} {e : Option Expr} : PO X e (wP X e) := ⟨fun pins s _ _ _ I h => h pins s I⟩
theorem toP {X : Cx} {e : Option Expr} {t : TO} {σ : L2.St} {H : Hp} (p : PO X e t) {Q : Option Int → Hp → Prop} (h : t σ H Q) : wP X e σ H Q := fun pins s I => p.run pins s σ H Q I h
def SP_ (P : Prog) (N : Info) (n : Nat) (NN : List Str) (own : List Nat) (cm : Bool) (ci : Nat) (r : RE) : Prop := ∀ (X : Cx) (W : WX) (sc : Scope) (e : Option Expr) (env : Env) (σ : L2.St) (H H0 : Hp) (A : List Addr) (ad : Nat → Addr) (cur : Option Exn) (r0 : RE) (f : D → R D) (Q : VK) (Q1 : Option Int → Hp → Prop),
  Site P N n X W sc NN cm → chkP N NN own cm ci r sc e = true → Frm N X.K own env σ H A ad → CurOk N X A σ H cm cur ci → Same H0 H → WPE N X.K W own r0 σ H0 A ((evE (P.ctx n) cur r env).bd f) Q →
  (∀ x o H1, partOf x = some o → Same H H1 → Frm N X.K own env σ H1 A ad → CurOk N X A σ H1 cm cur ci → WPE N X.K W own r0 σ H0 A (f x) Q → Q1 o H1) → wP X e σ H Q1
theorem sp_nopart : SP_ P N n NN own cm ci .nopart := fun X W sc e env σ H H0 A ad cur r0 f Q Q1 S hk F C e0 h k => by
  rw [chkP_nopart] at hk
  cases e with
  | some _ => cases hk
  | none => exact toP po_none (k .non none H rfl (Same.refl H) F C h)
theorem sp_part {a : RE} (ha : SE P N n NN own cm ci a) : SP_ P N n NN own cm ci (.part a) := fun X W sc e env σ H H0 A ad cur r0 f Q Q1 S hk F C e0 h k => by
  rw [chkP_part] at hk
  split at hk
  case h_2 => cases hk
  case h_1 e =>
    rw [evE_part] at h
    refine toP (po_some pe_w) ?_
    have h' : WPE N X.K W own r0 σ H0 A ((evE (P.ctx n) cur a env).bd fun x => match x with
      | .int i => f (.int i)
      | _ => .no) Q := by
      cases hx : evE (P.ctx n) cur a env with
      | no => rw [hx] at h; exact h
      | ex x => rw [hx] at h; exact h
      | ok x => rw [hx] at h; cases x <;> first | exact h | exact h.elim
    refine se_step (f := fun x => match x with
      | .int i => f (.int i)
      | _ => .no) ha S hk F C e0 h' fun x vx H1 p1 e1 F1 C1 h1 => ?_
    have rp := p1.rp0
    cases rp <;> first | exact h1.elim | skip
    exact ⟨_, rfl, k _ _ H1 rfl p1.same F1 C1 h1⟩
def wSl (X : Cx) : V → Option Int → Option Int → Hp → VK → Prop := fun x lo hi H Q => ∀ pins s σ v vl vu sl, Inv X pins σ H s → RelV x v → s.heap.IsSliceOf sl vl vu .none → IsPart vl lo → IsPart vu hi →
  ∃ T id, typeLookup (.type T) "__getitem__" = pure (some (.builtin id)) ∧ s.TypeIs v T ∧ wpAny (model X.prog X.w) X.A (getItem v (.ref sl)) (EP X pins σ Q) X.xe s
theorem wSl_ok {X : Cx} : SlR X (wSl X) := fun pins s σ H x v vl vu lo hi sl Q I r hs pl pu h => h pins s σ v vl vu sl I r hs pl pu
theorem wSl_of {X : Cx} {r : V → Option Int → Option Int → Hp → VK → Prop} (o : SlR X r) {x : V} {lo hi : Option Int} {H : Hp} {Q : VK} (h : r x lo hi H Q) : wSl X x lo hi H Q := fun pins s σ v vl vu sl I r1 hs pl pu => o pins s σ H x v vl vu lo hi sl Q I r1 hs pl pu h
theorem cut_len {xs : List D} {vs : List V} (h : vs.length = xs.length) (lo hi : Option Int) : cutV vs lo hi = (vs.drop (HT.sIx xs.length 0 lo)).take (HT.sIx xs.length xs.length hi - HT.sIx xs.length 0 lo) := by
  unfold cutV
  rw [h]
theorem se_cut {a lo hi : RE} (ha : SE P N n NN own cm ci a) (hl : SP_ P N n NN own cm ci lo) (hh : SP_ P N n NN own cm ci hi) : SE P N n NN own cm ci (.cut a lo hi) := fun X W sc e env σ H A ad cur Q S hk F C h => by
  rw [chkE_cut] at hk
  split at hk
  case h_2 => cases hk
  case h_1 ea l u p2 p =>
    obtain ⟨k1, k2⟩ := and_t hk
    obtain ⟨k2, k3⟩ := and_t k2
    rw [evE_cut] at h
    refine toE (pe_slice wSl_ok pe_w po_w po_w) ?_
    refine se_step ha S k1 F C (Same.refl H) h fun x vx H1 p1 e1 F1 C1 h1 => ?_
    refine hl X W sc l env σ H1 H A ad cur _ _ Q _ S k2 F1 C1 e1 h1 fun y o1 H2 q2 s2 F2 C2 h2 => ?_
    refine hh X W sc u env σ H2 H A ad cur _ _ Q _ S k3 F2 C2 (e1.trans s2) h2 fun z o2 H3 q3 s3 F3 C3 h3 => ?_
    have e3 := (e1.trans s2).trans s3
    have it := (p1.items.mono s2).mono s3
    have h3 : WPE N X.K W own (.cut a lo hi) σ H A (cutD x y z) Q := h3
    unfold cutD at h3
    rw [q2, q3] at h3
    cases x with
    | tup xs =>
      obtain ⟨pa, vs, rfl, hp, rs⟩ := it
      have hl := rs.length
      refine wSl_of sl_tupA ⟨pa, vs, rfl, .of hp, fun hw => ?_, fun _ q hq => ?_⟩
      · have ec : cutL xs o1 o2 = xs := by
          unfold cutL
          rw [hl] at hw
          rw [hw.1, hw.2, List.drop_zero, Nat.sub_zero, List.take_length]
        dsimp only at h3
        rw [ec] at h3
        refine h3 _ _ (.mk' e3 ?_ id rfl)
        rw [leak_cut]
        exact .tup (by rw [sub_out ((F3.aok.bA _).tup hp)]; exact hp) rs
      · refine h3 _ _ (post_tup e3 F3.aok hq ?_ id rfl)
        rw [leak_cut, cut_len hl]
        exact (rs.drop _).take _
    | lst xs =>
      obtain ⟨pa, vs, rfl, hp, rs⟩ := it
      have hl := rs.length
      refine wSl_of sl_list ⟨pa, vs, rfl, hp, fun q hq => ?_⟩
      refine h3 _ _ (post_lst e3 F3.aok hq ?_ id)
      rw [leak_cut, cut_len hl]
      exact (rs.drop _).take _
    | _ => exact h3.elim

/-! ### fields -/
theorem lookup_at {α : Type} : ∀ {fs : List (Str × α)} {k : Nat} {f : Str} {v : α}, (fs.map (·.1)).Nodup → (fs.map (·.1))[k]? = some f → (fs.map (·.2))[k]? = some v → fs.lookup f = some v
  | [], k, f, v, _, h, _ => by simp at h
  | (g, x) :: r, 0, f, v, nd, h, h2 => by
    simp at h h2
    subst h; subst h2
    simp
  | (g, x) :: r, k + 1, f, v, nd, h, h2 => by
    rw [List.map_cons, List.nodup_cons] at nd
    have h' : (r.map (·.1))[k]? = some f := by simpa using h
    have ne : f ≠ g := fun z => nd.1 (by rw [← z]; exact List.mem_of_getElem? h')
    rw [List.lookup_cons, beq_false_of_ne ne]
    exact lookup_at nd.2 h' (by simpa using h2)
theorem lookup_out {α : Type} : ∀ {fs : List (Str × α)} {f : Str}, f ∉ fs.map (·.1) → fs.lookup f = none
  | [], _, _ => rfl
  | (g, x) :: r, f, h => by
    rw [List.map_cons, List.mem_cons, not_or] at h
    rw [List.lookup_cons, beq_false_of_ne h.1]
    exact lookup_out h.2
theorem se_attr {a : RE} {f : Nat} (ha : SE P N n NN own cm ci a) : SE P N n NN own cm ci (.attr a f) := fun X W sc e env σ H A ad cur Q S hk F C h => by
  rw [chkE_attr] at hk
  split at hk
  case h_2 => cases hk
  case h_1 ea x p =>
    obtain ⟨k0, k1⟩ := and_t hk
    obtain ⟨k1, k2⟩ := and_t k1
    obtain rfl : N.fnm f = x := of_decide_eq_true k0
    rw [evE_attr] at h
    refine toE (pe_fld pe_w (noSuper_base k1 _ _ _)) ?_
    refine se_step ha S k2 F C (Same.refl H) h fun x vx H1 p1 e1 F1 C1 h1 => ?_
    have it := p1.items
    have h1 : WPE N X.K W own (.attr a f) σ H A (getF (P.ctx n).st x f) Q := h1
    have hst : (P.ctx n).st = P.st := by cases n <;> rfl
    rw [hst] at h1
    unfold getF at h1
    obtain ⟨c, vs, rfl⟩ : ∃ c vs, x = .ins c vs := by
      cases x <;> first | exact ⟨_, _, rfl⟩ | exact h1.elim
    dsimp only at h1
    cases hk : P.st.fld c f with
    | none => rw [hk] at h1; exact h1.elim
    | some k =>
      rw [hk] at h1
      dsimp only at h1
      cases hv : vs[k]? with
      | none => rw [hv] at h1; exact h1.elim
      | some d =>
        rw [hv] at h1
        obtain ⟨pa, dx, fs, rfl, hc, hp, hn, rs⟩ := it
        obtain ⟨g1, g2⟩ := S.facts.fld c f k hk
        obtain ⟨v, e2, r2⟩ := rs.get hv
        have hlt : k < vs.length := (List.getElem?_eq_some_iff.mp hv).1
        have nd : (fs.map (·.1)).Nodup := by
          rw [hn]
          exact (S.facts.lnd c hc).sublist (List.take_sublist _ _)
        have hn2 : (fs.map (·.1))[k]? = some (N.fnm f) := by
          rw [hn, List.getElem?_take, if_pos hlt]
          exact g1
        refine ⟨pa, _, dx, fs, v, rfl, hp, S.facts.cls c hc, g2, lookup_at nd hn2 e2, ?_⟩
        refine h1 v H1 (.mk' e1 ?_ id rfl)
        rw [leak_attr]
        exact r2
theorem se_con {a : RE} {f : Nat} (ha : SE P N n NN own cm ci a) : SE P N n NN own cm ci (.con a f) := fun X W sc e env σ H A ad cur Q S hk F C h => by
  rw [chkE_con] at hk
  split at hk
  case h_2 => cases hk
  case h_1 ea x p =>
    obtain ⟨k0, k1⟩ := and_t hk
    obtain ⟨k1, k2⟩ := and_t k1
    obtain rfl : N.fnm f = x := of_decide_eq_true k0
    rw [evE_con] at h
    refine toE (pe_con pe_w (noSuper_base k1 _ _ _)) ?_
    refine se_step ha S k2 F C (Same.refl H) h fun x vx H1 p1 e1 F1 C1 h1 => ?_
    have it := p1.items
    have h1 : WPE N X.K W own (.con a f) σ H A (getC (P.ctx n).st x f) Q := h1
    have hst : (P.ctx n).st = P.st := by cases n <;> rfl
    rw [hst] at h1
    unfold getC at h1
    obtain ⟨c, vs, rfl⟩ : ∃ c vs, x = .ins c vs := by
      cases x <;> first | exact ⟨_, _, rfl⟩ | exact h1.elim
    dsimp only at h1
    cases hk : P.st.con c f with
    | none => rw [hk] at h1; exact h1.elim
    | some i =>
      rw [hk] at h1
      obtain ⟨pa, dx, fs, rfl, hc, hp, hn, rs⟩ := it
      obtain ⟨⟨u, g1⟩, g2⟩ := S.facts.con c f i hk
      have hno : fs.lookup (N.fnm f) = none := lookup_out fun z => by
        rw [hn] at z
        exact g2 (List.mem_of_mem_take z)
      exact ⟨pa, _, dx, fs, .int i, u, rfl, hp, S.facts.cls c hc, g1, hno, h1 _ _ (.flats e1 (fun _ => .int i) trivial rfl)⟩

/-! ### calls -/
theorem chkA_ords {r : RE} {sc : Scope} : ∀ {es : List Expr}, noSt r = true → chkA N NN own cm ci r sc es = true → ∀ e ∈ es, ord e = true := by
  induction r with
  | nil =>
    intro es _ h
    rw [chkA_nil] at h
    cases es with
    | nil => intro e he; simp at he
    | cons _ _ => cases h
  | cons a r _ ih =>
    intro es hn h
    rw [chkA_cons] at h
    split at h
    case h_2 => cases h
    case h_1 e es =>
      obtain ⟨h0, h1⟩ := and_t h
      obtain ⟨h1, h2⟩ := and_t h1
      intro e' he
      rcases List.mem_cons.mp he with rfl | he
      · exact h0
      · exact ih hn h2 e' he
  | star _ _ _ _ => intro es hn _; cases hn
  | _ => intro es _ h; cases h
theorem stars_none {env : PySem.Env} {pos : Pos} : ∀ {es : List Expr}, (∀ e ∈ es, ord e = true) → (backTo pos (starEach es env)).any (·.1) = false
  | [], _ => rfl
  | e :: es, h => by
    rw [ord_star (h e List.mem_cons_self)]
    show (false || (backTo pos (starEach es env)).any (·.1)) = false
    rw [stars_none fun e' he => h e' (List.mem_cons_of_mem _ he)]
    rfl
theorem stars_all {env : PySem.Env} {pos : Pos} : ∀ {es : List Expr}, (∀ e ∈ es, ord e = true) → (backTo pos (starEach es env)).all (fun x => !x.1) = true
  | [], _ => rfl
  | e :: es, h => by
    rw [ord_star (h e List.mem_cons_self)]
    show (true && (backTo pos (starEach es env)).all (fun x => !x.1)) = true
    rw [stars_all fun e' he => h e' (List.mem_cons_of_mem _ he)]
    rfl
/-- a call's end, told to the caller -/
theorem call_post {X : Cx} {W : WX} {σ : L2.St} {H0 H : Hp} {A : List Addr} {r : RE} {ev : List D → R D} {vs : List V} {ds : List D} {Q : VK} (e : Same H0 H) (c : AOk H A) (rp : Rps N X.K (sub H (bA (leak own r) A)) vs ds) (hI : leakI own r = false → leak own r = false) {nw : Bool} (hf : fresh N r = true → nw = true)
    (h : WPE N X.K W own r σ H0 A (ev ds) Q) : framed (spF N X.K nw ev) vs H Q (fun cls d H' => W cls d σ H') := by
  refine ⟨bA (leak own r) A, c.bA _, ds, rp, ?_⟩
  cases he : ev ds with
  | no => rw [he] at h; exact h.elim
  | ok d =>
    rw [he] at h
    intro v H' s r' nl n
    have rp : Rp N X.K (sub (join H (bA (leak own r) A) H') (bA (leak own r) A)) v d := by rw [join_sub n]; exact r'
    refine h v _ ⟨e.trans (join_same s), rp, fun l => by rw [hI l] at rp ⊢; exact .of_rp rp, fun fz lk xs hd => ?_⟩
    obtain ⟨a, us, rfl, h0, h1, rs⟩ := nl (hf fz) xs hd
    rw [lk] at h0 n ⊢
    have naA : a ∉ A := fun z => by
      have := n a z
      rw [h1] at this; cases this
    have h00 : H a = none := by
      have := h0
      rw [show bA false A = A from rfl, sub_out naA] at this
      exact this
    subst hd
    refine ⟨a, rfl, Same.none e h00, us, by rw [show bA false A = A from rfl, join_out naA]; exact h1, rs.mono fun b o q => ?_⟩
    obtain ⟨q1, q2⟩ := sub_some q
    have nb : b ∉ A := fun z => by
      have := n b z
      rw [q2] at this; cases this
    have q3 : b ≠ a := fun z => q1 (by rw [z]; exact List.mem_cons_self)
    rw [sub_out (by simp [q3, nb]), show bA false A = A from rfl, join_out nb]
    exact q2
  | ex x =>
    rw [he] at h
    intro cls dx H' s ec r' n
    exact h cls dx _ ⟨e.trans (join_same s), ec, r'.mono (join_up n)⟩
theorem se_call {f : Nat} {es : RE} (hs : SA P N n NN own cm ci es) : SE P N n NN own cm ci (.call f es) := fun X W sc e env σ H A ad cur Q S hk F C h => by
  rw [chkE_call] at hk
  split at hk
  case h_2 => cases hk
  case h_1 x p1 e1 ees p =>
    obtain ⟨kc, hk⟩ := and_t hk
    obtain ⟨k1, hk⟩ := and_t hk
    obtain ⟨k2, hk⟩ := and_t hk
    obtain ⟨k3, hk⟩ := and_t hk
    obtain ⟨k4, hk⟩ := and_t hk
    obtain ⟨k5, hk⟩ := and_t hk
    obtain ⟨kst, hk⟩ := and_t hk
    have hf := of_decide_eq_true k1
    have hat := of_decide_eq_true k2
    have hin : N.ini f = false := by simpa using k3
    obtain ⟨fd, F0, hb⟩ := (S.fns kc).fn f hf hin
    obtain ⟨g1, g2⟩ := S.facts.glf f hf (by rw [hat])
    rw [hat] at g1
    have hr : Room (2 * n + 3) X.A := (S.room kc).mono (by omega)
    have ords := chkA_ords kst hk
    rw [evE_call] at h
    refine toE (pe_callSD (E := fun σ cls d H' => W cls d σ H') (fnok_framed F0) hr (S.glk k4) g1 g2 hb .nil (fun σ => passAt S.tk σ) pa_w (by
      obtain ⟨q1, _⟩ := and_t k5
      simpa using q1) (ord_star (ords _ List.mem_cons_self) _ _) (stars_none fun e he => ords e (List.mem_cons_of_mem _ he))) ?_
    refine sa_step (f := fun y => match y with
      | .tup ys => (P.ctx n).call f ys
      | _ => .no) hs S hk F C (Same.refl H) h fun xs vs H1 s1 rp e1 F1 C1 h1 => ?_
    rw [List.append_nil]
    exact call_post (r := .call f es) e1 F1.aok rp id (fun z => z) h1
end
end PD
end

section
set_option Elab.async false
set_option linter.all false
set_option maxRecDepth 100000
/-! PD9: new instances, methods, built-in functions, walked things. -/
namespace PD
open PySem PySem.Spec PyProof.Rows L2
section
variable {P : Prog} {N : Info} {n : Nat} {NN : List Str} {own : List Nat} {cm : Bool} {ci : Nat}

/-! ### C(..) -/
theorem run_new {X : Cx} {CX : CXT} {k : Nat} {f C : Addr} {fd : FuncData} {ps : List Str} {sp : Sp} {E : XK} {pins : List (Addr × Obj)} {σ : L2.St} {H : Hp} {s : Shared} {Q : VK} {us : List Value} {vs : List V} (M : Mk X.K C f) (F : FnOk X.prog X.w X.K X.mg X.base CX k f fd ps sp) (hr : Room (k + 1) X.A)
    (hb : Binds X.K fd ps []) (hx : PassesAt CX X σ E) (I : Inv X pins σ H s) (r : Vals vs us)
    (h : ∀ x dx, H x = none → H dx = none → dx ≠ x → sp (.ref x :: vs) (upd (upd H dx (.own x)) x (.ins C dx [])) (fun v H2 => v = .non ∧ Q (.ref x) H2) E) :
    wpAny (model X.prog X.w) X.A (call (.ref C) us) (EP X pins σ Q) X.xe s := by
  have nx := I.hok.fresh (Nat.le_succ s.heap.objs.size)
  have nd := I.hok.fresh (Nat.le_refl s.heap.objs.size)
  have q := h _ _ nx nd (Nat.ne_of_lt (Nat.lt_succ_self _))
  have J := Inv.made (C := C) I
  have rr : Vals (V.ref (s.heap.objs.size + 1) :: vs) (Value.ref (s.heap.objs.size + 1) :: us) := .cons rfl r
  have ln : (Value.ref (s.heap.objs.size + 1) :: us ++ []).length = ps.length := by
    have e := rr.length
    rw [F.len _ _ _ _ q] at e
    rw [List.append_nil]
    exact e.symm
  have bd := hb _ (Value.ref (s.heap.objs.size + 1) :: us) J.kIn ln
  rw [List.append_nil] at bd
  refine wpAny_call (make_map (f := f) I.kIn M.makes M.init (beq_iff_eq.mp M.fn) (codeAny_mono (F.run _ X.stack _ _ ⟨Value.ref (s.heap.objs.size + 1) :: us, []⟩ _ _ _ E (hr.make C us []) (J.env0.make C us []) bd rr q) fun o s' g => ?_))
  cases o with
  | error e => exact hx pins _ _ e s' J g
  | ok fl =>
    cases fl with
    | ret u =>
      obtain ⟨v, H', J', rv, ev, q3⟩ := J.after g
      subst ev
      exact ⟨rv, V.ref (s.heap.objs.size + 1), H', J', rfl, q3⟩
    | next => exact g.elim
    | brk => exact g.elim
    | cont => exact g.elim
theorem new_post {X : Cx} {W : WX} {σ : L2.St} {H0 H : Hp} {A : List Addr} {c : Nat} {es : RE} {ev : List D → R D} {vs : List V} {ds : List D} {Q : VK} (e : Same H0 H) (c0 : AOk H A) (rp : Rps N X.K (sub H (bA (leak own (.new c es)) A)) vs ds)
    (h : WPE N X.K W own (.new c es) σ H0 A (ev ds) Q) (x dx : Addr) (nx : H x = none) (nd : H dx = none) (ne : dx ≠ x) :
    framed (spI N X.K c ev) (.ref x :: vs) (upd (upd H dx (.own x)) x (.ins (cA N X.K c) dx [])) (fun v H2 => v = .non ∧ Q (.ref x) H2) (fun cls d H' => W cls d σ H') := by
  generalize hA : bA (leak own (.new c es)) A = A' at rp
  have c1 : AOk H A' := by rw [← hA]; exact c0.bA _
  have up1 : Same H (upd (upd H dx (.own x)) x (.ins (cA N X.K c) dx [])) := (same_upd nd).trans (same_upd (by rw [upd_ne (Ne.symm ne)]; exact nx))
  have xA := c1.out nx
  have dA := c1.out nd
  have low : ∀ {b : Addr} {o : HO}, H b = some o → b ∉ A' → sub (sub (upd (upd H dx (.own x)) x (.ins (cA N X.K c) dx [])) A') [x, dx] b = some o := fun {b o} hb hn => by
    have b1 : b ≠ x := ne_of_none hb nx
    have b2 : b ≠ dx := ne_of_none hb nd
    rw [sub_out (by simp [b1, b2]), sub_out hn]
    exact up1 b o hb
  refine ⟨A', c1.mono up1, x, dx, vs, ds, rfl, by rw [sub_out xA]; exact upd_same, by rw [sub_out dA, upd_ne ne]; exact upd_same, rp.mono fun b o hb => low (sub_some hb).2 (sub_some hb).1, ?_⟩
  have big : ∀ {H' : Hp}, Same (sub (sub (upd (upd H dx (.own x)) x (.ins (cA N X.K c) dx [])) A') [x, dx]) H' → Same H0 (join (upd (upd H dx (.own x)) x (.ins (cA N X.K c) dx [])) A' H') := fun {H'} s b o hb => by
    have hb := e b o hb
    by_cases hn : b ∈ A'
    · rw [join_in hn]; exact up1 b o hb
    · rw [join_out hn]; exact s b o (low hb hn)
  cases he : ev ds with
  | no => rw [he] at h; exact h.elim
  | ok d =>
    rw [he] at h
    intro H' s r' n
    exact ⟨rfl, h _ _ (.mk' (big s) (by rw [hA, join_sub n]; exact r') id rfl)⟩
  | ex y =>
    rw [he] at h
    intro cls d H' s ec r' n
    exact h cls d _ ⟨big s, ec, r'.mono (join_up n)⟩
theorem se_new {c : Nat} {es : RE} (hs : SA P N n NN own cm ci es) : SE P N n NN own cm ci (.new c es) := fun X W sc e env σ H A ad cur Q S hk F C h => by
  rw [chkE_new] at hk
  split at hk
  case h_2 => cases hk
  case h_1 x p1 e1 ees p =>
    obtain ⟨kc, hk⟩ := and_t hk
    obtain ⟨k1, hk⟩ := and_t hk
    obtain ⟨k2, hk⟩ := and_t hk
    obtain ⟨k3, hk⟩ := and_t hk
    obtain ⟨k4, hk⟩ := and_t hk
    obtain ⟨kst, k5⟩ := and_t hk
    have hc := of_decide_eq_true k1
    obtain rfl : N.cn c = x := of_decide_eq_true k2
    obtain ⟨fd, F0, hb⟩ := (S.fns kc).ini c hc
    have M := S.facts.mke c hc
    have hr : Room (2 * n + 3 + 1) X.A := S.room kc
    have ords := chkA_ords kst k5
    rw [evE_new] at h
    have go : wA X (e1 :: ees) σ H fun vs H1 => ∀ y dx, H1 y = none → H1 dx = none → dx ≠ y → framed (spI N X.K c ((P.ctx n).new c)) (.ref y :: vs) (upd (upd H1 dx (.own y)) y (.ins (cA N X.K c) dx [])) (fun v H2 => v = .non ∧ Q (.ref y) H2) (fun cls d H' => W cls d σ H') := by
      refine sa_step (f := fun y => match y with
        | .tup ys => (P.ctx n).new c ys
        | _ => .no) hs S k5 F C (Same.refl H) h fun xs vs H1 s1 rp e1 F1 C1 h1 => ?_
      exact fun y dx ny nd ne => new_post e1 F1.aok rp h1 y dx ny nd ne
    intro pins s I
    refine wpAny_Call_Name_kw (ld_glob I (S.glk k3) (S.facts.clg c hc) ?_ (by
      obtain ⟨q1, _⟩ := and_t k4
      simpa using q1))
    refine PySem.W.callWith_K (h₀ := X.base) I.ok.mod.kin M.kp (thn (go p pins s I) fun us s1 ⟨vs, H1, I1, r, q⟩ => ⟨I1.kIn, ?_⟩) (ord_star (ords _ List.mem_cons_self) _ _) (stars_none fun e he => ords e (List.mem_cons_of_mem _ he))
    exact run_new M (fnok_framed F0) hr hb (passAt S.tk σ) I1 r q

/-! ### o.m(..) -/
theorem meth_eval {o : Expr} {m : Str} {apos pos : Pos} {es : List Expr} {env : PySem.Env} (ho : noSuper o = true) (hs : ∀ e ∈ es, ord e = true) (hl : es.length < 30) (hp : apos.endLine = pos.line) :
    eval (.Call (.Attribute o m apos) es [] pos) env = (do
      let ov ← eval o env
      standAt apos.atName
      let (f, first) ← holding [ov] (getMethod ov m (do return (← importBound o env).getD true))
      callWith pos f first (backTo pos (starEach es env)) (backToKw pos (keywordEach [] env))) := by
  show (do
    let ov ← attributeBase o m env (eval o env)
    standAt apos.atName
    methodCall o m apos pos env ov (es.length + ([] : List Keyword).length) (backTo pos (starEach es env)) (backToKw pos (keywordEach [] env))) = _
  rw [noSuper_base ho]
  have few : methodCallForm (es.length + ([] : List Keyword).length) (backTo pos (starEach es env)) (backToKw pos (keywordEach [] env)) = true := by
    unfold methodCallForm
    rw [stars_all hs]
    show (true && (true && decide (es.length + 0 + 0 < 30))) = true
    simp [hl]
  have hpos : methodCallPos true o env apos pos = pure pos := by
    unfold methodCallPos
    rw [if_pos (by simp [hp])]
  refine congrArg (bind (eval o env)) (funext fun ov => ?_)
  refine congrArg (bind (standAt apos.atName)) (funext fun _ => ?_)
  unfold methodCall
  rw [few, hpos]
  unfold calleeOf
  rw [if_pos rfl]
  refine congrArg (bind _) (funext fun fx => ?_)
  obtain ⟨f, first⟩ := fx
  show ((pure pos : Sem Pos) >>= fun cp => callWith cp f first _ _) = _
  rw [pure_bind]
theorem chkA_inv {r : RE} {sc : Scope} (h : chkA N NN own cm ci r sc [] = true) : r = .nil := by
  cases r <;> first | rfl | (rw [chkA_cons] at h; cases h) | cases h
theorem se_meth {o : RE} {m : Nat} {es : RE} (ho : SE P N n NN own cm ci o) (hs : SA P N n NN own cm ci es) : SE P N n NN own cm ci (.meth o m es) := fun X W sc e env σ H A ad cur Q S hk F C h => by
  rw [chkE_meth] at hk
  rw [evE_meth] at h
  have lk : leak own (.meth o m es) = false → leak own o = false ∧ leak own es = false := fun l => by
    unfold leak at l
    exact Bool.or_eq_false_iff.mp l
  have hst : (P.ctx n).st = P.st := by cases n <;> rfl
  rw [hst] at h
  have main : ∀ (ea : Expr) (ees : List Expr) (ap p : Pos) (x : Str), cm = true → N.mname m = x → noSuper ea = true → ap.endLine = p.line → ees.length < 30 → chkE N NN own cm ci o sc false ea = true → chkA N NN own cm ci es sc ees = true → (∀ e ∈ ees, ord e = true) →
      wE X (.Call (.Attribute ea x ap) ees [] p) σ H Q := by
    intro ea ees ap p x kc k1 k2 k3 k4 k5 k6 ords
    subst k1
    have go : wE X ea σ H fun vx H1 => ∃ (c g : Nat) (a dx : Addr) (fs : List (Str × V)), vx = .ref a ∧ c < N.nc ∧ P.st.meth c m = some g ∧ H1 a = some (.ins (cA N X.K c) dx fs) ∧ fs.lookup (N.mname m) = none ∧
        (ees = [] → framed (spF N X.K (N.nw g) ((P.ctx n).call g)) [.ref a] H1 Q (fun cls d H' => W cls d σ H')) ∧ wA X ees σ H1 fun vs H2 => framed (spF N X.K (N.nw g) ((P.ctx n).call g)) (.ref a :: vs) H2 Q (fun cls d H' => W cls d σ H') := by
      refine se_step ho S k5 F C (Same.refl H) h fun x vx H1 p1 e1 F1 C1 h1 => ?_
      have h1 : WPE N X.K W own (.meth o m es) σ H A (match methOf P.st x m with
        | some g => (evE (P.ctx n) cur es env).bd fun y => match y with
          | .tup ys => (P.ctx n).call g (x :: ys)
          | _ => .no
        | none => .no) Q := h1
      cases hm : methOf P.st x m with
      | none => rw [hm] at h1; exact h1.elim
      | some g =>
        rw [hm] at h1
        obtain ⟨c, ws, rfl⟩ : ∃ c ws, x = .ins c ws := by
          cases x <;> first | exact ⟨_, _, rfl⟩ | cases hm
        have hm : P.st.meth c m = some g := hm
        have it := p1.items
        obtain ⟨pa, dx, fs, rfl, hc, hp, hn, rs⟩ := it
        obtain ⟨_, g2, _, _, g5⟩ := S.facts.meth c m g hm
        refine ⟨c, g, pa, dx, fs, rfl, hc, hm, hp, lookup_out fun z => ?_, ?_, ?_⟩
        · rw [hn] at z
          exact g2 (List.mem_of_mem_take z)
        · intro z
          subst z
          obtain rfl := chkA_inv k6
          have rp1 : Rp N X.K (sub H1 (bA (leak own (.meth o m .nil)) A)) (.ref pa) (.ins c ws) := p1.rp.up fun l => (lk l).1
          exact call_post (ev := (P.ctx n).call g) (r := .meth o m .nil) e1 F1.aok (.cons rp1 .nil) id g5 h1
        · refine sa_step (f := fun y => match y with
            | .tup ys => (P.ctx n).call g (.ins c ws :: ys)
            | _ => .no) hs S k6 F1 C1 e1 h1 fun xs vs H2 s2 rp e2 F2 C2 h3 => ?_
          have rp1 : Rp N X.K (sub H2 (bA (leak own (.meth o m es)) A)) (.ref pa) (.ins c ws) := (p1.rp.mono (sub_mono s2)).up fun l => (lk l).1
          exact call_post (ev := (P.ctx n).call g) (r := .meth o m es) e2 F2.aok (.cons rp1 (rp.up fun l => (lk l).2)) id g5 h3
    intro pins s I
    refine PySem.W.methodCall_KW (pl := (do return (← importBound ea X.env).getD true)) (thn (go pins s I) fun u s1 ⟨vx, H1, I1, rx, c, g, a, dx, fs, e1, hc, hm, hp, hl, q0, q⟩ => ?_) (meth_eval k2 ords k4 k3)
    subst e1
    obtain rfl : u = Value.ref a := rx
    obtain ⟨g1, _, g3, g4, _⟩ := S.facts.meth c m g hm
    obtain ⟨fd, F0, hb⟩ := (S.fns kc).fn g g3 g4
    have hr : Room (2 * n + 3) X.A := (S.room kc).mono (by omega)
    refine getmeth_ok I1 hp (S.facts.cls c hc) g1 hl ?_
    have run : ∀ {us : List Value} {vs : List V} {s2 : Shared} {H2 : Hp}, Inv X pins σ H2 s2 → Vals vs us → framed (spF N X.K (N.nw g) ((P.ctx n).call g)) (.ref a :: vs) H2 Q (fun cls d H' => W cls d σ H') → wpAny (model X.prog X.w) X.A (call (.ref (fA N X.K g)) (.ref a :: us)) (EP X pins σ Q) X.xe s2 := fun {us vs s2 H2} I2 r q2 =>
      run_fnSD (us := .ref a :: us) (vs := .ref a :: vs) (dvs := []) (E := fun σ cls d H' => W cls d σ H') (fnok_framed F0) hr hb .nil (passAt S.tk σ) I2 (.cons rfl r) (by rw [List.append_nil]; exact q2)
    cases ees with
    | nil =>
      refine PySem.W.callWith_K0 I1.kIn g1.kp ?_
      exact run I1 .nil (q0 rfl)
    | cons e1 ees =>
      exact PySem.W.callWith_K (first := [.ref a]) (h₀ := X.base) I1.ok.mod.kin g1.kp (thn (q p pins s1 I1) fun us s2 ⟨vs, H2, I2, r, q2⟩ => ⟨I2.kIn, run I2 r q2⟩) (ord_star (ords _ List.mem_cons_self) _ _) (stars_none fun e he => ords e (List.mem_cons_of_mem _ he))
  split at hk
  case h_3 => cases hk
  case h_1 ea x ap e1 ees p =>
    obtain ⟨kc, hk⟩ := and_t hk
    obtain ⟨k1, hk⟩ := and_t hk
    obtain ⟨k2, hk⟩ := and_t hk
    obtain ⟨k3, hk⟩ := and_t hk
    obtain ⟨k4, hk⟩ := and_t hk
    obtain ⟨k5, hk⟩ := and_t hk
    obtain ⟨kst, k6⟩ := and_t hk
    have k4 := of_decide_eq_true k4
    exact main ea (e1 :: ees) ap p x kc (of_decide_eq_true k1) k2 (of_decide_eq_true k3) (by rw [List.length_cons]; omega) k5 k6 (chkA_ords kst k6)
  case h_2 ea x ap p =>
    obtain ⟨kc, hk⟩ := and_t hk
    obtain ⟨k1, hk⟩ := and_t hk
    obtain ⟨k2, hk⟩ := and_t hk
    obtain ⟨k3, hk⟩ := and_t hk
    obtain ⟨k5, k6⟩ := and_t hk
    exact main ea [] ap p x kc (of_decide_eq_true k1) k2 (of_decide_eq_true k3) (by decide) k5 k6 fun e he => by cases he
end
end PD
end

section
set_option Elab.async false
set_option linter.all false
set_option maxRecDepth 100000
/-! PE3: sorted of a tuple of ints, math.comb. -/
namespace PyProof.Rows
open PySem
section
variable {prog : Program} {w : World} {A : Around} {E : Value → Shared → Prop} {s : Shared}
theorem pd_collect_tuple {l : Addr} {vs : List Value} {Q : List Value → Shared → Prop} (hl : s.heap.IsTuple l vs.toArray)
    (h : Q vs { s with heap := (s.heap.push (seqObj "list" #[] 0)).update s.heap.objs.size (Obj.mapSeq (· ++ vs.toArray)) }) (hsz : vs.length ≤ sizeLine := by size_fits) :
    wpAny (model prog w) A (collect (.ref l)) Q E s := by
  obtain ⟨o, ho, hc, n, hd⟩ := id hl
  unfold collect
  refine wpAny_bind (wpAny_runValue (codeAny_builtin entry_proto_collect' ?_))
  show wpAny _ _ (do again (.builtin "list.__iadd__" ⟨[← newList [], .ref l], []⟩)) _ _ s
  refine wpAny_bind (wpAny_newList (wpAny_pure ⟨Code.quiet_builtin _ (by decide +kernel), codeAny_builtin entry_list_iadd' ?_⟩))
  show wpAny _ _ (Builtin.List.listExtendWith (.ref s.heap.objs.size) (.ref l) (.ref s.heap.objs.size)) _ _ { s with heap := s.heap.push (seqObj "list" #[] 0) }
  unfold Builtin.List.listExtendWith
  have ho' : (s.heap.push (seqObj "list" #[] 0)).get? l = some o := Heap.get?_push_of_some _ ho
  refine wpAny_bind (wpAny_typeOf (T := "tuple") ⟨o, ho', hc⟩ ?_)
  have ht : (Value.type "tuple" == Value.type "tuple") = true := by rfl
  rw [if_pos (by rw [ht]; simp)]
  refine wpAny_bind (listItems_at ho' hd ?_)
  refine wpAny_bind (listItems_at (xs := #[]) (n := 0) (Heap.get?_push_size _ rfl) rfl ?_)
  rw [if_neg (by simp)]
  refine wpAny_bind (listUpdate_at (xs := #[]) (n := 0) (Heap.get?_push_size _ rfl) rfl ?_ (Nat.zero_le _) (by show (#[] ++ vs.toArray).size ≤ sizeLine + 1; simp only [Array.size_append, List.size_toArray, List.length_nil]; omega))
  refine wpAny_pure ?_
  show wpAny (model prog w) A (do
      let o ← load s.heap.objs.size
      match o.data with
      | .seq xs _ => pure xs.toList
      | _ => unsupported "internal:collect") Q E { s with heap := (s.heap.push (seqObj "list" #[] 0)).update s.heap.objs.size (Obj.mapSeq (· ++ vs.toArray)) }
  refine wpAny_bind (wpAny_load (get?_update_seq (Heap.get?_push_size _ rfl) _) ?_)
  show wpAny _ _ (pure ((#[] : Array Value) ++ vs.toArray).toList) Q E _
  rw [show ((#[] : Array Value) ++ vs.toArray).toList = vs by simp]
  exact wpAny_pure h
theorem pd_sorted_tuple {l : Addr} {vs : List Value} {ns : List Int} {Q : Value → Shared → Prop} (hl : s.heap.IsTuple l vs.toArray) (hI : IntsAre vs ns) (h64 : vs.length < 64)
    (h : ∀ (out : Array Value) (ns' : List Int), IntsAre out.toList ns' → ns'.Perm ns → ns'.Pairwise (· ≤ ·) → Q (.ref (s.heap.objs.size + 1)) { s with heap := sortedAll s.heap vs out }) :
    wpAny (model prog w) A (call (.builtin "sorted") [.ref l]) Q E s := by
  refine Calls.call_function_entry kind_sorted plain_sorted entry_sorted (args_sorted1 _) ?_
  unfold Builtin.«sorted»
  refine wpAny_bind (m := checkCount "sorted" 1 1 _) (wpAny_pure ?_)
  refine wpAny_bind (pd_collect_tuple hl ?_ (by rw [sizeLine_eq]; omega))
  refine wpAny_bind (wpAny_newList ?_ (by rw [sizeLine_eq]; omega))
  have hsz : ((s.heap.push (seqObj "list" #[] 0)).update s.heap.objs.size (Obj.mapSeq (· ++ vs.toArray))).objs.size = s.heap.objs.size + 1 := by
    rw [Heap.size_update, size_push']
  have hoL : (((s.heap.push (seqObj "list" #[] 0)).update s.heap.objs.size (Obj.mapSeq (· ++ vs.toArray))).push (seqObj "list" vs.toArray 0)).get? (s.heap.objs.size + 1) = some (seqObj "list" vs.toArray 0) := by
    rw [← hsz]; exact Heap.get?_push_size _ rfl
  show wpAny _ _ _ _ _ { s with heap := ((s.heap.push (seqObj "list" #[] 0)).update s.heap.objs.size (Obj.mapSeq (· ++ vs.toArray))).push (seqObj "list" vs.toArray 0) }
  rw [hsz]
  refine wpAny_bind (wpAny_holding (wpAny_call_entry slot_list_sort ⟨_, hoL, rfl⟩ entry_list_sort (list_sort_tree hoL hI h64 fun out ns' a1 a2 a3 => ⟨_, rfl, ?_⟩) (args_list_sort _)))
  exact wpAny_pure ⟨_, rfl, h out ns' a1 a2 a3⟩
end
end PyProof.Rows
namespace PD
open PySem PySem.Spec PyProof.Rows L2
section
variable {X : Cx}
theorem pd_cr_sorted : CallR X (.builtin "sorted") (fun vs H Q => ∃ (a : Addr) (ns : List Int), vs = [V.ref a] ∧ (SqL X.K H a (ns.map V.int) ∨ SqT X.K H a (ns.map V.int)) ∧ ns.length < 64 ∧
    ∀ (ns' : List Int) (p : Addr), ns'.Perm ns → ns'.Pairwise (· ≤ ·) → H p = none → Q (.ref p) (upd H p (.lst (ns'.map V.int)))) := by
  intro pins s σ H vs us Q I r h
  obtain ⟨a, ns, rfl, hs, h64, q⟩ := h
  rcases hs with hs | hs
  · exact cr_sorted pins s σ H [.ref a] us Q I r ⟨a, ns, rfl, hs, h64, q⟩
  · obtain ⟨its, rv, hl, _⟩ := I.tuple hs
    rw [Vals.ref1 r]
    have hi := rv.ints
    refine pd_sorted_tuple (show s.heap.IsTuple a its.toArray from hl) hi (by rw [hi.length]; exact h64) fun out ns' h1 h2 h3 => ?_
    obtain ⟨ep, he'⟩ := PyProof.Rows.sortedAll_at s.heap its out
    have hlen : (ns'.map V.int).length ≤ sizeLine := by rw [List.length_map, h2.length_eq]; exact small64 h64
    exact ⟨.ref _, upd H (s.heap.objs.size + 1) (.lst (ns'.map V.int)), I.laid (t' := s.toks) (fun _ _ => PyProof.Rows.sortedAll_old) (Nat.le_succ _) ⟨hlen, out.toList, ep, vals_of_ints h1, he'⟩, rfl, q ns' _ h2 h3 (I.hok.fresh (Nat.le_succ _))⟩
theorem pd_cr_comb : CallR X (.builtin "math.comb") (fun vs H Q => ∃ a b : Int, vs = [.int a, .int b] ∧ 0 ≤ a ∧ a ≤ 1000 ∧ 0 ≤ b ∧ b ≤ 1000 ∧ Q (.int (PySem.W.mcComb a b)) H) := by
  intro pins s σ H vs us Q I r h
  obtain ⟨a, b, rfl, h1, h2, h3, h4, q⟩ := h
  obtain ⟨t, u, rfl⟩ := Vals.int2 r
  exact PySem.W.mc_comb h1 h3 (by omega) (.inl (by omega)) fun _ => ⟨.int _, H, I.tok _, ⟨_, rfl⟩, q⟩
theorem isort_eq {ns ns' : List Int} (h : ns'.Perm ns) (s : ns'.Pairwise (· ≤ ·)) : ns' = isort ns := by
  unfold isort
  have p2 : (ns.mergeSort fun a b => decide (a ≤ b)).Perm ns := List.mergeSort_perm _ _
  have s2 : (ns.mergeSort fun a b => decide (a ≤ b)).Pairwise fun a b => decide (a ≤ b) = true := List.pairwise_mergeSort (fun a b c h1 h2 => by simp at *; omega) (fun a b => by simp; omega) _
  refine List.Perm.eq_of_pairwise (le := fun a b : Int => a ≤ b) (fun a b _ _ h1 h2 => by omega) s (s2.imp fun h => of_decide_eq_true h) (h.trans p2.symm)
end
end PD
end

section
set_option Elab.async false
set_option linter.all false
set_option maxRecDepth 100000
/-! PD10: built-in functions, isinstance, what a suite says of its exception. -/
namespace PD
open PySem PySem.Spec PyProof.Rows L2
section
variable {P : Prog} {N : Info} {n : Nat} {NN : List Str} {own : List Nat} {cm : Bool} {ci : Nat}

/-! ### built-in functions -/
def Blt.val : Blt → Value
  | .len => .builtin "len" | .abs => .builtin "abs" | .int => .type "int" | .tuple => .type "tuple" | .list => .type "list" | .sum => .builtin "sum"
  | .max => .builtin "max" | .min => .builtin "min" | .sorted => .builtin "sorted" | .all => .builtin "all" | .any => .builtin "any"
def Blt.isTy : Blt → Bool
  | .int => true | .tuple => true | .list => true
  | _ => false
theorem blt_boot (b : Blt) : bootBuiltins b.nm = some b.val := by cases b <;> decide +kernel
theorem blt_nm (b : Blt) : b.nm ≠ "__name__" ∧ (b.nm == ("__debug__" : Str)) = false := by cases b <;> decide +kernel
def wCl (X : Cx) (f : Value) : List V → Hp → VK → Prop := fun xs H Q => ∀ pins s σ us, Inv X pins σ H s → Vals xs us → wpAny (model X.prog X.w) X.A (call f us) (EP X pins σ Q) X.xe s
theorem wCl_ok {X : Cx} {f : Value} : CallR X f (wCl X f) := fun pins s σ H xs us Q I r h => h pins s σ us I r
theorem wCl_of {X : Cx} {f : Value} {r : List V → Hp → VK → Prop} (o : CallR X f r) {xs : List V} {H : Hp} {Q : VK} (h : r xs H Q) : wCl X f xs H Q := fun pins s σ us I rr => o pins s σ H xs us Q I rr h
theorem pe_bltC {X : Cx} {b : Blt} {e : Expr} {es : List Expr} {p pos : Pos} {t : TA} (hg : Gl X b.nm) (hm : X.mg b.nm = none) (ha : PA X (e :: es) t)
    (he : starEach (e :: es) X.env = (false, eval e X.env) :: starEach es X.env) (hpl : (backTo pos (starEach es X.env)).any (·.1) = false) : PE X (.Call (.Name b.nm p) (e :: es) [] pos) (tCB (wCl X b.val) t) := by
  have hb := blt_boot b
  obtain ⟨h1, h2⟩ := blt_nm b
  cases b <;> first
    | exact pe_callB wCl_ok hg hm hb ha h1 h2 he hpl
    | exact pe_callTy wCl_ok hg hm hb ha h1 h2 he hpl

theorem bltD_one {b : Blt} {xs : List D} (hn : bltD b xs ≠ .no) : ∃ x, xs = [x] := by
  match xs, hn with
  | [x], _ => exact ⟨x, rfl⟩
  | [], h => exact absurd rfl h
  | _ :: _ :: _, h => exact absurd rfl h
def Blt.seqs : Blt → Bool
  | .tuple => true
  | .list => true
  | .sorted => true
  | _ => false
/-- one that looks at its thing alone -/
theorem blt_flat {X : Cx} {b : Blt} {x d : D} {v : V} {H : Hp} {Q : VK} (hc : b.cool = true ∨ X.calm = true) (hd : blt1 b x = .ok d) (r : Rp N X.K H v x) (hb : b.seqs = false) (h : ∀ v, (∀ H, Rp N X.K H v d) → (∃ i, d = .int i) → Q v H) : wCl X b.val [v] H Q := by
  cases b with
  | tuple => cases hb
  | list => cases hb
  | len =>
    have hd : lenOf x = .ok d := hd
    unfold lenOf at hd
    cases r <;> first | cases hd | skip
    · rename_i h1 r1
      cases hd
      exact wCl_of call_len_seq ⟨_, _, rfl, .inr (.inl (.of h1)), h _ (fun _ => by rw [r1.length]; exact .int _) ⟨_, rfl⟩⟩
    · rename_i h1 r1
      cases hd
      exact wCl_of call_len_seq ⟨_, _, rfl, .inl h1, h _ (fun _ => by rw [r1.length]; exact .int _) ⟨_, rfl⟩⟩
  | abs =>
    have hd : absD x = .ok d := hd
    unfold absD at hd
    cases r <;> first | cases hd | skip
    cases hd
    exact wCl_of call_abs ⟨_, rfl, h _ (fun _ => .int _) ⟨_, rfl⟩⟩
  | int =>
    have hd : intD x = .ok d := hd
    unfold intD at hd
    cases r <;> first | cases hd | skip
    · cases hd
      exact wCl_of call_int1 (.inr ⟨_, rfl, h _ (fun _ => .int _) ⟨_, rfl⟩⟩)
    · cases hd
      exact wCl_of call_int1 (.inl ⟨_, rfl, h _ (fun _ => .int _) ⟨_, rfl⟩⟩)
  | sum =>
    have hd : sumD x = .ok d := hd
    unfold sumD at hd
    cases x with
    | lst ys =>
      dsimp only at hd
      cases q : intsOf ys with
      | none => rw [q] at hd; cases hd
      | some is =>
        rw [q] at hd
        cases hd
        obtain rfl := intsOf_eq q
        cases r with
        | lst h1 r1 =>
          have e := r1.ints
          subst e
          have hcm : X.calm = true := by
            rcases hc with hc | hc
            · cases hc
            · exact hc
          exact wCl_of (cr_sum hcm) ⟨_, _, rfl, h1, h _ (fun _ => .int _) ⟨_, rfl⟩⟩
    | _ => cases hd
  | max =>
    replace hd : maxD x = .ok d := hd
    unfold maxD at hd
    cases x with
    | lst ys =>
      dsimp only at hd
      cases q : intsOf ys with
      | none => rw [q] at hd; cases hd
      | some is =>
        rw [q] at hd
        obtain rfl := intsOf_eq q
        cases qm : is.max? with
        | none => rw [Option.bind_some, qm] at hd; cases hd
        | some m =>
          rw [Option.bind_some, qm] at hd
          cases hd
          obtain ⟨m1, m2⟩ := List.max?_eq_some_iff.mp qm
          cases r with
          | lst h1 r1 =>
            have e := r1.ints
            subst e
            have hcm : X.calm = true := by
              rcases hc with hc | hc
              · cases hc
              · exact hc
            refine wCl_of (cr_max hcm) ⟨_, _, rfl, h1, List.length_pos_of_mem m1, fun k k1 k2 => ?_⟩
            have : k = m := Int.le_antisymm (m2 k k1) (k2 m m1)
            rw [this]
            exact h _ (fun _ => .int _) ⟨_, rfl⟩
    | _ => cases hd
  | min =>
    replace hd : minD x = .ok d := hd
    unfold minD at hd
    cases x with
    | lst ys =>
      dsimp only at hd
      cases q : intsOf ys with
      | none => rw [q] at hd; cases hd
      | some is =>
        rw [q] at hd
        obtain rfl := intsOf_eq q
        cases qm : is.min? with
        | none => rw [Option.bind_some, qm] at hd; cases hd
        | some m =>
          rw [Option.bind_some, qm] at hd
          cases hd
          obtain ⟨m1, m2⟩ := List.min?_eq_some_iff.mp qm
          cases r with
          | lst h1 r1 =>
            have e := r1.ints
            subst e
            have hcm : X.calm = true := by
              rcases hc with hc | hc
              · cases hc
              · exact hc
            refine wCl_of (cr_min hcm) ⟨_, _, rfl, h1, List.length_pos_of_mem m1, fun k k1 k2 => ?_⟩
            have : k = m := Int.le_antisymm (k2 m m1) (m2 k k1)
            rw [this]
            exact h _ (fun _ => .int _) ⟨_, rfl⟩
    | _ => cases hd
  | sorted => cases hb
  | all => cases hd
  | any => cases hd
theorem rps_int {K : PySem.W.Frag} {H : Hp} : ∀ is : List Int, Rps N K H (is.map V.int) (is.map D.int)
  | [] => .nil
  | i :: is => .cons (.int i) (rps_int is)
/-- one that makes a sequence of it -/
theorem blt_seq {X : Cx} {b : Blt} {es : RE} {x d : D} {v : V} {H0 H : Hp} {A : List Addr} {Q : VK} (e : Same H0 H) (c : AOk H A) (hb : b.seqs = true) (hd : blt1 b x = .ok d) (it : Itc N X.K H (bA (leak own (.blt b es)) A) v x)
    (h : ∀ v H', PostE N X.K H0 A own (.blt b es) d v H' → Q v H') : wCl X b.val [v] H Q := by
  cases b <;> first | cases hb | skip
  · have hd : tupD x = .ok d := hd
    unfold tupD at hd
    cases x <;> first | cases hd | skip
    · cases hd
      obtain ⟨a, vs, rfl, h1, r⟩ := it
      refine wCl_of call_tuple_of ⟨a, vs, rfl, .inr ⟨.inl (.of h1), h _ _ (.mk' e ?_ id rfl)⟩⟩
      exact .tup (by rw [sub_out ((c.bA _).tup h1)]; exact h1) r
    · cases hd
      obtain ⟨a, vs, rfl, h1, r⟩ := it
      exact wCl_of call_tuple_of ⟨a, vs, rfl, .inl ⟨h1, fun l hl => h _ _ (post_tup e c hl r id rfl)⟩⟩
  · have hd : lstD x = .ok d := hd
    unfold lstD at hd
    cases x <;> first | cases hd | skip
    · cases hd
      obtain ⟨a, vs, rfl, h1, r⟩ := it
      exact wCl_of call_list_of ⟨a, vs, rfl, .inr (.inl (.of h1)), fun l hl => h _ _ (post_lst e c hl r id)⟩
    · cases hd
      obtain ⟨a, vs, rfl, h1, r⟩ := it
      exact wCl_of call_list_of ⟨a, vs, rfl, .inl h1, fun l hl => h _ _ (post_lst e c hl r id)⟩
  · have hd : sortD x = .ok d := hd
    unfold sortD at hd
    have fin : ∀ {a : Addr} {vs : List V} {xs : List D}, v = .ref a → (SqL X.K H a vs ∨ SqT X.K H a vs) → Rps N X.K (sub H (bA (leak own (.blt .sorted es)) A)) vs xs → itemsOf x = .ok xs → wCl X (Blt.val .sorted) [v] H Q := by
      intro a vs xs e1 hs rs hi
      subst e1
      rw [hi] at hd
      dsimp only at hd
      cases hq : intsOf xs with
      | none => rw [hq] at hd; cases hd
      | some is =>
        rw [hq] at hd
        dsimp only at hd
        split at hd
        · rename_i h64
          cases hd
          obtain rfl := intsOf_eq hq
          have e2 := rs.ints
          subst e2
          refine wCl_of pd_cr_sorted ⟨a, is, rfl, hs, h64, fun ns' p hp1 hp2 hp => ?_⟩
          rw [isort_eq hp1 hp2]
          refine h _ _ (post_lst e c hp (rps_int _) id)
        · cases hd
    cases x with
    | lst xs => obtain ⟨a, vs, rfl, h1, r⟩ := it; exact fin rfl (.inl h1) r rfl
    | tup xs => obtain ⟨a, vs, rfl, h1, r⟩ := it; exact fin rfl (.inr (.inl (.of h1))) r rfl
    | _ => cases hd
theorem sortD_ex {x : D} {y : Exn} (h : sortD x = .ex y) : False := by
  unfold sortD at h
  split at h
  · split at h
    · split at h <;> cases h
    · cases h
  · cases h
theorem blt1_ex {b : Blt} {x : D} {y : Exn} (h : blt1 b x = .ex y) : False := by
  cases b <;> first | cases h | skip
  · have h : lenOf x = .ex y := h
    cases x <;> cases h
  · have h : absD x = .ex y := h
    cases x <;> cases h
  · have h : intD x = .ex y := h
    cases x <;> cases h
  · have h : tupD x = .ex y := h
    cases x <;> cases h
  · have h : lstD x = .ex y := h
    cases x <;> cases h
  · have h : sumD x = .ex y := h
    unfold sumD at h
    cases x with
    | lst ys =>
      dsimp only at h
      cases q : intsOf ys with
      | none => rw [q] at h; cases h
      | some is => rw [q] at h; cases h
    | _ => cases h
  · have h : maxD x = .ex y := h
    unfold maxD at h
    split at h <;> first | cases h | (split at h <;> cases h)
  · have h : minD x = .ex y := h
    unfold minD at h
    split at h <;> first | cases h | (split at h <;> cases h)
  · exact sortD_ex h
theorem leak_bltO {b : Blt} {es : RE} (hb : b.seqs = true) : (∃ i, es = .cons (.var i) .nil) ∨ leak own (.blt b es) = leak own es := by
  cases b <;> first | cases hb | skip
  all_goals cases es <;> first
    | exact .inr rfl
    | (rename_i a r
       cases a <;> cases r <;> first
         | exact .inr rfl
         | exact .inl ⟨_, rfl⟩)
theorem se_blt {b : Blt} {es : RE} (hs : SA P N n NN own cm ci es) : SE P N n NN own cm ci (.blt b es) := fun X W sc e env σ H A ad cur Q S hk F C h => by
  rw [chkE_blt] at hk
  split at hk
  case h_2 => cases hk
  case h_1 x p1 e1 ees p =>
    obtain ⟨kc, hk⟩ := and_t hk
    obtain ⟨k1, hk⟩ := and_t hk
    obtain ⟨k2, hk⟩ := and_t hk
    obtain ⟨k3, hk⟩ := and_t hk
    obtain ⟨kst, k4⟩ := and_t hk
    obtain rfl : b.nm = x := of_decide_eq_true k1
    have ords := chkA_ords kst k4
    have hc : b.cool = true ∨ X.calm = true := by
      rcases (Bool.or_eq_true _ _).mp kc with q | q
      · exact .inr (S.calm q)
      · exact .inl q
    rw [evE_blt] at h
    refine toE (pe_bltC (S.glk k3) (S.facts.free _ (of_decide_eq_true k2)) pa_w (ord_star (ords _ List.mem_cons_self) _ _) (stars_none fun e he => ords e (List.mem_cons_of_mem _ he))) ?_
    show wA X (e1 :: ees) σ H fun vs H1 => wCl X b.val vs H1 Q
    cases hb : b.seqs with
    | true =>
      rcases leak_bltO (own := own) (es := es) hb with ⟨i, rfl⟩ | hl
      · rw [chkA_cons] at k4
        obtain ⟨g0, g3⟩ := and_t k4
        obtain ⟨g1, g2⟩ := and_t g3
        have en : ees = [] := by
          rw [chkA_nil] at g2
          cases ees with
          | nil => rfl
          | cons _ _ => cases g2
        subst en
        refine toA (pa_cons pe_w pa_nil (ord_star g0 [] X.env)) ?_
        have h : WPE N X.K W own (.blt b (.cons (.var i) .nil)) σ H A ((evE (P.ctx n) cur (.var i) env).bd fun x => blt1 b x) Q := by
          rw [evE_cons, evE_nil] at h
          cases he : evE (P.ctx n) cur (.var i) env with
          | ok x => rw [he] at h; exact h
          | ex x => rw [he] at h; exact h
          | no => rw [he] at h; exact h
        refine se_step (se_var (i := i)) S g1 F C (Same.refl H) h fun x v H1 p1 e2 F1 C1 h1 => ?_
        show wCl X b.val [v] H1 Q
        cases hd : blt1 b x with
        | ok d =>
          rw [hd] at h1
          refine blt_seq e2 F1.aok hb hd ?_ h1
          have hl : leak own (.blt b (.cons (.var i) .nil)) = leakI own (.var i) := by cases b <;> first | rfl | cases hb
          rw [hl]
          exact p1.items
        | ex x => exact (blt1_ex hd).elim
        | no => rw [hd] at h1; exact h1.elim
      · refine sa_step (f := fun y => match y with
          | .tup ys => bltD b ys
          | _ => .no) hs S k4 F C (Same.refl H) h fun xs vs H1 s1 rp e2 F1 C1 h1 => ?_
        have h1 : WPE N X.K W own (.blt b es) σ H A (bltD b xs) Q := h1
        obtain ⟨x, rfl⟩ := bltD_one (b := b) (xs := xs) fun z => by rw [z] at h1; exact h1
        have h1 : WPE N X.K W own (.blt b es) σ H A (blt1 b x) Q := h1
        cases rp with
        | cons r1 r2 =>
          cases r2
          cases hd : blt1 b x with
          | ok d =>
            rw [hd] at h1
            refine blt_seq e2 F1.aok hb hd ?_ h1
            rw [hl]
            exact .of_rp r1
          | ex x => exact (blt1_ex hd).elim
          | no => rw [hd] at h1; exact h1.elim
    | false =>
      refine sa_step (f := fun y => match y with
        | .tup ys => bltD b ys
        | _ => .no) hs S k4 F C (Same.refl H) h fun xs vs H1 s1 rp e2 F1 C1 h1 => ?_
      have h1 : WPE N X.K W own (.blt b es) σ H A (bltD b xs) Q := h1
      obtain ⟨x, rfl⟩ := bltD_one (b := b) (xs := xs) fun z => by rw [z] at h1; exact h1
      have h1 : WPE N X.K W own (.blt b es) σ H A (blt1 b x) Q := h1
      cases rp with
      | cons r1 r2 =>
        cases r2
        cases hd : blt1 b x with
        | ok d =>
          rw [hd] at h1
          refine blt_flat hc hd (r1.mono sub_same) hb fun v rv hi => h1 v H1 ?_
          obtain ⟨i, rfl⟩ := hi
          refine .flats e2 rv trivial ?_
          cases b <;> first | rfl | cases hb
        | ex x => exact (blt1_ex hd).elim
        | no => rw [hd] at h1; exact h1.elim
end
end PD
end

section
set_option Elab.async false
set_option linter.all false
set_option maxRecDepth 100000
/-! PE2: xs[::-1]; x == y, len(x) by an own method. -/
namespace PD
open PySem PySem.Spec PyProof.Rows L2
theorem Rps.reverse {N : Info} {K : PySem.W.Frag} {H : Hp} {vs : List V} {ds : List D} (r : Rps N K H vs ds) : Rps N K H vs.reverse ds.reverse := by
  induction vs generalizing ds with
  | nil => cases r; exact .nil
  | cons v vs ih =>
    cases r with
    | cons h r =>
      rw [List.reverse_cons, List.reverse_cons]
      exact (ih r).append (.one h)
section
variable {P : Prog} {N : Info} {n : Nat} {NN : List Str} {own : List Nat} {cm : Bool} {ci : Nat}
theorem leak_rev {a : RE} : leak own (.rev a) = leak own (.cut a .nopart .nopart) := by
  cases a <;> first | rfl | (rename_i a; cases a <;> rfl)
theorem se_rev {a : RE} (ha : SE P N n NN own cm ci a) : SE P N n NN own cm ci (.rev a) := fun X W sc e env σ H A ad cur Q S hk F C h => by
  rw [chkE_rev] at hk
  split at hk
  case h_2 => cases hk
  case h_1 ea k q1 q2 q3 q4 =>
    rw [evE_rev] at h
    refine toE (pe_revL pe_w) ?_
    refine se_step ha S hk F C (Same.refl H) h fun x vx H1 p1 e1 F1 C1 h1 => ?_
    have it := p1.items
    have h1 : WPE N X.K W own (.rev a) σ H A (revD x) Q := h1
    cases x with
    | lst xs =>
      obtain ⟨pa, vs, rfl, hp, rs⟩ := it
      refine ⟨pa, vs, rfl, hp, fun p hq => h1 _ _ (post_lst e1 F1.aok hq ?_ id)⟩
      rw [leak_rev, leak_cut]
      exact rs.reverse
    | _ => exact h1.elim

/-- an own == is called -/
theorem eq_own {X : Cx} {pins : List (Addr × Obj)} {s : Shared} {σ : L2.St} {H : Hp} {C f dx dy a b : Addr} {fs gs : List (Str × V)} {Q : VK} (I : Inv X pins σ H s) (ha : H a = some (.ins C dx fs)) (hb : H b = some (.ins C dy gs)) (hm : Meth X.K C "__eq__" f) (hu : X.A.units < cLine)
    (run : wpAny (model X.prog X.w) X.A (call (.ref f) [.ref a, .ref b]) (EP X pins σ Q) X.xe s) : wpAny (model X.prog X.w) X.A (compareOp .Eq (.ref a) (.ref b)) (EP X pins σ Q) X.xe s := by
  obtain ⟨mA, J, _⟩ := ins_get I.hok ha
  obtain ⟨mB, J', _⟩ := ins_get I.hok hb
  obtain ⟨od, J, _⟩ := J.look
  obtain ⟨od', J', _⟩ := J'.look
  obtain ⟨m, hF⟩ := I.fr
  show wpAny (model X.prog X.w) X.A (richCompare .Eq (.ref a) (.ref b)) (EP X pins σ Q) X.xe s
  refine PySem.W.cmp_K (op := .Eq) (tb := .ref C) hu hF I.ok.mod.kin J J'.type (by simp [PySem.W.notFirst]) hm.at_ hm.fn ?_
  refine wpAny_mono run (fun v s' q => ?_) fun _ _ x => x
  cases v <;> first | exact q | skip
  obtain ⟨x, H', _, rx, _⟩ := q
  cases x <;> first | exact rx.elim | skip
  all_goals (first | (cases rx; done) | (obtain ⟨_, rx⟩ := rx; cases rx; done) | (obtain ⟨_, _, rx⟩ := rx; cases rx; done))
end

section
variable {P : Prog} {N : Info} {n : Nat} {NN : List Str} {own : List Nat} {cm : Bool} {ci : Nat}
theorem ceq_run {m : Nat} {a b : RE} {ea eb : Expr} {X : Cx} {W : WX} {sc : Scope} {env : Env} {σ : L2.St} {H : Hp} {A : List Addr} {ad : Nat → Addr} {cur : Option Exn} {Q : VK} (ha : SE P N n NN own cm ci a) (hb : SE P N n NN own cm ci b) (S : Site P N n X W sc NN cm) (kc : cm = true) (hm : N.mname m = "__eq__")
    (k1 : chkE N NN own cm ci a sc false ea = true) (k2 : chkE N NN own cm ci b sc false eb = true) (F : Frm N X.K own env σ H A ad) (C : CurOk N X A σ H cm cur ci) (h : WPE N X.K W own (.ceq m a b) σ H A (evE (P.ctx n) cur (.ceq m a b) env) Q) :
    wE X ea σ H fun x H1 => wE X eb σ H1 fun y H2 => ∀ pins s v u, Inv X pins σ H2 s → RelV x v → RelV y u → wpAny (model X.prog X.w) X.A (compareOp .Eq v u) (EP X pins σ fun z H3 => ∃ t, z = .bl t ∧ Q z H3) X.xe s := by
  rw [evE_ceq] at h
  have lk : leak own (.ceq m a b) = false → leak own a = false ∧ leak own b = false := fun l => by
    unfold leak at l
    exact Bool.or_eq_false_iff.mp l
  refine se_step ha S k1 F C (Same.refl H) h fun x vx H1 p1 e1 F1 C1 h1 => ?_
  refine se_step hb S k2 F1 C1 e1 h1 fun y vy H2 p2 e2 F2 C2 h2 => ?_
  have h2 : WPE N X.K W own (.ceq m a b) σ H A (eqM (P.ctx n) m x y) Q := h2
  have hst : (P.ctx n).st = P.st := by cases n <;> rfl
  unfold eqM at h2
  rw [hst] at h2
  split at h2
  case h_2 => exact h2.elim
  case h_1 _ c vs c' ws _ =>
    split at h2
    case isFalse => exact h2.elim
    case isTrue hcc =>
      subst hcc
      cases hmm : P.st.meth c m with
      | none => rw [hmm] at h2; exact h2.elim
      | some g =>
        rw [hmm] at h2
        dsimp only at h2
        obtain ⟨g1, g2, g3, g4, _⟩ := S.facts.meth c m g hmm
        obtain ⟨fd, F0, hb⟩ := (S.fns kc).fn g g3 g4
        have hr : Room (2 * n + 3) X.A := (S.room kc).mono (by omega)
        have q1 : Rp N X.K (sub H2 (bA (leak own (.ceq m a b)) A)) vx (.ins c vs) := (p1.rp.mono (sub_mono p2.same)).up fun l => (lk l).1
        have q2 : Rp N X.K (sub H2 (bA (leak own (.ceq m a b)) A)) vy (.ins c ws) := p2.rp.up fun l => (lk l).2
        have h3 : WPE N X.K W own (.ceq m a b) σ H A ((P.ctx n).call g [.ins c vs, .ins c ws]) (fun z H3 => ∃ t, z = .bl t ∧ Q z H3) := by
          cases hc : (P.ctx n).call g [.ins c vs, .ins c ws] with
          | no => rw [hc] at h2; exact h2.elim
          | ex x => rw [hc] at h2; exact h2
          | ok d =>
            rw [hc] at h2
            cases d <;> first | exact h2.elim | skip
            intro v H' pp
            have r := pp.rp0
            cases r
            exact ⟨_, rfl, h2 _ H' pp⟩
        have cp := call_post (r := .ceq m a b) e2 F2.aok (.cons q1 (.cons q2 .nil)) id (nw := N.nw g) (fun z => by cases z) h3
        rw [hm] at g1
        have r1 := p1.rp0.mono p2.same
        have r2 := p2.rp0
        cases r1 with
        | @ins pa dx fs _ _ hc1 hp1 _ _ =>
          cases r2 with
          | @ins pb dx' fs' _ _ hc2 hp2 _ _ =>
            intro pins s v u I rv ru
            obtain rfl : v = Value.ref pa := rv
            obtain rfl : u = Value.ref pb := ru
            have hp1' : H2 pa = some (.ins (cA N X.K c) dx fs) := hp1
            refine eq_own I hp1' hp2 g1 (by have := S.hu; omega) ?_
            exact run_fnSD (us := [.ref pa, .ref pb]) (vs := [.ref pa, .ref pb]) (dvs := []) (E := fun σ cls d H' => W cls d σ H') (fnok_framed F0) hr hb .nil (passAt S.tk σ) I (.cons rfl (.cons rfl .nil)) (by rw [List.append_nil]; exact cp)
theorem se_ceq {m : Nat} {a b : RE} (ha : SE P N n NN own cm ci a) (hb : SE P N n NN own cm ci b) : SE P N n NN own cm ci (.ceq m a b) := fun X W sc e env σ H A ad cur Q S hk F C h => by
  rw [chkE_ceq] at hk
  split at hk
  case h_2 => cases hk
  case h_1 ea eb p =>
    obtain ⟨kc, hk⟩ := and_t hk
    obtain ⟨k0, hk⟩ := and_t hk
    obtain ⟨k1, hk⟩ := and_t hk
    obtain ⟨k2, k3⟩ := and_t hk
    intro pins s I
    exact wpAny_Compare1 (binT pe_w pe_w I (ceq_run ha hb S kc (of_decide_eq_true k0) k2 k3 F C h) fun v u s2 x y H2 I2 rx ry q => wpAny_mono (q pins s2 v u I2 rx ry) (fun r s' ⟨z, H3, I3, rz, t, _, q⟩ => ⟨z, H3, I3, rz, q⟩) fun _ _ x => x) (ord_mark k1 _)
theorem st_ceq {m : Nat} {a b : RE} (ha : SE P N n NN own cm ci a) (hb : SE P N n NN own cm ci b) : STt P N n NN own cm ci (.ceq m a b) := fun X W sc e env σ H A ad cur Q S hk F C h => by
  rw [chkE_ceq] at hk
  split at hk
  case h_2 => cases hk
  case h_1 ea eb p =>
    obtain ⟨kc, hk⟩ := and_t hk
    obtain ⟨k0, hk⟩ := and_t hk
    obtain ⟨k1, hk⟩ := and_t hk
    obtain ⟨k2, k3⟩ := and_t hk
    have h' : WPE N X.K W own (.ceq m a b) σ H A (evE (P.ctx n) cur (.ceq m a b) env) (fun z H3 => ∀ t, z = .bl t → Q t H3) := by
      rcases wpt_cases h with ⟨d, t, he, ht, hh⟩ | ⟨x, he, hh⟩
      · rw [he]
        intro v H' pp t' hv
        subst hv
        have r := pp.rp0
        cases r
        cases ht
        exact hh H' pp.same
      · rw [he]
        exact hh
    intro pins s I
    refine wpAny_isTrue_Compare1 (binT pe_w pe_w I (ceq_run ha hb S kc (of_decide_eq_true k0) k2 k3 F C h') fun v u s2 x y H2 I2 rx ry q => ?_) (ord_mark k1 _)
    refine thn (q pins s2 v u I2 rx ry) fun c s3 ⟨z, H3, I3, rz, t, e, q3⟩ => ?_
    subst e
    cases rz
    exact wpAny_truthy_bool ⟨H3, I3, q3 t rfl⟩
theorem len_own {X : Cx} {pins : List (Addr × Obj)} {s : Shared} {σ : L2.St} {H : Hp} {C f dx a : Addr} {fs : List (Str × V)} {Q : VK} (I : Inv X pins σ H s) (ha : H a = some (.ins C dx fs)) (hm : Meth X.K C "__len__" f)
    (run : wpAny (model X.prog X.w) X.A.in1 (call (.ref f) [.ref a]) (EP X pins σ fun z H3 => ∃ i, z = .int i ∧ 0 ≤ i ∧ i < 2 ^ 62 ∧ Q z H3) X.xe s) : wpAny (model X.prog X.w) X.A (call (.builtin "len") [.ref a]) (EP X pins σ Q) X.xe s := by
  obtain ⟨mA, J, _⟩ := ins_get I.hok ha
  obtain ⟨od, J, _⟩ := J.look
  obtain ⟨m, hF⟩ := I.fr
  refine PySem.W.len_K hF I.ok.mod.kin J hm.at_ hm.fn ?_
  refine wpAny_mono run (fun v s' q => ?_) fun _ _ x => x
  obtain ⟨z, H', I', rz, i, e, i0, i1, q⟩ := q
  subst e
  obtain ⟨t, rfl⟩ := rz
  exact ⟨⟨i0, by omega⟩, .int i, H', I'.tok _, ⟨_, rfl⟩, q⟩
theorem se_dlen {m : Nat} {a : RE} (ha : SE P N n NN own cm ci a) : SE P N n NN own cm ci (.dlen m a) := fun X W sc e env σ H A ad cur Q S hk F C h => by
  rw [chkE_dlen] at hk
  split at hk
  case h_2 => cases hk
  case h_1 x p1 ea p =>
    obtain ⟨kc, hk⟩ := and_t hk
    obtain ⟨k0, hk⟩ := and_t hk
    obtain ⟨k1, hk⟩ := and_t hk
    obtain ⟨k2, hk⟩ := and_t hk
    obtain ⟨k3, hk⟩ := and_t hk
    obtain ⟨k4, k5⟩ := and_t hk
    obtain rfl : x = "len" := of_decide_eq_true k0
    have hm : N.mname m = "__len__" := of_decide_eq_true k3
    rw [evE_dlen] at h
    have hst : (P.ctx n).st = P.st := by cases n <;> rfl
    have go : wE X ea σ H fun x H1 => ∀ pins s u, Inv X pins σ H1 s → RelV x u → wpAny (model X.prog X.w) X.A (call (.builtin "len") [u]) (EP X pins σ Q) X.xe s := by
      refine se_step ha S k5 F C (Same.refl H) h fun x vx H1 p1 e1 F1 C1 h1 => ?_
      have h1 : WPE N X.K W own (.dlen m a) σ H A (lenM (P.ctx n) m x) Q := h1
      unfold lenM at h1
      rw [hst] at h1
      cases hmm : methOf P.st x m with
      | none => rw [hmm] at h1; exact h1.elim
      | some g =>
        rw [hmm] at h1
        dsimp only at h1
        obtain ⟨c, ws, rfl⟩ : ∃ c ws, x = .ins c ws := by
          cases x <;> first | exact ⟨_, _, rfl⟩ | cases hmm
        have hmm : P.st.meth c m = some g := hmm
        obtain ⟨g1, g2, g3, g4, _⟩ := S.facts.meth c m g hmm
        obtain ⟨fd, F0, hb⟩ := (S.fns kc).fn g g3 g4
        have hr : Room (2 * n + 3) X.A.in1 := (S.room kc).in1
        have h3 : WPE N X.K W own (.dlen m a) σ H A ((P.ctx n).call g [.ins c ws]) (fun z H3 => ∃ i, z = .int i ∧ 0 ≤ i ∧ i < 2 ^ 62 ∧ Q z H3) := by
          cases hc : (P.ctx n).call g [.ins c ws] with
          | no => rw [hc] at h1; exact h1.elim
          | ex x => rw [hc] at h1; exact h1
          | ok d =>
            rw [hc] at h1
            cases d <;> first | exact h1.elim | skip
            rename_i i
            have h1 : WPE N X.K W own (.dlen m a) σ H A (if (decide (0 ≤ i) && small62 i) = true then .ok (.int i) else .no) Q := h1
            split at h1
            case isFalse => exact h1.elim
            case isTrue hh =>
              obtain ⟨q1, q2⟩ := and_t hh
              obtain ⟨_, q2⟩ := and_t q2
              intro v H' pp
              have r := pp.rp0
              cases r
              exact ⟨_, rfl, of_decide_eq_true q1, of_decide_eq_true q2, h1 _ H' pp⟩
        have cp := call_post (r := .dlen m a) e1 F1.aok (.cons p1.rp .nil) id (nw := N.nw g) (fun z => by cases z) h3
        rw [hm] at g1
        have r1 := p1.rp0
        cases r1 with
        | @ins pa dx fs _ _ hc1 hp1 _ _ =>
          intro pins s u I rv
          obtain rfl : u = Value.ref pa := rv
          refine len_own I hp1 g1 ?_
          refine wpAny_call (codeAny_mono ((fnok_framed F0).run X.A.in1 X.stack s H1 ⟨[.ref pa], []⟩ [.ref pa] [.ref pa] _ (fun cls d H' => W cls d σ H') hr (I.env0.in1) (by
            have := hb s [.ref pa] I.kIn (by simpa using (fnok_framed F0).len _ _ _ _ cp)
            simpa using this) (.cons rfl .nil) cp) fun r s' hq => ?_)
          cases r with
          | error e => exact passAt S.tk σ pins H1 s e s' I hq
          | ok fl =>
            cases fl with
            | ret u => exact I.after hq
            | next => exact False.elim hq
            | brk => exact False.elim hq
            | cont => exact False.elim hq
    intro pins s I
    refine wpAny_Call_Name_kw (ld_blt I (S.glk k2) (S.facts.free _ (of_decide_eq_true k1)) (blt_boot .len) ?_ (blt_nm .len).1 (blt_nm .len).2)
    refine PyProof.Rows.callWith_builtin1 (thn ((pa_cons pe_w pa_nil (ord_star k4 _ _)).run p pins s σ H (fun vs H1 => ∃ x, vs = [x] ∧ ∀ pins s u, Inv X pins σ H1 s → RelV x u → wpAny (model X.prog X.w) X.A (call (.builtin "len") [u]) (EP X pins σ Q) X.xe s) I ?_) fun us s1 ⟨vs, H1, I1, r1, x, ex, q1⟩ => ?_) (ord_star k4 _ _) (stars_none fun e he => by simp at he)
    · show wE X ea σ H fun x H1 => ∃ y, [x] = [y] ∧ _
      intro pins s I
      exact wpAny_mono (go pins s I) (fun r s' ⟨z, H3, I3, rz, q⟩ => ⟨z, H3, I3, rz, z, rfl, q⟩) fun _ _ x => x
    · subst ex
      cases r1 with
      | cons r0 r1 =>
        cases r1
        exact q1 _ _ _ I1 r0
end
end PD
end

section
set_option Elab.async false
set_option linter.all false
set_option maxRecDepth 100000
/-! PD11: isinstance; what a suite says of its exception; tuple(range(..)). -/
namespace PD
open PySem PySem.Spec PyProof.Rows L2
section
variable {P : Prog} {N : Info} {n : Nat} {NN : List Str} {own : List Nat} {cm : Bool} {ci : Nat}
theorem st_eq : (P.ctx n).st = P.st := by cases n <;> rfl

/-! ### names of types -/
theorem boot_int : bootBuiltins "int" = some (.type "int") := by decide +kernel
theorem boot_bool : bootBuiltins "bool" = some (.type "bool") := by decide +kernel
theorem boot_tuple : bootBuiltins "tuple" = some (.type "tuple") := by decide +kernel
theorem boot_list : bootBuiltins "list" = some (.type "list") := by decide +kernel
theorem boot_str : bootBuiltins "str" = some (.type "str") := by decide +kernel
theorem boot_verr : bootBuiltins "ValueError" = some (.type "ValueError") := by decide +kernel
theorem boot_isi : bootBuiltins "isinstance" = some (.builtin "isinstance") := by decide +kernel
def tyV (N : Info) (K : PySem.W.Frag) : Nat → V
  | 0 => .ty "int" | 1 => .ty "bool" | 2 => .ty "tuple" | 3 => .ty "list" | 4 => .ty "str"
  | 5 => .non | 6 => .non | 7 => .non | 8 => .non | 9 => .non
  | n + 10 => .ref (cA N K n)
theorem nameOk_ok {x : Str} (h : nameOk x = true) : (x == ("__debug__" : Str)) = false ∧ x ≠ "__name__" ∨ (x == ("__debug__" : Str)) = false := by
  unfold nameOk at h
  obtain ⟨h, _⟩ := and_t h
  exact .inr (by simpa using h)
theorem xTs_inv {sc : Scope} {ts : List Nat} {e : Expr} (h : xTs N sc ts e = true) : (∃ y p, e = .Name y p ∧ xTl N sc ts [.Name y p] = true) ∨ ∃ es k p, e = .Tuple es k p ∧ ts ≠ [] ∧ ts.length ≤ maxLen ∧ xTl N sc ts es = true := by
  cases e <;> first | cases h | skip
  · exact .inl ⟨_, _, rfl, h⟩
  · obtain ⟨h1, h2⟩ := and_t h
    obtain ⟨h3, h4⟩ := of_decide_eq_true h1
    exact .inr ⟨_, _, _, rfl, h3, h4, h2⟩
theorem we_ty {X : Cx} {W : WX} {sc : Scope} {σ : L2.St} {H : Hp} {Q : VK} {t : Nat} {e : Expr} (S : Site P N n X W sc NN cm) (h : tyT N t sc e = true) (q : ClsV (tyV N X.K t) (tyVal N X.K t) → Q (tyV N X.K t) H) : wE X e σ H Q := by
  cases e <;> first | cases h | skip
  rename_i y p
  obtain ⟨h0, h⟩ := and_t h
  obtain ⟨h1, h⟩ := and_t h
  obtain ⟨h2, h⟩ := and_t h
  obtain rfl : tyNm N t = y := of_decide_eq_true h0
  have hd : (tyNm N t == ("__debug__" : Str)) = false := by
    unfold nameOk at h2
    obtain ⟨h2, _⟩ := and_t h2
    simpa using h2
  have hg := S.glk h1
  rcases (Bool.or_eq_true _ _).mp h with h | h
  · obtain ⟨a, b⟩ := and_t h
    have a := of_decide_eq_true a
    have hm := S.facts.free _ (of_decide_eq_true b)
    have go : ∀ {T : String}, tyVal N X.K t = .type T → tyV N X.K t = .ty T → bootBuiltins (tyNm N t) = some (.type T) → tyNm N t ≠ "__name__" → wE X (.Name (tyNm N t) p) σ H Q := by
      intro T e1 e2 e3 e4 pins s I
      refine ld_blt I hg hm e3 ?_ e4 hd
      refine ⟨_, H, I, ?_, q ?_⟩
      · rw [e2]; exact rfl
      · rw [e1, e2]; exact .ty T
    match t, a with
    | 0, _ => exact go rfl rfl boot_int (show ("int" : Str) ≠ "__name__" by decide)
    | 1, _ => exact go rfl rfl boot_bool (show ("bool" : Str) ≠ "__name__" by decide)
    | 2, _ => exact go rfl rfl boot_tuple (show ("tuple" : Str) ≠ "__name__" by decide)
    | 3, _ => exact go rfl rfl boot_list (show ("list" : Str) ≠ "__name__" by decide)
    | 4, _ => exact go rfl rfl boot_str (show ("str" : Str) ≠ "__name__" by decide)
  · obtain ⟨a, b⟩ := and_t h
    have a := of_decide_eq_true a
    have b := of_decide_eq_true b
    obtain ⟨c, rfl⟩ : ∃ c, t = c + 10 := ⟨t - 10, by omega⟩
    have b : c < N.nc := b
    exact toE (pe_glob (v := .ref (cA N X.K c)) hg (S.facts.clg c b) rfl hd) (q (.own _))

/-! ### isinstance -/
theorem ty_of {K : PySem.W.Frag} {H : Hp} {v : V} {d : D} (hi : ∀ c, c < N.nc → IsC K (cA N K c)) (hc : ∀ c, c < N.nc → Cls K (cA N K c)) (r : Rp N K H v d) (h0 : tyOf d < 6 ∨ 10 ≤ tyOf d) : TyX K H v (tyVal N K (tyOf d)) := by
  cases r with
  | non => exact .base .non
  | bl b => exact .base (.bl b)
  | int i => exact .base (.int i)
  | str x => exact .base (.str x)
  | tup h r => exact .base (.tup h)
  | lst h r =>
    rcases h with (h | ⟨o, h⟩) | ⟨o, its, k, h1, h2, _⟩
    · exact .base (.lst h)
    · exact .base (.frz h)
    · exact .kList h1 h2
  | dic _ _ => exact absurd h0 (by show ¬ (9 < 6 ∨ 10 ≤ 9); decide)
  | dik _ _ => exact absurd h0 (by show ¬ (9 < 6 ∨ 10 ≤ 9); decide)
  | rng _ _ _ => exact absurd h0 (by show ¬ (9 < 6 ∨ 10 ≤ 9); decide)
  | dit _ _ => exact absurd h0 (by show ¬ (9 < 6 ∨ 10 ≤ 9); decide)
  | @ins a dx fs c ds hc1 h1 _ _ =>
    have e : tyOf (.ins c ds) = c + 10 := Nat.add_comm _ _
    rw [e]
    have I := hi c hc1
    exact .base (.ins h1 (hc c hc1) I.ha I.hn I.ht I.hm)
theorem se_isi {a : RE} {t : Nat} (ha : SE P N n NN own cm ci a) : SE P N n NN own cm ci (.isi a t) := fun X W sc e env σ H A ad cur Q S hk F C h => by
  rw [chkE_isi] at hk
  split at hk
  case h_2 => cases hk
  case h_1 x p1 ea ec p =>
    obtain ⟨k0, hk⟩ := and_t hk
    obtain ⟨k1, hk⟩ := and_t hk
    obtain ⟨k2, hk⟩ := and_t hk
    obtain ⟨k3, hk⟩ := and_t hk
    obtain ⟨k4, k5⟩ := and_t hk
    obtain rfl : x = "isinstance" := of_decide_eq_true k0
    have oc : ord ec = true := by
      cases ec <;> first | rfl | cases k5
    rw [evE_isi] at h
    rw [st_eq] at h
    refine toE (pe_callB call_isi (S.glk k2) (S.facts.free _ (of_decide_eq_true k1)) boot_isi (pa_cons pe_w (pa_cons pe_w pa_nil (ord_star oc [] X.env)) (ord_star k3 [ec] X.env)) (he := ord_star k3 _ _) (hpl := stars_none fun e he => by
      obtain rfl := List.mem_singleton.mp he
      exact oc)) ?_
    refine se_step ha S k4 F C (Same.refl H) h fun x v H1 p1 e1 F1 C1 h1 => ?_
    show wE X ec σ H1 _
    refine we_ty S k5 fun cv => ?_
    have h1 : WPE N X.K W own (.isi a t) σ H A (match P.st.isi (tyOf x) t with
      | some b => .ok (.bl b)
      | none => .no) Q := h1
    cases hb : P.st.isi (tyOf x) t with
    | none => rw [hb] at h1; exact h1.elim
    | some b =>
      rw [hb] at h1
      obtain ⟨g1, g2⟩ := S.facts.isi _ _ _ hb
      exact ⟨v, _, _, _, b, rfl, cv, ty_of S.facts.isc S.facts.cls p1.rp0 g2, g1, h1 _ _ (.flats e1 (fun _ => .bl b) trivial rfl)⟩

/-! ### the exception that a suite holds -/
theorem cur_name {X : Cx} {W : WX} {sc : Scope} {x : Str} {p : Pos} {σ : L2.St} {H : Hp} {A : List Addr} {cur : Option Exn} {y : Exn} {Q : VK} (S : Site P N n X W sc NN cm) (C : CurOk N X A σ H cm cur ci) (k1 : decide (NN[ci]? = some x) = true) (k2 : vis sc x = true) (k3 : nameOk x = true) (hc : cur = some y)
    (h : ∀ (X0 : Cx) (a : Addr) (oe : Obj) (pn : List (Addr × Obj)) (dx : Option Addr), X = X0.suite a ((a, oe) :: pn) → Zc (.ref (xA N X.K y.c)) dx oe → (∃ vs, oe.data = .fields vs) → XRep N X.K H y dx → Q (.ref a) H) : wE X (.Name x p) σ H Q := by
  obtain ⟨k3, k4⟩ := and_t k3
  have hN : X.N[ci]? = some x := by rw [S.nn]; exact of_decide_eq_true k1
  have hv : Vis X.env.scope x := by rw [S.sc]; exact vis_ok k2
  obtain ⟨X0, a, oe, pn, dx, h1, h2, h3, h4, h5⟩ := C.at_ y hc
  exact toE (pe_var hN hv (by simpa using k3) (by simpa using k4)) ⟨_, h5, h X0 a oe pn dx h1 h2 h3 h4⟩
theorem se_curf {k : Nat} : SE P N n NN own cm ci (.curf k) := fun X W sc e env σ H A ad cur Q S hk F C h => by
  rw [chkE_curf] at hk
  split at hk
  case h_2 => cases hk
  case h_1 x p1 f p =>
    obtain ⟨k0, hk⟩ := and_t hk
    obtain ⟨k1, hk⟩ := and_t hk
    obtain ⟨k2, k3⟩ := and_t hk
    obtain rfl : N.fnm k = f := of_decide_eq_true k3
    rw [evE_curf] at h
    rw [st_eq] at h
    cases hcu : cur with
    | none => rw [hcu] at h; exact h.elim
    | some y =>
      rw [hcu] at h
      dsimp only at h
      cases hf : P.st.xfld y.c k with
      | none => rw [hf] at h; exact h.elim
      | some j =>
        rw [hf] at h
        dsimp only at h
        cases hv : y.vs[j]? with
        | none => rw [hv] at h; exact h.elim
        | some d =>
          rw [hv] at h
          obtain ⟨g1, g2, g3⟩ := S.facts.xfld _ _ _ hf
          obtain ⟨X0, a, oe, pn, dx, h1, h2, h3, h4, h5⟩ := C.at_ y hcu
          have hn : wE X (.Name x p1) σ H fun v H1 => v = .ref a ∧ H1 = H := by
            obtain ⟨k4, k5⟩ := and_t k2
            have hN : X.N[ci]? = some x := by rw [S.nn]; exact of_decide_eq_true k0
            have hv : Vis X.env.scope x := by rw [S.sc]; exact vis_ok k1
            exact toE (pe_var hN hv (by simpa using k4) (by simpa using k5)) ⟨_, h5, rfl, rfl⟩
          subst h1
          have h2 : Zc (.ref (xA N X0.K y.c)) dx oe := h2
          have h4 : XRep N X0.K H y dx := h4
          have g2 : XfC X0.K (xA N X0.K y.c) := g2
          have hne : y.vs ≠ [] := fun z => by rw [z] at hv; cases hv
          have rep : ∃ d fs, dx = some d ∧ H d = some (.xd fs) ∧ (N.xf y.c).length = y.vs.length ∧ ∀ (k : Nat) (f : Str) (z : D), (N.xf y.c)[k]? = some f → y.vs[k]? = some z → ∃ v, fs.lookup f = some v ∧ Rp N X0.K H v z := by
            unfold XRep at h4
            split at h4
            · rename_i q; exact absurd q hne
            · exact h4
          obtain ⟨dd, fs, q1, q2, q3, q4⟩ := rep
          obtain ⟨v, q5, q6⟩ := q4 j _ d g1 hv
          refine toE (pe_xf g2 g3 h2 h3 pe_w (noSuper_base rfl _ _ _)) ?_
          show wE _ _ σ H _
          intro pins s I
          refine thn (hn pins s I) fun u s1 ⟨vx, H1, I1, rx, e1, e2⟩ => ?_
          subst e1; subst e2
          refine ⟨_, _, I1, rx, rfl, rfl, dd, fs, v, q1, q2, q5, h v _ (.mk' (Same.refl _) ?_ id rfl)⟩
          show Rp N X0.K (sub _ []) v d
          rw [sub_nil]
          exact q6

theorem xT_ord {t : Nat} {sc : Scope} {e : Expr} (h : xT N t sc e = true) : ord e = true := by
  cases e <;> first | rfl | cases h
theorem we_xT {X : Cx} {W : WX} {sc : Scope} {σ : L2.St} {H : Hp} {Q : VK} {t : Nat} {e : Expr} (S : Site P N n X W sc NN cm) (h : xT N t sc e = true) (hm : t ≠ 0 → X.mg (N.xn t) = some (.ref (xA N X.K t))) (q : Q (xV N X.K t) H) : wE X e σ H Q := by
  cases e <;> first | cases h | skip
  rename_i y p
  obtain ⟨h0, h⟩ := and_t h
  obtain ⟨h1, h⟩ := and_t h
  obtain ⟨h2, h⟩ := and_t h
  have h0 : xNm N t = y := of_decide_eq_true h0
  have hd : (y == ("__debug__" : Str)) = false := by
    unfold nameOk at h2
    obtain ⟨h2, _⟩ := and_t h2
    simpa using h2
  have hg := S.glk h1
  by_cases ht : t = 0
  · subst ht
    have h0 : ("ValueError" : Str) = y := h0
    subst h0
    have hf : X.mg "ValueError" = none := by
      rcases (Bool.or_eq_true _ _).mp h with h | h
      · exact absurd rfl (of_decide_eq_true h)
      · exact S.facts.free _ (of_decide_eq_true h)
    intro pins s I
    exact ld_blt I hg hf boot_verr ⟨.ty "ValueError", H, I, rfl, q⟩ (by decide) hd
  · have e1 : xNm N t = N.xn t := if_neg ht
    have e2 : xV N X.K t = .ref (xA N X.K t) := if_neg ht
    rw [e1] at h0
    subst h0
    rw [e2] at q
    exact toE (pe_glob (v := .ref (xA N X.K t)) hg (hm ht) rfl hd) q
theorem xTl_ords {sc : Scope} : ∀ {ts : List Nat} {es : List Expr}, xTl N sc ts es = true → ∀ e ∈ es, ord e = true
  | [], [], _, e, he => by simp at he
  | t :: ts, e :: es, h, e', he => by
    obtain ⟨h1, h2⟩ := and_t h
    rcases List.mem_cons.mp he with rfl | he
    · exact xT_ord h1
    · exact xTl_ords h2 e' he
  | [], _ :: _, h, _, _ => by cases h
  | _ :: _, [], h, _, _ => by cases h
theorem wa_xT {X : Cx} {W : WX} {sc : Scope} {σ : L2.St} {H : Hp} (S : Site P N n X W sc NN cm) : ∀ {ts : List Nat} {es : List Expr} {Q : List V → Hp → Prop}, xTl N sc ts es = true → (∀ t ∈ ts, t ≠ 0 → X.mg (N.xn t) = some (.ref (xA N X.K t))) → Q (ts.map (xV N X.K)) H → wA X es σ H Q
  | [], [], Q, _, _, q => toA pa_nil q
  | t :: ts, e :: es, Q, h, hm, q => by
    obtain ⟨h1, h2⟩ := and_t h
    exact toA (pa_cons pe_w pa_w (ord_star (xT_ord h1) es X.env)) (we_xT S h1 (hm t List.mem_cons_self) (wa_xT S h2 (fun t' h' => hm t' (List.mem_cons_of_mem _ h')) q))
  | [], _ :: _, _, h, _, _ => by cases h
  | _ :: _, [], _, h, _, _ => by cases h
theorem xV_cls {K : PySem.W.Frag} (t : Nat) : ClsV (xV N K t) (xVal N K t) := by
  unfold xV xVal
  split
  · exact .ty _
  · exact .own _
theorem xV_all {K : PySem.W.Frag} : ∀ (ts : List Nat), Paired ClsV (ts.map (xV N K)) (ts.map (xVal N K))
  | [] => .nil
  | t :: ts => .cons (xV_cls t) (xV_all ts)
theorem anyIs_mem {f : Nat → Nat → Option Bool} {c : Nat} : ∀ {ts : List Nat} {b : Bool}, anyIs f c ts = some b → ∀ t ∈ ts, ∃ b, f c t = some b
  | [], _, _, t, h => by simp at h
  | t :: ts, b, h, t', h' => by
    unfold anyIs at h
    cases q : f c t with
    | none => rw [q] at h; cases h
    | some b1 =>
      cases q2 : anyIs f c ts with
      | none => rw [q, q2] at h; cases h
      | some b2 =>
        rcases List.mem_cons.mp h' with rfl | h'
        · exact ⟨_, q⟩
        · exact anyIs_mem q2 t' h'
theorem kitAny_is {K : PySem.W.Frag} {c : Nat} (hx : ∀ t b, P.st.exm c t = some b → PySem.W.kitOne K (.ref (xA N K c)) (xVal N K t) = some b) : ∀ {ts : List Nat} {b : Bool}, anyIs P.st.exm c ts = some b → PySem.W.kitAny K (.ref (xA N K c)) (ts.map (xVal N K)) = some b
  | [], b, h => by cases h; rfl
  | t :: ts, b, h => by
    unfold anyIs at h
    cases q : P.st.exm c t with
    | none => rw [q] at h; cases h
    | some b1 =>
      cases q2 : anyIs P.st.exm c ts with
      | none => rw [q, q2] at h; cases h
      | some b2 =>
        rw [q, q2] at h
        cases h
        refine kitAny_cons (hx t b1 q) (fun z => ?_) (fun z => by rw [z]; rfl)
        subst z
        exact kitAny_is hx q2
theorem exc_inst {X0 : Cx} {a : Addr} {oe : Obj} {pn pins : List (Addr × Obj)} {σ : L2.St} {H : Hp} {s : Shared} {C : Addr} {dx : Option Addr} (I : Inv (X0.suite a ((a, oe) :: pn)) pins σ H s) (hz : Zc (.ref C) dx oe) (hf : ∃ vs, oe.data = .fields vs) (hd : ∀ d, dx = some d → ∃ fs, H d = some (.xd fs)) : ∃ od, PySem.W.InstAt s.heap a oe C od := by
  obtain ⟨hget, _⟩ := I.pin (a, oe) (List.mem_append.mpr (.inl List.mem_cons_self))
  obtain ⟨vs, hv⟩ := hf
  obtain ⟨oc, od, oda, osl⟩ := oe
  obtain ⟨h1, h2⟩ := hz
  dsimp only at h1 h2 hv
  subst h1 h2 hv
  cases od with
  | none => exact ⟨none, hget, rfl, rfl, trivial⟩
  | some d =>
    obtain ⟨fs, q⟩ := hd d rfl
    have z : ObjOk X0.prog X0.w H s.heap d (.xd fs) := I.hok d _ q
    obtain ⟨xs, h1⟩ : ∃ (o : Obj), s.heap.get? d = some o := by
      obtain ⟨_, ⟨od, es, ep, e, c⟩, r⟩ := z
      exact ⟨od, e⟩
    exact ⟨some xs, hget, rfl, rfl, h1⟩
theorem se_curis {ts : List Nat} : SE P N n NN own cm ci (.curis ts) := fun X W sc e env σ H A ad cur Q S hk F C h => by
  rw [chkE_curis] at hk
  split at hk
  case h_2 => cases hk
  case h_1 x p1 y p2 ec p =>
    obtain ⟨k0, hk⟩ := and_t hk
    obtain ⟨k1, hk⟩ := and_t hk
    obtain ⟨k2, hk⟩ := and_t hk
    obtain ⟨k3, hk⟩ := and_t hk
    obtain ⟨k4, hk⟩ := and_t hk
    obtain ⟨k5, k6⟩ := and_t hk
    obtain rfl : x = "isinstance" := of_decide_eq_true k0
    rw [evE_curis] at h
    rw [st_eq] at h
    cases hcu : cur with
    | none => rw [hcu] at h; exact h.elim
    | some z =>
      rw [hcu] at h
      dsimp only at h
      cases hb : anyIs P.st.exm z.c ts with
      | none => rw [hb] at h; exact h.elim
      | some b =>
        rw [hb] at h
        have hfx := fun t b q => (S.facts.exm z.c t b q)
        have hmem := anyIs_mem hb
        have hmg : ∀ t ∈ ts, t ≠ 0 → X.mg (N.xn t) = some (.ref (xA N X.K t)) := fun t ht => by
          obtain ⟨b, q⟩ := hmem t ht
          exact (hfx t b q).2.2.2
        obtain ⟨X0, a, oe, pn, dx, h1, h2, h3, h4, h5⟩ := C.at_ z hcu
        have hd : ∀ d, dx = some d → ∃ fs, H d = some (.xd fs) := fun d q => by
          unfold XRep at h4
          split at h4
          · obtain ⟨_, q2⟩ := h4; rw [q2] at q; cases q
          · obtain ⟨d', fs, q2, q3, _⟩ := h4; rw [q2] at q; cases q; exact ⟨fs, q3⟩
        have oc : ord ec = true := by
          rcases xTs_inv k6 with ⟨_, _, rfl, _⟩ | ⟨_, _, _, rfl, _⟩ <;> rfl
        have hne : ts ≠ [] := by
          rcases xTs_inv k6 with ⟨_, _, _, q⟩ | ⟨_, _, _, _, q, _⟩
          · intro z; subst z; cases q
          · exact q
        have ans := kitAny_is (fun t b q => (hfx t b q).1) hb
        have fin : ∀ {H1 : Hp}, Same H H1 → ∀ {pins s σ}, Inv X pins σ H1 s → ts ≠ [] → ∃ od, PySem.W.InstAt s.heap a oe (xA N X.K z.c) od := fun {H1} e1 {pins s σ} I1 _ => by
          subst h1
          exact exc_inst I1 h2 h3 fun d q => let ⟨fs, q⟩ := hd d q; ⟨fs, e1 _ _ q⟩
        have post : ∀ {H1 : Hp}, Same H H1 → Q (.bl b) H1 := fun e1 => h _ _ (.flats e1 (fun _ => .bl b) trivial rfl)
        -- the call, the class as a value
        have key : ∀ {R : List V → Hp → VK → Prop}, CallR X (.builtin "isinstance") R → wE X ec σ H (fun c H1 => R [.ref a, c] H1 Q) → wE X (.Call (.Name "isinstance" p1) [.Name y p2, ec] [] p) σ H Q := fun {R} hR w => by
          refine toE (pe_callB hR (S.glk k2) (S.facts.free _ (of_decide_eq_true k1)) boot_isi (pa_cons pe_w (pa_cons pe_w pa_nil (ord_star oc [] X.env)) (ord_star rfl [ec] X.env)) (he := ord_star rfl _ _) (hpl := stars_none fun e he => by
            obtain rfl := List.mem_singleton.mp he
            exact oc)) ?_
          show wE X (.Name y p2) σ H _
          obtain ⟨k7, k8⟩ := and_t k5
          have hN : X.N[ci]? = some y := by rw [S.nn]; exact of_decide_eq_true k3
          have hv : Vis X.env.scope y := by rw [S.sc]; exact vis_ok k4
          exact toE (pe_var hN hv (by simpa using k7) (by simpa using k8)) ⟨_, h5, w⟩
        obtain ⟨t0, ts0, rfl⟩ : ∃ t0 ts0, ts = t0 :: ts0 := by
          cases ts with
          | nil => exact absurd rfl hne
          | cons t0 ts0 => exact ⟨_, _, rfl⟩
        · obtain ⟨b0, q0⟩ := hmem t0 List.mem_cons_self
          have EC := (hfx t0 b0 q0).2.2.1
          have kx : ∀ od, PySem.W.KitX X.K (.ref a) (.ref (xA N X.K z.c)) (fun h => PySem.W.InstAt h a oe (xA N X.K z.c) od) := fun od => by
            obtain ⟨cd, hcd, _⟩ := PySem.W.any_some EC.hd
            exact PySem.W.kitx_exc (by rw [hcd]; rfl) EC.hg EC.hk EC.hs EC.ha EC.hn EC.ht EC.hm
          rcases xTs_inv k6 with ⟨yy, pp, rfl, k7⟩ | ⟨es, kk, pp, rfl, _, g0, g1⟩
          · obtain ⟨g1, g2⟩ := and_t k7
            cases ts0 with
            | cons _ _ => cases g2
            | nil =>
              have one : PySem.W.kitOne X.K (.ref (xA N X.K z.c)) (xVal N X.K t0) = some b := by
                have e := (hfx t0 b0 q0).1
                have e2 : b0 = b := by
                  unfold anyIs at hb
                  rw [q0] at hb
                  have : some (b0 || false) = some b := hb
                  simpa using this
                rw [e, e2]
              refine key (R := fun xs H1 Q' => ∃ c, xs = [.ref a, c] ∧ ClsV c (xVal N X.K t0) ∧ Same H H1 ∧ Q' (.bl b) H1) (fun pins s σ H1 xs us Q' I r ⟨c, e1, k, e2, q⟩ => ?_) (we_xT S g1 (hmg t0 List.mem_cons_self) ⟨_, rfl, xV_cls t0, Same.refl H, post (Same.refl H)⟩)
              subst e1
              obtain ⟨u1, u2, rfl, r1, r2⟩ := vals2 r
              obtain rfl : u1 = Value.ref a := r1
              obtain rfl := k.eq r2
              obtain ⟨od, J⟩ := fin e2 I hne
              exact PySem.W.kia_one (kx od) I.kIn J one (fun z => nomatch z) fun tk => ⟨.bl b, H1, I.kept (t' := tk) fun _ _ z => z, rfl, q⟩
          · refine key (R := fun xs H1 Q' => ∃ tp, xs = [.ref a, .ref tp] ∧ H1 tp = some (.tup ((t0 :: ts0).map (xV N X.K))) ∧ Same H H1 ∧ Q' (.bl b) H1) (fun pins s σ H1 xs us Q' I r ⟨tp, e1, hT, e2, q⟩ => ?_) (toE (pe_tup pa_w) (wa_xT S g1 hmg ⟨by rw [List.length_map]; exact line_ok g0, fun q hq => ⟨q, rfl, upd_same, same_upd hq, post (same_upd hq)⟩⟩))
            subst e1
            obtain ⟨u1, u2, rfl, r1, r2⟩ := vals2 r
            obtain rfl : u1 = Value.ref a := r1
            obtain rfl : u2 = Value.ref tp := r2
            obtain ⟨od, J⟩ := fin e2 I hne
            obtain ⟨_, its, rv, o, h1, h2, n, h3⟩ := (show ObjOk X.prog X.w H1 s.heap tp (.tup ((t0 :: ts0).map (xV N X.K))) from I.hok tp _ hT)
            have e3 := ClsV.all (xV_all (t0 :: ts0)) rv
            subst e3
            obtain ⟨oc, od', dt, sl⟩ := o
            simp only at h2 h3
            subst h2 h3
            exact PySem.W.kia_tup (kx od) I.kIn J h1 ans (fun z => nomatch z) fun tk => ⟨.bl b, H1, I.tok tk, rfl, q⟩
end
end PD
end

section
set_option Elab.async false
set_option linter.all false
set_option maxRecDepth 100000
/-! PD12: what is walked. -/
namespace PySem
open Sem (wp)
open AutoSeq1 (wpAny_loadPart')
set_option maxHeartbeats 1000000 in
theorem pd_enum_new1 {v : Value} {o : Obj} {H : Heap → Prop} (B : Begins v o H) :
    Meets (Builtin.«enumerate.__new__» ⟨[.type "enumerate", v], []⟩) (fun _ R s => H s.heap ∧
      R (.ok (.ret (.ref (s.heap.push o).objs.size))) { s with heap := (s.heap.push o).push { cls := .type "enumerate", data := .fields #[.none, .bool false, .ref s.heap.objs.size, rawInt 0, .none, .none] } }) :=
  .of_wp fun prog w A R s h => by
    obtain ⟨hp, g, d, tk, os⟩ := s; obtain ⟨h1, h⟩ := h
    have hsub := sub_enumerate
    have q1 : ∀ {A' : Around} {E : Value → Shared → Prop} {Q : Value → Shared → Prop}, Q (.ref hp.objs.size) ⟨hp.push o, g, d, tk, os⟩ → wpAny (model prog w) A' (pyIter v) Q E ⟨hp, g, d, tk, os⟩ :=
      fun q => B.iter prog w _ _ ⟨hp, g, d, tk, os⟩ _ h1 q
    wp_walk using q1
    refine wpAny_stack_any fun st => wpAny_pure ?_
    split
    · rename_i c _ _ _ _ _
      cases (c == Value.type "enumerate")
      · wp_walk using q1
        exact ⟨_, rfl, h⟩
      · wp_walk using q1
        exact ⟨_, rfl, h⟩
    · wp_walk using q1
      exact ⟨_, rfl, h⟩
section
variable {prog : Program} {w : World} {A : Around} {E : Value → Shared → Prop} {s : Shared}
theorem pd_call_enum {v : Value} {o : Obj} {H : Heap → Prop} {Q : Value → Shared → Prop} (B : Begins v o H) (h1 : H s.heap)
    (h : ∀ h', IsEnum h' (s.heap.objs.size + 1) s.heap.objs.size 0 .none → h'.get? s.heap.objs.size = some o → h'.objs.size = s.heap.objs.size + 2 →
      (∀ b o, s.heap.get? b = some o → h'.get? b = some o) → Q (.ref (s.heap.objs.size + 1)) { s with heap := h' }) :
    wpAny (model prog w) A (call (.type "enumerate") [v]) Q E s := by
  refine callType_new F.called_enumerate (by decide) (F.typeCall_enumerate_1 _) (F.newCall_enumerate_1 _) (fun obj => F.args_object_init_2 obj _) F.entry_enumerate_new
    (pd_enum_new1 B) ⟨h1, ?_⟩
  have hz : (s.heap.push o).objs.size = s.heap.objs.size + 1 := Heap.size_push ..
  show _ ∧ _
  rw [hz]
  have he : IsEnum ((s.heap.push o).push { cls := .type "enumerate", data := .fields #[.none, .bool false, .ref s.heap.objs.size, rawInt 0, .none, .none] }) (s.heap.objs.size + 1) s.heap.objs.size 0 .none := by
    have := Heap.get?_push_size (s.heap.push o) (o := { cls := .type "enumerate", data := .fields #[.none, .bool false, .ref s.heap.objs.size, rawInt 0, .none, .none] }) rfl
    rw [hz] at this; exact this
  refine ⟨⟨_, he, rfl⟩, h _ he (Heap.get?_push_of_some _ (Heap.get?_push_size _ B.free)) (by rw [Heap.size_push, hz]) fun b o x => Heap.get?_push_of_some _ (Heap.get?_push_of_some _ x)⟩
theorem pd_enum_end {e it t : Addr} {i : Nat} {items : Array Value} {c : Int} {old : Value} {Q : Option Value → Shared → Prop} (hh : A.handled = none) (he : IsEnum s.heap e it c old) (hit : s.heap.IsTupleIter it t i) (ht : s.heap.IsTuple t items) (hx : items[i]? = none)
    (hQ : ∀ h', Heap.ExtBut it s.heap h' → Q none { s with heap := h' }) : wpAny (model prog w) A (pyNext (.ref e)) Q E s := by
  have hT : s.TypeIs (.ref e) "enumerate" := ⟨_, he, rfl⟩
  unfold pyNext
  refine wpAny_bind (wpAny_attempt (wpAny_callSpecial?_slot (name := Str.ofString "__next__") hT F.slot_enumerate_next
    (wpAny_call_entry F.slot_enumerate_next hT F.entry_enumerate_next ?_ (F.args_enumerate_next_1 _))))
  show wpAny _ _ (field (.ref e) 2 >>= _) _ _ _
  refine wpAny_bind (wpAny_field he rfl (x := .ref it) rfl ?_)
  refine wpAny_bind (wpAny_nextOf_tuple_end hh hit ht hx fun h' x he' hx' => ?_)
  obtain ⟨o, ho, hc⟩ := hx'
  refine wpAny_bind (wpAny_isInstance (T := "StopIteration") (b := true) ⟨o, ho, hc⟩ isSubtype_stop ?_)
  exact wpAny_pure (hQ _ he')
end
end PySem
namespace L2
open PySem PySem.Spec PyProof.Rows
/-- the tuple at a, each item in a new pair -/
def IteT (K : PySem.W.Frag) (a : Addr) : It :=
  ⟨fun i H => ∃ (xs : List V) (x : V), SqT K H a xs ∧ xs[i]? = some x, fun i H v H' => ∃ T x, v = .ref T ∧ H T = none ∧ H' = upd H T (.tup [.int (i : Nat), x]) ∧ ∀ xs, SqT K H a xs → xs[i]? = some x, fun i H => ∃ xs : List V, SqT K H a xs ∧ xs.length ≤ i⟩
theorem turn_enumT {P : Program} {w : World} {K : PySem.W.Frag} {elts : List Expr} {kk : Nat} {tpos : Pos} (a e it : Addr) (ha : a ≠ it) (hea : e ≠ a) :
    Turn P w K (.Tuple elts kk tpos) (IteT K a) [e, it] e (fun i h => (∃ old, IsEnum h e it ((i : Nat) : Int) old) ∧ h.IsTupleIter it a i ∧ e ≠ it) where
  mem := by simp
  obj := fun i h st b hb => by
    obtain ⟨⟨old, he⟩, ⟨o, ho, hc, hd⟩, _⟩ := st
    have e' : b = e ∨ b = it := by simpa using hb
    rcases e' with z | z
    · rw [z]; exact ⟨_, he, fun v q => nomatch q⟩
    · rw [z]; exact ⟨o, ho, fun v q => by rw [hd] at q; cases q⟩
  keep := fun i h h' st k => let ⟨⟨old, he⟩, hi, hne⟩ := st; ⟨⟨old, k e (by simp) _ he⟩, hi.at fun o q => k it (by simp) o q, hne⟩
  item := by
    intro X hP hw hK hc i pins s σ H E I hf st hg
    subst hP hw hK
    obtain ⟨⟨old, he⟩, hit, hne⟩ := st
    obtain ⟨xs, x, hq, hx⟩ := hg
    obtain ⟨its, rv, p, hz⟩ := I.tuple hq
    obtain ⟨u, hu, ru⟩ := rv.get hx
    have p : s.heap.IsTuple a its.toArray := p
    have hel : e < s.heap.objs.size := Heap.lt_size he
    have hil : it < s.heap.objs.size := by obtain ⟨_, q, _⟩ := hit; exact Heap.lt_size q
    have hlt : i < its.toArray.size := by
      have := (List.getElem?_eq_some_iff.mp hu).1
      simpa using this
    refine wpAny_pyNext_enum_itemD (Draws.tuple (prog := X.prog) (w := X.w) (A := X.A.in1) (I.ok.hd hc) it a ha its.toArray) he ⟨hit, p⟩ hlt hne (by simp [hne, hea]) fun u' h' tk hu' ho hit' hT hsz hk => ?_
    obtain ⟨hit', _⟩ := hit'
    have eu : u' = u := by
      have e1 : its[i]? = some u' := by simpa using hu'
      rw [hu] at e1
      exact (Option.some.inj e1).symm
    subst eu
    refine ⟨_, rfl, wpAny_letOwnedTupleGo_enum (s := { s with heap := h', toks := tk + 1 }) ho fun h'' he' sb => ?_⟩
    have hT2 : h''.get? s.heap.objs.size = some { cls := .type "tuple", data := .seq #[.int i tk, u'] } := (sb.2 _ (Nat.ne_of_gt hel)).trans hT
    have new : ObjOk X.prog X.w (upd H s.heap.objs.size (.tup [.int (i : Nat), x])) h'' s.heap.objs.size (.tup [.int (i : Nat), x]) :=
      ⟨by show 2 ≤ sizeLine; decide, [.int i tk, u'], .cons ⟨_, rfl⟩ (.cons ru .nil), ⟨_, hT2, rfl, _, rfl⟩⟩
    have I1 : Inv X pins σ (upd H s.heap.objs.size (.tup [.int (i : Nat), x])) { s with heap := h'', toks := tk + 1 } :=
      I.turnedNew (ch := [e, it]) (fun b ob hb q => (sb.2 b (fun z => hb (by simp [z]))).trans (hk b ob (fun z => hb (by simp [z])) (fun z => hb (by simp [z])) q)) hf (Nat.le_refl _) new
    refine ⟨.ref s.heap.objs.size, _, I1, rfl, ⟨_, x, rfl, I.hok.fresh (Nat.le_refl _), rfl, fun ys hy => by rw [I.tuple_inj hy hq]; exact hx⟩, ⟨⟨u', ?_⟩, hit'.at fun o q => (sb.2 it (Ne.symm hne)).trans q, hne⟩, fun b hb => ?_⟩
    · have e1 : ((i + 1 : Nat) : Int) = (i : Int) + 1 := by omega
      rw [e1]; exact he'
    · have hb' : b < s.heap.objs.size := by
        have e' : b = e ∨ b = it := by simpa using hb
        rcases e' with z | z
        · rw [z]; exact hel
        · rw [z]; exact hil
      rw [upd_ne (Nat.ne_of_lt hb')]
      exact (hf b hb).1
  done := by
    intro X hP hw hK hc i pins s σ H E I hf st hg
    subst hP hw hK
    obtain ⟨⟨old, he⟩, hit, hne⟩ := st
    obtain ⟨xs, hq, hx⟩ := hg
    obtain ⟨its, rv, p, hz⟩ := I.tuple hq
    have p : s.heap.IsTuple a its.toArray := p
    obtain ⟨f0, f1, f2, f3, f4, f5⟩ := hf it (by simp)
    have hl := rv.length
    exact pd_enum_end (I.ok.hd hc) he hit p (by simp; omega) fun h' eb => ⟨rfl, I.turned (t' := s.toks) (fun b o hb q => eb b o hb q) f0 f1 f3 f4 f5⟩
  self := fun A i s Q E st h => let ⟨⟨_, he⟩, _⟩ := st; wpAny_pyIter_enum he h
/-- enumerate(e), e a tuple or a list -/
def iEnumA (K : PySem.W.Frag) (ta : TA) : TI := fun σ H R => ta σ H fun vs H1 => ∃ a xs, vs = [.ref a] ∧ ((SqL K H1 a xs ∧ R (Ite K a) H1) ∨ (SqT K H1 a xs ∧ R (IteT K a) H1))
theorem pi_enumA {X : Cx} {e : Expr} {ta : TA} {p pos tpos : Pos} {elts : List Expr} {kk : Nat} (hg : Gl X "enumerate") (hm : X.mg "enumerate" = none) (ha : PA X [e] ta) (hs : starEach [e] X.env = [(false, eval e X.env)]) :
    PI X (.Tuple elts kk tpos) (.Call (.Name "enumerate" p) [e] [] pos) (iEnumA X.K ta) := by
  refine ⟨fun pins s σ H R I h => ?_⟩
  refine Call_ (ld_blt I hg hm boot_enumerate (PyProof.Rows.callWith_type1 (thn (ha.run pos pins s σ H _ I h) fun us s1 ⟨vs, H1, I1, r1, q1⟩ => ?_) hs rfl))
  obtain ⟨a, xs, ex, q⟩ := q1
  subst ex
  have fin : ∀ {b : Addr}, b = s1.heap.objs.size + 1 ∨ b = s1.heap.objs.size → FpOk X pins H1 b := fun {b} e' => by
    have hle : s1.heap.objs.size ≤ b := by
      rcases e' with z | z
      · rw [z]; exact Nat.le_add_right _ _
      · rw [z]; exact Nat.le_refl _
    exact I1.fpOk hle (I1.hok.fresh hle)
  cases r1 with
  | cons r rr =>
    cases rr
    cases r
    rcases q with ⟨hq, q⟩ | ⟨hq, q⟩
    · obtain ⟨its, rv, p', hz⟩ := I1.list hq
      refine call_enumerate_list p'.isList fun h' he hit hsz hk => wpAny_pyIter_enum he ?_
      have I2 : Inv X pins σ H1 { s1 with heap := h' } := I1.kept (t' := s1.toks) hk
      exact ⟨s1.heap.objs.size + 1, [s1.heap.objs.size + 1, s1.heap.objs.size], _, _, H1, rfl, I2, turn_enum a (s1.heap.objs.size + 1) s1.heap.objs.size, ⟨⟨.none, he⟩, hit, Nat.succ_ne_self _⟩, fun b hb => fin (by simpa using hb), q⟩
    · obtain ⟨its, rv, p', hz⟩ := I1.tuple hq
      have p' : s1.heap.IsTuple a its.toArray := p'
      have al : a < s1.heap.objs.size := by obtain ⟨_, q, _⟩ := p'; exact Heap.lt_size q
      refine pd_call_enum (begins_tuple a its.toArray) p' fun h' he hit hsz hk => wpAny_pyIter_enum he ?_
      have I2 : Inv X pins σ H1 { s1 with heap := h' } := I1.kept (t' := s1.toks) hk
      exact ⟨s1.heap.objs.size + 1, [s1.heap.objs.size + 1, s1.heap.objs.size], _, _, H1, rfl, I2, turn_enumT a (s1.heap.objs.size + 1) s1.heap.objs.size (Nat.ne_of_lt al) (Nat.ne_of_gt (Nat.lt_succ_of_lt al)), ⟨⟨.none, he⟩, ⟨_, hit, rfl, rfl⟩, Nat.succ_ne_self _⟩, fun b hb => fin (by simpa using hb), q⟩
end L2
namespace PD
open PySem PySem.Spec PyProof.Rows L2
section
variable {P : Prog} {N : Info} {n : Nat} {NN : List Str} {own : List Nat} {cm : Bool} {ci : Nat}

/-! ### what an iterator yields -/
theorem get_iff {vs : List V} {ds : List D} {K : PySem.W.Frag} {H : Hp} (r : Rps N K H vs ds) {i : Nat} {d : D} (h : ds[i]? = some d) : ∃ v, vs[i]? = some v ∧ Rp N K H v d := r.get h
theorem yields_list {K : PySem.W.Frag} {H : Hp} {A : List Addr} {a : Addr} {vs : List V} {ds : List D} (hs : SqL K H a vs) (r : Rps N K (sub H A) vs ds) : Yields N K (Itl K a) H A ds := by
  intro H' A' s ca c i
  have hs' := Same.sqL s hs
  refine ⟨fun d hd => ?_, fun hi => ⟨vs, hs', by rw [r.length]; exact hi⟩⟩
  obtain ⟨v, hv, rv⟩ := r.get hd
  refine ⟨⟨vs, v, hs', hv⟩, fun x H2 y => ?_⟩
  obtain ⟨rfl, y⟩ := y
  have := y vs hs'
  rw [hv] at this
  cases this
  exact ⟨Same.refl _, rv.mono (sub_to s ca)⟩
theorem yields_tup {K : PySem.W.Frag} {H : Hp} {A : List Addr} {a : Addr} {vs : List V} {ds : List D} (hs : H a = some (.tup vs)) (r : Rps N K (sub H A) vs ds) : Yields N K (Itt K a) H A ds := by
  intro H' A' s ca c' i
  have hs' : SqT K H' a vs := .inl (.of (s _ _ hs))
  refine ⟨fun d hd => ?_, fun hi => ⟨vs, hs', by rw [r.length]; exact hi⟩⟩
  obtain ⟨v, hv, rv⟩ := r.get hd
  refine ⟨⟨vs, v, hs', hv⟩, fun x H2 y => ?_⟩
  obtain ⟨rfl, y⟩ := y
  have := y vs hs'
  rw [hv] at this
  cases this
  exact ⟨Same.refl _, rv.mono (sub_to s ca)⟩
theorem yieldsA_list {K : PySem.W.Frag} {H : Hp} {A : List Addr} {a : Addr} {vs : List V} {ds : List D} (hs : SqL K (sub H A) a vs) (r : Rps N K (sub H A) vs ds) : YieldsA N K (Itl K a) H A ds := by
  intro H' A' s ca c' i
  have hs' : SqL K H' a vs := Same.sqL sub_same (Same.sqL s hs)
  refine ⟨fun d hd => ?_, fun hi => ⟨vs, hs', by rw [r.length]; exact hi⟩⟩
  obtain ⟨v, hv, rv⟩ := r.get hd
  refine ⟨⟨vs, v, hs', hv⟩, fun x H2 y => ?_⟩
  obtain ⟨rfl, y⟩ := y
  have := y vs hs'
  rw [hv] at this
  cases this
  exact ⟨Same.refl _, rv.mono (sub_toA s ca)⟩
theorem yieldsA_tup {K : PySem.W.Frag} {H : Hp} {A : List Addr} {a : Addr} {vs : List V} {ds : List D} (hs : sub H A a = some (.tup vs)) (r : Rps N K (sub H A) vs ds) : YieldsA N K (Itt K a) H A ds := by
  intro H' A' s ca c' i
  have hs' : SqT K H' a vs := .inl (.of (sub_some (s _ _ hs)).2)
  refine ⟨fun d hd => ?_, fun hi => ⟨vs, hs', by rw [r.length]; exact hi⟩⟩
  obtain ⟨v, hv, rv⟩ := r.get hd
  refine ⟨⟨vs, v, hs', hv⟩, fun x H2 y => ?_⟩
  obtain ⟨rfl, y⟩ := y
  have := y vs hs'
  rw [hv] at this
  cases this
  exact ⟨Same.refl _, rv.mono (sub_toA s ca)⟩
/-- pairs with their numbers -/
theorem pair_new {K : PySem.W.Frag} {H H2 : Hp} {A : List Addr} {T : Addr} {i : Nat} {v : V} {d : D} (c : AOk H A) (hT : H T = none) (e : H2 = upd H T (.tup [.int (i : Nat), v])) (r : Rp N K (sub H A) v d) : Same H H2 ∧ Rp N K (sub H2 A) (.ref T) (.tup [.int (i : Nat), d]) := by
  subst e
  refine ⟨same_upd hT, .tup (vs := [.int (i : Nat), v]) ?_ ?_⟩
  · rw [sub_out (c.out hT)]; exact upd_same
  · exact .cons (.int _) (.cons (r.mono (sub_mono (same_upd hT))) .nil)
theorem idx_get {ds : List D} {i : Nat} {d : D} (h : (ds.mapIdx fun i d => D.tup [.int (i : Nat), d])[i]? = some d) : ∃ d', ds[i]? = some d' ∧ d = .tup [.int (i : Nat), d'] := by
  rw [List.getElem?_mapIdx] at h
  cases q : ds[i]? with
  | none => rw [q] at h; cases h
  | some d' => rw [q] at h; cases h; exact ⟨d', rfl, rfl⟩
theorem yields_enumL {K : PySem.W.Frag} {H : Hp} {A : List Addr} {a : Addr} {vs : List V} {ds : List D} (c : AOk H A) (hs : SqL K H a vs) (r : Rps N K (sub H A) vs ds) : Yields N K (Ite K a) H A (ds.mapIdx fun i d => .tup [.int (i : Nat), d]) := by
  intro H' A' s ca c' i
  have hs' := Same.sqL s hs
  refine ⟨fun d hd => ?_, fun hi => ⟨vs, hs', by rw [r.length]; simpa using hi⟩⟩
  obtain ⟨d', hd', rfl⟩ := idx_get hd
  obtain ⟨v, hv, rv⟩ := r.get hd'
  refine ⟨⟨vs, v, hs', hv⟩, fun x H2 y => ?_⟩
  obtain ⟨T, v', rfl, hT, e2, y⟩ := y
  have := y vs hs'
  rw [hv] at this
  cases this
  exact pair_new c' hT e2 (rv.mono (sub_to s ca))
theorem yields_enumT {K : PySem.W.Frag} {H : Hp} {A : List Addr} {a : Addr} {vs : List V} {ds : List D} (c : AOk H A) (hs : H a = some (.tup vs)) (r : Rps N K (sub H A) vs ds) : Yields N K (IteT K a) H A (ds.mapIdx fun i d => .tup [.int (i : Nat), d]) := by
  intro H' A' s ca c' i
  have hs' : SqT K H' a vs := .inl (.of (s _ _ hs))
  refine ⟨fun d hd => ?_, fun hi => ⟨vs, hs', by rw [r.length]; simpa using hi⟩⟩
  obtain ⟨d', hd', rfl⟩ := idx_get hd
  obtain ⟨v, hv, rv⟩ := r.get hd'
  refine ⟨⟨vs, v, hs', hv⟩, fun x H2 y => ?_⟩
  obtain ⟨T, v', rfl, hT, e2, y⟩ := y
  have := y vs hs'
  rw [hv] at this
  cases this
  exact pair_new c' hT e2 (rv.mono (sub_to s ca))
theorem yieldsA_enumL {K : PySem.W.Frag} {H : Hp} {A : List Addr} {a : Addr} {vs : List V} {ds : List D} (hs : SqL K (sub H A) a vs) (r : Rps N K (sub H A) vs ds) : YieldsA N K (Ite K a) H A (ds.mapIdx fun i d => .tup [.int (i : Nat), d]) := by
  intro H' A' s ca c i
  have hs' : SqL K H' a vs := Same.sqL sub_same (Same.sqL s hs)
  refine ⟨fun d hd => ?_, fun hi => ⟨vs, hs', by rw [r.length]; simpa using hi⟩⟩
  obtain ⟨d', hd', rfl⟩ := idx_get hd
  obtain ⟨v, hv, rv⟩ := r.get hd'
  refine ⟨⟨vs, v, hs', hv⟩, fun x H2 y => ?_⟩
  obtain ⟨T, v', rfl, hT, e2, y⟩ := y
  have := y vs hs'
  rw [hv] at this
  cases this
  exact pair_new c hT e2 (rv.mono (sub_toA s ca))
theorem yieldsA_enumT {K : PySem.W.Frag} {H : Hp} {A : List Addr} {a : Addr} {vs : List V} {ds : List D} (hs : sub H A a = some (.tup vs)) (r : Rps N K (sub H A) vs ds) : YieldsA N K (IteT K a) H A (ds.mapIdx fun i d => .tup [.int (i : Nat), d]) := by
  intro H' A' s ca c i
  have hs' : SqT K H' a vs := .inl (.of (sub_some (s _ _ hs)).2)
  refine ⟨fun d hd => ?_, fun hi => ⟨vs, hs', by rw [r.length]; simpa using hi⟩⟩
  obtain ⟨d', hd', rfl⟩ := idx_get hd
  obtain ⟨v, hv, rv⟩ := r.get hd'
  refine ⟨⟨vs, v, hs', hv⟩, fun x H2 y => ?_⟩
  obtain ⟨T, v', rfl, hT, e2, y⟩ := y
  have := y vs hs'
  rw [hv] at this
  cases this
  exact pair_new c hT e2 (rv.mono (sub_toA s ca))
theorem range_get {lo : Int} {m i : Nat} {d : D} (h : (rangeD lo m)[i]? = some d) : i < m ∧ d = .int (lo + (i : Nat)) := by
  unfold rangeD at h
  rw [List.getElem?_map] at h
  cases q : (List.range m)[i]? with
  | none => rw [q] at h; cases h
  | some j =>
    rw [q] at h
    cases h
    obtain ⟨h1, h2⟩ := List.getElem?_eq_some_iff.mp q
    rw [List.getElem_range] at h2
    subst h2
    exact ⟨by simpa using h1, rfl⟩
theorem yields_rng {K : PySem.W.Frag} {H : Hp} {A : List Addr} {lo : Int} {m : Nat} : Yields N K (Itr lo m) H A (rangeD lo m) := by
  intro H' A' s ca c' i
  refine ⟨fun d hd => ?_, fun hi => ?_⟩
  · obtain ⟨h1, rfl⟩ := range_get hd
    exact ⟨h1, fun x H2 ⟨e1, e2⟩ => by subst e1; subst e2; exact ⟨Same.refl _, .int _⟩⟩
  · show m ≤ i
    unfold rangeD at hi; simpa using hi
theorem yieldsA_rng {K : PySem.W.Frag} {H : Hp} {A : List Addr} {lo : Int} {m : Nat} : YieldsA N K (Itr lo m) H A (rangeD lo m) := by
  intro H' A' s ca c' i
  refine ⟨fun d hd => ?_, fun hi => ?_⟩
  · obtain ⟨h1, rfl⟩ := range_get hd
    exact ⟨h1, fun x H2 ⟨e1, e2⟩ => by subst e1; subst e2; exact ⟨Same.refl _, .int _⟩⟩
  · show m ≤ i
    unfold rangeD at hi; simpa using hi

/-! ### an expression that is walked -/
theorem leak_le {r : RE} (h : leak own r = false) : leakI own r = false := by
  cases r with
  | enum a => cases a <;> first | exact h | rfl
  | _ => first | exact h | rfl
theorem wpi_ok {K : PySem.W.Frag} {W : WX} {r : RE} {σ : L2.St} {H : Hp} {A : List Addr} {d : D} {R : It → Hp → Prop} (h : WPI N K W own r σ H A (.ok d) R) : ∃ xs, walkOf d = .ok xs ∧ ∀ J H', Same H H' → (leakI own r = false → Yields N K J H' A xs) → (leak own r = false → YieldsA N K J H' A xs) → R J H' := by
  have h : match walkOf d with
    | .ok xs => ∀ J H', Same H H' → (leakI own r = false → Yields N K J H' A xs) → (leak own r = false → YieldsA N K J H' A xs) → R J H'
    | _ => False := h
  cases q : walkOf d with
  | ok xs => rw [q] at h; exact ⟨xs, rfl, h⟩
  | ex x => rw [q] at h; exact h.elim
  | no => rw [q] at h; exact h.elim
theorem small62_ok {i : Int} (h : small62 i = true) : -(2 ^ 62) ≤ i ∧ i < 2 ^ 62 := by
  unfold small62 at h
  obtain ⟨h1, h2⟩ := and_t h
  exact ⟨of_decide_eq_true h1, of_decide_eq_true h2⟩
theorem key_rp {K : PySem.W.Frag} {H : Hp} (k : Key) : Rp N K H (kV k) (keyD k) := by
  cases k with
  | inl i => exact .int i
  | inr x => exact .str x
theorem keys_rp {K : PySem.W.Frag} {H : Hp} : ∀ (k : List Key), Rps N K H (k.map kV) (k.map keyD)
  | [] => .nil
  | a :: k => .cons (key_rp a) (keys_rp k)
theorem yields_dit {K : PySem.W.Frag} {H : Hp} {A : List Addr} {a : Addr} {o : Obj} {kvs : List (List Key × V)} (hs : H a = some (.frz o (.dT kvs))) : Yields N K (Itkt a o kvs) H A ((kvs.map (·.1)).map fun k => .tup (k.map keyD)) := by
  intro H' A' s ca c i
  have hs' := s _ _ hs
  refine ⟨fun d hd => ?_, fun hi => ⟨hs', by simpa using hi⟩⟩
  rw [List.map_map, List.getElem?_map] at hd
  cases q : kvs[i]? with
  | none => rw [q] at hd; cases hd
  | some p =>
    rw [q] at hd
    cases hd
    refine ⟨⟨hs', (List.getElem?_eq_some_iff.mp q).1⟩, fun x H2 y => ?_⟩
    obtain ⟨rfl, k, v, b, e1, rfl, e2⟩ := y
    rw [q] at e1
    cases e1
    exact ⟨Same.refl _, .tup (by rw [sub_out (c.tup e2)]; exact e2) (keys_rp k)⟩
theorem yields_dik {K : PySem.W.Frag} {H : Hp} {A : List Addr} {a : Addr} {o : Obj} {kvs : List (Key × V)} (hs : H a = some (.frz o (.dK kvs))) : Yields N K (Itk a o kvs) H A ((kvs.map (·.1)).map keyD) := by
  intro H' A' s ca c i
  have hs' := s _ _ hs
  refine ⟨fun d hd => ?_, fun hi => ⟨hs', by simpa using hi⟩⟩
  rw [List.map_map, List.getElem?_map] at hd
  cases q : kvs[i]? with
  | none => rw [q] at hd; cases hd
  | some p =>
    rw [q] at hd
    cases hd
    refine ⟨⟨hs', (List.getElem?_eq_some_iff.mp q).1⟩, fun x H2 y => ?_⟩
    obtain ⟨rfl, k, v, e1, rfl⟩ := y
    rw [q] at e1
    cases e1
    exact ⟨Same.refl _, key_rp k⟩
theorem yields_a {K : PySem.W.Frag} {H : Hp} {A : List Addr} {J : It} {ds : List D} {a : Addr} {o : Obj} {u : HO} (h : sub H A a = some (.frz o u)) (y : ∀ H A, H a = some (.frz o u) → Yields N K J H A ds) : YieldsA N K J H A ds := fun H' A' s ca c i =>
  y H' A' (sub_some (s _ _ h)).2 H' A' (Same.refl _) (fun _ z => .inl z) c i
/-- a list, a tuple, a range, a dict -/
theorem si_of_se {r : RE} (hr : SE P N n NN own cm ci r) (hw : ∀ sc e, chkE N NN own cm ci r sc true e = chkE N NN own cm ci r sc false e) : SI P N n NN own cm ci r := fun X W sc tg e env σ H A ad cur R S hk F C h => by
  rw [hw] at hk
  have go : wE X e σ H fun v H1 => ∃ a, v = .ref a ∧ ((∃ xs, SqL X.K H1 a xs) ∧ R (Itl X.K a) H1 ∨ (∃ xs, SqT X.K H1 a xs) ∧ R (Itt X.K a) H1 ∨ (∃ lo hi, H1 a = some (.rng lo hi) ∧ small62 lo = true ∧ small62 hi = true ∧ R (Itr lo (hi - lo).toNat) H1) ∨
      (∃ o kvs, H1 a = some (.frz o (.dT kvs)) ∧ R (Itkt a o kvs) H1) ∨ ∃ o kvs, H1 a = some (.frz o (.dK kvs)) ∧ R (Itk a o kvs) H1) := by
    refine hr X W sc e env σ H A ad cur _ S hk F C ?_
    cases he : evE (P.ctx n) cur r env with
    | no => rw [he] at h; exact h.elim
    | ex x => rw [he] at h; exact h
    | ok d =>
      rw [he] at h
      obtain ⟨xs, hi, h⟩ := wpi_ok h
      intro v H1 p1
      have it := p1.items
      have rp := p1.rp
      cases d <;> first | cases hi | skip
      · obtain ⟨a, vs, rfl, h1, rs⟩ := it
        refine ⟨a, rfl, .inr (.inl ⟨⟨vs, .inl (.of h1)⟩, h _ _ p1.same (fun l => ?_) fun l => ?_⟩)⟩
        · rw [l] at rs; exact yields_tup h1 rs
        · have l2 := leak_le l
          rw [l2] at rs
          rw [l] at rp
          cases rp with
          | tup h2 r2 =>
            have e := (sub_some h2).2
            rw [h1] at e
            cases e
            exact yieldsA_tup h2 rs
      · obtain ⟨a, vs, rfl, h1, rs⟩ := it
        refine ⟨a, rfl, .inl ⟨⟨vs, h1⟩, h _ _ p1.same (fun l => ?_) fun l => ?_⟩⟩
        · rw [l] at rs; exact yields_list h1 rs
        · rw [l] at rp
          cases rp with
          | lst h2 r2 => exact yieldsA_list h2 r2
      · have rp0 := p1.rp0
        cases rp0 with
        | rng h1 b1 c1 => exact ⟨_, rfl, .inr (.inr (.inl ⟨_, _, h1, b1, c1, h _ _ p1.same (fun _ => yields_rng) fun _ => yieldsA_rng⟩))⟩
      · have rp0 := p1.rp0
        cases rp0 with
        | dit h1 r1 =>
          refine ⟨_, rfl, .inr (.inr (.inr (.inl ⟨_, _, h1, h _ _ p1.same (fun _ => yields_dit h1) fun l => ?_⟩)))⟩
          exact yields_a (by rw [sub_out (F.aok.mono p1.same |>.frz h1)]; exact h1) fun _ _ e => yields_dit e
      · have rp0 := p1.rp0
        cases rp0 with
        | dik h1 r1 =>
          refine ⟨_, rfl, .inr (.inr (.inr (.inr ⟨_, _, h1, h _ _ p1.same (fun _ => yields_dik h1) fun l => ?_⟩)))⟩
          exact yields_a (by rw [sub_out (F.aok.mono p1.same |>.frz h1)]; exact h1) fun _ _ e => yields_dik e
  intro pins s I
  refine thn (go pins s I) fun v s1 ⟨x, H1, I1, r1, a, e1, q⟩ => ?_
  subst e1
  cases r1
  rcases q with ⟨⟨xs, hq⟩, q⟩ | ⟨⟨xs, hq⟩, q⟩ | ⟨lo, hi, h1, b1, c1, q⟩ | ⟨o, kvs, h1, q⟩ | ⟨o, kvs, h1, q⟩
  · obtain ⟨its, rv, p, hz⟩ := I1.list hq
    refine wpAny_pyIter_list p.isList ?_
    refine ⟨s1.heap.objs.size, [s1.heap.objs.size], _, _, H1, rfl, I1.kept (t' := s1.toks) fun b o e => Heap.get?_push_of_some _ e, turn_list a _, ⟨_, Heap.get?_push_size _ rfl, rfl, rfl⟩, fun b hb => ?_, q⟩
    have e : b = s1.heap.objs.size := by simpa using hb
    subst e
    exact I1.fpOk (Nat.le_refl _) (I1.hok.fresh (Nat.le_refl _))
  · obtain ⟨its, rv, p, hz⟩ := I1.tuple hq
    refine wpAny_pyIter_tuple (show s1.heap.IsTuple a its.toArray from p) ?_
    refine ⟨s1.heap.objs.size, [s1.heap.objs.size], _, _, H1, rfl, I1.kept (t' := s1.toks) fun b o e => Heap.get?_push_of_some _ e, turn_tuple a _, ⟨_, Heap.get?_push_size _ rfl, rfl, rfl⟩, fun b hb => ?_, q⟩
    have e : b = s1.heap.objs.size := by simpa using hb
    subst e
    exact I1.fpOk (Nat.le_refl _) (I1.hok.fresh (Nat.le_refl _))
  · obtain ⟨t, u, w, ho⟩ := (show ∃ t u w, s1.heap.get? a = some { cls := .type "range", data := .fields #[.int lo t, .int hi u, .int 1 w] } from I1.hok a _ h1)
    obtain ⟨b2, b3⟩ := small62_ok b1
    obtain ⟨c2, c3⟩ := small62_ok c1
    refine wpAny_pyIter_range ho (small_one b2 b3 c2 c3) ?_
    refine pi_one (tk := s1.toks) I1 _ (turn_range _ lo (hi - lo).toNat) ?_ q
    have e1 : lo + ((0 : Nat) : Int) * 1 = lo := by simp
    have e2 : (((hi - lo).toNat : Nat) : Int) - ((0 : Nat) : Int) = Builtin.Range.rangeSize lo hi 1 := by rw [rangeSize_one]; split <;> omega
    show IsRangeIter _ _ (lo + ((0 : Nat) : Int) * 1) ((((hi - lo).toNat : Nat) : Int) - ((0 : Nat) : Int)) 1
    rw [e1, e2]
    exact Heap.get?_push_size _ rfl
  · obtain ⟨hs, hgd, hx, es, ep, hdt, hsz, ent⟩ := I1.frzT h1
    refine iter_keys hs hgd hx hdt (pi_one (tk := s1.toks) I1 _ (turn_keysT _ hdt) ⟨_, Heap.get?_push_size _ rfl, rfl, ?_⟩ q)
    rw [hsz] <;> rfl
  · obtain ⟨hs, hgd, hx, es, ep, vs, hdt, hsz, kv, hm⟩ := I1.frzK h1
    refine iter_keys hs hgd hx hdt (pi_one (tk := s1.toks) I1 _ (turn_keys _ hdt) ⟨_, Heap.get?_push_size _ rfl, rfl, ?_⟩ q)
    rw [hsz] <;> rfl
theorem two_stars {X : Cx} {ea eb : Expr} (ha : ord ea = true) (hb : ord eb = true) : starEach [ea, eb] X.env = [(false, eval ea X.env), (false, eval eb X.env)] := by
  rw [ord_star ha, ord_star hb]
  rfl
/-- a step of evaluation ahead of a walk -/
theorem si_step {X : Cx} {W : WX} {sc : Scope} {env : Env} {σ : L2.St} {H H0 : Hp} {A : List Addr} {ad : Nat → Addr} {cur : Option Exn} {a r : RE} {ea : Expr} {f : D → R D} {R : It → Hp → Prop} {Q1 : VK}
    (ha : SE P N n NN own cm ci a) (S : Site P N n X W sc NN cm) (hk : chkE N NN own cm ci a sc false ea = true) (F : Frm N X.K own env σ H A ad) (C : CurOk N X A σ H cm cur ci) (e0 : Same H0 H)
    (h : WPI N X.K W own r σ H0 A ((evE (P.ctx n) cur a env).bd f) R)
    (k : ∀ x v H1, PostE N X.K H A own a x v H1 → Same H0 H1 → Frm N X.K own env σ H1 A ad → CurOk N X A σ H1 cm cur ci → WPI N X.K W own r σ H0 A (f x) R → Q1 v H1) : wE X ea σ H Q1 := by
  refine ha X W sc ea env σ H A ad cur _ S hk F C ?_
  cases he : evE (P.ctx n) cur a env with
  | ok x => rw [he] at h; exact fun v H1 p => k x v H1 p (e0.trans p.same) (F.mono p.same) (C.mono p.same) h
  | ex x => rw [he] at h; exact fun cls dx H' p => h cls dx H' (p.back e0)
  | no => rw [he] at h; exact h.elim
theorem si_rng1 {a : RE} (ha : SE P N n NN own cm ci a) : SI P N n NN own cm ci (.rng1 a) := fun X W sc tg e env σ H A ad cur R S hk F C h => by
  rw [chkE_rng1] at hk
  split at hk
  case h_2 => cases hk
  case h_1 x p1 ea p =>
    obtain ⟨_, hk⟩ := and_t hk
    obtain ⟨kc, hk⟩ := and_t hk
    obtain ⟨k0, hk⟩ := and_t hk
    obtain ⟨k1, hk⟩ := and_t hk
    obtain ⟨k2, hk⟩ := and_t hk
    obtain ⟨k3, k4⟩ := and_t hk
    obtain rfl : x = "range" := of_decide_eq_true k0
    rw [evE_rng1] at h
    refine toI (pi_range1 (S.glk k2) (S.facts.free _ (of_decide_eq_true k1)) (pa_cons pe_w pa_nil (ord_star k3 [] X.env)) (ord_star k3 [] X.env)) ?_
    refine si_step ha S k4 F C (Same.refl H) h fun x v H1 p1 e1 F1 C1 h1 => ?_
    have rp := p1.rp0
    cases rp <;> first | exact h1.elim | skip
    rename_i i
    have h1 : WPI N X.K W own (.rng1 a) σ H A (if small62 i then .ok (.lst (rangeD 0 i.toNat)) else .no) R := h1
    split at h1
    · rename_i hs
      obtain ⟨s1, s2⟩ := small62_ok hs
      obtain ⟨xs, hi, h1⟩ := wpi_ok h1
      cases hi
      exact ⟨i, rfl, s1, s2, h1 _ _ e1 (fun _ => yields_rng) fun _ => yieldsA_rng⟩
    · exact h1.elim
theorem si_rng2 {a b : RE} (ha : SE P N n NN own cm ci a) (hb : SE P N n NN own cm ci b) : SI P N n NN own cm ci (.rng2 a b) := fun X W sc tg e env σ H A ad cur R S hk F C h => by
  rw [chkE_rng2] at hk
  split at hk
  case h_2 => cases hk
  case h_1 x p1 ea eb p =>
    obtain ⟨_, hk⟩ := and_t hk
    obtain ⟨kc, hk⟩ := and_t hk
    obtain ⟨k0, hk⟩ := and_t hk
    obtain ⟨k1, hk⟩ := and_t hk
    obtain ⟨k2, hk⟩ := and_t hk
    obtain ⟨k3, hk⟩ := and_t hk
    obtain ⟨k4, hk⟩ := and_t hk
    obtain ⟨k5, k6⟩ := and_t hk
    obtain rfl : x = "range" := of_decide_eq_true k0
    rw [evE_rng2] at h
    refine toI (pi_range2 (S.glk k2) (S.facts.free _ (of_decide_eq_true k1)) (pa_cons pe_w (pa_cons pe_w pa_nil (ord_star k4 [] X.env)) (ord_star k3 [eb] X.env)) (two_stars k3 k4) (ord_star k4 [] X.env)) ?_
    refine si_step ha S k5 F C (Same.refl H) h fun x v H1 p1 e1 F1 C1 h1 => ?_
    show wE X eb σ H1 _
    refine si_step hb S k6 F1 C1 e1 h1 fun y u H2 p2 e2 F2 C2 h2 => ?_
    have rp := p1.rp0
    have rq := p2.rp0
    cases rp <;> first | exact h2.elim | skip
    cases rq <;> first | exact h2.elim | skip
    rename_i i j
    have h2 : WPI N X.K W own (.rng2 a b) σ H A (if small62 i && small62 j then .ok (.lst (rangeD i (j - i).toNat)) else .no) R := h2
    split at h2
    · rename_i hs
      obtain ⟨hs1, hs2⟩ := and_t hs
      obtain ⟨s1, s2⟩ := small62_ok hs1
      obtain ⟨s3, s4⟩ := small62_ok hs2
      obtain ⟨xs, hi, h2⟩ := wpi_ok h2
      cases hi
      exact ⟨i, j, rfl, ⟨s1, s2, s3, s4⟩, h2 _ _ e2 (fun _ => yields_rng) fun _ => yieldsA_rng⟩
    · exact h2.elim
theorem si_enum {a : RE} (ha : SE P N n NN own cm ci a) : ∀ (X : Cx) (W : WX) (sc : Scope) (tg e : Expr) (env : Env) (σ : L2.St) (H : Hp) (A : List Addr) (ad : Nat → Addr) (cur : Option Exn) (R : It → Hp → Prop), (∃ es k p, tg = .Tuple es k p) →
    Site P N n X W sc NN cm → chkE N NN own cm ci (.enum a) sc true e = true → Frm N X.K own env σ H A ad → CurOk N X A σ H cm cur ci → WPI N X.K W own (.enum a) σ H A (evE (P.ctx n) cur (.enum a) env) R → wI X tg e σ H R := fun X W sc tg e env σ H A ad cur R ht S hk F C h => by
  obtain ⟨elts, kk, tpos, rfl⟩ := ht
  rw [chkE_enum] at hk
  split at hk
  case h_2 => cases hk
  case h_1 x p1 ea p =>
    obtain ⟨_, hk⟩ := and_t hk
    obtain ⟨kc, hk⟩ := and_t hk
    obtain ⟨k0, hk⟩ := and_t hk
    obtain ⟨k1, hk⟩ := and_t hk
    obtain ⟨k2, hk⟩ := and_t hk
    obtain ⟨k3, k4⟩ := and_t hk
    obtain rfl : x = "enumerate" := of_decide_eq_true k0
    rw [evE_enum] at h
    refine toI (pi_enumA (S.glk k2) (S.facts.free _ (of_decide_eq_true k1)) (pa_cons pe_w pa_nil (ord_star k3 [] X.env)) (ord_star k3 [] X.env)) ?_
    refine si_step ha S k4 F C (Same.refl H) h fun x v H1 p1 e1 F1 C1 h1 => ?_
    have h1 : WPI N X.K W own (.enum a) σ H A ((itemsOf x).bd fun xs => .ok (.lst (xs.mapIdx fun i d => .tup [.int (i : Nat), d]))) R := h1
    have it := p1.items
    have rp := p1.rp
    have lI : leakI own (.enum a) = false → leakI own a = false := fun l => by
      cases a with
      | enum b => exact leak_le (r := .enum b) l
      | _ => exact l
    have l2 : leak own (.enum a) = leak own a := rfl
    cases x <;> first | exact h1.elim | skip
    · obtain ⟨b, vs, rfl, hb, rs⟩ := it
      obtain ⟨xs, hi, h1⟩ := wpi_ok h1
      cases hi
      refine ⟨b, vs, rfl, .inr ⟨.inl (.of hb), h1 _ _ e1 (fun l => ?_) fun l => ?_⟩⟩
      · rw [lI l] at rs
        exact yields_enumT F1.aok hb rs
      · rw [l2] at l
        rw [leak_le l] at rs
        exact yieldsA_enumT (by rw [sub_out (F1.aok.tup hb)]; exact hb) rs
    · obtain ⟨b, vs, rfl, hb, rs⟩ := it
      obtain ⟨xs, hi, h1⟩ := wpi_ok h1
      cases hi
      refine ⟨b, vs, rfl, .inl ⟨hb, h1 _ _ e1 (fun l => ?_) fun l => ?_⟩⟩
      · rw [lI l] at rs
        exact yields_enumL F1.aok hb rs
      · rw [l2] at l
        rw [l] at rp
        cases rp with
        | lst h2 r2 => exact yieldsA_enumL h2 r2
/-- tuple(range(a, b)) -/
theorem rgV_rps {K : PySem.W.Frag} {H : Hp} {i j : Int} : Rps N K H (rgV i j) (rangeD i (j - i).toNat) := by
  unfold rgV rangeD
  generalize List.range (j - i).toNat = l
  induction l with
  | nil => exact .nil
  | cons x l ih => exact .cons (.int _) ih
theorem se_tupR {a b : RE} (ha : SE P N n NN own cm ci a) (hb : SE P N n NN own cm ci b) : SE P N n NN own cm ci (.tupR a b) := fun X W sc e env σ H A ad cur Q S hk F C h => by
  rw [chkE_tupR] at hk
  split at hk
  case h_2 => cases hk
  case h_1 y p1 x p2 ea eb p3 p =>
    obtain ⟨kc, hk⟩ := and_t hk
    obtain ⟨k0, hk⟩ := and_t hk
    obtain ⟨k1, hk⟩ := and_t hk
    obtain ⟨k2, hk⟩ := and_t hk
    obtain ⟨k3, hk⟩ := and_t hk
    obtain ⟨k4, hk⟩ := and_t hk
    obtain ⟨k5, hk⟩ := and_t hk
    obtain ⟨k6, hk⟩ := and_t hk
    obtain ⟨k7, hk⟩ := and_t hk
    obtain ⟨k8, k9⟩ := and_t hk
    obtain rfl : y = "tuple" := of_decide_eq_true k0
    obtain rfl : x = "range" := of_decide_eq_true k3
    rw [evE_tupR] at h
    refine toE (pe_tupRg (S.calm kc) (S.glk k2) (S.facts.free _ (of_decide_eq_true k1)) (prg_2 (S.glk k5) (S.facts.free _ (of_decide_eq_true k4)) pe_w pe_w (ord_star k6 [eb] X.env) (ord_star k7 [] X.env) (stars_none fun e he => by obtain rfl := List.mem_singleton.mp he; exact k7)) (ord_star rfl [] X.env)) ?_
    refine se_step ha S k8 F C (Same.refl H) h fun x v H1 p1 e1 F1 C1 h1 => ?_
    show wE X eb σ H1 _
    refine se_step hb S k9 F1 C1 e1 h1 fun y u H2 p2 e2 F2 C2 h2 => ?_
    have rp := p1.rp0
    have rq := p2.rp0
    cases rp <;> first | exact h2.elim | skip
    cases rq <;> first | exact h2.elim | skip
    rename_i i j
    have h2 : WPE N X.K W own (.tupR a b) σ H A (if (small62 i && small62 j) && decide ((j - i).toNat ≤ maxLen) then .ok (.tup (rangeD i (j - i).toNat)) else .no) Q := h2
    split at h2
    · rename_i hs
      obtain ⟨hs, hs3⟩ := and_t hs
      obtain ⟨hs1, hs2⟩ := and_t hs
      obtain ⟨s1, s2⟩ := small62_ok hs1
      obtain ⟨s3, s4⟩ := small62_ok hs2
      have s5 := of_decide_eq_true hs3
      refine ⟨i, j, rfl, rfl, ⟨s1, s2, s3, s4, Nat.le_trans s5 (by unfold maxLen; decide)⟩, fun q hq => h2 _ _ (post_tup e2 F2.aok hq rgV_rps (fun _ => rfl) rfl)⟩
    · exact h2.elim
end
end PD
end

section
set_option Elab.async false
set_option linter.all false
set_option maxRecDepth 100000
/-! PD13: targets. -/
namespace PD
open PySem PySem.Spec PyProof.Rows L2
section
variable {P : Prog} {N : Info} {n : Nat} {NN : List Str} {own : List Nat} {cm : Bool} {ci : Nat}
def wGs (X : Cx) (es : List Expr) : TGs := fun vs σ H Q => ∀ pins s us, Inv X pins σ H s → Vals vs us → wpAny (model X.prog X.w) X.A (assignInOrder ((assignEach es X.env).map (·.2)) us) (fun _ s' => ∃ σ' H', Inv X pins σ' H' s' ∧ Q σ' H') X.xe s
theorem pgs_w {X : Cx} {es : List Expr} : PGs X es (wGs X es) := ⟨fun pins s σ H vs us Q I r h => h pins s us I r⟩
theorem toGs {X : Cx} {es : List Expr} {t : TGs} {vs : List V} {σ : L2.St} {H : Hp} {Q : L2.St → Hp → Prop} (p : PGs X es t) (h : t vs σ H Q) : wGs X es vs σ H Q := fun pins s us I r => p.run pins s σ H vs us Q I r h

/-- the slots of a target -/
def RT.slots : RT → List Nat
  | .nm i => [i]
  | .nil => []
  | .cons a r => a.slots ++ r.slots

section
variable {K : PySem.W.Frag} {env env' : Env} {σ : L2.St} {H : Hp} {A : List Addr} {ad : Nat → Addr}
theorem Frm.set (F : Frm N K own env σ H A ad) {i : Nat} {v : V} {d : D} (hi : i ∉ own) (hl : i < env.length) (r : Rp N K (sub H A) v d) : Frm N K own (env.set i d) (σ.set i (some v)) H A ad where
  len := by rw [List.length_set, List.length_set]; exact F.len
  aok := F.aok
  inA := F.inA
  inj := F.inj
  val := fun j d' h nu nj => by
    by_cases hj : i = j
    · subst hj
      rw [List.getElem?_set_self hl] at h
      cases h
      exact ⟨v, List.getElem?_set_self (by rw [F.len]; exact hl), r⟩
    · rw [List.getElem?_set_ne hj] at h
      rw [List.getElem?_set_ne hj]
      exact F.val j d' h nu nj
  ownv := fun j hj => by
    have ne : i ≠ j := fun z => hi (by rw [z]; exact hj)
    rw [List.getElem?_set_ne ne, List.getElem?_set_ne ne]
    exact F.ownv j hj
end
theorem asgT_nm {i : Nat} {d : D} {env env' : Env} (h : asgT (.nm i) d env = some env') : i < env.length ∧ env' = env.set i d := by
  unfold asgT at h
  split at h
  · cases h; exact ⟨by assumption, rfl⟩
  · cases h
theorem asgT_cons {a r : RT} {x : D} {env env' : Env} (h : asgT (.cons a r) x env = some env') : ∃ d ds e, (x = .tup (d :: ds) ∨ x = .lst (d :: ds)) ∧ asgT a d env = some e ∧ asgT r (.tup ds) e = some env' := by
  cases x with
  | tup xs =>
    cases xs with
    | nil => unfold asgT at h; cases h
    | cons d ds =>
      unfold asgT at h
      cases q : asgT a d env with
      | none => rw [q] at h; cases h
      | some e => rw [q] at h; exact ⟨d, ds, e, .inl rfl, q, h⟩
  | lst xs =>
    cases xs with
    | nil => unfold asgT at h; cases h
    | cons d ds =>
      unfold asgT at h
      cases q : asgT a d env with
      | none => rw [q] at h; cases h
      | some e => rw [q] at h; exact ⟨d, ds, e, .inr rfl, q, h⟩
  | _ => unfold asgT at h; cases h
theorem asgT_consT {a r : RT} {xs : List D} {env env' : Env} (h : asgT (.cons a r) (.tup xs) env = some env') : ∃ d ds e, xs = d :: ds ∧ asgT a d env = some e ∧ asgT r (.tup ds) e = some env' := by
  obtain ⟨d, ds, e, h1, h2, h3⟩ := asgT_cons h
  rcases h1 with h1 | h1
  · cases h1; exact ⟨d, ds, e, rfl, h2, h3⟩
  · cases h1
theorem asgT_nil {x : D} {env env' : Env} (h : asgT .nil x env = some env') : x = .tup [] ∧ env' = env := by
  cases x with
  | tup xs =>
    cases xs with
    | nil => unfold asgT at h; cases h; exact ⟨rfl, rfl⟩
    | cons d ds => unfold asgT at h; cases h
  | _ => unfold asgT at h; cases h
theorem chkT_star {sc : Scope} {fnb : Str → Bool} {t : RT} {e : Expr} (h : chkT sc NN own fnb t (.inl e) = true) (es : List Expr) (env : PySem.Env) : assignEach (e :: es) env = (false, assign e env) :: assignEach es env := by
  cases t <;> cases e <;> first | rfl | (unfold chkT at h; cases h)
theorem chkT_each {sc : Scope} {fnb : Str → Bool} {env : PySem.Env} : ∀ {t : RT} {es : List Expr}, chkT sc NN own fnb t (.inr es) = true → (assignEach es env).findIdx? (·.1) = none ∧ (assignEach es env).length = es.length
  | .nil, [], _ => ⟨rfl, rfl⟩
  | .nil, _ :: _, h => by unfold chkT at h; cases h
  | .nm _, _, h => by unfold chkT at h; cases h
  | .cons a r, [], h => by unfold chkT at h; cases h
  | .cons a r, e :: es, h => by
    unfold chkT at h
    obtain ⟨h1, h2⟩ := and_t h
    obtain ⟨g1, g2⟩ := chkT_each (env := env) h2
    rw [chkT_star h1]
    refine ⟨?_, by rw [List.length_cons, List.length_cons, g2]⟩
    rw [List.findIdx?_cons, g1]
    rfl
theorem chkT_len {sc : Scope} {fnb : Str → Bool} : ∀ {t : RT} {es : List Expr} {ds : List D} {env env' : Env}, chkT sc NN own fnb t (.inr es) = true → asgT t (.tup ds) env = some env' → ds.length = es.length
  | .nil, [], ds, _, _, _, g => by obtain ⟨e, _⟩ := asgT_nil g; cases e; rfl
  | .nil, _ :: _, _, _, _, h, _ => by unfold chkT at h; cases h
  | .nm _, _, _, _, _, h, _ => by unfold chkT at h; cases h
  | .cons a r, [], _, _, _, h, _ => by unfold chkT at h; cases h
  | .cons a r, e :: es, ds, _, _, h, g => by
    unfold chkT at h
    obtain ⟨h1, h2⟩ := and_t h
    obtain ⟨d, ds', e', q1, q2, q3⟩ := asgT_consT g
    cases q1
    rw [List.length_cons, List.length_cons, chkT_len h2 q3]
/-- a target's store -/
theorem sg_asg {X : Cx} {W : WX} {sc : Scope} {fnb : Str → Bool} (S : Site P N n X W sc NN cm) (hc : X.calm = true) (hfn : ∀ x, fnb x = true → X.fn x = true) {H : Hp} {A : List Addr} {ad : Nat → Addr} : ∀ (t : RT),
    (∀ {tg : Expr} {env env' : Env} {σ : L2.St} {v : V} {d : D} {Q : L2.St → Hp → Prop}, chkT sc NN own fnb t (.inl tg) = true → Frm N X.K own env σ H A ad → Rp N X.K (sub H A) v d → asgT t d env = some env' → (∀ σ', Frm N X.K own env' σ' H A ad → (∀ j, j ∉ t.slots → σ'[j]? = σ[j]?) → Q σ' H) → wG X tg v σ H Q) ∧
    (∀ {es : List Expr} {env env' : Env} {σ : L2.St} {vs : List V} {ds : List D} {Q : L2.St → Hp → Prop}, chkT sc NN own fnb t (.inr es) = true → Frm N X.K own env σ H A ad → Rps N X.K (sub H A) vs ds → asgT t (.tup ds) env = some env' → (∀ σ', Frm N X.K own env' σ' H A ad → (∀ j, j ∉ t.slots → σ'[j]? = σ[j]?) → Q σ' H) → wGs X es vs σ H Q) := by
  intro t
  have nd : X.N.Nodup := by rw [S.nn]; exact S.nd
  induction t with
  | nm i =>
    refine ⟨fun {tg env env' σ v d Q} hk F r ha q => ?_, fun hk _ _ _ _ => by unfold chkT at hk; cases hk⟩
    cases tg with
    | Name x pos =>
      unfold chkT at hk
      obtain ⟨h1, h3⟩ := and_t hk
      obtain ⟨h1, h2⟩ := and_t h1
      have hi : i ∉ own := fun z => by
        have e : own.contains i = true := List.contains_iff_mem.mpr z
        rw [e] at h3; cases h3
      have hN : X.N[i]? = some x := by rw [S.nn]; exact of_decide_eq_true h1
      obtain ⟨hl, rfl⟩ := asgT_nm ha
      have hx : L2.Loc X.env.scope x ∧ (X.fn x = true ∨ X.env.scope.names.lookup x = some .local) := by
        rw [S.sc]
        unfold L2.Loc
        split at h2
        · exact ⟨.inl (by assumption), .inr (by assumption)⟩
        · exact ⟨.inr (by assumption), .inl (hfn x h2)⟩
        · cases h2
      refine toG (pg_name nd hN hx.1 hx.2) (q _ (F.set hi hl r) fun j hj => ?_)
      have ne : i ≠ j := fun z => hj (by rw [z]; exact List.mem_singleton.mpr rfl)
      rw [List.getElem?_set_ne ne]
    | _ => unfold chkT at hk; cases hk
  | nil =>
    refine ⟨fun {tg env env' σ v d Q} hk F r ha q => ?_, fun {es env env' σ vs ds Q} hk F r ha q => ?_⟩
    · obtain ⟨rfl, rfl⟩ := asgT_nil ha
      cases tg with
      | Tuple es k pos =>
        cases es with
        | cons _ _ => unfold chkT at hk; cases hk
        | nil =>
          cases r with
          | tup h1 r1 =>
            cases r1
            exact toG (pg_tup hc pgs_nil rfl rfl) ⟨_, [], rfl, .inl (.of (sub_some h1).2), rfl, rfl, q _ F fun _ _ => rfl⟩
      | _ => unfold chkT at hk; cases hk
    · obtain ⟨e, rfl⟩ := asgT_nil ha
      cases e
      cases r
      cases es with
      | nil => exact toGs pgs_nil ⟨rfl, q _ F fun _ _ => rfl⟩
      | cons _ _ => unfold chkT at hk; cases hk
  | cons a r iha ihr =>
    have two : ∀ {e : Expr} {es : List Expr} {env env' : Env} {σ : L2.St} {vs : List V} {ds : List D} {Q : L2.St → Hp → Prop}, chkT sc NN own fnb a (.inl e) = true → chkT sc NN own fnb r (.inr es) = true → Frm N X.K own env σ H A ad → Rps N X.K (sub H A) vs ds → asgT (.cons a r) (.tup ds) env = some env' → (∀ σ', Frm N X.K own env' σ' H A ad → (∀ j, j ∉ (RT.cons a r).slots → σ'[j]? = σ[j]?) → Q σ' H) → wGs X (e :: es) vs σ H Q := by
      intro e es env env' σ vs ds Q k1 k2 F rp ha q
      obtain ⟨d, ds', e1, q1, q2, q3⟩ := asgT_consT ha
      cases q1
      cases rp with
      | cons r1 r2 =>
        refine toGs (pgs_cons pg_w pgs_w (by rw [chkT_star k1]; rfl)) ⟨_, _, rfl, ?_⟩
        refine iha.1 k1 F r1 q2 fun σ1 F1 s1 => ?_
        refine ihr.2 k2 F1 r2 q3 fun σ2 F2 s2 => q σ2 F2 fun j hj => ?_
        have hj : j ∉ a.slots ++ r.slots := hj
        rw [List.mem_append, not_or] at hj
        rw [s2 j hj.2, s1 j hj.1]
    refine ⟨fun {tg env env' σ v d Q} hk F rp ha q => ?_, fun {es env env' σ vs ds Q} hk F rp ha q => ?_⟩
    · cases tg with
      | Tuple es k pos =>
        cases es with
        | nil => unfold chkT at hk; cases hk
        | cons e es =>
          unfold chkT at hk
          obtain ⟨k1, k3⟩ := and_t hk
          obtain ⟨k1, k2⟩ := and_t k1
          obtain ⟨d1, ds, e1, q1, q2, q3⟩ := asgT_cons ha
          have ha' : asgT (.cons a r) (.tup (d1 :: ds)) env = some env' := by
            unfold asgT
            rw [q2]
            exact q3
          obtain ⟨g1, g2⟩ := chkT_each (env := X.env) k2
          have hl : ds.length = es.length := chkT_len k2 q3
          rcases q1 with q1 | q1
          · cases q1
            cases rp with
            | tup h1 r1 =>
              refine toG (pg_tup (n := es.length + 1) hc pgs_w (by rw [chkT_star k1, List.length_cons, g2]) (by rw [chkT_star k1, List.findIdx?_cons, g1]; rfl)) ⟨_, _, rfl, .inl (.of (sub_some h1).2), ?_, ?_⟩
              · rw [r1.length, List.length_cons, hl]
              · exact two k1 k2 F r1 ha' q
          · cases q1
            cases rp with
            | lst h1 r1 =>
              refine toG (pg_lst (n := es.length + 1) hc pgs_w (by rw [chkT_star k1, List.length_cons, g2]) (by rw [chkT_star k1, List.findIdx?_cons, g1]; rfl)) ⟨_, _, rfl, Same.sqL sub_same h1, ?_, ?_⟩
              · rw [r1.length, List.length_cons, hl]
              · exact two k1 k2 F r1 ha' q
      | _ => unfold chkT at hk; cases hk
    · cases es with
      | nil => unfold chkT at hk; cases hk
      | cons e es =>
        unfold chkT at hk
        obtain ⟨k1, k2⟩ := and_t hk
        exact two k1 k2 F rp ha q

/-! ### stores into slots of which nothing is known -/
theorem asgU_T : ∀ {t : RT} {d : D} {env env' : Env}, asgU t d env = some env' → asgT t d env = some env' ∧ ∀ (j : Nat) (x : D), env[j]? = some x → x ≠ .un → env'[j]? = some x
  | .nm i, d, env, env', h => by
    unfold asgU at h
    split at h
    · rename_i q
      cases h
      have hl := (List.getElem?_eq_some_iff.mp q).1
      refine ⟨by unfold asgT; rw [if_pos hl], fun j x hj nu => ?_⟩
      have ne : i ≠ j := fun z => by subst z; rw [q] at hj; cases hj; exact nu rfl
      rw [List.getElem?_set_ne ne]
      exact hj
    · cases h
  | .nil, d, env, env', h => by
    cases d with
    | tup xs =>
      cases xs with
      | nil => unfold asgU at h; cases h; exact ⟨rfl, fun _ _ z _ => z⟩
      | cons d ds => unfold asgU at h; cases h
    | _ => unfold asgU at h; cases h
  | .cons a r, d, env, env', h => by
    cases d with
    | tup xs =>
      cases xs with
      | nil => unfold asgU at h; cases h
      | cons d ds =>
        unfold asgU at h
        cases q : asgU a d env with
        | none => rw [q] at h; cases h
        | some e =>
          rw [q] at h
          obtain ⟨g1, g2⟩ := asgU_T q
          obtain ⟨g3, g4⟩ := asgU_T h
          refine ⟨by unfold asgT; rw [g1]; exact g3, fun j x hj nu => g4 j x (g2 j x hj nu) nu⟩
    | _ => unfold asgU at h; cases h
end
end PD
end

section
set_option Elab.async false
set_option linter.all false
set_option maxRecDepth 100000
/-! PD14: the loops of a list comprehension with any number of clauses. -/
namespace PySem
open Sem (wp)
section
variable {ck : PD.CKd} {gens : List Comprehension} {scope : Scope} {pos : Pos} {d : Nat} {t i t1 i1 : Expr} {ifs ifs1 : List Expr} {it acc : Value} {env : Env}
/-- what a comprehension does with its item -/
def pdPut (ck : PD.CKd) (acc : Value) (env : Env) : Sem Unit := match ck with
  | .lst elt => (do let _ ← call (.builtin "list.append") [acc, ← eval elt env])
  | .dic k v => (do
      let kv ← eval k env
      let vv ← holding [kv] (eval v env)
      match acc with
      | .ref d => do
        standAt { k.pos with endLine := v.pos.endLine, endCol := v.pos.endCol }
        holding [kv, vv] (dictSet d kv vv)
      | _ => unsupported "internal:dictcomp")
theorem pd_turn_in (hd : gens[d]? = some ⟨t, i, ifs, 0⟩) (h1 : gens[d + 1]? = none) : compTurn (ck.ex gens scope pos) d it acc env = (do
      standAt i.pos
      match ← pyNext it with
      | none => pure (.done .next)
      | some v =>
        letOwnedTupleGo t it v
        assign t env v
        let mut ok := true
        for c in ifs do
          if ok then ok ← isTrue c env (eval c env)
        if ok then
          pdPut ck acc env
        again (.compLoop (ck.ex gens scope pos) d it acc env)) := by
  cases ck <;> (unfold compTurn PD.CKd.ex; simp only [hd, h1]; rfl)
theorem pd_turn_out (hd : gens[d]? = some ⟨t, i, ifs, 0⟩) (h1 : gens[d + 1]? = some ⟨t1, i1, ifs1, 0⟩) : compTurn (ck.ex gens scope pos) d it acc env = (do
      standAt i.pos
      match ← pyNext it with
      | none => pure (.done .next)
      | some v =>
        letOwnedTupleGo t it v
        assign t env v
        let mut ok := true
        for c in ifs do
          if ok then ok ← isTrue c env (eval c env)
        if ok then
          let x ← eval i1 env
          standAt i1.pos
          let x ← foldedSetIterable i1 env x
          let _ ← runOwn (.compStart (ck.ex gens scope pos) (d + 1) (← holding [x] (pyIter x)) acc env) env
        again (.compLoop (ck.ex gens scope pos) d it acc env)) := by
  cases ck <;> (unfold compTurn PD.CKd.ex; simp only [hd, h1]; rfl)
end
abbrev pdTests (ifs : List Expr) (env : Env) : Sem Bool := forIn ifs true fun c r => if r = true then do let ok ← isTrue c env (eval c env); pure (ForInStep.yield ok) else pure (ForInStep.yield r)
section
variable {prog : Program} {w : World} {A : Around} {R : Result → Shared → Prop} {s : Shared} {ck : PD.CKd} {gens : List Comprehension} {scope : Scope} {pos : Pos} {d : Nat} {t i t1 i1 : Expr} {ifs ifs1 : List Expr} {it acc : Value} {env : Env}
/-- the item, put -/
def PdPut (prog : Program) (w : World) (A : Around) (ck : PD.CKd) (acc : Value) (env : Env) (Q : Shared → Prop) (s : Shared) : Prop := match ck with
  | .lst elt => wpAny (model prog w) A (eval elt env) (fun x s₄ => wpAny (model prog w) A (call (.builtin "list.append") [acc, x]) (fun _ s₅ => Q s₅) (fun _ _ => False) s₄) (fun _ _ => False) s
  | .dic k v => ∃ d, acc = .ref d ∧ wpAny (model prog w) A (eval k env) (fun kv s₄ => wpAny (model prog w) A (eval v env) (fun vv s₅ => wpAny (model prog w) A (dictSet d kv vv) (fun _ s₆ => Q s₆) (fun _ _ => False) s₅) (fun _ _ => False) s₄) (fun _ _ => False) s
/-- behind a clause's store: its tests, then the item or the next clause; nothing is let out -/
inductive PdRest (prog : Program) (w : World) (A : Around) (ck : PD.CKd) (gens : List Comprehension) (scope : Scope) (pos : Pos) (d : Nat) (ifs : List Expr) (acc : Value) (env : Env) (Q : Shared → Prop) (s : Shared) : Prop
  | emit (h1 : gens[d + 1]? = none) (h : wpAny (model prog w) A (pdTests ifs env) (fun ok s₃ => if ok = true then PdPut prog w A ck acc env Q s₃ else Q s₃) (fun _ _ => False) s)
  | inner {t1 i1 : Expr} {ifs1 : List Expr} (h1 : gens[d + 1]? = some ⟨t1, i1, ifs1, 0⟩) (hs : ∀ x, foldedSetIterable i1 env x = pure x)
      (h : wpAny (model prog w) A (pdTests ifs env) (fun ok s₃ => if ok = true then wpAny (model prog w) A (eval i1 env) (fun x s₄ => wpAny (model prog w) A (pyIter x) (fun it1 s₅ =>
              codeAny (model prog w) A (.compStart (ck.ex gens scope pos) (d + 1) it1 acc env) (fun r s' => match r with
                | .ok _ => Q s'
                | .error _ => False) s₅) (fun _ _ => False) s₄) (fun _ _ => False) s₃ else Q s₃) (fun _ _ => False) s)
theorem pd_f {α : Type} {x : Sem α} {Q : α → Shared → Prop} {E : Value → Shared → Prop} {M : Model} (h : wpAny M A x Q (fun _ _ => False) s) : wpAny M A x Q E s := wpAny_mono h (fun _ _ z => z) fun _ _ z => z.elim
theorem pd_fm {α : Type} {x : Sem α} {Q Q' : α → Shared → Prop} {E : Value → Shared → Prop} {M : Model} (h : wpAny M A x Q (fun _ _ => False) s) (k : ∀ a s, Q a s → Q' a s) : wpAny M A x Q' E s := wpAny_mono h k fun _ _ z => z.elim
theorem under_loop : A.under (.compLoop (ck.ex gens scope pos) d it acc env) = A := by cases ck <;> rfl
theorem under_start : A.under (.compStart (ck.ex gens scope pos) d it acc env) = A := by cases ck <;> rfl
theorem den_loop : (model prog w).den (.compLoop (ck.ex gens scope pos) d it acc env) = (compTurn (ck.ex gens scope pos) d it acc env).onRaise (fun x => do noteFrame x env; theTreesLotGoes x) := by cases ck <;> rfl
theorem den_start : (model prog w).den (.compStart (ck.ex gens scope pos) d it acc env) = (compStart (ck.ex gens scope pos) d it acc env).onRaise (fun x => do noteFrame x env; standAt theWindowsPlace) := by cases ck <;> rfl
theorem wp_put {Q : Unit → Shared → Prop} {E : Value → Shared → Prop} (h : PdPut prog w A ck acc env (Q ()) s) : wpAny (model prog w) A (pdPut ck acc env) Q E s := by
  cases ck with
  | lst elt => exact wpAny_bind (pd_fm h fun x s₄ h₄ => wpAny_bind (pd_fm h₄ fun _ s₅ h₅ => wpAny_pure h₅))
  | dic k v =>
    obtain ⟨d, rfl, h⟩ := h
    exact wpAny_bind (pd_fm h fun kv s₄ h₄ => wpAny_bind (wpAny_holding (pd_fm h₄ fun vv s₅ h₅ => wpAny_bind (wpAny_standAt (wpAny_holding (pd_fm h₅ fun _ s₆ h₆ => h₆))))))
theorem put_mono {Q Q' : Shared → Prop} (h : PdPut prog w A ck acc env Q s) (k : ∀ s, Q s → Q' s) : PdPut prog w A ck acc env Q' s := by
  cases ck with
  | lst elt => exact pd_fm h fun _ _ h₄ => pd_fm h₄ fun _ _ q => k _ q
  | dic kx v =>
    obtain ⟨d, e, h⟩ := h
    exact ⟨d, e, pd_fm h fun _ _ h₄ => pd_fm h₄ fun _ _ h₅ => pd_fm h₅ fun _ _ q => k _ q⟩
/-- a clause's loop -/
theorem pd_loop (hd : gens[d]? = some ⟨t, i, ifs, 0⟩) (nx : gens[d + 1]? = none ∨ ∃ t1 i1 ifs1, gens[d + 1]? = some ⟨t1, i1, ifs1, 0⟩) (I : Nat → Shared → Prop)
    (turn : ∀ n s, I n s → wpAny (model prog w) A (pyNext it) (fun r s₁ => match r with
      | none => R (.ok .next) s₁
      | some v => wpAny (model prog w) A (letOwnedTupleGo t it v) (fun _ s₁' => wpAny (model prog w) A (assign t env v) (fun _ s₂ =>
          PdRest prog w A ck gens scope pos d ifs acc env (fun s₃ => ∃ m, m < n ∧ I m s₃) s₂) (fun _ _ => False) s₁') (fun _ _ => False) s₁) (fun _ _ => False) s)
    (n : Nat) (h : I n s) :
    codeAny (model prog w) A (.compLoop (ck.ex gens scope pos) d it acc env) R s := by
  refine codeAny_loop rfl I (fun n s hI => ?_) n h
  rw [under_loop, den_loop]
  show wpAny _ A ((compTurn (ck.ex gens scope pos) d it acc env).onRaise (fun x => do noteFrame x env; theTreesLotGoes x)) _ _ s
  refine wpAny_noted ?_
  rcases nx with h1 | ⟨t1, i1, ifs1, h1⟩
  · rw [pd_turn_in hd h1]
    refine wpAny_bind (wpAny_standAt (wpAny_bind (pd_fm (turn n s hI) fun r s₁ h₁ => ?_)))
    cases r with
    | none => exact wpAny_pure h₁
    | some v =>
      refine wpAny_bind (pd_fm h₁ fun _ s₁' h₁' => ?_)
      refine wpAny_bind (pd_fm h₁' fun _ s₂ h₂ => ?_)
      cases h₂ with
      | inner h2 _ _ => rw [h1] at h2; cases h2
      | emit _ h =>
        refine wpAny_bind (pd_fm h fun ok s₃ h₃ => ?_)
        cases ok with
        | false => exact wpAny_pure ⟨rfl, h₃⟩
        | true => exact wpAny_bind (wp_put (put_mono h₃ fun s₅ h₅ => wpAny_pure ⟨rfl, h₅⟩))
  · rw [pd_turn_out hd h1]
    refine wpAny_bind (wpAny_standAt (wpAny_bind (pd_fm (turn n s hI) fun r s₁ h₁ => ?_)))
    cases r with
    | none => exact wpAny_pure h₁
    | some v =>
      refine wpAny_bind (pd_fm h₁ fun _ s₁' h₁' => ?_)
      refine wpAny_bind (pd_fm h₁' fun _ s₂ h₂ => ?_)
      cases h₂ with
      | emit h2 _ => rw [h1] at h2; cases h2
      | inner h2 hs h =>
        rw [h1] at h2
        cases h2
        refine wpAny_bind (pd_fm h fun ok s₃ h₃ => ?_)
        cases ok with
        | false => exact wpAny_pure ⟨rfl, h₃⟩
        | true =>
          refine wpAny_bind (pd_fm h₃ fun x s₄ h₄ => ?_)
          refine wpAny_bind (wpAny_standAt (wpAny_bind (wpAny_of_eq (hs x) (wpAny_bind (wpAny_holding (pd_fm h₄ fun it1 s₅ h₅ => ?_))))))
          refine wpAny_bind (wpAny_runOwn ?_)
          rw [Around.mark_none]
          refine codeAny_mono h₅ fun r s' hr => ?_
          cases r with
          | ok f =>
            first
              | exact wpAny_pure ⟨rfl, hr⟩
              | exact wpAny_bind (wpAny_pure (wpAny_pure ⟨rfl, hr⟩))
          | error e => exact hr.elim
/-- a later clause's start -/
theorem pd_start (hd : gens[d]? = some ⟨t, i, ifs, 0⟩) (h0 : codeAny (model prog w) A (.compLoop (ck.ex gens scope pos) d it acc env) R s)
    (h : wpAny (model prog w) A (pyIter it) (fun it' s' => codeAny (model prog w) A (.compLoop (ck.ex gens scope pos) d it' acc env) R s')
      (notedBy (model prog w) A env fun x s' => R (.error x) s') s) :
    codeAny (model prog w) A (.compStart (ck.ex gens scope pos) d it acc env) R s := by
  refine codeAny_of_tree ?_
  rw [under_start, den_start]
  show wpAny _ A ((compStart (ck.ex gens scope pos) d it acc env).onRaise (fun x => do noteFrame x env; standAt theWindowsPlace)) _ _ s
  refine wpAny_notedAt ?_
  unfold compStart
  have hc : (clausesOf (ck.ex gens scope pos))[d]? = some ⟨t, i, ifs, 0⟩ := by cases ck <;> exact hd
  simp only [hc]
  show wpAny _ _ (ask >>= _) _ _ s
  refine wpAny_bind (wpAny_askSetting (wpAny_ite ?_))
  split
  · first
      | exact wpAny_bind (wpAny_pure (wpAny_pure (And.intro rfl h0)))
      | exact wpAny_pure (And.intro rfl h0)
  · first
      | exact wpAny_bind (wpAny_rule (wpAny_bind (wpAny_standAt (wpAny_bind (wpAny_mono h (fun it' s' h' => wpAny_pure (And.intro rfl h')) fun _ _ x => x)))))
      | (refine wpAny_bind (wpAny_rule ?_); show wpAny _ _ (standAt i.pos >>= _) _ _ s; exact wpAny_bind (wpAny_standAt (wpAny_bind (wpAny_mono h (fun it' s' h' => wpAny_pure (And.intro rfl h')) fun _ _ x => x))))
/-- the first test -/
theorem pd_test_nil {Q : Bool → Shared → Prop} {E : Value → Shared → Prop} (h : Q true s) : wpAny (model prog w) A (pdTests [] env) Q E s := wpAny_tests_nil h
theorem pd_for_false {Q : Bool → Shared → Prop} {E : Value → Shared → Prop} : ∀ {l : List Expr} {s : Shared}, Q false s → wpAny (model prog w) A (forIn l false fun c r => if r = true then do let ok ← isTrue c env (eval c env); pure (ForInStep.yield ok) else pure (ForInStep.yield r)) Q E s
  | [], s, h => by rw [List.forIn_nil]; exact wpAny_pure h
  | c :: l, s, h => by
    rw [List.forIn_cons]
    refine wpAny_bind ?_
    rw [if_neg (by decide)]
    exact wpAny_pure (pd_for_false h)
theorem pd_test_cons {c : Expr} {l : List Expr} {Q : Bool → Shared → Prop} {E : Value → Shared → Prop} (h : wpAny (model prog w) A (isTrue c env (eval c env)) (fun ok s' => if ok = true then wpAny (model prog w) A (pdTests l env) Q E s' else Q false s') E s) : wpAny (model prog w) A (pdTests (c :: l) env) Q E s := by
  show wpAny _ _ (forIn (c :: l) true _) _ _ _
  rw [List.forIn_cons]
  refine wpAny_bind ?_
  rw [if_pos rfl]
  refine wpAny_bind (wpAny_mono h (fun ok s' h' => wpAny_pure ?_) fun _ _ z => z)
  cases ok with
  | true => rw [if_pos rfl] at h'; exact h'
  | false => rw [if_neg (by decide)] at h'; exact pd_for_false h'
end
end PySem
end

section
set_option Elab.async false
set_option linter.all false
set_option maxRecDepth 100000
/-! PD15: list comprehensions. -/
namespace PD
open PySem PySem.Spec PyProof.Rows L2
/-- all but one object stays -/
def SameBut (D : Addr) (H H' : Hp) : Prop := ∀ b o, b ≠ D → H b = some o → H' b = some o
theorem SameBut.refl {D : Addr} {H : Hp} : SameBut D H H := fun _ _ _ h => h
theorem SameBut.trans {D : Addr} {H H' H'' : Hp} (a : SameBut D H H') (b : SameBut D H' H'') : SameBut D H H'' := fun x o n h => b x o n (a x o n h)
theorem SameBut.of {D : Addr} {H H' : Hp} (a : Same H H') : SameBut D H H' := fun x o _ h => a x o h
theorem SameBut.upd {D : Addr} {H : Hp} {o : HO} : SameBut D H (L2.upd H D o) := fun b u n h => by rw [upd_ne n]; exact h
theorem SameBut.sub {D : Addr} {H H' : Hp} {A : List Addr} (hD : D ∈ A) (a : SameBut D H H') : Same (PD.sub H A) (PD.sub H' A) := fun b o h => by
  obtain ⟨n, h⟩ := sub_some h
  rw [sub_out n]
  exact a b o (fun z => n (by rw [z]; exact hD)) h
/-- a list or a dict -/
def Bx (H : Hp) (D : Addr) : Prop := (∃ xs, H D = some (.lst xs)) ∨ (∃ kvs, H D = some (.dT kvs)) ∨ ∃ kvs, H D = some (.dK kvs)
theorem SameBut.aok {D : Addr} {H H' : Hp} {A : List Addr} (a : SameBut D H H') (h : Bx H' D) (l : Bx H D) (c : AOk H A) : AOk H' A := fun b hb => by
  by_cases e : b = D
  · subst e
    rcases h with h | h | h
    · exact .inl h
    · exact .inr (.inl h)
    · exact .inr (.inr (.inl h))
  · rcases c b hb with ⟨_, q⟩ | ⟨_, q⟩ | ⟨_, q⟩ | ⟨_, _, _, q, hx⟩ | ⟨_, q, hx⟩
    · exact .inl ⟨_, a _ _ e q⟩
    · exact .inr (.inl ⟨_, a _ _ e q⟩)
    · exact .inr (.inr (.inl ⟨_, a _ _ e q⟩))
    · refine .inr (.inr (.inr (.inl ⟨_, _, _, a _ _ e q, hx.1, ?_⟩)))
      refine a _ _ (fun z => ?_) hx.2
      have h2 := hx.2
      rw [z] at h2
      rcases l with ⟨ys, l⟩ | ⟨ys, l⟩ | ⟨ys, l⟩ <;> (rw [l] at h2; cases h2)
    · obtain ⟨hx, C, fs, h2⟩ := hx
      refine .inr (.inr (.inr (.inr ⟨_, a _ _ e q, hx, C, fs, a _ _ (fun z => ?_) h2⟩)))
      rw [z] at h2
      rcases l with ⟨ys, l⟩ | ⟨ys, l⟩ | ⟨ys, l⟩ <;> (rw [l] at h2; cases h2)
section
variable {P : Prog} {N : Info} {n : Nat} {NN : List Str} {own : List Nat} {cm : Bool} {ci : Nat}
theorem Own.but {K : PySem.W.Frag} {D a : Addr} {H H' : Hp} {A : List Addr} (s : SameBut D H H') (hD : D ∈ A) (ne : a ≠ D) : ∀ {d : PD.D}, Own N K H A a d → Own N K H' A a d
  | .lst ds, ⟨vs, h, r⟩ => ⟨vs, s _ _ ne h, r.mono (s.sub hD)⟩
  | .dic ks ds, ⟨kvs, h, n, r⟩ => ⟨kvs, s _ _ ne h, n, r.mono (s.sub hD)⟩
  | .ins c ds, ⟨dx, fs, hc, m, h, n, r⟩ => ⟨dx, fs, hc, m, s _ _ ne h, n, r.mono (s.sub hD)⟩
  | .un, h => h.elim
  | .non, h => h.elim
  | .bl _, h => h.elim
  | .int _, h => h.elim
  | .str _, h => h.elim
  | .tup _, h => h.elim
  | .dik _ _, h => h.elim
  | .rng _ _, h => h.elim
  | .dit _ _, h => h.elim
section
variable {K : PySem.W.Frag} {env : Env} {σ : L2.St} {H H' : Hp} {A : List Addr} {ad : Nat → Addr} {Dl : Addr}
theorem Frm.but (F : Frm N K own env σ H A ad) (s : SameBut Dl H H') (hD : Dl ∈ A) (na : ∀ i ∈ own, ad i ≠ Dl) (l : Bx H Dl) (h : Bx H' Dl) : Frm N K own env σ H' A ad where
  len := F.len
  aok := s.aok h l F.aok
  inA := F.inA
  inj := F.inj
  val := fun i d h n m => let ⟨v, q, r⟩ := F.val i d h n m; ⟨v, q, r.mono (s.sub hD)⟩
  ownv := fun i h => let ⟨d, q, r, o⟩ := F.ownv i h; ⟨d, q, r, o.but s hD (na i h)⟩
/-- what is not known of the slots is forgotten -/
def mask (env : Env) (σ : L2.St) : L2.St := σ.mapIdx fun j v => match env[j]? with
  | some .un => none
  | some _ => v
  | none => none
theorem mask_len {env : Env} {σ : L2.St} : (mask env σ).length = σ.length := List.length_mapIdx
theorem mask_some {j : Nat} {v : V} (h : (mask env σ)[j]? = some (some v)) : σ[j]? = some (some v) ∧ ∃ d, env[j]? = some d ∧ d ≠ .un := by
  unfold mask at h
  rw [List.getElem?_mapIdx] at h
  cases q : σ[j]? with
  | none => rw [q] at h; cases h
  | some u =>
    rw [q] at h
    have h : (match env[j]? with
      | some .un => none
      | some _ => u
      | none => none) = some v := by simpa using h
    cases e : env[j]? with
    | none => rw [e] at h; cases h
    | some d =>
      rw [e] at h
      cases d <;> first | exact ⟨by rw [show u = some v from h], _, rfl, fun z => by cases z⟩ | cases h
theorem mask_at {j : Nat} {v : V} {d : PD.D} (h : σ[j]? = some (some v)) (he : env[j]? = some d) (hd : d ≠ .un) : (mask env σ)[j]? = some (some v) := by
  unfold mask
  rw [List.getElem?_mapIdx, h]
  show some (match env[j]? with
      | some .un => none
      | some _ => some v
      | none => none) = _
  rw [he]
  cases d <;> first | rfl | exact absurd rfl hd
theorem Own.un {a : Addr} {d : PD.D} (h : Own N K H A a d) : d ≠ .un := fun z => by subst z; exact h.elim
theorem Frm.mask (F : Frm N K own env σ H A ad) : Frm N K own env (PD.mask env σ) H A ad where
  len := by rw [mask_len]; exact F.len
  aok := F.aok
  inA := F.inA
  inj := F.inj
  val := fun i d h n m => let ⟨v, q, r⟩ := F.val i d h n m; ⟨v, mask_at q h n, r⟩
  ownv := fun i h => let ⟨d, q, r, o⟩ := F.ownv i h; ⟨d, q, mask_at r q o.un, o⟩
end
theorem asgT_len : ∀ {t : RT} {d : D} {env env' : Env}, asgT t d env = some env' → env'.length = env.length
  | .nm i, d, env, env', h => by obtain ⟨_, rfl⟩ := asgT_nm h; exact List.length_set
  | .nil, d, env, env', h => by obtain ⟨_, rfl⟩ := asgT_nil h; rfl
  | .cons a r, d, env, env', h => by
    obtain ⟨_, _, e, _, h1, h2⟩ := asgT_cons h
    rw [asgT_len h2, asgT_len h1]
theorem asgU_slots : ∀ {t : RT} {d : D} {env env' : Env}, asgU t d env = some env' → ∀ j ∈ t.slots, env[j]? = some .un
  | .nm i, d, env, env', h, j, hj => by
    obtain rfl : j = i := List.mem_singleton.mp hj
    unfold asgU at h
    split at h
    · assumption
    · cases h
  | .nil, d, env, env', h, j, hj => absurd hj (by unfold RT.slots; simp)
  | .cons a r, d, env, env', h, j, hj => by
    cases d with
    | tup xs =>
      cases xs with
      | nil => unfold asgU at h; cases h
      | cons d ds =>
        unfold asgU at h
        cases q : asgU a d env with
        | none => rw [q] at h; cases h
        | some e =>
          rw [q] at h
          rcases List.mem_append.mp (show j ∈ a.slots ++ r.slots from hj) with hj | hj
          · exact asgU_slots q j hj
          · have h2 := asgU_slots h j hj
            obtain ⟨g1, g2⟩ := asgU_T q
            have hl := asgT_len g1
            have hj2 := (List.getElem?_eq_some_iff.mp h2).1
            cases e1 : env[j]? with
            | none =>
              rw [List.getElem?_eq_none_iff] at e1
              omega
            | some x =>
              by_cases hx : x = .un
              · rw [hx]
              · have := g2 j x e1 hx
                rw [h2] at this
                cases this
                rfl
    | _ => unfold asgU at h; cases h
/-! ### behind a clause's store -/
def wR (B : Cx) (ck : CKd) (gens : List Comprehension) (scope : Scope) (pos : Pos) (d : Nat) (ifs : List Expr) (Dl : Addr) (σ : L2.St) (H : Hp) (σk : L2.St) (Q : Hp → Prop) : Prop := ∀ pins s, Inv B pins σ H s → PdRest B.prog B.w B.A ck gens scope pos d ifs (.ref Dl) B.env (fun s' => ∃ H', Inv B pins σk H' s' ∧ Q H') s
theorem rest_mono {prog : Program} {w : World} {A : Around} {ck : CKd} {gens : List Comprehension} {scope : Scope} {pos : Pos} {d : Nat} {ifs : List Expr} {acc : Value} {env : PySem.Env} {Q Q' : Shared → Prop} {s : Shared} (h : PdRest prog w A ck gens scope pos d ifs acc env Q s) (k : ∀ s, Q s → Q' s) : PdRest prog w A ck gens scope pos d ifs acc env Q' s := by
  cases h with
  | emit h1 h =>
    refine .emit h1 (pd_fm h fun ok s₃ h₃ => ?_)
    cases ok with
    | true => rw [if_pos rfl] at h₃ ⊢; exact put_mono h₃ k
    | false => rw [if_neg (by decide)] at h₃ ⊢; exact k _ h₃
  | inner h1 hs h =>
    refine .inner h1 hs (pd_fm h fun ok s₃ h₃ => ?_)
    cases ok with
    | true =>
      rw [if_pos rfl] at h₃ ⊢
      refine pd_fm h₃ fun _ _ h₄ => pd_fm h₄ fun _ _ h₅ => codeAny_mono h₅ fun r s' q => ?_
      cases r with
      | ok _ => exact k _ q
      | error _ => exact q
    | false => rw [if_neg (by decide)] at h₃ ⊢; exact k _ h₃
abbrev W0 : WX := fun _ _ _ _ => False
/-- the kind of what is filled: a list, a dict whose keys are tuples, one whose keys are ints and texts -/
inductive AK where
  | l | t | k
def AK.fits : AK → CKd → Bool
  | .l, .lst _ => true
  | .t, .dic _ _ => true
  | .k, .dic _ _ => true
  | _, _ => false
/-- what has been put so far -/
def AccOk (N : Info) (K : PySem.W.Frag) (H : Hp) (A : List Addr) (Dl : Addr) (ak : AK) (xs : List D) : Prop := match ak with
  | .l => ∃ vs, H Dl = some (.lst vs) ∧ Rps N K (sub H A) vs xs
  | .t => ∃ kvs ds, H Dl = some (.dT kvs) ∧ putsK tkOf xs [] [] = some (kvs.map (·.1), ds) ∧ Rps N K (sub H A) (kvs.map (·.2)) ds
  | .k => ∃ kvs ds, H Dl = some (.dK kvs) ∧ putsK keyOf xs [] [] = some (kvs.map (·.1), ds) ∧ Rps N K (sub H A) (kvs.map (·.2)) ds
/-- it can be put -/
def Puts (ak : AK) (xs : List D) : Prop := match ak with
  | .l => True
  | .t => ∃ r, putsK tkOf xs [] [] = some r
  | .k => ∃ r, putsK keyOf xs [] [] = some r
theorem AccOk.bx {K : PySem.W.Frag} {H : Hp} {A : List Addr} {Dl : Addr} {ak : AK} {xs : List D} (h : AccOk N K H A Dl ak xs) : Bx H Dl := by
  cases ak with
  | l => obtain ⟨vs, h, _⟩ := h; exact .inl ⟨_, h⟩
  | t => obtain ⟨vs, _, h, _⟩ := h; exact .inr (.inl ⟨_, h⟩)
  | k => obtain ⟨vs, _, h, _⟩ := h; exact .inr (.inr ⟨_, h⟩)
theorem AccOk.mono {K : PySem.W.Frag} {H H' : Hp} {A : List Addr} {Dl : Addr} {ak : AK} {xs : List D} (e : Same H H') (h : AccOk N K H A Dl ak xs) : AccOk N K H' A Dl ak xs := by
  cases ak with
  | l => obtain ⟨vs, h, r⟩ := h; exact ⟨vs, e _ _ h, r.mono (sub_mono e)⟩
  | t => obtain ⟨kvs, ds, h, q, r⟩ := h; exact ⟨kvs, ds, e _ _ h, q, r.mono (sub_mono e)⟩
  | k => obtain ⟨kvs, ds, h, q, r⟩ := h; exact ⟨kvs, ds, e _ _ h, q, r.mono (sub_mono e)⟩
theorem putsK_tup {κ : Type} [DecidableEq κ] {f : D → Option κ} {k v : D} {xs : List D} {ks : List κ} {vs : List D} : putsK f (.tup [k, v] :: xs) ks vs = (match f k with
    | some k => putsK f xs (PD.putK ks vs k v).1 (PD.putK ks vs k v).2
    | none => none) := rfl
theorem putsK_cons {κ : Type} [DecidableEq κ] {f : D → Option κ} {x : D} {xs : List D} {ks : List κ} {vs : List D} {r : List κ × List D} (h : putsK f (x :: xs) ks vs = some r) : ∃ k v kk, x = .tup [k, v] ∧ f k = some kk ∧ putsK f xs (PD.putK ks vs kk v).1 (PD.putK ks vs kk v).2 = some r := by
  unfold putsK at h
  split at h
  · rename_i e; cases e
  · rename_i k v r0 e
    cases e
    cases q : f k with
    | none => rw [q] at h; cases h
    | some kk => rw [q] at h; exact ⟨k, v, kk, rfl, q, h⟩
  · cases h
theorem putsK_app {κ : Type} [DecidableEq κ] {f : D → Option κ} : ∀ {xs ys : List D} {ks : List κ} {vs : List D} {r : List κ × List D}, putsK f (xs ++ ys) ks vs = some r → ∃ r', putsK f xs ks vs = some r' ∧ putsK f ys r'.1 r'.2 = some r
  | [], ys, ks, vs, r, h => ⟨(ks, vs), rfl, h⟩
  | x :: xs, ys, ks, vs, r, h => by
    rw [List.cons_append] at h
    obtain ⟨k, v, kk, rfl, q, h⟩ := putsK_cons h
    obtain ⟨r', e1, e2⟩ := putsK_app h
    exact ⟨r', by rw [putsK_tup, q]; exact e1, e2⟩
theorem putsK_append {κ : Type} [DecidableEq κ] {f : D → Option κ} : ∀ {xs ys : List D} {ks : List κ} {vs : List D} {r : List κ × List D}, putsK f xs ks vs = some r → putsK f (xs ++ ys) ks vs = putsK f ys r.1 r.2
  | [], ys, ks, vs, r, h => by cases h; rfl
  | x :: xs, ys, ks, vs, r, h => by
    rw [List.cons_append]
    obtain ⟨k, v, kk, rfl, q, h⟩ := putsK_cons h
    rw [putsK_tup, q]
    exact putsK_append h
theorem putK_len {κ : Type} [DecidableEq κ] {ks : List κ} {vs : List D} {k : κ} {v : D} : (PD.putK ks vs k v).1.length ≤ ks.length + 1 := by
  unfold PD.putK
  split
  · exact Nat.le_succ _
  · rw [List.length_append]; exact Nat.le_refl _
theorem putsK_len {κ : Type} [DecidableEq κ] {f : D → Option κ} : ∀ {xs : List D} {ks : List κ} {vs : List D} {r : List κ × List D}, putsK f xs ks vs = some r → r.1.length ≤ ks.length + xs.length
  | [], ks, vs, r, h => by cases h; exact Nat.le_refl _
  | x :: xs, ks, vs, r, h => by
    obtain ⟨k, v, kk, rfl, q, h⟩ := putsK_cons h
    have h1 := putsK_len h
    have h2 := putK_len (ks := ks) (vs := vs) (k := kk) (v := v)
    rw [List.length_cons]
    omega
theorem Puts.pre {ak : AK} {xs ys : List D} (h : Puts ak (xs ++ ys)) : Puts ak xs := by
  cases ak with
  | l => trivial
  | t => obtain ⟨r, h⟩ := h; obtain ⟨r', h, _⟩ := putsK_app h; exact ⟨r', h⟩
  | k => obtain ⟨r, h⟩ := h; obtain ⟨r', h, _⟩ := putsK_app h; exact ⟨r', h⟩
theorem putK_fst {κ : Type} [DecidableEq κ] {kvs : List (κ × V)} {k : κ} {v : V} {ks : List κ} {vs : List PD.D} {d : PD.D} (h : kvs.map (·.1) = ks) : (L2.putK kvs k v).map (·.1) = (putK ks vs k d).1 := by
  subst h
  unfold L2.putK putK
  have e : (kvs.any fun kv => decide (kv.1 = k)) = ((kvs.map (·.1)).any fun a => decide (a = k)) := by
    induction kvs with
    | nil => rfl
    | cons a r ih => rw [List.any_cons, List.map_cons, List.any_cons, ih]
  rw [e]
  split
  · show _ = kvs.map (·.1)
    rw [List.map_map]
    refine List.map_congr_left fun a _ => ?_
    show (if a.1 = k then (a.1, v) else a).1 = a.1
    split <;> rfl
  · show _ = kvs.map (·.1) ++ [k]
    rw [List.map_append]
    rfl
theorem putK_snd {K : PySem.W.Frag} {H : Hp} {κ : Type} [DecidableEq κ] {k : κ} {v : V} {d : PD.D} (r : Rp N K H v d) : ∀ {kvs : List (κ × V)} {vs : List PD.D}, Rps N K H (kvs.map (·.2)) vs → Rps N K H ((L2.putK kvs k v).map (·.2)) (putK (kvs.map (·.1)) vs k d).2 := fun {kvs vs} rs => by
  unfold L2.putK putK
  have e : (kvs.any fun kv => decide (kv.1 = k)) = ((kvs.map (·.1)).any fun a => decide (a = k)) := by
    clear rs
    induction kvs with
    | nil => rfl
    | cons a r ih => rw [List.any_cons, List.map_cons, List.any_cons, ih]
  rw [e]
  split
  · show Rps N K H _ (putV (kvs.map (·.1)) vs k d)
    clear e
    rename_i hc
    clear hc
    induction kvs generalizing vs with
    | nil => cases rs; exact .nil
    | cons a t ih =>
      cases rs with
      | cons r1 r2 =>
        rw [List.map_cons, List.map_cons]
        show Rps N K H _ ((if a.1 = k then d else _) :: putV (t.map (·.1)) _ k d)
        refine .cons ?_ (ih r2)
        show Rp N K H (if a.1 = k then (a.1, v) else a).2 _
        split
        · exact r
        · exact r1
  · show Rps N K H _ (vs ++ [d])
    rw [List.map_append]
    exact Rps.append rs (.one r)

/-- d[k] = v by a comprehension, k a tuple -/
theorem d_dictSetT {X : Cx} {pins : List (Addr × Obj)} {σ : L2.St} {H : Hp} {s : Shared} {E : Value → Shared → Prop} {D b : Addr} {kvs : List (List Key × V)} {k : List Key} {v : V} {r : Value} {Q : Unit → Shared → Prop} (hu : X.A.units < cLine) (I : Inv X pins σ H s) (hD : H D = some (.dT kvs)) (eb : H b = some (.tup (k.map kV))) (hz : kvs.length < sizeLine)
    (rv : RelV v r) (h : ∀ s', Inv X pins σ (upd H D (.dT (L2.putK kvs k v))) s' → Q () s') : wpAny (model X.prog X.w) X.A (dictSet D (.ref b) r) Q E s := by
  obtain ⟨z, hd, xs, rel, dd⟩ := dt_of I.hok hD
  have hz2 : xs.length ≤ sizeLine := by rw [← Paired.length rel]; exact z
  have hl : (L2.putK kvs k v).length ≤ sizeLine := by have := length_putK kvs k v; omega
  refine wpAny_dictSet_heap (hsz := hz2) hu (key_of I.hok eb) dd fun h' dd' hs => h _ ?_
  obtain ⟨q, es, ep, hq, h2, h3, h4, _, h5⟩ := dd'
  refine d_write I (by rw [hD]; exact True.intro) hs ⟨q, hq⟩ ⟨hl, hd, _, (rel.put k eb rv).keeps fun c ys ec => ?_, q, es, ep, hq, h2, h3, h4, h5⟩
  rw [upd_ne (ne_of ec hD (fun z => nomatch z))]
  exact ec
variable (P N n NN own ci) in
def SC (r : RE) : Prop := ∀ (B : Cx) (sc : Scope) (fnb : Str → Bool) (ck : CKd) (gens : List Comprehension) (scope : Scope) (pos : Pos) (d : Nat) (ifs : List Expr) (rest : List Comprehension) (env : Env) (σ : L2.St) (H : Hp) (A : List Addr) (ad : Nat → Addr) (Dl : Addr) (ak : AK) (acc : List D) (σk : L2.St) (Q : Hp → Prop) (ys : List D),
  Site P N n B W0 sc NN true → B.xe = (fun _ _ => False) → (∀ x, fnb x = true → B.fn x = true) → chkC N NN own true ci r fnb sc ifs rest ck = true → gens.drop (d + 1) = rest → ak.fits ck = true →
  Frm N B.K own env σ H A ad → Dl ∈ A → (∀ i ∈ own, ad i ≠ Dl) → AccOk N B.K H A Dl ak acc → σk.length = σ.length → (∀ (j : Nat) (v : V), σk[j]? = some (some v) → σ[j]? = some (some v) ∧ ∃ d, env[j]? = some d ∧ d ≠ .un) →
  evE (P.ctx n) none r env = .ok (.lst ys) → Puts ak (acc ++ ys) → acc.length + ys.length ≤ maxLen →
  (∀ H', SameBut Dl H H' → AccOk N B.K H' A Dl ak (acc ++ ys) → Q H') → wR B ck gens scope pos d ifs Dl σ H σk Q
theorem drop_none {gens : List Comprehension} {d : Nat} (h : gens.drop (d + 1) = []) : gens[d + 1]? = none := by
  rw [List.drop_eq_nil_iff] at h
  exact List.getElem?_eq_none_iff.mpr h
theorem drop_some {gens r : List Comprehension} {g : Comprehension} {d : Nat} (h : gens.drop (d + 1) = g :: r) : gens[d + 1]? = some g ∧ gens.drop (d + 1 + 1) = r := by
  have e : (gens.drop (d + 1))[0]? = some g := by rw [h]; rfl
  rw [List.getElem?_drop] at e
  refine ⟨e, ?_⟩
  have e2 : (gens.drop (d + 1)).drop 1 = r := by rw [h]; rfl
  rw [List.drop_drop] at e2
  exact e2
theorem cur0 {X : Cx} {A : List Addr} {σ : L2.St} {H : Hp} : CurOk N X A σ H true none ci := ⟨fun _ => rfl, fun _ h => by cases h⟩
theorem wE0 {B : Cx} {e : Expr} {σ : L2.St} {H : Hp} {Q : VK} (hx : B.xe = (fun _ _ => False)) (h : wE B e σ H Q) : ∀ pins s, Inv B pins σ H s → wpAny (model B.prog B.w) B.A (eval e B.env) (EP B pins σ Q) (fun _ _ => False) s := fun pins s I => by
  have q := h pins s I
  rw [hx] at q
  exact q
theorem sc_one {a : RE} (ha : SE P N n NN own true ci a) : SC P N n NN own ci (.one a) := fun B sc fnb ck gens scope pos d ifs rest env σ H A ad Dl ak acc σk Q ys S hx hfn hk hr hak F hD na hl hlen hkn hev hp hz q => by
  rw [chkC_one] at hk
  cases ck with
  | dic _ _ => cases hk
  | lst elt =>
  obtain ⟨k0, hk⟩ := and_t hk
  obtain ⟨k1, hk⟩ := and_t hk
  obtain ⟨k2, k3⟩ := and_t hk
  have hlk : leak own a = false := by simpa using k2
  cases ak with
  | t => cases hak
  | k => cases hak
  | l =>
  cases ifs with
  | cons _ _ => cases k0
  | nil =>
    cases rest with
    | cons _ _ => cases k1
    | nil =>
      intro pins s I
      refine .emit (drop_none hr) (pd_test_nil ?_)
      rw [if_pos rfl]
      rw [evE_one] at hev
      cases he : evE (P.ctx n) none a env with
      | no => rw [he] at hev; cases hev
      | ex x => rw [he] at hev; cases hev
      | ok x =>
        rw [he] at hev
        cases hev
        obtain ⟨acv, hl, racc⟩ := hl
        have go : wE B elt σ H fun v H1 => ∃ acc', H1 Dl = some (.lst acc') ∧ acc'.length < sizeLine ∧ Q (upd H1 Dl (.lst (acc' ++ [v]))) := by
          refine ha B W0 sc elt env σ H A ad none _ S k3 F cur0 ?_
          rw [he]
          intro v H1 p
          have hl1 := p.same _ _ hl
          refine ⟨acv, hl1, ?_, q _ ((SameBut.of p.same).trans .upd) ⟨_, upd_same, ?_⟩⟩
          · have : acc.length + 1 ≤ maxLen := hz
            rw [racc.length]
            exact Nat.lt_of_lt_of_le this (line_ok (Nat.le_refl _))
          · have rp := p.rp
            rw [hlk] at rp
            rw [sub_upd hD]
            exact Rps.append (racc.mono (sub_mono p.same)) (.cons rp .nil)
        show PdPut B.prog B.w B.A (.lst elt) (.ref Dl) B.env _ s
        refine pd_fm (wE0 hx go pins s I) fun v s4 ⟨y, H4, I4, r4, acc', hD4, hz4, qq⟩ => ?_
        refine app_ok I4 hD4 hz4 r4 fun s5 I5 => ⟨_, I5.weak hlen fun j v e => (hkn j v e).1, qq⟩
theorem puts_one {κ : Type} [DecidableEq κ] {f : D → Option κ} {acc : List D} {x y : D} {r0 r : List κ × List D} (h0 : putsK f acc [] [] = some r0) (h : putsK f (acc ++ [.tup [x, y]]) [] [] = some r) : ∃ k, f x = some k ∧ r = PD.putK r0.1 r0.2 k y := by
  rw [putsK_append h0] at h
  unfold putsK at h
  cases q : f x with
  | none => simp only [q] at h; cases h
  | some k =>
    simp only [q] at h
    refine ⟨k, rfl, ?_⟩
    unfold putsK at h
    cases h
    rfl
theorem sc_kv {a b : RE} (ha : SE P N n NN own true ci a) (hb : SE P N n NN own true ci b) : SC P N n NN own ci (.kv a b) := fun B sc fnb ck gens scope pos d ifs rest env σ H A ad Dl ak acc σk Q ys S hx hfn hk hr hak F hD na hl hlen hkn hev hp hz q => by
  rw [chkC_kv] at hk
  cases ck with
  | lst _ => cases hk
  | dic ek ev =>
  obtain ⟨k0, hk⟩ := and_t hk
  obtain ⟨k1, hk⟩ := and_t hk
  obtain ⟨k2, hk⟩ := and_t hk
  obtain ⟨k3, k4⟩ := and_t hk
  have hlk : leak own b = false := by simpa using k2
  cases ifs with
  | cons _ _ => cases k0
  | nil =>
    cases rest with
    | cons _ _ => cases k1
    | nil =>
      intro pins s I
      refine .emit (drop_none hr) (pd_test_nil ?_)
      rw [if_pos rfl]
      rw [evE_kv] at hev
      cases he : evE (P.ctx n) none a env with
      | no => rw [he] at hev; cases hev
      | ex x => rw [he] at hev; cases hev
      | ok x =>
        rw [he] at hev
        have hev : ((evE (P.ctx n) none b env).bd fun y => R.ok (D.lst [.tup [x, y]])) = .ok (.lst ys) := hev
        cases he2 : evE (P.ctx n) none b env with
        | no => rw [he2] at hev; cases hev
        | ex x => rw [he2] at hev; cases hev
        | ok y =>
          rw [he2] at hev
          cases hev
          refine ⟨Dl, rfl, ?_⟩
          have hz1 : acc.length + 1 ≤ maxLen := hz
          have h2 := line_ok (Nat.le_refl maxLen)
          have go : wE B ek σ H fun kv H1 => Rp N B.K H1 kv x ∧ Same H H1 := by
            refine ha B W0 sc ek env σ H A ad none _ S k3 F cur0 ?_
            rw [he]
            exact fun v H1 p => ⟨p.rp0, p.same⟩
          refine pd_fm (wE0 hx go pins s I) fun kv s4 ⟨kz, H4, I4, r4, rk, s04⟩ => ?_
          have go2 : wE B ev σ H4 fun v H1 => Rp N B.K (sub H1 A) v y ∧ Same H4 H1 := by
            refine hb B W0 sc ev env σ H4 A ad none _ S k4 (F.mono s04) cur0 ?_
            rw [he2]
            exact fun v H1 p => ⟨by have rp := p.rp; rw [hlk] at rp; exact rp, p.same⟩
          refine pd_fm (wE0 hx go2 pins s4 I4) fun vv s5 ⟨vz, H5, I5, r5, rv, s45⟩ => ?_
          have rk5 := rk.mono s45
          have hl5 := hl.mono (s04.trans s45)
          cases ak with
          | l => cases hak
          | t =>
            obtain ⟨kvs, ds, hd5, e5, rr5⟩ := hl5
            obtain ⟨r, hp⟩ := hp
            obtain ⟨k, hk, er⟩ := puts_one e5 hp
            have hlen5 := putsK_len e5
            rw [List.length_map, List.length_nil] at hlen5
            cases x <;> first | cases hk | skip
            rename_i ds0 _
            cases rk5 with
            | tup hb0 rs0 =>
            have e3 := keys_v rs0 hk
            subst e3
            cases r4
            refine d_dictSetT (by have := S.hu; omega) I5 hd5 hb0 (by omega) r5 fun s6 I6 => ⟨_, I6.weak hlen fun j v e => (hkn j v e).1, q _ ((SameBut.of (s04.trans s45)).trans .upd) ⟨_, r.2, upd_same, ?_, ?_⟩⟩
            · rw [hp, putK_fst (ks := kvs.map (·.1)) (vs := ds) (d := y) rfl, er]
            · rw [sub_upd hD, er]
              exact putK_snd rv rr5
          | k =>
            obtain ⟨kvs, ds, hd5, e5, rr5⟩ := hl5
            obtain ⟨r, hp⟩ := hp
            obtain ⟨k, hk, er⟩ := puts_one e5 hp
            have hlen5 := putsK_len e5
            rw [List.length_map, List.length_nil] at hlen5
            have e3 : kz = kV k := by cases rk5 <;> first | (cases hk; rfl) | cases hk
            subst e3
            refine d_dictSet I5 hd5 (by omega) r4 r5 fun s6 I6 => ⟨_, I6.weak hlen fun j v e => (hkn j v e).1, q _ ((SameBut.of (s04.trans s45)).trans .upd) ⟨_, r.2, upd_same, ?_, ?_⟩⟩
            · rw [hp, putK_fst (ks := kvs.map (·.1)) (vs := ds) (d := y) rfl, er]
            · rw [sub_upd hD, er]
              exact putK_snd rv rr5
theorem wT0 {B : Cx} {e : Expr} {σ : L2.St} {H : Hp} {Q : Bool → Hp → Prop} (hx : B.xe = (fun _ _ => False)) (h : wT B e σ H Q) : ∀ pins s, Inv B pins σ H s → wpAny (model B.prog B.w) B.A (isTrue e B.env (eval e B.env)) (TP B pins σ Q) (fun _ _ => False) s := fun pins s I => by
  have q := h pins s I
  rw [hx] at q
  exact q
theorem rest_cons {prog : Program} {w : World} {A : Around} {ck : CKd} {c : Expr} {gens : List Comprehension} {scope : Scope} {pos : Pos} {d : Nat} {ifs : List Expr} {acc : Value} {env : PySem.Env} {Q : Shared → Prop} {s : Shared} (nx : gens[d + 1]? = none ∨ ∃ t1 i1 ifs1, gens[d + 1]? = some ⟨t1, i1, ifs1, 0⟩ ∧ ∀ x, foldedSetIterable i1 env x = pure x)
    (h : wpAny (model prog w) A (isTrue c env (eval c env)) (fun ok s' => if ok = true then PdRest prog w A ck gens scope pos d ifs acc env Q s' else Q s') (fun _ _ => False) s) : PdRest prog w A ck gens scope pos d (c :: ifs) acc env Q s := by
  rcases nx with h1 | ⟨t1, i1, ifs1, h1, hs⟩
  · refine .emit h1 (pd_test_cons (pd_fm h fun ok s' h' => ?_))
    cases ok with
    | true =>
      rw [if_pos rfl] at h' ⊢
      cases h' with
      | emit _ h2 => exact h2
      | inner h2 _ _ => rw [h1] at h2; cases h2
    | false => exact h'
  · refine .inner h1 hs (pd_test_cons (pd_fm h fun ok s' h' => ?_))
    cases ok with
    | true =>
      rw [if_pos rfl] at h' ⊢
      cases h' with
      | emit h2 _ => rw [h1] at h2; cases h2
      | inner h2 _ h3 => rw [h1] at h2; cases h2; exact h3
    | false => exact h'
/-- the next clause, told by the text -/
theorem chkC_next {r : RE} {fnb : Str → Bool} {sc : Scope} {ck : CKd} {gens : List Comprehension} {d : Nat} {env : PySem.Env} : ∀ {ifs : List Expr} {rest : List Comprehension}, chkC N NN own true ci r fnb sc ifs rest ck = true → gens.drop (d + 1) = rest → gens[d + 1]? = none ∨ ∃ t1 i1 ifs1, gens[d + 1]? = some ⟨t1, i1, ifs1, 0⟩ ∧ ∀ x, foldedSetIterable i1 env x = pure x := by
  induction r with
  | ifc c b _ ih =>
    intro ifs rest h e
    rw [chkC_ifc] at h
    split at h
    · obtain ⟨_, h⟩ := and_t h
      exact ih h e
    · cases h
  | one a =>
    intro ifs rest h e
    rw [chkC_one] at h
    split at h
    · obtain ⟨_, h⟩ := and_t h
      obtain ⟨h, _⟩ := and_t h
      cases rest with
      | nil => exact .inl (drop_none e)
      | cons _ _ => cases h
    · cases h
  | kv a b =>
    intro ifs rest h e
    rw [chkC_kv] at h
    split at h
    · obtain ⟨_, h⟩ := and_t h
      obtain ⟨h, _⟩ := and_t h
      cases rest with
      | nil => exact .inl (drop_none e)
      | cons _ _ => cases h
    · cases h
  | forc t it b _ _ =>
    intro ifs rest h e
    rw [chkC_forc] at h
    split at h
    · obtain ⟨h1, h⟩ := and_t h
      obtain ⟨h2, _⟩ := and_t h
      have h1 := of_decide_eq_true h1
      subst h1
      exact .inr ⟨_, _, _, (drop_some e).1, fun x => ord_fold h2 _ x⟩
    · cases h
  | _ => intro ifs rest h; cases h
theorem sc_ifc {c b : RE} (hc : STt P N n NN own true ci c) (hb : SC P N n NN own ci b) : SC P N n NN own ci (.ifc c b) := fun B sc fnb ck gens scope pos d ifs rest env σ H A ad Dl ak acc σk Q ys S hx hfn hk hr hak F hD na hl hlen hkn hev hp hz q => by
  rw [chkC_ifc] at hk
  split at hk
  case h_2 => cases hk
  case h_1 e ifs =>
    obtain ⟨k1, k2⟩ := and_t hk
    rw [evE_ifc] at hev
    intro pins s I
    refine rest_cons (chkC_next k2 hr) ?_
    have go : wT B e σ H fun ok H1 => Same H H1 ∧ (if ok = true then evE (P.ctx n) none b env = .ok (.lst ys) else ys = []) := by
      refine hc B W0 sc e env σ H A ad none _ S k1 F cur0 ?_
      cases he : evE (P.ctx n) none c env with
      | no => rw [he] at hev; cases hev
      | ex x => rw [he] at hev; cases hev
      | ok x =>
        rw [he] at hev
        have hev : ((truth x).bd fun t => if t then evE (P.ctx n) none b env else .ok (.lst [])) = .ok (.lst ys) := hev
        cases ht : truth x with
        | no => rw [ht] at hev; cases hev
        | ex x => rw [ht] at hev; cases hev
        | ok t =>
          rw [ht] at hev
          refine wpt_of ht fun H1 s1 => ⟨s1, ?_⟩
          cases t with
          | true => exact hev
          | false => cases hev; rfl
    refine pd_fm (wT0 hx go pins s I) fun ok s1 ⟨H1, I1, s1', q1⟩ => ?_
    cases ok with
    | true =>
      rw [if_pos rfl] at q1 ⊢
      exact hb B sc fnb ck gens scope pos d ifs rest env σ H1 A ad Dl ak acc σk Q ys S hx hfn k2 hr hak (F.mono s1') hD na (hl.mono s1') hlen hkn q1 hp hz (fun H' a b => q H' ((SameBut.of s1').trans a) b) pins s1 I1
    | false =>
      rw [if_neg (by decide)] at q1 ⊢
      subst q1
      exact ⟨H1, I1.weak hlen fun j v e => (hkn j v e).1, q H1 (.of s1') (by rw [List.append_nil]; exact hl.mono s1')⟩
end
end PD
end

section
set_option Elab.async false
set_option linter.all false
set_option maxRecDepth 100000
/-! PD16: a clause's loop, the whole comprehension. -/
namespace PD
open PySem PySem.Spec PyProof.Rows L2
section
variable {P : Prog} {N : Info} {n : Nat} {NN : List Str} {own : List Nat} {cm : Bool} {ci : Nat}
theorem coll_cons {f : D → R D} {x : D} {xs ys : List D} (h : coll f (x :: xs) = .ok ys) : ∃ a b, f x = .ok (.lst a) ∧ coll f xs = .ok b ∧ ys = a ++ b := by
  unfold coll at h
  cases q : f x with
  | no => rw [q] at h; cases h
  | ex _ => rw [q] at h; cases h
  | ok y =>
    rw [q] at h
    cases y <;> first | cases h | skip
    rename_i a
    have h : ((coll f xs).bd fun b => .ok (a ++ b)) = .ok ys := h
    cases q2 : coll f xs with
    | no => rw [q2] at h; cases h
    | ex _ => rw [q2] at h; cases h
    | ok b => rw [q2] at h; cases h; exact ⟨a, b, rfl, rfl, rfl⟩
/-- what an iterator gives where all but the new list stays -/
def YieldsD (N : Info) (K : PySem.W.Frag) (J : It) (H : Hp) (A : List Addr) (Dl : Addr) (ds : List D) : Prop :=
  ∀ H', SameBut Dl H H' → AOk H' A → ∀ i, (∀ d, ds[i]? = some d → J.go i H' ∧ ∀ x H2, J.yld i H' x H2 → Same H' H2 ∧ Rp N K (sub H2 A) x d) ∧ (ds.length ≤ i → J.stop i H')
theorem clause_loop {B : Cx} {sc : Scope} {fnb : Str → Bool} {ck : CKd} {tg iter : Expr} {gens : List Comprehension} {scope : Scope} {pos : Pos} {d : Nat} {ifs : List Expr} {rest : List Comprehension} {env : Env} {σ : L2.St} {H : Hp} {A : List Addr} {ad : Nat → Addr} {Dl : Addr} {ak : AK} {acc : List D} {t : RT} {b : RE} {xs ys : List D} {J : It} {fp : List Addr} {it : Addr} {tn : Nat → Heap → Prop} {pins : List (Addr × Obj)} {s : Shared} {Rr : Result → Shared → Prop}
    (hb : SC P N n NN own ci b) (hcl : B.calm = true) (S : Site P N n B W0 sc NN true) (hx : B.xe = (fun _ _ => False)) (hfn : ∀ x, fnb x = true → B.fn x = true) (hg : gens[d]? = some ⟨tg, iter, ifs, 0⟩) (hr : gens.drop (d + 1) = rest)
    (kt : chkT sc NN own fnb t (.inl tg) = true) (kb : chkC N NN own true ci b fnb sc ifs rest ck = true) (hak : ak.fits ck = true)
    (T : Turn B.prog B.w B.K tg J fp it tn) (stat : ∀ {σ' : L2.St} {H' : Hp} {s' : Shared}, Inv B pins σ' H' s' → (∀ b ∈ fp, H' b = none) → ∀ b ∈ fp, FpOk B pins H' b)
    (F : Frm N B.K own env σ H A ad) (hm : ∀ (j : Nat) (v : V), σ[j]? = some (some v) → ∃ d, env[j]? = some d ∧ d ≠ .un) (hD : Dl ∈ A) (na : ∀ i ∈ own, ad i ≠ Dl) (hl : AccOk N B.K H A Dl ak acc) (Y : YieldsD N B.K J H A Dl xs)
    (hc : coll (fun x => match asgU t x env with
      | some env' => evE (P.ctx n) none b env'
      | none => .no) xs = .ok ys) (hp : Puts ak (acc ++ ys)) (hz : acc.length + ys.length ≤ maxLen)
    (I : Inv B pins σ H s) (st : tn 0 s.heap) (hf : ∀ b ∈ fp, H b = none)
    (fin : ∀ s' H', Inv B pins σ H' s' → (∀ b ∈ fp, H' b = none) → SameBut Dl H H' → AccOk N B.K H' A Dl ak (acc ++ ys) → Rr (.ok .next) s') :
    codeAny (model B.prog B.w) B.A (.compLoop (ck.ex gens scope pos) d (.ref it) (.ref Dl) B.env) Rr s := by
  generalize hff : (fun x => match asgU t x env with
      | some env' => evE (P.ctx n) none b env'
      | none => R.no) = f at hc
  have hff : ∀ x, f x = match asgU t x env with
      | some env' => evE (P.ctx n) none b env'
      | none => R.no := fun x => by rw [← hff]
  refine pd_loop hg (by
    rcases chkC_next (env := B.env) kb hr with h | ⟨t1, i1, ifs1, h, _⟩
    · exact .inl h
    · exact .inr ⟨t1, i1, ifs1, h⟩) (fun m s' => ∃ i H' ys1 ys2, m = xs.length - i ∧ i ≤ xs.length ∧ coll f (xs.drop i) = .ok ys2 ∧ ys = ys1 ++ ys2 ∧ Inv B pins σ H' s' ∧ tn i s'.heap ∧ (∀ b ∈ fp, H' b = none) ∧ SameBut Dl H H' ∧ AccOk N B.K H' A Dl ak (acc ++ ys1)) ?_ xs.length ⟨0, H, [], ys, rfl, Nat.zero_le _, hc, rfl, I, st, hf, .refl, by rw [List.append_nil]; exact hl⟩
  rintro m s5 ⟨i, H5, ys1, ys2, rfl, hi, hc5, rfl, I5, st5, f5, sb5, hl5⟩
  have F5 : Frm N B.K own env σ H5 A ad := F.but sb5 hD na hl.bx hl5.bx
  by_cases hlt : i < xs.length
  · obtain ⟨x, hxi⟩ : ∃ x, xs[i]? = some x := ⟨xs[i], List.getElem?_eq_getElem hlt⟩
    have hdr : xs.drop i = x :: xs.drop (i + 1) := by
      rw [List.drop_eq_getElem_cons hlt]
      rw [List.getElem?_eq_getElem hlt] at hxi
      cases hxi
      rfl
    rw [hdr] at hc5
    obtain ⟨a, c, e1, e2, rfl⟩ := coll_cons hc5
    rw [hff] at e1
    obtain ⟨go, yl⟩ := ((Y H5 sb5 F5.aok i).1 x hxi)
    refine pd_fm (T.item B rfl rfl rfl hcl i pins s5 σ H5 (fun _ _ => False) I5 (stat I5 f5) st5 go) fun r s6 ⟨u, hu, h6⟩ => ?_
    subst hu
    refine pd_fm h6 fun _ s7 ⟨v, H7, I7, r7, y7, st7, n7⟩ => ?_
    obtain ⟨s57, rp7⟩ := yl v H7 y7
    have F7 : Frm N B.K own env σ H7 A ad := F5.mono s57
    cases hu : asgU t x env with
    | none => rw [hu] at e1; cases e1
    | some env' =>
      rw [hu] at e1
      obtain ⟨g1, g2⟩ := asgU_T hu
      have gs := asgU_slots hu
      have I7' := I7.pinned (stat I7 n7) (T.obj _ _ st7)
      have asg := (sg_asg (n := n) (cm := true) S hcl hfn t).1 kt F7 rp7 g1 (Q := fun σ8 H8 => H8 = H7 ∧ Frm N B.K own env' σ8 H7 A ad ∧ ∀ j, j ∉ t.slots → σ8[j]? = σ[j]?) fun σ8 F8 k8 => ⟨rfl, F8, k8⟩
      have asg := asg _ s7 u I7' r7
      rw [hx] at asg
      refine pd_fm asg fun _ s8 ⟨σ8, H8, I8, eH, F8, k8⟩ => ?_
      subst eH
      have hl8 := hl5.mono s57
      have hlen : σ.length = σ8.length := by rw [F7.len, F8.len, asgT_len g1]
      refine rest_mono (hb B sc fnb ck gens scope pos d ifs rest env' σ8 H8 A ad Dl ak (acc ++ ys1) σ (fun H' => SameBut Dl H8 H' ∧ AccOk N B.K H' A Dl ak (acc ++ (ys1 ++ a))) a S hx hfn kb hr hak F8 hD na hl8 hlen (fun j w e => ?_) e1 ?_ ?_ (fun H' q1 q2 => ⟨q1, by rw [← List.append_assoc]; exact q2⟩) _ s8 I8) fun s9 ⟨H9, I9, q1, q2⟩ => ?_
      · obtain ⟨dd, q1, q2⟩ := hm j w e
        have nj : j ∉ t.slots := fun z => by rw [gs j z] at q1; cases q1; exact q2 rfl
        exact ⟨by rw [k8 j nj]; exact e, dd, g2 j dd q1 q2, q2⟩
      · rw [← List.append_assoc, ← List.append_assoc] at hp
        exact hp.pre
      · rw [List.length_append] at hz ⊢
        rw [List.length_append] at hz
        omega
      · have pin' : ∀ b ∈ fp, ∀ o, s7.heap.get? b = some o → s9.heap.get? b = some o ∧ H9 b = none := fun b hb o e =>
          let z := I9.pin (b, o) (List.mem_append_right _ (List.mem_append_right _ (mem_pinsAt hb e)))
          ⟨z.1, z.2.1⟩
        refine ⟨xs.length - (i + 1), by omega, i + 1, H9, ys1 ++ a, c, rfl, hlt, e2, (List.append_assoc _ _ _).symm, I9.unpinned, T.keep _ _ _ st7 fun b hb o e => (pin' b hb o e).1, fun b hb => ?_, (sb5.trans (.of s57)).trans q1, q2⟩
        obtain ⟨o, e, _⟩ := T.obj _ _ st7 b hb
        exact (pin' b hb o e).2
  · have ei : i = xs.length := by omega
    subst ei
    rw [List.drop_length] at hc5
    cases hc5
    rw [List.append_nil] at fin
    refine pd_fm (T.done B rfl rfl rfl hcl _ pins s5 σ H5 (fun _ _ => False) I5 (stat I5 f5) st5 ((Y H5 sb5 F5.aok _).2 (Nat.le_refl _))) fun r s6 ⟨hr', I6⟩ => ?_
    subst hr'
    exact fin s6 H5 I6 f5 sb5 hl5
theorem wI0 {B : Cx} {tg e : Expr} {σ : L2.St} {H : Hp} {R : It → Hp → Prop} (hx : B.xe = (fun _ _ => False)) (h : wI B tg e σ H R) : ∀ pins s, Inv B pins σ H s → wpAny (model B.prog B.w) B.A (eval e B.env) (fun v s1 => wpAny (model B.prog B.w) B.A (pyIter v) (PIE B pins σ tg R) (fun _ _ => False) s1) (fun _ _ => False) s := fun pins s I => by
  have q := h pins s I
  rw [hx] at q
  exact q
variable (P N n NN own cm ci) in
/-- as SI, where enumerate's target is a tuple -/
def SIt (r : RE) : Prop := ∀ (X : Cx) (W : WX) (sc : Scope) (tg e : Expr) (env : Env) (σ : L2.St) (H : Hp) (A : List Addr) (ad : Nat → Addr) (cur : Option Exn) (R : It → Hp → Prop),
  Site P N n X W sc NN cm → chkE N NN own cm ci r sc true e = true → walkT r tg = true → Frm N X.K own env σ H A ad → CurOk N X A σ H cm cur ci → WPI N X.K W own r σ H A (evE (P.ctx n) cur r env) R → wI X tg e σ H R
theorem sit_of {r : RE} (h : SI P N n NN own cm ci r) : SIt P N n NN own cm ci r := fun X W sc tg e env σ H A ad cur R S hk _ F C q => h X W sc tg e env σ H A ad cur R S hk F C q
theorem sit_enum {a : RE} (ha : SE P N n NN own cm ci a) : SIt P N n NN own cm ci (.enum a) := fun X W sc tg e env σ H A ad cur R S hk hw F C q => si_enum ha X W sc tg e env σ H A ad cur R (by
  cases tg <;> first | exact ⟨_, _, _, rfl⟩ | cases hw) S hk F C q
theorem sc_forc {t : RT} {it b : RE} (hi : SIt P N n NN own true ci it) (hb : SC P N n NN own ci b) : SC P N n NN own ci (.forc t it b) := fun B sc fnb ck gens scope pos d ifs rest env σ H A ad Dl ak acc σk Q ys S hx hfn hk hr hak F hD na hl hlen hkn hev hp hz q => by
  rw [chkC_forc] at hk
  split at hk
  case h_2 => cases hk
  case h_1 tg iter ifs1 ia gr =>
    obtain ⟨k0, hk⟩ := and_t hk
    obtain ⟨k1, hk⟩ := and_t hk
    obtain ⟨k2, hk⟩ := and_t hk
    obtain ⟨k3, hk⟩ := and_t hk
    obtain ⟨k4, hk⟩ := and_t hk
    obtain ⟨k5, k6⟩ := and_t hk
    have hlk : leak own it = false := by simpa using k2
    have k0 := of_decide_eq_true k0
    subst k0
    obtain ⟨g1, g2⟩ := drop_some hr
    rw [evE_forc] at hev
    intro pins s I
    refine .inner g1 (fun x => ord_fold k1 _ x) (pd_test_nil ?_)
    rw [if_pos rfl]
    have go : wI B tg iter σ H fun J H1 => ∃ xs, Same H H1 ∧ YieldsA N B.K J H1 A xs ∧ coll (fun x => match asgU t x env with
        | some env' => evE (P.ctx n) none b env'
        | none => .no) xs = .ok ys := by
      refine hi B W0 sc tg iter env σ H A ad none _ S k3 k4 F cur0 ?_
      cases he : evE (P.ctx n) none it env with
      | no => rw [he] at hev; cases hev
      | ex x => rw [he] at hev; cases hev
      | ok x =>
        rw [he] at hev
        have hev : ((walkOf x).bd fun xs => (coll (fun x => match asgU t x env with
          | some env' => evE (P.ctx n) none b env'
          | none => .no) xs).bd fun ys => R.ok (D.lst ys)) = .ok (.lst ys) := hev
        cases hi : walkOf x with
        | no => rw [hi] at hev; cases hev
        | ex x => rw [hi] at hev; cases hev
        | ok xs =>
          rw [hi] at hev
          have hev : ((coll (fun x => match asgU t x env with
            | some env' => evE (P.ctx n) none b env'
            | none => .no) xs).bd fun ys => R.ok (D.lst ys)) = .ok (.lst ys) := hev
          cases hcc : coll (fun x => match asgU t x env with
            | some env' => evE (P.ctx n) none b env'
            | none => .no) xs with
          | no => rw [hcc] at hev; cases hev
          | ex x => rw [hcc] at hev; cases hev
          | ok zs =>
            rw [hcc] at hev
            cases hev
            show match walkOf x with
              | .ok xs => _
              | _ => False
            rw [hi]
            intro J H1 s1 _ y2
            exact ⟨xs, s1, y2 hlk, hcc⟩
    refine pd_fm (wI0 hx go pins s I) fun xv s4 h4 => pd_fm h4 fun itv s5 h5 => ?_
    obtain ⟨it1, fp1, tn1, J1, H5, e1, I5, T1, st5, f5, xs, s05, y5, hc5⟩ := h5
    subst e1
    have F5 : Frm N B.K own env (PD.mask env σ) H5 A ad := (F.mono s05).mask
    have loop : codeAny (model B.prog B.w) B.A (.compLoop (ck.ex gens scope pos) (d + 1) (.ref it1) (.ref Dl) B.env) (fun r s' => match r with
        | .ok _ => ∃ H', Inv B pins σk H' s' ∧ Q H'
        | .error _ => False) s5 := by
      refine clause_loop hb (S.calm rfl) S hx hfn g1 g2 k5 k6 hak T1 (fun {σ' H' s'} I' hn b hb => ⟨hn b hb, (f5 b hb).2⟩) F5 (fun j v e => (mask_some e).2) hD na (hl.mono s05) (fun H' sb ca i => y5 H' A (sb.sub hD) (fun a ha => .inl ha) ca i) hc5 hp hz (I5.weak mask_len fun j v e => (mask_some e).1) st5 (fun b hb => (f5 b hb).1) fun s6 H6 I6 f6 sb6 hl6 => ?_
      exact ⟨H6, I6.weak (hlen.trans mask_len.symm) (fun j v e => by
        obtain ⟨e1, dd, e2, e3⟩ := hkn j v e
        exact mask_at e1 e2 e3), q H6 ((SameBut.of s05).trans sb6) hl6⟩
    exact pd_start g1 loop (T1.self B.A 0 _ _ _ st5 loop)

/-! ### the whole -/
theorem wipeE_len {env : Env} : ∀ {is : List Nat}, (wipeE env is).length = env.length
  | [] => rfl
  | i :: is => by unfold wipeE; rw [List.length_set, wipeE_len]
theorem wipeE_some {env : Env} {j : Nat} {d : D} (nu : d ≠ .un) : ∀ {is : List Nat}, (wipeE env is)[j]? = some d → env[j]? = some d ∧ j ∉ is
  | [], h => ⟨h, by simp⟩
  | i :: is, h => by
    unfold wipeE at h
    by_cases hi : i = j
    · subst hi
      by_cases hl : i < (wipeE env is).length
      · rw [List.getElem?_set_self hl] at h
        cases h
        exact absurd rfl nu
      · rw [List.getElem?_eq_none (by rw [List.length_set]; omega)] at h
        cases h
    · rw [List.getElem?_set_ne hi] at h
      obtain ⟨h1, h2⟩ := wipeE_some nu h
      exact ⟨h1, by simp [h2, Ne.symm hi]⟩
theorem wipeE_out {env : Env} {j : Nat} : ∀ {is : List Nat}, j ∉ is → (wipeE env is)[j]? = env[j]?
  | [], _ => rfl
  | i :: is, h => by
    unfold wipeE
    have h1 : i ≠ j := fun e => h (by rw [e]; exact List.mem_cons_self)
    rw [List.getElem?_set_ne h1]
    exact wipeE_out fun m => h (List.mem_cons_of_mem _ m)
theorem sub_new {H : Hp} {A : List Addr} {D : Addr} {o : HO} (hD : H D = none) : Same (sub H A) (sub (upd H D o) (D :: A)) := fun b u h => by
  obtain ⟨n, h⟩ := sub_some h
  have ne : b ≠ D := ne_of_none h hD
  rw [sub_out (by simp [ne, n]), upd_ne ne]
  exact h
theorem frm_block {K : PySem.W.Frag} {env : Env} {σ : L2.St} {H : Hp} {A : List Addr} {ad : Nat → Addr} {D : Addr} {cown : List Nat} (F : Frm N K own env σ H A ad) (hD : H D = none) {o0 : HO} (hbx : Bx (upd H D o0) D) (hc : ∀ i ∈ cown, i ∉ own) : Frm N K own (wipeE env cown) (wipe σ cown) (upd H D o0) (D :: A) ad where
  len := by rw [wipe_length, wipeE_len]; exact F.len
  aok := fun b hb => by
    rcases List.mem_cons.mp hb with rfl | hb
    · rcases hbx with h | h | h
      · exact .inl h
      · exact .inr (.inl h)
      · exact .inr (.inr (.inl h))
    · have c := F.aok.mono (same_upd (o := o0) hD) b hb
      rcases c with ⟨_, q⟩ | ⟨_, q⟩ | ⟨_, q⟩ | ⟨_, _, _, q, hx⟩ | ⟨_, q, hx⟩
      · exact .inl ⟨_, q⟩
      · exact .inr (.inl ⟨_, q⟩)
      · exact .inr (.inr (.inl ⟨_, q⟩))
      · exact .inr (.inr (.inr (.inl ⟨_, _, _, q, List.mem_cons_of_mem _ hx.1, hx.2⟩)))
      · exact .inr (.inr (.inr (.inr ⟨_, q, List.mem_cons_of_mem _ hx.1, hx.2⟩)))
  inA := fun i hi => List.mem_cons_of_mem _ (F.inA i hi)
  inj := F.inj
  val := fun i d h nu ni => by
    obtain ⟨h1, h2⟩ := wipeE_some nu h
    obtain ⟨v, q, r⟩ := F.val i d h1 nu ni
    exact ⟨v, by rw [wipe_out h2]; exact q, r.mono (sub_new hD)⟩
  ownv := fun i hi => by
    obtain ⟨d, q, r, o⟩ := F.ownv i hi
    have ni : i ∉ cown := fun z => hc i z hi
    refine ⟨d, by rw [wipeE_out ni]; exact q, by rw [wipe_out ni]; exact r, ?_⟩
    cases d with
    | lst ds => obtain ⟨vs, h, r⟩ := o; exact ⟨vs, same_upd hD _ _ h, r.mono (sub_new hD)⟩
    | dic ks ds => obtain ⟨kvs, h, n, r⟩ := o; exact ⟨kvs, same_upd hD _ _ h, n, r.mono (sub_new hD)⟩
    | ins c ds => obtain ⟨dx, fs, hc, m, h, n, r⟩ := o; exact ⟨dx, fs, hc, List.mem_cons_of_mem _ m, same_upd hD _ _ h, n, r.mono (sub_new hD)⟩
    | _ => exact o.elim
theorem relS_eq {sc scope : Scope} : blkSc sc scope = relS scope sc := rfl
/-- the site of a block -/
theorem Site.blk {X : Cx} {W : WX} {sc scope : Scope} {s : Shared} {H : Hp} {C : Addr} {cl : List (Str × Addr)} {fp : List Addr} (S : Site P N n X W sc NN true) : Site P N n (X.blk s H scope (compEnvC scope cl C X.env) fp) W0 (blkSc sc scope) NN true where
  sc := by
    show relS scope X.env.scope = _
    rw [S.sc]
    rfl
  nn := S.nn
  nd := S.nd
  tk := takes0
  hu := S.hu
  calm := S.calm
  room := S.room
  facts := S.facts
  fns := S.fns
  xs := S.xs
theorem comp_cases {G : Ctx} {cur : Option Exn} {cown : List Nat} {t : RT} {it b : RE} {env : Env} {N : Info} {K : PySem.W.Frag} {W : WX} {σ : L2.St} {H : Hp} {A : List Addr} {Q : VK} (h : WPE N K W own (.comp cown t it b) σ H A (evE G cur (.comp cown t it b) env) Q) :
    (∃ x, evE G cur it env = .ex x ∧ ∀ cls dx H', PostX N K H A x cls dx H' → W cls dx σ H') ∨ ∃ sv xs ys, evE G cur it env = .ok sv ∧ walkOf sv = .ok xs ∧ coll (fun x => match asgU t x (wipeE env cown) with
      | some env' => evE G cur b env'
      | none => .no) xs = .ok ys ∧ ys.length ≤ maxLen ∧ ∀ v H', PostE N K H A own (.comp cown t it b) (.lst ys) v H' → Q v H' := by
  rw [evE_comp] at h
  cases he : evE G cur it env with
  | no => rw [he] at h; exact h.elim
  | ex x => rw [he] at h; exact .inl ⟨x, rfl, h⟩
  | ok sv =>
    rw [he] at h
    right
    have h : WPE N K W own (.comp cown t it b) σ H A ((walkOf sv).bd fun xs => match coll (fun x => match asgU t x (wipeE env cown) with
      | some env' => evE G cur b env'
      | none => .no) xs with
      | .ok ys => if ys.length ≤ maxLen then .ok (.lst ys) else .no
      | _ => .no) Q := h
    cases hi : walkOf sv with
    | no => rw [hi] at h; exact h.elim
    | ex x =>
      exfalso
      cases sv <;> cases hi
    | ok xs =>
      rw [hi] at h
      have h : WPE N K W own (.comp cown t it b) σ H A (match coll (fun x => match asgU t x (wipeE env cown) with
        | some env' => evE G cur b env'
        | none => .no) xs with
        | .ok ys => if ys.length ≤ maxLen then .ok (.lst ys) else .no
        | _ => .no) Q := h
      cases hc : coll (fun x => match asgU t x (wipeE env cown) with
        | some env' => evE G cur b env'
        | none => .no) xs with
      | no => rw [hc] at h; exact h.elim
      | ex x => rw [hc] at h; exact h.elim
      | ok ys =>
        rw [hc] at h
        have h : WPE N K W own (.comp cown t it b) σ H A (if ys.length ≤ maxLen then .ok (.lst ys) else .no) Q := h
        split at h
        · rename_i hz
          exact ⟨sv, xs, ys, rfl, hi, hc, hz, h⟩
        · exact h.elim
theorem dcomp_cases {G : Ctx} {cur : Option Exn} {tk : Bool} {cown : List Nat} {t : RT} {it b : RE} {env : Env} {N : Info} {K : PySem.W.Frag} {W : WX} {σ : L2.St} {H : Hp} {A : List Addr} {Q : VK} (h : WPE N K W own (.dcomp tk cown t it b) σ H A (evE G cur (.dcomp tk cown t it b) env) Q) :
    (∃ x, evE G cur it env = .ex x ∧ ∀ cls dx H', PostX N K H A x cls dx H' → W cls dx σ H') ∨ ∃ sv xs ys d, evE G cur it env = .ok sv ∧ walkOf sv = .ok xs ∧ coll (fun x => match asgU t x (wipeE env cown) with
      | some env' => evE G cur b env'
      | none => .no) xs = .ok ys ∧ ys.length ≤ maxLen ∧ (match tk with
        | true => ∃ r, putsK tkOf ys [] [] = some r ∧ d = .dit r.1 r.2
        | false => ∃ r, putsK keyOf ys [] [] = some r ∧ d = .dik r.1 r.2) ∧ ∀ v H', PostE N K H A own (.dcomp tk cown t it b) d v H' → Q v H' := by
  rw [evE_dcomp] at h
  cases he : evE G cur it env with
  | no => rw [he] at h; exact h.elim
  | ex x => rw [he] at h; exact .inl ⟨x, rfl, h⟩
  | ok sv =>
    rw [he] at h
    right
    have h : WPE N K W own (.dcomp tk cown t it b) σ H A ((walkOf sv).bd fun xs => dictOf tk (coll (fun x => match asgU t x (wipeE env cown) with
      | some env' => evE G cur b env'
      | none => .no) xs)) Q := h
    cases hi : walkOf sv with
    | no => rw [hi] at h; exact h.elim
    | ex x =>
      exfalso
      cases sv <;> cases hi
    | ok xs =>
      rw [hi] at h
      have h : WPE N K W own (.dcomp tk cown t it b) σ H A (dictOf tk (coll (fun x => match asgU t x (wipeE env cown) with
        | some env' => evE G cur b env'
        | none => .no) xs)) Q := h
      cases hc : coll (fun x => match asgU t x (wipeE env cown) with
        | some env' => evE G cur b env'
        | none => .no) xs with
      | no => rw [hc] at h; exact h.elim
      | ex x => rw [hc] at h; exact h.elim
      | ok ys =>
        rw [hc] at h
        unfold dictOf at h
        dsimp only at h
        by_cases hz : ys.length ≤ maxLen
        · rw [if_pos hz] at h
          cases tk with
          | true =>
            dsimp only at h
            cases hp : putsK tkOf ys [] [] with
            | none => rw [hp] at h; exact h.elim
            | some r => rw [hp] at h; exact ⟨sv, xs, ys, _, rfl, hi, hc, hz, ⟨r, hp, rfl⟩, h⟩
          | false =>
            dsimp only at h
            cases hp : putsK keyOf ys [] [] with
            | none => rw [hp] at h; exact h.elim
            | some r => rw [hp] at h; exact ⟨sv, xs, ys, _, rfl, hi, hc, hz, ⟨r, hp, rfl⟩, h⟩
        · rw [if_neg hz] at h; exact h.elim
theorem comp_mid {pins : List (Addr × Obj)} {X : Cx} {W : WX} {sc : Scope} {env : Env} {σ : L2.St} {H2 : Hp} {A : List Addr} {ad : Nat → Addr} {cown : List Nat} {t : RT} {b : RE} {ck : CKd} {ak : AK} {tg iter : Expr} {ifs : List Expr} {rest : List Comprehension} {scope : Scope} {pos : Pos} {use : Option (Value → Sem Unit)} {Qf : Value → Shared → Prop}
    {s2 : Shared} {J : It} {fp : List Addr} {it1 : Addr} {tn : Nat → Heap → Prop} {xs ys : List D} {o0 : HO} {ob : Obj} {D : Addr}
    (hb : SC P N n NN own ci b) (S : Site P N n X W sc NN true) (F : Frm N X.K own env σ H2 A ad) (ok : BlkOk X.N X.env.scope scope (ownOf NN scope))
    (k1 : ∀ i ∈ cown, i ∉ own) (k6 : chkT (blkSc sc scope) NN own (cellB scope) t (.inl tg) = true) (k8 : cown = (ownOf NN scope).map (·.2)) (k9 : chkC N NN own true ci b (cellB scope) (blkSc sc scope) ifs rest ck = true)
    (T : Turn X.prog X.w X.K tg J fp it1 tn) (st2 : tn 0 s2.heap) (f2 : ∀ b ∈ fp, FpOk X pins H2 b) (y2 : Yields N X.K J H2 A xs)
    (hcol : coll (fun x => match asgU t x (wipeE env cown) with
      | some env' => evE (P.ctx n) none b env'
      | none => .no) xs = .ok ys) (hz : ys.length ≤ maxLen) (hak : ak.fits ck = true) (hp : Puts ak ys)
    (hD : s2.heap.objs.size = D) (hDn : H2 D = none) (hobc : ∀ v, ob.data ≠ .cell v) (I3 : Inv X pins σ (upd H2 D o0) { s2 with heap := s2.heap.push ob }) (ha : AccOk N X.K (upd H2 D o0) (D :: A) D ak [])
    (hpost : ∀ C s' m H', Inv X pins σ H' s' → Same H2 H' → AccOk N X.K H' (D :: A) D ak ys → s'.heap.Ns C m → FpOk X pins H' C → compPost (model X.prog X.w) X.A X.xe use Qf (.ref D) C (.ok .next) s') :
    codeAny (model X.prog X.w) X.A (.compStart (ck.ex (⟨tg, iter, ifs, 0⟩ :: rest) scope pos) 0 (.ref it1) (.ref D) (compEnvC scope (cellsFrom ((s2.heap.push ob).objs.size + 1) scope.names (cloFrom X.env.cells scope.names [])) (s2.heap.push ob).objs.size X.env)) (compPost (model X.prog X.w) X.A X.xe use Qf (.ref D) (s2.heap.push ob).objs.size) { s2 with heap := pushCells ((s2.heap.push ob).push { cls := .type "dict", data := .dict #[] }) scope.names } := by
  have hN : X.N.Nodup := by rw [S.nn]; exact S.nd
  have hc : X.calm = true := S.calm rfl
  generalize hs3 : ({ s2 with heap := s2.heap.push ob } : Shared) = s3 at I3
  have h3 : s3.heap = s2.heap.push ob := by rw [← hs3]
  have hs33 : ({ s2 with heap := pushCells ((s2.heap.push ob).push { cls := .type "dict", data := .dict #[] }) scope.names } : Shared) = { s3 with heap := pushCells (s3.heap.push { cls := .type "dict", data := .dict #[] }) scope.names } := by rw [← hs3]
  rw [hs33, ← h3]
  have sz : ∀ b ∈ fp, b < s2.heap.objs.size := fun b hb => by
    obtain ⟨o, e, _⟩ := T.obj _ _ st2 b hb
    exact Heap.lt_size e
  have f3 : ∀ b ∈ fp, FpOk X pins (upd H2 D o0) b ∧ b < s3.heap.objs.size := fun b hb => by
    have hlt := sz b hb
    refine ⟨⟨?_, (f2 b hb).2⟩, by rw [h3, Heap.size_push]; exact Nat.lt_succ_of_lt hlt⟩
    rw [upd_ne (by rw [← hD]; exact Nat.ne_of_lt hlt)]
    exact (f2 b hb).1
  have st3 : tn 0 s3.heap := T.keep _ _ _ st2 fun b _ o e => by rw [h3]; exact Heap.get?_push_of_some _ e
  have I4 := block_start I3 ok hN f3
  have SB := S.blk (s := s3) (H := upd H2 D o0) (scope := scope) (C := s3.heap.objs.size) (cl := cellsFrom (s3.heap.objs.size + 1) scope.names (cloFrom X.env.cells scope.names [])) (fp := fp)
  have nfp : ∀ b ∈ fp, (upd H2 D o0) b = none := fun b hb => (f3 b hb).1.1
  have F3 : Frm N X.K own (wipeE env cown) (wipe σ cown) (upd H2 D o0) (D :: A) ad := frm_block F hDn ha.bx k1
  have DA : D ∉ A := F.aok.out hDn
  have na : ∀ i ∈ own, ad i ≠ D := fun i hi z => DA (by rw [← z]; exact F.inA i hi)
  rw [← k8] at I4
  generalize hce : compEnvC scope (cellsFrom (s3.heap.objs.size + 1) scope.names (cloFrom X.env.cells scope.names [])) s3.heap.objs.size X.env = ce at I4 SB ⊢
  have cL : ce.locals = s3.heap.objs.size := by subst hce; rfl
  have s23 : Same H2 (upd H2 D o0) := same_upd hDn
  generalize hH3 : upd H2 D o0 = H3 at I3 I4 SB nfp f3 F3 ha s23
  generalize hs4 : ({ s3 with heap := pushCells (s3.heap.push { cls := .type "dict", data := .dict #[] }) scope.names } : Shared) = s4 at I4 ⊢
  have st4 : tn 0 s4.heap := T.keep _ _ _ st3 fun b _ o e => by rw [← hs4]; exact pushCells_keeps _ _ _ _ (Heap.get?_push_of_some _ e)
  have stat : ∀ {σ' : L2.St} {H' : Hp} {s' : Shared}, Inv (X.blk s3 H3 scope ce fp) [] σ' H' s' → (∀ b ∈ fp, H' b = none) → ∀ b ∈ fp, FpOk (X.blk s3 H3 scope ce fp) [] H' b := fun {σ' H' s'} I' hn b hb =>
    ⟨hn b hb, (I'.ok.exf b hb).1, I'.ok.exfs b hb, .inl hb, fun x c e => (I'.ok.exf b hb).2 x c e, fun p hp => absurd (show p ∈ ([] : List (Addr × Obj)) ++ [] from hp) (by simp)⟩
  have loop : codeAny (model X.prog X.w) X.A (.compLoop (ck.ex (⟨tg, iter, ifs, 0⟩ :: rest) scope pos) 0 (.ref it1) (.ref D) ce) (compPost (model X.prog X.w) X.A X.xe use Qf (.ref D) s3.heap.objs.size) s4 := by
    refine clause_loop (B := X.blk s3 H3 scope ce fp) (pins := []) (acc := []) (ak := ak) hb hc SB rfl (fun x q => ?_) (by rfl) (by rfl) k6 k9 hak T stat F3.mask (fun j v e => (mask_some e).2) List.mem_cons_self na ha (fun H' sb ca i => ?_) hcol hp (by rw [List.length_nil]; omega) (I4.weak mask_len fun j v e => (mask_some e).1) st4 nfp fun s6 H6 I6 f6 sb6 hl6 => ?_
    · show (scope.names.lookup x == some .cell) = true
      unfold cellB at q
      split at q
      · rename_i e; rw [e]; rfl
      · cases q
    · refine y2 H' (D :: A) ?_ ?_ ca i
      · exact fun b o e => sb b o (ne_of_none e hDn) (s23 _ _ e)
      · intro a ha
        rcases List.mem_cons.mp ha with rfl | ha
        · exact .inr hDn
        · exact .inl ha
    · have I7 : Inv X pins σ H6 s6 := I3.call' (ch := fp) I6.os I6.base I6.hok I6.bare fun b hb => ⟨(f3 b hb).1.2.2.2.1, (f3 b hb).1.2.1, (f3 b hb).1.2.2.2.2.1, (f3 b hb).1.2.2.2.2.2⟩
      have nC : H6 s3.heap.objs.size = none := by
        have z : H6 ce.locals = none := I6.free
        rw [cL] at z
        exact z
      obtain ⟨m, hn, _⟩ := I6.loc
      have hn : s6.heap.Ns ce.locals m := hn
      rw [cL] at hn
      have s26 : Same H2 H6 := fun b o e => sb6 b o (ne_of_none e hDn) (s23 _ _ e)
      exact hpost s3.heap.objs.size s6 m H6 I7 s26 hl6 hn (I3.fpOk (Nat.le_refl _) nC)
  cases ck with
  | lst elt => exact codeAny_compStart_list loop (T.self X.A 0 _ _ _ st4 loop)
  | dic kx vx => exact codeAny_compStart_dict loop (T.self X.A 0 _ _ _ st4 loop)
theorem comp_core {pins : List (Addr × Obj)} {s : Shared} {X : Cx} {W : WX} {sc : Scope} {env : Env} {σ : L2.St} {H : Hp} {A : List Addr} {ad : Nat → Addr} {cown : List Nat} {t : RT} {it b : RE} {Q : VK} {elt tg iter : Expr} {ifs : List Expr} {rest : List Comprehension} {scope : Scope} {pos pos' : Pos} {use : Option (Value → Sem Unit)} {Qf : Value → Shared → Prop}
    (hi : SIt P N n NN own true ci it) (hb : SC P N n NN own ci b) (S : Site P N n X W sc NN true) (F : Frm N X.K own env σ H A ad) (I : Inv X pins σ H s)
    (k1 : ∀ i ∈ cown, i ∉ own) (k2 : ord iter = true) (k3 : leakI own it = false) (k4 : chkE N NN own true ci it sc true iter = true) (k5 : walkT it tg = true) (k6 : chkT (blkSc sc scope) NN own (cellB scope) t (.inl tg) = true) (k7 : blkC NN sc scope (ownOf NN scope) = true) (k8 : cown = (ownOf NN scope).map (·.2)) (k9 : chkC N NN own true ci b (cellB scope) (blkSc sc scope) ifs rest (.lst elt) = true)
    (hw : WPE N X.K W own (.comp cown t it b) σ H A (evE (P.ctx n) none (.comp cown t it b) env) Q)
    (hRR : ∀ D C s' m H', Inv X pins σ H' s' → Q (.ref D) H' → s'.heap.Ns C m → FpOk X pins H' C → compPost (model X.prog X.w) X.A X.xe use Qf (.ref D) C (.ok .next) s') :
    wpAny (model X.prog X.w) X.A (comprehension (.ListComp elt (⟨tg, iter, ifs, 0⟩ :: rest) scope pos) scope X.env pos' (newList []) false (eval iter X.env) use) Qf X.xe s := by
  have ok : BlkOk X.N X.env.scope scope (ownOf NN scope) := by
    rw [S.nn, S.sc]
    exact blkOk_by k7
  have hfree : ∀ y ∈ scope.names, y.2 = .free → ∃ c, X.env.cells.lookup y.1 = some c := fun y hy e => by
    rcases ok.free y hy e with k | k
    · exact I.ok.has _ (.inl k)
    · exact I.ok.has _ (.inr k)
  have hN : X.N.Nodup := by rw [S.nn]; exact S.nd
  have hc : X.calm = true := S.calm rfl
  have go : wI X tg iter σ H fun J H1 => ∃ xs ys, Same H H1 ∧ Yields N X.K J H1 A xs ∧ coll (fun x => match asgU t x (wipeE env cown) with
      | some env' => evE (P.ctx n) none b env'
      | none => .no) xs = .ok ys ∧ ys.length ≤ maxLen ∧ ∀ v H', PostE N X.K H A own (.comp cown t it b) (.lst ys) v H' → Q v H' := by
    refine hi X W sc tg iter env σ H A ad none _ S k4 k5 F cur0 ?_
    rcases comp_cases hw with ⟨x, he, hx⟩ | ⟨sv, xs, ys, he, hit, hcol, hz, hq⟩
    · rw [he]; exact hx
    · rw [he]
      show match walkOf sv with
        | .ok xs => _
        | _ => False
      rw [hit]
      exact fun J H1 s1 y1 _ => ⟨xs, ys, s1, y1 k3, hcol, hz, hq⟩
  refine wpAny_comprehension_free (use := use) rfl (fun x => ord_fold k2 _ x) (closure_ok hfree) ok.kind (fun y hy e => by rw [ok.uniq y hy, e])
    (thn (go pins s I) fun xv s1 hx => thn hx fun itv s2 h2 => ?_)
  obtain ⟨it1, fp, tn, J, H2, e, I2, T, st2, f2, xs, ys, s02, y2, hcol, hz, h⟩ := h2
  subst e
  refine wpAny_newObj_type (newEnv_comp ?_) (by show 0 ≤ sizeLine; decide)
  generalize hD : s2.heap.objs.size = D
  have hDn : H2 D = none := I2.hok.fresh (Nat.le_of_eq hD)
  have DA : D ∉ A := (F.mono s02).aok.out hDn
  refine comp_mid (ck := .lst elt) (ak := .l) (o0 := .lst []) (ob := { cls := .type "list", data := .seq ([] : List Value).toArray }) hb S (F.mono s02) ok k1 k6 k8 k9 T st2 f2 y2 hcol hz rfl trivial hD hDn (fun v z => by cases z) ?_ ⟨[], upd_same, .nil⟩ fun C s' m H' I' s26 ha hn f => ?_
  · refine I2.laid (t' := s2.toks) (fun b o e => Heap.get?_push_of_some _ e) (Nat.le_of_eq hD) ⟨Nat.zero_le _, [], 0, .nil, ?_⟩
    rw [← hD]
    exact Heap.get?_push_size _ rfl
  · obtain ⟨zs, hl6, r6⟩ := ha
    refine hRR D C s' m H' I' (h _ _ ⟨s02.trans s26, ?_, fun _ => .of_rp ?_, fun _ _ _ _ => ⟨D, rfl, ?_, zs, hl6, r6⟩⟩) hn f
    · show Rp N X.K (sub H' A) (.ref D) (.lst ys)
      exact .lst (.inl (.inl (by rw [sub_out DA]; exact hl6))) (r6.mono (sub_le fun a ha => List.mem_cons_of_mem _ ha))
    · exact .lst (.inl (.inl (by rw [sub_out DA]; exact hl6))) (r6.mono (sub_le fun a ha => List.mem_cons_of_mem _ ha))
    · exact Same.none s02 hDn
/-- a dict comprehension -/
theorem dcomp_core {pins : List (Addr × Obj)} {s : Shared} {X : Cx} {W : WX} {sc : Scope} {env : Env} {σ : L2.St} {H : Hp} {A : List Addr} {ad : Nat → Addr} {tk : Bool} {cown : List Nat} {t : RT} {it b : RE} {Q : VK} {kx vx tg iter : Expr} {ifs : List Expr} {rest : List Comprehension} {scope : Scope} {pos pos' : Pos} {use : Option (Value → Sem Unit)} {Qf : Value → Shared → Prop}
    (hi : SIt P N n NN own true ci it) (hb : SC P N n NN own ci b) (S : Site P N n X W sc NN true) (F : Frm N X.K own env σ H A ad) (I : Inv X pins σ H s)
    (k1 : ∀ i ∈ cown, i ∉ own) (k2 : ord iter = true) (k3 : leakI own it = false) (k4 : chkE N NN own true ci it sc true iter = true) (k5 : walkT it tg = true) (k6 : chkT (blkSc sc scope) NN own (cellB scope) t (.inl tg) = true) (k7 : blkC NN sc scope (ownOf NN scope) = true) (k8 : cown = (ownOf NN scope).map (·.2)) (k9 : chkC N NN own true ci b (cellB scope) (blkSc sc scope) ifs rest (.dic kx vx) = true)
    (hw : WPE N X.K W own (.dcomp tk cown t it b) σ H A (evE (P.ctx n) none (.dcomp tk cown t it b) env) Q)
    (hRR : ∀ D C s' m H', Inv X pins σ H' s' → Q (.ref D) H' → s'.heap.Ns C m → FpOk X pins H' C → compPost (model X.prog X.w) X.A X.xe use Qf (.ref D) C (.ok .next) s') :
    wpAny (model X.prog X.w) X.A (comprehension (.DictComp kx vx (⟨tg, iter, ifs, 0⟩ :: rest) scope pos) scope X.env pos' newDict false (eval iter X.env) use) Qf X.xe s := by
  have ok : BlkOk X.N X.env.scope scope (ownOf NN scope) := by
    rw [S.nn, S.sc]
    exact blkOk_by k7
  have hfree : ∀ y ∈ scope.names, y.2 = .free → ∃ c, X.env.cells.lookup y.1 = some c := fun y hy e => by
    rcases ok.free y hy e with k | k
    · exact I.ok.has _ (.inl k)
    · exact I.ok.has _ (.inr k)
  have go : wI X tg iter σ H fun J H1 => ∃ xs ys d, Same H H1 ∧ Yields N X.K J H1 A xs ∧ coll (fun x => match asgU t x (wipeE env cown) with
      | some env' => evE (P.ctx n) none b env'
      | none => .no) xs = .ok ys ∧ ys.length ≤ maxLen ∧ (match tk with
        | true => ∃ r, putsK tkOf ys [] [] = some r ∧ d = .dit r.1 r.2
        | false => ∃ r, putsK keyOf ys [] [] = some r ∧ d = .dik r.1 r.2) ∧ ∀ v H', PostE N X.K H A own (.dcomp tk cown t it b) d v H' → Q v H' := by
    refine hi X W sc tg iter env σ H A ad none _ S k4 k5 F cur0 ?_
    rcases dcomp_cases hw with ⟨x, he, hx⟩ | ⟨sv, xs, ys, d, he, hit, hcol, hz, hd, hq⟩
    · rw [he]; exact hx
    · rw [he]
      show match walkOf sv with
        | .ok xs => _
        | _ => False
      rw [hit]
      exact fun J H1 s1 y1 _ => ⟨xs, ys, d, s1, y1 k3, hcol, hz, hd, hq⟩
  refine wpAny_comprehension_free (use := use) rfl (fun x => ord_fold k2 _ x) (closure_ok hfree) ok.kind (fun y hy e => by rw [ok.uniq y hy, e])
    (thn (go pins s I) fun xv s1 hx => thn hx fun itv s2 h2 => ?_)
  obtain ⟨it1, fp, tn, J, H2, e, I2, T, st2, f2, xs, ys, d, s02, y2, hcol, hz, hd, h⟩ := h2
  subst e
  refine wpAny_newObj_type (newEnv_comp ?_)
  generalize hD : s2.heap.objs.size = D
  have hDn : H2 D = none := I2.hok.fresh (Nat.le_of_eq hD)
  have DA : D ∉ A := (F.mono s02).aok.out hDn
  have sub_to2 : ∀ {H' : Hp} {o : HO}, Same (sub H' (D :: A)) (sub (upd H' D o) A) := fun {H' o} b u e => by
    obtain ⟨n1, e1⟩ := sub_some e
    have n2 : b ≠ D := fun z => n1 (by rw [z]; exact List.mem_cons_self)
    rw [sub_out fun z => n1 (List.mem_cons_of_mem _ z), upd_ne n2]
    exact e1
  have fin : ∀ {C : Addr} {s' : Shared} {m : Str → Option Value} {H' : Hp} {u : HO}, Inv X pins σ H' s' → Same H2 H' → H' D = some u → Mut (some u) → s'.heap.Ns C m → FpOk X pins H' C → (∀ od, Rp N X.K (sub (upd H' D (.frz od u)) A) (.ref D) d) → compPost (model X.prog X.w) X.A X.xe use Qf (.ref D) C (.ok .next) s' := fun {C s' m H' u} I' s26 hu mu hn f hr => by
    obtain ⟨od, I8⟩ := I'.lock hu mu
    have s28 : Same H2 (upd H' D (.frz od u)) := fun b o e => by
      rw [upd_ne (ne_of_none e hDn)]
      exact s26 _ _ e
    have ne : C ≠ D := fun z => by have := f.1; rw [z, hu] at this; cases this
    exact hRR D C s' m _ I8 (h _ _ ⟨s02.trans s28, hr od, fun _ => .of_rp (hr od), fun z => by cases z⟩) hn ⟨by rw [upd_ne ne]; exact f.1, f.2⟩
  cases tk with
  | true =>
    obtain ⟨r, hp, rfl⟩ := hd
    refine comp_mid (ck := .dic kx vx) (ak := .t) (o0 := .dT []) (ob := { cls := .type "dict", data := .dict #[] }) hb S (F.mono s02) ok k1 k6 k8 k9 T st2 f2 y2 hcol hz rfl ⟨_, hp⟩ hD hDn (fun v z => by cases z) ?_ ⟨[], [], upd_same, rfl, .nil⟩ fun C s' m H' I' s26 ha hn f => ?_
    · refine I2.laid (t' := s2.toks) (fun b o e => Heap.get?_push_of_some _ e) (Nat.le_of_eq hD) ?_
      rw [← hD]
      exact dt_empty s2.heap I2.big
    · obtain ⟨kvs, ds, hl6, e6, r6⟩ := ha
      rw [hp] at e6
      cases e6
      exact fin I' s26 hl6 trivial hn f fun od => .dit (by rw [sub_out DA, upd_same]) (r6.mono sub_to2)
  | false =>
    obtain ⟨r, hp, rfl⟩ := hd
    refine comp_mid (ck := .dic kx vx) (ak := .k) (o0 := .dK []) (ob := { cls := .type "dict", data := .dict #[] }) hb S (F.mono s02) ok k1 k6 k8 k9 T st2 f2 y2 hcol hz rfl ⟨_, hp⟩ hD hDn (fun v z => by cases z) ?_ ⟨[], [], upd_same, rfl, .nil⟩ fun C s' m H' I' s26 ha hn f => ?_
    · refine I2.laid (t' := s2.toks) (fun b o e => Heap.get?_push_of_some _ e) (Nat.le_of_eq hD) ?_
      rw [← hD]
      exact dk_empty s2.heap I2.big
    · obtain ⟨kvs, ds, hl6, e6, r6⟩ := ha
      rw [hp] at e6
      cases e6
      exact fin I' s26 hl6 trivial hn f fun od => .dik (by rw [sub_out DA, upd_same]) (r6.mono sub_to2)
end
end PD
end

section
set_option Elab.async false
set_option linter.all false
set_option maxRecDepth 100000
/-! PD17: every expression. -/
namespace PD
open PySem PySem.Spec PyProof.Rows L2
section
variable {P : Prog} {N : Info} {n : Nat} {NN : List Str} {own : List Nat} {cm : Bool} {ci : Nat}
/-- the text of a comprehension -/
theorem comp_text {sc : Scope} {wk : Bool} {cown : List Nat} {t : RT} {it b : RE} {e : Expr} (hk : chkE N NN own cm ci (.comp cown t it b) sc wk e = true) : cm = true ∧ ∃ elt tg iter ifs gens scope pos, e = .ListComp elt (⟨tg, iter, ifs, 0⟩ :: gens) scope pos ∧ (∀ i ∈ cown, i ∉ own) ∧ ord iter = true ∧ leakI own it = false ∧ chkE N NN own cm ci it sc true iter = true ∧ walkT it tg = true ∧
    chkT (blkSc sc scope) NN own (cellB scope) t (.inl tg) = true ∧ blkC NN sc scope (ownOf NN scope) = true ∧ cown = (ownOf NN scope).map (·.2) ∧ chkC N NN own cm ci b (cellB scope) (blkSc sc scope) ifs gens (.lst elt) = true := by
  rw [chkE_comp] at hk
  split at hk
  case h_2 => cases hk
  case h_1 elt tg iter ifs ia gens scope pos =>
    obtain ⟨k0, hk⟩ := and_t hk
    obtain ⟨k1, hk⟩ := and_t hk
    obtain ⟨k2, hk⟩ := and_t hk
    obtain ⟨k3, hk⟩ := and_t hk
    obtain ⟨k4, hk⟩ := and_t hk
    obtain ⟨k5, hk⟩ := and_t hk
    obtain ⟨k6, hk⟩ := and_t hk
    obtain ⟨k7, hk⟩ := and_t hk
    obtain ⟨k8, hk⟩ := and_t hk
    obtain ⟨k9, k10⟩ := and_t hk
    have k1 := of_decide_eq_true k1
    subst k1
    refine ⟨k0, elt, tg, iter, ifs, gens, scope, pos, rfl, fun i hi z => ?_, k3, by simpa using k4, k5, k6, k7, k8, of_decide_eq_true k9, k10⟩
    have := List.all_eq_true.mp k2 i hi
    rw [List.contains_iff_mem.mpr z] at this
    cases this
theorem se_comp {cown : List Nat} {t : RT} {it b : RE} (hi : SIt P N n NN own cm ci it) (hb : cm = true → SC P N n NN own ci b) : SE P N n NN own cm ci (.comp cown t it b) := fun X W sc e env σ H A ad cur Q S hk F C h => by
  obtain ⟨rfl, elt, tg, iter, ifs, gens, scope, pos, rfl, k1, k2, k3, k4, k5, k6, k7, k8, k9⟩ := comp_text hk
  obtain rfl := C.calm rfl
  intro pins s I
  rw [eval_ListComp]
  refine comp_core hi (hb rfl) S F I k1 k2 k3 k4 k5 k6 k7 k8 k9 h fun D C s' m H' I' q hn f => ⟨m, hn, fun h'' sb => ?_⟩
  obtain ⟨f0, f1, f2, f3, f4, f5⟩ := f
  exact ⟨.ref D, H', I'.turned (t' := s'.toks) (fun b o hb e => (sb.2 b hb).trans e) f0 f1 f3 f4 f5, rfl, q⟩

theorem dcomp_text {sc : Scope} {wk : Bool} {tk : Bool} {cown : List Nat} {t : RT} {it b : RE} {e : Expr} (hk : chkE N NN own cm ci (.dcomp tk cown t it b) sc wk e = true) : cm = true ∧ ∃ kx vx tg iter ifs gens scope pos, e = .DictComp kx vx (⟨tg, iter, ifs, 0⟩ :: gens) scope pos ∧ (∀ i ∈ cown, i ∉ own) ∧ ord iter = true ∧ leakI own it = false ∧ chkE N NN own cm ci it sc true iter = true ∧ walkT it tg = true ∧
    chkT (blkSc sc scope) NN own (cellB scope) t (.inl tg) = true ∧ blkC NN sc scope (ownOf NN scope) = true ∧ cown = (ownOf NN scope).map (·.2) ∧ chkC N NN own cm ci b (cellB scope) (blkSc sc scope) ifs gens (.dic kx vx) = true := by
  rw [chkE_dcomp] at hk
  split at hk
  case h_2 => cases hk
  case h_1 kx vx tg iter ifs ia gens scope pos =>
    obtain ⟨k0, hk⟩ := and_t hk
    obtain ⟨k1, hk⟩ := and_t hk
    obtain ⟨k2, hk⟩ := and_t hk
    obtain ⟨k3, hk⟩ := and_t hk
    obtain ⟨k4, hk⟩ := and_t hk
    obtain ⟨k5, hk⟩ := and_t hk
    obtain ⟨k6, hk⟩ := and_t hk
    obtain ⟨k7, hk⟩ := and_t hk
    obtain ⟨k8, hk⟩ := and_t hk
    obtain ⟨k9, k10⟩ := and_t hk
    have k1 := of_decide_eq_true k1
    subst k1
    refine ⟨k0, kx, vx, tg, iter, ifs, gens, scope, pos, rfl, fun i hi z => ?_, k3, by simpa using k4, k5, k6, k7, k8, of_decide_eq_true k9, k10⟩
    have := List.all_eq_true.mp k2 i hi
    rw [List.contains_iff_mem.mpr z] at this
    cases this
theorem se_dcomp {tk : Bool} {cown : List Nat} {t : RT} {it b : RE} (hi : SIt P N n NN own cm ci it) (hb : cm = true → SC P N n NN own ci b) : SE P N n NN own cm ci (.dcomp tk cown t it b) := fun X W sc e env σ H A ad cur Q S hk F C h => by
  obtain ⟨rfl, kx, vx, tg, iter, ifs, gens, scope, pos, rfl, k1, k2, k3, k4, k5, k6, k7, k8, k9⟩ := dcomp_text hk
  obtain rfl := C.calm rfl
  intro pins s I
  rw [arm_eval_DictComp]
  refine dcomp_core hi (hb rfl) S F I k1 k2 k3 k4 k5 k6 k7 k8 k9 h fun D C s' m H' I' q hn f => ⟨m, hn, fun h'' sb => ?_⟩
  obtain ⟨f0, f1, f2, f3, f4, f5⟩ := f
  exact ⟨.ref D, H', I'.turned (t' := s'.toks) (fun b o hb e => (sb.2 b hb).trans e) f0 f1 f3 f4 f5, rfl, q⟩
/-- range(a) as a value -/
theorem cr_range1 {X : Cx} : CallR X (.type "range") (fun vs H Q => ∃ j, vs = [V.int j] ∧ ∀ p, H p = none → Q (.ref p) (upd H p (.rng 0 j))) := by
  intro pins s σ H vs us Q I r h
  obtain ⟨j, rfl, q⟩ := h
  cases r with
  | cons r rr =>
  cases rr
  obtain ⟨t, rfl⟩ := r
  refine call_range_1 ⟨.ref s.heap.objs.size, upd H s.heap.objs.size (.rng 0 j), I.laid (t' := s.toks + 1 + 1) (fun b o e => Heap.get?_push_of_some _ e) (Nat.le_refl _) ?_, rfl, q _ (I.hok.fresh (Nat.le_refl _))⟩
  exact ⟨s.toks, t, s.toks + 1, Heap.get?_push_size _ rfl⟩
theorem se_rgv {a : RE} (ha : SE P N n NN own cm ci a) : SE P N n NN own cm ci (.rgv a) := fun X W sc e env σ H A ad cur Q S hk F C h => by
  rw [chkE_rgv] at hk
  split at hk
  case h_2 => cases hk
  case h_1 x p1 ea p =>
    obtain ⟨kc, hk⟩ := and_t hk
    obtain ⟨k0, hk⟩ := and_t hk
    obtain ⟨k1, hk⟩ := and_t hk
    obtain ⟨k2, hk⟩ := and_t hk
    obtain ⟨k3, k4⟩ := and_t hk
    obtain rfl : x = "range" := of_decide_eq_true k0
    rw [evE_rgv] at h
    refine toE (pe_callTy cr_range1 (S.glk k2) (S.facts.free _ (of_decide_eq_true k1)) boot_range (pa_cons pe_w pa_nil (ord_star k3 [] X.env)) (he := ord_star k3 _ _)) ?_
    refine se_step ha S k4 F C (Same.refl H) h fun x v H1 p1 e1 F1 C1 h1 => ?_
    have rp := p1.rp0
    cases rp <;> first | exact h1.elim | skip
    rename_i i
    have h1 : WPE N X.K W own (.rgv a) σ H A (if small62 i then .ok (.rng 0 i) else .no) Q := h1
    split at h1
    · rename_i hs
      refine ⟨i, rfl, fun q hq => h1 _ _ ?_⟩
      have s2 : Same H1 (upd H1 q (.rng 0 i)) := same_upd hq
      have qA : q ∉ A := F1.aok.out hq
      have r : Rp N X.K (sub (upd H1 q (.rng 0 i)) A) (.ref q) (.rng 0 i) := .rng (by rw [sub_out qA, upd_same]) (by decide) hs
      exact ⟨e1.trans s2, r, fun _ => .of_rp r, fun z => by cases z⟩
    · exact h1.elim

/-- a new dict that nobody changes any more -/
theorem wE_lock {X : Cx} {e : Expr} {σ : L2.St} {H : Hp} {Q : VK} (h : wE X e σ H fun v H3 => ∃ p u, v = .ref p ∧ H3 p = some u ∧ Mut (some u) ∧ ∀ od, Q v (upd H3 p (.frz od u))) : wE X e σ H Q := fun pins s I => by
  refine thn (h pins s I) fun v s1 ⟨x, H3, I3, rx, p, u, ex, hu, mu, q⟩ => ?_
  obtain ⟨od, I4⟩ := I3.lock hu mu
  exact ⟨x, _, I4, rx, q od⟩
theorem key_v {K : PySem.W.Frag} {H : Hp} {v : V} {d : D} {k : Key} (r : Rp N K H v d) (h : keyOf d = some k) : v = kV k := by
  cases r <;> first | (cases h; rfl) | cases h
/-- a step of evaluation, more set aside -/
theorem step_at {X : Cx} {W : WX} {sc : Scope} {env : Env} {σ : L2.St} {H H0 : Hp} {A A' : List Addr} {ad : Nat → Addr} {cur : Option Exn} {a r : RE} {ea : Expr} {f : D → R D} {Q Q1 : VK}
    (ha : SE P N n NN own cm ci a) (S : Site P N n X W sc NN cm) (hk : chkE N NN own cm ci a sc false ea = true) (F : Frm N X.K own env σ H A' ad) (C : CurOk N X A' σ H cm cur ci) (e0 : Same H0 H)
    (h : WPE N X.K W own r σ H0 A ((evE (P.ctx n) cur a env).bd f) Q)
    (k : ∀ x v H1, PostE N X.K H A' own a x v H1 → Same H0 H1 → Frm N X.K own env σ H1 A' ad → CurOk N X A' σ H1 cm cur ci → WPE N X.K W own r σ H0 A (f x) Q → Q1 v H1) : wE X ea σ H Q1 := by
  refine ha X W sc ea env σ H A' ad cur _ S hk F C ?_
  cases he : evE (P.ctx n) cur a env with
  | ok x => rw [he] at h; exact fun v H1 p => k x v H1 p (e0.trans p.same) (F.mono p.same) (C.mono p.same) h
  | ex x => rw [he] at h; exact fun cls dx H' p => h cls dx H' ⟨e0.trans p.same, p.cls, p.rep⟩
  | no => rw [he] at h; exact h.elim
theorem se_dct4 {k1 v1 k2 v2 k3 v3 k4 v4 : RE} (h1 : SE P N n NN own cm ci k1) (h2 : SE P N n NN own cm ci v1) (h3 : SE P N n NN own cm ci k2) (h4 : SE P N n NN own cm ci v2) (h5 : SE P N n NN own cm ci k3) (h6 : SE P N n NN own cm ci v3) (h7 : SE P N n NN own cm ci k4) (h8 : SE P N n NN own cm ci v4) : SE P N n NN own cm ci (.dct4 k1 v1 k2 v2 k3 v3 k4 v4) := fun X W sc e env σ H A ad cur Q S hk F C h => by
  rw [chkE_dct4] at hk
  split at hk
  case h_2 => cases hk
  case h_1 a1 a2 a3 a4 b1 b2 b3 b4 p =>
    obtain ⟨lk, hk⟩ := and_t hk
    obtain ⟨lk1, lk⟩ := and_t lk
    obtain ⟨lk2, lk⟩ := and_t lk
    obtain ⟨lk3, lk4⟩ := and_t lk
    have lk1 : leak own v1 = false := by simpa using lk1
    have lk2 : leak own v2 = false := by simpa using lk2
    have lk3 : leak own v3 = false := by simpa using lk3
    have lk4 : leak own v4 = false := by simpa using lk4
    obtain ⟨c1, hk⟩ := and_t hk
    obtain ⟨c2, hk⟩ := and_t hk
    obtain ⟨c3, hk⟩ := and_t hk
    obtain ⟨c4, hk⟩ := and_t hk
    obtain ⟨c5, hk⟩ := and_t hk
    obtain ⟨c6, hk⟩ := and_t hk
    obtain ⟨c7, c8⟩ := and_t hk
    rw [evE_dct4] at h
    refine wE_lock (toE (pe_disp (pps_cons pe_w pe_w (pps_cons pe_w pe_w (pps_cons pe_w pe_w (pps_cons pe_w pe_w pps_nil)))) rfl rfl (by simp) (by simp)) ?_)
    intro p hp
    have s0 : Same H (upd H p (.dK [])) := same_upd hp
    have F0 : Frm N X.K own env σ (upd H p (.dK [])) (p :: A) ad := frm_block (cown := []) F hp (.inr (.inr ⟨_, upd_same⟩)) (fun i hi => by cases hi)
    have C0 : CurOk N X (p :: A) σ (upd H p (.dK [])) cm cur ci := ⟨(C.mono s0).calm, (C.mono s0).at_⟩
    show wE X a1 σ (upd H p (.dK [])) _
    refine step_at h1 S c1 F0 C0 s0 h fun x1 u1 H1 p1 e1 F1 C1 g1 => ?_
    show wE X b1 σ H1 _
    refine step_at h2 S c2 F1 C1 e1 g1 fun x2 u2 H2 p2 e2 F2 C2 g2 => ?_
    show wE X a2 σ H2 _
    refine step_at h3 S c3 F2 C2 e2 g2 fun x3 u3 H3 p3 e3 F3 C3 g3 => ?_
    show wE X b2 σ H3 _
    refine step_at h4 S c4 F3 C3 e3 g3 fun x4 u4 H4 p4 e4 F4 C4 g4 => ?_
    show wE X a3 σ H4 _
    refine step_at h5 S c5 F4 C4 e4 g4 fun x5 u5 H5 p5 e5 F5 C5 g5 => ?_
    show wE X b3 σ H5 _
    refine step_at h6 S c6 F5 C5 e5 g5 fun x6 u6 H6 p6 e6 F6 C6 g6 => ?_
    show wE X a4 σ H6 _
    refine step_at h7 S c7 F6 C6 e6 g6 fun x7 u7 H7 p7 e7 F7 C7 g7 => ?_
    show wE X b4 σ H7 _
    refine step_at h8 S c8 F7 C7 e7 g7 fun x8 u8 H8 p8 e8 F8 C8 g8 => ?_
    have g8 : WPE N X.K W own (.dct4 k1 v1 k2 v2 k3 v3 k4 v4) σ H A (dictOf false (.ok [.tup [x1, x2], .tup [x3, x4], .tup [x5, x6], .tup [x7, x8]])) Q := g8
    unfold dictOf at g8
    dsimp only at g8
    rw [if_pos (by show 4 ≤ maxLen; decide)] at g8
    cases q1 : keyOf x1 with
    | none => simp only [putsK, q1] at g8; exact g8.elim
    | some y1 =>
    cases q2 : keyOf x3 with
    | none => simp only [putsK, q1, q2] at g8; exact g8.elim
    | some y2 =>
    cases q3 : keyOf x5 with
    | none => simp only [putsK, q1, q2, q3] at g8; exact g8.elim
    | some y3 =>
    cases q4 : keyOf x7 with
    | none => simp only [putsK, q1, q2, q3, q4] at g8; exact g8.elim
    | some y4 =>
    simp only [putsK, q1, q2, q3, q4] at g8
    have w1 := key_v p1.rp0 q1
    have w2 := key_v p3.rp0 q2
    have w3 := key_v p5.rp0 q3
    have w4 := key_v p7.rp0 q4
    subst w1 w2 w3 w4
    have s28 : Same H2 H8 := p3.same.trans (p4.same.trans (p5.same.trans (p6.same.trans (p7.same.trans p8.same))))
    have s48 : Same H4 H8 := p5.same.trans (p6.same.trans (p7.same.trans p8.same))
    have s68 : Same H6 H8 := p7.same.trans p8.same
    have z2 := p2.rp
    have z4 := p4.rp
    have z6 := p6.rp
    have z8 := p8.rp
    rw [lk1] at z2
    rw [lk2] at z4
    rw [lk3] at z6
    rw [lk4] at z8
    have r1 : Rp N X.K (sub H8 (p :: A)) u2 x2 := z2.mono (sub_mono s28)
    have r2 : Rp N X.K (sub H8 (p :: A)) u4 x4 := z4.mono (sub_mono s48)
    have r3 : Rp N X.K (sub H8 (p :: A)) u6 x6 := z6.mono (sub_mono s68)
    have r4 : Rp N X.K (sub H8 (p :: A)) u8 x8 := z8
    have h8p : H8 p = some (.dK []) := (p1.same.trans (p2.same.trans s28)) _ _ upd_same
    have n1 : (L2.putK ([] : List (Key × V)) y1 u2).map (·.1) = (PD.putK ([] : List Key) [] y1 x2).1 := putK_fst rfl
    have m1 := putK_snd r1 (kvs := ([] : List (Key × V))) (k := y1) (vs := []) .nil
    have n2 : (L2.putK (L2.putK ([] : List (Key × V)) y1 u2) y2 u4).map (·.1) = (PD.putK (PD.putK ([] : List Key) [] y1 x2).1 (PD.putK ([] : List Key) [] y1 x2).2 y2 x4).1 := putK_fst n1
    have m2 := putK_snd r2 (k := y2) m1
    rw [n1] at m2
    have n3 := putK_fst (k := y3) (v := u6) (vs := (PD.putK (PD.putK ([] : List Key) [] y1 x2).1 (PD.putK ([] : List Key) [] y1 x2).2 y2 x4).2) (d := x6) n2
    have m3 := putK_snd r3 (k := y3) m2
    rw [n2] at m3
    have n4 := putK_fst (k := y4) (v := u8) (vs := (PD.putK (PD.putK (PD.putK ([] : List Key) [] y1 x2).1 (PD.putK ([] : List Key) [] y1 x2).2 y2 x4).1 (PD.putK (PD.putK ([] : List Key) [] y1 x2).1 (PD.putK ([] : List Key) [] y1 x2).2 y2 x4).2 y3 x6).2) (d := x8) n3
    have m4 := putK_snd r4 (k := y4) m3
    rw [n3] at m4
    refine ⟨h8p, [(y1, u2), (y2, u4), (y3, u6), (y4, u8)], rfl, by simp, p, _, rfl, upd_same, trivial, fun od => ?_⟩
    have pA : p ∉ A := F.aok.out hp
    generalize hm : mergeK [] [(y1, u2), (y2, u4), (y3, u6), (y4, u8)] = kvs
    have hm2 : kvs = L2.putK (L2.putK (L2.putK (L2.putK ([] : List (Key × V)) y1 u2) y2 u4) y3 u6) y4 u8 := hm.symm
    have sH : Same H (upd (upd H8 p (.dK kvs)) p (.frz od (.dK kvs))) := fun b o q => by
      have ne : b ≠ p := ne_of_none q hp
      rw [upd_ne ne, upd_ne ne]
      exact e8 _ _ q
    have sv : sub (upd (upd H8 p (.dK kvs)) p (.frz od (.dK kvs))) A p = some (.frz od (.dK kvs)) := by rw [sub_out pA, upd_same]
    have sm : Same (sub H8 (p :: A)) (sub (upd (upd H8 p (.dK kvs)) p (.frz od (.dK kvs))) A) := fun b o q => by
      obtain ⟨nb, q⟩ := sub_some q
      have ne : b ≠ p := fun z => nb (by rw [z]; exact List.mem_cons_self)
      rw [sub_out fun z => nb (List.mem_cons_of_mem _ z), upd_ne ne, upd_ne ne]
      exact q
    have rs := m4.mono sm
    rw [← hm2] at rs n4
    have rd := Rp.dik (N := N) (K := X.K) sv rs
    rw [n4] at rd
    exact g8 _ _ ⟨sH, rd, fun _ => .of_rp rd, fun z => by cases z⟩
theorem se_mfn {k : Nat} {es : RE} (hs : SA P N n NN own cm ci es) : SE P N n NN own cm ci (.mfn k es) := fun X W sc e env σ H A ad cur Q S hk F C h => by
  rw [chkE_mfn] at hk
  split at hk
  case h_2 => cases hk
  case h_1 x p1 e1 ees p =>
    obtain ⟨k1, hk⟩ := and_t hk
    obtain ⟨k2, hk⟩ := and_t hk
    obtain ⟨k3, hk⟩ := and_t hk
    obtain ⟨kst, k4⟩ := and_t hk
    have ords := chkA_ords kst k4
    have hm := S.facts.mfn _ (of_decide_eq_true k1)
    rw [evE_mfn] at h
    have hdb : (x == ("__debug__" : Str)) = false := by
      obtain ⟨q1, _⟩ := and_t k3
      simpa using q1
    have go : ∀ {id : String}, X.mg x = some (.builtin id) → (∀ xs vs H1, Same H H1 → Rps N X.K (sub H1 (bA (leak own es) A)) vs xs → WPE N X.K W own (.mfn k es) σ H A (mfnD k xs) Q → wCl X (.builtin id) vs H1 Q) → wE X (.Call (.Name x p1) (e1 :: ees) [] p) σ H Q := fun {id} hmg f => by
      refine toE (pe_callBfun wCl_ok (S.glk k2) hmg pa_w hdb (ord_star (ords _ List.mem_cons_self) _ _) (stars_none fun e he => ords e (List.mem_cons_of_mem _ he))) ?_
      refine sa_step (f := fun y => match y with
        | .tup ys => mfnD k ys
        | _ => .no) hs S k4 F C (Same.refl H) h fun xs vs H1 s1 rp e1 F1 C1 h1 => ?_
      exact f xs vs H1 e1 rp h1
    match k, hm with
    | 0, hm =>
      refine go hm fun xs vs H1 e1 rp h0 => ?_
      have h1 : WPE N X.K W own (.mfn 0 es) σ H A (combD xs) Q := h0
      clear h0
      unfold combD at h1
      split at h1
      · rename_i a b
        split at h1
        · rename_i hs
          obtain ⟨hs, h4⟩ := and_t hs
          obtain ⟨hs, h3⟩ := and_t hs
          obtain ⟨h2, h2'⟩ := and_t hs
          cases rp with
          | cons ra rp =>
          cases rp with
          | cons rb rp =>
          cases rp
          cases ra
          cases rb
          exact wCl_of pd_cr_comb ⟨a, b, rfl, of_decide_eq_true h2, of_decide_eq_true h2', of_decide_eq_true h3, of_decide_eq_true h4, h1 _ _ (.flats e1 (fun _ => .int _) trivial rfl)⟩
        · exact h1.elim
      · exact h1.elim
    | k + 1, hm =>
      refine go hm fun xs vs H1 e1 rp h0 => ?_
      have h1 : WPE N X.K W own (.mfn (k + 1) es) σ H A (gcdD xs) Q := h0
      clear h0
      unfold gcdD at h1
      split at h1
      · rename_i a b
        cases rp with
        | cons ra rp =>
        cases rp with
        | cons rb rp =>
        cases rp
        cases ra
        cases rb
        exact wCl_of cr_gcd ⟨a, b, rfl, h1 _ _ (.flats e1 (fun _ => .int _) trivial rfl)⟩
      · exact h1.elim

/-! ### all -/
variable (P N n NN own cm ci) in
structure All (r : RE) : Prop where
  se : SE P N n NN own cm ci r
  st : STt P N n NN own cm ci r
  sa : SA P N n NN own cm ci r
  si : SIt P N n NN own cm ci r
  sc : cm = true → SC P N n NN own ci r
  sp : SP_ P N n NN own cm ci r
theorem All.val {r : RE} (se : SE P N n NN own cm ci r) (st : STt P N n NN own cm ci r) (hw : ∀ sc e, chkE N NN own cm ci r sc true e = chkE N NN own cm ci r sc false e) (hA : ∀ sc es, chkA N NN own cm ci r sc es = false) (hC : ∀ cm' fnb sc ifs rest ck, chkC N NN own cm' ci r fnb sc ifs rest ck = false) (hP : ∀ sc o, chkP N NN own cm ci r sc o = false) : All P N n NN own cm ci r where
  se := se
  st := st
  sa := fun X W sc es env σ H A ad cur Q S hk F C h => by rw [hA] at hk; cases hk
  si := sit_of (si_of_se se hw)
  sc := fun _ B sc fnb ck gens scope pos d ifs rest env σ H A ad Dl ak acc σk Q ys S hx hfn hk => by rw [hC] at hk; cases hk
  sp := fun X W sc e env σ H H0 A ad cur r0 f Q Q1 S hk => by rw [hP] at hk; cases hk
theorem All.plain {r : RE} (se : SE P N n NN own cm ci r) (hp : ∀ sc e, chkE N NN own cm ci r sc false e = true → plainT e = true) (hw : ∀ sc e, chkE N NN own cm ci r sc true e = chkE N NN own cm ci r sc false e) (hA : ∀ sc es, chkA N NN own cm ci r sc es = false) (hC : ∀ cm' fnb sc ifs rest ck, chkC N NN own cm' ci r fnb sc ifs rest ck = false) (hP : ∀ sc o, chkP N NN own cm ci r sc o = false) : All P N n NN own cm ci r := .val se (st_of_se se hp) hw hA hC hP
/-- no expression by itself -/
theorem All.part {r : RE} (hE : ∀ sc e, chkE N NN own cm ci r sc false e = false) (sa : SA P N n NN own cm ci r) (si : SIt P N n NN own cm ci r) (sc : cm = true → SC P N n NN own ci r) (sp : SP_ P N n NN own cm ci r) : All P N n NN own cm ci r where
  se := fun X W sc e env σ H A ad cur Q S hk F C h => by rw [hE] at hk; cases hk
  st := fun X W sc e env σ H A ad cur Q S hk F C h => by rw [hE] at hk; cases hk
  sa := sa
  si := si
  sc := sc
  sp := sp
theorem noSA {r : RE} (hA : ∀ sc es, chkA N NN own cm ci r sc es = false) : SA P N n NN own cm ci r := fun X W sc es env σ H A ad cur Q S hk F C h => by rw [hA] at hk; cases hk
theorem noSI {r : RE} (hE : ∀ sc e, chkE N NN own cm ci r sc true e = false) : SIt P N n NN own cm ci r := fun X W sc tg e env σ H A ad cur R S hk => by rw [hE] at hk; cases hk
theorem noSC {r : RE} (hC : ∀ cm' fnb sc ifs rest ck, chkC N NN own cm' ci r fnb sc ifs rest ck = false) : SC P N n NN own ci r := fun B sc fnb ck gens scope pos d ifs rest env σ H A ad Dl ak acc σk Q ys S hx hfn hk => by rw [hC] at hk; cases hk
theorem noSP {r : RE} (hP : ∀ sc o, chkP N NN own cm ci r sc o = false) : SP_ P N n NN own cm ci r := fun X W sc e env σ H H0 A ad cur r0 f Q Q1 S hk => by rw [hP] at hk; cases hk
theorem all_expr (r : RE) : All P N n NN own cm ci r := by
  induction r with
  | var i => exact .plain se_var (fun sc e h => by rw [chkE_var] at h; split at h <;> first | rfl | cases h) (fun _ _ => rfl) (fun _ _ => rfl) (fun _ _ _ _ _ _ => rfl) (fun _ _ => rfl)
  | int i => exact .plain se_int (fun sc e h => by rw [chkE_int] at h; split at h <;> first | rfl | cases h) (fun _ _ => rfl) (fun _ _ => rfl) (fun _ _ _ _ _ _ => rfl) (fun _ _ => rfl)
  | str i => exact .plain se_str (fun sc e h => by rw [chkE_str] at h; split at h <;> first | rfl | cases h) (fun _ _ => rfl) (fun _ _ => rfl) (fun _ _ _ _ _ _ => rfl) (fun _ _ => rfl)
  | bl i => exact .plain se_bl (fun sc e h => by rw [chkE_bl] at h; split at h <;> first | rfl | cases h) (fun _ _ => rfl) (fun _ _ => rfl) (fun _ _ _ _ _ _ => rfl) (fun _ _ => rfl)
  | non => exact .plain se_non (fun sc e h => by rw [chkE_non] at h; split at h <;> first | rfl | cases h) (fun _ _ => rfl) (fun _ _ => rfl) (fun _ _ _ _ _ _ => rfl) (fun _ _ => rfl)
  | gint x i => exact .plain se_gint (fun sc e h => by rw [chkE_gint] at h; split at h <;> first | rfl | cases h) (fun _ _ => rfl) (fun _ _ => rfl) (fun _ _ _ _ _ _ => rfl) (fun _ _ => rfl)
  | bin op a b ha hb => exact .plain (se_bin ha.se hb.se) (fun sc e h => by rw [chkE_bin] at h; split at h <;> first | rfl | cases h) (fun _ _ => rfl) (fun _ _ => rfl) (fun _ _ _ _ _ _ => rfl) (fun _ _ => rfl)
  | neg a ha => exact .plain (se_neg ha.se) (fun sc e h => by rw [chkE_neg] at h; split at h <;> first | rfl | cases h) (fun _ _ => rfl) (fun _ _ => rfl) (fun _ _ _ _ _ _ => rfl) (fun _ _ => rfl)
  | cmp op a b ha hb => exact .val (se_cmp ha.se hb.se) (st_cmp ha.se hb.se) (fun _ _ => rfl) (fun _ _ => rfl) (fun _ _ _ _ _ _ => rfl) (fun _ _ => rfl)
  | and a b ha hb => exact .val (se_and ha.se hb.se) (st_and ha.st hb.st) (fun _ _ => rfl) (fun _ _ => rfl) (fun _ _ _ _ _ _ => rfl) (fun _ _ => rfl)
  | or a b ha hb => exact .val (se_or ha.se hb.se) (st_or ha.st hb.st) (fun _ _ => rfl) (fun _ _ => rfl) (fun _ _ _ _ _ _ => rfl) (fun _ _ => rfl)
  | not a ha => exact .val (se_not ha.se) (st_not ha.st) (fun _ _ => rfl) (fun _ _ => rfl) (fun _ _ _ _ _ _ => rfl) (fun _ _ => rfl)
  | ife c a b hc ha hb => exact .val (se_ife hc.st ha.se hb.se) (st_ife hc.st ha.st hb.st) (fun _ _ => rfl) (fun _ _ => rfl) (fun _ _ _ _ _ _ => rfl) (fun _ _ => rfl)
  | nil => exact .part (fun _ _ => rfl) sa_nil (noSI fun _ _ => rfl) (fun _ => noSC fun _ _ _ _ _ _ => rfl) (noSP fun _ _ => rfl)
  | cons a r ha hr => exact .part (fun _ _ => rfl) (sa_cons ha.se hr.sa) (noSI fun _ _ => rfl) (fun _ => noSC fun _ _ _ _ _ _ => rfl) (noSP fun _ _ => rfl)
  | tup es hs => exact .plain (se_tup hs.sa) (fun sc e h => by rw [chkE_tup] at h; split at h <;> first | rfl | cases h) (fun _ _ => rfl) (fun _ _ => rfl) (fun _ _ _ _ _ _ => rfl) (fun _ _ => rfl)
  | lst es hs => exact .plain (se_lst hs.sa) (fun sc e h => by rw [chkE_lst] at h; split at h <;> first | rfl | cases h) (fun _ _ => rfl) (fun _ _ => rfl) (fun _ _ _ _ _ _ => rfl) (fun _ _ => rfl)
  | item a i ha hi => exact .plain (se_item ha.se hi.se) (fun sc e h => by rw [chkE_item] at h; split at h <;> first | rfl | cases h) (fun _ _ => rfl) (fun _ _ => rfl) (fun _ _ _ _ _ _ => rfl) (fun _ _ => rfl)
  | cut a lo hi ha hl hh => exact .plain (se_cut ha.se hl.sp hh.sp) (fun sc e h => by rw [chkE_cut] at h; split at h <;> first | rfl | cases h) (fun _ _ => rfl) (fun _ _ => rfl) (fun _ _ _ _ _ _ => rfl) (fun _ _ => rfl)
  | nopart => exact .part (fun _ _ => rfl) (noSA fun _ _ => rfl) (noSI fun _ _ => rfl) (fun _ => noSC fun _ _ _ _ _ _ => rfl) sp_nopart
  | part a ha => exact .part (fun _ _ => rfl) (noSA fun _ _ => rfl) (noSI fun _ _ => rfl) (fun _ => noSC fun _ _ _ _ _ _ => rfl) (sp_part ha.se)
  | attr a f ha => exact .plain (se_attr ha.se) (fun sc e h => by rw [chkE_attr] at h; split at h <;> first | rfl | cases h) (fun _ _ => rfl) (fun _ _ => rfl) (fun _ _ _ _ _ _ => rfl) (fun _ _ => rfl)
  | con a f ha => exact .plain (se_con ha.se) (fun sc e h => by rw [chkE_con] at h; split at h <;> first | rfl | cases h) (fun _ _ => rfl) (fun _ _ => rfl) (fun _ _ _ _ _ _ => rfl) (fun _ _ => rfl)
  | call f es hs => exact .plain (se_call hs.sa) (fun sc e h => by rw [chkE_call] at h; split at h <;> first | rfl | cases h) (fun _ _ => rfl) (fun _ _ => rfl) (fun _ _ _ _ _ _ => rfl) (fun _ _ => rfl)
  | new c es hs => exact .plain (se_new hs.sa) (fun sc e h => by rw [chkE_new] at h; split at h <;> first | rfl | cases h) (fun _ _ => rfl) (fun _ _ => rfl) (fun _ _ _ _ _ _ => rfl) (fun _ _ => rfl)
  | meth o m es ho hs => exact .plain (se_meth ho.se hs.sa) (fun sc e h => by rw [chkE_meth] at h; split at h <;> first | rfl | cases h) (fun _ _ => rfl) (fun _ _ => rfl) (fun _ _ _ _ _ _ => rfl) (fun _ _ => rfl)
  | blt b es hs => exact .plain (se_blt hs.sa) (fun sc e h => by rw [chkE_blt] at h; split at h <;> first | rfl | cases h) (fun _ _ => rfl) (fun _ _ => rfl) (fun _ _ _ _ _ _ => rfl) (fun _ _ => rfl)
  | isi a t ha => exact .plain (se_isi ha.se) (fun sc e h => by rw [chkE_isi] at h; split at h <;> first | rfl | cases h) (fun _ _ => rfl) (fun _ _ => rfl) (fun _ _ _ _ _ _ => rfl) (fun _ _ => rfl)
  | curf k => exact .plain se_curf (fun sc e h => by rw [chkE_curf] at h; split at h <;> first | rfl | cases h) (fun _ _ => rfl) (fun _ _ => rfl) (fun _ _ _ _ _ _ => rfl) (fun _ _ => rfl)
  | curis ts => exact .plain se_curis (fun sc e h => by rw [chkE_curis] at h; split at h <;> first | rfl | cases h) (fun _ _ => rfl) (fun _ _ => rfl) (fun _ _ _ _ _ _ => rfl) (fun _ _ => rfl)
  | tupR a b ha hb => exact .plain (se_tupR ha.se hb.se) (fun sc e h => by rw [chkE_tupR] at h; split at h <;> first | rfl | cases h) (fun _ _ => rfl) (fun _ _ => rfl) (fun _ _ _ _ _ _ => rfl) (fun _ _ => rfl)
  | ceq m a b ha hb => exact .val (se_ceq ha.se hb.se) (st_ceq ha.se hb.se) (fun _ _ => rfl) (fun _ _ => rfl) (fun _ _ _ _ _ _ => rfl) (fun _ _ => rfl)
  | dlen m a ha => exact .plain (se_dlen ha.se) (fun sc e h => by rw [chkE_dlen] at h; split at h <;> first | rfl | cases h) (fun _ _ => rfl) (fun _ _ => rfl) (fun _ _ _ _ _ _ => rfl) (fun _ _ => rfl)
  | rev a ha => exact .plain (se_rev ha.se) (fun sc e h => by rw [chkE_rev] at h; split at h <;> first | rfl | cases h) (fun _ _ => rfl) (fun _ _ => rfl) (fun _ _ _ _ _ _ => rfl) (fun _ _ => rfl)
  | rng1 a ha => exact .part (fun sc e => by rw [chkE_rng1]; split <;> rfl) (noSA fun _ _ => rfl) (sit_of (si_rng1 ha.se)) (fun _ => noSC fun _ _ _ _ _ _ => rfl) (noSP fun _ _ => rfl)
  | rng2 a b ha hb => exact .part (fun sc e => by rw [chkE_rng2]; split <;> rfl) (noSA fun _ _ => rfl) (sit_of (si_rng2 ha.se hb.se)) (fun _ => noSC fun _ _ _ _ _ _ => rfl) (noSP fun _ _ => rfl)
  | enum a ha => exact .part (fun sc e => by rw [chkE_enum]; split <;> rfl) (noSA fun _ _ => rfl) (sit_enum ha.se) (fun _ => noSC fun _ _ _ _ _ _ => rfl) (noSP fun _ _ => rfl)
  | comp cown t it b hi hb => exact .plain (se_comp hi.si hb.sc) (fun sc e h => by rw [chkE_comp] at h; split at h <;> first | rfl | cases h) (fun _ _ => rfl) (fun _ _ => rfl) (fun _ _ _ _ _ _ => rfl) (fun _ _ => rfl)
  | forc t it b hi hb => exact .part (fun _ _ => rfl) (noSA fun _ _ => rfl) (noSI fun _ _ => rfl) (fun hc => by subst hc; exact sc_forc hi.si (hb.sc rfl)) (noSP fun _ _ => rfl)
  | ifc c b hc hb => exact .part (fun _ _ => rfl) (noSA fun _ _ => rfl) (noSI fun _ _ => rfl) (fun h => by subst h; exact sc_ifc hc.st (hb.sc rfl)) (noSP fun _ _ => rfl)
  | one a ha => exact .part (fun _ _ => rfl) (noSA fun _ _ => rfl) (noSI fun _ _ => rfl) (fun h => by subst h; exact sc_one ha.se) (noSP fun _ _ => rfl)
  | star a r ha hr => exact .part (fun _ _ => rfl) (sa_star ha.se hr.sa) (noSI fun _ _ => rfl) (fun _ => noSC fun _ _ _ _ _ _ => rfl) (noSP fun _ _ => rfl)
  | dct4 k1 v1 k2 v2 k3 v3 k4 v4 h1 h2 h3 h4 h5 h6 h7 h8 => exact .plain (se_dct4 h1.se h2.se h3.se h4.se h5.se h6.se h7.se h8.se) (fun sc e h => by rw [chkE_dct4] at h; split at h <;> first | rfl | cases h) (fun _ _ => rfl) (fun _ _ => rfl) (fun _ _ _ _ _ _ => rfl) (fun _ _ => rfl)
  | mfn k es hs => exact .plain (se_mfn hs.sa) (fun sc e h => by rw [chkE_mfn] at h; split at h <;> first | rfl | cases h) (fun _ _ => rfl) (fun _ _ => rfl) (fun _ _ _ _ _ _ => rfl) (fun _ _ => rfl)
  | rgv a ha => exact .plain (se_rgv ha.se) (fun sc e h => by rw [chkE_rgv] at h; split at h <;> first | rfl | cases h) (fun _ _ => rfl) (fun _ _ => rfl) (fun _ _ _ _ _ _ => rfl) (fun _ _ => rfl)
  | dcomp tk cown t it b hi hb => exact .plain (se_dcomp hi.si hb.sc) (fun sc e h => by rw [chkE_dcomp] at h; split at h <;> first | rfl | cases h) (fun _ _ => rfl) (fun _ _ => rfl) (fun _ _ _ _ _ _ => rfl) (fun _ _ => rfl)
  | kv k v hk hv => exact .part (fun _ _ => rfl) (noSA fun _ _ => rfl) (noSI fun _ _ => rfl) (fun h => by subst h; exact sc_kv hk.se hv.se) (noSP fun _ _ => rfl)
end
end PD
end

section
set_option Elab.async false
set_option linter.all false
set_option maxRecDepth 100000
/-! PD18: which text a resolved statement stands for. -/
namespace PD
open PySem PySem.Spec PyProof.Rows L2
/-- where a statement stands: cm: no exception is handled; ci: the caught exception's slot; lo: a loop's own slots; tr: those of the try around; ini: an __init__ -/
structure KP where
  cm : Bool
  ci : Nat
  lo : Option (List Nat)
  tr : Option (List Nat)
  ini : Bool
  nw : Bool := false
def insO (i : Nat) (own : List Nat) : List Nat := if own.contains i then own else i :: own
def dead : RS → Bool
  | .ret _ => true
  | .retN => true
  | .brk => true
  | .cnt => true
  | .raise _ _ => true
  | .seq a b => dead a || dead b
  | .frz _ b => dead b
  | .ife _ a b => dead a && dead b
  | _ => false
def endO : RS → List Nat → List Nat
  | .asgF i _, own => insO i own
  | .newT i, own => insO i own
  | .frz i b, own => endO b (own.erase i)
  | .seq a b, own => endO b (endO a own)
  | .ife _ a b, own => if dead a then endO b own else endO a own
  | _, own => own
def noComp : Expr → Bool
  | .ListComp .. => false
  | .SetComp .. => false
  | .DictComp .. => false
  | _ => true
theorem noComp_ok {e : Expr} (h : noComp e = true) (t : Option Expr) (l : Nat) (env : PySem.Env) : swapsWith e t l env = pure false := by
  cases e <;> first | rfl | cases h
def notTup : Expr → Bool
  | .Tuple vs _ _ => vs.all (foldedForSure 8)
  | _ => true
theorem sw_fold {ts vs : List Expr} (h : vs.all (foldedForSure 8) = true) (env : PySem.Env) (names : List Str) :
    (if (!(ts.length == 2 || ts.length == 3) || vs.length != ts.length || env.blockKind != .function) = true then (pure none : Sem (Option (List Str)))
    else if (vs.any fun | .Starred .. => true | _ => false) = true then pure none
    else if (names.length != ts.length || names.eraseDups.length != names.length) = true then pure none
    else if vs.all (foldedForSure 8) = true then pure none
    else if vs.all (constantsAlone 8) = true then do
        let _ ← (unsupported "assign.tuple-of-constant-expressions:order-of-the-stores" : Sem PUnit)
        pure (some names)
    else pure (some names)) = pure none := by
  rw [h]
  split
  · rfl
  split
  · rfl
  split
  · rfl
  rfl
theorem notTup_ok {e : Expr} (h : notTup e = true) (ts : List Expr) (env : PySem.Env) : swappedStores ts e env = pure none := by
  cases e with
  | Tuple vs c p =>
    have h : vs.all (foldedForSure 8) = true := h
    unfold swappedStores
    cases ts with
    | nil => rfl
    | cons t ts => 
      cases ts with
      | cons _ _ => cases t <;> rfl
      | nil =>
        cases t <;> first | rfl | exact sw_fold h env _
  | _ =>
    unfold swappedStores
    cases ts with
    | nil => rfl
    | cons t ts => cases t <;> cases ts <;> rfl
/-- may slot i be stored to -/
def freeAt (k : KP) (own : List Nat) (i : Nat) : Bool := !own.contains i && (k.cm || decide (i ≠ k.ci))
def trOk (k : KP) (own : List Nat) : Bool := match k.tr with
  | none => true
  | some t => decide (own = t)
def loFree (k : KP) (i : Nat) : Bool := match k.lo with
  | none => true
  | some l => !l.contains i
/-- own slots may come and go at i -/
def ownAt (k : KP) (i : Nat) : Bool := k.cm && (k.tr.isNone && !(k.ini && i == 0))
/-- x = e: a list comprehension is stored from within -/
def swapOk (NN : List Str) (sc : Scope) (x : Str) (px : Pos) : Expr → Bool
  | .ListComp _ _ scope p => (match sc.names.lookup x with
    | some .cell => true
    | _ => false) || ((match sc.names.lookup x with
    | some .local => true
    | _ => false) && ((px.line == p.line) && !(scope.names.any fun y => y.1 == x && (y.2 == .local || y.2 == .cell))))
  | e => noComp e
/-- the keys of a store: plain names that hold no object of their own, ints -/
def plainK (own : List Nat) : RE → Bool
  | .nil => true
  | .cons a r => plainK own a && plainK own r
  | .tup es => plainK own es
  | .var i => !own.contains i
  | .int _ => true
  | _ => false
/-- what is handed back as a new list -/
def newE (N : Info) (own : List Nat) : RE → Bool
  | .var i => own.contains i
  | e => fresh N e && !leak own e
def isTgt : Expr → Bool
  | .Tuple .. => true
  | _ => false
section
variable (N : Info) (NN : List Str)
/-- the three targets of d[k1] = d[k2] = d[k3] = e; one -/
def keyTs (x : Str) : List Expr → Option (List Expr)
  | [.Subscript (.Name y1 _) k1 _] => if x = y1 then some [k1] else none
  | [.Subscript (.Name y1 _) k1 _, .Subscript (.Name y2 _) k2 _, .Subscript (.Name y3 _) k3 _] => if x = y1 ∧ x = y2 ∧ x = y3 then some [k1, k2, k3] else none
  | _ => none
mutual
def chk1 : RS → KP → List Nat → List Nat → Scope → Stmt → Bool
  | .asg i e, k, own, own', sc, st => match st with
    | .Assign [.Name x px] ee _ => decide (own' = own) && (trOk k own && (decide (NN[i]? = some x) && (loc sc x && (freeAt k own i && (!leak own e && (swapOk NN sc x px ee && chkE N NN own k.cm k.ci e sc false ee))))))
    | _ => false
  | .asgF i e, k, own, own', sc, st => match st with
    | .Assign [.Name x px] ee _ => decide (own' = insO i own) && (trOk k own && (decide (NN[i]? = some x) && (loc sc x && (ownAt k i && (fresh N e && (!leak own e && (swapOk NN sc x px ee && chkE N NN own k.cm k.ci e sc false ee)))))))
    | _ => false
  | .newT i, k, own, own', sc, st => match st with
    | .Assign [.Name x _] (.Dict [] [] _) _ => decide (own' = insO i own) && (decide (NN[i]? = some x) && (loc sc x && ownAt k i))
    | _ => false
  | .asgT t e, k, own, own', sc, st => match st with
    | .Assign [tg] ee _ => decide (own' = own) && (trOk k own && (k.cm && (isTgt tg && (notTup ee && (isTgt tg && (!leak own e && (chkT sc NN own (fun _ => true) t (.inl tg) && chkE N NN own k.cm k.ci e sc false ee)))))))
    | _ => false
  | .app i e, k, own, own', sc, st => match st with
    | .Expr (.Call (.Attribute (.Name x _) m ap) [ea] [] p) _ => decide (own' = own) && (trOk k own && (k.cm && (decide (m = "append") && (own.contains i && (decide (NN[i]? = some x) && (vis sc x && (nameOk x && ((ap.endLine == p.line) && (ord ea && (!leak own e && chkE N NN own k.cm k.ci e sc false ea))))))))))
    | _ => false
  | .popA i j e, k, own, own', sc, st => match st with
    | .Expr (.Call (.Attribute (.Name x _) m ap) [.Call (.Attribute (.Name y _) m2 ap2) [ea] [] p2] [] p) _ => decide (own' = own) && (trOk k own && (k.cm && (decide (m = "append") && (decide (m2 = "pop") && (own.contains i && (own.contains j && (decide (NN[i]? = some x) && (decide (NN[j]? = some y) && (vis sc x && (nameOk x && (vis sc y && (nameOk y && ((ap.endLine == p.line) && ((ap2.endLine == p2.line) && (ord ea && (!leak own e && chkE N NN own k.cm k.ci e sc false ea))))))))))))))))
    | _ => false
  | .extL i e, k, own, own', sc, st => match st with
    | .Expr (.Call (.Attribute (.Name x _) m ap) [ea] [] p) _ => decide (own' = own) && (trOk k own && (k.cm && (decide (m = "extend") && (own.contains i && (decide (NN[i]? = some x) && (vis sc x && (nameOk x && ((ap.endLine == p.line) && (ord ea && (fresh N e && (!leak own e && chkE N NN own k.cm k.ci e sc false ea)))))))))))
    | _ => false
  | .revL i, k, own, own', sc, st => match st with
    | .Expr (.Call (.Attribute (.Name x _) m ap) [] [] p) _ => decide (own' = own) && (trOk k own && (k.cm && (decide (m = "reverse") && (own.contains i && (decide (NN[i]? = some x) && (vis sc x && (nameOk x && (ap.endLine == p.line))))))))
    | _ => false
  | .setL i kk e, k, own, own', sc, st => match st with
    | .Assign [.Subscript (.Name x _) ek _] ee _ => decide (own' = own) && (trOk k own && (k.cm && (own.contains i && (decide (NN[i]? = some x) && (vis sc x && (nameOk x && (ord ek && (noComp ee && (!leak own e && (chkE N NN own k.cm k.ci kk sc false ek && chkE N NN own k.cm k.ci e sc false ee))))))))))
    | _ => false
  | .setK i ks e, k, own, own', sc, st => match st with
    | .Assign (.Subscript (.Name x p1) k1 p2 :: tgs) ee _ => decide (own' = own) && (trOk k own && (k.cm && (own.contains i && (decide (NN[i]? = some x) && (vis sc x && (nameOk x && (notTup ee && (noComp ee && (!leak own e && (plainK own ks && (chkE N NN own k.cm k.ci e sc false ee && (match keyTs x (.Subscript (.Name x p1) k1 p2 :: tgs) with
        | some es => chkA N NN own k.cm k.ci ks sc es
        | none => false))))))))))))
    | _ => false
  | .setF i f e, k, own, own', sc, st => match st with
    | .Assign [.Attribute (.Name x _) g _] ee _ => decide (own' = own) && (trOk k own && (k.cm && (own.contains i && (decide (NN[i]? = some x) && (vis sc x && (nameOk x && (decide (N.fnm f = g) && (noComp ee && (!leak own e && chkE N NN own k.cm k.ci e sc false ee)))))))))
    | _ => false
  | .ife c a b, k, own, own', sc, st => match st with
    | .If ec sa sb _ => trOk k own && (chkE N NN own k.cm k.ci c sc false ec && (chkS a k own own' sc sa && chkS b k own own' sc sb))
    | _ => false
  | .for_ t it b, k, own, own', sc, st => match st with
    | .For tg ei body [] _ => decide (own' = own) && (trOk k own && (k.cm && (ord ei && (!leak own it && (walkT it tg && (chkT sc NN own (fun _ => true) t (.inl tg) && (chkE N NN own k.cm k.ci it sc true ei && chkS b { k with lo := some own } own own sc body)))))))
    | _ => false
  | .whl n c b, k, own, own', sc, st => match st with
    | .While ec body [] _ => decide (own' = own) && (trOk k own && (k.cm && (chkE N NN own k.cm k.ci c sc false ec && chkS b { k with lo := some own } own own sc body)))
    | _ => false
  | .ret e, k, own, _, sc, st => match st with
    | .Return (some ee) _ => trOk k own && (!k.ini && ((!k.nw || newE N own e) && chkE N NN own k.cm k.ci e sc false ee))
    | _ => false
  | .retN, k, _, _, _, st => match st with
    | .Return none _ => !k.ini
    | _ => false
  | .brk, k, own, _, _, st => match st with
    | .Break _ => decide (k.lo = some own)
    | _ => false
  | .cnt, k, own, _, _, st => match st with
    | .Continue _ => decide (k.lo = some own)
    | _ => false
  | .pass, _, own, own', _, st => match st with
    | .Pass _ => decide (own' = own)
    | _ => false
  | .raise c es, k, own, _, sc, st => match st with
    | .Raise (some (.Call (.Name x _) (e1 :: ees) [] _)) none _ => trOk k own && (k.cm && (decide (c ∈ N.raised) && (decide (N.xn c = x) && (glb sc x && (nameOk x && (noSt es && chkA N NN own k.cm k.ci es sc (e1 :: ees)))))))
    | _ => false
  | .try_ b hs, k, own, own', sc, st => match st with
    | .Try body (h0 :: hds) [] [] _ => decide (own' = own) && (trOk k own && (k.cm && (!k.ini && (chkS b { k with tr := some own } own own sc body && chkH hs k own sc (h0 :: hds)))))
    | _ => false
  | .expr e, k, own, own', sc, st => match st with
    | .Expr ee _ => decide (own' = own) && (trOk k own && (noComp ee && chkE N NN own k.cm k.ci e sc false ee))
    | _ => false
  | _, _, _, _, _, _ => false
def chkS : RS → KP → List Nat → List Nat → Scope → List Stmt → Bool
  | .skip, _, own, own', _, ss => ss.isEmpty && decide (own' = own)
  | .seq a b, k, own, own', sc, ss => match ss with
    | st :: rest => chk1 a k own (endO a own) sc st && chkS b k (endO a own) own' sc rest
    | [] => false
  | .frz i b, k, own, own', sc, ss => own.contains i && (ownAt k i && (decide own.Nodup && chkS b k (own.erase i) own' sc ss))
  | _, _, _, _, _, _ => false
def chkH : RS → KP → List Nat → Scope → List ExceptHandler → Bool
  | .hnil, _, _, _, hds => hds.isEmpty
  | .hcons c i s rest, k, own, sc, hds => match hds with
    | .ExceptHandler (some (.Name x xp)) (some nm) (b0 :: suite) _ :: hds => xT N c sc (.Name x xp) && (decide (c = 0 ∨ c ∈ N.caught) && (decide (NN[i]? = some nm) && ((match sc.names.lookup nm with
        | some .local => true
        | _ => false) && (!own.contains i && (loFree k i && chkS s { k with cm := false, ci := i, tr := none } own own sc (b0 :: suite) && chkH rest k own sc hds)))))
    | _ => false
  | _, _, _, _, _ => false
end
end
/-! ### equations of chk1 -/
section
variable {N : Info} {NN : List Str}
theorem chk1_asg {i} {e} {k} {own} {own'} {sc} {st} : chk1 N NN (.asg i e) k own own' sc st = (match st with
    | .Assign [.Name x px] ee _ => decide (own' = own) && (trOk k own && (decide (NN[i]? = some x) && (loc sc x && (freeAt k own i && (!leak own e && (swapOk NN sc x px ee && chkE N NN own k.cm k.ci e sc false ee))))))
    | _ => false) := rfl
theorem chk1_asgF {i} {e} {k} {own} {own'} {sc} {st} : chk1 N NN (.asgF i e) k own own' sc st = (match st with
    | .Assign [.Name x px] ee _ => decide (own' = insO i own) && (trOk k own && (decide (NN[i]? = some x) && (loc sc x && (ownAt k i && (fresh N e && (!leak own e && (swapOk NN sc x px ee && chkE N NN own k.cm k.ci e sc false ee)))))))
    | _ => false) := rfl
theorem chk1_newT {i} {k} {own} {own'} {sc} {st} : chk1 N NN (.newT i) k own own' sc st = (match st with
    | .Assign [.Name x _] (.Dict [] [] _) _ => decide (own' = insO i own) && (decide (NN[i]? = some x) && (loc sc x && ownAt k i))
    | _ => false) := rfl
theorem chk1_asgT {t} {e} {k} {own} {own'} {sc} {st} : chk1 N NN (.asgT t e) k own own' sc st = (match st with
    | .Assign [tg] ee _ => decide (own' = own) && (trOk k own && (k.cm && (isTgt tg && (notTup ee && (isTgt tg && (!leak own e && (chkT sc NN own (fun _ => true) t (.inl tg) && chkE N NN own k.cm k.ci e sc false ee)))))))
    | _ => false) := rfl
theorem chk1_app {i} {e} {k} {own} {own'} {sc} {st} : chk1 N NN (.app i e) k own own' sc st = (match st with
    | .Expr (.Call (.Attribute (.Name x _) m ap) [ea] [] p) _ => decide (own' = own) && (trOk k own && (k.cm && (decide (m = "append") && (own.contains i && (decide (NN[i]? = some x) && (vis sc x && (nameOk x && ((ap.endLine == p.line) && (ord ea && (!leak own e && chkE N NN own k.cm k.ci e sc false ea))))))))))
    | _ => false) := rfl
theorem chk1_popA {i} {j} {e} {k} {own} {own'} {sc} {st} : chk1 N NN (.popA i j e) k own own' sc st = (match st with
    | .Expr (.Call (.Attribute (.Name x _) m ap) [.Call (.Attribute (.Name y _) m2 ap2) [ea] [] p2] [] p) _ => decide (own' = own) && (trOk k own && (k.cm && (decide (m = "append") && (decide (m2 = "pop") && (own.contains i && (own.contains j && (decide (NN[i]? = some x) && (decide (NN[j]? = some y) && (vis sc x && (nameOk x && (vis sc y && (nameOk y && ((ap.endLine == p.line) && ((ap2.endLine == p2.line) && (ord ea && (!leak own e && chkE N NN own k.cm k.ci e sc false ea))))))))))))))))
    | _ => false) := rfl
theorem chk1_extL {i} {e} {k} {own} {own'} {sc} {st} : chk1 N NN (.extL i e) k own own' sc st = (match st with
    | .Expr (.Call (.Attribute (.Name x _) m ap) [ea] [] p) _ => decide (own' = own) && (trOk k own && (k.cm && (decide (m = "extend") && (own.contains i && (decide (NN[i]? = some x) && (vis sc x && (nameOk x && ((ap.endLine == p.line) && (ord ea && (fresh N e && (!leak own e && chkE N NN own k.cm k.ci e sc false ea)))))))))))
    | _ => false) := rfl
theorem chk1_revL {i} {k} {own} {own'} {sc} {st} : chk1 N NN (.revL i) k own own' sc st = (match st with
    | .Expr (.Call (.Attribute (.Name x _) m ap) [] [] p) _ => decide (own' = own) && (trOk k own && (k.cm && (decide (m = "reverse") && (own.contains i && (decide (NN[i]? = some x) && (vis sc x && (nameOk x && (ap.endLine == p.line))))))))
    | _ => false) := rfl
theorem chk1_setL {i} {kk} {e} {k} {own} {own'} {sc} {st} : chk1 N NN (.setL i kk e) k own own' sc st = (match st with
    | .Assign [.Subscript (.Name x _) ek _] ee _ => decide (own' = own) && (trOk k own && (k.cm && (own.contains i && (decide (NN[i]? = some x) && (vis sc x && (nameOk x && (ord ek && (noComp ee && (!leak own e && (chkE N NN own k.cm k.ci kk sc false ek && chkE N NN own k.cm k.ci e sc false ee))))))))))
    | _ => false) := rfl
theorem chk1_setK {i} {ks} {e} {k} {own} {own'} {sc} {st} : chk1 N NN (.setK i ks e) k own own' sc st = (match st with
    | .Assign (.Subscript (.Name x p1) k1 p2 :: tgs) ee _ => decide (own' = own) && (trOk k own && (k.cm && (own.contains i && (decide (NN[i]? = some x) && (vis sc x && (nameOk x && (notTup ee && (noComp ee && (!leak own e && (plainK own ks && (chkE N NN own k.cm k.ci e sc false ee && (match keyTs x (.Subscript (.Name x p1) k1 p2 :: tgs) with
        | some es => chkA N NN own k.cm k.ci ks sc es
        | none => false))))))))))))
    | _ => false) := rfl
theorem chk1_setF {i} {f} {e} {k} {own} {own'} {sc} {st} : chk1 N NN (.setF i f e) k own own' sc st = (match st with
    | .Assign [.Attribute (.Name x _) g _] ee _ => decide (own' = own) && (trOk k own && (k.cm && (own.contains i && (decide (NN[i]? = some x) && (vis sc x && (nameOk x && (decide (N.fnm f = g) && (noComp ee && (!leak own e && chkE N NN own k.cm k.ci e sc false ee)))))))))
    | _ => false) := rfl
theorem chk1_ife {c} {a} {b} {k} {own} {own'} {sc} {st} : chk1 N NN (.ife c a b) k own own' sc st = (match st with
    | .If ec sa sb _ => trOk k own && (chkE N NN own k.cm k.ci c sc false ec && (chkS N NN a k own own' sc sa && chkS N NN b k own own' sc sb))
    | _ => false) := rfl
theorem chk1_for {t} {it} {b} {k} {own} {own'} {sc} {st} : chk1 N NN (.for_ t it b) k own own' sc st = (match st with
    | .For tg ei body [] _ => decide (own' = own) && (trOk k own && (k.cm && (ord ei && (!leak own it && (walkT it tg && (chkT sc NN own (fun _ => true) t (.inl tg) && (chkE N NN own k.cm k.ci it sc true ei && chkS N NN b { k with lo := some own } own own sc body)))))))
    | _ => false) := rfl
theorem chk1_whl {n} {c} {b} {k} {own} {own'} {sc} {st} : chk1 N NN (.whl n c b) k own own' sc st = (match st with
    | .While ec body [] _ => decide (own' = own) && (trOk k own && (k.cm && (chkE N NN own k.cm k.ci c sc false ec && chkS N NN b { k with lo := some own } own own sc body)))
    | _ => false) := rfl
theorem chk1_ret {e} {k} {own} {u1} {sc} {st} : chk1 N NN (.ret e) k own u1 sc st = (match st with
    | .Return (some ee) _ => trOk k own && (!k.ini && ((!k.nw || newE N own e) && chkE N NN own k.cm k.ci e sc false ee))
    | _ => false) := rfl
theorem chk1_retN {k} {u1} {u2} {u3} {st} : chk1 N NN .retN k u1 u2 u3 st = (match st with
    | .Return none _ => !k.ini
    | _ => false) := rfl
theorem chk1_brk {k} {own} {u1} {u2} {st} : chk1 N NN .brk k own u1 u2 st = (match st with
    | .Break _ => decide (k.lo = some own)
    | _ => false) := rfl
theorem chk1_cnt {k} {own} {u1} {u2} {st} : chk1 N NN .cnt k own u1 u2 st = (match st with
    | .Continue _ => decide (k.lo = some own)
    | _ => false) := rfl
theorem chk1_pass {u1} {own} {own'} {u2} {st} : chk1 N NN .pass u1 own own' u2 st = (match st with
    | .Pass _ => decide (own' = own)
    | _ => false) := rfl
theorem chk1_raise {c} {es} {k} {own} {u1} {sc} {st} : chk1 N NN (.raise c es) k own u1 sc st = (match st with
    | .Raise (some (.Call (.Name x _) (e1 :: ees) [] _)) none _ => trOk k own && (k.cm && (decide (c ∈ N.raised) && (decide (N.xn c = x) && (glb sc x && (nameOk x && (noSt es && chkA N NN own k.cm k.ci es sc (e1 :: ees)))))))
    | _ => false) := rfl
theorem chk1_try {b} {hs} {k} {own} {own'} {sc} {st} : chk1 N NN (.try_ b hs) k own own' sc st = (match st with
    | .Try body (h0 :: hds) [] [] _ => decide (own' = own) && (trOk k own && (k.cm && (!k.ini && (chkS N NN b { k with tr := some own } own own sc body && chkH N NN hs k own sc (h0 :: hds)))))
    | _ => false) := rfl
theorem chk1_expr {e} {k} {own} {own'} {sc} {st} : chk1 N NN (.expr e) k own own' sc st = (match st with
    | .Expr ee _ => decide (own' = own) && (trOk k own && (noComp ee && chkE N NN own k.cm k.ci e sc false ee))
    | _ => false) := rfl
theorem chkS_skip {u1} {own} {own'} {u2} {ss} : chkS N NN .skip u1 own own' u2 ss = (ss.isEmpty && decide (own' = own)) := rfl
theorem chkS_seq {a} {b} {k} {own} {own'} {sc} {ss} : chkS N NN (.seq a b) k own own' sc ss = (match ss with
    | st :: rest => chk1 N NN a k own (endO a own) sc st && chkS N NN b k (endO a own) own' sc rest
    | [] => false) := rfl
theorem chkS_frz {i} {b} {k} {own} {own'} {sc} {ss} : chkS N NN (.frz i b) k own own' sc ss = (own.contains i && (ownAt k i && (decide own.Nodup && chkS N NN b k (own.erase i) own' sc ss))) := rfl
theorem chkH_hnil {u1} {u2} {u3} {hds} : chkH N NN .hnil u1 u2 u3 hds = (hds.isEmpty) := rfl
theorem chkH_hcons {c} {i} {s} {rest} {k} {own} {sc} {hds} : chkH N NN (.hcons c i s rest) k own sc hds = (match hds with
    | .ExceptHandler (some (.Name x xp)) (some nm) (b0 :: suite) _ :: hds => xT N c sc (.Name x xp) && (decide (c = 0 ∨ c ∈ N.caught) && (decide (NN[i]? = some nm) && ((match sc.names.lookup nm with
        | some .local => true
        | _ => false) && (!own.contains i && (loFree k i && chkS N NN s { k with cm := false, ci := i, tr := none } own own sc (b0 :: suite) && chkH N NN rest k own sc hds)))))
    | _ => false) := rfl
end
end PD
end

section
set_option Elab.async false
set_option linter.all false
set_option maxRecDepth 100000
/-! PD19: what a statement promises; stores. -/
namespace PD
open PySem PySem.Spec PyProof.Rows L2
/-- a frame at a statement: H0 is what was there before, an the address of the object that slot 0 keeps -/
structure Lv (N : Info) (K : PySem.W.Frag) (own : List Nat) (env : Env) (σ : L2.St) (H : Hp) (A : List Addr) (ad : Nat → Addr) (H0 : Hp) (an : Option Addr) : Prop where
  frm : Frm N K own env σ H A ad
  base : Same H0 H
  new : ∀ a ∈ A, H0 a = none
  anc : ∀ a, an = some a → 0 ∈ own ∧ ad 0 = a
theorem Lv.mono {N : Info} {K : PySem.W.Frag} {own : List Nat} {env : Env} {σ : L2.St} {H H' : Hp} {A : List Addr} {ad : Nat → Addr} {H0 : Hp} {an : Option Addr} (L : Lv N K own env σ H A ad H0 an) (s : Same H H') : Lv N K own env σ H' A ad H0 an := ⟨L.frm.mono s, L.base.trans s, L.new, L.anc⟩
/-- the wish that meets what evaluation says -/
def WPS (N : Info) (X : Cx) (cur : Option Exn) (k : KP) (own' : List Nat) (H0 : Hp) (an : Option Addr) (D : Ends) (W : WX) (o : Out) : Prop := match o with
  | .nx e => ∀ σ H A ad, Lv N X.K own' e σ H A ad H0 an → CurOk N X A σ H k.cm cur k.ci → D.nx σ H
  | .bk e => ∀ l, k.lo = some l → ∀ σ H A ad, Lv N X.K l e σ H A ad H0 an → D.bk σ H
  | .ct e => ∀ l, k.lo = some l → ∀ σ H A ad, Lv N X.K l e σ H A ad H0 an → D.ct σ H
  | .rt d _ => ∀ v H, Same H0 H → Rp N X.K H v d → (k.nw = true → NewL N X.K H0 H v d) → D.rt v H
  | .ex x e => ∀ cls dx σ H, Same H0 H → cls = .ref (xA N X.K x.c) → XRep N X.K H x dx → (∀ t, k.tr = some t → ∃ A ad, Lv N X.K t e σ H A ad H0 an) → W cls dx σ H
  | .no => False
structure SSite (P : Prog) (N : Info) (n : Nat) (X : Cx) (W : WX) (sc : Scope) (NN : List Str) (cm : Bool) : Prop where
  site : Site P N n X W sc NN cm
  fn : ∀ x, X.fn x = true
  po : cm = true → PassesOwn (model X.prog X.w) X.A X.env X.xe
  stk : cm = true → X.stack = X.env :: X.outer
  frm : cm = true → X.env.frame = some X.env.locals
section
variable (P : Prog) (N : Info) (n : Nat) (NN : List Str)
def S1 (s : RS) : Prop := ∀ (X : Cx) (W : WX) (sc : Scope) (k : KP) (own own' : List Nat) (st : Stmt) (env : Env) (σ : L2.St) (H : Hp) (A : List Addr) (ad : Nat → Addr) (cur : Option Exn) (D : Ends) (H0 : Hp) (an : Option Addr),
  SSite P N n X W sc NN k.cm → chk1 N NN s k own own' sc st = true → Lv N X.K own env σ H A ad H0 an → (an ≠ none → k.ini = true) → CurOk N X A σ H k.cm cur k.ci → WPS N X cur k own' H0 an D W (evS (P.ctx n) cur s env) → wS X st D σ H
def SS (s : RS) : Prop := ∀ (X : Cx) (W : WX) (sc : Scope) (k : KP) (own own' : List Nat) (ss : List Stmt) (env : Env) (σ : L2.St) (H : Hp) (A : List Addr) (ad : Nat → Addr) (cur : Option Exn) (D : Ends) (H0 : Hp) (an : Option Addr),
  SSite P N n X W sc NN k.cm → chkS N NN s k own own' sc ss = true → Lv N X.K own env σ H A ad H0 an → (an ≠ none → k.ini = true) → CurOk N X A σ H k.cm cur k.ci → WPS N X cur k own' H0 an D W (evS (P.ctx n) cur s env) → wSs X ss D σ H
end
section
variable {P : Prog} {N : Info} {n : Nat} {NN : List Str}
theorem trOk_ok {k : KP} {own t : List Nat} (h : trOk k own = true) (e : k.tr = some t) : own = t := by
  unfold trOk at h
  rw [e] at h
  exact of_decide_eq_true h
/-- one expression ahead -/
theorem ss_step {X : Cx} {W : WX} {sc : Scope} {k : KP} {own own' : List Nat} {env : Env} {σ : L2.St} {H : Hp} {A : List Addr} {ad : Nat → Addr} {cur : Option Exn} {D : Ends} {H0 : Hp} {an : Option Addr} {e : RE} {ee : Expr} {f : PD.D → Out} {Q : VK}
    (S : SSite P N n X W sc NN k.cm) (hk : chkE N NN own k.cm k.ci e sc false ee = true) (ht : trOk k own = true) (L : Lv N X.K own env σ H A ad H0 an) (C : CurOk N X A σ H k.cm cur k.ci) (h : WPS N X cur k own' H0 an D W (.of (evE (P.ctx n) cur e env) env f))
    (g : ∀ d v H1, evE (P.ctx n) cur e env = .ok d → PostE N X.K H A own e d v H1 → Lv N X.K own env σ H1 A ad H0 an → CurOk N X A σ H1 k.cm cur k.ci → WPS N X cur k own' H0 an D W (f d) → Q v H1) : wE X ee σ H Q := by
  refine (all_expr e).se X W sc ee env σ H A ad cur _ S.site hk L.frm C ?_
  cases he : evE (P.ctx n) cur e env with
  | no => rw [he] at h; exact h.elim
  | ex x =>
    rw [he] at h
    exact fun cls dx H' p => h cls dx σ H' (L.base.trans p.same) p.cls p.rep fun t q => ⟨A, ad, by rw [← trOk_ok ht q]; exact L.mono p.same⟩
  | ok d => rw [he] at h; exact fun v H1 p => g d v H1 he p (L.mono p.same) (C.mono p.same) h
theorem ss_stepA {X : Cx} {W : WX} {sc : Scope} {k : KP} {own own' : List Nat} {env : Env} {σ : L2.St} {H : Hp} {A : List Addr} {ad : Nat → Addr} {cur : Option Exn} {D : Ends} {H0 : Hp} {an : Option Addr} {e : RE} {es : List Expr} {f : PD.D → Out} {Q : List V → Hp → Prop}
    (S : SSite P N n X W sc NN k.cm) (hk : chkA N NN own k.cm k.ci e sc es = true) (ht : trOk k own = true) (L : Lv N X.K own env σ H A ad H0 an) (C : CurOk N X A σ H k.cm cur k.ci) (h : WPS N X cur k own' H0 an D W (.of (evE (P.ctx n) cur e env) env fun y => match y with
      | .tup ys => f (.tup ys)
      | _ => .no))
    (g : ∀ ds vs H1, Same H H1 → Rps N X.K (sub H1 (bA (leak own e) A)) vs ds → Lv N X.K own env σ H1 A ad H0 an → CurOk N X A σ H1 k.cm cur k.ci → WPS N X cur k own' H0 an D W (f (.tup ds)) → Q vs H1) : wA X es σ H Q := by
  refine (all_expr e).sa X W sc es env σ H A ad cur _ S.site hk L.frm C ?_
  cases he : evE (P.ctx n) cur e env with
  | no => rw [he] at h; exact h.elim
  | ex x =>
    rw [he] at h
    exact fun cls dx H' p => h cls dx σ H' (L.base.trans p.same) p.cls p.rep fun t q => ⟨A, ad, by rw [← trOk_ok ht q]; exact L.mono p.same⟩
  | ok d =>
    rw [he] at h
    cases d <;> first | exact h.elim | exact fun vs H1 s rp => g _ vs H1 s rp (L.mono s) (C.mono s) h

/-! ### stores -/
theorem SSite.loc {X : Cx} {W : WX} {sc : Scope} {cm : Bool} (S : SSite P N n X W sc NN cm) {x : Str} (h : loc sc x = true) : L2.Loc X.env.scope x := by
  rw [S.site.sc]
  exact loc_ok h
theorem SSite.nm {X : Cx} {W : WX} {sc : Scope} {cm : Bool} (S : SSite P N n X W sc NN cm) {x : Str} {i : Nat} (h : decide (NN[i]? = some x) = true) : X.N[i]? = some x := by
  rw [S.site.nn]
  exact of_decide_eq_true h
theorem SSite.nd {X : Cx} {W : WX} {sc : Scope} {cm : Bool} (S : SSite P N n X W sc NN cm) : X.N.Nodup := by rw [S.site.nn]; exact S.site.nd
theorem setA_cases {N : Info} {X : Cx} {cur : Option Exn} {k : KP} {own' : List Nat} {H0 : Hp} {an : Option Addr} {D : Ends} {W : WX} {env : Env} {i : Nat} {d : PD.D} (h : WPS N X cur k own' H0 an D W (setA env i d)) : i < env.length ∧ ∀ σ H A ad, Lv N X.K own' (env.set i d) σ H A ad H0 an → CurOk N X A σ H k.cm cur k.ci → D.nx σ H := by
  unfold setA at h
  split at h
  · exact ⟨by assumption, h⟩
  · exact h.elim
theorem freeAt_ok {k : KP} {own : List Nat} {i : Nat} (h : freeAt k own i = true) : i ∉ own ∧ (k.cm = false → i ≠ k.ci) := by
  obtain ⟨h1, h2⟩ := and_t h
  refine ⟨fun z => ?_, fun q => ?_⟩
  · rw [List.contains_iff_mem.mpr z] at h1; cases h1
  · rw [q] at h2
    exact of_decide_eq_true (by simpa using h2)
theorem CurOk.set {X : Cx} {A : List Addr} {σ : L2.St} {H : Hp} {k : KP} {cur : Option Exn} {i : Nat} {v : Option V} (C : CurOk N X A σ H k.cm cur k.ci) (h : k.cm = false → i ≠ k.ci) : CurOk N X A (σ.set i v) H k.cm cur k.ci where
  calm := C.calm
  at_ := fun x q => by
    have hc : k.cm = false := by
      cases e : k.cm with
      | false => rfl
      | true => rw [C.calm e] at q; cases q
    obtain ⟨X0, a, oe, pn, dx, h1, h2, h3, h4, h5⟩ := C.at_ x q
    exact ⟨X0, a, oe, pn, dx, h1, h2, h3, h4, by rw [List.getElem?_set_ne (h hc)]; exact h5⟩
section
variable {K : PySem.W.Frag} {own : List Nat} {env : Env} {σ : L2.St} {H H1 : Hp} {A : List Addr} {ad : Nat → Addr} {H0 : Hp} {an : Option Addr}
theorem Lv.set (L : Lv N K own env σ H A ad H0 an) {i : Nat} {v : V} {d : PD.D} (hi : i ∉ own) (hl : i < env.length) (r : Rp N K (sub H A) v d) : Lv N K own (env.set i d) (σ.set i (some v)) H A ad H0 an := ⟨L.frm.set hi hl r, L.base, L.new, L.anc⟩
theorem insO_mem {i j : Nat} {own : List Nat} : j ∈ insO i own ↔ j = i ∨ j ∈ own := by
  unfold insO
  split
  · rename_i h
    have h := List.contains_iff_mem.mp h
    constructor
    · exact .inr
    · rintro (rfl | h2)
      · exact h
      · exact h2
  · exact List.mem_cons
theorem Own.to {A' : List Addr} {b : Addr} (s : Same H H1) (s2 : Same (sub H A) (sub H1 A')) (h : ∀ c ∈ A, c ∈ A') : ∀ {d : PD.D}, Own N K H A b d → Own N K H1 A' b d
  | .lst ds, ⟨vs, h1, r⟩ => ⟨vs, s _ _ h1, r.mono s2⟩
  | .dic ks ds, ⟨kvs, h1, n, r⟩ => ⟨kvs, s _ _ h1, n, r.mono s2⟩
  | .ins c ds, ⟨dx, fs, hc, m, h1, n, r⟩ => ⟨dx, fs, hc, h _ m, s _ _ h1, n, r.mono s2⟩
  | .un, h => h.elim
  | .non, h => h.elim
  | .bl _, h => h.elim
  | .int _, h => h.elim
  | .str _, h => h.elim
  | .tup _, h => h.elim
  | .dik _ _, h => h.elim
  | .rng _ _, h => h.elim
  | .dit _ _, h => h.elim
/-- a new object that becomes slot i's own -/
theorem Lv.setOwn (L : Lv N K own env σ H A ad H0 an) {i : Nat} {a : Addr} {d : PD.D} (hl : i < env.length) (ha : a ∉ A) (h0 : H0 a = none) (hr : (∃ xs, H a = some (.lst xs)) ∨ (∃ kvs, H a = some (.dT kvs)) ∨ (∃ kvs, H a = some (.dK kvs))) (o : Own N K H (a :: A) a d) (hv : ∀ j dj vj, env[j]? = some dj → dj ≠ .un → j ∉ own → j ≠ i → σ[j]? = some (some vj) → Rp N K (sub H A) vj dj → Rp N K (sub H (a :: A)) vj dj) (ho : ∀ j ∈ own, ∃ dj, env[j]? = some dj ∧ σ[j]? = some (some (.ref (ad j))) ∧ Own N K H (a :: A) (ad j) dj) (hai : an ≠ none → i ≠ 0) :
    Lv N K (insO i own) (env.set i d) (σ.set i (some (.ref a))) H (a :: A) (fun j => if j = i then a else ad j) H0 an where
  base := L.base
  new := fun b hb => by
    rcases List.mem_cons.mp hb with rfl | hb
    · exact h0
    · exact L.new b hb
  anc := fun b hb => by
    obtain ⟨h1, h2⟩ := L.anc b hb
    have ne : i ≠ 0 := hai (by rw [hb]; exact fun z => by cases z)
    exact ⟨insO_mem.mpr (.inr h1), by show (if 0 = i then a else ad 0) = b; rw [if_neg (Ne.symm ne)]; exact h2⟩
  frm := {
    len := by rw [List.length_set, List.length_set]; exact L.frm.len
    aok := fun b hb => by
      rcases List.mem_cons.mp hb with rfl | hb
      · rcases hr with h | h | h
        · exact .inl h
        · exact .inr (.inl h)
        · exact .inr (.inr (.inl h))
      · rcases L.frm.aok b hb with h | h | h | ⟨C, dx, fs, h, hx⟩ | ⟨x, h, hx⟩
        · exact .inl h
        · exact .inr (.inl h)
        · exact .inr (.inr (.inl h))
        · exact .inr (.inr (.inr (.inl ⟨C, dx, fs, h, List.mem_cons_of_mem _ hx.1, hx.2⟩)))
        · exact .inr (.inr (.inr (.inr ⟨x, h, List.mem_cons_of_mem _ hx.1, hx.2⟩)))
    inA := fun j hj => by
      show (if j = i then a else ad j) ∈ a :: A
      split
      · exact List.mem_cons_self
      · rename_i ne
        exact List.mem_cons_of_mem _ (L.frm.inA j ((insO_mem.mp hj).resolve_left ne))
    inj := fun j hj l hl' e => by
      have e : (if j = i then a else ad j) = (if l = i then a else ad l) := e
      by_cases h1 : j = i
      · by_cases h2 : l = i
        · rw [h1, h2]
        · rw [if_pos h1, if_neg h2] at e
          exact absurd (by rw [e]; exact L.frm.inA l ((insO_mem.mp hl').resolve_left h2)) ha
      · by_cases h2 : l = i
        · rw [if_neg h1, if_pos h2] at e
          exact absurd (by rw [← e]; exact L.frm.inA j ((insO_mem.mp hj).resolve_left h1)) ha
        · rw [if_neg h1, if_neg h2] at e
          exact L.frm.inj j ((insO_mem.mp hj).resolve_left h1) l ((insO_mem.mp hl').resolve_left h2) e
    val := fun j dj h nu nj => by
      have ne : i ≠ j := fun z => nj (insO_mem.mpr (.inl z.symm))
      have nj' : j ∉ own := fun z => nj (insO_mem.mpr (.inr z))
      rw [List.getElem?_set_ne ne] at h
      rw [List.getElem?_set_ne ne]
      obtain ⟨v, q, r⟩ := L.frm.val j dj h nu nj'
      exact ⟨v, q, hv j dj v h nu nj' (Ne.symm ne) q r⟩
    ownv := fun j hj => by
      by_cases h1 : j = i
      · subst h1
        refine ⟨d, List.getElem?_set_self hl, ?_, ?_⟩
        · rw [List.getElem?_set_self (by rw [L.frm.len]; exact hl), if_pos rfl]
        · rw [if_pos rfl]; exact o
      · have ne : i ≠ j := Ne.symm h1
        obtain ⟨dj, q, r, oj⟩ := ho j ((insO_mem.mp hj).resolve_left h1)
        refine ⟨dj, by rw [List.getElem?_set_ne ne]; exact q, by rw [List.getElem?_set_ne ne, if_neg h1]; exact r, ?_⟩
        rw [if_neg h1]
        exact oj }
/-- .. whatever the heap had before it does not hang on it -/
theorem Lv.grown (L : Lv N K own env σ H A ad H0 an) (s : Same H H1) {i : Nat} {a : Addr} {d : PD.D} (hl : i < env.length) (hn : H a = none) (hr : (∃ xs, H1 a = some (.lst xs)) ∨ (∃ kvs, H1 a = some (.dT kvs)) ∨ (∃ kvs, H1 a = some (.dK kvs))) (o : Own N K H1 (a :: A) a d) (hai : an ≠ none → i ≠ 0) :
    Lv N K (insO i own) (env.set i d) (σ.set i (some (.ref a))) H1 (a :: A) (fun j => if j = i then a else ad j) H0 an := by
  have s2 : Same (sub H A) (sub H1 (a :: A)) := sub_to s fun b hb => by
    rcases List.mem_cons.mp hb with rfl | hb
    · exact .inr hn
    · exact .inl hb
  have L1 := L.mono s
  have ha : a ∉ A := L.frm.aok.out hn
  refine L1.setOwn hl ha (Same.none L.base hn) hr o (fun j dj vj h1 h2 h3 h4 h5 _ => ?_) (fun j hj => ?_) hai
  · obtain ⟨v, q, r⟩ := L.frm.val j dj h1 h2 h3
    rw [h5] at q
    cases q
    exact r.mono s2
  · obtain ⟨dj, q, r, oj⟩ := L.frm.ownv j hj
    exact ⟨dj, q, r, oj.to s s2 fun b hb => List.mem_cons_of_mem _ hb⟩
/-- slot i is as any other -/
theorem Lv.frz (L : Lv N K own env σ H A ad H0 an) {i : Nat} (hi : i ∈ own) (hai : an ≠ none → i ≠ 0) (hnd : own.Nodup) (hd : ∀ c ds, env[i]? ≠ some (.ins c ds)) : Lv N K (own.erase i) env σ H (A.filter (fun b => decide (b ≠ ad i))) ad H0 an := by
  obtain ⟨d, q, r, o⟩ := L.frm.ownv i hi
  have hm : ∀ {j}, j ∈ own.erase i ↔ j ≠ i ∧ j ∈ own := fun {j} => hnd.mem_erase_iff
  have hs : Same (sub H A) (sub H (A.filter fun b => decide (b ≠ ad i))) := sub_le fun b hb => (List.mem_filter.mp hb).1
  have nA : ad i ∉ A.filter (fun b => decide (b ≠ ad i)) := fun z => by
    have := (List.mem_filter.mp z).2
    simp at this
  have no : ∀ {x C : Addr} {dx : Addr} {fs : List (Str × V)}, H x = some (.ins C dx fs) → x ≠ ad i := fun {x C dx fs} h z => by
    rw [z] at h
    cases d with
    | lst ds => obtain ⟨_, h2, _⟩ := o; rw [h] at h2; cases h2
    | dic ks ds => obtain ⟨_, h2, _⟩ := o; rw [h] at h2; cases h2
    | ins c ds => exact hd c ds q
    | _ => exact o.elim
  have no2 : ∀ {x : Addr}, H (ad i) ≠ some (.own x) := fun {x} h => by
    cases d with
    | lst ds => obtain ⟨_, h2, _⟩ := o; rw [h] at h2; cases h2
    | dic ks ds => obtain ⟨_, h2, _⟩ := o; rw [h] at h2; cases h2
    | ins c ds => exact hd c ds q
    | _ => exact o.elim
  refine ⟨⟨L.frm.len, fun b hb => ?_, fun j hj => ?_, fun j hj l hl' e => ?_, fun j dj h nu nj => ?_, fun j hj => ?_⟩, L.base, fun b hb => L.new b (List.mem_filter.mp hb).1, fun b hb => ?_⟩
  · have hbA := (List.mem_filter.mp hb).1
    rcases L.frm.aok b hbA with h | h | h | ⟨C, dx, fs, h, hx⟩ | ⟨x, h, hx⟩
    · exact .inl h
    · exact .inr (.inl h)
    · exact .inr (.inr (.inl h))
    · refine .inr (.inr (.inr (.inl ⟨C, dx, fs, h, ?_, hx.2⟩)))
      exact List.mem_filter.mpr ⟨hx.1, decide_eq_true fun z => no2 (x := b) (by rw [← z]; exact hx.2)⟩
    · obtain ⟨hx, C, fs, h2⟩ := hx
      exact .inr (.inr (.inr (.inr ⟨x, h, List.mem_filter.mpr ⟨hx, decide_eq_true (no h2)⟩, C, fs, h2⟩)))
  · obtain ⟨h1, h2⟩ := hm.mp hj
    refine List.mem_filter.mpr ⟨L.frm.inA j h2, ?_⟩
    exact decide_eq_true fun e => h1 (L.frm.inj j h2 i hi e)
  · exact L.frm.inj j (hm.mp hj).2 l (hm.mp hl').2 e
  · by_cases hj : j = i
    · subst hj
      rw [q] at h
      cases h
      refine ⟨.ref (ad j), r, ?_⟩
      cases d with
      | lst ds => obtain ⟨vs, h2, r2⟩ := o; exact .lst (.inl (.inl (by rw [sub_out nA]; exact h2))) (r2.mono hs)
      | dic ks ds => obtain ⟨kvs, h2, h3, r2⟩ := o; subst h3; exact .dic (by rw [sub_out nA]; exact h2) (r2.mono hs)
      | ins c ds => exact absurd q (hd c ds)
      | _ => exact o.elim
    · obtain ⟨v, q2, r2⟩ := L.frm.val j dj h nu fun z => nj (hm.mpr ⟨hj, z⟩)
      exact ⟨v, q2, r2.mono hs⟩
  · obtain ⟨h1, h2⟩ := hm.mp hj
    obtain ⟨dj, q2, r2, oj⟩ := L.frm.ownv j h2
    refine ⟨dj, q2, r2, ?_⟩
    cases dj with
    | lst ds => obtain ⟨vs, h3, r3⟩ := oj; exact ⟨vs, h3, r3.mono hs⟩
    | dic ks ds => obtain ⟨kvs, h3, h4, r3⟩ := oj; exact ⟨kvs, h3, h4, r3.mono hs⟩
    | ins c ds =>
      obtain ⟨dx, fs, hc, m, h3, h4, r3⟩ := oj
      refine ⟨dx, fs, hc, List.mem_filter.mpr ⟨m, decide_eq_true fun z => ?_⟩, h3, h4, r3.mono hs⟩
      rcases L.frm.aok _ (L.frm.inA j h2) with ⟨_, q5⟩ | ⟨_, q5⟩ | ⟨_, q5⟩ | ⟨_, _, _, q5, _, q6⟩ | ⟨_, q5, _⟩ <;> rw [h3] at q5 <;> cases q5
      rw [z] at q6
      exact no2 q6
    | _ => exact oj.elim
  · obtain ⟨h1, h2⟩ := L.anc b hb
    have ne : i ≠ 0 := hai (by rw [hb]; exact fun z => by cases z)
    exact ⟨hm.mpr ⟨Ne.symm ne, h1⟩, h2⟩
end
end
end PD
end

section
set_option Elab.async false
set_option linter.all false
set_option maxRecDepth 100000
/-! PD20: simple statements. -/
namespace PD
open PySem PySem.Spec PyProof.Rows L2
section
variable {P : Prog} {N : Info} {n : Nat} {NN : List Str}
section
variable {K : PySem.W.Frag} {own : List Nat} {env : Env} {σ : L2.St} {H : Hp} {A : List Addr} {ad : Nat → Addr} {H0 : Hp} {an : Option Addr}
/-- the same kind of object -/
def SameKind (o o' : HO) : Prop := match o, o' with
  | .lst _, .lst _ => True
  | .dT _, .dT _ => True
  | .ins C dx _, .ins C' dx' _ => C = C' ∧ dx = dx'
  | _, _ => False
theorem aok_write (c : AOk H A) {a : Addr} {o o' : HO} (ha : H a = some o) (k : SameKind o o') : AOk (upd H a o') A := fun b hb => by
  by_cases e : b = a
  · subst e
    rcases c b hb with ⟨_, q⟩ | ⟨_, q⟩ | ⟨_, q⟩ | ⟨_, _, _, q, hx, hy⟩ | ⟨_, q, hx⟩ <;> rw [ha] at q <;> cases q <;> cases o' <;> first | exact k.elim | skip
    · exact .inl ⟨_, upd_same⟩
    · exact .inr (.inl ⟨_, upd_same⟩)
    · obtain ⟨rfl, rfl⟩ := k
      refine .inr (.inr (.inr (.inl ⟨_, _, _, upd_same, hx, ?_⟩)))
      rw [upd_ne]
      · exact hy
      · intro z; rw [z, ha] at hy; cases hy
  · rcases c b hb with ⟨_, q⟩ | ⟨_, q⟩ | ⟨_, q⟩ | ⟨_, _, _, q, hx, hy⟩ | ⟨x, q, hx, C, fs, hy⟩
    · exact .inl ⟨_, by rw [upd_ne e]; exact q⟩
    · exact .inr (.inl ⟨_, by rw [upd_ne e]; exact q⟩)
    · exact .inr (.inr (.inl ⟨_, by rw [upd_ne e]; exact q⟩))
    · refine .inr (.inr (.inr (.inl ⟨_, _, _, by rw [upd_ne e]; exact q, hx, ?_⟩)))
      rw [upd_ne]
      · exact hy
      · intro z
        rw [z, ha] at hy
        cases hy
        cases o' <;> exact k.elim
    · refine .inr (.inr (.inr (.inr ⟨x, by rw [upd_ne e]; exact q, hx, ?_⟩)))
      by_cases e2 : x = a
      · subst e2
        rw [ha] at hy
        cases hy
        cases o' <;> first | exact k.elim | skip
        obtain ⟨rfl, rfl⟩ := k
        exact ⟨_, _, upd_same⟩
      · exact ⟨C, fs, by rw [upd_ne e2]; exact hy⟩
/-- slot i's own object is written -/
theorem Lv.wr (L : Lv N K own env σ H A ad H0 an) {i : Nat} (hi : i ∈ own) {o o' : HO} {d : PD.D} (ha : H (ad i) = some o) (k : SameKind o o') (hl : i < env.length) (hw : Own N K (upd H (ad i) o') A (ad i) d) : Lv N K own (env.set i d) σ (upd H (ad i) o') A ad H0 an where
  base := fun b u h => by
    have ne : b ≠ ad i := fun z => by rw [z, L.new _ (L.frm.inA i hi)] at h; cases h
    rw [upd_ne ne]
    exact L.base b u h
  new := L.new
  anc := L.anc
  frm := {
    len := by rw [List.length_set]; exact L.frm.len
    aok := aok_write L.frm.aok ha k
    inA := L.frm.inA
    inj := L.frm.inj
    val := fun j dj h nu nj => by
      have ne : i ≠ j := fun z => nj (by rw [← z]; exact hi)
      rw [List.getElem?_set_ne ne] at h
      obtain ⟨v, q, r⟩ := L.frm.val j dj h nu nj
      exact ⟨v, q, by rw [sub_upd (L.frm.inA i hi)]; exact r⟩
    ownv := fun j hj => by
      by_cases e : j = i
      · subst e
        obtain ⟨_, _, r, _⟩ := L.frm.ownv j hj
        exact ⟨d, List.getElem?_set_self hl, r, hw⟩
      · obtain ⟨dj, q, r, oj⟩ := L.frm.ownv j hj
        exact ⟨dj, by rw [List.getElem?_set_ne (Ne.symm e)]; exact q, r, oj.upd (L.frm.inA i hi) fun z => e (L.frm.inj j hj i hi z)⟩ }
end
theorem cur_calm {X : Cx} {A A' : List Addr} {σ σ' : L2.St} {H H' : Hp} {k : KP} {cur : Option Exn} (C : CurOk N X A σ H k.cm cur k.ci) (h : k.cm = true) : CurOk N X A' σ' H' k.cm cur k.ci := ⟨C.calm, fun x q => by rw [C.calm h] at q; cases q⟩
theorem cur_setA {X : Cx} {A A' : List Addr} {σ : L2.St} {H : Hp} {k : KP} {cur : Option Exn} (C : CurOk N X A σ H k.cm cur k.ci) : CurOk N X A' σ H k.cm cur k.ci := ⟨C.calm, C.at_⟩

/-! ### x = e -/
theorem swapOk_text {sc : Scope} {x : Str} {px : Pos} {ee : Expr} (h : swapOk NN sc x px ee = true) : (noComp ee = true ∨ sc.names.lookup x = some .cell) ∨ ∃ elt gens scope p, ee = .ListComp elt gens scope p ∧ sc.names.lookup x = some .local ∧ (px.line == p.line) = true ∧ (scope.names.any fun (n, k) => n == x && (k == .local || k == .cell)) = false := by
  cases ee <;> first | exact .inl (.inl h) | skip
  rename_i elt gens scope p
  rcases (Bool.or_eq_true _ _).mp h with h | h
  · left; right
    split at h
    · assumption
    · cases h
  obtain ⟨h1, h⟩ := and_t h
  obtain ⟨h2, h3⟩ := and_t h
  refine .inr ⟨elt, gens, scope, p, rfl, ?_, h2, by simpa using h3⟩
  split at h1
  · assumption
  · cases h1
theorem sw_cell {x : Str} {px : Pos} {e : Expr} {l : Nat} {env : PySem.Env} (h : env.scope.names.lookup x = some .cell) : swapsWith e (some (.Name x px)) l env = pure false := by
  have hk : (env.kindOf x == some .local) = false := by
    show (env.scope.names.lookup x == some .local) = false
    rw [h]
    rfl
  cases e <;> first | rfl | (unfold swapsWith; simp only [hk, Bool.and_false, Bool.false_and])
theorem comp_of_text {own : List Nat} {cm : Bool} {ci : Nat} {e : RE} {sc : Scope} {wk : Bool} {elt : Expr} {gens : List Comprehension} {scope : Scope} {p : Pos} (h : chkE N NN own cm ci e sc wk (.ListComp elt gens scope p) = true) : ∃ cown t it b, e = .comp cown t it b := by
  cases e <;> first | exact ⟨_, _, _, _, rfl⟩ | cases h
theorem set_any {X : Cx} {W : WX} {sc : Scope} {k : KP} {own : List Nat} {env : Env} {σ : L2.St} {H : Hp} {A : List Addr} {ad : Nat → Addr} {cur : Option Exn} {D : Ends} {e : RE} {ee : Expr} {i : Nat} {x : Str} {px pos : Pos}
    (S : SSite P N n X W sc NN k.cm) (h1 : decide (NN[i]? = some x) = true) (h2 : loc sc x = true) (h3 : swapOk NN sc x px ee = true) (hk : chkE N NN own k.cm k.ci e sc false ee = true) (F : Frm N X.K own env σ H A ad) (C : CurOk N X A σ H k.cm cur k.ci)
    (h : WPE N X.K W own e σ H A (evE (P.ctx n) cur e env) (fun v H1 => D.nx (σ.set i (some v)) H1)) : wS X (.Assign [.Name x px] ee pos) D σ H := by
  have hN := S.nm h1
  have hl := S.loc h2
  rcases swapOk_text h3 with (hc | hc) | ⟨elt, gens, scope, p, rfl, hloc, hline, hno⟩
  rotate_left
  · exact toS (ps_set S.nd hN hl pe_w (sw_cell (by rw [S.site.sc]; exact hc)) (.inl (S.fn x))) ((all_expr e).se X W sc ee env σ H A ad cur _ S.site hk F C h)
  rotate_left
  · exact toS (ps_set S.nd hN hl pe_w (noComp_ok hc _ _ _) (.inl (S.fn x))) ((all_expr e).se X W sc ee env σ H A ad cur _ S.site hk F C h)
  · obtain ⟨cown, t, it, b, rfl⟩ := comp_of_text hk
    obtain ⟨hcm, elt', tg, iter, ifs, gens', scope', pos', et, k1, k2, k3, k4, k5, k6, k7, k8, k9⟩ := comp_text hk
    cases et
    generalize k.cm = cm at *
    subst hcm
    obtain rfl := C.calm rfl
    have hyl : X.env.scope.names.lookup x = some .local := by rw [S.site.sc]; exact hloc
    intro pins s I
    have hsw : swapsWith (.ListComp elt (⟨tg, iter, ifs, 0⟩ :: gens') scope p) (some (.Name x px)) pos.line X.env = pure true := sw_true I.ok.kind hyl hline hno
    rw [exec_Assign_Name_used _ _ _ _ hsw]
    refine wpAny_bind (wpAny_standAt (wpAny_bind ?_))
    show wpAny _ X.A (do let _ ← comprehension (.ListComp elt (⟨tg, iter, ifs, 0⟩ :: gens') scope p) scope X.env (firstIterPos (⟨tg, iter, ifs, 0⟩ :: gens') p) (newList []) false (eval iter X.env) (some (assign (.Name x px) X.env))) _ _ s
    refine wpAny_bind (thn (comp_core (Qf := fun _ s' => SP X pins D .next s') (all_expr it).si ((all_expr b).sc rfl) S.site F I k1 k2 k3 k4 k5 k6 k7 k8 k9 h fun L C s' m H' I' q hn f => ?_) fun _ s' hq => wpAny_pure (wpAny_pure hq))
    show wpAny _ _ (assign (.Name x px) X.env (.ref L)) _ _ _
    refine wpAny_assign_Name (store_ok2 (v := V.ref L) I' S.nd hN (.inl hyl) rfl (fun s2 I2 ⟨a, sb, ha⟩ => ?_) (.inr hyl))
    obtain ⟨f0, f1, f2, f3, f4, f5⟩ := f
    have haC : C ≠ a := by
      rcases ha with z | z
      · rw [z]; exact f1
      · exact fun e => f4 x a z e.symm
    refine ⟨m, hn.sameBut sb haC, fun h3 sb3 => ?_⟩
    exact ⟨_, H', I2.turned (t' := s2.toks) (fun b o hb e => (sb3.2 b hb).trans e) f0 f1 f3 f4 f5, q⟩
/-- what evaluation says, with a wish of a statement behind it -/
theorem wpe_of {X : Cx} {W : WX} {cur : Option Exn} {k : KP} {own own' : List Nat} {env : Env} {σ : L2.St} {H : Hp} {A : List Addr} {ad : Nat → Addr} {D : Ends} {H0 : Hp} {an : Option Addr} {e : RE} {res : R PD.D} {f : PD.D → Out} {Q : VK}
    (ht : trOk k own = true) (L : Lv N X.K own env σ H A ad H0 an) (h : WPS N X cur k own' H0 an D W (.of res env f)) (g : ∀ d v H1, PostE N X.K H A own e d v H1 → WPS N X cur k own' H0 an D W (f d) → Q v H1) : WPE N X.K W own e σ H A res Q := by
  cases res with
  | no => exact h.elim
  | ex x => exact fun cls dx H' p => h cls dx σ H' (L.base.trans p.same) p.cls p.rep fun t q => ⟨A, ad, by rw [← trOk_ok ht q]; exact L.mono p.same⟩
  | ok d => exact fun v H1 p => g d v H1 p h
theorem s1_asg {i : Nat} {e : RE} : S1 P N n NN (.asg i e) := fun X W sc k own own' st env σ H A ad cur D H0 an S hk L hini C h => by
  rw [chk1_asg] at hk
  split at hk
  case h_2 => cases hk
  case h_1 x px ee pos =>
    obtain ⟨k0, hk⟩ := and_t hk
    obtain ⟨k1, hk⟩ := and_t hk
    obtain ⟨k2, hk⟩ := and_t hk
    obtain ⟨k3, hk⟩ := and_t hk
    obtain ⟨k4, hk⟩ := and_t hk
    obtain ⟨k5, hk⟩ := and_t hk
    obtain ⟨k6, k7⟩ := and_t hk
    obtain rfl : own' = own := of_decide_eq_true k0
    have hlk : leak own' e = false := by simpa using k5
    obtain ⟨f1, f2⟩ := freeAt_ok k4
    rw [evS_asg] at h
    refine set_any S k2 k3 k6 k7 L.frm C (wpe_of k1 L h fun d v H1 p h1 => ?_)
    obtain ⟨hl, h1⟩ := setA_cases h1
    have rp := p.rp
    rw [hlk] at rp
    exact h1 _ _ A ad ((L.mono p.same).set f1 hl rp) ((C.mono p.same).set f2)
theorem ownAt_ok {k : KP} {i : Nat} {an : Option Addr} (h : ownAt k i = true) (hini : an ≠ none → k.ini = true) : k.cm = true ∧ k.tr = none ∧ (an ≠ none → i ≠ 0) := by
  obtain ⟨h1, h2⟩ := and_t h
  obtain ⟨h2, h3⟩ := and_t h2
  refine ⟨h1, by simpa using h2, fun z e => ?_⟩
  rw [hini z, e] at h3
  cases h3
theorem s1_asgF {i : Nat} {e : RE} : S1 P N n NN (.asgF i e) := fun X W sc k own own' st env σ H A ad cur D H0 an S hk L hini C h => by
  rw [chk1_asgF] at hk
  split at hk
  case h_2 => cases hk
  case h_1 x px ee pos =>
    obtain ⟨k0, hk⟩ := and_t hk
    obtain ⟨k1, hk⟩ := and_t hk
    obtain ⟨k2, hk⟩ := and_t hk
    obtain ⟨k3, hk⟩ := and_t hk
    obtain ⟨k4, hk⟩ := and_t hk
    obtain ⟨k5, hk⟩ := and_t hk
    obtain ⟨k6, hk⟩ := and_t hk
    obtain ⟨k7, k8⟩ := and_t hk
    obtain rfl : own' = insO i own := of_decide_eq_true k0
    have hlk : leak own e = false := by simpa using k6
    obtain ⟨c1, c2, c3⟩ := ownAt_ok k4 hini
    rw [evS_asgF] at h
    refine set_any S k2 k3 k7 k8 L.frm C (wpe_of k1 L h fun d v H1 p h1 => ?_)
    cases d <;> first | exact h1.elim | skip
    obtain ⟨hl, h1⟩ := setA_cases h1
    obtain ⟨a, rfl, hn, o⟩ := p.fr k5 hlk _ rfl
    refine h1 _ _ (a :: A) _ (L.grown p.same hl hn ?_ o c3) (cur_calm C c1)
    obtain ⟨vs, q, _⟩ := o
    exact .inl ⟨_, q⟩
theorem s1_newT {i : Nat} : S1 P N n NN (.newT i) := fun X W sc k own own' st env σ H A ad cur D H0 an S hk L hini C h => by
  rw [chk1_newT] at hk
  split at hk
  case h_2 => cases hk
  case h_1 x px dp pos =>
    obtain ⟨k0, hk⟩ := and_t hk
    obtain ⟨k1, hk⟩ := and_t hk
    obtain ⟨k2, k3⟩ := and_t hk
    obtain rfl : own' = insO i own := of_decide_eq_true k0
    obtain ⟨c1, c2, c3⟩ := ownAt_ok k3 hini
    rw [evS_newT] at h
    obtain ⟨hl, h⟩ := setA_cases h
    refine toS (ps_set S.nd (S.nm k1) (S.loc k2) pe_dnewT rfl (.inl (S.fn x))) fun p hp => ?_
    exact h _ _ (p :: A) _ (L.grown (same_upd hp) hl hp (.inr (.inl ⟨_, upd_same⟩)) ⟨[], upd_same, rfl, .nil⟩ c3) (cur_calm C c1)
/-! ### targets, appends, stores -/
theorem tgt_noswap {tg : Expr} (h : isTgt tg = true) (e : Expr) (l : Nat) (env : PySem.Env) : swapsWithSole [tg] e l env = pure false := by
  cases tg <;> first | (cases e <;> rfl) | cases h
theorem s1_asgT {t : RT} {e : RE} : S1 P N n NN (.asgT t e) := fun X W sc k own own' st env σ H A ad cur D H0 an S hk L hini C h => by
  rw [chk1_asgT] at hk
  split at hk
  case h_2 => cases hk
  case h_1 tg ee pos =>
    obtain ⟨k0, hk⟩ := and_t hk
    obtain ⟨k1, hk⟩ := and_t hk
    obtain ⟨k2, hk⟩ := and_t hk
    obtain ⟨k3, hk⟩ := and_t hk
    obtain ⟨k4, hk⟩ := and_t hk
    obtain ⟨k5, hk⟩ := and_t hk
    obtain ⟨k6, hk⟩ := and_t hk
    obtain ⟨k7, k8⟩ := and_t hk
    obtain rfl : own' = own := of_decide_eq_true k0
    have hlk : leak own' e = false := by simpa using k6
    rw [evS_asgT] at h
    have ha : (assignEach [tg] X.env).map (·.2) = [assign tg X.env] := by
      cases tg <;> first | rfl | cases k3
    refine toS (ps_asg pe_w pg_w (tgt_noswap k5 _ _ _) (notTup_ok k4 _ _) ha) ?_
    refine ss_step S k8 k1 L C h fun d v H1 _ p L1 C1 h1 => ?_
    show wG X tg v σ H1 D.nx
    have h1 : WPS N X cur k own' H0 an D W (match PD.asgT t d env with
      | some e => .nx e
      | none => .no) := h1
    cases hu : PD.asgT t d env with
    | none => rw [hu] at h1; exact h1.elim
    | some e1 =>
      rw [hu] at h1
      have rp := p.rp
      rw [hlk] at rp
      exact (sg_asg (n := n) (cm := k.cm) S.site (S.site.calm k2) (fun x _ => S.fn x) t).1 k7 L1.frm rp hu fun σ1 F1 _ => h1 σ1 H1 A ad ⟨F1, L1.base, L1.new, L1.anc⟩ (cur_calm C k2)
/-- the object that slot i keeps, by its name -/
theorem own_name {X : Cx} {W : WX} {sc : Scope} {cm : Bool} {own : List Nat} {env : Env} {σ : L2.St} {H : Hp} {A : List Addr} {ad : Nat → Addr} {i : Nat} {x : Str} {p : Pos} {Q : VK} (S : SSite P N n X W sc NN cm) (F : Frm N X.K own env σ H A ad) (h0 : own.contains i = true) (h1 : decide (NN[i]? = some x) = true) (h2 : vis sc x = true) (h3 : nameOk x = true)
    (q : Q (.ref (ad i)) H) : wE X (.Name x p) σ H Q := by
  obtain ⟨h3, h4⟩ := and_t h3
  have hv : Vis X.env.scope x := by rw [S.site.sc]; exact vis_ok h2
  obtain ⟨d, _, e, _⟩ := F.ownv i (List.contains_iff_mem.mp h0)
  exact toE (pe_var (S.nm h1) hv (by simpa using h3) (by simpa using h4)) ⟨_, e, q⟩
theorem rps_erase {K : PySem.W.Frag} {H : Hp} : ∀ {vs : List V} {ds : List PD.D}, Rps N K H vs ds → ∀ i, Rps N K H (vs.eraseIdx i) (ds.eraseIdx i)
  | _, _, .nil, _ => .nil
  | _, _, .cons h r, 0 => r
  | _, _, .cons h r, i + 1 => .cons h (rps_erase r i)
theorem rps_rev {K : PySem.W.Frag} {H : Hp} : ∀ {vs : List V} {ds : List PD.D}, Rps N K H vs ds → Rps N K H vs.reverse ds.reverse
  | _, _, .nil => .nil
  | _, _, .cons h r => by
    rw [List.reverse_cons, List.reverse_cons]
    exact Rps.append (rps_rev r) (.one h)
theorem s1_app {i : Nat} {e : RE} : S1 P N n NN (.app i e) := fun X W sc k own own' st env σ H A ad cur D H0 an S hk L hini C h => by
  rw [chk1_app] at hk
  split at hk
  case h_2 => cases hk
  case h_1 x p1 m ap ea p pos =>
    obtain ⟨k0, hk⟩ := and_t hk
    obtain ⟨k1, hk⟩ := and_t hk
    obtain ⟨k2, hk⟩ := and_t hk
    obtain ⟨k3, hk⟩ := and_t hk
    obtain ⟨k4, hk⟩ := and_t hk
    obtain ⟨k5, hk⟩ := and_t hk
    obtain ⟨k6, hk⟩ := and_t hk
    obtain ⟨k7, hk⟩ := and_t hk
    obtain ⟨k8, hk⟩ := and_t hk
    obtain ⟨k9, hk⟩ := and_t hk
    obtain ⟨k10, k11⟩ := and_t hk
    obtain rfl : own' = own := of_decide_eq_true k0
    obtain rfl : m = "append" := of_decide_eq_true k3
    have hlk : leak own' e = false := by simpa using k10
    have hi := List.contains_iff_mem.mp k4
    rw [evS_app] at h
    have few : ((backTo p (starEach (ea :: []) X.env)).all (fun x => !x.1) && (backToKw p (keywordEach [] X.env)).all (fun x => x.1.isSome)
      && decide ((ea :: ([] : List Expr)).length + ([] : List Keyword).length + (if ([] : List Keyword).isEmpty then 0 else 1) < 30)) = true := by
      rw [stars_all fun e he => by obtain rfl := List.mem_singleton.mp he; exact k9]
      rfl
    refine toS (ps_expr (pe_bm F.plainAttrs_list F.slot_list_append (by kernel_rfl) mt_append pe_w (pa_cons pe_w pa_nil (ord_star k9 [] X.env)) (noSuper_base rfl _ _ _) few k8 (ord_star k9 [] X.env) rfl) rfl) ?_
    show wE X (.Name x p1) σ H _
    refine own_name S L.frm k4 k5 k6 k7 ?_
    -- the list as it stands
    obtain ⟨d0, e0, s0, o0⟩ := L.frm.ownv i hi
    have hl : i < env.length := (List.getElem?_eq_some_iff.mp e0).1
    rw [e0] at h
    cases d0 <;> first | exact h.elim | skip
    rename_i xs
    obtain ⟨vs0, q0, r0⟩ := o0
    refine ⟨.inl ⟨rfl, vs0, .inl (.inl q0)⟩, ?_⟩
    show wE X ea σ H _
    refine ss_step S k11 k1 L C h fun d v H1 _ p L1 C1 h1 => ?_
    have h1 : WPS N X cur k own' H0 an D W (if xs.length < maxLen then .nx (env.set i (.lst (xs ++ [d]))) else .no) := h1
    split at h1
    · rename_i hz
      have q1 := p.same _ _ q0
      have rp := p.rp
      rw [hlk] at rp
      have r1 : Rps N X.K (sub H1 A) (vs0 ++ [v]) (xs ++ [d]) := Rps.append (r0.mono (sub_mono p.same)) (.one rp)
      refine ⟨ad i, vs0, v, rfl, rfl, q1, ?_, h1 _ _ A ad (L1.wr hi q1 trivial hl ⟨_, upd_same, ?_⟩) (cur_calm C k2)⟩
      · rw [r0.length]
        exact Nat.lt_of_lt_of_le hz (line_ok (Nat.le_refl _))
      · rw [sub_upd (L.frm.inA i hi)]
        exact r1
    · exact h1.elim
theorem idx_nat {k : Int} {n : Nat} (h : 0 ≤ k) (h2 : k < n) : seqIndex? k n = some k.toNat := by
  unfold seqIndex?
  have e : (if k < 0 then k + n else k) = k := if_neg (by omega)
  simp only [e]
  rw [if_pos (by simp; omega)]
theorem s1_popA {i j : Nat} {e : RE} : S1 P N n NN (.popA i j e) := fun X W sc k own own' st env σ H A ad cur D H0 an S hk L hini C h => by
  rw [chk1_popA] at hk
  split at hk
  case h_2 => cases hk
  case h_1 x p1 m ap y p3 m2 ap2 ea p2 p pos =>
    obtain ⟨k0, hk⟩ := and_t hk
    obtain ⟨k1, hk⟩ := and_t hk
    obtain ⟨k2, hk⟩ := and_t hk
    obtain ⟨k3, hk⟩ := and_t hk
    obtain ⟨k3', hk⟩ := and_t hk
    obtain ⟨k4, hk⟩ := and_t hk
    obtain ⟨k4', hk⟩ := and_t hk
    obtain ⟨k5, hk⟩ := and_t hk
    obtain ⟨k5', hk⟩ := and_t hk
    obtain ⟨k6, hk⟩ := and_t hk
    obtain ⟨k7, hk⟩ := and_t hk
    obtain ⟨k6', hk⟩ := and_t hk
    obtain ⟨k7', hk⟩ := and_t hk
    obtain ⟨k8, hk⟩ := and_t hk
    obtain ⟨k8', hk⟩ := and_t hk
    obtain ⟨k9, hk⟩ := and_t hk
    obtain ⟨k10, k11⟩ := and_t hk
    obtain rfl : own' = own := of_decide_eq_true k0
    obtain rfl : m = "append" := of_decide_eq_true k3
    obtain rfl : m2 = "pop" := of_decide_eq_true k3'
    have hi := List.contains_iff_mem.mp k4
    have hj := List.contains_iff_mem.mp k4'
    rw [evS_popA] at h
    have few : ∀ (a : Expr) (q : Pos), ord a = true → ((backTo q (starEach (a :: []) X.env)).all (fun x => !x.1) && (backToKw q (keywordEach [] X.env)).all (fun x => x.1.isSome)
      && decide ((a :: ([] : List Expr)).length + ([] : List Keyword).length + (if ([] : List Keyword).isEmpty then 0 else 1) < 30)) = true := fun a q ha => by
      rw [stars_all fun e he => by obtain rfl := List.mem_singleton.mp he; exact ha]
      rfl
    refine toS (ps_expr (pe_bm F.plainAttrs_list F.slot_list_append (by kernel_rfl) mt_append pe_w (pa_cons (pe_bm F.plainAttrs_list F.slot_list_pop (by kernel_rfl) mt_popAt pe_w (pa_cons pe_w pa_nil (ord_star k9 [] X.env)) (noSuper_base rfl _ _ _) (few ea p2 k9) k8' (ord_star k9 [] X.env) rfl) pa_nil (ord_star rfl [] X.env)) (noSuper_base rfl _ _ _) (few _ p rfl) k8 (ord_star rfl [] X.env) rfl) rfl) ?_
    show wE X (.Name x p1) σ H _
    refine own_name S L.frm k4 k5 k6 k7 ?_
    obtain ⟨d0, e0, s0, o0⟩ := L.frm.ownv i hi
    obtain ⟨d1, e1, s1, o1⟩ := L.frm.ownv j hj
    have hl : i < env.length := (List.getElem?_eq_some_iff.mp e0).1
    have hl1 : j < env.length := (List.getElem?_eq_some_iff.mp e1).1
    rw [e0, e1] at h
    cases d0 <;> first | exact h.elim | skip
    rename_i xs
    cases d1 <;> first | exact h.elim | skip
    rename_i ys
    obtain ⟨vs0, q0, r0⟩ := o0
    obtain ⟨vs1, q1, r1⟩ := o1
    refine ⟨.inl ⟨rfl, vs0, .inl (.inl q0)⟩, ?_⟩
    show wE X (.Name y p3) σ H _
    refine own_name S L.frm k4' k5' k6' k7' ?_
    refine ⟨.inl ⟨rfl, vs1, .inl (.inl q1)⟩, ?_⟩
    show wE X ea σ H _
    refine ss_step S k11 k1 L C h fun d v H1 _ p L1 C1 h1 => ?_
    have h1 : WPS N X cur k own' H0 an D W (popD env i j xs ys d) := h1
    have rp := p.rp0
    unfold popD at h1
    obtain ⟨kz, rfl⟩ : ∃ kz, d = .int kz := by
      cases d <;> first | exact ⟨_, rfl⟩ | exact h1.elim
    dsimp only at h1
    · split at h1
      · rename_i hs
        obtain ⟨hs, h5⟩ := and_t hs
        obtain ⟨hs, h4⟩ := and_t hs
        have h5 := of_decide_eq_true h5
        obtain ⟨hs, h3⟩ := and_t hs
        obtain ⟨h2, h2'⟩ := and_t hs
        have h2 := of_decide_eq_true h2
        have h2' := of_decide_eq_true h2'
        have h3 := of_decide_eq_true h3
        have h4 := of_decide_eq_true h4
        cases rp
        cases hy : ys[kz.toNat]? with
        | none => rw [hy] at h1; exact h1.elim
        | some yd =>
          rw [hy] at h1
          obtain ⟨yv, hv, ry⟩ := r1.get hy
          have q1' := p.same _ _ q1
          have hz := r1.length
          have hzl := (List.getElem?_eq_some_iff.mp hy).1
          have hlen : vs1.length ≤ sizeLine := by
            rw [hz]
            exact line_ok h5
          refine ⟨ad j, vs1, kz, kz.toNat, yv, rfl, rfl, q1', by omega, by rw [sizeLine_eq] at hlen; omega, idx_nat h2 (by rw [hz]; exact h2'), hv, ?_⟩
          have r1' : Rps N X.K (sub H1 A) vs1 ys := r1.mono (sub_mono p.same)
          have hA := L1.frm.inA j hj
          have L2 := L1.wr hj q1' (o' := .lst (vs1.eraseIdx kz.toNat)) trivial hl1 (d := .lst (ys.eraseIdx kz.toNat)) ⟨_, upd_same, by rw [sub_upd hA]; exact rps_erase r1' _⟩
          have ne : ad i ≠ ad j := fun z => h4 (L.frm.inj i hi j hj z)
          have q0' : (upd H1 (ad j) (.lst (vs1.eraseIdx kz.toNat))) (ad i) = some (.lst vs0) := by rw [upd_ne ne]; exact p.same _ _ q0
          refine ⟨ad i, vs0, yv, rfl, rfl, q0', ?_, h1 _ _ A ad (L2.wr hi q0' trivial (by rw [List.length_set]; exact hl) ⟨_, upd_same, ?_⟩) (cur_calm C k2)⟩
          · rw [r0.length]
            exact Nat.lt_of_lt_of_le h3 (line_ok (Nat.le_refl _))
          · rw [sub_upd (L.frm.inA i hi), sub_upd hA]
            exact Rps.append (r0.mono (sub_mono p.same)) (.one (ry.mono (sub_mono p.same)))
      · exact h1.elim
theorem s1_extL {i : Nat} {e : RE} : S1 P N n NN (.extL i e) := fun X W sc k own own' st env σ H A ad cur D H0 an S hk L hini C h => by
  rw [chk1_extL] at hk
  split at hk
  case h_2 => cases hk
  case h_1 x p1 m ap ea p pos =>
    obtain ⟨k0, hk⟩ := and_t hk
    obtain ⟨k1, hk⟩ := and_t hk
    obtain ⟨k2, hk⟩ := and_t hk
    obtain ⟨k3, hk⟩ := and_t hk
    obtain ⟨k4, hk⟩ := and_t hk
    obtain ⟨k5, hk⟩ := and_t hk
    obtain ⟨k6, hk⟩ := and_t hk
    obtain ⟨k7, hk⟩ := and_t hk
    obtain ⟨k8, hk⟩ := and_t hk
    obtain ⟨k9, hk⟩ := and_t hk
    obtain ⟨kf, hk⟩ := and_t hk
    obtain ⟨k10, k11⟩ := and_t hk
    obtain rfl : own' = own := of_decide_eq_true k0
    obtain rfl : m = "extend" := of_decide_eq_true k3
    have hlk : leak own' e = false := by simpa using k10
    have hi := List.contains_iff_mem.mp k4
    rw [evS_extL] at h
    have few : ((backTo p (starEach (ea :: []) X.env)).all (fun x => !x.1) && (backToKw p (keywordEach [] X.env)).all (fun x => x.1.isSome)
      && decide ((ea :: ([] : List Expr)).length + ([] : List Keyword).length + (if ([] : List Keyword).isEmpty then 0 else 1) < 30)) = true := by
      rw [stars_all fun e he => by obtain rfl := List.mem_singleton.mp he; exact k9]
      rfl
    refine toS (ps_expr (pe_bm F.plainAttrs_list F.slot_list_extend (by kernel_rfl) mt_extend pe_w (pa_cons pe_w pa_nil (ord_star k9 [] X.env)) (noSuper_base rfl _ _ _) few k8 (ord_star k9 [] X.env) rfl) rfl) ?_
    show wE X (.Name x p1) σ H _
    refine own_name S L.frm k4 k5 k6 k7 ?_
    obtain ⟨d0, e0, s0, o0⟩ := L.frm.ownv i hi
    have hl : i < env.length := (List.getElem?_eq_some_iff.mp e0).1
    rw [e0] at h
    cases d0 <;> first | exact h.elim | skip
    rename_i xs
    obtain ⟨vs0, q0, r0⟩ := o0
    refine ⟨.inl ⟨rfl, vs0, .inl (.inl q0)⟩, ?_⟩
    show wE X ea σ H _
    refine ss_step S k11 k1 L C h fun d v H1 _ p L1 C1 h1 => ?_
    obtain ⟨ys, rfl⟩ : ∃ ys, d = .lst ys := by
      cases d <;> first | exact ⟨_, rfl⟩ | exact h1.elim
    have h1 : WPS N X cur k own' H0 an D W (if xs.length + ys.length ≤ maxLen then .nx (env.set i (.lst (xs ++ ys))) else .no) := h1
    split at h1
    · rename_i hz
      have q1 := p.same _ _ q0
      obtain ⟨b, rfl, hb0, zs, hb1, rz⟩ := p.fr kf hlk ys rfl
      have rz' : Rps N X.K (sub H1 A) zs ys := rz.mono (sub_le fun a ha => List.mem_cons_of_mem _ ha)
      have r1 : Rps N X.K (sub H1 A) (vs0 ++ zs) (xs ++ ys) := Rps.append (r0.mono (sub_mono p.same)) rz'
      refine ⟨ad i, b, vs0, zs, rfl, rfl, q1, hb1, ?_, h1 _ _ A ad (L1.wr hi q1 trivial hl ⟨_, upd_same, ?_⟩) (cur_calm C k2)⟩
      · rw [r0.length, rz.length]
        exact line_ok hz
      · rw [sub_upd (L.frm.inA i hi)]
        exact r1
    · exact h1.elim
theorem s1_revL {i : Nat} : S1 P N n NN (.revL i) := fun X W sc k own own' st env σ H A ad cur D H0 an S hk L hini C h => by
  rw [chk1_revL] at hk
  split at hk
  case h_2 => cases hk
  case h_1 x p1 m ap p pos =>
    obtain ⟨k0, hk⟩ := and_t hk
    obtain ⟨k1, hk⟩ := and_t hk
    obtain ⟨k2, hk⟩ := and_t hk
    obtain ⟨k3, hk⟩ := and_t hk
    obtain ⟨k4, hk⟩ := and_t hk
    obtain ⟨k5, hk⟩ := and_t hk
    obtain ⟨k6, hk⟩ := and_t hk
    obtain ⟨k7, k8⟩ := and_t hk
    obtain rfl : own' = own := of_decide_eq_true k0
    obtain rfl : m = "reverse" := of_decide_eq_true k3
    have hi := List.contains_iff_mem.mp k4
    rw [evS_revL] at h
    refine toS (ps_expr (pe_bm0 F.plainAttrs_list F.slot_list_reverse (by kernel_rfl) mt_reverse pe_w (noSuper_base rfl _ _ _) k8) rfl) ?_
    show wE X (.Name x p1) σ H _
    refine own_name S L.frm k4 k5 k6 k7 ?_
    obtain ⟨d0, e0, s0, o0⟩ := L.frm.ownv i hi
    have hl : i < env.length := (List.getElem?_eq_some_iff.mp e0).1
    rw [e0] at h
    cases d0 <;> first | exact h.elim | skip
    rename_i xs
    obtain ⟨vs0, q0, r0⟩ := o0
    refine ⟨.inl ⟨rfl, vs0, .inl (.inl q0)⟩, ?_⟩
    refine ⟨ad i, vs0, rfl, rfl, q0, h _ _ A ad (L.wr hi q0 trivial hl ⟨_, upd_same, ?_⟩) (cur_calm C k2)⟩
    rw [sub_upd (L.frm.inA i hi)]
    exact rps_rev r0
theorem assign_sub {o i : Expr} {pos : Pos} {env : PySem.Env} (h : ord i = true) (v : Value) : assign (.Subscript o i pos) env v = (do
      let ov ← holding [v] (eval o env)
      let iv ← holding [v, ov] (eval i env)
      standAt pos
      holding [v, ov, iv] (setItem ov iv v)
      release [v, ov, iv] []) := by
  cases i <;> first | rfl | cases h
theorem noComp_sole {e t : Expr} {l : Nat} {env : PySem.Env} (h : noComp e = true) : swapsWithSole [t] e l env = pure false := noComp_ok h _ _ _
theorem s1_setL {i : Nat} {kk e : RE} : S1 P N n NN (.setL i kk e) := fun X W sc k own own' st env σ H A ad cur D H0 an S hk L hini C h => by
  rw [chk1_setL] at hk
  split at hk
  case h_2 => cases hk
  case h_1 x p1 ek p2 ee pos =>
    obtain ⟨k0, hk⟩ := and_t hk
    obtain ⟨k1, hk⟩ := and_t hk
    obtain ⟨k2, hk⟩ := and_t hk
    obtain ⟨k3, hk⟩ := and_t hk
    obtain ⟨k4, hk⟩ := and_t hk
    obtain ⟨k5, hk⟩ := and_t hk
    obtain ⟨k6, hk⟩ := and_t hk
    obtain ⟨k7, hk⟩ := and_t hk
    obtain ⟨k8, hk⟩ := and_t hk
    obtain ⟨k9, hk⟩ := and_t hk
    obtain ⟨k10, k11⟩ := and_t hk
    obtain rfl : own' = own := of_decide_eq_true k0
    have hlk : leak own' e = false := by simpa using k9
    have hi := List.contains_iff_mem.mp k3
    rw [evS_setL] at h
    refine toS (ps_asg pe_w (pg_sub pe_w pe_w set_list (assign_sub k7)) (noComp_sole k8) rfl rfl) ?_
    refine ss_step S k11 k1 L C h fun d v H1 _ p L1 C1 h1 => ?_
    show wE X (.Name x p1) σ H1 _
    refine own_name S L1.frm k3 k4 k5 k6 ?_
    show wE X ek σ H1 _
    refine ss_step S k10 k1 L1 C1 h1 fun kd u H2 _ p2 L2 C2 h2 => ?_
    obtain ⟨d0, e0, s0, o0⟩ := L2.frm.ownv i hi
    have hl : i < env.length := (List.getElem?_eq_some_iff.mp e0).1
    have h2 : WPS N X cur k own' H0 an D W (putL env i kd d) := h2
    unfold putL at h2
    rw [e0] at h2
    cases d0 <;> first | exact h2.elim | skip
    rename_i xs
    have rk := p2.rp0
    obtain ⟨kz, rfl⟩ : ∃ kz, kd = .int kz := by
      cases kd <;> first | exact ⟨_, rfl⟩ | exact h2.elim
    cases rk
    dsimp only at h2
    cases hj : ixN xs.length kz with
    | none => rw [hj] at h2; exact h2.elim
    | some j =>
      rw [hj] at h2
      obtain ⟨vs0, q0, r0⟩ := o0
      have rp := p.rp
      rw [hlk] at rp
      refine ⟨ad i, vs0, kz, j, rfl, rfl, q0, by rw [r0.length]; exact hj, h2 _ _ A ad (L2.wr hi q0 trivial hl ⟨_, upd_same, ?_⟩) (cur_calm C k2)⟩
      rw [sub_upd (L.frm.inA i hi)]
      exact Rps.set (rp.mono (sub_mono p2.same)) j r0
/-! ### keys -/
/-- one more key -/
theorem putKs_cons {d : PD.D} {y : PD.D} {r : List PD.D} {ks : List (List Key)} {vs : List PD.D} {z : List (List Key) × List PD.D} (h : putKs d (y :: r) ks vs = some z) : ∃ ds k, y = .tup ds ∧ keysOf ds = some k ∧ ks.length < maxLen ∧ putKs d r (putK ks vs k d).1 (putK ks vs k d).2 = some z := by
  cases y <;> first | cases h | skip
  rename_i ds
  have h : (match keysOf ds with
    | some k => if ks.length < maxLen then putKs d r (putK ks vs k d).1 (putK ks vs k d).2 else none
    | none => none) = some z := h
  cases q : keysOf ds with
  | none => rw [q] at h; cases h
  | some k =>
    rw [q] at h
    have h : (if ks.length < maxLen then putKs d r (putK ks vs k d).1 (putK ks vs k d).2 else none) = some z := h
    split at h
    · exact ⟨ds, k, rfl, q, by assumption, h⟩
    · cases h
theorem plain_noSt {own : List Nat} {r : RE} (h : plainK own r = true) : noSt r = true := by
  induction r with
  | cons a r _ ih => obtain ⟨_, h⟩ := and_t h; exact ih h
  | star _ _ _ _ => cases h
  | _ => rfl
theorem chkA_three {r : RE} {own : List Nat} {cm : Bool} {ci : Nat} {sc : Scope} (hp : plainK own r = true) : ∀ {es : List Expr}, chkA N NN own cm ci r sc es = true → ∀ e rest, es = e :: rest → ∃ a b, r = .cons a b ∧ ord e = true ∧ chkE N NN own cm ci a sc false e = true ∧ chkA N NN own cm ci b sc rest = true := by
  intro es h e rest q
  subst q
  cases r with
  | cons a b =>
    rw [chkA_cons] at h
    obtain ⟨h1, h⟩ := and_t h
    obtain ⟨h2, h3⟩ := and_t h
    exact ⟨a, b, rfl, h1, h2, h3⟩
  | nil => rw [chkA_nil] at h; cases h
  | star _ _ => cases hp
  | _ => cases h
/-- names that hold no own object say the same behind a store to one -/
theorem plain_ev {G : Ctx} {cur : Option Exn} {own : List Nat} {i : Nat} {env : Env} {d : PD.D} (hi : i ∈ own) : ∀ {r : RE}, plainK own r = true → evE G cur r (env.set i d) = evE G cur r env
  | .nil, _ => rfl
  | .cons a r, h => by
    obtain ⟨h1, h2⟩ := and_t h
    rw [evE_cons, evE_cons, plain_ev hi h1, plain_ev hi h2]
  | .tup es, h => by
    rw [evE_tup, evE_tup, plain_ev (r := es) hi h]
  | .var j, h => by
    have ne : i ≠ j := fun z => by
      have h : (!own.contains j) = true := h
      rw [← z, List.contains_iff_mem.mpr hi] at h
      cases h
    rw [evE_var, evE_var, List.getElem?_set_ne ne]
  | .int _, _ => rfl
theorem plain_noex {G : Ctx} {cur : Option Exn} {own : List Nat} {env : Env} {x : Exn} : ∀ {r : RE}, plainK own r = true → evE G cur r env = .ex x → False
  | .nil, _, h => by rw [evE_nil] at h; cases h
  | .cons a r, hp, h => by
    obtain ⟨h1, h2⟩ := and_t hp
    rw [evE_cons] at h
    cases ha : evE G cur a env with
    | ex y => exact plain_noex h1 ha
    | no => rw [ha] at h; cases h
    | ok d =>
      rw [ha] at h
      have h : ((evE G cur r env).bd fun y => match y with
        | .tup ys => R.ok (PD.D.tup (d :: ys))
        | _ => .no) = R.ex x := h
      cases hr : evE G cur r env with
      | ex y => exact plain_noex h2 hr
      | no => rw [hr] at h; cases h
      | ok d2 =>
        rw [hr] at h
        cases d2 <;> cases h
  | .tup es, hp, h => by
    rw [evE_tup] at h
    cases ha : evE G cur es env with
    | ex y => exact plain_noex (r := es) hp ha
    | no => rw [ha] at h; cases h
    | ok d =>
      rw [ha] at h
      cases d <;> first | cases h | skip
      rename_i ys
      have h : (if ys.length ≤ maxLen then R.ok (PD.D.tup ys) else .no) = R.ex x := h
      split at h <;> cases h
  | .var j, _, h => by
    rw [evE_var] at h
    cases e : env[j]? with
    | none => rw [e] at h; cases h
    | some d => rw [e] at h; cases d <;> cases h
  | .int _, _, h => by rw [evE_int] at h; cases h
/-- .. of keys one after another -/
theorem cons_ev {G : Ctx} {cur : Option Exn} {a r : RE} {env : Env} {ys : List PD.D} (h : evE G cur (.cons a r) env = .ok (.tup ys)) : ∃ y zs, ys = y :: zs ∧ evE G cur a env = .ok y ∧ evE G cur r env = .ok (.tup zs) := by
  rw [evE_cons] at h
  cases ha : evE G cur a env with
  | ex y => rw [ha] at h; cases h
  | no => rw [ha] at h; cases h
  | ok d =>
    rw [ha] at h
    have h : ((evE G cur r env).bd fun y => match y with
      | .tup ys => R.ok (PD.D.tup (d :: ys))
      | _ => .no) = R.ok (PD.D.tup ys) := h
    cases hr : evE G cur r env with
    | ex y => rw [hr] at h; cases h
    | no => rw [hr] at h; cases h
    | ok d2 =>
      rw [hr] at h
      cases d2 <;> first | cases h | skip
      exact ⟨_, _, rfl, rfl, rfl⟩
theorem set_at {env : Env} {i : Nat} {d d' : PD.D} (h : env[i]? = some d') : (env.set i d)[i]? = some d := List.getElem?_set_self (List.getElem?_eq_some_iff.mp h).1
/-- one store -/
theorem put_one {X : Cx} {W : WX} {sc : Scope} {k : KP} {own : List Nat} {env : Env} {σ : L2.St} {H : Hp} {A : List Addr} {ad : Nat → Addr} {cur : Option Exn} {H0 : Hp} {an : Option Addr} {i : Nat} {x : Str} {p1 : Pos} {ek : Expr} {p2 : Pos} {ke : RE} {d y : PD.D} {v : V} {ks : List (List Key)} {vs : List PD.D} {rest : List PD.D} {z : List (List Key) × List PD.D} {Q : L2.St → Hp → Prop}
    (S : SSite P N n X W sc NN k.cm) (hc : k.cm = true) (k3 : own.contains i = true) (k4 : decide (NN[i]? = some x) = true) (k5 : vis sc x = true) (k6 : nameOk x = true) (ko : ord ek = true) (kk : chkE N NN own k.cm k.ci ke sc false ek = true)
    (L : Lv N X.K own env σ H A ad H0 an) (C : CurOk N X A σ H k.cm cur k.ci) (e0 : env[i]? = some (.dic ks vs)) (hy : evE (P.ctx n) cur ke env = .ok y) (hz : putKs d (y :: rest) ks vs = some z) (rv : Rp N X.K (sub H A) v d)
    (q : ∀ H1 ks1 vs1, Lv N X.K own (env.set i (.dic ks1 vs1)) σ H1 A ad H0 an → Rp N X.K (sub H1 A) v d → putKs d rest ks1 vs1 = some z → Q σ H1) : wG X (.Subscript (.Name x p1) ek p2) v σ H Q := by
  have hi := List.contains_iff_mem.mp k3
  refine toG (pg_sub pe_w pe_w (set_dict (by have := S.site.hu; omega)) (assign_sub ko)) ?_
  refine own_name S L.frm k3 k4 k5 k6 ?_
  refine (all_expr ke).se X W sc ek env σ H A ad cur _ S.site kk L.frm C ?_
  rw [hy]
  intro u H1 p
  have L1 := L.mono p.same
  obtain ⟨ds, kx, rfl, hk, hl, hz⟩ := putKs_cons hz
  obtain ⟨d0, e1, s0, o0⟩ := L1.frm.ownv i hi
  rw [e0] at e1
  cases e1
  obtain ⟨kvs, q1, q2, r1⟩ := o0
  have hlt : i < env.length := (List.getElem?_eq_some_iff.mp e0).1
  have rp := p.rp0
  cases rp with
  | tup ht rt =>
    have ev := keys_v rt hk
    subst ev
    have hlen : kvs.length < sizeLine := by
      have e2 := r1.length
      rw [List.length_map] at e2
      have e3 : kvs.length = ks.length := by rw [← q2, List.length_map]
      rw [e3]
      exact Nat.lt_of_lt_of_le hl (line_ok (Nat.le_refl _))
    refine ⟨ad i, _, rfl, .t q1 ht hlen, q _ _ _ (L1.wr hi q1 trivial hlt (d := .dic (putK ks vs kx d).1 (putK ks vs kx d).2) ⟨_, upd_same, putK_fst q2, ?_⟩) ?_ hz⟩
    · rw [sub_upd (L1.frm.inA i hi)]
      subst q2
      exact putK_snd (rv.mono (sub_mono p.same)) r1
    · rw [sub_upd (L1.frm.inA i hi)]
      exact rv.mono (sub_mono p.same)
theorem s1_setK {i : Nat} {ks e : RE} : S1 P N n NN (.setK i ks e) := fun X W sc k own own' st env σ H A ad cur D H0 an S hk L hini C h => by
  rw [chk1_setK] at hk
  split at hk
  case h_2 => cases hk
  case h_1 x p1 k1' p2 tgs ee pos =>
    obtain ⟨k0, hk⟩ := and_t hk
    obtain ⟨k1, hk⟩ := and_t hk
    obtain ⟨k2, hk⟩ := and_t hk
    obtain ⟨k3, hk⟩ := and_t hk
    obtain ⟨k4, hk⟩ := and_t hk
    obtain ⟨k5, hk⟩ := and_t hk
    obtain ⟨k6, hk⟩ := and_t hk
    obtain ⟨k7, hk⟩ := and_t hk
    obtain ⟨k8, hk⟩ := and_t hk
    obtain ⟨k9, hk⟩ := and_t hk
    obtain ⟨k10, hk⟩ := and_t hk
    obtain ⟨k11, k12⟩ := and_t hk
    obtain rfl : own' = own := of_decide_eq_true k0
    have hlk : leak own' e = false := by simpa using k9
    have hi := List.contains_iff_mem.mp k3
    rw [evS_setK] at h
    have main : ∀ {v : V} {d : PD.D} {H1 : Hp}, PostE N X.K H A own' e d v H1 → Lv N X.K own' env σ H1 A ad H0 an → WPS N X cur k own' H0 an D W (.of (evE (P.ctx n) cur ks env) env fun y => putD env i y d) →
        ∃ ys ks0 vs0 z, evE (P.ctx n) cur ks env = .ok (.tup ys) ∧ env[i]? = some (.dic ks0 vs0) ∧ putKs d ys ks0 vs0 = some z ∧ ∀ σ H A ad, Lv N X.K own' (env.set i (.dic z.1 z.2)) σ H A ad H0 an → CurOk N X A σ H k.cm cur k.ci → D.nx σ H := fun {v d H1} p L1 h1 => by
      cases he : evE (P.ctx n) cur ks env with
      | no => rw [he] at h1; exact h1.elim
      | ex ex => exact (plain_noex k10 he).elim
      | ok y =>
        rw [he] at h1
        have h1 : WPS N X cur k own' H0 an D W (putD env i y d) := h1
        unfold putD at h1
        cases e0 : env[i]? with
        | none => rw [e0] at h1; exact h1.elim
        | some d0 =>
          rw [e0] at h1
          cases d0 <;> first | exact h1.elim | skip
          rename_i ks0 vs0
          obtain ⟨ys, rfl⟩ : ∃ ys, y = .tup ys := by
            cases y <;> first | exact ⟨_, rfl⟩ | exact h1.elim
          dsimp only at h1
          cases hz : putKs d ys ks0 vs0 with
          | none => rw [hz] at h1; exact h1.elim
          | some z => rw [hz] at h1; exact ⟨ys, ks0, vs0, z, rfl, rfl, hz, h1⟩
    -- the stores
    cases hkt : keyTs x (.Subscript (.Name x p1) k1' p2 :: tgs) with
    | none => rw [hkt] at k12; cases k12
    | some es =>
      rw [hkt] at k12
      have k12 : chkA N NN own' k.cm k.ci ks sc es = true := k12
      unfold keyTs at hkt
      split at hkt
      · -- one
        rename_i y1 q1 kx q2 et
        cases et
        split at hkt
        · cases hkt
          obtain ⟨ka, kb, rfl, o1, c1, kr⟩ := chkA_three k10 k12 _ _ rfl
          obtain ⟨pk1, pk2⟩ := and_t k10
          refine toS (ps_asg pe_w pg_w (noComp_sole k8) rfl rfl) ?_
          refine ss_step S k11 k1 L C h fun d v H1 _ p L1 C1 h1 => ?_
          obtain ⟨ys, ks0, vs0, z, e1, e0, hz, fin⟩ := main p L1 h1
          obtain ⟨y, zs, rfl, ev1, ev2⟩ := cons_ev e1
          have rp := p.rp
          rw [hlk] at rp
          refine put_one S k2 k3 k4 k5 k6 o1 c1 L1 C1 e0 ev1 hz rp fun H2 ks1 vs1 L2 rp2 hz2 => ?_
          have ez : zs = [] := by
            obtain rfl := chkA_inv kr
            rw [evE_nil] at ev2
            cases ev2
            rfl
          subst ez
          cases hz2
          exact fin _ _ _ _ L2 (cur_calm C k2)
        · cases hkt
      · -- three
        rename_i y1 q1 kx q2 y2 q3 ky q4 y3 q5 kz q6 et
        cases et
        split at hkt
        · rename_i hxy
          obtain ⟨_, rfl, rfl⟩ := hxy
          cases hkt
          obtain ⟨ka, kb, rfl, o1, c1, kr⟩ := chkA_three k10 k12 _ _ rfl
          obtain ⟨kc, kd, rfl, o2, c2, kr2⟩ := chkA_three (and_t k10).2 kr _ _ rfl
          obtain ⟨ke, kf, rfl, o3, c3, kr3⟩ := chkA_three (and_t (and_t k10).2).2 kr2 _ _ rfl
          obtain ⟨pk1, pk2⟩ := and_t k10
          obtain ⟨pk2, pk3⟩ := and_t pk2
          obtain ⟨pk3, pk4⟩ := and_t pk3
          refine toS (ps_asg3 pe_w pg_w pg_w pg_w rfl (notTup_ok k7 _ _)) ?_
          refine ss_step S k11 k1 L C h fun d v H1 _ p L1 C1 h1 => ?_
          obtain ⟨ys, ks0, vs0, z, e1, e0, hz, fin⟩ := main p L1 h1
          obtain ⟨y, zs, rfl, ev1, ev2⟩ := cons_ev e1
          obtain ⟨y2, zs2, rfl, ev3, ev4⟩ := cons_ev ev2
          obtain ⟨y3, zs3, rfl, ev5, ev6⟩ := cons_ev ev4
          have ez : zs3 = [] := by
            obtain rfl := chkA_inv kr3
            rw [evE_nil] at ev6
            cases ev6
            rfl
          subst ez
          have rp := p.rp
          rw [hlk] at rp
          refine put_one S k2 k3 k4 k5 k6 o1 c1 L1 C1 e0 ev1 hz rp fun H2 ks1 vs1 L2 rp2 hz2 => ?_
          show wG X _ v σ H2 _
          refine put_one S k2 k3 k4 k5 k6 o2 c2 L2 (cur_calm C k2) (set_at e0) (by rw [plain_ev hi pk2]; exact ev3) hz2 rp2 fun H3 ks2 vs2 L3 rp3 hz3 => ?_
          rw [List.set_set] at L3
          show wG X _ v σ H3 _
          refine put_one S k2 k3 k4 k5 k6 o3 c3 L3 (cur_calm C k2) (set_at e0) (by rw [plain_ev hi pk3]; exact ev5) hz3 rp3 fun H4 ks3 vs3 L4 rp4 hz4 => ?_
          rw [List.set_set] at L4
          cases hz4
          exact fin _ _ _ _ L4 (cur_calm C k2)
        · cases hkt
      · cases hkt
theorem s1_expr {e : RE} : S1 P N n NN (.expr e) := fun X W sc k own own' st env σ H A ad cur D H0 an S hk L hini C h => by
  rw [chk1_expr] at hk
  split at hk
  case h_2 => cases hk
  case h_1 ee pos =>
    obtain ⟨k0, hk⟩ := and_t hk
    obtain ⟨k1, hk⟩ := and_t hk
    obtain ⟨k2, k3⟩ := and_t hk
    obtain rfl : own' = own := of_decide_eq_true k0
    rw [evS_expr] at h
    refine toS (ps_expr pe_w (noComp_ok k2 _ _ _)) ?_
    exact ss_step S k3 k1 L C h fun d v H1 _ p L1 C1 h1 => h1 _ _ A ad L1 C1
theorem s1_pass : S1 P N n NN .pass := fun X W sc k own own' st env σ H A ad cur D H0 an S hk L hini C h => by
  rw [chk1_pass] at hk
  split at hk
  case h_2 => cases hk
  case h_1 pos =>
    obtain rfl : own' = own := of_decide_eq_true hk
    exact toS ps_pass (h _ _ A ad L C)
theorem s1_brk : S1 P N n NN .brk := fun X W sc k own own' st env σ H A ad cur D H0 an S hk L hini C h => by
  rw [chk1_brk] at hk
  split at hk
  case h_2 => cases hk
  case h_1 pos => exact toS ps_break (h own (of_decide_eq_true hk) _ _ A ad L)
theorem s1_cnt : S1 P N n NN .cnt := fun X W sc k own own' st env σ H A ad cur D H0 an S hk L hini C h => by
  rw [chk1_cnt] at hk
  split at hk
  case h_2 => cases hk
  case h_1 pos => exact toS ps_continue (h own (of_decide_eq_true hk) _ _ A ad L)
theorem s1_ret {e : RE} : S1 P N n NN (.ret e) := fun X W sc k own own' st env σ H A ad cur D H0 an S hk L hini C h => by
  rw [chk1_ret] at hk
  split at hk
  case h_2 => cases hk
  case h_1 ee pos =>
    obtain ⟨k1, hk⟩ := and_t hk
    obtain ⟨k2, hk⟩ := and_t hk
    obtain ⟨k4, k3⟩ := and_t hk
    rw [evS_ret] at h
    refine toS (ps_ret pe_w) ?_
    by_cases hov : ∃ i, e = .var i ∧ i ∈ own
    · obtain ⟨i, rfl, hi⟩ := hov
      rw [chkE_var] at k3
      clear hk
      have hx : ∃ x p, ee = .Name x p := by
        cases ee <;> first | exact ⟨_, _, rfl⟩ | cases k3
      obtain ⟨x, pos2, rfl⟩ := hx
      · obtain ⟨h1, h2⟩ := and_t k3
        obtain ⟨h2, h3⟩ := and_t h2
        obtain ⟨h3, h4⟩ := and_t h3
        have hN : X.N[i]? = some x := by rw [S.site.nn]; exact of_decide_eq_true h1
        have hv : Vis X.env.scope x := by rw [S.site.sc]; exact vis_ok h2
        refine toE (pe_var hN hv (by simpa using h3) (by simpa using h4)) ?_
        obtain ⟨d, q1, q2, o⟩ := L.frm.ownv i hi
        rw [evE_var, q1] at h
        have h : WPS N X cur k own' H0 an D W (.rt d env) := by
          cases d <;> first | exact h | exact o.elim
        have hA := L.frm.inA i hi
        refine ⟨_, q2, h _ _ L.base o.rp fun _ xs ed => ?_⟩
        subst ed
        obtain ⟨vs, h1, r1⟩ := o
        exact ⟨ad i, vs, rfl, L.new _ hA, h1, r1.mono (sub_le fun a ha => by rw [List.mem_singleton.mp ha]; exact hA)⟩
    · refine ss_step S k3 k1 L C h fun d v H1 _ p L1 C1 h1 => h1 v H1 L1.base p.rp0 fun hn xs ed => ?_
      rw [hn] at k4
      have k4 : newE N own e = true := by simpa using k4
      have k5 : fresh N e = true ∧ leak own e = false := by
        unfold newE at k4
        split at k4
        · exact absurd ⟨_, rfl, List.contains_iff_mem.mp k4⟩ hov
        · obtain ⟨f1, f2⟩ := and_t k4
          exact ⟨f1, by simpa using f2⟩
      obtain ⟨a, rfl, h0, o⟩ := p.fr k5.1 k5.2 xs ed
      subst ed
      obtain ⟨vs, h1, r1⟩ := o
      exact ⟨a, vs, rfl, Same.none L.base h0, h1, r1.mono (sub_le fun b hb => by rw [List.mem_singleton.mp hb]; exact List.mem_cons_self)⟩
theorem s1_retN : S1 P N n NN .retN := fun X W sc k own own' st env σ H A ad cur D H0 an S hk L hini C h => by
  rw [chk1_retN] at hk
  split at hk
  case h_2 => cases hk
  case h_1 pos => exact toS ps_retN (h .non H L.base .non fun _ _ z => by cases z)
end
end PD
end

section
set_option Elab.async false
set_option linter.all false
set_option maxRecDepth 100000
/-! PD21: fields, branches, loops, sequences, raise. -/
namespace PD
open PySem PySem.Spec PyProof.Rows L2
section
variable {P : Prog} {N : Info} {n : Nat} {NN : List Str}
theorem putF_new {f : Str} {v : V} : ∀ {fs : List (Str × V)}, f ∉ fs.map (·.1) → putF f v fs = fs ++ [(f, v)]
  | [], _ => rfl
  | (g, x) :: r, h => by
    rw [List.map_cons, List.mem_cons, not_or] at h
    unfold putF
    rw [if_neg (Ne.symm h.1), putF_new h.2]
    rfl
theorem take_succ_get {α : Type} {l : List α} {k : Nat} {x : α} (h : l[k]? = some x) : l.take (k + 1) = l.take k ++ [x] := by
  rw [List.take_add_one, h]
  rfl
theorem nodup_take_not {l : List Str} {k : Nat} {f : Str} (nd : l.Nodup) (h : l[k]? = some f) : f ∉ l.take k := fun z => by
  have e := take_succ_get h
  have nd2 : (l.take (k + 1)).Nodup := nd.sublist (List.take_sublist _ _)
  rw [e, List.nodup_append] at nd2
  exact nd2.2.2 f z f (List.mem_singleton.mpr rfl) rfl
theorem s1_setF {i f : Nat} {e : RE} : S1 P N n NN (.setF i f e) := fun X W sc k own own' st env σ H A ad cur D H0 an S hk L hini C h => by
  rw [chk1_setF] at hk
  split at hk
  case h_2 => cases hk
  case h_1 x p1 g p2 ee pos =>
    obtain ⟨k0, hk⟩ := and_t hk
    obtain ⟨k1, hk⟩ := and_t hk
    obtain ⟨k2, hk⟩ := and_t hk
    obtain ⟨k3, hk⟩ := and_t hk
    obtain ⟨k4, hk⟩ := and_t hk
    obtain ⟨k5, hk⟩ := and_t hk
    obtain ⟨k6, hk⟩ := and_t hk
    obtain ⟨k7, hk⟩ := and_t hk
    obtain ⟨k8, hk⟩ := and_t hk
    obtain ⟨k9, k10⟩ := and_t hk
    obtain rfl : own' = own := of_decide_eq_true k0
    obtain rfl : N.fnm f = g := of_decide_eq_true k7
    have hlk : leak own' e = false := by simpa using k9
    have hi := List.contains_iff_mem.mp k3
    rw [evS_setF] at h
    refine toS (ps_fld pe_w pe_w (noComp_ok k8 _ _ _)) ?_
    refine ss_step S k10 k1 L C h fun d v H1 _ p L1 C1 h1 => ?_
    show wE X (.Name x p1) σ H1 _
    refine own_name S L1.frm k3 k4 k5 k6 ?_
    have h1 : WPS N X cur k own' H0 an D W (putA (P.ctx n).st env i f d) := h1
    rw [st_eq] at h1
    unfold putA at h1
    obtain ⟨d0, e0, s0, o0⟩ := L1.frm.ownv i hi
    have hl : i < env.length := (List.getElem?_eq_some_iff.mp e0).1
    rw [e0] at h1
    obtain ⟨c, vs, rfl⟩ : ∃ c vs, d0 = .ins c vs := by
      cases d0 <;> first | exact ⟨_, _, rfl⟩ | exact h1.elim
    dsimp only at h1
    split at h1
    · rename_i hf
      obtain ⟨hf, hlen⟩ := hf
      obtain ⟨dx, fs, hc, m, q0, q1, r0⟩ := o0
      obtain ⟨g1, g2⟩ := S.site.facts.fld c f _ hf
      have nd := S.site.facts.lnd c hc
      have hnew : N.fnm f ∉ fs.map (·.1) := by rw [q1]; exact nodup_take_not nd g1
      have e2 := r0.length
      rw [List.length_map] at e2
      have rp := p.rp
      rw [hlk] at rp
      refine ⟨ad i, _, dx, fs, rfl, q0, S.site.facts.cls c hc, g2, by omega, h1 _ _ A ad (L1.wr hi q0 ⟨rfl, rfl⟩ hl (d := .ins c (vs ++ [d])) ⟨dx, putF (N.fnm f) v fs, hc, m, upd_same, ?_, ?_⟩) (cur_calm C k2)⟩
      · rw [putF_new hnew, List.map_append, q1, List.length_append, List.length_singleton, take_succ_get g1]
        rfl
      · rw [sub_upd (L1.frm.inA i hi), putF_new hnew, List.map_append]
        exact Rps.append r0 (.one rp)
    · exact h1.elim

/-! ### branches -/
theorem ss_test {X : Cx} {W : WX} {sc : Scope} {k : KP} {own own' : List Nat} {env : Env} {σ : L2.St} {H : Hp} {A : List Addr} {ad : Nat → Addr} {cur : Option Exn} {D : Ends} {H0 : Hp} {an : Option Addr} {c : RE} {ec : Expr} {f : PD.D → Out} {Q : Bool → Hp → Prop}
    (S : SSite P N n X W sc NN k.cm) (hk : chkE N NN own k.cm k.ci c sc false ec = true) (ht : trOk k own = true) (L : Lv N X.K own env σ H A ad H0 an) (C : CurOk N X A σ H k.cm cur k.ci) (h : WPS N X cur k own' H0 an D W (.of (evE (P.ctx n) cur c env) env f))
    (hf : ∀ d, WPS N X cur k own' H0 an D W (f d) → ∃ t, truth d = .ok t)
    (g : ∀ d t H1, truth d = .ok t → Lv N X.K own env σ H1 A ad H0 an → CurOk N X A σ H1 k.cm cur k.ci → WPS N X cur k own' H0 an D W (f d) → Q t H1) : wT X ec σ H Q := by
  refine (all_expr c).st X W sc ec env σ H A ad cur _ S.site hk L.frm C ?_
  cases he : evE (P.ctx n) cur c env with
  | no => rw [he] at h; exact h.elim
  | ex x =>
    rw [he] at h
    exact fun cls dx H' p => h cls dx σ H' (L.base.trans p.same) p.cls p.rep fun t q => ⟨A, ad, by rw [← trOk_ok ht q]; exact L.mono p.same⟩
  | ok d =>
    rw [he] at h
    obtain ⟨t, htr⟩ := hf d h
    exact wpt_of htr fun H1 s1 => g d t H1 htr (L.mono s1) (C.mono s1) h
theorem s1_ife {c : RE} {a b : RS} (ha : SS P N n NN a) (hb : SS P N n NN b) : S1 P N n NN (.ife c a b) := fun X W sc k own own' st env σ H A ad cur D H0 an S hk L hini C h => by
  rw [chk1_ife] at hk
  split at hk
  case h_2 => cases hk
  case h_1 ec sa sb pos =>
    obtain ⟨k1, hk⟩ := and_t hk
    obtain ⟨k2, hk⟩ := and_t hk
    obtain ⟨k3, k4⟩ := and_t hk
    rw [evS_ife] at h
    refine toS (ps_if pt_w pss_w pss_w) ?_
    refine ss_test S k2 k1 L C h (fun d q => ?_) fun d t H1 htr L1 C1 h1 => ?_
    · have q : WPS N X cur k own' H0 an D W (match truth d with
        | .ok true => evS (P.ctx n) cur a env
        | .ok false => evS (P.ctx n) cur b env
        | _ => .no) := q
      cases e : truth d with
      | ok t => exact ⟨t, rfl⟩
      | ex x => rw [e] at q; exact q.elim
      | no => rw [e] at q; exact q.elim
    · have h1 : WPS N X cur k own' H0 an D W (match truth d with
        | .ok true => evS (P.ctx n) cur a env
        | .ok false => evS (P.ctx n) cur b env
        | _ => .no) := h1
      rw [htr] at h1
      cases t with
      | true => rw [if_pos rfl]; exact ha X W sc k own own' sa env σ H1 A ad cur D H0 an S k3 L1 hini C1 h1
      | false => rw [if_neg (by decide)]; exact hb X W sc k own own' sb env σ H1 A ad cur D H0 an S k4 L1 hini C1 h1

/-! ### sequences -/
theorem ss_skip : SS P N n NN .skip := fun X W sc k own own' ss env σ H A ad cur D H0 an S hk L hini C h => by
  rw [chkS_skip] at hk
  obtain ⟨k1, k2⟩ := and_t hk
  obtain rfl : own' = own := of_decide_eq_true k2
  cases ss with
  | nil => exact toSs pss_nil (h _ _ A ad L C)
  | cons _ _ => cases k1
theorem ss_seq {a b : RS} (ha : S1 P N n NN a) (hb : SS P N n NN b) : SS P N n NN (.seq a b) := fun X W sc k own own' ss env σ H A ad cur D H0 an S hk L hini C h => by
  rw [chkS_seq] at hk
  split at hk
  case h_2 => cases hk
  case h_1 st rest =>
    obtain ⟨k1, k2⟩ := and_t hk
    rw [evS_seq] at h
    refine toSs (pss_cons ps_w pss_w) ?_
    show wS X st { D with nx := fun σ' H' => wSs X rest D σ' H' } σ H
    have go : WPS N X cur k (endO a own) H0 an { D with nx := fun σ' H' => wSs X rest D σ' H' } W (evS (P.ctx n) cur a env) := by
      cases he : evS (P.ctx n) cur a env with
      | nx e =>
        rw [he] at h
        intro σ1 H1 A1 ad1 L1 C1
        exact hb X W sc k _ own' rest e σ1 H1 A1 ad1 cur D H0 an S k2 L1 hini C1 h
      | bk e => rw [he] at h; exact h
      | ct e => rw [he] at h; exact h
      | rt d e => rw [he] at h; exact h
      | ex x e => rw [he] at h; exact h
      | no => rw [he] at h; exact h
    exact ha X W sc k own (endO a own) st env σ H A ad cur _ H0 an S k1 L hini C go
theorem ss_frz {i : Nat} {b : RS} (hb : SS P N n NN b) : SS P N n NN (.frz i b) := fun X W sc k own own' ss env σ H A ad cur D H0 an S hk L hini C h => by
  rw [chkS_frz] at hk
  obtain ⟨k1, hk⟩ := and_t hk
  obtain ⟨k2, hk⟩ := and_t hk
  obtain ⟨k3, k4⟩ := and_t hk
  have hi := List.contains_iff_mem.mp k1
  obtain ⟨c1, c2, c3⟩ := ownAt_ok k2 hini
  rw [evS_frz] at h
  have hd : ∀ c ds, env[i]? ≠ some (.ins c ds) := fun c ds z => by rw [z] at h; exact h
  have h : WPS N X cur k own' H0 an D W (evS (P.ctx n) cur b env) := by
    split at h
    · exact h.elim
    · exact h
  exact hb X W sc k _ own' ss env σ H _ ad cur D H0 an S k4 (L.frz hi c3 (of_decide_eq_true k3) hd) hini (cur_calm C c1) h

/-! ### loops -/
theorem Lv.rebase {K : PySem.W.Frag} {own : List Nat} {env : Env} {σ : L2.St} {H H0 H0' : Hp} {A : List Addr} {ad : Nat → Addr} {an : Option Addr} (L : Lv N K own env σ H A ad H0' an) (s : Same H0 H0') : Lv N K own env σ H A ad H0 an := ⟨L.frm, s.trans L.base, fun a ha => Same.none s (L.new a ha), L.anc⟩
theorem Lv.loop {K : PySem.W.Frag} {own : List Nat} {env : Env} {σ : L2.St} {H H0 : Hp} {A : List Addr} {ad : Nat → Addr} {an : Option Addr} (L : Lv N K own env σ H A ad H0 an) : Lv N K own env σ H A ad (sub H A) an ∧ Same H0 (sub H A) := by
  refine ⟨⟨L.frm, sub_same, fun a ha => sub_in ha, L.anc⟩, fun b o h => ?_⟩
  rw [sub_out fun z => by rw [L.new b z] at h; cases h]
  exact L.base b o h
theorem wps_rebase {X : Cx} {cur : Option Exn} {k : KP} {own' : List Nat} {H0 H0' : Hp} {an : Option Addr} {D : Ends} {W : WX} {o : Out} (s : Same H0 H0') (h : WPS N X cur k own' H0 an D W o) : WPS N X cur k own' H0' an D W o := by
  cases o with
  | nx e => exact fun σ H A ad L C => h σ H A ad (L.rebase s) C
  | bk e => exact fun l q σ H A ad L => h l q σ H A ad (L.rebase s)
  | ct e => exact fun l q σ H A ad L => h l q σ H A ad (L.rebase s)
  | rt d e => exact fun v H b r nl => h v H (s.trans b) r fun z => (nl z).back s
  | ex x e => exact fun cls dx σ H b c r t => h cls dx σ H (s.trans b) c r fun tt q => let ⟨A, ad, L⟩ := t tt q; ⟨A, ad, L.rebase s⟩
  | no => exact h
/-- a loop's body, told by what the rest of the loop promises -/
theorem wps_body {X : Cx} {cur : Option Exn} {k : KP} {own : List Nat} {H0 : Hp} {an : Option Addr} {D : Ends} {W : WX} {o : Out} {r : Env → Out} {Nx : L2.St → Hp → Prop}
    (h : WPS N X cur k own H0 an D W (match o with
      | .nx e => r e
      | .ct e => r e
      | .bk e => .nx e
      | o => o)) (hc : k.cm = true) (hcu : cur = none) (hN : ∀ e, WPS N X cur k own H0 an D W (r e) → ∀ σ H A ad, Lv N X.K own e σ H A ad H0 an → Nx σ H) :
    WPS N X cur { k with lo := some own } own H0 an { D with nx := Nx, ct := Nx, bk := D.nx } W o := by
  have c0 : ∀ {A : List Addr} {σ : L2.St} {H : Hp}, CurOk N X A σ H k.cm cur k.ci := ⟨fun _ => hcu, fun x q => by rw [hcu] at q; cases q⟩
  cases o with
  | nx e => exact fun σ H A ad L _ => hN e h σ H A ad L
  | bk e => exact fun l q σ H A ad L => by cases q; exact h σ H A ad L c0
  | ct e => exact fun l q σ H A ad L => by cases q; exact hN e h σ H A ad L
  | rt d e => exact h
  | ex x e => exact h
  | no => exact h
theorem loop_cons {f : D → Env → Out} {x : D} {xs : List D} {env : Env} : loop f (x :: xs) env = (match f x env with
    | .nx e => loop f xs e
    | .ct e => loop f xs e
    | .bk e => .nx e
    | o => o) := rfl
theorem s1_for {t : RT} {it : RE} {b : RS} (hb : SS P N n NN b) : S1 P N n NN (.for_ t it b) := fun X W sc k own own' st env σ H A ad cur D H0 an S hk L hini C h => by
  rw [chk1_for] at hk
  split at hk
  case h_2 => cases hk
  case h_1 tg ei body pos =>
    obtain ⟨k0, hk⟩ := and_t hk
    obtain ⟨k1, hk⟩ := and_t hk
    obtain ⟨k2, hk⟩ := and_t hk
    obtain ⟨k3, hk⟩ := and_t hk
    obtain ⟨k4, hk⟩ := and_t hk
    obtain ⟨k5, hk⟩ := and_t hk
    obtain ⟨k6, hk⟩ := and_t hk
    obtain ⟨k7, k8⟩ := and_t hk
    obtain rfl : own' = own := of_decide_eq_true k0
    have hlk : leak own' it = false := by simpa using k4
    have hcu : cur = none := C.calm k2
    rw [evS_for] at h
    refine toS (ps_for (S.po k2) (S.site.calm k2) pi_w pg_w pss_w (fun x => ord_fold k3 _ x)) ?_
    show wI X tg ei σ H _
    refine (all_expr it).si X W sc tg ei env σ H A ad cur _ S.site k7 k5 L.frm C ?_
    cases he : evE (P.ctx n) cur it env with
    | no => rw [he] at h; exact h.elim
    | ex x =>
      rw [he] at h
      exact fun cls dx H' p => h cls dx σ H' (L.base.trans p.same) p.cls p.rep fun t q => ⟨A, ad, by rw [← trOk_ok k1 q]; exact L.mono p.same⟩
    | ok sv =>
      rw [he] at h
      have h : WPS N X cur k own' H0 an D W (match walkOf sv with
        | .ok xs => loop (fun x env => match PD.asgT t x env with
          | some e => evS (P.ctx n) cur b e
          | none => .no) xs env
        | _ => .no) := h
      cases hi : walkOf sv with
      | no => rw [hi] at h; exact h.elim
      | ex x => rw [hi] at h; exact h.elim
      | ok xs =>
        rw [hi] at h
        show match walkOf sv with
          | .ok xs => _
          | _ => False
        rw [hi]
        intro J H1 s1 _ y2
        have Y := y2 hlk
        obtain ⟨L1, sb⟩ := (L.mono s1).loop
        have h := wps_rebase sb h
        generalize hff : (fun (x : PD.D) (env : Env) => match PD.asgT t x env with
          | some e => evS (P.ctx n) cur b e
          | none => Out.no) = f at h
        have hff : ∀ x env, f x env = (match PD.asgT t x env with
          | some e => evS (P.ctx n) cur b e
          | none => Out.no) := fun x env => by rw [← hff]
        refine ⟨fun i m σ' H' => i ≤ xs.length ∧ m = xs.length - i ∧ ∃ env' A' ad', Lv N X.K own' env' σ' H' A' ad' (sub H1 A) an ∧ WPS N X cur k own' (sub H1 A) an D W (loop f (xs.drop i) env'), ⟨xs.length, Nat.zero_le _, by omega, env, A, ad, L1, h⟩, ?_⟩
        rintro i m σ' H' ⟨hle, rfl, env', A', ad', L2, h2⟩
        have sA : Same (sub H1 A) (sub H' A) := fun b o q => by
          obtain ⟨nb, _⟩ := sub_some q
          rw [sub_out nb]
          exact L2.base b o q
        have cA : ∀ a ∈ A', a ∈ A ∨ H1 a = none := fun a ha => by
          have q := L2.new a ha
          by_cases z : a ∈ A
          · exact .inl z
          · rw [sub_out z] at q; exact .inr q
        by_cases hlt : i < xs.length
        · obtain ⟨x, hxi⟩ : ∃ x, xs[i]? = some x := ⟨xs[i], List.getElem?_eq_getElem hlt⟩
          have hdr : xs.drop i = x :: xs.drop (i + 1) := by
            rw [List.drop_eq_getElem_cons hlt]
            rw [List.getElem?_eq_getElem hlt] at hxi
            cases hxi
            rfl
          rw [hdr, loop_cons, hff] at h2
          obtain ⟨go, yl⟩ := (Y H' A' sA cA L2.frm.aok i).1 x hxi
          refine .inr ⟨go, fun σ3 H3 => i + 1 ≤ xs.length ∧ ∃ env' A' ad', Lv N X.K own' env' σ3 H3 A' ad' (sub H1 A) an ∧ WPS N X cur k own' (sub H1 A) an D W (loop f (xs.drop (i + 1)) env'), fun σ3 H3 ⟨q1, q2⟩ => ⟨xs.length - (i + 1), by omega, q1, rfl, q2⟩, fun v H2 y => ?_⟩
          obtain ⟨s2, rp⟩ := yl v H2 y
          have L3 := L2.mono s2
          cases hu : PD.asgT t x env' with
          | none => rw [hu] at h2; exact h2.elim
          | some e1 =>
            rw [hu] at h2
            refine (sg_asg (n := n) (cm := k.cm) S.site (S.site.calm k2) (fun x _ => S.fn x) t).1 k6 L3.frm rp hu fun σ1 F1 _ => ?_
            have L4 : Lv N X.K own' e1 σ1 H2 A' ad' (sub H1 A) an := ⟨F1, L3.base, L3.new, L3.anc⟩
            exact hb X W sc { k with lo := some own' } own' own' body e1 σ1 H2 A' ad' cur _ (sub H1 A) an S k8 L4 hini (cur_calm C k2) (wps_body h2 k2 hcu fun e q σ3 H3 A3 ad3 L5 => ⟨hlt, e, A3, ad3, L5, q⟩)
        · have ei : i = xs.length := by omega
          subst ei
          rw [List.drop_length] at h2
          exact .inl ⟨(Y H' A' sA cA L2.frm.aok _).2 (Nat.le_refl _), h2 σ' H' A' ad' L2 (cur_calm C k2)⟩
theorem wloop_succ {c : Env → R D} {b : Env → Out} {m : Nat} {env : Env} : wloop c b (m + 1) env = (match c env with
    | .ok (.bl true) => match b env with
      | .nx e => wloop c b m e
      | .ct e => wloop c b m e
      | .bk e => .nx e
      | o => o
    | .ok (.bl false) => .nx env
    | .ex x => .ex x env
    | _ => .no) := rfl
theorem s1_whl {m : Nat} {c : RE} {b : RS} (hb : SS P N n NN b) : S1 P N n NN (.whl m c b) := fun X W sc k own own' st env σ H A ad cur D H0 an S hk L hini C h => by
  rw [chk1_whl] at hk
  split at hk
  case h_2 => cases hk
  case h_1 ec body pos =>
    obtain ⟨k0, hk⟩ := and_t hk
    obtain ⟨k1, hk⟩ := and_t hk
    obtain ⟨k2, hk⟩ := and_t hk
    obtain ⟨k3, k4⟩ := and_t hk
    obtain rfl : own' = own := of_decide_eq_true k0
    have hcu : cur = none := C.calm k2
    rw [evS_whl] at h
    refine toS (ps_while (S.po k2) pt_w pss_w) ?_
    refine ⟨fun j σ' H' => ∃ env' A' ad', Lv N X.K own' env' σ' H' A' ad' H0 an ∧ WPS N X cur k own' H0 an D W (wloop (evE (P.ctx n) cur c) (evS (P.ctx n) cur b) j env'), ⟨m, env, A, ad, L, h⟩, ?_⟩
    rintro j σ' H' ⟨env', A', ad', L2, h2⟩
    cases j with
    | zero => exact h2.elim
    | succ j =>
      rw [wloop_succ] at h2
      refine ss_test (f := fun d => match d with
        | .bl true => (match evS (P.ctx n) cur b env' with
          | .nx e => wloop (evE (P.ctx n) cur c) (evS (P.ctx n) cur b) j e
          | .ct e => wloop (evE (P.ctx n) cur c) (evS (P.ctx n) cur b) j e
          | .bk e => .nx e
          | o => o)
        | .bl false => .nx env'
        | _ => .no) (own' := own') (D := D) S k3 k1 L2 (cur_calm C k2) ?_ (fun d q => ?_) fun d t H1 htr L3 C3 h3 => ?_
      · cases he : evE (P.ctx n) cur c env' with
        | no => rw [he] at h2; exact h2
        | ex x => rw [he] at h2; exact h2
        | ok d =>
          rw [he] at h2
          cases d <;> first | exact h2 | skip
          rename_i t
          cases t <;> exact h2
      · cases d <;> first | exact q.elim | skip
        rename_i t
        exact ⟨t, rfl⟩
      · cases d <;> first | exact h3.elim | skip
        cases htr
        cases t with
        | true =>
          rw [if_pos rfl]
          refine ⟨fun σ3 H3 => ∃ env' A' ad', Lv N X.K own' env' σ3 H3 A' ad' H0 an ∧ WPS N X cur k own' H0 an D W (wloop (evE (P.ctx n) cur c) (evS (P.ctx n) cur b) j env'), fun σ3 H3 q => ⟨j, Nat.lt_succ_self j, q⟩, ?_⟩
          exact hb X W sc { k with lo := some own' } own' own' body env' σ' H1 A' ad' cur _ H0 an S k4 L3 hini (cur_calm C k2) (wps_body h3 k2 hcu fun e q σ3 H3 A3 ad3 L5 => ⟨e, A3, ad3, L5, q⟩)
        | false =>
          rw [if_neg (by decide)]
          exact h3 σ' H1 A' ad' L3 (cur_calm C k2)

/-! ### raise -/
theorem s1_raise {c : Nat} {es : RE} : S1 P N n NN (.raise c es) := fun X W sc k own own' st env σ H A ad cur D H0 an S hk L hini C h => by
  rw [chk1_raise] at hk
  split at hk
  case h_2 => cases hk
  case h_1 x p1 e1 ees p pos =>
    obtain ⟨k1, hk⟩ := and_t hk
    obtain ⟨k2, hk⟩ := and_t hk
    obtain ⟨k3, hk⟩ := and_t hk
    obtain ⟨k4, hk⟩ := and_t hk
    obtain ⟨k5, hk⟩ := and_t hk
    obtain ⟨k6, hk⟩ := and_t hk
    obtain ⟨kst, k7⟩ := and_t hk
    have hc := of_decide_eq_true k3
    obtain rfl : N.xn c = x := of_decide_eq_true k4
    have ords := chkA_ords kst k7
    obtain ⟨g1, g2⟩ := S.site.facts.xcl c hc
    have hx := (S.site.xs k2).xmk c hc
    rw [evS_raise] at h
    have go : wA X (e1 :: ees) σ H fun vs H1 => vs.length = (N.xf c).length ∧ 0 < vs.length ∧ ∀ dx fs, H1 dx = none → (∀ (k : Nat) (f : Str) (y : V), (N.xf c)[k]? = some f → vs[k]? = some y → fs.lookup f = some y) → W (.ref (xA N X.K c)) (some dx) σ (upd H1 dx (.xd fs)) := by
      refine ss_stepA (f := fun y => match y with
        | .tup ys => if ys.length = (N.xf c).length ∧ 0 < ys.length then .ex ⟨c, ys⟩ env else .no
        | _ => .no) (own' := own') (D := D) S k7 k1 L C ?_ fun ds vs H1 s1 rp L1 C1 h1 => ?_
      · rw [st_eq, S.site.facts.xlen c hc] at h
        exact h
      · have h1 : WPS N X cur k own' H0 an D W (if ds.length = (N.xf c).length ∧ 0 < ds.length then .ex ⟨c, ds⟩ env else .no) := h1
        split at h1
        · rename_i hl
          obtain ⟨hl, hp⟩ := hl
          have el := rp.length
          refine ⟨by rw [el]; exact hl, by rw [el]; exact hp, fun dx fs hdx hfs => h1 _ _ σ _ (L1.base.trans (same_upd hdx)) rfl ?_ fun t q => ⟨A, ad, by rw [← trOk_ok k1 q]; exact L1.mono (same_upd hdx)⟩⟩
          have rp1 : Rps N X.K (upd H1 dx (.xd fs)) vs ds := (rp.mono sub_same).mono (same_upd hdx)
          unfold XRep
          cases ds with
          | nil => cases hp
          | cons d0 dr =>
            refine ⟨dx, fs, rfl, upd_same, hl.symm, fun j f y q1 q2 => ?_⟩
            obtain ⟨v, q3, q4⟩ := rp1.get q2
            exact ⟨v, hfs j f v q1 q3, q4⟩
        · exact h1.elim
    refine toS (ps_raise (S.site.calm k2) S.site.tk (t := fun σ0 H0' Q => σ0 = σ ∧ H0' = H ∧ wA X (e1 :: ees) σ H fun vs H1 => vs.length = (N.xf c).length ∧ 0 < vs.length ∧ ∀ dx fs, H1 dx = none → (∀ (k : Nat) (f : Str) (y : V), (N.xf c)[k]? = some f → vs[k]? = some y → fs.lookup f = some y) → Q (.ref (xA N X.K c)) (some dx) (upd H1 dx (.xd fs))) (fun pins s σ0 H0' Q I hw => ?_)) ⟨rfl, rfl, go⟩
    obtain ⟨rfl, rfl, hw⟩ := hw
    refine wpAny_Call_Name_kw (ld_glob I (S.site.glk k5) g1 ?_ (by
      obtain ⟨q1, _⟩ := and_t k6
      simpa using q1))
    refine PySem.W.callWith_K (h₀ := X.base) I.ok.mod.kin g2 (thn (hw p pins s I) fun us s1 ⟨vs, H1, I1, r1, hl, hp, q⟩ => ⟨I1.kIn, ?_⟩) (ord_star (ords _ List.mem_cons_self) _ _) (stars_none fun e he => ords e (List.mem_cons_of_mem _ he))
    exact hx X rfl rfl rfl rfl rfl (S.site.calm k2) ((S.site.room k2).mono (by omega)) pins s1 _ H1 vs us _ I1 r1 hl hp q
end
end PD
end

section
set_option Elab.async false
set_option linter.all false
set_option maxRecDepth 100000
/-! PD22: try with several clauses, each with a name. -/
namespace L2
open PySem PySem.Spec PyProof.Rows
/-- what the clauses wish of an exception of the body, one after the other -/
def wManyAs (K : PySem.W.Frag) (Wout : WX) (D : Ends) : List (Value × Nat × (Addr → Value → Option Addr → TS)) → WX
  | [] => Wout
  | (c, i, ts) :: r => fun cls d σ H => ∃ b, PySem.W.exmOne K cls c = some b ∧
      (b = true → ∀ a, H a = none → ts a cls d { nx := fun σ' H' => D.nx (σ'.set i none) H', rt := D.rt, bk := fun σ' H' => D.bk (σ'.set i none) H', ct := fun σ' H' => D.ct (σ'.set i none) H' } (σ.set i (some (.ref a))) H) ∧ (b = false → wManyAs K Wout D r cls d σ H)
inductive HdsAs (X : Cx) : List ExceptHandler → List (Value × Nat × (Addr → Value → Option Addr → TS)) → Prop
  | nil : HdsAs X [] []
  | cons {x nm : Str} {c : Value} {i : Nat} {ts : Addr → Value → Option Addr → TS} {b₀ : Stmt} {suite : List Stmt} {np pos' : Pos} {hds : List ExceptHandler} {l : List (Value × Nat × (Addr → Value → Option Addr → TS))} (hc : Names X x c) (hi : X.N[i]? = some nm) (hln : X.env.kindOf nm = some .local)
      (hsu : ∀ (a : Addr) (oe : Obj) (cls : Value) (d : Option Addr) (pn : List (Addr × Obj)), Zc cls d oe → (∃ vs, oe.data = .fields vs) → PSs (X.suite a ((a, oe) :: pn)) (b₀ :: suite) (ts a cls d)) (r : HdsAs X hds l) :
      HdsAs X (.ExceptHandler (some (.Name x np)) (some nm) (b₀ :: suite) pos' :: hds) ((c, i, ts) :: l)
section
variable {X : Cx} {body : List Stmt} {h₀ : ExceptHandler} {hds : List ExceptHandler} {l : List (Value × Nat × (Addr → Value → Option Addr → TS))} {pos : Pos} {tb : WX → TS} {Wout : WX}
theorem pd_try_many (hs : X.stack = X.env :: X.outer) (hf : X.env.frame = some X.env.locals) (hN : X.N.Nodup) (tk : Takes X Wout)
    (hb : ∀ (W : WX) (pn : List (Addr × Obj)) (xe : Value → Shared → Prop), Takes (X.tr pn xe) W → PassesOwn (model X.prog X.w) X.A X.env xe → PSs (X.tr pn xe) body (tb W))
    (hh : HdsAs X (h₀ :: hds) l) : PS X (.Try body (h₀ :: hds) [] [] pos) (fun D σ H => tb (wManyAs X.K Wout D l) D σ H) := by
  refine ⟨fun pins s σ H D I h => ?_⟩
  have ok := I.ok
  have hfr : X.A.frames = some (X.env :: X.outer) := by rw [ok.frames, hs]
  refine wpAny_Try_except ?_
  refine wpAny_mono ((hb (wManyAs X.K Wout D l) (X.pn ++ pins) (fun e s₁ => wpAny (model X.prog X.w) X.A (noteFrame e X.env) (fun _ s₂ => wpAny (model X.prog X.w) X.A (setFlight e none) (fun _ s₃ =>
    wpAny (model X.prog X.w) X.A (handleBy e X.env (h₀ :: hds)) (SP X pins D) X.xe s₃) X.xe s₂) X.xe s₁) (fun u s' xx => ?_) PassesOwn.looking).run [] s σ H D (I.toTry _) h) (fun f s1 hsp => ?_) (fun e s1 he => he)
  · obtain ⟨a, B, sI, pins', σ', H', cls, d, rfl, J', nb, up, sky, na, os, ag, w⟩ := xx
    have J : Inv X pins σ' H' sI := J'.ofTry ok
    have sky' : Sky B (X.env :: X.outer) a (Zc cls d) X.env.locals s'.heap := by rw [← hs]; exact sky
    show wpAny (model X.prog X.w) X.A (noteFrame (.ref a) X.env) _ _ _
    refine Sky.land Zc.steady hfr hf sky' fun h3 fl3 up3 => ?_
    have J3 : Inv X pins σ' H' { s' with heap := h3 } := J.landed nb fl3.1 (up.trans up3) os ag
    obtain ⟨oe3, vs3, he3, hz3, hd3⟩ := fl3.there
    have nfr : a ∉ frs (X.env :: X.outer) := fun hm => by
      obtain ⟨_, o', e', hnf⟩ := fl3.2.2.1.mem hm
      rw [he3] at e'; cases e'
      exact hnf _ hd3
    have nL : a ≠ X.env.locals := fun z => nfr (List.mem_filterMap.mpr ⟨X.env, List.mem_cons_self, by rw [hf, z]⟩)
    have nF : a ∉ X.fs := fun hm => by
      obtain ⟨e, he, q⟩ := List.mem_filterMap.mp hm
      exact nfr (List.mem_filterMap.mpr ⟨e, List.mem_cons_of_mem _ he, q⟩)
    have S3 := J3.suite he3 hd3 na nL nF
    have go : ∀ {hds' : List ExceptHandler} {l' : List (Value × Nat × (Addr → Value → Option Addr → TS))}, HdsAs X hds' l' → wManyAs X.K Wout D l' cls d σ' H' →
        wpAny (model X.prog X.w) X.A (handleBy (.ref a) X.env hds') (SP X pins D) X.xe { s' with heap := h3 } := by
      intro hds' l' hk
      induction hk with
      | nil =>
        intro w
        refine wpAny_handleBy_nil ?_
        obtain ⟨k1, k2, k3, oe, vs, T, oT, ts', he, hz, hd, h1, hr⟩ := id fl3
        unfold PySem.passOn
        refine wpAny_bind (wpAny_field he hd h1 ?_)
        rw [if_neg (show ¬ ((Value.ref T == Value.none) = true) from by simp)]
        have fin : wpAny (model X.prog X.w) X.A (setFlight (.ref a) X.env.frame) (fun _ s4 => wpAny (model X.prog X.w) X.A (throw (.ref a) : Sem Flow) (SP X pins D) X.xe s4) X.xe { s' with heap := h3 } := by
          rw [hf]
          refine HandSPX.setFlight_upZ fl3 fun h4 hh4 up4 => wpAny_throw (tk _ _ ?_)
          exact ⟨a, B, sI, pins, σ', H', cls, d, rfl, J, nb, (up.trans up3).trans up4, .inr (.inr (by rw [hs]; exact hh4)), na, os, ag, w⟩
        first
          | exact wpAny_bind (wpAny_pure (wpAny_bind fin))
          | exact wpAny_bind fin
      | @cons x nm c i ts b₀ suite np pos' hds2 l2 hc hi hln hsu r ih =>
        intro w
        obtain ⟨b, hb1, hyes, hno⟩ := w
        refine wpAny_handleBy_cons (codeAny_handlers_test ?_) (by intro q; cases q)
        have LT : PySem.W.Looks (model X.prog X.w) h3 (typeOf (.ref a)) cls := fun A Q E s k q => wpAny_typeOf_ref (k _ _ he3) (by rw [hz3.1]; exact q)
        have LM := PySem.W.exm_one (M := model X.prog X.w) (J3.kIn) LT hb1
        have test : ∀ {Q : Value → Shared → Prop} {E : Value → Shared → Prop}, Q c { s' with heap := h3 } → wpAny (model X.prog X.w) (X.A.mark (some (.ref a))) (eval (.Name x np) X.env) Q E { s' with heap := h3 } := fun {Q E} q => by
          obtain ⟨hg, hdbg, hm | ⟨hm, hv, hnn⟩⟩ := hc
          · exact ld_glob (X := X.suite a ((a, oe3) :: (X.pn ++ pins))) S3 hg hm q hdbg
          · exact ld_blt (X := X.suite a ((a, oe3) :: (X.pn ++ pins))) S3 hg hm hv q hnn hdbg
        refine test (LM.here ?_)
        cases b with
        | true =>
          refine codeAny_handlers_suite_as ?_
          refine HandSPX.lands_againZ fl3 fun h4 fl4 up4 => ?_
          have J4 : Inv X pins σ' H' { s' with heap := h4 } := J.landed nb fl4.1 ((up.trans up3).trans up4) os ag
          obtain ⟨oe4, vs4, he4, hz4, hd4⟩ := fl4.there
          have S4 := J4.suite he4 hd4 na nL nF
          refine store_ok (X := X.suite a ((a, oe4) :: (X.pn ++ pins))) (v := .ref a) S4 hN hi (.inl hln) rfl (fun s5 S5 => ?_) (.inr hln)
          refine wpAny_mono ((hsu a oe4 cls d (X.pn ++ pins) hz4 ⟨_, hd4⟩).run [] s5 _ H' _ S5 (hyes rfl a na)) (fun f s6 hsp => ?_) (fun _ _ z => False.elim z)
          have end_ : ∀ {σ6 : St} {H6 : Hp} {Q : Shared → Prop}, Inv (X.suite a ((a, oe4) :: (X.pn ++ pins))) [] σ6 H6 s6 → (∀ s7, Inv X pins (σ6.set i none) H6 s7 → Q s7) →
              wpAny (model X.prog X.w) X.A (do bindName X.env nm .none; unbindBehindTheSuite X.env nm pos') (fun _ s7 => Q s7) X.xe s6 := fun {σ6 H6 Q} S6 hq => gone_ok (S6.unsuite ok) hN hi hln hq
          cases f with
          | next =>
            obtain ⟨σ6, H6, S6, q6⟩ := hsp
            exact end_ S6 fun s7 J7 => ⟨_, _, J7, q6⟩
          | brk =>
            obtain ⟨σ6, H6, S6, q6⟩ := hsp
            exact end_ S6 fun s7 J7 => ⟨_, _, J7, q6⟩
          | cont =>
            obtain ⟨σ6, H6, S6, q6⟩ := hsp
            exact end_ S6 fun s7 J7 => ⟨_, _, J7, q6⟩
          | ret u =>
            obtain ⟨v6, σ6, H6, S6, r6, q6⟩ := hsp
            exact end_ S6 fun s7 J7 => ⟨_, _, _, J7, r6, q6⟩
        | false =>
          show wpAny _ X.A (handleBy (.ref a) X.env hds2) _ _ _
          exact ih (hno rfl)
    exact go hh w
  · cases f with
    | next =>
      obtain ⟨σ', H', J', q⟩ := hsp
      exact wpAny_execs_nil ⟨σ', H', J'.ofTry ok, q⟩
    | brk =>
      obtain ⟨σ', H', J', q⟩ := hsp
      exact ⟨σ', H', J'.ofTry ok, q⟩
    | cont =>
      obtain ⟨σ', H', J', q⟩ := hsp
      exact ⟨σ', H', J'.ofTry ok, q⟩
    | ret u =>
      obtain ⟨v, σ', H', J', r, q⟩ := hsp
      exact ⟨v, σ', H', J'.ofTry ok, r, q⟩
end
end L2
namespace PD
open PySem PySem.Spec PyProof.Rows L2
section
variable {P : Prog} {N : Info} {n : Nat} {NN : List Str}
/-- of slot i nothing is known any more -/
theorem Lv.un {K : PySem.W.Frag} {own : List Nat} {env : Env} {σ : L2.St} {H H0 : Hp} {A : List Addr} {ad : Nat → Addr} {an : Option Addr} {i : Nat} {v : Option V} (L : Lv N K own env σ H A ad H0 an) (hi : i ∉ own) : Lv N K own (env.set i .un) (σ.set i v) H A ad H0 an := by
  refine ⟨⟨?_, L.frm.aok, L.frm.inA, L.frm.inj, fun j d h nu nj => ?_, fun j hj => ?_⟩, L.base, L.new, L.anc⟩
  · rw [List.length_set, List.length_set]; exact L.frm.len
  · by_cases e : i = j
    · subst e
      by_cases hl : i < env.length
      · rw [List.getElem?_set_self hl] at h
        cases h
        exact absurd rfl nu
      · rw [List.getElem?_eq_none (by rw [List.length_set]; omega)] at h
        cases h
    · rw [List.getElem?_set_ne e] at h
      rw [List.getElem?_set_ne e]
      exact L.frm.val j d h nu nj
  · have e : i ≠ j := fun z => hi (by rw [z]; exact hj)
    rw [List.getElem?_set_ne e, List.getElem?_set_ne e]
    exact L.frm.ownv j hj
variable (P N n NN) in
def SH (s : RS) : Prop := ∀ (X : Cx) (W : WX) (sc : Scope) (k : KP) (own : List Nat) (hds : List ExceptHandler), SSite P N n X W sc NN k.cm → k.cm = true → k.ini = false → trOk k own = true → chkH N NN s k own sc hds = true →
  ∃ l, HdsAs X hds l ∧ ∀ (x : Exn) (e : Env) (cls : Value) (dx : Option Addr) (σ : L2.St) (H : Hp) (A : List Addr) (ad : Nat → Addr) (D : Ends) (H0 : Hp) (an : Option Addr), Lv N X.K own e σ H A ad H0 an → (an ≠ none → k.ini = true) → cls = .ref (xA N X.K x.c) → XRep N X.K H x dx →
    WPS N X none k own H0 an D W (evS (P.ctx n) (some x) s e) → wManyAs X.K W D l cls dx σ H
theorem sh_nil : SH P N n NN .hnil := fun X W sc k own hds S hc hi ht hk => by
  rw [chkH_hnil] at hk
  cases hds with
  | cons _ _ => cases hk
  | nil =>
    refine ⟨[], .nil, fun x e cls dx σ H A ad D H0 an L _ ec xr h => ?_⟩
    rw [evS_hnil] at h
    exact h cls dx σ H L.base ec xr fun t q => ⟨A, ad, by rw [← trOk_ok ht q]; exact L⟩
theorem SSite.suite {X : Cx} {W : WX} {sc : Scope} {cm : Bool} (S : SSite P N n X W sc NN cm) (a : Addr) (pn : List (Addr × Obj)) : SSite P N n (X.suite a pn) W0 sc NN false where
  site := {
    sc := S.site.sc
    nn := S.site.nn
    nd := S.site.nd
    tk := takes0
    hu := S.site.hu
    calm := fun z => by cases z
    room := fun z => by cases z
    facts := S.site.facts
    fns := fun z => by cases z
    xs := fun z => by cases z }
  fn := S.fn
  po := fun z => by cases z
  stk := fun z => by cases z
  frm := fun z => by cases z
theorem sh_cons {c i : Nat} {s rest : RS} (hs : SS P N n NN s) (hr : SH P N n NN rest) : SH P N n NN (.hcons c i s rest) := fun X W sc k own hds S hcm hi ht hk => by
  rw [chkH_hcons] at hk
  split at hk
  case h_2 => cases hk
  case h_1 x xp nm b0 suite pos' hds =>
    obtain ⟨k0, hk⟩ := and_t hk
    obtain ⟨k1, hk⟩ := and_t hk
    obtain ⟨k2, hk⟩ := and_t hk
    obtain ⟨k3, hk⟩ := and_t hk
    obtain ⟨k4, hk⟩ := and_t hk
    obtain ⟨k5, k6⟩ := and_t hk
    obtain ⟨k5l, k5⟩ := and_t k5
    have hlo : ∀ lo, k.lo = some lo → i ∉ lo := fun lo q z => by
      unfold loFree at k5l
      rw [q] at k5l
      dsimp only at k5l
      rw [List.contains_iff_mem.mpr z] at k5l
      cases k5l
    have hio : i ∉ own := fun z => by rw [List.contains_iff_mem.mpr z] at k4; cases k4
    have hln : X.env.kindOf nm = some .local := by
      show X.env.scope.names.lookup nm = some .local
      rw [S.site.sc]
      split at k3
      · assumption
      · cases k3
    have hNi := S.nm k2
    obtain ⟨l, hl, hrest⟩ := hr X W sc k own hds S hcm hi ht k6
    have nms : Names X x (xVal N X.K c) := by
      obtain ⟨h0, h⟩ := and_t k0
      obtain ⟨h1, h⟩ := and_t h
      obtain ⟨h2, h⟩ := and_t h
      have h0 : xNm N c = x := of_decide_eq_true h0
      have hd : (x == ("__debug__" : Str)) = false := by
        obtain ⟨h2, _⟩ := and_t h2
        simpa using h2
      refine ⟨S.site.glk h1, hd, ?_⟩
      by_cases hc : c = 0
      · subst hc
        have h0 : ("ValueError" : Str) = x := h0
        subst h0
        refine .inr ⟨?_, boot_verr, by decide⟩
        rcases (Bool.or_eq_true _ _).mp h with h | h
        · exact absurd rfl (of_decide_eq_true h)
        · exact S.site.facts.free _ (of_decide_eq_true h)
      · have e1 : xNm N c = N.xn c := if_neg hc
        have e2 : xVal N X.K c = .ref (xA N X.K c) := if_neg hc
        rw [e1] at h0
        subst h0
        rw [e2]
        exact .inl (S.site.facts.xct c ((of_decide_eq_true k1).resolve_left hc))
    refine ⟨(xVal N X.K c, i, fun a cls d => fun D σ H => ∀ oe pn, Zc cls d oe → (∃ vs, oe.data = .fields vs) → wSs (X.suite a ((a, oe) :: pn)) (b0 :: suite) D σ H) :: l, .cons nms hNi hln (fun a oe cls d pn hz hf => ⟨fun pins s σ H D I h => h oe pn hz hf pins s I⟩) hl, fun y e cls dx σ H A ad D H0 an L hini ec xr h => ?_⟩
    rw [evS_hcons, st_eq] at h
    dsimp only at h
    cases hb : P.st.exm y.c c with
    | none => rw [hb] at h; exact h.elim
    | some b =>
      rw [hb] at h
      obtain ⟨_, g1, _, _⟩ := S.site.facts.exm y.c c b hb
      refine ⟨b, by rw [ec]; exact g1, fun z a na => ?_, fun z => ?_⟩
      · subst z
        intro oe pn hz hf
        have hlt : i < e.length := by
          by_cases q : i < e.length
          · exact q
          · rw [if_neg q] at h; exact h.elim
        rw [if_pos hlt] at h
        refine hs (X.suite a ((a, oe) :: pn)) W0 sc { k with cm := false, ci := i, tr := none } own own (b0 :: suite) (e.set i .un) (σ.set i (some (.ref a))) H A ad (some y) _ H0 an (S.suite a _) k5 (L.un hio) hini ⟨fun z => (by cases z), fun y' q => ?_⟩ ?_
        · cases q
          refine ⟨X, a, oe, pn, dx, rfl, ?_, hf, xr, ?_⟩
          · rw [ec] at hz; exact hz
          · rw [List.getElem?_set_self (by rw [L.frm.len]; exact hlt)]
        · cases he : evS (P.ctx n) (some y) s (e.set i .un) with
          | nx e2 =>
            rw [he] at h
            exact fun σ2 H2 A2 ad2 L2 _ => h (σ2.set i none) H2 A2 ad2 (L2.un hio) ⟨fun _ => rfl, fun _ q => by cases q⟩
          | bk e2 =>
            rw [he] at h
            exact fun lo q σ2 H2 A2 ad2 L2 => h lo q (σ2.set i none) H2 A2 ad2 (L2.un (hlo lo q))
          | ct e2 =>
            rw [he] at h
            exact fun lo q σ2 H2 A2 ad2 L2 => h lo q (σ2.set i none) H2 A2 ad2 (L2.un (hlo lo q))
          | rt d e2 => rw [he] at h; exact h
          | ex x2 e2 => rw [he] at h; exact h.elim
          | no => rw [he] at h; exact h.elim
      · subst z
        exact hrest y e cls dx σ H A ad D H0 an L hini ec xr h
theorem s1_try {b hs : RS} (hb : SS P N n NN b) (hh : SH P N n NN hs) : S1 P N n NN (.try_ b hs) := fun X W sc k own own' st env σ H A ad cur D H0 an S hk L hini C h => by
  rw [chk1_try] at hk
  split at hk
  case h_2 => cases hk
  case h_1 body h0 hds pos =>
    obtain ⟨k0, hk⟩ := and_t hk
    obtain ⟨k1, hk⟩ := and_t hk
    obtain ⟨k2, hk⟩ := and_t hk
    obtain ⟨k3, hk⟩ := and_t hk
    obtain ⟨k4, k5⟩ := and_t hk
    obtain rfl : own' = own := of_decide_eq_true k0
    have hni : k.ini = false := by simpa using k3
    have hcu : cur = none := C.calm k2
    subst hcu
    obtain ⟨l, hl, hx⟩ := hh X W sc k own' (h0 :: hds) S k2 hni k1 k5
    rw [evS_try] at h
    refine toS (pd_try_many (tb := fun W' D σ H => ∀ pn xe, Takes (X.tr pn xe) W' → PassesOwn (model X.prog X.w) X.A X.env xe → wSs (X.tr pn xe) body D σ H) (S.stk k2) (S.frm k2) S.nd S.site.tk (fun W' pn xe t po => ⟨fun pins s σ H D I q => q pn xe t po pins s I⟩) hl) fun pn xe t po => ?_
    have S' : SSite P N n (X.tr pn xe) (wManyAs X.K W D l) sc NN k.cm := {
      site := {
        sc := S.site.sc
        nn := S.site.nn
        nd := S.site.nd
        tk := t
        hu := S.site.hu
        calm := S.site.calm
        room := S.site.room
        facts := S.site.facts
        fns := S.site.fns
        xs := S.site.xs }
      fn := S.fn
      po := fun _ => po
      stk := S.stk
      frm := S.frm }
    refine hb (X.tr pn xe) _ sc { k with tr := some own' } own' own' body env σ H A ad none D H0 an S' k4 L hini ⟨fun _ => rfl, fun _ q => by cases q⟩ ?_
    cases he : evS (P.ctx n) none b env with
    | nx e => rw [he] at h; exact fun σ H A ad L1 C1 => h σ H A ad L1 ⟨fun _ => rfl, fun _ q => by cases q⟩
    | bk e => rw [he] at h; exact h
    | ct e => rw [he] at h; exact h
    | rt d e => rw [he] at h; exact h
    | no => rw [he] at h; exact h
    | ex x e =>
      rw [he] at h
      intro cls dx σ1 H1 b1 ec xr ht
      obtain ⟨A1, ad1, L1⟩ := ht own' rfl
      exact hx x e cls dx σ1 H1 A1 ad1 D H0 an L1 hini ec xr h

/-! ### all -/
structure AllS (P : Prog) (N : Info) (n : Nat) (NN : List Str) (s : RS) : Prop where
  s1 : S1 P N n NN s
  ss : SS P N n NN s
  sh : SH P N n NN s
theorem no1 {s : RS} (h : ∀ k own own' sc st, chk1 N NN s k own own' sc st = false) : S1 P N n NN s := fun X W sc k own own' st env σ H A ad cur D H0 an S hk => by rw [h] at hk; cases hk
theorem noS {s : RS} (h : ∀ k own own' sc ss, chkS N NN s k own own' sc ss = false) : SS P N n NN s := fun X W sc k own own' ss env σ H A ad cur D H0 an S hk => by rw [h] at hk; cases hk
theorem noH {s : RS} (h : ∀ k own sc hds, chkH N NN s k own sc hds = false) : SH P N n NN s := fun X W sc k own hds S hc hi ht hk => by rw [h] at hk; cases hk
theorem AllS.one {s : RS} (s1 : S1 P N n NN s) (h2 : ∀ k own own' sc ss, chkS N NN s k own own' sc ss = false) (h3 : ∀ k own sc hds, chkH N NN s k own sc hds = false) : AllS P N n NN s := ⟨s1, noS h2, noH h3⟩
theorem all_stmt (s : RS) : AllS P N n NN s := by
  induction s with
  | skip => exact ⟨no1 fun _ _ _ _ _ => rfl, ss_skip, noH fun _ _ _ _ => rfl⟩
  | seq a b ha hb => exact ⟨no1 fun _ _ _ _ _ => rfl, ss_seq ha.s1 hb.ss, noH fun _ _ _ _ => rfl⟩
  | frz i b hb => exact ⟨no1 fun _ _ _ _ _ => rfl, ss_frz hb.ss, noH fun _ _ _ _ => rfl⟩
  | asg i e => exact .one s1_asg (fun _ _ _ _ _ => rfl) fun _ _ _ _ => rfl
  | asgF i e => exact .one s1_asgF (fun _ _ _ _ _ => rfl) fun _ _ _ _ => rfl
  | asgT t e => exact .one s1_asgT (fun _ _ _ _ _ => rfl) fun _ _ _ _ => rfl
  | app i e => exact .one s1_app (fun _ _ _ _ _ => rfl) fun _ _ _ _ => rfl
  | popA i j e => exact .one s1_popA (fun _ _ _ _ _ => rfl) fun _ _ _ _ => rfl
  | extL i e => exact .one s1_extL (fun _ _ _ _ _ => rfl) fun _ _ _ _ => rfl
  | revL i => exact .one s1_revL (fun _ _ _ _ _ => rfl) fun _ _ _ _ => rfl
  | setL i k e => exact .one s1_setL (fun _ _ _ _ _ => rfl) fun _ _ _ _ => rfl
  | setK i k e => exact .one s1_setK (fun _ _ _ _ _ => rfl) fun _ _ _ _ => rfl
  | newT i => exact .one s1_newT (fun _ _ _ _ _ => rfl) fun _ _ _ _ => rfl
  | setF i k e => exact .one s1_setF (fun _ _ _ _ _ => rfl) fun _ _ _ _ => rfl
  | ife c a b ha hb => exact .one (s1_ife ha.ss hb.ss) (fun _ _ _ _ _ => rfl) fun _ _ _ _ => rfl
  | for_ t it b hb => exact .one (s1_for hb.ss) (fun _ _ _ _ _ => rfl) fun _ _ _ _ => rfl
  | whl m c b hb => exact .one (s1_whl hb.ss) (fun _ _ _ _ _ => rfl) fun _ _ _ _ => rfl
  | ret e => exact .one s1_ret (fun _ _ _ _ _ => rfl) fun _ _ _ _ => rfl
  | retN => exact .one s1_retN (fun _ _ _ _ _ => rfl) fun _ _ _ _ => rfl
  | brk => exact .one s1_brk (fun _ _ _ _ _ => rfl) fun _ _ _ _ => rfl
  | cnt => exact .one s1_cnt (fun _ _ _ _ _ => rfl) fun _ _ _ _ => rfl
  | pass => exact .one s1_pass (fun _ _ _ _ _ => rfl) fun _ _ _ _ => rfl
  | raise c es => exact .one s1_raise (fun _ _ _ _ _ => rfl) fun _ _ _ _ => rfl
  | try_ b hs hb hh => exact .one (s1_try hb.ss hh.sh) (fun _ _ _ _ _ => rfl) fun _ _ _ _ => rfl
  | hnil => exact ⟨no1 fun _ _ _ _ _ => rfl, noS fun _ _ _ _ _ => rfl, sh_nil⟩
  | hcons c i s rest hs hr => exact ⟨no1 fun _ _ _ _ _ => rfl, noS fun _ _ _ _ _ => rfl, sh_cons hs.ss hr.sh⟩
  | expr e => exact .one s1_expr (fun _ _ _ _ _ => rfl) fun _ _ _ _ => rfl
end
end PD
end

section
set_option Elab.async false
set_option linter.all false
set_option maxRecDepth 100000
/-! PD23: defs keep what the evaluator says. -/
namespace PD
open PySem PySem.Spec PyProof.Rows L2
section
variable {P : Prog} {N : Info} {n : Nat} {NN : List Str} {prog : Program} {w : World} {K : PySem.W.Frag} {mg : Str → Option Value} {base : Heap}
/-- a def's body, as told -/
structure DefOk (P : Prog) (N : Info) (K : PySem.W.Frag) (f : Nat) : Prop where
  ex : ∃ (x qual : Str) (params : Arguments) (body : List Stmt) (sc : Scope) (NN : List Str) (fd : FuncData), FunD K x qual params body sc [] [] (fA N K f) fd ∧ Binds K fd (N.pars f) [] ∧ FnScope NN (N.pars f) sc ∧
    (P.fn f).ps = (N.pars f).length ∧ (P.fn f).n = NN.length ∧ chkS N NN (P.fn f).body ⟨true, 0, none, none, N.ini f, N.nw f⟩ (if N.ini f then [0] else []) (endO (P.fn f).body (if N.ini f then [0] else [])) sc body = true
theorem start_at {vs : List V} {i : Nat} {v : V} (h : vs[i]? = some v) : (L2.start NN vs)[i]? = some (some v) := by
  unfold L2.start
  have hl := (List.getElem?_eq_some_iff.mp h).1
  rw [List.getElem?_append_left (by rw [List.length_map]; exact hl), List.getElem?_map, h]
  rfl
theorem startE_at {f : Fn} {ds : List D} {i : Nat} {d : D} (h : (Prog.start f ds)[i]? = some d) (nu : d ≠ .un) : ds[i]? = some d := by
  unfold Prog.start at h
  by_cases hl : i < ds.length
  · rw [List.getElem?_append_left hl] at h
    exact h
  · rw [List.getElem?_append_right (by omega)] at h
    have := List.mem_of_getElem? h
    exact absurd (List.eq_of_mem_replicate this) nu
theorem start_len {f : Fn} {ds : List D} {vs : List V} (h1 : f.n = NN.length) (h2 : vs.length = ds.length) : (L2.start NN vs).length = (Prog.start f ds).length := by
  unfold L2.start Prog.start
  rw [List.length_append, List.length_append, List.length_map, List.length_replicate, List.length_replicate, h1, h2]
/-- the site of a def's body -/
theorem site_of {x qual : Str} {sc : Scope} {f : Addr} {cdv : Value} {A : Around} {outer : List PySem.Env} {s : Shared} {H : Hp} {E : XK} {k : Nat} (FS : Facts P N K mg) (FO : FnsOk P N n prog w K mg base) (FX : FnsX N prog w K mg base) (nd : NN.Nodup)
    (hr : Room (2 * n + 4) (A.deeper (envOfC qual sc s.heap.objs.size f cdv))) : SSite P N n (cxOf (L2.CX prog w) prog w K mg base NN qual sc f cdv A outer s H E) (fun cls d _ H => E cls d H) sc NN true where
  site := {
    sc := rfl
    nn := rfl
    nd := nd
    tk := takes_of rfl rfl rfl rfl
    hu := hr.units
    calm := fun _ => rfl
    room := fun _ => hr
    facts := FS
    fns := fun _ => FO
    xs := fun _ => FX }
  fn := fun _ => rfl
  po := fun _ => passes_of rfl
  stk := fun _ => rfl
  frm := fun _ => rfl
theorem def_fn {f : Nat} (FS : Facts P N K mg) (FO : FnsOk P N n prog w K mg base) (FX : FnsX N prog w K mg base) (hf : N.ini f = false) (d : DefOk P N K f) : ∃ fd, FnOk prog w K mg base (L2.CX prog w) (2 * n + 4 + 1) (fA N K f) fd (N.pars f) (spF N K (N.nw f) (P.run (P.ctx n) f)) ∧ Binds K fd (N.pars f) [] ∧ ∃ oc od osl, K.lookup (fA N K f) = some ⟨oc, od, .func fd, osl⟩ := by
  obtain ⟨x, qual, params, body, sc, NN, fd, F, B, FSc, h1, h2, hk⟩ := d.ex
  rw [hf] at hk
  refine ⟨fd, F.ok FSc (fun vs H Q E ⟨ds, r, h⟩ => ?_) (fun cdv A outer s H vs Q E hr hsp => ?_), B, by
    obtain ⟨oc, od, _, _, _, _, _, _, _, osl, _, lk, _⟩ := F.ex
    exact ⟨oc, od, osl, lk⟩⟩
  · rw [r.length, ← h1]
    by_cases e : ds.length = (P.fn f).ps
    · exact e
    · have e2 : P.run (P.ctx n) f ds = .no := if_neg e
      rw [e2] at h
      exact h.elim
  · obtain ⟨ds, r, h⟩ := hsp
    have hl : ds.length = (P.fn f).ps := by
      by_cases e : ds.length = (P.fn f).ps
      · exact e
      · have e2 : P.run (P.ctx n) f ds = .no := if_neg e
        rw [e2] at h
        exact h.elim
    have e2 : P.run (P.ctx n) f ds = resOf (evS (P.ctx n) none (P.fn f).body (Prog.start (P.fn f) ds)) := if_pos hl
    rw [e2] at h
    have S := site_of (x := x) (cdv := cdv) (A := A) (outer := outer) (s := s) (H := H) (E := E) (k := n) (qual := qual) (sc := sc) (f := fA N K f) FS FO FX FSc.nd hr
    refine ⟨wSs _ body, pss_w, ?_⟩
    refine (all_stmt (P.fn f).body).ss _ _ sc ⟨true, 0, none, none, false, N.nw f⟩ [] _ body (Prog.start (P.fn f) ds) (L2.start NN vs) H [] (fun _ => 0) none _ H none S hk ⟨⟨start_len h2 r.length, .nil, fun i hi => (by cases hi), fun i hi => (by cases hi), fun i d hd nu _ => ?_, fun i hi => (by cases hi)⟩, Same.refl H, fun a ha => (by cases ha), fun a ha => (by cases ha)⟩ (fun z => absurd rfl z) ⟨fun _ => rfl, fun _ q => by cases q⟩ ?_
    · obtain ⟨v, hv, rv⟩ := r.get (startE_at hd nu)
      exact ⟨v, start_at hv, by rw [sub_nil]; exact rv⟩
    · cases he : evS (P.ctx n) none (P.fn f).body (Prog.start (P.fn f) ds) with
      | nx e => rw [he] at h; exact fun σ H' A ad L _ => h .non H' L.base .non fun _ _ z => by cases z
      | bk e => rw [he] at h; exact h.elim
      | ct e => rw [he] at h; exact h.elim
      | rt d e => rw [he] at h; exact fun v H' b rv nl => h v H' b rv nl
      | ex x e => rw [he] at h; exact fun cls dx σ H' b c xr _ => h cls dx H' b c xr
      | no => rw [he] at h; exact h.elim
theorem def_ini {c : Nat} (FS : Facts P N K mg) (FO : FnsOk P N n prog w K mg base) (FX : FnsX N prog w K mg base) (hc : c < N.nc) (hf : N.ini (P.init c) = true) (d : DefOk P N K (P.init c)) : ∃ fd, FnOk prog w K mg base (L2.CX prog w) (2 * n + 4 + 1) (fA N K (P.init c)) fd (N.pars (P.init c)) (spI N K c (P.mk_ (P.ctx n) c)) ∧ Binds K fd (N.pars (P.init c)) [] := by
  obtain ⟨x, qual, params, body, sc, NN, fd, F, B, FSc, h1, h2, hk⟩ := d.ex
  rw [hf] at hk
  have hlen : ∀ {ds : List D} {Q : Hp → Prop} {E : XK} {H' : Hp}, (match P.mk_ (P.ctx n) c ds with
      | .ok d => ∀ H1, Same H' H1 → Q H1
      | .ex x => True
      | .no => False) → ds.length + 1 = (P.fn (P.init c)).ps := fun {ds Q E H'} h => by
    by_cases e : ds.length + 1 = (P.fn (P.init c)).ps
    · exact e
    · have e2 : P.mk_ (P.ctx n) c ds = .no := if_neg e
      rw [e2] at h
      exact h.elim
  have hlen2 : ∀ {ds : List D}, P.mk_ (P.ctx n) c ds ≠ .no → ds.length + 1 = (P.fn (P.init c)).ps := fun {ds} h => by
    by_cases e : ds.length + 1 = (P.fn (P.init c)).ps
    · exact e
    · exact absurd (if_neg e) h
  refine ⟨fd, F.ok FSc (fun vs H Q E ⟨a, dx, us, ds, ev, ha, hd, r, h⟩ => ?_) (fun cdv A outer s H vs Q E hr hsp => ?_), B⟩
  · have e := hlen2 (ds := ds) fun z => by rw [z] at h; exact h
    rw [ev, List.length_cons, r.length, e, h1]
  · obtain ⟨a, dx, us, ds, rfl, ha, hd, r, h⟩ := hsp
    have hl := hlen2 (ds := ds) fun z => by rw [z] at h; exact h
    have e2 : P.mk_ (P.ctx n) c ds = selfOf (evS (P.ctx n) none (P.fn (P.init c)).body (Prog.start (P.fn (P.init c)) (.ins c [] :: ds))) := if_pos hl
    rw [e2] at h
    have S := site_of (x := x) (cdv := cdv) (A := A) (outer := outer) (s := s) (H := H) (E := E) (k := n) (qual := qual) (sc := sc) (f := fA N K (P.init c)) FS FO FX FSc.nd hr
    have hax : a ≠ dx := fun z => by rw [z, hd] at ha; cases ha
    refine ⟨wSs _ body, pss_w, ?_⟩
    refine (all_stmt (P.fn (P.init c)).body).ss _ _ sc ⟨true, 0, none, none, true, N.nw (P.init c)⟩ [0] _ body (Prog.start (P.fn (P.init c)) (.ins c [] :: ds)) (L2.start NN (.ref a :: us)) H [a, dx] (fun _ => a) none _ (sub H [a, dx]) (some a) S hk ⟨⟨start_len h2 (by rw [List.length_cons, List.length_cons, r.length]), fun b hb => ?_, fun i _ => List.mem_cons_self, fun i hi j hj _ => ?_, fun i d hd' nu ni => ?_, fun i hi => ?_⟩, sub_same, fun b hb => sub_in hb, fun b hb => ?_⟩ (fun _ => rfl) ⟨fun _ => rfl, fun _ q => by cases q⟩ ?_
    · rcases List.mem_cons.mp hb with rfl | hb
      · exact .inr (.inr (.inr (.inl ⟨_, dx, _, ha, by simp, hd⟩)))
      · obtain rfl := List.mem_singleton.mp hb
        exact .inr (.inr (.inr (.inr ⟨a, hd, List.mem_cons_self, _, _, ha⟩)))
    · rw [List.mem_singleton.mp hi, List.mem_singleton.mp hj]
    · have h3 := startE_at hd' nu
      cases i with
      | zero => exact absurd (List.mem_singleton.mpr rfl) ni
      | succ i =>
        obtain ⟨v, hv, rv⟩ := r.get (show ds[i]? = some d from h3)
        exact ⟨v, start_at (vs := .ref a :: us) (i := i + 1) hv, rv⟩
    · obtain rfl := List.mem_singleton.mp hi
      exact ⟨.ins c [], rfl, start_at (vs := .ref a :: us) (i := 0) rfl, dx, [], hc, by simp, ha, rfl, .nil⟩
    · cases hb
      exact ⟨List.mem_singleton.mpr rfl, rfl⟩
    · cases he : evS (P.ctx n) none (P.fn (P.init c)).body (Prog.start (P.fn (P.init c)) (.ins c [] :: ds)) with
      | nx e =>
        rw [he] at h
        intro σ H' A' ad L _
        obtain ⟨z0, z1⟩ := L.anc a rfl
        obtain ⟨d, q1, q2, o⟩ := L.frm.ownv 0 z0
        have h : match (match e[0]? with
            | some d => R.ok d
            | none => .no) with
          | .ok d => ∀ H', Same (sub H [a, dx]) H' → Rp N K H' (.ref a) d → Q .non H'
          | .ex x => ∀ cls dx' H', Same (sub H [a, dx]) H' → cls = .ref (He.ga K (N.xn x.c)) → XRep N K H' x dx' → E cls dx' H'
          | .no => False := h
        rw [q1] at h
        rw [z1] at o
        exact h H' L.base o.rp
      | bk e => rw [he] at h; exact h.elim
      | ct e => rw [he] at h; exact h.elim
      | rt d e => rw [he] at h; exact h.elim
      | ex x e => rw [he] at h; exact fun cls dx' σ H' b c xr _ => h cls dx' H' b c xr
      | no => rw [he] at h; exact h.elim
theorem spF_no {f : Nat} {nw : Bool} (h : DefOk P N K f) {ev : List D → R D} (he : ∀ ds, ev ds = .no) {k : Nat} : ∃ fd, FnOk prog w K mg base (L2.CX prog w) (k + 1) (fA N K f) fd (N.pars f) (spF N K nw ev) ∧ Binds K fd (N.pars f) [] := by
  obtain ⟨x, qual, params, body, sc, NN, fd, F, B, FSc, _⟩ := h.ex
  refine ⟨fd, F.ok FSc (fun vs H Q E ⟨ds, r, h⟩ => ?_) (fun cdv A outer s H vs Q E hr ⟨ds, r, h⟩ => ?_), B⟩
  · rw [he] at h; exact h.elim
  · rw [he] at h; exact h.elim
theorem spI_no {c : Nat} (h : DefOk P N K (P.init c)) {ev : List D → R D} (he : ∀ ds, ev ds = .no) {k : Nat} : ∃ fd, FnOk prog w K mg base (L2.CX prog w) (k + 1) (fA N K (P.init c)) fd (N.pars (P.init c)) (spI N K c ev) ∧ Binds K fd (N.pars (P.init c)) [] := by
  obtain ⟨x, qual, params, body, sc, NN, fd, F, B, FSc, _⟩ := h.ex
  refine ⟨fd, F.ok FSc (fun vs H Q E ⟨_, _, _, ds, _, _, _, _, h⟩ => ?_) (fun cdv A outer s H vs Q E hr ⟨_, _, _, ds, _, _, _, _, h⟩ => ?_), B⟩
  · rw [he] at h; exact h.elim
  · rw [he] at h; exact h.elim
/-- all calls, to any depth -/
theorem fns_all (FS : Facts P N K mg) (FX : FnsX N prog w K mg base) (hd : ∀ f, f < N.nf → DefOk P N K f) (hi : ∀ c, c < N.nc → P.init c < N.nf ∧ N.ini (P.init c) = true) : ∀ n, FnsOk P N n prog w K mg base
  | 0 => ⟨fun f hf _ => spF_no (hd f hf) fun _ => rfl, fun c hc => spI_no (hd _ (hi c hc).1) fun _ => rfl⟩
  | n + 1 => {
    fn := fun f hf hn => by
      obtain ⟨fd, F, B, _⟩ := def_fn FS (fns_all FS FX hd hi n) FX hn (hd f hf)
      have e : 2 * (n + 1) + 3 = 2 * n + 4 + 1 := by omega
      rw [e]
      exact ⟨fd, F, B⟩
    ini := fun c hc => by
      obtain ⟨h1, h2⟩ := hi c hc
      obtain ⟨fd, F, B⟩ := def_ini FS (fns_all FS FX hd hi n) FX hc h2 (hd _ h1)
      have e : 2 * (n + 1) + 3 = 2 * n + 4 + 1 := by omega
      rw [e]
      exact ⟨fd, F, B⟩ }
end
end PD
end

section
set_option Elab.async false
set_option linter.all false
set_option maxRecDepth 100000
/-! PD24: an exception whose __init__ says super().__init__(text) and stores one field. -/
namespace PySem
section
open PySem.W PySem.Calls PyProof.Rows
variable {prog : Program} {w : World} {A : Around} {E : Value → Shared → Prop} {h : Heap} {g : Array GenState} {d : Drawn} {t : Nat} {os : OsState}
variable {nm q : Str} {C N : Addr} {bs bm : List Value} {hdct : Bool} {sn : List Str} {sub : List Value} {ab : Bool} {col : Option Bool} {dd : Option Addr} {k0 k1 k2 k3 k5 : Option Value}
/-- ValueError.__init__, bound to e -/
theorem pd_call_mw {u e t0 : Addr} {rest : List Value} {Q : Value → Shared → Prop}
    (hC : h.get? C = some (excClassObj nm q C N bs bm hdct sn sub ab col dd k0 k1 k2 k3 k5 "ValueError.__new__")) (he : h.get? e = some (HandSPX.excO C t0)) (hu : h.get? u = some (kxs_mw "ValueError.__init__" e)) (hrest : rest.length ≤ sizeLine)
    (hq : ∀ h' t1, (∀ b o, b ≠ e → h.get? b = some o → h'.get? b = some o) → h'.get? e = some (HandSPX.excO C t1) → Q .none ⟨h', g, d, t, os⟩) :
    wpAny (model prog w) A (call (.ref u) rest) Q E ⟨h, g, d, t, os⟩ := by
  refine wpAny_call (codeAny_of_tree ?_)
  show wpAny _ A.in1 (callAny (.ref u) ⟨rest, []⟩) _ _ _
  simp only [callAny]
  refine wpAny_bind (wpAny_load hu ?_)
  simp only [kxs_mw, show (Value.type "method-wrapper" == Value.type "method" || Value.type "method-wrapper" == Value.type "builtin_function_or_method" || Value.type "method-wrapper" == Value.type "method-wrapper") = true by decide, if_true]
  refine W.KFB.if_so (by decide) ?_
  refine wpAny_bind (ESX.check_bound F.excBase_ValueError hC he rfl ?_)
  refine wpAny_bind (wpAny_pure (wpAny_pure ?_))
  refine ⟨Code.quiet_builtin _ (by decide +kernel), codeAny_builtin F.excBase_ValueError.initEntry ?_⟩
  rw [Around.under_plainId F.excBase_ValueError.init.plain _]
  wp_walk
  refine hq _ h.objs.size (fun b o hb ho => ?_) ?_
  · rw [Heap.get?_update_other _ _ (Ne.symm hb)]
    exact Heap.get?_push_of_some _ ho
  · rw [Heap.get?_update_self _ (Heap.get?_push_of_some _ he) rfl]
    rfl
/-- f(e) of such a wrapper, one text as argument -/
theorem pd_callWith_mw {s : Shared} {pos : Pos} {u x : Addr} {env : PySem.Env} {e : Expr} {Q : Value → Shared → Prop} (he : starEach [e] env = [(false, eval e env)])
    (h : wpAny (model prog w) A (spliced (backTo pos (starEach [e] env))) (fun vs s₁ => s₁.heap.get? u = some (kxs_mw "ValueError.__init__" x) ∧ wpAny (model prog w) A (call (.ref u) vs) Q E s₁) E s) :
    wpAny (model prog w) A (callWith pos (.ref u) [] (backTo pos (starEach [e] env)) []) Q E s := by
  rw [he] at h ⊢
  refine kxs_callWith (i := "ValueError.__init__") (x := x) (first := []) rfl (evalArgs_plain ?_)
  exact h
theorem pd_meth_eval {o : Expr} {m : PySem.Str} {apos pos : Pos} {es : List Expr} {env : PySem.Env} (hs : ∀ e ∈ es, PD.ord e = true) (hl : es.length < 30) (hp : apos.endLine = pos.line) :
    eval (.Call (.Attribute o m apos) es [] pos) env = (do
      let ov ← attributeBase o m env (eval o env)
      standAt apos.atName
      let (f, first) ← holding [ov] (getMethod ov m (do return (← importBound o env).getD true))
      callWith pos f first (backTo pos (starEach es env)) []) := by
  show (do
    let ov ← attributeBase o m env (eval o env)
    standAt apos.atName
    methodCall o m apos pos env ov (es.length + ([] : List Keyword).length) (backTo pos (starEach es env)) (backToKw pos (keywordEach [] env))) = _
  have few : methodCallForm (es.length + ([] : List Keyword).length) (backTo pos (starEach es env)) (backToKw pos (keywordEach [] env)) = true := by
    unfold methodCallForm
    rw [PD.stars_all hs]
    show (true && (true && decide (es.length + 0 + 0 < 30))) = true
    simp [hl]
  have hpos : methodCallPos true o env apos pos = pure pos := by
    unfold methodCallPos
    rw [if_pos (by simp [hp])]
  refine congrArg (bind (attributeBase o m env (eval o env))) (funext fun ov => ?_)
  refine congrArg (bind (standAt apos.atName)) (funext fun _ => ?_)
  unfold methodCall
  rw [few, hpos]
  unfold calleeOf
  rw [if_pos rfl]
  refine congrArg (bind _) (funext fun fx => ?_)
  obtain ⟨f, first⟩ := fx
  show ((pure pos : Sem Pos) >>= fun cp => callWith cp f first _ _) = _
  rw [pure_bind]
  rfl
/-- such an __init__: super().__init__(text); self.f = x -/
def xBody (sx vx f : PySem.Str) : List Stmt → Bool
  | [.Expr (.Call (.Attribute (.Call (.Name s _) [] [] _) m ap) [.Constant (.str _) _ _] [] p) _, .Assign [.Attribute (.Name x _) g _] (.Name v _) _] =>
    decide (s = "super") && (decide (m = "__init__") && ((ap.endLine == p.line) && (decide (x = sx) && (decide (g = f) && decide (v = vx)))))
  | _ => false
theorem xBody_ok {sx vx f : PySem.Str} {body : List Stmt} (h : xBody sx vx f body = true) : ∃ b1 b2 ap st k b4 p b6 b7 b8 b9 b10, body = [.Expr (.Call (.Attribute (.Call (.Name "super" b1) [] [] b2) "__init__" ap) [.Constant (.str st) k b4] [] p) b6, .Assign [.Attribute (.Name sx b7) f b8] (.Name vx b9) b10] ∧ (ap.endLine == p.line) = true := by
  unfold xBody at h
  split at h
  · simp only [Bool.and_eq_true, decide_eq_true_eq] at h
    obtain ⟨rfl, rfl, h3, rfl, rfl, rfl⟩ := h
    exact ⟨_, _, _, _, _, _, _, _, _, _, _, _, rfl, h3⟩
  · cases h
/-- what the written part says of such a class; f its field -/
structure XCls (prog : Program) (K : Frag) (mg : PySem.Str → Option Value) (C : Addr) (f : PySem.Str) : Prop where
  T : L2.OexC K C
  veC : subIn K (.ref C) (.type "ValueError") = some true
  fld : findIn K (.ref C) f = some none
  any : nsIn K cStatics "thirdparty.any" = some none
  sup : mg "super" = none
  msc : (prog.main.scope.names.lookup ("super" : PySem.Str)).isSome = false
  chain : ks_superIn K C C "__init__" = some (some (.builtin "ValueError.__init__"))
  self : mroIn K C (.ref C) = some true
  has : ∃ (fI cc cda : Addr) (fd : FuncData) (oc ccl cl : Value) (od cdd cld : Option Addr) (osl ccs csl : Array (Option Value)) (vs : Array Value) (file : PySem.Str) (tf : Tok) (sx vx : PySem.Str) (ar : Arg) (body : List Stmt),
    findIn K (.ref C) "__init__" = some (some (.ref fI)) ∧ typeIn K (.ref fI) = some (.type "function") ∧ K.lookup fI = some ⟨oc, od, .func fd, osl⟩ ∧ fd.body = .stmts body ∧ xBody sx vx f body = true ∧ fd.closure = [(("__class__" : PySem.Str), cc)] ∧ fd.globals = mainGlobals ∧ fd.builtins = builtinsNs ∧ fd.code = .ref cda ∧
    codeIn K fd.code fd.qualname = true ∧ K.lookup cda = some ⟨ccl, cdd, .fields vs, ccs⟩ ∧ vs[2]? = some (.str file tf) ∧ ((prog.main.file : PySem.Str) == file) = true ∧ K.lookup cc = some ⟨cl, cld, .cell (some (.ref C)), csl⟩ ∧
    (fd.params.posonlyargs ++ fd.params.args).head? = some ar ∧ ar.arg = sx ∧ sx ≠ vx ∧ (∀ u v : Value, bindArgs fd ⟨[u, v], []⟩ = pure [(sx, u), (vx, v)]) ∧
    fd.scope.names.lookup ("super" : PySem.Str) = some .globalImplicit ∧ fd.scope.names.lookup ("__class__" : PySem.Str) = some .free ∧ fd.scope.names.lookup sx = some .local ∧ fd.scope.names.lookup vx = some .local ∧ (sx == ("__debug__" : PySem.Str)) = false ∧ (vx == ("__debug__" : PySem.Str)) = false ∧
    (∀ x ∈ fd.scope.names, x.2 ≠ .cell) ∧ fd.scope.isCoroutine = false ∧ fd.scope.isGenerator = false ∧ fd.scope.kind = .function
/-- the __init__ runs -/
theorem pd_init_run {K : Frag} {mg : PySem.Str → Option Value} {f : PySem.Str} {t0 e : Addr} {u : Value} {R : Result → Shared → Prop} (Z : XCls prog K mg C f) (X : K.In h) (hg : h.Ns mainGlobals mg) (hb : ∃ mb, h.Ns builtinsNs mb ∧ ∀ x : PySem.Str, x ≠ "__name__" → mb x = bootBuiltins x) (lim : h.NoLimit) (room : A.depth < recursionLimit)
    (he : h.get? e = some (HandSPX.excO C t0)) (heK : K.lookup e = none)
    (hq : ∀ h' tk dx t1, (∀ b o, b ≠ e → h.get? b = some o → h'.get? b = some o) → h.objs.size ≤ dx → dx ≠ e → h'.get? e = some { cls := .ref C, dict := some dx, data := .fields #[.ref t1, .none, .none, .none, .bool false, .none] } →
      h'.Ns1 dx (fun y => if y = f then some u else none) → R (.ok (.ret .none)) ⟨h', g, d, tk, os⟩) :
    ∃ fI, findIn K (.ref C) "__init__" = some (some (.ref fI)) ∧ typeIn K (.ref fI) = some (.type "function") ∧ codeAny (model prog w) A (.call (.ref fI) ⟨[.ref e, u], []⟩) R ⟨h, g, d, t, os⟩ := by
  obtain ⟨fI, cc, cda, fd, oc, ccl, cl, od, cdd, cld, osl, ccs, csl, vs, file, tf, sx, vx, ar, body, h1, h2, lk, hbody, hxb, hclo, hglo, hblt, hcode, hcd, lcda, hvs, hfile, lcc, hp, har, hne, hbind, n1, n2, n3, n4, d1, d2, nocell, hco, hgen, hk⟩ := Z.has
  refine ⟨fI, h1, h2, ?_⟩
  obtain ⟨b1, b2, ap, st, kk, b4, p, b6, b7, b8, b9, b10, rfl, hline⟩ := xBody_ok hxb
  obtain ⟨mb, hmb, hbb⟩ := hb
  obtain ⟨nmC, qC, NC, bsC, bmC, snC, subC, abC, colC, ddC, c0, c1, c2, c3, c5, lC, hbm⟩ := Z.T.cls
  refine ks_codeAny_call_defAt room (X _ _ lk) rfl lim (codeRec_of X hcd) hbody (BindsTo.of_eq (hbind _ _)) nocell (fun x hx => ?_) (fun h0 hns k0 => ?_) hco hgen hk
  · rcases List.mem_cons.mp hx with rfl | hx
    · exact n3
    · obtain rfl := List.mem_singleton.mp hx
      exact n4
  generalize hL : h.objs.size = L at hns ⊢
  have eL : (callEnv fd L fI).locals = L := rfl
  have X0 : K.In h0 := X.keeps k0
  have he0 := k0 _ _ he
  have hC0 := X0 _ _ lC
  obtain ⟨cdC, hcC, hhd⟩ : ∃ cd, clsIn K C = some cd ∧ cd.hasDict = true := by
    unfold clsIn
    rw [lC]
    exact ⟨_, rfl, rfl⟩
  have hmr : HandSPX.refsVE cdC.mro = true := by
    have : clsIn K C = some cdC := hcC
    unfold clsIn at this
    rw [lC] at this
    cases this
    exact hbm
  have m1 : (fun x => ([(sx, Value.ref e), (vx, u)] : List (PySem.Str × Value)).reverse.lookup x) sx = some (.ref e) := by
    show ([(vx, u), (sx, Value.ref e)] : List (PySem.Str × Value)).lookup sx = _
    rw [List.lookup_cons, beq_false_of_ne hne, List.lookup_cons]
    simp
  have m2 : (fun x => ([(sx, Value.ref e), (vx, u)] : List (PySem.Str × Value)).reverse.lookup x) vx = some u := by
    show ([(vx, u), (sx, Value.ref e)] : List (PySem.Str × Value)).lookup vx = _
    rw [List.lookup_cons]
    simp
  have kfun : (callEnv fd L fI).scope.kind = .function := hk
  refine ks_wpAt_execs_cons (ks_wpAt_Expr_any (ks_wpAt_MethodCall (pl := do return (← importBound (.Call (.Name "super" b1) [] [] b2) (callEnv fd L fI)).getD true) ?_ ?_) ?_ rfl)
  · refine ks_wpAt_super_base (env := callEnv fd L fI) n1 n2 (by decide) rfl (X0 _ _ lk) rfl hp hcode (X0 _ _ lcda) rfl hvs hfile Z.msc ?_
    refine ks_loadName_global kfun n1 (loadGlobal_builtin (env := callEnv fd L fI) (by show h0.Ns fd.globals mg; rw [hglo]; exact hg.keeps k0) Z.sup (by show h0.Ns fd.builtins mb; rw [hblt]; exact hmb.keeps k0) ((hbb _ (by decide +kernel)).trans (by decide +kernel)) ⟨rfl, ?_⟩)
    refine wpAny_loadName_free kfun n2 (by show fd.closure.lookup _ = _; rw [hclo]; rfl) ⟨_, X0 _ _ lcc, rfl⟩ ?_
    rw [har]
    refine wpAny_loadName_local kfun n3 hns m1 ?_
    refine ks_wpAny_isType_cls hC0 rfl ⟨rfl, ?_⟩
    refine ks_wpAny_call_super hC0 rfl he0 rfl (fun c z => by cases z) (looks_mroIn X0 Z.self) fun h1 hso k1 => ?_
    have X1 : K.In h1 := X0.keeps k1
    have I1 : InstAt h1 e (HandSPX.excO C t0) C none := ⟨k1 _ _ he0, rfl, rfl, trivial⟩
    have hin : Looks (model prog w) h1 (isInstance (.ref e) (.type "ValueError")) true := I1.type.andThen (looks_subIn X1 Z.veC)
    have hsu := Z.chain
    unfold ks_superIn at hsu
    rw [hcC] at hsu
    refine kxs_getMethod kxs_ValueError hso (looks_opaque X1 Z.any) (l₀ := cdC.mro) (fun A Q E s k q => wpAny_bind ((looks_clsIn X1 hcC) A _ E s k (wpAny_pure q))) rfl X1 hsu hin (ks_ne X1 I1 hcC) (by decide) ?_
    -- the wrapper, called with the text
    refine pd_callWith_mw (x := e) rfl (spliced_cons ?_)
    show wpAny _ _ (eval (.Constant (.str st) kk b4) _) _ _ _
    refine Calls.Constant_str (spliced_nil ⟨?_, ?_⟩)
    · exact Heap.get?_push_at rfl rfl
    · have k2 : ∀ b o, h1.get? b = some o → (h1.push (kxs_mw "ValueError.__init__" e)).get? b = some o := fun b o z => Heap.get?_push_of_some _ z
      refine pd_call_mw (X1.keeps k2 _ _ lC) (k2 _ _ (k1 _ _ he0)) (Heap.get?_push_at rfl rfl) (by show 1 ≤ sizeLine; decide) fun h3 t1 k3 he3 => ?_
      have eLe : L ≠ e := fun z => by
        have := Heap.lt_size he
        rw [← z, ← hL] at this
        exact absurd this (Nat.lt_irrefl _)
      have kk : ∀ b o, b ≠ e → h0.get? b = some o → h3.get? b = some o := fun b o n z => k3 b o n (k2 _ _ (k1 _ _ z))
      have hns3 : h3.Ns L (fun x => ([(sx, Value.ref e), (vx, u)] : List (PySem.Str × Value)).reverse.lookup x) := by
        obtain ⟨oL, es, ep, hLo, r⟩ := hns
        exact ⟨oL, es, ep, kk _ _ eLe hLo, r⟩
      have eC : C ≠ e := fun z => by
        have q1 := X _ _ lC
        rw [z, he] at q1
        cases q1
      have X3 : K.In h3 := fun b o z => kk b o (fun y => by
        rw [y, heK] at z
        cases z) (X0 b o z)
      -- the field
      refine ks_wpAt_execs_cons (wpAt_of_any (plainObj_wpAny_Assign_Attribute ?_ rfl))
      refine wpAny_Name (wpAny_loadName_local kfun n4 hns3 m2 ?_) (hd := d2)
      refine wpAny_Name (wpAny_loadName_local kfun n3 hns3 m1 ?_) (hd := d1)
      refine set_plain X3 (ox := HandSPX.excO C t1) (od := none) ⟨he3, rfl, rfl, trivial⟩ Z.T.sa ?_
      refine HandSPX.exc_osa X3 he3 hcC hmr hhd Z.fld (fun h4 tk dx k4 dn dne he4 hn4 => ?_)
      refine wpAt_of_any (wpAny_execs_nil ?_)
      have hLlt : L < h3.objs.size := by
        obtain ⟨oL, es, ep, hLo, r⟩ := hns3
        exact Heap.lt_size hLo
      exact hq h4 tk dx t1 (fun b o n z => k4 b o n (kk b o n (k0 b o z))) (by rw [hL]; exact Nat.le_trans (Nat.le_of_lt hLlt) dn) dne he4 hn4
  · exact pd_meth_eval (fun e he => by obtain rfl := List.mem_singleton.mp he; rfl) (show 1 < 30 by decide) (by simpa using hline)
  · unfold interactive
    rw [kfun]
    rfl
end
end PySem
namespace PD
open PySem PySem.Spec PyProof.Rows L2
section
variable {N : Info} {prog : Program} {w : World} {K : PySem.W.Frag} {mg : Str → Option Value} {base : Heap}
theorem xmk_of {c : Nat} {f : Str} (hf : N.xf c = [f]) (Z : XCls prog K mg (xA N K c) f) : XMk N prog w K mg base c := by
  intro X e1 e2 e3 e4 e5 hc hr pins s σ H vs us Q I r hl hp q
  subst e1 e2 e3 e4 e5
  rw [hf] at hl
  obtain ⟨y, rfl⟩ : ∃ y, vs = [y] := by
    cases vs with
    | nil => cases hl
    | cons a t => cases t with
      | nil => exact ⟨a, rfl⟩
      | cons _ _ => cases hl
  obtain ⟨u, rfl, ru⟩ := r.one
  obtain ⟨hp', g, dr, tk, os⟩ := s
  obtain ⟨nm, qn, NC, bs, bm, sn, sub', ab, col, dd, k0, k1, k2, k3, k5, lC, hbm⟩ := Z.T.cls
  have kk : ∀ b o, hp'.get? b = some o → ((hp'.push (PySem.W.kdv_tup [u])).push (PySem.HandSPX.excO (xA N X.K c) hp'.objs.size)).get? b = some o := fun b o e => Heap.get?_push_of_some _ (Heap.get?_push_of_some _ e)
  have hget : ((hp'.push (PySem.W.kdv_tup [u])).push (PySem.HandSPX.excO (xA N X.K c) hp'.objs.size)).get? (hp'.objs.size + 1) = some (PySem.HandSPX.excO (xA N X.K c) hp'.objs.size) := by heap_get
  have new : hp'.get? (hp'.objs.size + 1) = none := by
    cases z : hp'.get? (hp'.objs.size + 1) with
    | none => rfl
    | some o => exact absurd (Heap.lt_size z) (Nat.not_lt.mpr (Nat.le_succ _))
  have heK : X.K.lookup (hp'.objs.size + 1) = none := by
    cases z : X.K.lookup (hp'.objs.size + 1) with
    | none => rfl
    | some o =>
      have := I.kIn _ _ z
      rw [new] at this
      cases this
  have glob : hp'.Ns mainGlobals X.mg := I.mod.glob.keeps I.bk
  obtain ⟨mb, hmb, hbb⟩ := I.mod.blt
  have na : H (hp'.objs.size + 1) = none := I.hok.fresh (Nat.le_succ _)
  have fin : ∀ h' tk' dx t1, (∀ b o, b ≠ hp'.objs.size + 1 → ((hp'.push (PySem.W.kdv_tup [u])).push (PySem.HandSPX.excO (xA N X.K c) hp'.objs.size)).get? b = some o → h'.get? b = some o) → ((hp'.push (PySem.W.kdv_tup [u])).push (PySem.HandSPX.excO (xA N X.K c) hp'.objs.size)).objs.size ≤ dx → dx ≠ hp'.objs.size + 1 →
      h'.get? (hp'.objs.size + 1) = some { cls := .ref (xA N X.K c), dict := some dx, data := .fields #[.ref t1, .none, .none, .none, .bool false, .none] } → h'.Ns1 dx (fun y => if y = f then some u else none) → MkP X pins σ Q (.ref (hp'.objs.size + 1)) ⟨h', g, dr, tk', os⟩ := fun h' tk' dx t1 kx dn dne hx hn => by
    obtain ⟨G, g1', g2'⟩ := restrict h' fun b => decide (b ≠ hp'.objs.size + 1)
    have gk : ∀ b, b ≠ hp'.objs.size + 1 → G.get? b = h'.get? b := fun b hb => g1' b (decide_eq_true hb)
    have ge : G.get? (hp'.objs.size + 1) = none := g2' _ (by simp)
    have ks : ∀ b o, hp'.get? b = some o → G.get? b = some o := fun b o z => by
      have ne : b ≠ hp'.objs.size + 1 := fun y => by rw [y, new] at z; cases z
      rw [gk b ne]
      exact kx b o ne (kk b o z)
    have hdx : hp'.objs.size ≤ dx := Nat.le_trans (by rw [Heap.size_push, Heap.size_push]; omega) dn
    have hdn : H dx = none := I.hok.fresh hdx
    have nsG : G.Ns1 dx (fun y => if y = f then some u else none) := hn.at fun o z => by rw [gk dx dne]; exact z
    have J : Inv X pins σ (upd H dx (.xd [(f, y)])) ⟨G, g, dr, tk', os⟩ := I.laid (t' := tk') (a := dx) (o := .xd [(f, y)]) (h' := G) ks hdx ⟨_, nsG, relO_put (fs := []) ru fun g => True.intro⟩
    refine ⟨hp'.objs.size + 1, _, _, ⟨G, g, dr, tk', os⟩, upd H dx (.xd [(f, y)]), .ref (xA N X.K c), some dx, rfl, J, fun b o z => ?_, ge, hx, ⟨rfl, rfl⟩, rfl, rfl, ?_, rfl, I.bare, raises_own Z.T.exC Z.T.tyC, q dx [(f, y)] hdn fun k g z e1 e2 => ?_⟩
    · by_cases hb : b = hp'.objs.size + 1
      · rw [hb, ge] at z; cases z
      · rw [← gk b hb]; exact z
    · rw [upd_ne (Ne.symm dne)]; exact na
    · rw [hf] at e1
      cases k with
      | succ k => cases e1
      | zero =>
        cases e1
        cases e2
        simp
  have rm : (X.A.under (.builtin "type.__call__" ⟨.ref (xA N X.K c) :: [u], []⟩)).depth < recursionLimit := (hr.make (xA N X.K c) [u] []).depth
  obtain ⟨fI, i1, i2, run⟩ := pd_init_run (w := X.w) (A := X.A.under (.builtin "type.__call__" ⟨.ref (xA N X.K c) :: [u], []⟩)) (g := g) (d := dr) (t := tk) (os := os) (u := u) (e := hp'.objs.size + 1)
    (R := PySem.W.InitBack (hp'.objs.size + 1) (wants (MkP X pins σ Q) X.xe)) Z (I.kIn.keeps kk) (glob.keeps kk) ⟨mb, (hmb.keeps I.bk).keeps kk, hbb⟩ ((I.mod.nolimit.keeps I.bk).keeps kk) rm hget heK (fun h' tk' dx t1 kx dn dne hx hn => ⟨rfl, fin h' tk' dx t1 kx dn dne hx hn⟩)
  exact wpAny_call (PySem.HandSPX.call_own F.excBase_ValueError (fun Y => PySem.HandSPX.refsVE_contains Y bm hbm) (I.kIn _ _ lC) (PySem.W.looks_findIn I.kIn i1) (fun self => PySem.W.bind_fn I.kIn self i2) (by show 1 ≤ sizeLine; decide) run)
end
end PD
end

section
set_option Elab.async false
set_option linter.all false
set_option maxRecDepth 100000
/-! PD25: what the top has left, asked of the written part by one Boolean. -/
namespace PD
open PySem PySem.Spec PyProof.Rows L2
theorem find3_mem {α : Type} : ∀ {l : List (Nat × Nat × α)} {a b : Nat} {z : α}, find3 l a b = some z → (a, b, z) ∈ l
  | [], _, _, _, h => by cases h
  | (x, y, w) :: r, a, b, z, h => by
    unfold find3 at h
    split at h
    · rename_i q
      obtain ⟨rfl, rfl⟩ := q
      cases h
      exact List.mem_cons_self
    · exact List.mem_cons_of_mem _ (find3_mem h)
open He in
def conB (K : PySem.W.Frag) (C : Addr) (f : Str) (i : Int) : Bool := match PySem.W.findIn K (.ref C) f with
  | some (some (.int j t)) => decide (j = i) && (decide (PySem.W.specialIn K (.int j t) "__get__" = some none) && !PySem.W.copiedNames.contains f)
  | _ => false
theorem conB_ok {K : PySem.W.Frag} {C : Addr} {f : Str} {i : Int} (h : conB K C f i = true) : ∃ u, Con K C f (.int i) u := by
  unfold conB at h
  split at h
  · rename_i j t q
    obtain ⟨h1, h⟩ := and_t h
    obtain ⟨h2, h3⟩ := and_t h
    obtain rfl := of_decide_eq_true h1
    exact ⟨_, q, ⟨t, rfl⟩, of_decide_eq_true h2, by simpa using h3⟩
  · cases h
def iscB (K : PySem.W.Frag) (C : Addr) : Bool := decide (PySem.W.findIn K (.ref C) "__class__" = some (some (.builtin "object.__class__"))) && (decide (PySem.W.specialIn K (.builtin "object.__class__") "__get__" = some (some (.builtin "getset_descriptor.__get__"))) &&
  (decide (PySem.W.takesIn K (.builtin "object.__class__") = some true) && decide (PySem.W.mroIn K C (.type "object") = some true)))
theorem iscB_ok {K : PySem.W.Frag} {C : Addr} (h : iscB K C = true) : IsC K C := by
  obtain ⟨h1, h⟩ := and_t h
  obtain ⟨h2, h⟩ := and_t h
  obtain ⟨h3, h4⟩ := and_t h
  exact ⟨of_decide_eq_true h1, of_decide_eq_true h2, of_decide_eq_true h3, of_decide_eq_true h4⟩
def excB (K : PySem.W.Frag) (C : Addr) : Bool := xfB K C && iscB K C
theorem excB_ok {K : PySem.W.Frag} {C : Addr} (h : excB K C = true) : ExcC K C := by
  obtain ⟨h1, h2⟩ := and_t h
  have X := xfB_ok h1
  have I := iscB_ok h2
  exact ⟨X.ga, X.gg, X.exC, X.hdC, I.ha, I.hn, I.ht, I.hm⟩
def factsB (N : Info) (T : Tabs) (init : Nat → Nat) (K : PySem.W.Frag) : Bool :=
  (N.mfns.all fun q => He.eqO (PySem.W.nsIn K mainGlobals q.1) (some (some (.builtin (mfnId q.2))))) &&
  ((N.gints.all fun q => (He.Fa.int q.1 q.2).ok K) && ((N.frees.all fun x => (He.Fa.free x).ok K) &&
  (((List.range N.nc).all fun c => (He.Fa.glo (N.cn c)).ok K && ((He.Fa.cls (N.cn c)).ok K && ((He.Fa.mkr (N.cn c)).ok K && (decide ((N.lay c).Nodup) && (decide (fA N K (init c) = He.ma K (cA N K c) "__init__") && iscB K (cA N K c)))))) &&
  ((T.fld.all fun q => decide ((N.lay q.1)[q.2.2]? = some (N.fnm q.2.1)) && (He.Fa.noat (N.cn q.1) (N.fnm q.2.1)).ok K) &&
  ((T.con.all fun q => conB K (cA N K q.1) (N.fnm q.2.1) q.2.2 && decide (N.fnm q.2.1 ∉ N.lay q.1)) &&
  ((T.meth.all fun q => (He.Fa.meth (N.cn q.1) (N.mname q.2.1)).ok K && (decide (fA N K q.2.2 = He.ma K (cA N K q.1) (N.mname q.2.1)) && (decide (N.mname q.2.1 ∉ N.lay q.1) && (decide (q.2.2 < N.nf) && (!N.ini q.2.2 && (!N.nwm q.2.1 || N.nw q.2.2)))))) &&
  (((List.range N.nf).all fun f => match (N.fat f).2 with
    | none => (He.Fa.glo (N.fat f).1).ok K && PySem.W.keepIn K (.ref (fA N K f))
    | some _ => true) &&
  ((T.isi.all fun q => decide (PySem.W.kitOne K (tyVal N K q.1) (tyVal N K q.2.1) = some q.2.2) && decide (q.1 < 6 ∨ 10 ≤ q.1)) &&
  ((T.exm.all fun q => decide (PySem.W.kitOne K (.ref (xA N K q.1)) (xVal N K q.2.1) = some q.2.2) && (decide (PySem.W.exmOne K (.ref (xA N K q.1)) (xVal N K q.2.1) = some q.2.2) && (excB K (xA N K q.1) && (decide (q.2.1 = 0) || (He.Fa.glo (N.xn q.2.1)).ok K)))) &&
  ((T.xfld.all fun q => decide ((N.xf q.1)[q.2.2]? = some (N.fnm q.2.1)) && (xfB K (xA N K q.1) && decide (PySem.W.findIn K (.ref (xA N K q.1)) (N.fnm q.2.1) = some none))) &&
  ((N.caught.all fun c => (He.Fa.glo (N.xn c)).ok K) &&
  (N.raised.all fun c => decide (T.stat.xlen c = (N.xf c).length) && ((He.Fa.glo (N.xn c)).ok K && PySem.W.keepIn K (.ref (xA N K c)))))))))))))))
theorem factsB_ok {P : Prog} {N : Info} {T : Tabs} {K : PySem.W.Frag} {h : Heap} {mg : Str → Option Value} (hst : P.st = T.stat) (X : K.In h) (G : h.Ns mainGlobals mg) (c : factsB N T P.init K = true) : Facts P N K mg := by
  unfold factsB at c
  obtain ⟨c0, c⟩ := and_t c
  obtain ⟨c1, c⟩ := and_t c
  obtain ⟨c2, c⟩ := and_t c
  obtain ⟨c3, c⟩ := and_t c
  obtain ⟨c4, c⟩ := and_t c
  obtain ⟨c5, c⟩ := and_t c
  obtain ⟨c6, c⟩ := and_t c
  obtain ⟨c7, c⟩ := and_t c
  obtain ⟨c8, c⟩ := and_t c
  obtain ⟨c9, c⟩ := and_t c
  obtain ⟨c10, c⟩ := and_t c
  obtain ⟨c11, c12⟩ := and_t c
  have cl : ∀ i, i < N.nc → (He.Fa.glo (N.cn i)).ok K = true ∧ (He.Fa.cls (N.cn i)).ok K = true ∧ (He.Fa.mkr (N.cn i)).ok K = true ∧ (N.lay i).Nodup ∧ fA N K (P.init i) = He.ma K (cA N K i) "__init__" ∧ iscB K (cA N K i) = true := fun i hi => by
    have q := List.all_eq_true.mp c3 i (List.mem_range.mpr hi)
    obtain ⟨q1, q⟩ := and_t q
    obtain ⟨q2, q⟩ := and_t q
    obtain ⟨q3, q⟩ := and_t q
    obtain ⟨q4, q⟩ := and_t q
    obtain ⟨q5, q6⟩ := and_t q
    exact ⟨q1, q2, q3, of_decide_eq_true q4, of_decide_eq_true q5, q6⟩
  refine {
    gint := fun q hq => He.int_ok X G (List.all_eq_true.mp c1 q hq)
    free := fun x hx => He.free_ok X G (List.all_eq_true.mp c2 x hx)
    cls := fun i hi => He.cls_ok (cl i hi).2.1
    clg := fun i hi => He.glo_ok X G (cl i hi).1
    fld := fun a m k q => ?_
    lnd := fun i hi => (cl i hi).2.2.2.1
    con := fun a m i q => ?_
    meth := fun a m g q => ?_
    glf := fun f hf hn => ?_
    isi := fun k t b q => ?_
    isc := fun i hi => iscB_ok (cl i hi).2.2.2.2.2
    exm := fun a t b q => ?_
    xfld := fun a k j q => ?_
    xct := fun i hi => He.glo_ok X G (List.all_eq_true.mp c11 i hi)
    mfn := fun q hq => PySem.W.mg_of X G (He.eqO_ok (List.all_eq_true.mp c0 q hq))
    xlen := fun i hi => ?_
    xcl := fun i hi => ?_
    mke := fun i hi => ?_ }
  · rw [hst] at q
    obtain ⟨r1, r2⟩ := and_t (List.all_eq_true.mp c4 _ (find3_mem q))
    exact ⟨of_decide_eq_true r1, He.noat_ok r2⟩
  · rw [hst] at q
    obtain ⟨r1, r2⟩ := and_t (List.all_eq_true.mp c5 _ (find3_mem q))
    exact ⟨conB_ok r1, of_decide_eq_true r2⟩
  · rw [hst] at q
    obtain ⟨r1, r⟩ := and_t (List.all_eq_true.mp c6 _ (find3_mem q))
    obtain ⟨r2, r⟩ := and_t r
    obtain ⟨r3, r⟩ := and_t r
    obtain ⟨r4, r⟩ := and_t r
    obtain ⟨r5, r6⟩ := and_t r
    have e : fA N K g = He.ma K (cA N K a) (N.mname m) := of_decide_eq_true r2
    refine ⟨?_, of_decide_eq_true r3, of_decide_eq_true r4, by simpa using r5, fun z => by rw [show N.nwm m = true from z] at r6; simpa using r6⟩
    show Meth K (cA N K a) (N.mname m) (fA N K g)
    rw [e]
    exact He.meth_ok r1
  · have q := List.all_eq_true.mp c7 f (List.mem_range.mpr hf)
    rw [hn] at q
    obtain ⟨r1, r2⟩ := and_t q
    refine ⟨?_, r2⟩
    have e : fA N K f = He.ga K (N.fat f).1 := by
      show He.fAd K (N.fat f) = _
      unfold He.fAd
      rw [hn]
    rw [e]
    exact He.glo_ok X G r1
  · rw [hst] at q
    obtain ⟨r1, r2⟩ := and_t (List.all_eq_true.mp c8 _ (find3_mem q))
    exact ⟨of_decide_eq_true r1, of_decide_eq_true r2⟩
  · rw [hst] at q
    obtain ⟨r1, r⟩ := and_t (List.all_eq_true.mp c9 _ (find3_mem q))
    obtain ⟨r2, r⟩ := and_t r
    obtain ⟨r3, r4⟩ := and_t r
    refine ⟨of_decide_eq_true r1, of_decide_eq_true r2, excB_ok r3, fun ht => ?_⟩
    rcases (Bool.or_eq_true _ _).mp r4 with z | z
    · exact absurd (of_decide_eq_true z) ht
    · exact He.glo_ok X G z
  · rw [hst] at q
    obtain ⟨r1, r⟩ := and_t (List.all_eq_true.mp c10 _ (find3_mem q))
    obtain ⟨r2, r3⟩ := and_t r
    exact ⟨of_decide_eq_true r1, xfB_ok r2, of_decide_eq_true r3⟩
  · obtain ⟨r1, r⟩ := and_t (List.all_eq_true.mp c12 i hi)
    rw [hst]
    exact of_decide_eq_true r1
  · obtain ⟨r1, r⟩ := and_t (List.all_eq_true.mp c12 i hi)
    obtain ⟨r2, r3⟩ := and_t r
    exact ⟨He.glo_ok X G r2, r3⟩
  · have q := cl i hi
    have e : fA N K (P.init i) = He.ma K (cA N K i) "__init__" := q.2.2.2.2.1
    rw [e]
    exact He.mkr_ok q.2.2.1
end PD
end

section
set_option Elab.async false
set_option linter.all false
set_option maxRecDepth 100000
/-! PD26: what the top has left of an exception's class, asked by one Boolean. -/
namespace PD
open PySem PySem.Spec PyProof.Rows L2
theorem bind2 {fd : FuncData} {a b : Arg} {kd : List (Option Expr)} {ds : List Expr} (hp : fd.params = ⟨[], [a, b], none, [], kd, none, ds⟩) (hd : fd.defaults = .none) (ne : a.arg ≠ b.arg) (u v : Value) : bindArgs fd ⟨[u, v], []⟩ = pure [(a.arg, u), (b.arg, v)] := by
  unfold bindArgs
  have hs : seqItems? (.none : Value) = pure none := rfl
  simp [hp, hd, hs, List.lookup_cons, beq_false_of_ne (Ne.symm ne)]
def oexB (K : PySem.W.Frag) (C : Addr) : Bool := (match K.lookup C with
  | some ⟨.type t, _, .cls c, sl⟩ => decide (t = "type") && ((match c.mro with
    | .ref C' :: bm => decide (C' = C) && PySem.HandSPX.refsVE bm
    | _ => false) && (c.hasDict && (!c.hasDel && (match sl.toList with
    | [_, _, _, _, some (.builtin n), _] => decide (n = "ValueError.__new__")
    | _ => false))))
  | _ => false) && (decide (PySem.W.findIn K (.ref C) "__setattr__" = some (some (.builtin "object.__setattr__"))) && (decide (PySem.W.subIn K (.ref C) (.type "BaseException") = some true) && (decide (PySem.W.typeIn K (.ref C) = some (.type "type")) && PySem.W.keepIn K (.ref C))))
theorem oexB_ok {K : PySem.W.Frag} {C : Addr} (h : oexB K C = true) : OexC K C := by
  unfold oexB at h
  obtain ⟨h1, h⟩ := and_t h
  obtain ⟨h2, h⟩ := and_t h
  obtain ⟨h3, h⟩ := and_t h
  obtain ⟨h4, h5⟩ := and_t h
  refine ⟨?_, of_decide_eq_true h2, of_decide_eq_true h3, of_decide_eq_true h4, h5⟩
  split at h1
  · rename_i t dd c sl q
    obtain ⟨a1, h1⟩ := and_t h1
    obtain ⟨a2, h1⟩ := and_t h1
    obtain ⟨a3, h1⟩ := and_t h1
    obtain ⟨a4, a5⟩ := and_t h1
    obtain rfl := of_decide_eq_true a1
    obtain ⟨nm, bs, mro, ns, qn, hdct, sn, sub, ab, col, hdel⟩ := c
    dsimp only at a2 a3 a4
    split at a2
    · rename_i C' bm
      obtain ⟨b1, b2⟩ := and_t a2
      obtain rfl := of_decide_eq_true b1
      split at a5
      · rename_i k0 k1 k2 k3 n k5 e
        obtain rfl := of_decide_eq_true a5
        have es : sl = #[k0, k1, k2, k3, some (.builtin "ValueError.__new__"), k5] := by rw [← Array.toArray_toList (xs := sl), e]
        have : hdel = false := by simpa using a4
        subst this a3 es
        exact ⟨_, _, _, _, _, _, _, _, _, _, _, _, _, _, _, q, b2⟩
      · cases a5
    · cases a2
  · cases h1
def xfdB (prog : Program) (K : PySem.W.Frag) (C : Addr) (f : Str) (fd : FuncData) : Bool := (match fd.params with
  | ⟨[], [a, b], none, [], _, none, _⟩ => decide (a.arg ≠ b.arg) && ((match fd.body with
    | .stmts body => xBody a.arg b.arg f body
    | _ => false) && (decide (fd.scope.names.lookup a.arg = some .local) && (decide (fd.scope.names.lookup b.arg = some .local) && (!(a.arg == ("__debug__" : Str)) && !(b.arg == ("__debug__" : Str))))))
  | _ => false) && ((match fd.defaults with
  | .none => true
  | _ => false) && ((match fd.closure with
  | [(n, cc)] => decide (n = "__class__") && (match K.lookup cc with
    | some ⟨_, _, .cell (some (.ref C')), _⟩ => decide (C' = C)
    | _ => false)
  | _ => false) && (decide (fd.globals = mainGlobals) && (decide (fd.builtins = builtinsNs) && ((match fd.code with
  | .ref cda => (match K.lookup cda with
    | some ⟨_, _, .fields vs, _⟩ => (match (vs[2]? : Option Value) with
      | some (.str file _) => (prog.main.file : Str) == file
      | _ => false)
    | _ => false)
  | _ => false) && (PySem.W.codeIn K fd.code fd.qualname && (decide (fd.scope.names.lookup ("super" : Str) = some .globalImplicit) && (decide (fd.scope.names.lookup ("__class__" : Str) = some .free) && (fd.scope.names.all (fun x => decide (x.2 ≠ .cell)) &&
  (!fd.scope.isCoroutine && (!fd.scope.isGenerator && decide (fd.scope.kind = .function))))))))))))
def xclsB (prog : Program) (K : PySem.W.Frag) (C : Addr) (f : Str) : Bool := oexB K C && (decide (PySem.W.subIn K (.ref C) (.type "ValueError") = some true) && (decide (PySem.W.findIn K (.ref C) f = some none) && (decide (PySem.W.nsIn K cStatics "thirdparty.any" = some none) &&
  ((He.Fa.free "super").ok K && (!(prog.main.scope.names.lookup ("super" : Str)).isSome && (decide (PySem.W.ks_superIn K C C "__init__" = some (some (.builtin "ValueError.__init__"))) && (decide (PySem.W.mroIn K C (.ref C) = some true) &&
  (match PySem.W.findIn K (.ref C) "__init__" with
  | some (some (.ref fI)) => decide (PySem.W.typeIn K (.ref fI) = some (.type "function")) && (match K.lookup fI with
    | some ⟨_, _, .func fd, _⟩ => xfdB prog K C f fd
    | _ => false)
  | _ => false))))))))
theorem xclsB_ok {prog : Program} {K : PySem.W.Frag} {h : Heap} {mg : Str → Option Value} {C : Addr} {f : Str} (X : K.In h) (G : h.Ns mainGlobals mg) (c : xclsB prog K C f = true) : XCls prog K mg C f := by
  unfold xclsB at c
  obtain ⟨c1, c⟩ := and_t c
  obtain ⟨c2, c⟩ := and_t c
  obtain ⟨c3, c⟩ := and_t c
  obtain ⟨c4, c⟩ := and_t c
  obtain ⟨c5, c⟩ := and_t c
  obtain ⟨c6, c⟩ := and_t c
  obtain ⟨c7, c⟩ := and_t c
  obtain ⟨c8, c9⟩ := and_t c
  refine ⟨oexB_ok c1, of_decide_eq_true c2, of_decide_eq_true c3, of_decide_eq_true c4, (He.free_ok X G c5), by simpa using c6, of_decide_eq_true c7, of_decide_eq_true c8, ?_⟩
  split at c9
  · rename_i fI q
    obtain ⟨d1, d2⟩ := and_t c9
    split at d2
    · rename_i oc od fd osl q2
      unfold xfdB at d2
      obtain ⟨e1, d⟩ := and_t d2
      obtain ⟨e2, d⟩ := and_t d
      obtain ⟨e3, d⟩ := and_t d
      obtain ⟨e4, d⟩ := and_t d
      obtain ⟨e5, d⟩ := and_t d
      obtain ⟨e6, d⟩ := and_t d
      obtain ⟨e7, d⟩ := and_t d
      obtain ⟨e8, d⟩ := and_t d
      obtain ⟨e9, d⟩ := and_t d
      obtain ⟨e10, d⟩ := and_t d
      obtain ⟨e11, d⟩ := and_t d
      obtain ⟨e12, e13⟩ := and_t d
      split at e1
      · rename_i a b kd ds hp
        obtain ⟨f1, e1⟩ := and_t e1
        obtain ⟨f2, e1⟩ := and_t e1
        obtain ⟨f3, e1⟩ := and_t e1
        obtain ⟨f4, e1⟩ := and_t e1
        obtain ⟨f5, f6⟩ := and_t e1
        split at f2
        · rename_i body hb
          split at e2
          · rename_i hd
            split at e3
            · rename_i n cc hc
              obtain ⟨g1, g2⟩ := and_t e3
              obtain rfl := of_decide_eq_true g1
              split at g2
              · rename_i cl cld C' csl hcc
                obtain rfl := of_decide_eq_true g2
                split at e6
                · rename_i cda hcd
                  split at e6
                  · rename_i ccl cdd vs ccs hl
                    split at e6
                    · rename_i file tf hv
                      have ne : a.arg ≠ b.arg := of_decide_eq_true f1
                      exact ⟨fI, cc, cda, fd, oc, ccl, cl, od, cdd, cld, osl, ccs, csl, vs, file, tf, a.arg, b.arg, a, body, q, of_decide_eq_true d1, q2, hb, f2, hc, of_decide_eq_true e4, of_decide_eq_true e5, hcd, e7, hl, hv, e6, hcc, by rw [hp]; rfl, rfl, ne, bind2 hp hd ne,
                        of_decide_eq_true e8, of_decide_eq_true e9, of_decide_eq_true f3, of_decide_eq_true f4, by simpa using f5, by simpa using f6, fun x hx => of_decide_eq_true (List.all_eq_true.mp e10 x hx), by simpa using e11, by simpa using e12, of_decide_eq_true e13⟩
                    · cases e6
                  · cases e6
                · cases e6
              · cases g2
            · cases e3
          · cases e2
        · cases f2
      · cases e1
    · cases d2
  · cases c9
end PD
end

section
set_option Elab.async false
set_option linter.all false
set_option maxRecDepth 100000
/-! PD27: a def's check by one Boolean; the law's end. -/
namespace PD
open PySem PySem.Spec PyProof.Rows L2
theorem zip_look {ps : List Str} {us : List Value} (hl : us.length = ps.length) : ∀ x ∈ ps, ∃ u, (ps.zip us).lookup x = some u := by
  induction ps generalizing us with
  | nil => intro x hx; cases hx
  | cons p r ih => cases us with
    | nil => cases hl
    | cons u us =>
      intro x hx
      rw [List.zip_cons_cons, List.lookup_cons]
      cases e : x == p with
      | true => exact ⟨u, rfl⟩
      | false =>
        rcases List.mem_cons.mp hx with rfl | hx
        · simp at e
        · exact ih (by simpa using hl) x hx
theorem fm_congr {α β : Type} {f g : α → Option β} : ∀ {l : List α}, (∀ x ∈ l, f x = g x) → l.filterMap f = l.filterMap g
  | [], _ => rfl
  | a :: r, h => by
    rw [List.filterMap_cons, List.filterMap_cons, h a List.mem_cons_self, fm_congr fun x hx => h x (List.mem_cons_of_mem _ hx)]
theorem zip_filter {ps : List Str} {us : List Value} (hl : us.length = ps.length) (nd : ps.Nodup) : (ps.filterMap fun n => ((ps.zip us).lookup n).map (n, ·)) = ps.zip us := by
  induction ps generalizing us with
  | nil => rfl
  | cons p r ih => cases us with
    | nil => cases hl
    | cons u us =>
      have hn := List.nodup_cons.mp nd
      rw [List.filterMap_cons, List.zip_cons_cons, List.lookup_cons]
      simp only [BEq.rfl, Option.map_some]
      congr 1
      refine Eq.trans (fm_congr fun x hx => ?_) (ih (us := us) (by simpa using hl) hn.2)
      have : (x == p) = false := beq_false_of_ne fun e => hn.1 (e ▸ hx)
      rw [List.lookup_cons, this]
theorem bindN {fd : FuncData} {as : List Arg} {kd : List (Option Expr)} {ds : List Expr} (hp : fd.params = ⟨[], as, none, [], kd, none, ds⟩) (hd : fd.defaults = .none) (nd : (as.map (·.arg)).Nodup) {us : List Value} (hl : us.length = (as.map (·.arg)).length) : bindArgs fd ⟨us, []⟩ = pure ((as.map (·.arg)).zip us) := by
  unfold bindArgs
  have hs : seqItems? (.none : Value) = pure none := rfl
  have hm : (((as.map (·.arg))).filter fun n => (((as.map (·.arg)).zip us).lookup n).isNone) = [] := List.filter_eq_nil_iff.mpr fun x hx => by
    obtain ⟨u, e⟩ := zip_look hl x hx
    rw [e]
    simp
  have hf := zip_filter hl nd
  have ht : (as.map (·.arg)).take as.length = as.map (·.arg) := List.take_of_length_le (by simp)
  have hl' : us.length = as.length := by simpa using hl
  simp only [hp, hd, hs, List.map_nil, List.nil_append, List.append_nil, List.length_map, hl']
  rw [List.filterMap_map] at hf
  simp [hm, hf, ht]
def scB (NN ps : List Str) (sc : Scope) : Bool := decide (sc.kind = .function) && (decide (sc.isCoroutine = false) && (decide (sc.isGenerator = false) && (decide NN.Nodup && (decide (NN.take ps.length = ps) && (ps.all (fun x => decide (sc.names.lookup x = some .local ∨ sc.names.lookup x = some .cell)) && sc.names.all (fun y => decide (y.2 ≠ .free)))))))
theorem scB_ok {NN ps : List Str} {sc : Scope} (h : scB NN ps sc = true) : FnScope NN ps sc := by
  unfold scB at h
  obtain ⟨h1, h⟩ := and_t h
  obtain ⟨h2, h⟩ := and_t h
  obtain ⟨h3, h⟩ := and_t h
  obtain ⟨h4, h⟩ := and_t h
  obtain ⟨h5, h⟩ := and_t h
  obtain ⟨h6, h7⟩ := and_t h
  exact ⟨of_decide_eq_true h1, of_decide_eq_true h2, of_decide_eq_true h3, of_decide_eq_true h4, of_decide_eq_true h5, fun x hx => of_decide_eq_true (List.all_eq_true.mp h6 x hx), fun x hx => of_decide_eq_true (List.all_eq_true.mp h7 x hx)⟩
def parB (ps : List Str) : Arguments → Bool
  | ⟨[], as, none, [], _, none, _⟩ => decide (as.map (·.arg) = ps)
  | _ => false
theorem parB_ok {ps : List Str} {a : Arguments} (h : parB ps a = true) : ∃ as kd ds, a = ⟨[], as, none, [], kd, none, ds⟩ ∧ as.map (·.arg) = ps := by
  unfold parB at h
  split at h
  · exact ⟨_, _, _, rfl, of_decide_eq_true h⟩
  · cases h
/-- one def's text, asked by one Boolean -/
def defB (P : Prog) (N : Info) (f : Nat) (NN : List Str) (d : He.DefD) : Bool := decide (d.at_ = N.fat f) && (d.dfl.isEmpty && (d.kwd.isEmpty && (parB (N.pars f) d.params && (scB NN (N.pars f) d.scope && (decide ((N.pars f).Nodup) && (decide ((P.fn f).ps = (N.pars f).length) && (decide ((P.fn f).n = NN.length) &&
  chkS N NN (P.fn f).body ⟨true, 0, none, none, N.ini f, N.nw f⟩ (if N.ini f then [0] else []) (endO (P.fn f).body (if N.ini f then [0] else [])) d.scope d.body)))))))
theorem defB_ok {P : Prog} {N : Info} {K : PySem.W.Frag} {f : Nat} {NN : List Str} {d : He.DefD} (h : defB P N f NN d = true) (F : ∃ fd, FunD K d.name d.qual d.params d.body d.scope (d.dvs K) (d.kws K) (He.fAd K d.at_) fd) : DefOk P N K f := by
  unfold defB at h
  obtain ⟨h1, h⟩ := and_t h
  obtain ⟨h2, h⟩ := and_t h
  obtain ⟨h3, h⟩ := and_t h
  obtain ⟨h4, h⟩ := and_t h
  obtain ⟨h5, h⟩ := and_t h
  obtain ⟨h6, h⟩ := and_t h
  obtain ⟨h7, h⟩ := and_t h
  obtain ⟨h8, h9⟩ := and_t h
  obtain ⟨fd, F⟩ := F
  obtain ⟨at_, name, qual, params, body, scope, dfl, kwd⟩ := d
  obtain rfl := List.isEmpty_iff.mp h2
  obtain rfl := List.isEmpty_iff.mp h3
  obtain ⟨as, kd, ds, rfl, hp⟩ := parB_ok h4
  have e : at_ = N.fat f := of_decide_eq_true h1
  subst e
  have F' : FunD K name qual ⟨[], as, none, [], kd, none, ds⟩ body scope [] [] (fA N K f) fd := F
  refine ⟨name, qual, _, body, scope, NN, fd, F', F'.bindsN fun kV doc pm an cdv ct us hl => ?_, scB_ok h5, of_decide_eq_true h7, of_decide_eq_true h8, h9⟩
  have nd : (N.pars f).Nodup := of_decide_eq_true h6
  rw [← hp] at hl nd ⊢
  exact bindN rfl rfl nd hl
theorem defB_at {P : Prog} {N : Info} {f : Nat} {NN : List Str} {d : He.DefD} (h : defB P N f NN d = true) : d.at_ = N.fat f := by
  unfold defB at h
  exact of_decide_eq_true (and_t h).1
theorem defB_binds {P : Prog} {N : Info} {K : PySem.W.Frag} {f : Nat} {fd : FuncData} {NN : List Str} {d : He.DefD} (h : defB P N f NN d = true) (F : FunD K d.name d.qual d.params d.body d.scope (d.dvs K) (d.kws K) (He.fAd K d.at_) fd) (s : Shared) (us : List Value) (hl : us.length = (N.pars f).length) : BindsTo s fd ⟨us, []⟩ ((N.pars f).zip us) := by
  unfold defB at h
  obtain ⟨h1, h⟩ := and_t h
  obtain ⟨h2, h⟩ := and_t h
  obtain ⟨h3, h⟩ := and_t h
  obtain ⟨h4, h⟩ := and_t h
  obtain ⟨h5, h⟩ := and_t h
  obtain ⟨h6, h⟩ := and_t h
  obtain ⟨at_, name, qual, params, body, scope, dfl, kwd⟩ := d
  obtain rfl := List.isEmpty_iff.mp h2
  obtain rfl := List.isEmpty_iff.mp h3
  obtain ⟨as, kd, ds, rfl, hp⟩ := parB_ok h4
  have F' : FunD K name qual ⟨[], as, none, [], kd, none, ds⟩ body scope [] [] (He.fAd K at_) fd := F
  refine F'.bindsA (fun kV doc pm an cdv ct us hl => ?_) s us hl
  have nd : (N.pars f).Nodup := of_decide_eq_true h6
  rw [← hp] at hl nd ⊢
  exact bindN rfl rfl nd hl
theorem rps_ints {N : Info} {K : PySem.W.Frag} {H : Hp} : ∀ ns : List Int, Rps N K H (ns.map V.int) (ns.map D.int)
  | [] => .nil
  | i :: r => .cons (.int i) (rps_ints r)
/-- the raised exceptions -/
def xsB (N : Info) (prog : Program) (K : PySem.W.Frag) : Bool := N.raised.all fun c => match N.xf c with
  | [f] => xclsB prog K (xA N K c) f
  | _ => false
/-- THE END: every def keeps its promise, the law too -/
theorem law_end {P : Prog} {N : Info} {T : Tabs} {fa : List He.Fa} {fn : List He.DefD} {nn : Nat → List Str} {prog : Program} {w : World} {K : PySem.W.Frag} {h base : Heap} {mg : Str → Option Value} {f n : Nat} {x : Str} {fL : Addr}
    (hst : P.st = T.stat) (X : K.In h) (G : h.Ns mainGlobals mg) (c : He.SaysD fa fn K) (hl : fn.length = N.nf) (hd : ∀ i (hi : i < fn.length), defB P N i (nn i) fn[i] = true) (hi : ∀ c, c < N.nc → P.init c < N.nf ∧ N.ini (P.init c) = true) (ex : (factsB N T P.init K && xsB N prog K) = true)
    (hf : f < N.nf) (hni : N.ini f = false) (hat : (N.fat f).2 = none) (hps : N.pars f = [x]) (hmg : mg (N.fat f).1 = some (.ref fL)) :
    ∃ fd : FuncData, (∀ (s : Shared) (v : Value), BindsTo s fd ⟨[v], []⟩ [(x, v)]) ∧ ∀ base : Heap, K.In base → base.Ns mainGlobals mg → FnOk prog w K mg base (L2.CX prog w) (2 * (n + 1) + 3) fL fd [x] (spF N K (N.nw f) ((P.ctx (n + 1)).call f)) := by
  obtain ⟨e1, e2⟩ := and_t ex
  have FS : Facts P N K mg := factsB_ok hst X G e1
  have DO : ∀ i, i < N.nf → DefOk P N K i := fun i hi => by
    have hi' : i < fn.length := by rw [hl]; exact hi
    exact defB_ok (hd i hi') (c.defs (List.getElem_mem hi'))
  have FX : ∀ base, FnsX N prog w K mg base := fun base => ⟨fun c hc => by
    have q := List.all_eq_true.mp e2 c hc
    split at q
    · rename_i g e
      exact xmk_of e (xclsB_ok X G q)
    · cases q⟩
  have eL : fL = fA N K f := by
    obtain ⟨g, _⟩ := FS.glf f hf hat
    rw [hmg] at g
    cases g
    rfl
  subst eL
  have hf' : f < fn.length := by rw [hl]; exact hf
  obtain ⟨fd, F⟩ := c.defs (List.getElem_mem hf')
  have hb := defB_binds (hd f hf') F
  refine ⟨fd, fun s v => by
    have q := hb s [v] (by rw [hps]; rfl)
    rw [hps] at q
    exact q, fun base KB GB => ?_⟩
  obtain ⟨fd', F', _, oc, od, osl, lk⟩ := def_fn FS (fns_all FS (FX base) DO hi n) (FX base) hni (DO f hf)
  obtain ⟨oc2, od2, _, _, _, _, _, _, _, osl2, _, lk2, _⟩ := F.ex
  have at2 : (fn[f]'hf').at_ = N.fat f := defB_at (hd f hf')
  rw [at2] at lk2
  have e3 : some (⟨oc, od, .func fd', osl⟩ : Obj) = some ⟨oc2, od2, .func fd, osl2⟩ := lk.symm.trans lk2
  cases e3
  rw [hps] at F'
  have en : 2 * (n + 1) + 3 = 2 * n + 4 + 1 := by omega
  rw [en]
  exact F'
end PD
end

section
set_option Elab.async false
set_option linter.all false
set_option maxRecDepth 100000
/-! PD28: the Hook: the written part with the statics; the defs, one Boolean. -/
namespace PD
open PySem PySem.Spec PyProof.Rows L2
abbrev AlP : Type := He.AlD × Bool
def asP (g : Addr → Option Obj) (n : Nat) : List Addr := cStatics :: He.asD g n
def obsP (n : Nat) (fa : List He.Fa) (fn : List He.DefD) (ex : PySem.W.Frag → Bool) (g : Addr → Option Obj) : AlP := (He.obsD fa fn (He.frG g (asP g n)), ex (He.frG g (asP g n)))
def valP (fn : List He.DefD) : AlP := (He.valD fn, true)
def hookP (n : Nat) (fa : List He.Fa) (fn : List He.DefD) (ex : PySem.W.Frag → Bool) : PySem.W.Hook where
  α := AlP
  obs := fun s => obsP n fa fn ex s.heap.get?
  val := fun _ => valP fn
  says := fun _ h => ∃ K : PySem.W.Frag, K.In h ∧ He.SaysD fa fn K ∧ ex K = true
  of := fun _ _ e => ⟨_, He.frG_in, congrArg (fun z : AlP => z.1) e, congrArg (fun z : AlP => z.2) e⟩
  keeps := fun _ _ _ ⟨K, hK, c⟩ k => ⟨K, PySem.W.Frag.In.keeps hK k, c⟩
theorem obsP_eq {n : Nat} {fa : List He.Fa} {fn : List He.DefD} {ex : PySem.W.Frag → Bool} {g : Addr → Option Obj} {s : Shared} (h : ∀ a, g a = s.heap.get? a) : obsP n fa fn ex g = (hookP n fa fn ex).obs s := by
  have e : g = s.heap.get? := funext h
  rw [e] <;> rfl
theorem walk_ofP {l : PySem.W.OpenLaw} {n k : Nat} {q : Program} {loose : List Str} {XP : (Str → Option Value) → Heap → Prop} {YP : World → Heap → Prop} {d : DefRec} {CX : World → CXT} {x : Str}
    (hn : l.most = some n) (hn2 : n ≤ sizeLine) (hdf : d.params.defaults = []) (hr : Room k callerA)
    (F : ∀ (w : World) (mg : Str → Option Value) (fa : Addr) (h : Heap), YP w h → h.Ns mainGlobals mg → mg d.name = some (.ref fa) →
      ∃ (K : PySem.W.Frag) (fd : FuncData) (sp : Sp), K.In h ∧ (∀ (s : Shared) (u : Value), BindsTo s fd ⟨[u], []⟩ [(x, u)]) ∧
        (∀ (H : Hp) (a : Addr) (ns : List Int), ns.length ≤ n → Only H → SqL K H a (ns.map V.int) → sp [.ref a] H (fun v _ => v = .bl true) fun _ _ _ => False) ∧
        ∀ base : Heap, K.In base → base.Ns mainGlobals mg → FnOk l.prog w K mg base (CX w) k fa fd [x] sp)
    (hCX : ∀ (w : World) (H : Hp) (s : Shared) (e : Value) (s' : Shared), CX w [] H s (fun _ _ _ => False) e s' → False) :
    PySem.W.WalkO q loose XP YP l.row.toRowW d [] (fun f vs => PySem.call f vs) := by
  refine Att.attach_call hn hdf fun w s₀ s₁ mg mb fa o pm cd doc a vs ns G Y ho hd hcd hmg hobj hints hlen hg => ?_
  obtain ⟨K, fd, sp, KX, hb, hsp, hF⟩ := F w mg fa _ Y G.T.g hmg
  exact law_call KX G.T.g G.T.b G.T.builtins G.T.nolimit hg hobj hints (Nat.le_trans hlen hn2) hr hF hb (fun H hO hS => hsp H a ns hlen hO hS) fun H e s' => hCX w H s₁ e s'
end PD
end

section
set_option Elab.async false
set_option linter.all false
set_option maxRecDepth 100000
/-! PV1: the evaluator for simp: named combinators, lazy congruence, loops by invariants. -/
namespace PD
open PySem L2
noncomputable section
/-- a type that bears f: simp then leaves f as it is -/
abbrev Dp {γ : Type} (f : γ) (α : Type) : Type := α
def R.bq {α β : Type} (r : R α) (f : α → R β) : Dp f (R β) := r.bd f
def Out.oq (r : R D) (env : Env) (f : D → Out) : Dp f (Dp env Out) := Out.of r env f
def R.bdB {α : Type} (r : R D) (f : Bool → R α) : Dp f (R α) := r.bd fun x => match x with
  | .bl t => f t
  | _ => .no
def R.bdI {α : Type} (r : R D) (f : Int → R α) : Dp f (R α) := r.bd fun x => match x with
  | .int t => f t
  | _ => .no
def R.bdT {α : Type} (r : R D) (f : List D → R α) : Dp f (R α) := r.bd fun x => match x with
  | .tup t => f t
  | _ => .no
def Out.sq (o : Out) (f : Env → Out) : Dp f Out := match o with
  | .nx e => f e
  | o => o
def Out.ofB (r : R Bool) (f : Bool → Out) : Dp f Out := match r with
  | .ok t => f t
  | _ => .no
def Out.ofT (r : R D) (env : Env) (f : Bool → Out) : Dp f (Dp env Out) := Out.of r env fun d => Out.ofB (truth d) f
def Out.hd (o : Out) (f : Exn → Env → Out) : Dp f Out := match o with
  | .ex x e => f x e
  | o => o
def rd (d : D) : R D := match d with
  | .un => .no
  | d => .ok d
def rdE (o : Option D) : R D := match o with
  | some d => rd d
  | none => .no
def rdO : Option D → R D
  | some d => .ok d
  | none => .no
def rng1D (n : Int) : R D := if small62 n then .ok (.lst (rangeD 0 n.toNat)) else .no
def rngD : D → D → R D
  | .int i, .int j => if small62 i && small62 j then .ok (.lst (rangeD i (j - i).toNat)) else .no
  | _, _ => .no
def rngT : D → D → R D
  | .int i, .int j => if (small62 i && small62 j) && decide ((j - i).toNat ≤ maxLen) then .ok (.tup (rangeD i (j - i).toNat)) else .no
  | _, _ => .no
def optB : Option Bool → R D
  | some b => .ok (.bl b)
  | none => .no
def optI : Option Int → R D
  | some b => .ok (.int b)
  | none => .no
def onT (o : Option Env) (f : Env → Out) : Dp f Out := match o with
  | some e => f e
  | none => .no
def onE {α : Type} (o : Option Env) (f : Env → R α) : Dp f (R α) := match o with
  | some e => f e
  | none => .no
def onN {α : Type} (o : Option Nat) (f : Nat → R α) : Dp f (R α) := match o with
  | some e => f e
  | none => .no
def forD (f : D → Env → Out) (s : D) (env : Env) : Dp f (Dp env Out) := match walkOf s with
  | .ok xs => loop f xs env
  | _ => .no
def raiseD (n c : Nat) (y : D) (env : Env) : Out := match y with
  | .tup ys => if ys.length = n ∧ 0 < ys.length then .ex ⟨c, ys⟩ env else .no
  | _ => .no
def exmD (o : Option Bool) (a b : Unit → Out) : Dp a (Dp b Out) := match o with
  | some true => a ()
  | some false => b ()
  | none => .no
def setO (env : Env) (i : Nat) (d : D) : Option Env := if i < env.length then some (env.set i d) else none
/-! the evaluator and the operations, sealed: neither simp nor the kernel unfolds them -/
theorem opq {α : Sort _} (a : α) : ∃ b : α, b = a := ⟨a, rfl⟩
def vE : Ctx → Option Exn → RE → Env → R D := Classical.choose (opq evE)
theorem vE_eq : vE = evE := Classical.choose_spec (opq evE)
def vS : Ctx → Option Exn → RS → Env → Out := Classical.choose (opq evS)
theorem vS_eq : vS = evS := Classical.choose_spec (opq evS)
def vC : Ctx → Nat → List D → R D := Classical.choose (opq Ctx.call)
theorem vC_eq : vC = Ctx.call := Classical.choose_spec (opq Ctx.call)
def vN : Ctx → Nat → List D → R D := Classical.choose (opq Ctx.new)
theorem vN_eq : vN = Ctx.new := Classical.choose_spec (opq Ctx.new)
def binO : Operator → D → D → R D := Classical.choose (opq binD)
theorem binO_eq : binO = binD := Classical.choose_spec (opq binD)
def cmpO : CmpOp → D → D → R D := Classical.choose (opq cmpD)
theorem cmpO_eq : cmpO = cmpD := Classical.choose_spec (opq cmpD)
def eqO : D → D → R Bool := Classical.choose (opq eqD)
theorem eqO_eq : eqO = eqD := Classical.choose_spec (opq eqD)
def inO : D → D → R Bool := Classical.choose (opq inD)
theorem inO_eq : inO = inD := Classical.choose_spec (opq inD)
def itemO : D → D → R D := Classical.choose (opq item)
theorem itemO_eq : itemO = item := Classical.choose_spec (opq item)
def cutO : D → D → D → R D := Classical.choose (opq cutD)
theorem cutO_eq : cutO = cutD := Classical.choose_spec (opq cutD)
def bltO : Blt → List D → R D := Classical.choose (opq bltD)
theorem bltO_eq : bltO = bltD := Classical.choose_spec (opq bltD)
def rng1O : Int → R D := Classical.choose (opq rng1D)
theorem rng1O_eq : rng1O = rng1D := Classical.choose_spec (opq rng1D)
def rngO : D → D → R D := Classical.choose (opq rngD)
theorem rngO_eq : rngO = rngD := Classical.choose_spec (opq rngD)
def rngTO : D → D → R D := Classical.choose (opq rngT)
theorem rngTO_eq : rngTO = rngT := Classical.choose_spec (opq rngT)
def tupC (ys : List D) : R D := if ys.length ≤ maxLen then .ok (.tup ys) else .no
def lstC (ys : List D) : R D := if ys.length ≤ maxLen then .ok (.lst ys) else .no
def capC (n : Nat) (o : Out) : Out := if n < maxLen then o else .no
def tupO : List D → R D := Classical.choose (opq tupC)
theorem tupO_eq : tupO = tupC := Classical.choose_spec (opq tupC)
def lstO : List D → R D := Classical.choose (opq lstC)
theorem lstO_eq : lstO = lstC := Classical.choose_spec (opq lstC)
def capO : Nat → Out → Out := Classical.choose (opq capC)
theorem capO_eq : capO = capC := Classical.choose_spec (opq capC)
def putLO : Env → Nat → D → D → Out := Classical.choose (opq putL)
theorem putLO_eq : putLO = putL := Classical.choose_spec (opq putL)
def popDO : Env → Nat → Nat → List D → List D → D → Out := Classical.choose (opq popD)
theorem popDO_eq : popDO = popD := Classical.choose_spec (opq popD)
def extC (n : Nat) (o : Out) : Out := if n ≤ maxLen then o else .no
def extO : Nat → Out → Out := Classical.choose (opq extC)
theorem extO_eq : extO = extC := Classical.choose_spec (opq extC)
def mfnO : Nat → List D → R D := Classical.choose (opq mfnD)
theorem mfnO_eq : mfnO = mfnD := Classical.choose_spec (opq mfnD)
def putDO : Env → Nat → D → D → Out := Classical.choose (opq putD)
theorem putDO_eq : putDO = putD := Classical.choose_spec (opq putD)
def lstA (env : Env) (i : Nat) (d : D) : Out := match d with
  | .lst xs => onT (setO env i (.lst xs)) .nx
  | _ => .no
def onL (o : Option D) (f : List D → Out) : Dp f Out := match o with
  | some (.lst xs) => f xs
  | _ => .no
def onI (o : Option D) (a : Unit → Out) : Dp a Out := match o with
  | some (.ins _ _) => .no
  | _ => a ()
def unSet (o : Option D) (e : Env) : Option Env := match o with
  | some .un => some e
  | _ => none
def compR (r : R (List D)) : R D := match r with
  | .ok ys => lstO ys
  | _ => .no
def onIns (o : Option D) (f : Nat → List D → Out) : Dp f Out := match o with
  | some (.ins c vs) => f c vs
  | _ => .no
def blO : D → R D
  | .bl t => .ok (.bl t)
  | _ => .no
def szO : D → R D
  | .int i => if decide (0 ≤ i) && small62 i then .ok (.int i) else .no
  | _ => .no
def eqMv (G : Ctx) (m : Nat) (x y : D) : R D := match x, y with
  | .ins c vs, .ins c' ws => if c = c' then (onN (G.st.meth c m) fun g => (vC G g [.ins c vs, .ins c' ws]).bq fun d => blO d) else .no
  | _, _ => .no
def lenMv (G : Ctx) (m : Nat) (x : D) : R D := onN (methOf G.st x m) fun g => (vC G g [x]).bq fun d => szO d
def compD (f : D → R D) (s : D) : Dp f (R D) := (walkOf s).bq fun xs => compR (coll f xs)
def forcD (f : D → R D) (s : D) : Dp f (R D) := (walkOf s).bq fun xs => (coll f xs).bq fun ys => .ok (.lst ys)
def dcompD (tk : Bool) (f : D → R D) (s : D) : Dp f (R D) := (walkOf s).bq fun xs => dictOf tk (coll f xs)
def rgvC (n : Int) : R D := if small62 n then .ok (.rng 0 n) else .no
def rgvO : Int → R D := Classical.choose (opq rgvC)
theorem rgvO_eq : rgvO = rgvC := Classical.choose_spec (opq rgvC)
theorem rgvO_of {n : Int} (h : -1000000 ≤ n) (h2 : n ≤ 1000000) : rgvO n = .ok (.rng 0 n) := by
  rw [rgvO_eq]
  refine if_pos ?_
  unfold small62
  simp
  omega
def enumD (s : D) : R D := (itemsOf s).bq fun xs => .ok (.lst (xs.mapIdx fun i d => .tup [.int (i : Nat), d]))

/-! lazy congruence -/
section
variable {α β : Type}

@[simp ↓] theorem bdB_ok (t : Bool) (f : Bool → R α) : (R.ok (.bl t)).bdB f = f t := eqt rfl
@[simp ↓] theorem bdB_ex (x : Exn) (f : Bool → R α) : (R.ex x).bdB f = .ex x := eqt rfl
@[simp ↓] theorem bdI_ok (t : Int) (f : Int → R α) : (R.ok (.int t)).bdI f = f t := eqt rfl
@[simp ↓] theorem bdI_ex (x : Exn) (f : Int → R α) : (R.ex x).bdI f = .ex x := eqt rfl
@[simp ↓] theorem bdT_ok (t : List D) (f : List D → R α) : (R.ok (.tup t)).bdT f = f t := eqt rfl
@[simp ↓] theorem bdT_ex (x : Exn) (f : List D → R α) : (R.ex x).bdT f = .ex x := eqt rfl
@[simp ↓] theorem bd_okP (a : α) (f : α → R β) : (R.ok a).bq f = f a := eqt rfl
@[simp ↓] theorem bd_exP (x : Exn) (f : α → R β) : (R.ex x : R α).bq f = .ex x := eqt rfl
@[simp ↓] theorem of_okP (d : D) (env : Env) (f : D → Out) : Out.oq (.ok d) env f = f d := eqt rfl
@[simp ↓] theorem of_exP (x : Exn) (env : Env) (f : D → Out) : Out.oq (.ex x) env f = .ex x env := eqt rfl
@[simp ↓] theorem bd_ite (c : Prop) [Decidable c] (a b : R α) (f : α → R β) : (if c then a else b).bq f = if c then a.bq f else b.bq f := by split <;> rfl
@[simp ↓] theorem bdB_ite (c : Prop) [Decidable c] (a b : R D) (f : Bool → R β) : (if c then a else b).bdB f = if c then a.bdB f else b.bdB f := by split <;> rfl
@[simp ↓] theorem bdI_ite (c : Prop) [Decidable c] (a b : R D) (f : Int → R β) : (if c then a else b).bdI f = if c then a.bdI f else b.bdI f := by split <;> rfl
@[simp ↓] theorem bdT_ite (c : Prop) [Decidable c] (a b : R D) (f : List D → R β) : (if c then a else b).bdT f = if c then a.bdT f else b.bdT f := by split <;> rfl
@[simp ↓] theorem of_ite (c : Prop) [Decidable c] (a b : R D) (env : Env) (f : D → Out) : Out.oq (if c then a else b) env f = if c then Out.oq a env f else Out.oq b env f := by split <;> rfl
@[simp ↓] theorem ofT_ite (c : Prop) [Decidable c] (a b : R D) (env : Env) (f : Bool → Out) : Out.ofT (if c then a else b) env f = if c then Out.ofT a env f else Out.ofT b env f := by split <;> rfl
@[simp ↓] theorem ofT_bl (t : Bool) (env : Env) (f : Bool → Out) : Out.ofT (.ok (.bl t)) env f = f t := eqt rfl
@[simp ↓] theorem ofT_int (t : Int) (env : Env) (f : Bool → Out) : Out.ofT (.ok (.int t)) env f = f (t != 0) := eqt rfl
@[simp ↓] theorem ofT_non (env : Env) (f : Bool → Out) : Out.ofT (.ok .non) env f = f false := eqt rfl
@[simp ↓] theorem ofT_tup (t : List D) (env : Env) (f : Bool → Out) : Out.ofT (.ok (.tup t)) env f = f (!t.isEmpty) := eqt rfl
@[simp ↓] theorem ofT_lst (t : List D) (env : Env) (f : Bool → Out) : Out.ofT (.ok (.lst t)) env f = f (!t.isEmpty) := eqt rfl
@[simp ↓] theorem ofT_ex (x : Exn) (env : Env) (f : Bool → Out) : Out.ofT (.ex x) env f = .ex x env := eqt rfl
@[simp ↓] theorem ofB_ok (t : Bool) (f : Bool → Out) : Out.ofB (.ok t) f = f t := eqt rfl
@[simp ↓] theorem sq_nx (e : Env) (f : Env → Out) : (Out.nx e).sq f = f e := eqt rfl
@[simp ↓] theorem sq_rt (d : D) (e : Env) (f : Env → Out) : (Out.rt d e).sq f = .rt d e := eqt rfl
@[simp ↓] theorem sq_ex (x : Exn) (e : Env) (f : Env → Out) : (Out.ex x e).sq f = .ex x e := eqt rfl
@[simp ↓] theorem sq_bk (e : Env) (f : Env → Out) : (Out.bk e).sq f = .bk e := eqt rfl
@[simp ↓] theorem sq_ct (e : Env) (f : Env → Out) : (Out.ct e).sq f = .ct e := eqt rfl
@[simp ↓] theorem sq_ite (c : Prop) [Decidable c] (a b : Out) (f : Env → Out) : (if c then a else b).sq f = if c then a.sq f else b.sq f := by split <;> rfl
@[simp ↓] theorem hd_nx (e : Env) (f : Exn → Env → Out) : (Out.nx e).hd f = .nx e := eqt rfl
@[simp ↓] theorem hd_rt (d : D) (e : Env) (f : Exn → Env → Out) : (Out.rt d e).hd f = .rt d e := eqt rfl
@[simp ↓] theorem hd_ct (e : Env) (f : Exn → Env → Out) : (Out.ct e).hd f = .ct e := eqt rfl
@[simp ↓] theorem hd_bk (e : Env) (f : Exn → Env → Out) : (Out.bk e).hd f = .bk e := eqt rfl
@[simp ↓] theorem hd_ex (x : Exn) (e : Env) (f : Exn → Env → Out) : (Out.ex x e).hd f = f x e := eqt rfl
@[simp ↓] theorem hd_ite (c : Prop) [Decidable c] (a b : Out) (f : Exn → Env → Out) : (if c then a else b).hd f = if c then a.hd f else b.hd f := by split <;> rfl
@[simp ↓] theorem resOf_nx (e : Env) : resOf (.nx e) = .ok .non := eqt rfl
@[simp ↓] theorem resOf_rt (d : D) (e : Env) : resOf (.rt d e) = .ok d := eqt rfl
@[simp ↓] theorem resOf_ex (x : Exn) (e : Env) : resOf (.ex x e) = .ex x := eqt rfl
@[simp] theorem resOf_ite (c : Prop) [Decidable c] (a b : Out) : resOf (if c then a else b) = if c then resOf a else resOf b := by split <;> rfl
@[simp ↓] theorem selfOf_nx (d : D) (e : Env) : selfOf (.nx (d :: e)) = .ok d := eqt rfl
@[simp ↓] theorem selfOf_ex (x : Exn) (e : Env) : selfOf (.ex x e) = .ex x := eqt rfl
@[simp] theorem selfOf_ite (c : Prop) [Decidable c] (a b : Out) : selfOf (if c then a else b) = if c then selfOf a else selfOf b := by split <;> rfl
@[simp] theorem wipe_nx (i : Nat) (e : Env) : (Out.nx e).wipe i = .nx (e.set i .un) := eqt rfl
@[simp] theorem wipe_rt (i : Nat) (d : D) (e : Env) : (Out.rt d e).wipe i = .rt d (e.set i .un) := eqt rfl
@[simp] theorem wipe_bk (i : Nat) (e : Env) : (Out.bk e).wipe i = .bk (e.set i .un) := eqt rfl
@[simp] theorem wipe_ct (i : Nat) (e : Env) : (Out.ct e).wipe i = .ct (e.set i .un) := eqt rfl
@[simp] theorem wipe_ite (i : Nat) (c : Prop) [Decidable c] (a b : Out) : (if c then a else b).wipe i = if c then a.wipe i else b.wipe i := by split <;> rfl
@[simp] theorem rd_non : rd .non = .ok .non := eqt rfl
@[simp] theorem rd_bl (b) : rd (.bl b) = .ok (.bl b) := eqt rfl
@[simp] theorem rd_int (b) : rd (.int b) = .ok (.int b) := eqt rfl
@[simp] theorem rd_str (b) : rd (.str b) = .ok (.str b) := eqt rfl
@[simp] theorem rd_tup (b) : rd (.tup b) = .ok (.tup b) := eqt rfl
@[simp] theorem rd_lst (b) : rd (.lst b) = .ok (.lst b) := eqt rfl
@[simp] theorem rd_dic (b c) : rd (.dic b c) = .ok (.dic b c) := eqt rfl
@[simp] theorem rd_dik (b c) : rd (.dik b c) = .ok (.dik b c) := eqt rfl
@[simp] theorem rd_dit (b c) : rd (.dit b c) = .ok (.dit b c) := eqt rfl
@[simp] theorem rd_rng (b c) : rd (.rng b c) = .ok (.rng b c) := eqt rfl
@[simp] theorem rd_ins (b c) : rd (.ins b c) = .ok (.ins b c) := eqt rfl
@[simp] theorem rdE_some (d) : rdE (some d) = rd d := eqt rfl
end
@[simp] theorem optB_some (b) : optB (some b) = .ok (.bl b) := eqt rfl
@[simp] theorem optI_some (b) : optI (some b) = .ok (.int b) := eqt rfl
@[simp] theorem rdO_some (b) : rdO (some b) = .ok b := eqt rfl
@[simp ↓] theorem onT_some (e f) : onT (some e) f = f e := eqt rfl
@[simp ↓] theorem onE_some {α : Type} (e) (f : Env → R α) : onE (some e) f = f e := eqt rfl
@[simp ↓] theorem onN_some {α : Type} (e) (f : Nat → R α) : onN (some e) f = f e := eqt rfl
@[simp] theorem forD_lst (f xs env) : forD f (.lst xs) env = loop f xs env := eqt rfl
@[simp] theorem forD_tup (f xs env) : forD f (.tup xs) env = loop f xs env := eqt rfl
@[simp] theorem compD_lst (f xs) : compD f (.lst xs) = compR (coll f xs) := eqt rfl
@[simp] theorem compD_tup (f xs) : compD f (.tup xs) = compR (coll f xs) := eqt rfl
@[simp] theorem forcD_lst (f xs) : forcD f (.lst xs) = (coll f xs).bq fun ys => .ok (.lst ys) := eqt rfl
@[simp] theorem forcD_tup (f xs) : forcD f (.tup xs) = (coll f xs).bq fun ys => .ok (.lst ys) := eqt rfl
@[simp] theorem compR_ok (ys) : compR (.ok ys) = lstO ys := eqt rfl
@[simp] theorem enumD_lst (xs) : enumD (.lst xs) = .ok (.lst (xs.mapIdx fun i d => .tup [.int (i : Nat), d])) := eqt rfl
@[simp] theorem enumD_tup (xs) : enumD (.tup xs) = .ok (.lst (xs.mapIdx fun i d => .tup [.int (i : Nat), d])) := eqt rfl
@[simp] theorem raiseD_tup (n c ys env) : raiseD n c (.tup ys) env = if ys.length = n ∧ 0 < ys.length then .ex ⟨c, ys⟩ env else .no := eqt rfl
@[simp ↓] theorem exmD_t (a b) : exmD (some true) a b = a () := eqt rfl
@[simp ↓] theorem exmD_f (a b) : exmD (some false) a b = b () := eqt rfl
@[simp] theorem lstA_lst (env i xs) : lstA env i (.lst xs) = onT (setO env i (.lst xs)) .nx := eqt rfl
@[simp ↓] theorem onL_lst (xs f) : onL (some (.lst xs)) f = f xs := eqt rfl
@[simp ↓] theorem onI_lst (xs a) : onI (some (.lst xs)) a = a () := eqt rfl
@[simp ↓] theorem onI_dic (xs ys a) : onI (some (.dic xs ys)) a = a () := eqt rfl
@[simp ↓] theorem onI_dik (xs ys a) : onI (some (.dik xs ys)) a = a () := eqt rfl
@[simp ↓] theorem onI_dit (xs ys a) : onI (some (.dit xs ys)) a = a () := eqt rfl
@[simp ↓] theorem onI_rng (xs ys a) : onI (some (.rng xs ys)) a = a () := eqt rfl
@[simp ↓] theorem onI_tup (xs a) : onI (some (.tup xs)) a = a () := eqt rfl
@[simp] theorem unSet_un (e) : unSet (some .un) e = some e := eqt rfl
@[simp] theorem loop_nil (f env) : loop f [] env = .nx env := eqt rfl
/-! ### the equations -/
section
variable {G : Ctx} {cur : Option Exn} {env : Env}

@[simp] theorem ve_int {i} : vE G cur (.int i) env = .ok (.int i) := by
  simp only [R.bq, Out.oq, R.bdB, R.bdI, R.bdT, Out.sq, Out.ofB, Out.ofT, Out.hd, onT, onE, onN, onL, onI, onIns, exmD, forD, compD, dcompD, rgvO_eq, forcD, eqMv, lenMv, vE_eq, vS_eq, vC_eq, vN_eq, binO_eq, cmpO_eq, itemO_eq, cutO_eq, bltO_eq, rng1O_eq, rngO_eq, rngTO_eq, tupO_eq, lstO_eq, capO_eq, putLO_eq, putDO_eq, popDO_eq, extO_eq, mfnO_eq]
  first | exact evE_int | (rw [evE_int] <;> first | rfl | (unfold compR; simp only [lstO_eq]; rfl) | (unfold rgvC; rfl))
@[simp] theorem ve_str {x} : vE G cur (.str x) env = .ok (.str x) := by
  simp only [R.bq, Out.oq, R.bdB, R.bdI, R.bdT, Out.sq, Out.ofB, Out.ofT, Out.hd, onT, onE, onN, onL, onI, onIns, exmD, forD, compD, dcompD, rgvO_eq, forcD, eqMv, lenMv, vE_eq, vS_eq, vC_eq, vN_eq, binO_eq, cmpO_eq, itemO_eq, cutO_eq, bltO_eq, rng1O_eq, rngO_eq, rngTO_eq, tupO_eq, lstO_eq, capO_eq, putLO_eq, putDO_eq, popDO_eq, extO_eq, mfnO_eq]
  first | exact evE_str | (rw [evE_str] <;> first | rfl | (unfold compR; simp only [lstO_eq]; rfl) | (unfold rgvC; rfl))
@[simp] theorem ve_bl {b} : vE G cur (.bl b) env = .ok (.bl b) := by
  simp only [R.bq, Out.oq, R.bdB, R.bdI, R.bdT, Out.sq, Out.ofB, Out.ofT, Out.hd, onT, onE, onN, onL, onI, onIns, exmD, forD, compD, dcompD, rgvO_eq, forcD, eqMv, lenMv, vE_eq, vS_eq, vC_eq, vN_eq, binO_eq, cmpO_eq, itemO_eq, cutO_eq, bltO_eq, rng1O_eq, rngO_eq, rngTO_eq, tupO_eq, lstO_eq, capO_eq, putLO_eq, putDO_eq, popDO_eq, extO_eq, mfnO_eq]
  first | exact evE_bl | (rw [evE_bl] <;> first | rfl | (unfold compR; simp only [lstO_eq]; rfl) | (unfold rgvC; rfl))
@[simp] theorem ve_non  : vE G cur .non env = .ok .non := by
  simp only [R.bq, Out.oq, R.bdB, R.bdI, R.bdT, Out.sq, Out.ofB, Out.ofT, Out.hd, onT, onE, onN, onL, onI, onIns, exmD, forD, compD, dcompD, rgvO_eq, forcD, eqMv, lenMv, vE_eq, vS_eq, vC_eq, vN_eq, binO_eq, cmpO_eq, itemO_eq, cutO_eq, bltO_eq, rng1O_eq, rngO_eq, rngTO_eq, tupO_eq, lstO_eq, capO_eq, putLO_eq, putDO_eq, popDO_eq, extO_eq, mfnO_eq]
  first | exact evE_non | (rw [evE_non] <;> first | rfl | (unfold compR; simp only [lstO_eq]; rfl) | (unfold rgvC; rfl))
@[simp] theorem ve_gint {x i} : vE G cur (.gint x i) env = .ok (.int i) := by
  simp only [R.bq, Out.oq, R.bdB, R.bdI, R.bdT, Out.sq, Out.ofB, Out.ofT, Out.hd, onT, onE, onN, onL, onI, onIns, exmD, forD, compD, dcompD, rgvO_eq, forcD, eqMv, lenMv, vE_eq, vS_eq, vC_eq, vN_eq, binO_eq, cmpO_eq, itemO_eq, cutO_eq, bltO_eq, rng1O_eq, rngO_eq, rngTO_eq, tupO_eq, lstO_eq, capO_eq, putLO_eq, putDO_eq, popDO_eq, extO_eq, mfnO_eq]
  first | exact evE_gint | (rw [evE_gint] <;> first | rfl | (unfold compR; simp only [lstO_eq]; rfl) | (unfold rgvC; rfl))
@[simp] theorem ve_bin {op a b} : vE G cur (.bin op a b) env = (vE G cur a env).bq fun x => (vE G cur b env).bq fun y => binO op x y := by
  simp only [R.bq, Out.oq, R.bdB, R.bdI, R.bdT, Out.sq, Out.ofB, Out.ofT, Out.hd, onT, onE, onN, onL, onI, onIns, exmD, forD, compD, dcompD, rgvO_eq, forcD, eqMv, lenMv, vE_eq, vS_eq, vC_eq, vN_eq, binO_eq, cmpO_eq, itemO_eq, cutO_eq, bltO_eq, rng1O_eq, rngO_eq, rngTO_eq, tupO_eq, lstO_eq, capO_eq, putLO_eq, putDO_eq, popDO_eq, extO_eq, mfnO_eq]
  first | exact evE_bin | (rw [evE_bin] <;> first | rfl | (unfold compR; simp only [lstO_eq]; rfl) | (unfold rgvC; rfl))
@[simp] theorem ve_cmp {op a b} : vE G cur (.cmp op a b) env = (vE G cur a env).bq fun x => (vE G cur b env).bq fun y => cmpO op x y := by
  simp only [R.bq, Out.oq, R.bdB, R.bdI, R.bdT, Out.sq, Out.ofB, Out.ofT, Out.hd, onT, onE, onN, onL, onI, onIns, exmD, forD, compD, dcompD, rgvO_eq, forcD, eqMv, lenMv, vE_eq, vS_eq, vC_eq, vN_eq, binO_eq, cmpO_eq, itemO_eq, cutO_eq, bltO_eq, rng1O_eq, rngO_eq, rngTO_eq, tupO_eq, lstO_eq, capO_eq, putLO_eq, putDO_eq, popDO_eq, extO_eq, mfnO_eq]
  first | exact evE_cmp | (rw [evE_cmp] <;> first | rfl | (unfold compR; simp only [lstO_eq]; rfl) | (unfold rgvC; rfl))
@[simp] theorem ve_nil  : vE G cur .nil env = .ok (.tup []) := by
  simp only [R.bq, Out.oq, R.bdB, R.bdI, R.bdT, Out.sq, Out.ofB, Out.ofT, Out.hd, onT, onE, onN, onL, onI, onIns, exmD, forD, compD, dcompD, rgvO_eq, forcD, eqMv, lenMv, vE_eq, vS_eq, vC_eq, vN_eq, binO_eq, cmpO_eq, itemO_eq, cutO_eq, bltO_eq, rng1O_eq, rngO_eq, rngTO_eq, tupO_eq, lstO_eq, capO_eq, putLO_eq, putDO_eq, popDO_eq, extO_eq, mfnO_eq]
  first | exact evE_nil | (rw [evE_nil] <;> first | rfl | (unfold compR; simp only [lstO_eq]; rfl) | (unfold rgvC; rfl))
@[simp] theorem ve_item {a b} : vE G cur (.item a b) env = (vE G cur a env).bq fun x => (vE G cur b env).bq fun y => itemO x y := by
  simp only [R.bq, Out.oq, R.bdB, R.bdI, R.bdT, Out.sq, Out.ofB, Out.ofT, Out.hd, onT, onE, onN, onL, onI, onIns, exmD, forD, compD, dcompD, rgvO_eq, forcD, eqMv, lenMv, vE_eq, vS_eq, vC_eq, vN_eq, binO_eq, cmpO_eq, itemO_eq, cutO_eq, bltO_eq, rng1O_eq, rngO_eq, rngTO_eq, tupO_eq, lstO_eq, capO_eq, putLO_eq, putDO_eq, popDO_eq, extO_eq, mfnO_eq]
  first | exact evE_item | (rw [evE_item] <;> first | rfl | (unfold compR; simp only [lstO_eq]; rfl) | (unfold rgvC; rfl))
@[simp] theorem ve_nopart  : vE G cur .nopart env = .ok .non := by
  simp only [R.bq, Out.oq, R.bdB, R.bdI, R.bdT, Out.sq, Out.ofB, Out.ofT, Out.hd, onT, onE, onN, onL, onI, onIns, exmD, forD, compD, dcompD, rgvO_eq, forcD, eqMv, lenMv, vE_eq, vS_eq, vC_eq, vN_eq, binO_eq, cmpO_eq, itemO_eq, cutO_eq, bltO_eq, rng1O_eq, rngO_eq, rngTO_eq, tupO_eq, lstO_eq, capO_eq, putLO_eq, putDO_eq, popDO_eq, extO_eq, mfnO_eq]
  first | exact evE_nopart | (rw [evE_nopart] <;> first | rfl | (unfold compR; simp only [lstO_eq]; rfl) | (unfold rgvC; rfl))
@[simp] theorem ve_cut {a lo hi} : vE G cur (.cut a lo hi) env = (vE G cur a env).bq fun x => (vE G cur lo env).bq fun l => (vE G cur hi env).bq fun h => cutO x l h := by
  simp only [R.bq, Out.oq, R.bdB, R.bdI, R.bdT, Out.sq, Out.ofB, Out.ofT, Out.hd, onT, onE, onN, onL, onI, onIns, exmD, forD, compD, dcompD, rgvO_eq, forcD, eqMv, lenMv, vE_eq, vS_eq, vC_eq, vN_eq, binO_eq, cmpO_eq, itemO_eq, cutO_eq, bltO_eq, rng1O_eq, rngO_eq, rngTO_eq, tupO_eq, lstO_eq, capO_eq, putLO_eq, putDO_eq, popDO_eq, extO_eq, mfnO_eq]
  first | exact evE_cut | (rw [evE_cut] <;> first | rfl | (unfold compR; simp only [lstO_eq]; rfl) | (unfold rgvC; rfl))
@[simp] theorem ve_one {a} : vE G cur (.one a) env = (vE G cur a env).bq fun x => .ok (.lst [x]) := by
  simp only [R.bq, Out.oq, R.bdB, R.bdI, R.bdT, Out.sq, Out.ofB, Out.ofT, Out.hd, onT, onE, onN, onL, onI, onIns, exmD, forD, compD, dcompD, rgvO_eq, forcD, eqMv, lenMv, vE_eq, vS_eq, vC_eq, vN_eq, binO_eq, cmpO_eq, itemO_eq, cutO_eq, bltO_eq, rng1O_eq, rngO_eq, rngTO_eq, tupO_eq, lstO_eq, capO_eq, putLO_eq, putDO_eq, popDO_eq, extO_eq, mfnO_eq]
  first | exact evE_one | (rw [evE_one] <;> first | rfl | (unfold compR; simp only [lstO_eq]; rfl) | (unfold rgvC; rfl))
@[simp] theorem ve_attr {a f} : vE G cur (.attr a f) env = (vE G cur a env).bq fun x => getF G.st x f := by
  simp only [R.bq, Out.oq, R.bdB, R.bdI, R.bdT, Out.sq, Out.ofB, Out.ofT, Out.hd, onT, onE, onN, onL, onI, onIns, exmD, forD, compD, dcompD, rgvO_eq, forcD, eqMv, lenMv, vE_eq, vS_eq, vC_eq, vN_eq, binO_eq, cmpO_eq, itemO_eq, cutO_eq, bltO_eq, rng1O_eq, rngO_eq, rngTO_eq, tupO_eq, lstO_eq, capO_eq, putLO_eq, putDO_eq, popDO_eq, extO_eq, mfnO_eq]
  first | exact evE_attr | (rw [evE_attr] <;> first | rfl | (unfold compR; simp only [lstO_eq]; rfl) | (unfold rgvC; rfl))
@[simp] theorem ve_con {a f} : vE G cur (.con a f) env = (vE G cur a env).bq fun x => getC G.st x f := by
  simp only [R.bq, Out.oq, R.bdB, R.bdI, R.bdT, Out.sq, Out.ofB, Out.ofT, Out.hd, onT, onE, onN, onL, onI, onIns, exmD, forD, compD, dcompD, rgvO_eq, forcD, eqMv, lenMv, vE_eq, vS_eq, vC_eq, vN_eq, binO_eq, cmpO_eq, itemO_eq, cutO_eq, bltO_eq, rng1O_eq, rngO_eq, rngTO_eq, tupO_eq, lstO_eq, capO_eq, putLO_eq, putDO_eq, popDO_eq, extO_eq, mfnO_eq]
  first | exact evE_con | (rw [evE_con] <;> first | rfl | (unfold compR; simp only [lstO_eq]; rfl) | (unfold rgvC; rfl))
@[simp] theorem ve_neg {a} : vE G cur (.neg a) env = (vE G cur a env).bdI fun i => .ok (.int (-i)) := by
  simp only [R.bq, Out.oq, R.bdB, R.bdI, R.bdT, Out.sq, Out.ofB, Out.ofT, Out.hd, onT, onE, onN, onL, onI, onIns, exmD, forD, compD, dcompD, rgvO_eq, forcD, eqMv, lenMv, vE_eq, vS_eq, vC_eq, vN_eq, binO_eq, cmpO_eq, itemO_eq, cutO_eq, bltO_eq, rng1O_eq, rngO_eq, rngTO_eq, tupO_eq, lstO_eq, capO_eq, putLO_eq, putDO_eq, popDO_eq, extO_eq, mfnO_eq]
  first | exact evE_neg | (rw [evE_neg] <;> first | rfl | (unfold compR; simp only [lstO_eq]; rfl) | (unfold rgvC; rfl))
@[simp] theorem ve_not {a} : vE G cur (.not a) env = (vE G cur a env).bdB fun t => .ok (.bl !t) := by
  simp only [R.bq, Out.oq, R.bdB, R.bdI, R.bdT, Out.sq, Out.ofB, Out.ofT, Out.hd, onT, onE, onN, onL, onI, onIns, exmD, forD, compD, dcompD, rgvO_eq, forcD, eqMv, lenMv, vE_eq, vS_eq, vC_eq, vN_eq, binO_eq, cmpO_eq, itemO_eq, cutO_eq, bltO_eq, rng1O_eq, rngO_eq, rngTO_eq, tupO_eq, lstO_eq, capO_eq, putLO_eq, putDO_eq, popDO_eq, extO_eq, mfnO_eq]
  first | exact evE_not | (rw [evE_not] <;> first | rfl | (unfold compR; simp only [lstO_eq]; rfl) | (unfold rgvC; rfl))
@[simp] theorem ve_cons {a r} : vE G cur (.cons a r) env = (vE G cur a env).bq fun x => (vE G cur r env).bdT fun ys => .ok (.tup (x :: ys)) := by
  simp only [R.bq, Out.oq, R.bdB, R.bdI, R.bdT, Out.sq, Out.ofB, Out.ofT, Out.hd, onT, onE, onN, onL, onI, onIns, exmD, forD, compD, dcompD, rgvO_eq, forcD, eqMv, lenMv, vE_eq, vS_eq, vC_eq, vN_eq, binO_eq, cmpO_eq, itemO_eq, cutO_eq, bltO_eq, rng1O_eq, rngO_eq, rngTO_eq, tupO_eq, lstO_eq, capO_eq, putLO_eq, putDO_eq, popDO_eq, extO_eq, mfnO_eq]
  first | exact evE_cons | (rw [evE_cons] <;> first | rfl | (unfold compR; simp only [lstO_eq]; rfl) | (unfold rgvC; rfl))
@[simp] theorem ve_tup {es} : vE G cur (.tup es) env = (vE G cur es env).bdT fun ys => tupO ys := by
  simp only [R.bq, Out.oq, R.bdB, R.bdI, R.bdT, Out.sq, Out.ofB, Out.ofT, Out.hd, onT, onE, onN, onL, onI, onIns, exmD, forD, compD, dcompD, rgvO_eq, forcD, eqMv, lenMv, vE_eq, vS_eq, vC_eq, vN_eq, binO_eq, cmpO_eq, itemO_eq, cutO_eq, bltO_eq, rng1O_eq, rngO_eq, rngTO_eq, tupO_eq, lstO_eq, capO_eq, putLO_eq, putDO_eq, popDO_eq, extO_eq, mfnO_eq]
  first | exact evE_tup | (rw [evE_tup] <;> first | rfl | (unfold compR; simp only [lstO_eq]; rfl) | (unfold rgvC; rfl))
@[simp] theorem ve_lst {es} : vE G cur (.lst es) env = (vE G cur es env).bdT fun ys => lstO ys := by
  simp only [R.bq, Out.oq, R.bdB, R.bdI, R.bdT, Out.sq, Out.ofB, Out.ofT, Out.hd, onT, onE, onN, onL, onI, onIns, exmD, forD, compD, dcompD, rgvO_eq, forcD, eqMv, lenMv, vE_eq, vS_eq, vC_eq, vN_eq, binO_eq, cmpO_eq, itemO_eq, cutO_eq, bltO_eq, rng1O_eq, rngO_eq, rngTO_eq, tupO_eq, lstO_eq, capO_eq, putLO_eq, putDO_eq, popDO_eq, extO_eq, mfnO_eq]
  first | exact evE_lst | (rw [evE_lst] <;> first | rfl | (unfold compR; simp only [lstO_eq]; rfl) | (unfold rgvC; rfl))
@[simp] theorem ve_part {a} : vE G cur (.part a) env = (vE G cur a env).bdI fun i => .ok (.int i) := by
  simp only [R.bq, Out.oq, R.bdB, R.bdI, R.bdT, Out.sq, Out.ofB, Out.ofT, Out.hd, onT, onE, onN, onL, onI, onIns, exmD, forD, compD, dcompD, rgvO_eq, forcD, eqMv, lenMv, vE_eq, vS_eq, vC_eq, vN_eq, binO_eq, cmpO_eq, itemO_eq, cutO_eq, bltO_eq, rng1O_eq, rngO_eq, rngTO_eq, tupO_eq, lstO_eq, capO_eq, putLO_eq, putDO_eq, popDO_eq, extO_eq, mfnO_eq]
  first | exact evE_part | (rw [evE_part] <;> first | rfl | (unfold compR; simp only [lstO_eq]; rfl) | (unfold rgvC; rfl))
@[simp] theorem ve_call {f es} : vE G cur (.call f es) env = (vE G cur es env).bdT fun ys => vC G f ys := by
  simp only [R.bq, Out.oq, R.bdB, R.bdI, R.bdT, Out.sq, Out.ofB, Out.ofT, Out.hd, onT, onE, onN, onL, onI, onIns, exmD, forD, compD, dcompD, rgvO_eq, forcD, eqMv, lenMv, vE_eq, vS_eq, vC_eq, vN_eq, binO_eq, cmpO_eq, itemO_eq, cutO_eq, bltO_eq, rng1O_eq, rngO_eq, rngTO_eq, tupO_eq, lstO_eq, capO_eq, putLO_eq, putDO_eq, popDO_eq, extO_eq, mfnO_eq]
  first | exact evE_call | (rw [evE_call] <;> first | rfl | (unfold compR; simp only [lstO_eq]; rfl) | (unfold rgvC; rfl))
@[simp] theorem ve_new {f es} : vE G cur (.new f es) env = (vE G cur es env).bdT fun ys => vN G f ys := by
  simp only [R.bq, Out.oq, R.bdB, R.bdI, R.bdT, Out.sq, Out.ofB, Out.ofT, Out.hd, onT, onE, onN, onL, onI, onIns, exmD, forD, compD, dcompD, rgvO_eq, forcD, eqMv, lenMv, vE_eq, vS_eq, vC_eq, vN_eq, binO_eq, cmpO_eq, itemO_eq, cutO_eq, bltO_eq, rng1O_eq, rngO_eq, rngTO_eq, tupO_eq, lstO_eq, capO_eq, putLO_eq, putDO_eq, popDO_eq, extO_eq, mfnO_eq]
  first | exact evE_new | (rw [evE_new] <;> first | rfl | (unfold compR; simp only [lstO_eq]; rfl) | (unfold rgvC; rfl))
@[simp] theorem ve_blt {bb es} : vE G cur (.blt bb es) env = (vE G cur es env).bdT fun ys => bltO bb ys := by
  simp only [R.bq, Out.oq, R.bdB, R.bdI, R.bdT, Out.sq, Out.ofB, Out.ofT, Out.hd, onT, onE, onN, onL, onI, onIns, exmD, forD, compD, dcompD, rgvO_eq, forcD, eqMv, lenMv, vE_eq, vS_eq, vC_eq, vN_eq, binO_eq, cmpO_eq, itemO_eq, cutO_eq, bltO_eq, rng1O_eq, rngO_eq, rngTO_eq, tupO_eq, lstO_eq, capO_eq, putLO_eq, putDO_eq, popDO_eq, extO_eq, mfnO_eq]
  first | exact evE_blt | (rw [evE_blt] <;> first | rfl | (unfold compR; simp only [lstO_eq]; rfl) | (unfold rgvC; rfl))
@[simp] theorem ve_rng1 {a} : vE G cur (.rng1 a) env = (vE G cur a env).bdI rng1O := by
  simp only [R.bq, Out.oq, R.bdB, R.bdI, R.bdT, Out.sq, Out.ofB, Out.ofT, Out.hd, onT, onE, onN, onL, onI, onIns, exmD, forD, compD, dcompD, rgvO_eq, forcD, eqMv, lenMv, vE_eq, vS_eq, vC_eq, vN_eq, binO_eq, cmpO_eq, itemO_eq, cutO_eq, bltO_eq, rng1O_eq, rngO_eq, rngTO_eq, tupO_eq, lstO_eq, capO_eq, putLO_eq, putDO_eq, popDO_eq, extO_eq, mfnO_eq]
  first | exact evE_rng1 | (rw [evE_rng1] <;> first | rfl | (unfold compR; simp only [lstO_eq]; rfl) | (unfold rgvC; rfl))
@[simp] theorem ve_rng2 {a b} : vE G cur (.rng2 a b) env = (vE G cur a env).bq fun x => (vE G cur b env).bq fun y => rngO x y := by
  simp only [R.bq, Out.oq, R.bdB, R.bdI, R.bdT, Out.sq, Out.ofB, Out.ofT, Out.hd, onT, onE, onN, onL, onI, onIns, exmD, forD, compD, dcompD, rgvO_eq, forcD, eqMv, lenMv, vE_eq, vS_eq, vC_eq, vN_eq, binO_eq, cmpO_eq, itemO_eq, cutO_eq, bltO_eq, rng1O_eq, rngO_eq, rngTO_eq, tupO_eq, lstO_eq, capO_eq, putLO_eq, putDO_eq, popDO_eq, extO_eq, mfnO_eq]
  first | exact evE_rng2 | (rw [evE_rng2] <;> first | rfl | (unfold compR; simp only [lstO_eq]; rfl) | (unfold rgvC; rfl))
@[simp] theorem ve_tupR {a b} : vE G cur (.tupR a b) env = (vE G cur a env).bq fun x => (vE G cur b env).bq fun y => rngTO x y := by
  simp only [R.bq, Out.oq, R.bdB, R.bdI, R.bdT, Out.sq, Out.ofB, Out.ofT, Out.hd, onT, onE, onN, onL, onI, onIns, exmD, forD, compD, dcompD, rgvO_eq, forcD, eqMv, lenMv, vE_eq, vS_eq, vC_eq, vN_eq, binO_eq, cmpO_eq, itemO_eq, cutO_eq, bltO_eq, rng1O_eq, rngO_eq, rngTO_eq, tupO_eq, lstO_eq, capO_eq, putLO_eq, putDO_eq, popDO_eq, extO_eq, mfnO_eq]
  first | exact evE_tupR | (rw [evE_tupR] <;> first | rfl | (unfold compR; simp only [lstO_eq]; rfl) | (unfold rgvC; rfl))
@[simp] theorem ve_isi {a t} : vE G cur (.isi a t) env = (vE G cur a env).bq fun x => optB (G.st.isi (tyOf x) t) := by
  simp only [R.bq, Out.oq, R.bdB, R.bdI, R.bdT, Out.sq, Out.ofB, Out.ofT, Out.hd, onT, onE, onN, onL, onI, onIns, exmD, forD, compD, dcompD, rgvO_eq, forcD, eqMv, lenMv, vE_eq, vS_eq, vC_eq, vN_eq, binO_eq, cmpO_eq, itemO_eq, cutO_eq, bltO_eq, rng1O_eq, rngO_eq, rngTO_eq, tupO_eq, lstO_eq, capO_eq, putLO_eq, putDO_eq, popDO_eq, extO_eq, mfnO_eq]
  first | exact evE_isi | (rw [evE_isi] <;> first | rfl | (unfold compR; simp only [lstO_eq]; rfl) | (unfold rgvC; rfl))
@[simp] theorem ve_enum {a} : vE G cur (.enum a) env = (vE G cur a env).bq fun x => enumD x := by
  simp only [R.bq, Out.oq, R.bdB, R.bdI, R.bdT, Out.sq, Out.ofB, Out.ofT, Out.hd, onT, onE, onN, onL, onI, onIns, exmD, forD, compD, dcompD, rgvO_eq, forcD, eqMv, lenMv, vE_eq, vS_eq, vC_eq, vN_eq, binO_eq, cmpO_eq, itemO_eq, cutO_eq, bltO_eq, rng1O_eq, rngO_eq, rngTO_eq, tupO_eq, lstO_eq, capO_eq, putLO_eq, putDO_eq, popDO_eq, extO_eq, mfnO_eq]
  first | exact evE_enum | (rw [evE_enum] <;> first | rfl | (unfold compR; simp only [lstO_eq]; rfl) | (unfold rgvC; rfl))
@[simp] theorem ve_meth {o m es} : vE G cur (.meth o m es) env = (vE G cur o env).bq fun x => onN (methOf G.st x m) fun g => (vE G cur es env).bdT fun ys => vC G g (x :: ys) := by
  simp only [R.bq, Out.oq, R.bdB, R.bdI, R.bdT, Out.sq, Out.ofB, Out.ofT, Out.hd, onT, onE, onN, onL, onI, onIns, exmD, forD, compD, dcompD, rgvO_eq, forcD, eqMv, lenMv, vE_eq, vS_eq, vC_eq, vN_eq, binO_eq, cmpO_eq, itemO_eq, cutO_eq, bltO_eq, rng1O_eq, rngO_eq, rngTO_eq, tupO_eq, lstO_eq, capO_eq, putLO_eq, putDO_eq, popDO_eq, extO_eq, mfnO_eq]
  first | exact evE_meth | (rw [evE_meth] <;> first | rfl | (unfold compR; simp only [lstO_eq]; rfl) | (unfold rgvC; rfl))
@[simp] theorem ve_ceq {m a b} : vE G cur (.ceq m a b) env = (vE G cur a env).bq fun x => (vE G cur b env).bq fun y => eqMv G m x y := by
  simp only [R.bq, Out.oq, R.bdB, R.bdI, R.bdT, Out.sq, Out.ofB, Out.ofT, Out.hd, onT, onE, onN, onL, onI, onIns, exmD, forD, compD, dcompD, rgvO_eq, forcD, eqMv, lenMv, vE_eq, vS_eq, vC_eq, vN_eq, binO_eq, cmpO_eq, itemO_eq, cutO_eq, bltO_eq, rng1O_eq, rngO_eq, rngTO_eq, tupO_eq, lstO_eq, capO_eq, putLO_eq, putDO_eq, popDO_eq, extO_eq, mfnO_eq]
  first | exact evE_ceq | (rw [evE_ceq] <;> first | rfl | (unfold compR; simp only [lstO_eq]; rfl) | (unfold rgvC; rfl))
@[simp] theorem ve_dlen {m a} : vE G cur (.dlen m a) env = (vE G cur a env).bq fun x => lenMv G m x := by
  simp only [R.bq, Out.oq, R.bdB, R.bdI, R.bdT, Out.sq, Out.ofB, Out.ofT, Out.hd, onT, onE, onN, onL, onI, onIns, exmD, forD, compD, dcompD, rgvO_eq, forcD, eqMv, lenMv, vE_eq, vS_eq, vC_eq, vN_eq, binO_eq, cmpO_eq, itemO_eq, cutO_eq, bltO_eq, rng1O_eq, rngO_eq, rngTO_eq, tupO_eq, lstO_eq, capO_eq, putLO_eq, putDO_eq, popDO_eq, extO_eq, mfnO_eq]
  first | exact evE_dlen | (rw [evE_dlen] <;> first | rfl | (unfold compR; simp only [lstO_eq]; rfl) | (unfold rgvC; rfl))
@[simp] theorem ve_rev {a} : vE G cur (.rev a) env = (vE G cur a env).bq fun x => revD x := by
  simp only [R.bq, Out.oq, R.bdB, R.bdI, R.bdT, Out.sq, Out.ofB, Out.ofT, Out.hd, onT, onE, onN, onL, onI, onIns, exmD, forD, compD, dcompD, rgvO_eq, forcD, eqMv, lenMv, vE_eq, vS_eq, vC_eq, vN_eq, binO_eq, cmpO_eq, itemO_eq, cutO_eq, bltO_eq, rng1O_eq, rngO_eq, rngTO_eq, tupO_eq, lstO_eq, capO_eq, putLO_eq, putDO_eq, popDO_eq, extO_eq, mfnO_eq]
  first | exact evE_rev | (rw [evE_rev] <;> first | rfl | (unfold compR; simp only [lstO_eq]; rfl) | (unfold rgvC; rfl))
@[simp] theorem ve_rgv {a} : vE G cur (.rgv a) env = (vE G cur a env).bdI rgvO := by
  simp only [R.bq, Out.oq, R.bdB, R.bdI, R.bdT, Out.sq, Out.ofB, Out.ofT, Out.hd, onT, onE, onN, onL, onI, onIns, exmD, forD, compD, dcompD, rgvO_eq, forcD, eqMv, lenMv, vE_eq, vS_eq, vC_eq, vN_eq, binO_eq, cmpO_eq, itemO_eq, cutO_eq, bltO_eq, rng1O_eq, rngO_eq, rngTO_eq, tupO_eq, lstO_eq, capO_eq, putLO_eq, putDO_eq, popDO_eq, extO_eq, mfnO_eq]
  first | exact evE_rgv | (rw [evE_rgv] <;> first | rfl | (unfold compR; simp only [lstO_eq]; rfl) | (unfold rgvC; rfl))
@[simp] theorem ve_star {a r} : vE G cur (.star a r) env = (vE G cur a env).bq fun x => (itemsOf x).bq fun xs => (vE G cur r env).bdT fun ys => .ok (.tup (xs ++ ys)) := by
  simp only [R.bq, Out.oq, R.bdB, R.bdI, R.bdT, Out.sq, Out.ofB, Out.ofT, Out.hd, onT, onE, onN, onL, onI, onIns, exmD, forD, compD, dcompD, rgvO_eq, forcD, eqMv, lenMv, vE_eq, vS_eq, vC_eq, vN_eq, binO_eq, cmpO_eq, itemO_eq, cutO_eq, bltO_eq, rng1O_eq, rngO_eq, rngTO_eq, tupO_eq, lstO_eq, capO_eq, putLO_eq, putDO_eq, popDO_eq, extO_eq, mfnO_eq]
  first | exact evE_star | (rw [evE_star] <;> first | rfl | (unfold compR; simp only [lstO_eq]; rfl) | (unfold rgvC; rfl))
@[simp] theorem ve_mfn {k es} : vE G cur (.mfn k es) env = (vE G cur es env).bdT fun ys => mfnO k ys := by
  simp only [R.bq, Out.oq, R.bdB, R.bdI, R.bdT, Out.sq, Out.ofB, Out.ofT, Out.hd, onT, onE, onN, onL, onI, onIns, exmD, forD, compD, dcompD, rgvO_eq, forcD, eqMv, lenMv, vE_eq, vS_eq, vC_eq, vN_eq, binO_eq, cmpO_eq, itemO_eq, cutO_eq, bltO_eq, rng1O_eq, rngO_eq, rngTO_eq, tupO_eq, lstO_eq, capO_eq, putLO_eq, putDO_eq, popDO_eq, extO_eq, mfnO_eq]
  first | exact evE_mfn | (rw [evE_mfn] <;> first | rfl | (unfold compR; simp only [lstO_eq]; rfl) | (unfold rgvC; rfl))
@[simp] theorem ve_dct4 {k1 v1 k2 v2 k3 v3 k4 v4} : vE G cur (.dct4 k1 v1 k2 v2 k3 v3 k4 v4) env = (vE G cur k1 env).bq fun x1 => (vE G cur v1 env).bq fun y1 => (vE G cur k2 env).bq fun x2 => (vE G cur v2 env).bq fun y2 => (vE G cur k3 env).bq fun x3 => (vE G cur v3 env).bq fun y3 => (vE G cur k4 env).bq fun x4 => (vE G cur v4 env).bq fun y4 => dictOf false (.ok [.tup [x1, y1], .tup [x2, y2], .tup [x3, y3], .tup [x4, y4]]) := by
  simp only [R.bq, Out.oq, R.bdB, R.bdI, R.bdT, Out.sq, Out.ofB, Out.ofT, Out.hd, onT, onE, onN, onL, onI, onIns, exmD, forD, compD, dcompD, rgvO_eq, forcD, eqMv, lenMv, vE_eq, vS_eq, vC_eq, vN_eq, binO_eq, cmpO_eq, itemO_eq, cutO_eq, bltO_eq, rng1O_eq, rngO_eq, rngTO_eq, tupO_eq, lstO_eq, capO_eq, putLO_eq, putDO_eq, popDO_eq, extO_eq, mfnO_eq]
  first | exact evE_dct4 | (rw [evE_dct4] <;> first | rfl | (unfold compR; simp only [lstO_eq]; rfl) | (unfold rgvC; rfl))
@[simp] theorem ve_kv {a b} : vE G cur (.kv a b) env = (vE G cur a env).bq fun x => (vE G cur b env).bq fun y => .ok (.lst [.tup [x, y]]) := by
  simp only [R.bq, Out.oq, R.bdB, R.bdI, R.bdT, Out.sq, Out.ofB, Out.ofT, Out.hd, onT, onE, onN, onL, onI, onIns, exmD, forD, compD, dcompD, rgvO_eq, forcD, eqMv, lenMv, vE_eq, vS_eq, vC_eq, vN_eq, binO_eq, cmpO_eq, itemO_eq, cutO_eq, bltO_eq, rng1O_eq, rngO_eq, rngTO_eq, tupO_eq, lstO_eq, capO_eq, putLO_eq, putDO_eq, popDO_eq, extO_eq, mfnO_eq]
  first | exact evE_kv | (rw [evE_kv] <;> first | rfl | (unfold compR; simp only [lstO_eq]; rfl) | (unfold rgvC; rfl))
theorem ve_dcomp {tk own t it b} : vE G cur (.dcomp tk own t it b) env = (vE G cur it env).bq fun s => dcompD tk (fun x => onE (asgU t x (wipeE env own)) fun e => vE G cur b e) s := by
  simp only [R.bq, Out.oq, R.bdB, R.bdI, R.bdT, Out.sq, Out.ofB, Out.ofT, Out.hd, onT, onE, onN, onL, onI, onIns, exmD, forD, compD, dcompD, rgvO_eq, forcD, eqMv, lenMv, vE_eq, vS_eq, vC_eq, vN_eq, binO_eq, cmpO_eq, itemO_eq, cutO_eq, bltO_eq, rng1O_eq, rngO_eq, rngTO_eq, tupO_eq, lstO_eq, capO_eq, putLO_eq, putDO_eq, popDO_eq, extO_eq, mfnO_eq]
  first | exact evE_dcomp | (rw [evE_dcomp] <;> first | rfl | (unfold compR; simp only [lstO_eq]; rfl) | (unfold rgvC; rfl))
theorem ve_comp {own t it b} : vE G cur (.comp own t it b) env = (vE G cur it env).bq fun s => compD (fun x => onE (asgU t x (wipeE env own)) fun e => vE G cur b e) s := by
  simp only [R.bq, Out.oq, R.bdB, R.bdI, R.bdT, Out.sq, Out.ofB, Out.ofT, Out.hd, onT, onE, onN, onL, onI, onIns, exmD, forD, compD, dcompD, rgvO_eq, forcD, eqMv, lenMv, vE_eq, vS_eq, vC_eq, vN_eq, binO_eq, cmpO_eq, itemO_eq, cutO_eq, bltO_eq, rng1O_eq, rngO_eq, rngTO_eq, tupO_eq, lstO_eq, capO_eq, putLO_eq, putDO_eq, popDO_eq, extO_eq, mfnO_eq]
  first | exact evE_comp | (rw [evE_comp] <;> first | rfl | (unfold compR; simp only [lstO_eq]; rfl) | (unfold rgvC; rfl))
theorem ve_forc {t it b} : vE G cur (.forc t it b) env = (vE G cur it env).bq fun s => forcD (fun x => onE (asgU t x env) fun e => vE G cur b e) s := by
  simp only [R.bq, Out.oq, R.bdB, R.bdI, R.bdT, Out.sq, Out.ofB, Out.ofT, Out.hd, onT, onE, onN, onL, onI, onIns, exmD, forD, compD, dcompD, rgvO_eq, forcD, eqMv, lenMv, vE_eq, vS_eq, vC_eq, vN_eq, binO_eq, cmpO_eq, itemO_eq, cutO_eq, bltO_eq, rng1O_eq, rngO_eq, rngTO_eq, tupO_eq, lstO_eq, capO_eq, putLO_eq, putDO_eq, popDO_eq, extO_eq, mfnO_eq]
  first | exact evE_forc | (rw [evE_forc] <;> first | rfl | (unfold compR; simp only [lstO_eq]; rfl) | (unfold rgvC; rfl))
@[simp] theorem ve_var {i} : vE G cur (.var i) env = rdE env[i]? := by
  simp only [R.bq, Out.oq, R.bdB, R.bdI, R.bdT, Out.sq, Out.ofB, Out.ofT, Out.hd, onT, onE, onN, onL, onI, onIns, exmD, forD, compD, dcompD, rgvO_eq, forcD, eqMv, lenMv, vE_eq, vS_eq, vC_eq, vN_eq, binO_eq, cmpO_eq, itemO_eq, cutO_eq, bltO_eq, rng1O_eq, rngO_eq, rngTO_eq, tupO_eq, lstO_eq, capO_eq, putLO_eq, putDO_eq, popDO_eq, extO_eq, mfnO_eq]
  rw [evE_var]
  cases h : env[i]? with
  | none => rfl
  | some d => cases d <;> rfl
@[simp] theorem ve_and {a b} : vE G cur (.and a b) env = (vE G cur a env).bdB fun t => if t then vE G cur b env else .ok (.bl false) := by
  simp only [R.bq, Out.oq, R.bdB, R.bdI, R.bdT, Out.sq, Out.ofB, Out.ofT, Out.hd, onT, onE, onN, onL, onI, onIns, exmD, forD, compD, dcompD, rgvO_eq, forcD, eqMv, lenMv, vE_eq, vS_eq, vC_eq, vN_eq, binO_eq, cmpO_eq, itemO_eq, cutO_eq, bltO_eq, rng1O_eq, rngO_eq, rngTO_eq, tupO_eq, lstO_eq, capO_eq, putLO_eq, putDO_eq, popDO_eq, extO_eq, mfnO_eq]
  rw [evE_and]
  cases evE G cur a env with
  | ok d => cases d with
    | bl t => cases t <;> rfl
    | _ => rfl
  | _ => rfl
@[simp] theorem ve_or {a b} : vE G cur (.or a b) env = (vE G cur a env).bdB fun t => if t then .ok (.bl true) else vE G cur b env := by
  simp only [R.bq, Out.oq, R.bdB, R.bdI, R.bdT, Out.sq, Out.ofB, Out.ofT, Out.hd, onT, onE, onN, onL, onI, onIns, exmD, forD, compD, dcompD, rgvO_eq, forcD, eqMv, lenMv, vE_eq, vS_eq, vC_eq, vN_eq, binO_eq, cmpO_eq, itemO_eq, cutO_eq, bltO_eq, rng1O_eq, rngO_eq, rngTO_eq, tupO_eq, lstO_eq, capO_eq, putLO_eq, putDO_eq, popDO_eq, extO_eq, mfnO_eq]
  rw [evE_or]
  cases evE G cur a env with
  | ok d => cases d with
    | bl t => cases t <;> rfl
    | _ => rfl
  | _ => rfl
@[simp] theorem ve_ife {c a b} : vE G cur (.ife c a b) env = (vE G cur c env).bdB fun t => if t then vE G cur a env else vE G cur b env := by
  simp only [R.bq, Out.oq, R.bdB, R.bdI, R.bdT, Out.sq, Out.ofB, Out.ofT, Out.hd, onT, onE, onN, onL, onI, onIns, exmD, forD, compD, dcompD, rgvO_eq, forcD, eqMv, lenMv, vE_eq, vS_eq, vC_eq, vN_eq, binO_eq, cmpO_eq, itemO_eq, cutO_eq, bltO_eq, rng1O_eq, rngO_eq, rngTO_eq, tupO_eq, lstO_eq, capO_eq, putLO_eq, putDO_eq, popDO_eq, extO_eq, mfnO_eq]
  rw [evE_ife]
  cases evE G cur c env with
  | ok d => cases d with
    | bl t => cases t <;> rfl
    | _ => rfl
  | _ => rfl
def R.ofTr (d : D) (f : Bool → R D) : Dp f (R D) := (truth d).bq f
@[simp] theorem ve_ifc {c b} : vE G cur (.ifc c b) env = (vE G cur c env).bq fun x => (truth x).bq fun t => if t then vE G cur b env else .ok (.lst []) := by
  simp only [R.bq, Out.oq, R.bdB, R.bdI, R.bdT, Out.sq, Out.ofB, Out.ofT, Out.hd, onT, onE, onN, onL, onI, onIns, exmD, forD, compD, dcompD, rgvO_eq, forcD, eqMv, lenMv, vE_eq, vS_eq, vC_eq, vN_eq, binO_eq, cmpO_eq, itemO_eq, cutO_eq, bltO_eq, rng1O_eq, rngO_eq, rngTO_eq, tupO_eq, lstO_eq, capO_eq, putLO_eq, putDO_eq, popDO_eq, extO_eq, mfnO_eq]
  rw [evE_ifc] <;> rfl
@[simp] theorem ve_curf {k} {x : Exn} : vE G (some x) (.curf k) env = rdO ((G.st.xfld x.c k).bind fun k => x.vs[k]?) := by
  simp only [R.bq, Out.oq, R.bdB, R.bdI, R.bdT, Out.sq, Out.ofB, Out.ofT, Out.hd, onT, onE, onN, onL, onI, onIns, exmD, forD, compD, dcompD, rgvO_eq, forcD, eqMv, lenMv, vE_eq, vS_eq, vC_eq, vN_eq, binO_eq, cmpO_eq, itemO_eq, cutO_eq, bltO_eq, rng1O_eq, rngO_eq, rngTO_eq, tupO_eq, lstO_eq, capO_eq, putLO_eq, putDO_eq, popDO_eq, extO_eq, mfnO_eq]
  rw [evE_curf]
  show (match G.st.xfld x.c k with
    | some k => match x.vs[k]? with
      | some d => (R.ok d : R D)
      | none => R.no
    | none => R.no) = _
  cases G.st.xfld x.c k with
  | none => rfl
  | some k =>
    show (match x.vs[k]? with
      | some d => (R.ok d : R D)
      | none => R.no) = rdO (x.vs[k]?)
    cases x.vs[k]? <;> rfl
@[simp] theorem ve_curis {ts} {x : Exn} : vE G (some x) (.curis ts) env = optB (anyIs G.st.exm x.c ts) := by
  simp only [R.bq, Out.oq, R.bdB, R.bdI, R.bdT, Out.sq, Out.ofB, Out.ofT, Out.hd, onT, onE, onN, onL, onI, onIns, exmD, forD, compD, dcompD, rgvO_eq, forcD, eqMv, lenMv, vE_eq, vS_eq, vC_eq, vN_eq, binO_eq, cmpO_eq, itemO_eq, cutO_eq, bltO_eq, rng1O_eq, rngO_eq, rngTO_eq, tupO_eq, lstO_eq, capO_eq, putLO_eq, putDO_eq, popDO_eq, extO_eq, mfnO_eq]
  rw [evE_curis] <;> rfl
/-! statements -/
@[simp] theorem vs_seq {a b} : vS G cur (.seq a b) env = (vS G cur a env).sq fun e => vS G cur b e := by
  simp only [R.bq, Out.oq, R.bdB, R.bdI, R.bdT, Out.sq, Out.ofB, Out.ofT, Out.hd, onT, onE, onN, onL, onI, onIns, exmD, forD, compD, dcompD, rgvO_eq, forcD, eqMv, lenMv, vE_eq, vS_eq, vC_eq, vN_eq, binO_eq, cmpO_eq, itemO_eq, cutO_eq, bltO_eq, rng1O_eq, rngO_eq, rngTO_eq, tupO_eq, lstO_eq, capO_eq, putLO_eq, putDO_eq, popDO_eq, extO_eq, mfnO_eq]
  rw [evS_seq] <;> rfl
@[simp] theorem vs_skip : vS G cur .skip env = .nx env := by rw [vS_eq] <;> rfl
@[simp] theorem vs_asg {i e} : vS G cur (.asg i e) env = Out.oq (vE G cur e env) env fun d => onT (setO env i d) .nx := by
  simp only [R.bq, Out.oq, R.bdB, R.bdI, R.bdT, Out.sq, Out.ofB, Out.ofT, Out.hd, onT, onE, onN, onL, onI, onIns, exmD, forD, compD, dcompD, rgvO_eq, forcD, eqMv, lenMv, vE_eq, vS_eq, vC_eq, vN_eq, binO_eq, cmpO_eq, itemO_eq, cutO_eq, bltO_eq, rng1O_eq, rngO_eq, rngTO_eq, tupO_eq, lstO_eq, capO_eq, putLO_eq, putDO_eq, popDO_eq, extO_eq, mfnO_eq]
  rw [evS_asg]
  refine congrArg (Out.of _ _) (funext fun d => ?_)
  unfold setA setO
  split <;> rfl
@[simp] theorem vs_ife {c a b} : vS G cur (.ife c a b) env = Out.ofT (vE G cur c env) env fun t => if t then vS G cur a env else vS G cur b env := by
  simp only [R.bq, Out.oq, R.bdB, R.bdI, R.bdT, Out.sq, Out.ofB, Out.ofT, Out.hd, onT, onE, onN, onL, onI, onIns, exmD, forD, compD, dcompD, rgvO_eq, forcD, eqMv, lenMv, vE_eq, vS_eq, vC_eq, vN_eq, binO_eq, cmpO_eq, itemO_eq, cutO_eq, bltO_eq, rng1O_eq, rngO_eq, rngTO_eq, tupO_eq, lstO_eq, capO_eq, putLO_eq, putDO_eq, popDO_eq, extO_eq, mfnO_eq]
  rw [evS_ife]
  refine congrArg (Out.of _ _) (funext fun d => ?_)
  cases truth d with
  | ok t => cases t <;> rfl
  | _ => rfl
theorem vs_for {t it b} : vS G cur (.for_ t it b) env = Out.oq (vE G cur it env) env fun s => forD (fun x env => onT (PD.asgT t x env) fun e => vS G cur b e) s env := by
  simp only [R.bq, Out.oq, R.bdB, R.bdI, R.bdT, Out.sq, Out.ofB, Out.ofT, Out.hd, onT, onE, onN, onL, onI, onIns, exmD, forD, compD, dcompD, rgvO_eq, forcD, eqMv, lenMv, vE_eq, vS_eq, vC_eq, vN_eq, binO_eq, cmpO_eq, itemO_eq, cutO_eq, bltO_eq, rng1O_eq, rngO_eq, rngTO_eq, tupO_eq, lstO_eq, capO_eq, putLO_eq, putDO_eq, popDO_eq, extO_eq, mfnO_eq]
  rw [evS_for]
  all_goals (refine congrArg (Out.of _ _) (funext fun s => ?_); cases walkOf s <;> rfl)
@[simp] theorem vs_asgT {t e} : vS G cur (.asgT t e) env = Out.oq (vE G cur e env) env fun d => onT (PD.asgT t d env) .nx := by
  simp only [R.bq, Out.oq, R.bdB, R.bdI, R.bdT, Out.sq, Out.ofB, Out.ofT, Out.hd, onT, onE, onN, onL, onI, onIns, exmD, forD, compD, dcompD, rgvO_eq, forcD, eqMv, lenMv, vE_eq, vS_eq, vC_eq, vN_eq, binO_eq, cmpO_eq, itemO_eq, cutO_eq, bltO_eq, rng1O_eq, rngO_eq, rngTO_eq, tupO_eq, lstO_eq, capO_eq, putLO_eq, putDO_eq, popDO_eq, extO_eq, mfnO_eq]
  rw [evS_asgT] <;> rfl
@[simp] theorem vs_raise {c es} : vS G cur (.raise c es) env = Out.oq (vE G cur es env) env fun y => raiseD (G.st.xlen c) c y env := by
  simp only [R.bq, Out.oq, R.bdB, R.bdI, R.bdT, Out.sq, Out.ofB, Out.ofT, Out.hd, onT, onE, onN, onL, onI, onIns, exmD, forD, compD, dcompD, rgvO_eq, forcD, eqMv, lenMv, vE_eq, vS_eq, vC_eq, vN_eq, binO_eq, cmpO_eq, itemO_eq, cutO_eq, bltO_eq, rng1O_eq, rngO_eq, rngTO_eq, tupO_eq, lstO_eq, capO_eq, putLO_eq, putDO_eq, popDO_eq, extO_eq, mfnO_eq]
  rw [evS_raise] <;> rfl
@[simp] theorem vs_ret {e} : vS G cur (.ret e) env = Out.oq (vE G cur e env) env fun d => .rt d env := by
  simp only [R.bq, Out.oq, R.bdB, R.bdI, R.bdT, Out.sq, Out.ofB, Out.ofT, Out.hd, onT, onE, onN, onL, onI, onIns, exmD, forD, compD, dcompD, rgvO_eq, forcD, eqMv, lenMv, vE_eq, vS_eq, vC_eq, vN_eq, binO_eq, cmpO_eq, itemO_eq, cutO_eq, bltO_eq, rng1O_eq, rngO_eq, rngTO_eq, tupO_eq, lstO_eq, capO_eq, putLO_eq, putDO_eq, popDO_eq, extO_eq, mfnO_eq]
  rw [evS_ret] <;> rfl
@[simp] theorem vs_retN : vS G cur .retN env = .rt .non env := by rw [vS_eq] <;> rfl
@[simp] theorem vs_brk : vS G cur .brk env = .bk env := by rw [vS_eq] <;> rfl
@[simp] theorem vs_cnt : vS G cur .cnt env = .ct env := by rw [vS_eq] <;> rfl
@[simp] theorem vs_pass : vS G cur .pass env = .nx env := by rw [vS_eq] <;> rfl
@[simp] theorem vs_expr {e} : vS G cur (.expr e) env = Out.oq (vE G cur e env) env fun _ => .nx env := by
  simp only [R.bq, Out.oq, R.bdB, R.bdI, R.bdT, Out.sq, Out.ofB, Out.ofT, Out.hd, onT, onE, onN, onL, onI, onIns, exmD, forD, compD, dcompD, rgvO_eq, forcD, eqMv, lenMv, vE_eq, vS_eq, vC_eq, vN_eq, binO_eq, cmpO_eq, itemO_eq, cutO_eq, bltO_eq, rng1O_eq, rngO_eq, rngTO_eq, tupO_eq, lstO_eq, capO_eq, putLO_eq, putDO_eq, popDO_eq, extO_eq, mfnO_eq]
  rw [evS_expr] <;> rfl
@[simp] theorem vs_try {b hs} : vS G cur (.try_ b hs) env = (vS G cur b env).hd fun x e => vS G (some x) hs e := by
  simp only [R.bq, Out.oq, R.bdB, R.bdI, R.bdT, Out.sq, Out.ofB, Out.ofT, Out.hd, onT, onE, onN, onL, onI, onIns, exmD, forD, compD, dcompD, rgvO_eq, forcD, eqMv, lenMv, vE_eq, vS_eq, vC_eq, vN_eq, binO_eq, cmpO_eq, itemO_eq, cutO_eq, bltO_eq, rng1O_eq, rngO_eq, rngTO_eq, tupO_eq, lstO_eq, capO_eq, putLO_eq, putDO_eq, popDO_eq, extO_eq, mfnO_eq]
  rw [evS_try] <;> rfl
@[simp] theorem vs_hnil {x : Exn} : vS G (some x) .hnil env = .ex x env := by
  simp only [R.bq, Out.oq, R.bdB, R.bdI, R.bdT, Out.sq, Out.ofB, Out.ofT, Out.hd, onT, onE, onN, onL, onI, onIns, exmD, forD, compD, dcompD, rgvO_eq, forcD, eqMv, lenMv, vE_eq, vS_eq, vC_eq, vN_eq, binO_eq, cmpO_eq, itemO_eq, cutO_eq, bltO_eq, rng1O_eq, rngO_eq, rngTO_eq, tupO_eq, lstO_eq, capO_eq, putLO_eq, putDO_eq, popDO_eq, extO_eq, mfnO_eq]
  rw [evS_hnil] <;> rfl
@[simp] theorem vs_hcons {c i s rest} {x : Exn} : vS G (some x) (.hcons c i s rest) env = exmD (G.st.exm x.c c) (fun _ => (onT (setO env i .un) fun e => vS G (some x) s e).wipe i) (fun _ => vS G (some x) rest env) := by
  simp only [R.bq, Out.oq, R.bdB, R.bdI, R.bdT, Out.sq, Out.ofB, Out.ofT, Out.hd, onT, onE, onN, onL, onI, onIns, exmD, forD, compD, dcompD, rgvO_eq, forcD, eqMv, lenMv, vE_eq, vS_eq, vC_eq, vN_eq, binO_eq, cmpO_eq, itemO_eq, cutO_eq, bltO_eq, rng1O_eq, rngO_eq, rngTO_eq, tupO_eq, lstO_eq, capO_eq, putLO_eq, putDO_eq, popDO_eq, extO_eq, mfnO_eq]
  rw [evS_hcons]
  show (match G.st.exm x.c c with
      | some true => if i < env.length then (evS G (some x) s (env.set i .un)).wipe i else .no
      | some false => evS G (some x) rest env
      | none => .no) = _
  cases G.st.exm x.c c with
  | none => rfl
  | some t => cases t with
    | false => rfl
    | true =>
      show (if i < env.length then (evS G (some x) s (env.set i .un)).wipe i else .no) = _
      unfold setO
      split <;> rfl
@[simp] theorem vs_asgF {i e} : vS G cur (.asgF i e) env = Out.oq (vE G cur e env) env fun d => lstA env i d := by
  simp only [R.bq, Out.oq, R.bdB, R.bdI, R.bdT, Out.sq, Out.ofB, Out.ofT, Out.hd, onT, onE, onN, onL, onI, onIns, exmD, forD, compD, dcompD, rgvO_eq, forcD, eqMv, lenMv, vE_eq, vS_eq, vC_eq, vN_eq, binO_eq, cmpO_eq, itemO_eq, cutO_eq, bltO_eq, rng1O_eq, rngO_eq, rngTO_eq, tupO_eq, lstO_eq, capO_eq, putLO_eq, putDO_eq, popDO_eq, extO_eq, mfnO_eq]
  rw [evS_asgF]
  refine congrArg (Out.of _ _) (funext fun d => ?_)
  cases d <;> first | rfl | (unfold lstA setA setO; dsimp only; split <;> rfl)
@[simp] theorem vs_app {i e} : vS G cur (.app i e) env = onL env[i]? fun xs => Out.oq (vE G cur e env) env fun d => capO xs.length (.nx (env.set i (.lst (xs ++ [d])))) := by
  simp only [R.bq, Out.oq, R.bdB, R.bdI, R.bdT, Out.sq, Out.ofB, Out.ofT, Out.hd, onT, onE, onN, onL, onI, onIns, exmD, forD, compD, dcompD, rgvO_eq, forcD, eqMv, lenMv, vE_eq, vS_eq, vC_eq, vN_eq, binO_eq, cmpO_eq, itemO_eq, cutO_eq, bltO_eq, rng1O_eq, rngO_eq, rngTO_eq, tupO_eq, lstO_eq, capO_eq, putLO_eq, putDO_eq, popDO_eq, extO_eq, mfnO_eq]
  rw [evS_app]
  all_goals (cases h : env[i]? with
    | none => rfl
    | some d => cases d <;> rfl)
@[simp] theorem vs_popA {i j e} : vS G cur (.popA i j e) env = onL env[i]? fun xs => onL env[j]? fun ys => Out.oq (vE G cur e env) env fun d => popDO env i j xs ys d := by
  simp only [R.bq, Out.oq, R.bdB, R.bdI, R.bdT, Out.sq, Out.ofB, Out.ofT, Out.hd, onT, onE, onN, onL, onI, onIns, exmD, forD, compD, dcompD, rgvO_eq, forcD, eqMv, lenMv, vE_eq, vS_eq, vC_eq, vN_eq, binO_eq, cmpO_eq, itemO_eq, cutO_eq, bltO_eq, rng1O_eq, rngO_eq, rngTO_eq, tupO_eq, lstO_eq, capO_eq, putLO_eq, putDO_eq, popDO_eq, extO_eq, mfnO_eq]
  rw [evS_popA]
  all_goals (cases h : env[i]? with
    | none => rfl
    | some d => cases d <;> first | rfl | (cases h2 : env[j]? with
      | none => rfl
      | some d2 => cases d2 <;> rfl))
@[simp] theorem vs_extL {i e} : vS G cur (.extL i e) env = onL env[i]? fun xs => Out.oq (vE G cur e env) env fun d => onL (some d) fun ys => extO (xs.length + ys.length) (.nx (env.set i (.lst (xs ++ ys)))) := by
  simp only [R.bq, Out.oq, R.bdB, R.bdI, R.bdT, Out.sq, Out.ofB, Out.ofT, Out.hd, onT, onE, onN, onL, onI, onIns, exmD, forD, compD, dcompD, rgvO_eq, forcD, eqMv, lenMv, vE_eq, vS_eq, vC_eq, vN_eq, binO_eq, cmpO_eq, itemO_eq, cutO_eq, bltO_eq, rng1O_eq, rngO_eq, rngTO_eq, tupO_eq, lstO_eq, capO_eq, putLO_eq, putDO_eq, popDO_eq, extO_eq, mfnO_eq]
  rw [evS_extL]
  all_goals (cases h : env[i]? with
    | none => rfl
    | some d => cases d <;> first | rfl | (refine congrArg (Out.of _ _) (funext fun d => ?_); cases d <;> rfl))
@[simp] theorem vs_revL {i} : vS G cur (.revL i) env = onL env[i]? fun xs => .nx (env.set i (.lst xs.reverse)) := by
  simp only [R.bq, Out.oq, R.bdB, R.bdI, R.bdT, Out.sq, Out.ofB, Out.ofT, Out.hd, onT, onE, onN, onL, onI, onIns, exmD, forD, compD, dcompD, rgvO_eq, forcD, eqMv, lenMv, vE_eq, vS_eq, vC_eq, vN_eq, binO_eq, cmpO_eq, itemO_eq, cutO_eq, bltO_eq, rng1O_eq, rngO_eq, rngTO_eq, tupO_eq, lstO_eq, capO_eq, putLO_eq, putDO_eq, popDO_eq, extO_eq, mfnO_eq]
  rw [evS_revL]
  all_goals (cases h : env[i]? with
    | none => rfl
    | some d => cases d <;> rfl)
@[simp] theorem vs_frz {i b} : vS G cur (.frz i b) env = onI env[i]? (fun _ => vS G cur b env) := by
  simp only [R.bq, Out.oq, R.bdB, R.bdI, R.bdT, Out.sq, Out.ofB, Out.ofT, Out.hd, onT, onE, onN, onL, onI, onIns, exmD, forD, compD, dcompD, rgvO_eq, forcD, eqMv, lenMv, vE_eq, vS_eq, vC_eq, vN_eq, binO_eq, cmpO_eq, itemO_eq, cutO_eq, bltO_eq, rng1O_eq, rngO_eq, rngTO_eq, tupO_eq, lstO_eq, capO_eq, putLO_eq, putDO_eq, popDO_eq, extO_eq, mfnO_eq]
  rw [evS_frz]
  all_goals (cases h : env[i]? with
    | none => rfl
    | some d => cases d <;> rfl)
@[simp] theorem vs_newT {i} : vS G cur (.newT i) env = onT (setO env i (.dic [] [])) .nx := by
  simp only [R.bq, Out.oq, R.bdB, R.bdI, R.bdT, Out.sq, Out.ofB, Out.ofT, Out.hd, onT, onE, onN, onL, onI, onIns, exmD, forD, compD, dcompD, rgvO_eq, forcD, eqMv, lenMv, vE_eq, vS_eq, vC_eq, vN_eq, binO_eq, cmpO_eq, itemO_eq, cutO_eq, bltO_eq, rng1O_eq, rngO_eq, rngTO_eq, tupO_eq, lstO_eq, capO_eq, putLO_eq, putDO_eq, popDO_eq, extO_eq, mfnO_eq]
  rw [evS_newT]
  unfold setA setO
  split <;> rfl
def fldA (o : Option Nat) (vs : List D) (k : List D → Out) (d : D) : Out := if o = some vs.length ∧ vs.length < 500 then k (vs ++ [d]) else .no
@[simp ↓] theorem onIns_ins (c vs f) : onIns (some (.ins c vs)) f = f c vs := eqt rfl
@[simp] theorem vs_setF {i k e} : vS G cur (.setF i k e) env = Out.oq (vE G cur e env) env fun d => onIns env[i]? fun c vs => if G.st.fld c k = some vs.length ∧ vs.length < 500 then .nx (env.set i (.ins c (vs ++ [d]))) else .no := by
  simp only [R.bq, Out.oq, R.bdB, R.bdI, R.bdT, Out.sq, Out.ofB, Out.ofT, Out.hd, onT, onE, onN, onL, onI, onIns, exmD, forD, compD, dcompD, rgvO_eq, forcD, eqMv, lenMv, vE_eq, vS_eq, vC_eq, vN_eq, binO_eq, cmpO_eq, itemO_eq, cutO_eq, bltO_eq, rng1O_eq, rngO_eq, rngTO_eq, tupO_eq, lstO_eq, capO_eq, putLO_eq, putDO_eq, popDO_eq, extO_eq, mfnO_eq]
  rw [evS_setF]
  refine congrArg (Out.of _ _) (funext fun d => ?_)
  unfold putA
  cases h : env[i]? with
  | none => rfl
  | some d => cases d <;> rfl
@[simp] theorem vs_setL {i k e} : vS G cur (.setL i k e) env = Out.oq (vE G cur e env) env fun d => Out.oq (vE G cur k env) env fun kd => putLO env i kd d := by
  simp only [R.bq, Out.oq, R.bdB, R.bdI, R.bdT, Out.sq, Out.ofB, Out.ofT, Out.hd, onT, onE, onN, onL, onI, onIns, exmD, forD, compD, dcompD, rgvO_eq, forcD, eqMv, lenMv, vE_eq, vS_eq, vC_eq, vN_eq, binO_eq, cmpO_eq, itemO_eq, cutO_eq, bltO_eq, rng1O_eq, rngO_eq, rngTO_eq, tupO_eq, lstO_eq, capO_eq, putLO_eq, putDO_eq, popDO_eq, extO_eq, mfnO_eq]
  rw [evS_setL] <;> rfl
@[simp] theorem vs_setK {i k e} : vS G cur (.setK i k e) env = Out.oq (vE G cur e env) env fun d => Out.oq (vE G cur k env) env fun y => putDO env i y d := by
  simp only [R.bq, Out.oq, R.bdB, R.bdI, R.bdT, Out.sq, Out.ofB, Out.ofT, Out.hd, onT, onE, onN, onL, onI, onIns, exmD, forD, compD, dcompD, rgvO_eq, forcD, eqMv, lenMv, vE_eq, vS_eq, vC_eq, vN_eq, binO_eq, cmpO_eq, itemO_eq, cutO_eq, bltO_eq, rng1O_eq, rngO_eq, rngTO_eq, tupO_eq, lstO_eq, capO_eq, putLO_eq, putDO_eq, popDO_eq, extO_eq, mfnO_eq]
  rw [evS_setK] <;> rfl
end
/-! ### slots -/
@[simp] theorem asV_nm (i d env) : PD.asgT (.nm i) d env = setO env i d := eqt rfl
@[simp] theorem asV_nil (env) : PD.asgT .nil (.tup []) env = some env := eqt rfl
def obnd {α β : Type} (o : Option α) (f : α → Option β) : Dp f (Option β) := match o with
  | some e => f e
  | none => none
@[simp ↓] theorem obnd_some {α β : Type} (e : α) (f : α → Option β) : obnd (some e) f = f e := eqt rfl
@[simp] theorem asV_consL (a r d ds env) : PD.asgT (.cons a r) (.lst (d :: ds)) env = obnd (PD.asgT a d env) fun e => PD.asgT r (.tup ds) e := by
  rw [PD.asgT]
  cases PD.asgT a d env <;> rfl
@[simp] theorem asV_cons (a r d ds env) : PD.asgT (.cons a r) (.tup (d :: ds)) env = obnd (PD.asgT a d env) fun e => PD.asgT r (.tup ds) e := by
  rw [PD.asgT]
  cases PD.asgT a d env <;> rfl
@[simp] theorem asgU_nm (i d env) : PD.asgU (.nm i) d env = unSet env[i]? (env.set i d) := by
  rw [PD.asgU]
  cases h : env[i]? with
  | none => rfl
  | some d => cases d <;> rfl
@[simp] theorem asgU_nil (env) : PD.asgU .nil (.tup []) env = some env := eqt rfl
@[simp] theorem asgU_cons (a r d ds env) : PD.asgU (.cons a r) (.tup (d :: ds)) env = obnd (PD.asgU a d env) fun e => PD.asgU r (.tup ds) e := by
  rw [PD.asgU]
  cases PD.asgU a d env <;> rfl
@[simp] theorem wipeE_nil (env) : wipeE env [] = env := eqt rfl
@[simp] theorem wipeE_cons (env i r) : wipeE env (i :: r) = (wipeE env r).set i .un := eqt rfl
@[simp] theorem gt0 (a0 : D) (r : List D) : (a0::r)[0]? = some a0 := eqt rfl
@[simp] theorem st0 (a0 d : D) (r : List D) : (a0::r).set 0 d = d::r := eqt rfl
@[simp] theorem so0 (a0 d : D) (r : List D) : setO (a0::r) 0 d = some (d::r) := if_pos (by simp only [List.length_cons]; omega)
@[simp] theorem gt1 (a0 a1 : D) (r : List D) : (a0::a1::r)[1]? = some a1 := eqt rfl
@[simp] theorem st1 (a0 a1 d : D) (r : List D) : (a0::a1::r).set 1 d = a0::d::r := eqt rfl
@[simp] theorem so1 (a0 a1 d : D) (r : List D) : setO (a0::a1::r) 1 d = some (a0::d::r) := if_pos (by simp only [List.length_cons]; omega)
@[simp] theorem gt2 (a0 a1 a2 : D) (r : List D) : (a0::a1::a2::r)[2]? = some a2 := eqt rfl
@[simp] theorem st2 (a0 a1 a2 d : D) (r : List D) : (a0::a1::a2::r).set 2 d = a0::a1::d::r := eqt rfl
@[simp] theorem so2 (a0 a1 a2 d : D) (r : List D) : setO (a0::a1::a2::r) 2 d = some (a0::a1::d::r) := if_pos (by simp only [List.length_cons]; omega)
@[simp] theorem gt3 (a0 a1 a2 a3 : D) (r : List D) : (a0::a1::a2::a3::r)[3]? = some a3 := eqt rfl
@[simp] theorem st3 (a0 a1 a2 a3 d : D) (r : List D) : (a0::a1::a2::a3::r).set 3 d = a0::a1::a2::d::r := eqt rfl
@[simp] theorem so3 (a0 a1 a2 a3 d : D) (r : List D) : setO (a0::a1::a2::a3::r) 3 d = some (a0::a1::a2::d::r) := if_pos (by simp only [List.length_cons]; omega)
@[simp] theorem gt4 (a0 a1 a2 a3 a4 : D) (r : List D) : (a0::a1::a2::a3::a4::r)[4]? = some a4 := eqt rfl
@[simp] theorem st4 (a0 a1 a2 a3 a4 d : D) (r : List D) : (a0::a1::a2::a3::a4::r).set 4 d = a0::a1::a2::a3::d::r := eqt rfl
@[simp] theorem so4 (a0 a1 a2 a3 a4 d : D) (r : List D) : setO (a0::a1::a2::a3::a4::r) 4 d = some (a0::a1::a2::a3::d::r) := if_pos (by simp only [List.length_cons]; omega)
@[simp] theorem gt5 (a0 a1 a2 a3 a4 a5 : D) (r : List D) : (a0::a1::a2::a3::a4::a5::r)[5]? = some a5 := eqt rfl
@[simp] theorem st5 (a0 a1 a2 a3 a4 a5 d : D) (r : List D) : (a0::a1::a2::a3::a4::a5::r).set 5 d = a0::a1::a2::a3::a4::d::r := eqt rfl
@[simp] theorem so5 (a0 a1 a2 a3 a4 a5 d : D) (r : List D) : setO (a0::a1::a2::a3::a4::a5::r) 5 d = some (a0::a1::a2::a3::a4::d::r) := if_pos (by simp only [List.length_cons]; omega)
@[simp] theorem gt6 (a0 a1 a2 a3 a4 a5 a6 : D) (r : List D) : (a0::a1::a2::a3::a4::a5::a6::r)[6]? = some a6 := eqt rfl
@[simp] theorem st6 (a0 a1 a2 a3 a4 a5 a6 d : D) (r : List D) : (a0::a1::a2::a3::a4::a5::a6::r).set 6 d = a0::a1::a2::a3::a4::a5::d::r := eqt rfl
@[simp] theorem so6 (a0 a1 a2 a3 a4 a5 a6 d : D) (r : List D) : setO (a0::a1::a2::a3::a4::a5::a6::r) 6 d = some (a0::a1::a2::a3::a4::a5::d::r) := if_pos (by simp only [List.length_cons]; omega)
@[simp] theorem gt7 (a0 a1 a2 a3 a4 a5 a6 a7 : D) (r : List D) : (a0::a1::a2::a3::a4::a5::a6::a7::r)[7]? = some a7 := eqt rfl
@[simp] theorem st7 (a0 a1 a2 a3 a4 a5 a6 a7 d : D) (r : List D) : (a0::a1::a2::a3::a4::a5::a6::a7::r).set 7 d = a0::a1::a2::a3::a4::a5::a6::d::r := eqt rfl
@[simp] theorem so7 (a0 a1 a2 a3 a4 a5 a6 a7 d : D) (r : List D) : setO (a0::a1::a2::a3::a4::a5::a6::a7::r) 7 d = some (a0::a1::a2::a3::a4::a5::a6::d::r) := if_pos (by simp only [List.length_cons]; omega)
@[simp] theorem gt8 (a0 a1 a2 a3 a4 a5 a6 a7 a8 : D) (r : List D) : (a0::a1::a2::a3::a4::a5::a6::a7::a8::r)[8]? = some a8 := eqt rfl
@[simp] theorem st8 (a0 a1 a2 a3 a4 a5 a6 a7 a8 d : D) (r : List D) : (a0::a1::a2::a3::a4::a5::a6::a7::a8::r).set 8 d = a0::a1::a2::a3::a4::a5::a6::a7::d::r := eqt rfl
@[simp] theorem so8 (a0 a1 a2 a3 a4 a5 a6 a7 a8 d : D) (r : List D) : setO (a0::a1::a2::a3::a4::a5::a6::a7::a8::r) 8 d = some (a0::a1::a2::a3::a4::a5::a6::a7::d::r) := if_pos (by simp only [List.length_cons]; omega)
@[simp] theorem gt9 (a0 a1 a2 a3 a4 a5 a6 a7 a8 a9 : D) (r : List D) : (a0::a1::a2::a3::a4::a5::a6::a7::a8::a9::r)[9]? = some a9 := eqt rfl
@[simp] theorem st9 (a0 a1 a2 a3 a4 a5 a6 a7 a8 a9 d : D) (r : List D) : (a0::a1::a2::a3::a4::a5::a6::a7::a8::a9::r).set 9 d = a0::a1::a2::a3::a4::a5::a6::a7::a8::d::r := eqt rfl
@[simp] theorem so9 (a0 a1 a2 a3 a4 a5 a6 a7 a8 a9 d : D) (r : List D) : setO (a0::a1::a2::a3::a4::a5::a6::a7::a8::a9::r) 9 d = some (a0::a1::a2::a3::a4::a5::a6::a7::a8::d::r) := if_pos (by simp only [List.length_cons]; omega)
@[simp] theorem gt10 (a0 a1 a2 a3 a4 a5 a6 a7 a8 a9 a10 : D) (r : List D) : (a0::a1::a2::a3::a4::a5::a6::a7::a8::a9::a10::r)[10]? = some a10 := eqt rfl
@[simp] theorem st10 (a0 a1 a2 a3 a4 a5 a6 a7 a8 a9 a10 d : D) (r : List D) : (a0::a1::a2::a3::a4::a5::a6::a7::a8::a9::a10::r).set 10 d = a0::a1::a2::a3::a4::a5::a6::a7::a8::a9::d::r := eqt rfl
@[simp] theorem so10 (a0 a1 a2 a3 a4 a5 a6 a7 a8 a9 a10 d : D) (r : List D) : setO (a0::a1::a2::a3::a4::a5::a6::a7::a8::a9::a10::r) 10 d = some (a0::a1::a2::a3::a4::a5::a6::a7::a8::a9::d::r) := if_pos (by simp only [List.length_cons]; omega)
@[simp] theorem gt11 (a0 a1 a2 a3 a4 a5 a6 a7 a8 a9 a10 a11 : D) (r : List D) : (a0::a1::a2::a3::a4::a5::a6::a7::a8::a9::a10::a11::r)[11]? = some a11 := eqt rfl
@[simp] theorem st11 (a0 a1 a2 a3 a4 a5 a6 a7 a8 a9 a10 a11 d : D) (r : List D) : (a0::a1::a2::a3::a4::a5::a6::a7::a8::a9::a10::a11::r).set 11 d = a0::a1::a2::a3::a4::a5::a6::a7::a8::a9::a10::d::r := eqt rfl
@[simp] theorem so11 (a0 a1 a2 a3 a4 a5 a6 a7 a8 a9 a10 a11 d : D) (r : List D) : setO (a0::a1::a2::a3::a4::a5::a6::a7::a8::a9::a10::a11::r) 11 d = some (a0::a1::a2::a3::a4::a5::a6::a7::a8::a9::a10::d::r) := if_pos (by simp only [List.length_cons]; omega)
@[simp] theorem gt12 (a0 a1 a2 a3 a4 a5 a6 a7 a8 a9 a10 a11 a12 : D) (r : List D) : (a0::a1::a2::a3::a4::a5::a6::a7::a8::a9::a10::a11::a12::r)[12]? = some a12 := eqt rfl
@[simp] theorem st12 (a0 a1 a2 a3 a4 a5 a6 a7 a8 a9 a10 a11 a12 d : D) (r : List D) : (a0::a1::a2::a3::a4::a5::a6::a7::a8::a9::a10::a11::a12::r).set 12 d = a0::a1::a2::a3::a4::a5::a6::a7::a8::a9::a10::a11::d::r := eqt rfl
@[simp] theorem so12 (a0 a1 a2 a3 a4 a5 a6 a7 a8 a9 a10 a11 a12 d : D) (r : List D) : setO (a0::a1::a2::a3::a4::a5::a6::a7::a8::a9::a10::a11::a12::r) 12 d = some (a0::a1::a2::a3::a4::a5::a6::a7::a8::a9::a10::a11::d::r) := if_pos (by simp only [List.length_cons]; omega)
@[simp] theorem gt13 (a0 a1 a2 a3 a4 a5 a6 a7 a8 a9 a10 a11 a12 a13 : D) (r : List D) : (a0::a1::a2::a3::a4::a5::a6::a7::a8::a9::a10::a11::a12::a13::r)[13]? = some a13 := eqt rfl
@[simp] theorem st13 (a0 a1 a2 a3 a4 a5 a6 a7 a8 a9 a10 a11 a12 a13 d : D) (r : List D) : (a0::a1::a2::a3::a4::a5::a6::a7::a8::a9::a10::a11::a12::a13::r).set 13 d = a0::a1::a2::a3::a4::a5::a6::a7::a8::a9::a10::a11::a12::d::r := eqt rfl
@[simp] theorem so13 (a0 a1 a2 a3 a4 a5 a6 a7 a8 a9 a10 a11 a12 a13 d : D) (r : List D) : setO (a0::a1::a2::a3::a4::a5::a6::a7::a8::a9::a10::a11::a12::a13::r) 13 d = some (a0::a1::a2::a3::a4::a5::a6::a7::a8::a9::a10::a11::a12::d::r) := if_pos (by simp only [List.length_cons]; omega)
@[simp] theorem gt14 (a0 a1 a2 a3 a4 a5 a6 a7 a8 a9 a10 a11 a12 a13 a14 : D) (r : List D) : (a0::a1::a2::a3::a4::a5::a6::a7::a8::a9::a10::a11::a12::a13::a14::r)[14]? = some a14 := eqt rfl
@[simp] theorem st14 (a0 a1 a2 a3 a4 a5 a6 a7 a8 a9 a10 a11 a12 a13 a14 d : D) (r : List D) : (a0::a1::a2::a3::a4::a5::a6::a7::a8::a9::a10::a11::a12::a13::a14::r).set 14 d = a0::a1::a2::a3::a4::a5::a6::a7::a8::a9::a10::a11::a12::a13::d::r := eqt rfl
@[simp] theorem so14 (a0 a1 a2 a3 a4 a5 a6 a7 a8 a9 a10 a11 a12 a13 a14 d : D) (r : List D) : setO (a0::a1::a2::a3::a4::a5::a6::a7::a8::a9::a10::a11::a12::a13::a14::r) 14 d = some (a0::a1::a2::a3::a4::a5::a6::a7::a8::a9::a10::a11::a12::a13::d::r) := if_pos (by simp only [List.length_cons]; omega)
@[simp] theorem gt15 (a0 a1 a2 a3 a4 a5 a6 a7 a8 a9 a10 a11 a12 a13 a14 a15 : D) (r : List D) : (a0::a1::a2::a3::a4::a5::a6::a7::a8::a9::a10::a11::a12::a13::a14::a15::r)[15]? = some a15 := eqt rfl
@[simp] theorem st15 (a0 a1 a2 a3 a4 a5 a6 a7 a8 a9 a10 a11 a12 a13 a14 a15 d : D) (r : List D) : (a0::a1::a2::a3::a4::a5::a6::a7::a8::a9::a10::a11::a12::a13::a14::a15::r).set 15 d = a0::a1::a2::a3::a4::a5::a6::a7::a8::a9::a10::a11::a12::a13::a14::d::r := eqt rfl
@[simp] theorem so15 (a0 a1 a2 a3 a4 a5 a6 a7 a8 a9 a10 a11 a12 a13 a14 a15 d : D) (r : List D) : setO (a0::a1::a2::a3::a4::a5::a6::a7::a8::a9::a10::a11::a12::a13::a14::a15::r) 15 d = some (a0::a1::a2::a3::a4::a5::a6::a7::a8::a9::a10::a11::a12::a13::a14::d::r) := if_pos (by simp only [List.length_cons]; omega)
@[simp] theorem gt16 (a0 a1 a2 a3 a4 a5 a6 a7 a8 a9 a10 a11 a12 a13 a14 a15 a16 : D) (r : List D) : (a0::a1::a2::a3::a4::a5::a6::a7::a8::a9::a10::a11::a12::a13::a14::a15::a16::r)[16]? = some a16 := eqt rfl
@[simp] theorem st16 (a0 a1 a2 a3 a4 a5 a6 a7 a8 a9 a10 a11 a12 a13 a14 a15 a16 d : D) (r : List D) : (a0::a1::a2::a3::a4::a5::a6::a7::a8::a9::a10::a11::a12::a13::a14::a15::a16::r).set 16 d = a0::a1::a2::a3::a4::a5::a6::a7::a8::a9::a10::a11::a12::a13::a14::a15::d::r := eqt rfl
@[simp] theorem so16 (a0 a1 a2 a3 a4 a5 a6 a7 a8 a9 a10 a11 a12 a13 a14 a15 a16 d : D) (r : List D) : setO (a0::a1::a2::a3::a4::a5::a6::a7::a8::a9::a10::a11::a12::a13::a14::a15::a16::r) 16 d = some (a0::a1::a2::a3::a4::a5::a6::a7::a8::a9::a10::a11::a12::a13::a14::a15::d::r) := if_pos (by simp only [List.length_cons]; omega)
@[simp] theorem gt17 (a0 a1 a2 a3 a4 a5 a6 a7 a8 a9 a10 a11 a12 a13 a14 a15 a16 a17 : D) (r : List D) : (a0::a1::a2::a3::a4::a5::a6::a7::a8::a9::a10::a11::a12::a13::a14::a15::a16::a17::r)[17]? = some a17 := eqt rfl
@[simp] theorem st17 (a0 a1 a2 a3 a4 a5 a6 a7 a8 a9 a10 a11 a12 a13 a14 a15 a16 a17 d : D) (r : List D) : (a0::a1::a2::a3::a4::a5::a6::a7::a8::a9::a10::a11::a12::a13::a14::a15::a16::a17::r).set 17 d = a0::a1::a2::a3::a4::a5::a6::a7::a8::a9::a10::a11::a12::a13::a14::a15::a16::d::r := eqt rfl
@[simp] theorem so17 (a0 a1 a2 a3 a4 a5 a6 a7 a8 a9 a10 a11 a12 a13 a14 a15 a16 a17 d : D) (r : List D) : setO (a0::a1::a2::a3::a4::a5::a6::a7::a8::a9::a10::a11::a12::a13::a14::a15::a16::a17::r) 17 d = some (a0::a1::a2::a3::a4::a5::a6::a7::a8::a9::a10::a11::a12::a13::a14::a15::a16::d::r) := if_pos (by simp only [List.length_cons]; omega)
@[simp] theorem gt18 (a0 a1 a2 a3 a4 a5 a6 a7 a8 a9 a10 a11 a12 a13 a14 a15 a16 a17 a18 : D) (r : List D) : (a0::a1::a2::a3::a4::a5::a6::a7::a8::a9::a10::a11::a12::a13::a14::a15::a16::a17::a18::r)[18]? = some a18 := eqt rfl
@[simp] theorem st18 (a0 a1 a2 a3 a4 a5 a6 a7 a8 a9 a10 a11 a12 a13 a14 a15 a16 a17 a18 d : D) (r : List D) : (a0::a1::a2::a3::a4::a5::a6::a7::a8::a9::a10::a11::a12::a13::a14::a15::a16::a17::a18::r).set 18 d = a0::a1::a2::a3::a4::a5::a6::a7::a8::a9::a10::a11::a12::a13::a14::a15::a16::a17::d::r := eqt rfl
@[simp] theorem so18 (a0 a1 a2 a3 a4 a5 a6 a7 a8 a9 a10 a11 a12 a13 a14 a15 a16 a17 a18 d : D) (r : List D) : setO (a0::a1::a2::a3::a4::a5::a6::a7::a8::a9::a10::a11::a12::a13::a14::a15::a16::a17::a18::r) 18 d = some (a0::a1::a2::a3::a4::a5::a6::a7::a8::a9::a10::a11::a12::a13::a14::a15::a16::a17::d::r) := if_pos (by simp only [List.length_cons]; omega)
@[simp] theorem gt19 (a0 a1 a2 a3 a4 a5 a6 a7 a8 a9 a10 a11 a12 a13 a14 a15 a16 a17 a18 a19 : D) (r : List D) : (a0::a1::a2::a3::a4::a5::a6::a7::a8::a9::a10::a11::a12::a13::a14::a15::a16::a17::a18::a19::r)[19]? = some a19 := eqt rfl
@[simp] theorem st19 (a0 a1 a2 a3 a4 a5 a6 a7 a8 a9 a10 a11 a12 a13 a14 a15 a16 a17 a18 a19 d : D) (r : List D) : (a0::a1::a2::a3::a4::a5::a6::a7::a8::a9::a10::a11::a12::a13::a14::a15::a16::a17::a18::a19::r).set 19 d = a0::a1::a2::a3::a4::a5::a6::a7::a8::a9::a10::a11::a12::a13::a14::a15::a16::a17::a18::d::r := eqt rfl
@[simp] theorem so19 (a0 a1 a2 a3 a4 a5 a6 a7 a8 a9 a10 a11 a12 a13 a14 a15 a16 a17 a18 a19 d : D) (r : List D) : setO (a0::a1::a2::a3::a4::a5::a6::a7::a8::a9::a10::a11::a12::a13::a14::a15::a16::a17::a18::a19::r) 19 d = some (a0::a1::a2::a3::a4::a5::a6::a7::a8::a9::a10::a11::a12::a13::a14::a15::a16::a17::a18::d::r) := if_pos (by simp only [List.length_cons]; omega)
@[simp] theorem gt20 (a0 a1 a2 a3 a4 a5 a6 a7 a8 a9 a10 a11 a12 a13 a14 a15 a16 a17 a18 a19 a20 : D) (r : List D) : (a0::a1::a2::a3::a4::a5::a6::a7::a8::a9::a10::a11::a12::a13::a14::a15::a16::a17::a18::a19::a20::r)[20]? = some a20 := eqt rfl
@[simp] theorem st20 (a0 a1 a2 a3 a4 a5 a6 a7 a8 a9 a10 a11 a12 a13 a14 a15 a16 a17 a18 a19 a20 d : D) (r : List D) : (a0::a1::a2::a3::a4::a5::a6::a7::a8::a9::a10::a11::a12::a13::a14::a15::a16::a17::a18::a19::a20::r).set 20 d = a0::a1::a2::a3::a4::a5::a6::a7::a8::a9::a10::a11::a12::a13::a14::a15::a16::a17::a18::a19::d::r := eqt rfl
@[simp] theorem so20 (a0 a1 a2 a3 a4 a5 a6 a7 a8 a9 a10 a11 a12 a13 a14 a15 a16 a17 a18 a19 a20 d : D) (r : List D) : setO (a0::a1::a2::a3::a4::a5::a6::a7::a8::a9::a10::a11::a12::a13::a14::a15::a16::a17::a18::a19::a20::r) 20 d = some (a0::a1::a2::a3::a4::a5::a6::a7::a8::a9::a10::a11::a12::a13::a14::a15::a16::a17::a18::a19::d::r) := if_pos (by simp only [List.length_cons]; omega)
@[simp] theorem gt21 (a0 a1 a2 a3 a4 a5 a6 a7 a8 a9 a10 a11 a12 a13 a14 a15 a16 a17 a18 a19 a20 a21 : D) (r : List D) : (a0::a1::a2::a3::a4::a5::a6::a7::a8::a9::a10::a11::a12::a13::a14::a15::a16::a17::a18::a19::a20::a21::r)[21]? = some a21 := eqt rfl
@[simp] theorem st21 (a0 a1 a2 a3 a4 a5 a6 a7 a8 a9 a10 a11 a12 a13 a14 a15 a16 a17 a18 a19 a20 a21 d : D) (r : List D) : (a0::a1::a2::a3::a4::a5::a6::a7::a8::a9::a10::a11::a12::a13::a14::a15::a16::a17::a18::a19::a20::a21::r).set 21 d = a0::a1::a2::a3::a4::a5::a6::a7::a8::a9::a10::a11::a12::a13::a14::a15::a16::a17::a18::a19::a20::d::r := eqt rfl
@[simp] theorem so21 (a0 a1 a2 a3 a4 a5 a6 a7 a8 a9 a10 a11 a12 a13 a14 a15 a16 a17 a18 a19 a20 a21 d : D) (r : List D) : setO (a0::a1::a2::a3::a4::a5::a6::a7::a8::a9::a10::a11::a12::a13::a14::a15::a16::a17::a18::a19::a20::a21::r) 21 d = some (a0::a1::a2::a3::a4::a5::a6::a7::a8::a9::a10::a11::a12::a13::a14::a15::a16::a17::a18::a19::a20::d::r) := if_pos (by simp only [List.length_cons]; omega)
@[simp] theorem gt22 (a0 a1 a2 a3 a4 a5 a6 a7 a8 a9 a10 a11 a12 a13 a14 a15 a16 a17 a18 a19 a20 a21 a22 : D) (r : List D) : (a0::a1::a2::a3::a4::a5::a6::a7::a8::a9::a10::a11::a12::a13::a14::a15::a16::a17::a18::a19::a20::a21::a22::r)[22]? = some a22 := eqt rfl
@[simp] theorem st22 (a0 a1 a2 a3 a4 a5 a6 a7 a8 a9 a10 a11 a12 a13 a14 a15 a16 a17 a18 a19 a20 a21 a22 d : D) (r : List D) : (a0::a1::a2::a3::a4::a5::a6::a7::a8::a9::a10::a11::a12::a13::a14::a15::a16::a17::a18::a19::a20::a21::a22::r).set 22 d = a0::a1::a2::a3::a4::a5::a6::a7::a8::a9::a10::a11::a12::a13::a14::a15::a16::a17::a18::a19::a20::a21::d::r := eqt rfl
@[simp] theorem so22 (a0 a1 a2 a3 a4 a5 a6 a7 a8 a9 a10 a11 a12 a13 a14 a15 a16 a17 a18 a19 a20 a21 a22 d : D) (r : List D) : setO (a0::a1::a2::a3::a4::a5::a6::a7::a8::a9::a10::a11::a12::a13::a14::a15::a16::a17::a18::a19::a20::a21::a22::r) 22 d = some (a0::a1::a2::a3::a4::a5::a6::a7::a8::a9::a10::a11::a12::a13::a14::a15::a16::a17::a18::a19::a20::a21::d::r) := if_pos (by simp only [List.length_cons]; omega)
@[simp] theorem gt23 (a0 a1 a2 a3 a4 a5 a6 a7 a8 a9 a10 a11 a12 a13 a14 a15 a16 a17 a18 a19 a20 a21 a22 a23 : D) (r : List D) : (a0::a1::a2::a3::a4::a5::a6::a7::a8::a9::a10::a11::a12::a13::a14::a15::a16::a17::a18::a19::a20::a21::a22::a23::r)[23]? = some a23 := eqt rfl
@[simp] theorem st23 (a0 a1 a2 a3 a4 a5 a6 a7 a8 a9 a10 a11 a12 a13 a14 a15 a16 a17 a18 a19 a20 a21 a22 a23 d : D) (r : List D) : (a0::a1::a2::a3::a4::a5::a6::a7::a8::a9::a10::a11::a12::a13::a14::a15::a16::a17::a18::a19::a20::a21::a22::a23::r).set 23 d = a0::a1::a2::a3::a4::a5::a6::a7::a8::a9::a10::a11::a12::a13::a14::a15::a16::a17::a18::a19::a20::a21::a22::d::r := eqt rfl
@[simp] theorem so23 (a0 a1 a2 a3 a4 a5 a6 a7 a8 a9 a10 a11 a12 a13 a14 a15 a16 a17 a18 a19 a20 a21 a22 a23 d : D) (r : List D) : setO (a0::a1::a2::a3::a4::a5::a6::a7::a8::a9::a10::a11::a12::a13::a14::a15::a16::a17::a18::a19::a20::a21::a22::a23::r) 23 d = some (a0::a1::a2::a3::a4::a5::a6::a7::a8::a9::a10::a11::a12::a13::a14::a15::a16::a17::a18::a19::a20::a21::a22::d::r) := if_pos (by simp only [List.length_cons]; omega)
@[simp] theorem gt24 (a0 a1 a2 a3 a4 a5 a6 a7 a8 a9 a10 a11 a12 a13 a14 a15 a16 a17 a18 a19 a20 a21 a22 a23 a24 : D) (r : List D) : (a0::a1::a2::a3::a4::a5::a6::a7::a8::a9::a10::a11::a12::a13::a14::a15::a16::a17::a18::a19::a20::a21::a22::a23::a24::r)[24]? = some a24 := eqt rfl
@[simp] theorem st24 (a0 a1 a2 a3 a4 a5 a6 a7 a8 a9 a10 a11 a12 a13 a14 a15 a16 a17 a18 a19 a20 a21 a22 a23 a24 d : D) (r : List D) : (a0::a1::a2::a3::a4::a5::a6::a7::a8::a9::a10::a11::a12::a13::a14::a15::a16::a17::a18::a19::a20::a21::a22::a23::a24::r).set 24 d = a0::a1::a2::a3::a4::a5::a6::a7::a8::a9::a10::a11::a12::a13::a14::a15::a16::a17::a18::a19::a20::a21::a22::a23::d::r := eqt rfl
@[simp] theorem so24 (a0 a1 a2 a3 a4 a5 a6 a7 a8 a9 a10 a11 a12 a13 a14 a15 a16 a17 a18 a19 a20 a21 a22 a23 a24 d : D) (r : List D) : setO (a0::a1::a2::a3::a4::a5::a6::a7::a8::a9::a10::a11::a12::a13::a14::a15::a16::a17::a18::a19::a20::a21::a22::a23::a24::r) 24 d = some (a0::a1::a2::a3::a4::a5::a6::a7::a8::a9::a10::a11::a12::a13::a14::a15::a16::a17::a18::a19::a20::a21::a22::a23::d::r) := if_pos (by simp only [List.length_cons]; omega)
@[simp] theorem gt25 (a0 a1 a2 a3 a4 a5 a6 a7 a8 a9 a10 a11 a12 a13 a14 a15 a16 a17 a18 a19 a20 a21 a22 a23 a24 a25 : D) (r : List D) : (a0::a1::a2::a3::a4::a5::a6::a7::a8::a9::a10::a11::a12::a13::a14::a15::a16::a17::a18::a19::a20::a21::a22::a23::a24::a25::r)[25]? = some a25 := eqt rfl
@[simp] theorem st25 (a0 a1 a2 a3 a4 a5 a6 a7 a8 a9 a10 a11 a12 a13 a14 a15 a16 a17 a18 a19 a20 a21 a22 a23 a24 a25 d : D) (r : List D) : (a0::a1::a2::a3::a4::a5::a6::a7::a8::a9::a10::a11::a12::a13::a14::a15::a16::a17::a18::a19::a20::a21::a22::a23::a24::a25::r).set 25 d = a0::a1::a2::a3::a4::a5::a6::a7::a8::a9::a10::a11::a12::a13::a14::a15::a16::a17::a18::a19::a20::a21::a22::a23::a24::d::r := eqt rfl
@[simp] theorem so25 (a0 a1 a2 a3 a4 a5 a6 a7 a8 a9 a10 a11 a12 a13 a14 a15 a16 a17 a18 a19 a20 a21 a22 a23 a24 a25 d : D) (r : List D) : setO (a0::a1::a2::a3::a4::a5::a6::a7::a8::a9::a10::a11::a12::a13::a14::a15::a16::a17::a18::a19::a20::a21::a22::a23::a24::a25::r) 25 d = some (a0::a1::a2::a3::a4::a5::a6::a7::a8::a9::a10::a11::a12::a13::a14::a15::a16::a17::a18::a19::a20::a21::a22::a23::a24::d::r) := if_pos (by simp only [List.length_cons]; omega)
@[simp] theorem gt26 (a0 a1 a2 a3 a4 a5 a6 a7 a8 a9 a10 a11 a12 a13 a14 a15 a16 a17 a18 a19 a20 a21 a22 a23 a24 a25 a26 : D) (r : List D) : (a0::a1::a2::a3::a4::a5::a6::a7::a8::a9::a10::a11::a12::a13::a14::a15::a16::a17::a18::a19::a20::a21::a22::a23::a24::a25::a26::r)[26]? = some a26 := eqt rfl
@[simp] theorem st26 (a0 a1 a2 a3 a4 a5 a6 a7 a8 a9 a10 a11 a12 a13 a14 a15 a16 a17 a18 a19 a20 a21 a22 a23 a24 a25 a26 d : D) (r : List D) : (a0::a1::a2::a3::a4::a5::a6::a7::a8::a9::a10::a11::a12::a13::a14::a15::a16::a17::a18::a19::a20::a21::a22::a23::a24::a25::a26::r).set 26 d = a0::a1::a2::a3::a4::a5::a6::a7::a8::a9::a10::a11::a12::a13::a14::a15::a16::a17::a18::a19::a20::a21::a22::a23::a24::a25::d::r := eqt rfl
@[simp] theorem so26 (a0 a1 a2 a3 a4 a5 a6 a7 a8 a9 a10 a11 a12 a13 a14 a15 a16 a17 a18 a19 a20 a21 a22 a23 a24 a25 a26 d : D) (r : List D) : setO (a0::a1::a2::a3::a4::a5::a6::a7::a8::a9::a10::a11::a12::a13::a14::a15::a16::a17::a18::a19::a20::a21::a22::a23::a24::a25::a26::r) 26 d = some (a0::a1::a2::a3::a4::a5::a6::a7::a8::a9::a10::a11::a12::a13::a14::a15::a16::a17::a18::a19::a20::a21::a22::a23::a24::a25::d::r) := if_pos (by simp only [List.length_cons]; omega)
@[simp] theorem gt27 (a0 a1 a2 a3 a4 a5 a6 a7 a8 a9 a10 a11 a12 a13 a14 a15 a16 a17 a18 a19 a20 a21 a22 a23 a24 a25 a26 a27 : D) (r : List D) : (a0::a1::a2::a3::a4::a5::a6::a7::a8::a9::a10::a11::a12::a13::a14::a15::a16::a17::a18::a19::a20::a21::a22::a23::a24::a25::a26::a27::r)[27]? = some a27 := eqt rfl
@[simp] theorem st27 (a0 a1 a2 a3 a4 a5 a6 a7 a8 a9 a10 a11 a12 a13 a14 a15 a16 a17 a18 a19 a20 a21 a22 a23 a24 a25 a26 a27 d : D) (r : List D) : (a0::a1::a2::a3::a4::a5::a6::a7::a8::a9::a10::a11::a12::a13::a14::a15::a16::a17::a18::a19::a20::a21::a22::a23::a24::a25::a26::a27::r).set 27 d = a0::a1::a2::a3::a4::a5::a6::a7::a8::a9::a10::a11::a12::a13::a14::a15::a16::a17::a18::a19::a20::a21::a22::a23::a24::a25::a26::d::r := eqt rfl
@[simp] theorem so27 (a0 a1 a2 a3 a4 a5 a6 a7 a8 a9 a10 a11 a12 a13 a14 a15 a16 a17 a18 a19 a20 a21 a22 a23 a24 a25 a26 a27 d : D) (r : List D) : setO (a0::a1::a2::a3::a4::a5::a6::a7::a8::a9::a10::a11::a12::a13::a14::a15::a16::a17::a18::a19::a20::a21::a22::a23::a24::a25::a26::a27::r) 27 d = some (a0::a1::a2::a3::a4::a5::a6::a7::a8::a9::a10::a11::a12::a13::a14::a15::a16::a17::a18::a19::a20::a21::a22::a23::a24::a25::a26::d::r) := if_pos (by simp only [List.length_cons]; omega)
@[simp] theorem gt28 (a0 a1 a2 a3 a4 a5 a6 a7 a8 a9 a10 a11 a12 a13 a14 a15 a16 a17 a18 a19 a20 a21 a22 a23 a24 a25 a26 a27 a28 : D) (r : List D) : (a0::a1::a2::a3::a4::a5::a6::a7::a8::a9::a10::a11::a12::a13::a14::a15::a16::a17::a18::a19::a20::a21::a22::a23::a24::a25::a26::a27::a28::r)[28]? = some a28 := eqt rfl
@[simp] theorem st28 (a0 a1 a2 a3 a4 a5 a6 a7 a8 a9 a10 a11 a12 a13 a14 a15 a16 a17 a18 a19 a20 a21 a22 a23 a24 a25 a26 a27 a28 d : D) (r : List D) : (a0::a1::a2::a3::a4::a5::a6::a7::a8::a9::a10::a11::a12::a13::a14::a15::a16::a17::a18::a19::a20::a21::a22::a23::a24::a25::a26::a27::a28::r).set 28 d = a0::a1::a2::a3::a4::a5::a6::a7::a8::a9::a10::a11::a12::a13::a14::a15::a16::a17::a18::a19::a20::a21::a22::a23::a24::a25::a26::a27::d::r := eqt rfl
@[simp] theorem so28 (a0 a1 a2 a3 a4 a5 a6 a7 a8 a9 a10 a11 a12 a13 a14 a15 a16 a17 a18 a19 a20 a21 a22 a23 a24 a25 a26 a27 a28 d : D) (r : List D) : setO (a0::a1::a2::a3::a4::a5::a6::a7::a8::a9::a10::a11::a12::a13::a14::a15::a16::a17::a18::a19::a20::a21::a22::a23::a24::a25::a26::a27::a28::r) 28 d = some (a0::a1::a2::a3::a4::a5::a6::a7::a8::a9::a10::a11::a12::a13::a14::a15::a16::a17::a18::a19::a20::a21::a22::a23::a24::a25::a26::a27::d::r) := if_pos (by simp only [List.length_cons]; omega)
@[simp] theorem gt29 (a0 a1 a2 a3 a4 a5 a6 a7 a8 a9 a10 a11 a12 a13 a14 a15 a16 a17 a18 a19 a20 a21 a22 a23 a24 a25 a26 a27 a28 a29 : D) (r : List D) : (a0::a1::a2::a3::a4::a5::a6::a7::a8::a9::a10::a11::a12::a13::a14::a15::a16::a17::a18::a19::a20::a21::a22::a23::a24::a25::a26::a27::a28::a29::r)[29]? = some a29 := eqt rfl
@[simp] theorem st29 (a0 a1 a2 a3 a4 a5 a6 a7 a8 a9 a10 a11 a12 a13 a14 a15 a16 a17 a18 a19 a20 a21 a22 a23 a24 a25 a26 a27 a28 a29 d : D) (r : List D) : (a0::a1::a2::a3::a4::a5::a6::a7::a8::a9::a10::a11::a12::a13::a14::a15::a16::a17::a18::a19::a20::a21::a22::a23::a24::a25::a26::a27::a28::a29::r).set 29 d = a0::a1::a2::a3::a4::a5::a6::a7::a8::a9::a10::a11::a12::a13::a14::a15::a16::a17::a18::a19::a20::a21::a22::a23::a24::a25::a26::a27::a28::d::r := eqt rfl
@[simp] theorem so29 (a0 a1 a2 a3 a4 a5 a6 a7 a8 a9 a10 a11 a12 a13 a14 a15 a16 a17 a18 a19 a20 a21 a22 a23 a24 a25 a26 a27 a28 a29 d : D) (r : List D) : setO (a0::a1::a2::a3::a4::a5::a6::a7::a8::a9::a10::a11::a12::a13::a14::a15::a16::a17::a18::a19::a20::a21::a22::a23::a24::a25::a26::a27::a28::a29::r) 29 d = some (a0::a1::a2::a3::a4::a5::a6::a7::a8::a9::a10::a11::a12::a13::a14::a15::a16::a17::a18::a19::a20::a21::a22::a23::a24::a25::a26::a27::a28::d::r) := if_pos (by simp only [List.length_cons]; omega)
@[simp] theorem gt30 (a0 a1 a2 a3 a4 a5 a6 a7 a8 a9 a10 a11 a12 a13 a14 a15 a16 a17 a18 a19 a20 a21 a22 a23 a24 a25 a26 a27 a28 a29 a30 : D) (r : List D) : (a0::a1::a2::a3::a4::a5::a6::a7::a8::a9::a10::a11::a12::a13::a14::a15::a16::a17::a18::a19::a20::a21::a22::a23::a24::a25::a26::a27::a28::a29::a30::r)[30]? = some a30 := eqt rfl
@[simp] theorem st30 (a0 a1 a2 a3 a4 a5 a6 a7 a8 a9 a10 a11 a12 a13 a14 a15 a16 a17 a18 a19 a20 a21 a22 a23 a24 a25 a26 a27 a28 a29 a30 d : D) (r : List D) : (a0::a1::a2::a3::a4::a5::a6::a7::a8::a9::a10::a11::a12::a13::a14::a15::a16::a17::a18::a19::a20::a21::a22::a23::a24::a25::a26::a27::a28::a29::a30::r).set 30 d = a0::a1::a2::a3::a4::a5::a6::a7::a8::a9::a10::a11::a12::a13::a14::a15::a16::a17::a18::a19::a20::a21::a22::a23::a24::a25::a26::a27::a28::a29::d::r := eqt rfl
@[simp] theorem so30 (a0 a1 a2 a3 a4 a5 a6 a7 a8 a9 a10 a11 a12 a13 a14 a15 a16 a17 a18 a19 a20 a21 a22 a23 a24 a25 a26 a27 a28 a29 a30 d : D) (r : List D) : setO (a0::a1::a2::a3::a4::a5::a6::a7::a8::a9::a10::a11::a12::a13::a14::a15::a16::a17::a18::a19::a20::a21::a22::a23::a24::a25::a26::a27::a28::a29::a30::r) 30 d = some (a0::a1::a2::a3::a4::a5::a6::a7::a8::a9::a10::a11::a12::a13::a14::a15::a16::a17::a18::a19::a20::a21::a22::a23::a24::a25::a26::a27::a28::a29::d::r) := if_pos (by simp only [List.length_cons]; omega)
@[simp] theorem gt31 (a0 a1 a2 a3 a4 a5 a6 a7 a8 a9 a10 a11 a12 a13 a14 a15 a16 a17 a18 a19 a20 a21 a22 a23 a24 a25 a26 a27 a28 a29 a30 a31 : D) (r : List D) : (a0::a1::a2::a3::a4::a5::a6::a7::a8::a9::a10::a11::a12::a13::a14::a15::a16::a17::a18::a19::a20::a21::a22::a23::a24::a25::a26::a27::a28::a29::a30::a31::r)[31]? = some a31 := eqt rfl
@[simp] theorem st31 (a0 a1 a2 a3 a4 a5 a6 a7 a8 a9 a10 a11 a12 a13 a14 a15 a16 a17 a18 a19 a20 a21 a22 a23 a24 a25 a26 a27 a28 a29 a30 a31 d : D) (r : List D) : (a0::a1::a2::a3::a4::a5::a6::a7::a8::a9::a10::a11::a12::a13::a14::a15::a16::a17::a18::a19::a20::a21::a22::a23::a24::a25::a26::a27::a28::a29::a30::a31::r).set 31 d = a0::a1::a2::a3::a4::a5::a6::a7::a8::a9::a10::a11::a12::a13::a14::a15::a16::a17::a18::a19::a20::a21::a22::a23::a24::a25::a26::a27::a28::a29::a30::d::r := eqt rfl
@[simp] theorem so31 (a0 a1 a2 a3 a4 a5 a6 a7 a8 a9 a10 a11 a12 a13 a14 a15 a16 a17 a18 a19 a20 a21 a22 a23 a24 a25 a26 a27 a28 a29 a30 a31 d : D) (r : List D) : setO (a0::a1::a2::a3::a4::a5::a6::a7::a8::a9::a10::a11::a12::a13::a14::a15::a16::a17::a18::a19::a20::a21::a22::a23::a24::a25::a26::a27::a28::a29::a30::a31::r) 31 d = some (a0::a1::a2::a3::a4::a5::a6::a7::a8::a9::a10::a11::a12::a13::a14::a15::a16::a17::a18::a19::a20::a21::a22::a23::a24::a25::a26::a27::a28::a29::a30::d::r) := if_pos (by simp only [List.length_cons]; omega)
/-! ### operations -/
@[simp] theorem bin_add (a b) : binO .Add (.int a) (.int b) = .ok (.int (a + b)) := by simp only [binO_eq, cmpO_eq, bltO_eq, eqO_eq, inO_eq] <;> rfl
@[simp] theorem bin_sub (a b) : binO .Sub (.int a) (.int b) = .ok (.int (a - b)) := by simp only [binO_eq, cmpO_eq, bltO_eq, eqO_eq, inO_eq] <;> rfl
/-- a factor's bound -/
structure Sm (i : Int) : Prop where
  lo : -(10 ^ 100) ≤ i
  hi : i ≤ 10 ^ 100
theorem Sm.small {i : Int} (h : Sm i) : small i = true := small_of h.lo h.hi
@[simp] theorem bin_mul {a b} (h : Sm a) (h2 : Sm b) : binO .Mult (.int a) (.int b) = .ok (.int (a * b)) := by
  rw [binO_eq]
  replace h := h.small
  replace h2 := h2.small
  show (if small a && small b then _ else _) = _
  rw [h, h2] <;> rfl
@[simp] theorem bin_mod {a b : Int} (h : 0 < b) : binO .Mod (.int a) (.int b) = .ok (.int (a % b)) := by rw [binO_eq]; exact if_pos h
@[simp] theorem bin_fdv {a b : Int} (h : 0 < b) (h2 : Sm b) : binO .FloorDiv (.int a) (.int b) = .ok (.int (a / b)) := by
  rw [binO_eq]
  replace h2 := h2.small
  show (if decide (0 < b) && small b then _ else _) = _
  rw [decide_eq_true h, h2] <;> rfl
@[simp] theorem bin_shl {a b : Int} (h : 0 ≤ b) (h2 : b ≤ 1000) (h3 : a.natAbs < 2 ^ 64) : binO .LShift (.int a) (.int b) = .ok (.int (a * 2 ^ b.toNat)) := by
  rw [binO_eq]
  show (if decide (0 ≤ b) && decide (b ≤ 1000) && decide (a.natAbs < 2 ^ 64) then _ else _) = _
  rw [decide_eq_true h, decide_eq_true h2, decide_eq_true h3] <;> rfl
@[simp] theorem bin_shr {a b : Int} (h : 0 ≤ b) : binO .RShift (.int a) (.int b) = .ok (.int (a / 2 ^ b.toNat)) := by rw [binO_eq]; exact if_pos h
@[simp] theorem bin_band {a b : Int} (h : 0 ≤ a) (h2 : 0 ≤ b) : binO .BitAnd (.int a) (.int b) = .ok (.int ((a.toNat &&& b.toNat : Nat) : Int)) := by
  rw [binO_eq]
  show (if decide (0 ≤ a) && decide (0 ≤ b) then _ else _) = _
  rw [decide_eq_true h, decide_eq_true h2] <;> rfl
@[simp] theorem mfn_comb {a b : Int} (h : 0 ≤ a) (h2 : a ≤ 1000) (h3 : 0 ≤ b) (h4 : b ≤ 1000) : mfnO 0 [.int a, .int b] = .ok (.int (PySem.W.mcComb a b)) := by
  rw [mfnO_eq]
  show (if decide (0 ≤ a) && decide (a ≤ 1000) && decide (0 ≤ b) && decide (b ≤ 1000) then _ else _) = _
  rw [decide_eq_true h, decide_eq_true h2, decide_eq_true h3, decide_eq_true h4] <;> rfl
@[simp] theorem mfn_gcd {k} {a b : Int} : mfnO (k + 1) [.int a, .int b] = .ok (.int ((Nat.gcd a.natAbs b.natAbs : Nat) : Int)) := by rw [mfnO_eq] <;> rfl
theorem ints_map : ∀ (is : List Int), intsOf (is.map D.int) = some is
  | [] => rfl
  | i :: is => by
    show (match intsOf (is.map D.int) with
      | some is => some (i :: is)
      | none => none) = _
    rw [ints_map is] <;> rfl
@[simp] theorem blt_sortT (is : List Int) (h : is.length < 64) : bltO .sorted [.tup (is.map D.int)] = .ok (.lst ((isort is).map D.int)) := by
  rw [bltO_eq]
  show (match intsOf (is.map D.int) with
    | some is => if is.length < 64 then (R.ok (.lst ((isort is).map .int)) : R D) else .no
    | none => .no) = _
  rw [ints_map]
  exact if_pos h
@[simp] theorem blt_sortL (is : List Int) (h : is.length < 64) : bltO .sorted [.lst (is.map D.int)] = .ok (.lst ((isort is).map D.int)) := by
  rw [bltO_eq]
  show (match intsOf (is.map D.int) with
    | some is => if is.length < 64 then (R.ok (.lst ((isort is).map .int)) : R D) else .no
    | none => .no) = _
  rw [ints_map]
  exact if_pos h
@[simp] theorem ext_of {n : Nat} {o : Out} (h : n ≤ 100000) : extO n o = o := by rw [extO_eq]; exact if_pos h
theorem pop_of {env : Env} {i j : Nat} {xs ys : List D} {k : Int} {y : D} (h0 : 0 ≤ k) (h1 : xs.length < 100000) (h2 : ys.length ≤ 100000) (h3 : i ≠ j) (h4 : ys[k.toNat]? = some y) : popDO env i j xs ys (.int k) = .nx ((env.set j (.lst (ys.eraseIdx k.toNat))).set i (.lst (xs ++ [y]))) := by
  rw [popDO_eq]
  have hk : k < ys.length := by
    have := (List.getElem?_eq_some_iff.mp h4).1
    omega
  show (if decide (0 ≤ k) && decide (k < ys.length) && decide (xs.length < maxLen) && decide (i ≠ j) && decide (ys.length ≤ maxLen) then (match ys[k.toNat]? with
    | some y => Out.nx ((env.set j (.lst (ys.eraseIdx k.toNat))).set i (.lst (xs ++ [y])))
    | none => .no) else .no) = _
  rw [h4, decide_eq_true h0, decide_eq_true hk, decide_eq_true h3, decide_eq_true (show xs.length < maxLen from h1), decide_eq_true (show ys.length ≤ maxLen from h2)]
  rfl
@[simp] theorem bin_pow {a b : Int} (h : 0 ≤ b) (h2 : b ≤ 1000000) (h3 : a.natAbs < 2 ^ 64) : binO .Pow (.int a) (.int b) = .ok (.int (a ^ b.toNat)) := by
  rw [binO_eq]
  show (if decide (0 ≤ b) && decide (b ≤ 1000000) && decide (a.natAbs < 2 ^ 64) then _ else _) = _
  rw [decide_eq_true h, decide_eq_true h2, decide_eq_true h3] <;> rfl
@[simp] theorem bin_cat {a b : List D} (h : a.length + b.length ≤ 100000) : binO .Add (.tup a) (.tup b) = .ok (.tup (a ++ b)) := by rw [binO_eq]; exact if_pos h
@[simp] theorem bin_catL {a b : List D} (h : a.length + b.length ≤ 100000) : binO .Add (.lst a) (.lst b) = .ok (.lst (a ++ b)) := by rw [binO_eq]; exact if_pos h
@[simp] theorem bin_rep {a : List D} {k : Int} (h : -1000 ≤ k) (h2 : k ≤ 1000) (h3 : a.length ≤ 100) : binO .Mult (.lst a) (.int k) = .ok (.lst (List.replicate k.toNat a).flatten) := by
  rw [binO_eq]
  show (if (small62 k && decide (k.toNat ≤ maxLen)) && decide (a.length * k.toNat ≤ maxLen) then _ else _) = _
  have h4 : a.length * k.toNat ≤ 100 * 1000 := Nat.mul_le_mul h3 (by omega)
  refine if_pos ?_
  unfold small62 maxLen
  simp
  omega
@[simp] theorem cmp_isb (a b : Bool) : cmpO .Is (.bl a) (.bl b) = .ok (.bl (decide (a = b))) := by simp only [binO_eq, cmpO_eq, bltO_eq, eqO_eq, inO_eq] <;> rfl
@[simp] theorem blO_bl (t) : blO (.bl t) = .ok (.bl t) := eqt rfl
@[simp] theorem szO_int {i : Int} (h : 0 ≤ i) (h2 : i ≤ 100000) : szO (.int i) = .ok (.int i) := by
  unfold szO small62
  refine if_pos ?_
  simp
  omega
@[simp] theorem revD_lst (xs) : revD (.lst xs) = .ok (.lst xs.reverse) := eqt rfl
@[simp] theorem eqMv_ins {G : Ctx} (m c vs ws) : eqMv G m (.ins c vs) (.ins c ws) = onN (G.st.meth c m) fun g => (vC G g [.ins c vs, .ins c ws]).bq fun d => blO d := if_pos rfl
@[simp] theorem lenMv_ins {G : Ctx} (m x) : lenMv G m x = onN (methOf G.st x m) fun g => (vC G g [x]).bq fun d => szO d := eqt rfl
theorem intsOf_map (l : List Int) : intsOf (l.map D.int) = some l := by
  induction l with
  | nil => rfl
  | cons a l ih =>
    show (match intsOf (l.map D.int) with
      | some is => some (a :: is)
      | none => none) = _
    rw [ih]
theorem blt_max {l : List Int} {m : Int} (h : l.max? = some m) : bltO .max [.lst (l.map D.int)] = .ok (.int m) := by
  rw [bltO_eq]
  show (match (intsOf (l.map D.int)).bind List.max? with
    | some i => (R.ok (.int i) : R D)
    | none => .no) = _
  rw [intsOf_map, Option.bind_some, h]
theorem blt_min {l : List Int} {m : Int} (h : l.min? = some m) : bltO .min [.lst (l.map D.int)] = .ok (.int m) := by
  rw [bltO_eq]
  show (match (intsOf (l.map D.int)).bind List.min? with
    | some i => (R.ok (.int i) : R D)
    | none => .no) = _
  rw [intsOf_map, Option.bind_some, h]
@[simp] theorem blt_sum (l : List Int) : bltO .sum [.lst (l.map D.int)] = .ok (.int l.sum) := by
  rw [bltO_eq]
  show (match intsOf (l.map D.int) with
    | some i => (R.ok (.int i.sum) : R D)
    | none => .no) = _
  rw [intsOf_map]
theorem small_le {i : Int} (h1 : -(10 ^ 100) ≤ i) (h2 : i ≤ 10 ^ 100) : Sm i := ⟨h1, h2⟩
@[simp] theorem small_nat {i : Int} (h1 : -(10 ^ 60) ≤ i) (h2 : i ≤ 10 ^ 60) : Sm i := ⟨by omega, by omega⟩
@[simp] theorem cmp_lt (a b) : cmpO .Lt (.int a) (.int b) = .ok (.bl (decide (a < b))) := by simp only [binO_eq, cmpO_eq, bltO_eq, eqO_eq, inO_eq] <;> rfl
@[simp] theorem cmp_le (a b) : cmpO .LtE (.int a) (.int b) = .ok (.bl (decide (a ≤ b))) := by simp only [binO_eq, cmpO_eq, bltO_eq, eqO_eq, inO_eq] <;> rfl
@[simp] theorem cmp_gt (a b) : cmpO .Gt (.int a) (.int b) = .ok (.bl (decide (b < a))) := by simp only [binO_eq, cmpO_eq, bltO_eq, eqO_eq, inO_eq] <;> rfl
@[simp] theorem cmp_ge (a b) : cmpO .GtE (.int a) (.int b) = .ok (.bl (decide (b ≤ a))) := by simp only [binO_eq, cmpO_eq, bltO_eq, eqO_eq, inO_eq] <;> rfl
@[simp] theorem cmp_eq (a b) : cmpO .Eq a b = (eqO a b).bq fun t => .ok (.bl t) := by simp only [binO_eq, cmpO_eq, bltO_eq, eqO_eq, inO_eq] <;> rfl
@[simp] theorem cmp_ne (a b) : cmpO .NotEq a b = (eqO a b).bq fun t => .ok (.bl !t) := by simp only [binO_eq, cmpO_eq, bltO_eq, eqO_eq, inO_eq] <;> rfl
@[simp] theorem cmp_in (a b) : cmpO .In a b = (inO a b).bq fun t => .ok (.bl t) := by simp only [binO_eq, cmpO_eq, bltO_eq, eqO_eq, inO_eq] <;> rfl
@[simp] theorem cmp_nin (a b) : cmpO .NotIn a b = (inO a b).bq fun t => .ok (.bl !t) := by simp only [binO_eq, cmpO_eq, bltO_eq, eqO_eq, inO_eq] <;> rfl
@[simp] theorem cmp_is (a) : cmpO .Is a .non = .ok (.bl a.isNon) := by simp only [binO_eq, cmpO_eq, bltO_eq, eqO_eq, inO_eq] <;> rfl
@[simp] theorem cmp_isn (a) : cmpO .IsNot a .non = .ok (.bl !a.isNon) := by simp only [binO_eq, cmpO_eq, bltO_eq, eqO_eq, inO_eq] <;> rfl
@[simp] theorem truth_bl (b) : truth (.bl b) = .ok b := eqt rfl
@[simp] theorem truth_int (i : Int) : truth (.int i) = .ok (i != 0) := eqt rfl
@[simp] theorem blt_len_lst (xs) : bltO .len [.lst xs] = .ok (.int xs.length) := by simp only [binO_eq, cmpO_eq, bltO_eq, eqO_eq, inO_eq] <;> rfl
@[simp] theorem blt_len_tup (xs) : bltO .len [.tup xs] = .ok (.int xs.length) := by simp only [binO_eq, cmpO_eq, bltO_eq, eqO_eq, inO_eq] <;> rfl
@[simp] theorem blt_abs (i : Int) : bltO .abs [.int i] = .ok (.int (if i < 0 then -i else i)) := by simp only [binO_eq, cmpO_eq, bltO_eq, eqO_eq, inO_eq] <;> rfl
@[simp] theorem blt_int (i : Int) : bltO .int [.int i] = .ok (.int i) := by simp only [binO_eq, cmpO_eq, bltO_eq, eqO_eq, inO_eq] <;> rfl
@[simp] theorem blt_intb (b : Bool) : bltO .int [.bl b] = .ok (.int (if b then 1 else 0)) := by simp only [binO_eq, cmpO_eq, bltO_eq, eqO_eq, inO_eq] <;> rfl
@[simp] theorem blt_tup_t (xs) : bltO .tuple [.tup xs] = .ok (.tup xs) := by simp only [binO_eq, cmpO_eq, bltO_eq, eqO_eq, inO_eq] <;> rfl
@[simp] theorem blt_tup_l (xs) : bltO .tuple [.lst xs] = .ok (.tup xs) := by simp only [binO_eq, cmpO_eq, bltO_eq, eqO_eq, inO_eq] <;> rfl
@[simp] theorem blt_lst_t (xs) : bltO .list [.tup xs] = .ok (.lst xs) := by simp only [binO_eq, cmpO_eq, bltO_eq, eqO_eq, inO_eq] <;> rfl
@[simp] theorem blt_lst_l (xs) : bltO .list [.lst xs] = .ok (.lst xs) := by simp only [binO_eq, cmpO_eq, bltO_eq, eqO_eq, inO_eq] <;> rfl
@[simp] theorem ty_int (i) : tyOf (.int i) = 0 := eqt rfl
@[simp] theorem ty_bl (i) : tyOf (.bl i) = 1 := eqt rfl
@[simp] theorem ty_tup (i) : tyOf (.tup i) = 2 := eqt rfl
@[simp] theorem ty_lst (i) : tyOf (.lst i) = 3 := eqt rfl
@[simp] theorem ty_str (i) : tyOf (.str i) = 4 := eqt rfl
@[simp] theorem ty_non : tyOf .non = 5 := eqt rfl
@[simp] theorem ty_ins (c v) : tyOf (.ins c v) = 10 + c := eqt rfl
@[simp] theorem methOf_ins (S c v m) : methOf S (.ins c v) m = S.meth c m := eqt rfl
@[simp] theorem getF_ins {S : Stat} {c v f k} (h : S.fld c f = some k) : getF S (.ins c v) f = rdO v[k]? := by
  show (match S.fld c f with
    | some k => match v[k]? with
      | some d => (R.ok d : R D)
      | none => R.no
    | none => R.no) = _
  rw [h]
  show (match v[k]? with
      | some d => (R.ok d : R D)
      | none => R.no) = rdO (v[k]?)
  cases v[k]? <;> rfl
@[simp] theorem getC_ins {S : Stat} {c v f k} (h : S.con c f = some k) : getC S (.ins c v) f = .ok (.int k) := by
  show (match S.con c f with
    | some i => (R.ok (.int i) : R D)
    | none => R.no) = _
  rw [h]
theorem ixN_of {n : Nat} {i : Int} (h : 0 ≤ i) (h2 : i < n) : ixN n i = some i.toNat := by
  unfold ixN
  rw [if_pos h, if_pos h2]
theorem item_lst {xs : List D} {i : Int} {d : D} (h : 0 ≤ i) (h3 : xs[i.toNat]? = some d) : itemO (.lst xs) (.int i) = .ok d := by
  rw [itemO_eq]
  show (match (ixN xs.length i).bind fun j => xs[j]? with
    | some d => R.ok d
    | none => .no) = _
  rw [ixN_of h (by have := (List.getElem?_eq_some_iff.mp h3).1; omega)]
  show (match xs[i.toNat]? with
    | some d => R.ok d
    | none => .no) = _
  rw [h3]
theorem item_tup {xs : List D} {i : Int} {d : D} (h : 0 ≤ i) (h3 : xs[i.toNat]? = some d) : itemO (.tup xs) (.int i) = .ok d := by
  have q := item_lst (xs := xs) h h3
  rw [itemO_eq] at q ⊢
  exact q
theorem item_map {α : Type} {xs : List α} {f : α → D} {i : Int} {a : α} (h : 0 ≤ i) (h3 : xs[i.toNat]? = some a) : itemO (.lst (xs.map f)) (.int i) = .ok (f a) := item_lst h (by rw [List.getElem?_map, h3]; rfl)
theorem item_mapt {α : Type} {xs : List α} {f : α → D} {i : Int} {a : α} (h : 0 ≤ i) (h3 : xs[i.toNat]? = some a) : itemO (.tup (xs.map f)) (.int i) = .ok (f a) := item_tup h (by rw [List.getElem?_map, h3]; rfl)

@[simp] theorem it0 (a0 : D) (r : List D) : itemO (.tup (a0::r)) (.int 0) = .ok a0 := item_tup (by decide) rfl
@[simp] theorem il0 (a0 : D) (r : List D) : itemO (.lst (a0::r)) (.int 0) = .ok a0 := item_lst (by decide) rfl
@[simp] theorem it1 (a0 a1 : D) (r : List D) : itemO (.tup (a0::a1::r)) (.int 1) = .ok a1 := item_tup (by decide) rfl
@[simp] theorem il1 (a0 a1 : D) (r : List D) : itemO (.lst (a0::a1::r)) (.int 1) = .ok a1 := item_lst (by decide) rfl
@[simp] theorem it2 (a0 a1 a2 : D) (r : List D) : itemO (.tup (a0::a1::a2::r)) (.int 2) = .ok a2 := item_tup (by decide) rfl
@[simp] theorem il2 (a0 a1 a2 : D) (r : List D) : itemO (.lst (a0::a1::a2::r)) (.int 2) = .ok a2 := item_lst (by decide) rfl
@[simp] theorem it3 (a0 a1 a2 a3 : D) (r : List D) : itemO (.tup (a0::a1::a2::a3::r)) (.int 3) = .ok a3 := item_tup (by decide) rfl
@[simp] theorem il3 (a0 a1 a2 a3 : D) (r : List D) : itemO (.lst (a0::a1::a2::a3::r)) (.int 3) = .ok a3 := item_lst (by decide) rfl
@[simp] theorem it4 (a0 a1 a2 a3 a4 : D) (r : List D) : itemO (.tup (a0::a1::a2::a3::a4::r)) (.int 4) = .ok a4 := item_tup (by decide) rfl
@[simp] theorem il4 (a0 a1 a2 a3 a4 : D) (r : List D) : itemO (.lst (a0::a1::a2::a3::a4::r)) (.int 4) = .ok a4 := item_lst (by decide) rfl
@[simp] theorem it5 (a0 a1 a2 a3 a4 a5 : D) (r : List D) : itemO (.tup (a0::a1::a2::a3::a4::a5::r)) (.int 5) = .ok a5 := item_tup (by decide) rfl
@[simp] theorem il5 (a0 a1 a2 a3 a4 a5 : D) (r : List D) : itemO (.lst (a0::a1::a2::a3::a4::a5::r)) (.int 5) = .ok a5 := item_lst (by decide) rfl
@[simp] theorem it6 (a0 a1 a2 a3 a4 a5 a6 : D) (r : List D) : itemO (.tup (a0::a1::a2::a3::a4::a5::a6::r)) (.int 6) = .ok a6 := item_tup (by decide) rfl
@[simp] theorem il6 (a0 a1 a2 a3 a4 a5 a6 : D) (r : List D) : itemO (.lst (a0::a1::a2::a3::a4::a5::a6::r)) (.int 6) = .ok a6 := item_lst (by decide) rfl
@[simp] theorem it7 (a0 a1 a2 a3 a4 a5 a6 a7 : D) (r : List D) : itemO (.tup (a0::a1::a2::a3::a4::a5::a6::a7::r)) (.int 7) = .ok a7 := item_tup (by decide) rfl
@[simp] theorem il7 (a0 a1 a2 a3 a4 a5 a6 a7 : D) (r : List D) : itemO (.lst (a0::a1::a2::a3::a4::a5::a6::a7::r)) (.int 7) = .ok a7 := item_lst (by decide) rfl
@[simp] theorem it8 (a0 a1 a2 a3 a4 a5 a6 a7 a8 : D) (r : List D) : itemO (.tup (a0::a1::a2::a3::a4::a5::a6::a7::a8::r)) (.int 8) = .ok a8 := item_tup (by decide) rfl
@[simp] theorem il8 (a0 a1 a2 a3 a4 a5 a6 a7 a8 : D) (r : List D) : itemO (.lst (a0::a1::a2::a3::a4::a5::a6::a7::a8::r)) (.int 8) = .ok a8 := item_lst (by decide) rfl
@[simp] theorem it9 (a0 a1 a2 a3 a4 a5 a6 a7 a8 a9 : D) (r : List D) : itemO (.tup (a0::a1::a2::a3::a4::a5::a6::a7::a8::a9::r)) (.int 9) = .ok a9 := item_tup (by decide) rfl
@[simp] theorem il9 (a0 a1 a2 a3 a4 a5 a6 a7 a8 a9 : D) (r : List D) : itemO (.lst (a0::a1::a2::a3::a4::a5::a6::a7::a8::a9::r)) (.int 9) = .ok a9 := item_lst (by decide) rfl
@[simp] theorem it10 (a0 a1 a2 a3 a4 a5 a6 a7 a8 a9 a10 : D) (r : List D) : itemO (.tup (a0::a1::a2::a3::a4::a5::a6::a7::a8::a9::a10::r)) (.int 10) = .ok a10 := item_tup (by decide) rfl
@[simp] theorem il10 (a0 a1 a2 a3 a4 a5 a6 a7 a8 a9 a10 : D) (r : List D) : itemO (.lst (a0::a1::a2::a3::a4::a5::a6::a7::a8::a9::a10::r)) (.int 10) = .ok a10 := item_lst (by decide) rfl
@[simp] theorem it11 (a0 a1 a2 a3 a4 a5 a6 a7 a8 a9 a10 a11 : D) (r : List D) : itemO (.tup (a0::a1::a2::a3::a4::a5::a6::a7::a8::a9::a10::a11::r)) (.int 11) = .ok a11 := item_tup (by decide) rfl
@[simp] theorem il11 (a0 a1 a2 a3 a4 a5 a6 a7 a8 a9 a10 a11 : D) (r : List D) : itemO (.lst (a0::a1::a2::a3::a4::a5::a6::a7::a8::a9::a10::a11::r)) (.int 11) = .ok a11 := item_lst (by decide) rfl
@[simp] theorem it12 (a0 a1 a2 a3 a4 a5 a6 a7 a8 a9 a10 a11 a12 : D) (r : List D) : itemO (.tup (a0::a1::a2::a3::a4::a5::a6::a7::a8::a9::a10::a11::a12::r)) (.int 12) = .ok a12 := item_tup (by decide) rfl
@[simp] theorem il12 (a0 a1 a2 a3 a4 a5 a6 a7 a8 a9 a10 a11 a12 : D) (r : List D) : itemO (.lst (a0::a1::a2::a3::a4::a5::a6::a7::a8::a9::a10::a11::a12::r)) (.int 12) = .ok a12 := item_lst (by decide) rfl
@[simp] theorem it13 (a0 a1 a2 a3 a4 a5 a6 a7 a8 a9 a10 a11 a12 a13 : D) (r : List D) : itemO (.tup (a0::a1::a2::a3::a4::a5::a6::a7::a8::a9::a10::a11::a12::a13::r)) (.int 13) = .ok a13 := item_tup (by decide) rfl
@[simp] theorem il13 (a0 a1 a2 a3 a4 a5 a6 a7 a8 a9 a10 a11 a12 a13 : D) (r : List D) : itemO (.lst (a0::a1::a2::a3::a4::a5::a6::a7::a8::a9::a10::a11::a12::a13::r)) (.int 13) = .ok a13 := item_lst (by decide) rfl
@[simp] theorem it14 (a0 a1 a2 a3 a4 a5 a6 a7 a8 a9 a10 a11 a12 a13 a14 : D) (r : List D) : itemO (.tup (a0::a1::a2::a3::a4::a5::a6::a7::a8::a9::a10::a11::a12::a13::a14::r)) (.int 14) = .ok a14 := item_tup (by decide) rfl
@[simp] theorem il14 (a0 a1 a2 a3 a4 a5 a6 a7 a8 a9 a10 a11 a12 a13 a14 : D) (r : List D) : itemO (.lst (a0::a1::a2::a3::a4::a5::a6::a7::a8::a9::a10::a11::a12::a13::a14::r)) (.int 14) = .ok a14 := item_lst (by decide) rfl
@[simp] theorem it15 (a0 a1 a2 a3 a4 a5 a6 a7 a8 a9 a10 a11 a12 a13 a14 a15 : D) (r : List D) : itemO (.tup (a0::a1::a2::a3::a4::a5::a6::a7::a8::a9::a10::a11::a12::a13::a14::a15::r)) (.int 15) = .ok a15 := item_tup (by decide) rfl
@[simp] theorem il15 (a0 a1 a2 a3 a4 a5 a6 a7 a8 a9 a10 a11 a12 a13 a14 a15 : D) (r : List D) : itemO (.lst (a0::a1::a2::a3::a4::a5::a6::a7::a8::a9::a10::a11::a12::a13::a14::a15::r)) (.int 15) = .ok a15 := item_lst (by decide) rfl
theorem le_maxLen {n : Nat} (h : n ≤ 100000) : n ≤ maxLen := h
@[simp] theorem tupO_of {ys : List D} (h : ys.length ≤ 100000) : tupO ys = .ok (.tup ys) := by rw [tupO_eq]; exact if_pos h
@[simp] theorem lstO_of {ys : List D} (h : ys.length ≤ 100000) : lstO ys = .ok (.lst ys) := by rw [lstO_eq]; exact if_pos h
@[simp] theorem capO_of {n : Nat} {o : Out} (h : n < 100000) : capO n o = o := by rw [capO_eq]; exact if_pos h
/-! loops -/
def lstep (o : Out) (I : Env → Prop) (Q : Out → Prop) : Prop := match o with
  | .nx e => I e
  | .ct e => I e
  | .bk e => Q (.nx e)
  | o => Q o
@[simp] theorem lstep_nx (e I Q) : lstep (.nx e) I Q = I e := eqt rfl
@[simp] theorem lstep_ct (e I Q) : lstep (.ct e) I Q = I e := eqt rfl
@[simp] theorem lstep_bk (e I Q) : lstep (.bk e) I Q = Q (.nx e) := eqt rfl
@[simp] theorem lstep_rt (d e I Q) : lstep (.rt d e) I Q = Q (.rt d e) := eqt rfl
@[simp] theorem lstep_ex (d e I Q) : lstep (.ex d e) I Q = Q (.ex d e) := eqt rfl
theorem loop_wp {α : Type} {h : α → D} {f : D → Env → Out} (I : List α → Env → Prop) {Q : Out → Prop} : ∀ {xs : List α} {env : Env}, I [] env → (∀ pre x post e, xs = pre ++ x :: post → I pre e → lstep (f (h x) e) (I (pre ++ [x])) Q) → (∀ e, I xs e → Q (.nx e)) → Q (loop f (xs.map h) env)
  | [], env, h0, _, h2 => h2 env h0
  | x :: xs, env, h0, h1, h2 => by
    have s := h1 [] x xs env rfl h0
    show Q (match f (h x) env with
      | .nx e => loop f (xs.map h) e
      | .ct e => loop f (xs.map h) e
      | .bk e => .nx e
      | o => o)
    have go : ∀ e, I [x] e → Q (loop f (xs.map h) e) := fun e he =>
      loop_wp (I := fun pre e => I (x :: pre) e) he (fun pre y post e eq hi => h1 (x :: pre) y post e (by rw [eq]; rfl) hi) h2
    revert s
    cases f (h x) env with
    | nx e => exact fun s => go e s
    | ct e => exact fun s => go e s
    | bk e => exact fun s => s
    | rt d e => exact fun s => s
    | ex d e => exact fun s => s
    | no => exact fun s => s
theorem coll_map {α : Type} {h : α → D} {f : D → R D} {g : α → List D} : ∀ {xs : List α}, (∀ x ∈ xs, f (h x) = .ok (.lst (g x))) → coll f (xs.map h) = .ok (xs.flatMap g)
  | [], _ => rfl
  | x :: xs, H => by
    show ((f (h x)).bd fun y => match y with
      | .lst a => (coll f (xs.map h)).bd fun b => .ok (a ++ b)
      | _ => .no) = _
    rw [H x List.mem_cons_self, coll_map (fun y hy => H y (List.mem_cons_of_mem _ hy))]
    rfl
theorem nx_step {o : Out} {e : Env} {I : Env → Prop} {Q : Out → Prop} (h : o = .nx e) (hi : I e) : lstep o I Q := by rw [h]; exact hi
theorem ct_step {o : Out} {e : Env} {I : Env → Prop} {Q : Out → Prop} (h : o = .ct e) (hi : I e) : lstep o I Q := by rw [h]; exact hi
theorem bk_step {o : Out} {e : Env} {I : Env → Prop} {Q : Out → Prop} (h : o = .bk e) (hi : Q (.nx e)) : lstep o I Q := by rw [h]; exact hi
theorem rt_step {o : Out} {d : D} {e : Env} {I : Env → Prop} {Q : Out → Prop} (h : o = .rt d e) (hi : Q (.rt d e)) : lstep o I Q := by rw [h]; exact hi
theorem ex_step {o : Out} {d : Exn} {e : Env} {I : Env → Prop} {Q : Out → Prop} (h : o = .ex d e) (hi : Q (.ex d e)) : lstep o I Q := by rw [h]; exact hi
theorem for_wp {α : Type} {h : α → D} {G : Ctx} {cur : Option Exn} {t : RT} {it : RE} {b : RS} {env : Env} (xs : List α) (I : List α → Env → Prop) {s : D} {Q : Out → Prop} (hit : vE G cur it env = .ok s) (hs : walkOf s = .ok (xs.map h)) (h0 : I [] env)
    (hst : ∀ pre x post e, xs = pre ++ x :: post → I pre e → lstep (onT (PD.asgT t (h x) e) fun e => vS G cur b e) (I (pre ++ [x])) Q) (h2 : ∀ e, I xs e → Q (.nx e)) : Q (vS G cur (.for_ t it b) env) := by
  rw [vs_for, hit]
  show Q (forD _ s env)
  unfold forD
  rw [hs]
  exact loop_wp I h0 hst h2
theorem comp_of {α : Type} {h : α → D} {G : Ctx} {cur : Option Exn} {own : List Nat} {t : RT} {it b : RE} {env : Env} {xs : List α} {g : α → List D} {s : D} (hit : vE G cur it env = .ok s) (hs : walkOf s = .ok (xs.map h))
    (hb : ∀ x ∈ xs, (onE (PD.asgU t (h x) (wipeE env own)) fun e => vE G cur b e) = .ok (.lst (g x))) (hl : (xs.flatMap g).length ≤ 100000) : vE G cur (.comp own t it b) env = .ok (.lst (xs.flatMap g)) := by
  rw [ve_comp, hit]
  show compD _ s = _
  unfold compD
  rw [hs]
  show compR _ = _
  rw [coll_map hb, compR_ok, lstO_of hl]
theorem forc_of {α : Type} {h : α → D} {G : Ctx} {cur : Option Exn} {t : RT} {it b : RE} {env : Env} {xs : List α} {g : α → List D} {s : D} (hit : vE G cur it env = .ok s) (hs : walkOf s = .ok (xs.map h))
    (hb : ∀ x ∈ xs, (onE (PD.asgU t (h x) env) fun e => vE G cur b e) = .ok (.lst (g x))) : vE G cur (.forc t it b) env = .ok (.lst (xs.flatMap g)) := by
  rw [ve_forc, hit]
  show forcD _ s = _
  unfold forcD
  rw [hs]
  show (coll _ (xs.map h)).bd _ = _
  rw [coll_map hb] <;> rfl
@[simp] theorem walk_lst (xs) : walkOf (.lst xs) = .ok xs := eqt rfl
@[simp] theorem walk_tup (xs) : walkOf (.tup xs) = .ok xs := eqt rfl
theorem walk_dit (ks vs) : walkOf (.dit ks vs) = .ok (ks.map fun k => .tup (k.map keyD)) := eqt rfl
theorem walk_dik (ks vs) : walkOf (.dik ks vs) = .ok (ks.map keyD) := eqt rfl
theorem walk_rng (n : Int) : walkOf (.rng 0 n) = .ok (rangeD 0 n.toNat) := by
  show R.ok (rangeD 0 (n - 0).toNat) = _
  rw [Int.sub_zero]
theorem keysOf_map (k : List Key) : keysOf (k.map keyD) = some k := by
  induction k with
  | nil => rfl
  | cons a k ih =>
    have h : keyOf (keyD a) = some a := by cases a <;> rfl
    show (match keyOf (keyD a), keysOf (k.map keyD) with
      | some k, some ks => some (k :: ks)
      | _, _ => none) = _
    rw [h, ih]
theorem putK_fresh {κ : Type} [DecidableEq κ] {ks : List κ} {vs : List D} {k : κ} {v : D} (h : k ∉ ks) : putK ks vs k v = (ks ++ [k], vs ++ [v]) := by
  unfold putK
  refine if_neg fun z => ?_
  obtain ⟨a, ha, e⟩ := List.any_eq_true.mp z
  exact h (of_decide_eq_true e ▸ ha)
theorem puts_nodup {κ : Type} [DecidableEq κ] {f : D → Option κ} {g : κ → D} (hf : ∀ k, f (g k) = some k) : ∀ (l : List (κ × D)) (ks : List κ) (vs : List D), (ks ++ l.map (·.1)).Nodup → putsK f (l.map fun (p : κ × D) => D.tup [g p.1, p.2]) ks vs = some (ks ++ l.map (·.1), vs ++ l.map (·.2))
  | [], ks, vs, _ => by simp [putsK]
  | (k, v) :: l, ks, vs, h => by
    have hk : k ∉ ks := fun z => by
      rw [List.map_cons] at h
      exact (List.nodup_append.mp h).2.2 _ z _ List.mem_cons_self rfl
    show (match f (g k) with
      | some k => putsK f (l.map fun (p : κ × D) => D.tup [g p.1, p.2]) (putK ks vs k v).1 (putK ks vs k v).2
      | none => none) = _
    rw [hf]
    show putsK f _ (putK ks vs k v).1 (putK ks vs k v).2 = _
    rw [putK_fresh hk]
    rw [puts_nodup hf l (ks ++ [k]) (vs ++ [v]) (by simpa using h)]
    simp
theorem dict_t {l : List (List Key × D)} (h : (l.map (·.1)).Nodup) (hl : l.length ≤ 100000) : dictOf true (.ok (l.map fun (p : List Key × D) => D.tup [.tup (p.1.map keyD), p.2])) = .ok (.dit (l.map (·.1)) (l.map (·.2))) := by
  unfold dictOf
  dsimp only
  rw [if_pos (by rw [List.length_map]; exact hl), puts_nodup (f := tkOf) (g := fun k => .tup (k.map keyD)) (fun k => keysOf_map k) l [] [] (by simpa using h)]
  simp
theorem dict_k {l : List (Key × D)} (h : (l.map (·.1)).Nodup) (hl : l.length ≤ 100000) : dictOf false (.ok (l.map fun (p : Key × D) => D.tup [keyD p.1, p.2])) = .ok (.dik (l.map (·.1)) (l.map (·.2))) := by
  unfold dictOf
  dsimp only
  rw [if_pos (by rw [List.length_map]; exact hl), puts_nodup (f := keyOf) (g := keyD) (fun k => by cases k <;> rfl) l [] [] (by simpa using h)]
  simp
theorem dcomp_of {α : Type} {h : α → D} {G : Ctx} {cur : Option Exn} {tk : Bool} {own : List Nat} {t : RT} {it b : RE} {env : Env} {xs : List α} {g : α → List D} {s : D} (hit : vE G cur it env = .ok s) (hs : walkOf s = .ok (xs.map h))
    (hb : ∀ x ∈ xs, (onE (PD.asgU t (h x) (wipeE env own)) fun e => vE G cur b e) = .ok (.lst (g x))) : vE G cur (.dcomp tk own t it b) env = dictOf tk (.ok (xs.flatMap g)) := by
  rw [ve_dcomp, hit]
  show dcompD tk _ s = _
  unfold dcompD
  rw [hs]
  show dictOf tk _ = _
  rw [coll_map hb]
@[simp] theorem items_lst (xs) : itemsOf (.lst xs) = .ok xs := eqt rfl
@[simp] theorem items_tup (xs) : itemsOf (.tup xs) = .ok xs := eqt rfl
/-- raises, or goes on -/
def OutX (err : Option Exn) (N : Env → Prop) (o : Out) : Prop := match err with
  | some x => ∃ e, o = .ex x e
  | none => ∃ e, o = .nx e ∧ N e
@[simp] theorem outX_some (x N o) : OutX (some x) N o = ∃ e, o = .ex x e := eqt rfl
@[simp] theorem outX_none (N o) : OutX none N o = ∃ e, o = .nx e ∧ N e := eqt rfl
/-- raises, or tells -/
def RX {α : Type} (err : Option Exn) (N : α → Prop) (o : R α) : Prop := match err with
  | some x => o = .ex x
  | none => ∃ e, o = .ok e ∧ N e
@[simp] theorem rX_some {α : Type} (x) (N : α → Prop) (o) : RX (some x) N o = (o = .ex x) := eqt rfl
@[simp] theorem rX_none {α : Type} (N : α → Prop) (o) : RX none N o = ∃ e, o = .ok e ∧ N e := eqt rfl
/-- returns, or goes on -/
def OutR (r : Option D) (N : Env → Prop) (o : Out) : Prop := match r with
  | some d => ∃ e, o = .rt d e
  | none => ∃ e, o = .nx e ∧ N e
@[simp] theorem outR_some (x N o) : OutR (some x) N o = ∃ e, o = .rt x e := eqt rfl
@[simp] theorem outR_none (N o) : OutR none N o = ∃ e, o = .nx e ∧ N e := eqt rfl
theorem for_search {α : Type} {h : α → D} {G : Ctx} {cur : Option Exn} {t : RT} {it : RE} {b : RS} {env : Env} (xs : List α) (r : α → Option D) (N : Env → Prop) {s : D} (hit : vE G cur it env = .ok s) (hs : walkOf s = .ok (xs.map h)) (h0 : N env)
    (hst : ∀ x ∈ xs, ∀ e, N e → OutR (r x) N (onT (PD.asgT t (h x) e) fun e => vS G cur b e)) : OutR (xs.findSome? r) N (vS G cur (.for_ t it b) env) := by
  refine for_wp xs (h := h) (I := fun pre e => N e ∧ ∀ rest, xs = pre ++ rest → xs.findSome? r = rest.findSome? r) hit hs ⟨h0, fun rest e => by rw [e] <;> rfl⟩ ?_ ?_
  · rintro pre x post e eq ⟨hN, hi⟩
    have q := hst x (by rw [eq]; simp) e hN
    have e3 := hi _ eq
    rw [List.findSome?_cons] at e3
    cases hr : r x with
    | some d =>
      rw [hr] at q e3
      obtain ⟨e', q⟩ := q
      refine rt_step q ?_
      simp only at e3
      rw [e3]
      exact ⟨_, rfl⟩
    | none =>
      rw [hr] at q e3
      obtain ⟨e', q, hN'⟩ := q
      refine nx_step q ⟨hN', fun rest h => ?_⟩
      simp only at e3
      rw [e3]
      rw [eq] at h
      have : post = rest := by simpa using h
      rw [this]
  · rintro e ⟨hN, hi⟩
    rw [hi [] (by simp)]
    exact ⟨_, rfl, hN⟩
theorem for_check {α : Type} {h : α → D} {G : Ctx} {cur : Option Exn} {t : RT} {it : RE} {b : RS} {env : Env} (xs : List α) (r : α → Option Exn) (N : Env → Prop) {s : D} (hit : vE G cur it env = .ok s) (hs : walkOf s = .ok (xs.map h)) (h0 : N env)
    (hst : ∀ x ∈ xs, ∀ e, N e → OutX (r x) N (onT (PD.asgT t (h x) e) fun e => vS G cur b e)) : OutX (xs.findSome? r) N (vS G cur (.for_ t it b) env) := by
  refine for_wp xs (h := h) (I := fun pre e => N e ∧ ∀ rest, xs = pre ++ rest → xs.findSome? r = rest.findSome? r) hit hs ⟨h0, fun rest e => by rw [e] <;> rfl⟩ ?_ ?_
  · rintro pre x post e eq ⟨hN, hi⟩
    have q := hst x (by rw [eq]; simp) e hN
    have e3 := hi _ eq
    rw [List.findSome?_cons] at e3
    cases hr : r x with
    | some d =>
      rw [hr] at q e3
      obtain ⟨e', q⟩ := q
      refine ex_step q ?_
      simp only at e3
      rw [e3]
      exact ⟨_, rfl⟩
    | none =>
      rw [hr] at q e3
      obtain ⟨e', q, hN'⟩ := q
      refine nx_step q ⟨hN', fun rest h => ?_⟩
      simp only at e3
      rw [e3]
      rw [eq] at h
      have : post = rest := by simpa using h
      rw [this]
  · rintro e ⟨hN, hi⟩
    rw [hi [] (by simp)]
    exact ⟨_, rfl, hN⟩
/-- every turn goes on -/
theorem for_pass {α : Type} {h : α → D} {G : Ctx} {cur : Option Exn} {t : RT} {it : RE} {b : RS} {env : Env} (xs : List α) (N : Env → Prop) {s : D} (hit : vE G cur it env = .ok s) (hs : walkOf s = .ok (xs.map h)) (h0 : N env)
    (hst : ∀ x ∈ xs, ∀ e, N e → ∃ e', (onT (PD.asgT t (h x) e) fun e => vS G cur b e) = .nx e' ∧ N e') : ∃ e', vS G cur (.for_ t it b) env = .nx e' ∧ N e' := by
  have q := for_search xs (fun _ => none) N hit hs h0 fun x hx e he => by
    obtain ⟨e', q⟩ := hst x hx e he
    exact ⟨e', q⟩
  rw [List.findSome?_eq_none_iff.mpr fun _ _ => rfl] at q
  exact q
def lp (o : Out) (f : Env → Out) : Dp f Out := match o with
  | .nx e => f e
  | .ct e => f e
  | .bk e => .nx e
  | o => o
theorem lp_cons (f x xs env) : loop f (x :: xs) env = lp (f x env) fun e => loop f xs e := by
  rw [loop]
  cases f x env <;> rfl
@[simp ↓] theorem lp_nx (e f) : lp (.nx e) f = f e := eqt rfl
@[simp ↓] theorem lp_ct (e f) : lp (.ct e) f = f e := eqt rfl
@[simp ↓] theorem lp_bk (e f) : lp (.bk e) f = .nx e := eqt rfl
@[simp ↓] theorem lp_rt (d e f) : lp (.rt d e) f = .rt d e := eqt rfl
@[simp ↓] theorem lp_ex (d e f) : lp (.ex d e) f = .ex d e := eqt rfl
/-! calls -/
@[simp] theorem ctx_st (P : Prog) (n : Nat) : (P.ctx n).st = P.st := by cases n <;> rfl
theorem run_of {P : Prog} {n f : Nat} {ps m : Nat} {b : RS} {ds e : List D} (h : P.fn f = ⟨ps, m, b⟩) (hl : ds.length = ps) (he : ds ++ List.replicate (m - ds.length) .un = e) : vC (P.ctx (n + 1)) f ds = resOf (vS (P.ctx n) none b e) := by
  rw [vC_eq, vS_eq]
  show (if ds.length = (P.fn f).ps then resOf (evS (P.ctx n) none (P.fn f).body (Prog.start (P.fn f) ds)) else .no) = _
  unfold Prog.start
  rw [h, if_pos hl, he]
theorem new_of {P : Prog} {n c : Nat} {ps m : Nat} {b : RS} {ds e : List D} (h : P.fn (P.init c) = ⟨ps, m, b⟩) (hl : ds.length + 1 = ps) (he : (D.ins c [] :: ds) ++ List.replicate (m - (ds.length + 1)) .un = e) : vN (P.ctx (n + 1)) c ds = selfOf (vS (P.ctx n) none b e) := by
  rw [vN_eq, vS_eq]
  show (if ds.length + 1 = (P.fn (P.init c)).ps then selfOf (evS (P.ctx n) none (P.fn (P.init c)).body (Prog.start (P.fn (P.init c)) (.ins c [] :: ds))) else .no) = _
  unfold Prog.start
  rw [h, if_pos hl]
  rw [List.length_cons, he]
/-! equality -/
mutual
theorem dat_eqv : ∀ d : D, d.dat = true → PyData.eqv d.py d.py = true
  | .non, _ => rfl
  | .bl b, _ => by show (b == b) = true; simp
  | .int b, _ => by show (b == b) = true; simp
  | .str b, _ => by show (b == b) = true; simp
  | .tup xs, h => dats_eqv xs h
  | .lst xs, h => dats_eqv xs h
theorem dats_eqv : ∀ d : List D, D.dats d = true → PyData.eqvAll (D.pys d) (D.pys d) = true
  | [], _ => rfl
  | x :: xs, h => by
    have h' := Bool.and_eq_true_iff.mp (show (x.dat && D.dats xs) = true from h)
    show (PyData.eqv x.py x.py && PyData.eqvAll (D.pys xs) (D.pys xs)) = true
    rw [dat_eqv x h'.1, dats_eqv xs h'.2] <;> rfl
end
/-- data of depth at most n that == may read -/
structure Eqd (n : Nat) (d : D) : Prop where
  dat : d.dat = true
  lay : d.py.canLay0 = true
  dep : d.py.depth ≤ n
theorem beq_dec (a b : Int) : (a == b) = decide (a = b) := by
  by_cases h : a = b
  · rw [decide_eq_true h, h, beq_self_eq_true]
  · rw [decide_eq_false h, beq_false_of_ne h]
theorem Eqd.mono {n m : Nat} {d : D} (h : Eqd n d) (l : n ≤ m) : Eqd m d := ⟨h.dat, h.lay, Nat.le_trans h.dep l⟩
theorem Eqd.up {n : Nat} {d : D} (h : Eqd n d) (l : n ≤ 64 := by decide) : Eqd 64 d := h.mono l
theorem Eqd.shaped {n : Nat} {d : D} (h : Eqd n d) (l : n ≤ 64) : SeqAt.shaped d.py = true := by
  unfold SeqAt.shaped
  rw [h.lay, decide_eq_true (Nat.le_trans h.dep l)] <;> rfl
theorem Eqd.int (n : Nat) (i : Int) : Eqd n (.int i) := ⟨rfl, rfl, Nat.zero_le _⟩
theorem Eqd.bl (n : Nat) (i : Bool) : Eqd n (.bl i) := ⟨rfl, rfl, Nat.zero_le _⟩
theorem Eqd.non (n : Nat) : Eqd n .non := ⟨rfl, rfl, Nat.zero_le _⟩
theorem Eqd.str {x : Str} (n : Nat) (h : PyData.strOk x = true) : Eqd n (.str x) := ⟨rfl, h, Nat.zero_le _⟩
theorem Eqd.alls {n : Nat} : ∀ {xs : List D}, (∀ x ∈ xs, Eqd n x) → D.dats xs = true ∧ PyData.canLayAll0 (D.pys xs) = true ∧ PyData.depthAll (D.pys xs) ≤ n
  | [], _ => ⟨rfl, rfl, Nat.zero_le _⟩
  | x :: xs, h => by
    have h1 := h x List.mem_cons_self
    have h2 := Eqd.alls fun y hy => h y (List.mem_cons_of_mem _ hy)
    refine ⟨?_, ?_, ?_⟩
    · show (x.dat && D.dats xs) = true
      rw [h1.dat, h2.1] <;> rfl
    · show (x.py.canLay0 && PyData.canLayAll0 (D.pys xs)) = true
      rw [h1.lay, h2.2.1] <;> rfl
    · show max x.py.depth (PyData.depthAll (D.pys xs)) ≤ n
      exact Nat.max_le.mpr ⟨h1.dep, h2.2.2⟩
theorem Eqd.tup {n : Nat} {xs : List D} (h : ∀ x ∈ xs, Eqd n x) : Eqd (n + 1) (.tup xs) := ⟨(Eqd.alls h).1, (Eqd.alls h).2.1, by
  have := (Eqd.alls h).2.2
  show PyData.depthAll (D.pys xs) + 1 ≤ n + 1
  omega⟩
theorem Eqd.lst {n : Nat} {xs : List D} (h : ∀ x ∈ xs, Eqd n x) : Eqd (n + 1) (.lst xs) := ⟨(Eqd.alls h).1, (Eqd.alls h).2.1, by
  have := (Eqd.alls h).2.2
  show PyData.depthAll (D.pys xs) + 1 ≤ n + 1
  omega⟩
theorem eqD_of {a b : D} (h : Eqd 64 a) (h2 : Eqd 64 b) : eqO a b = .ok (PyData.eqv a.py b.py) := by
  rw [eqO_eq]
  unfold eqD
  rw [h.dat, h2.dat, h.shaped (Nat.le_refl _), h2.shaped (Nat.le_refl _)] <;> rfl
theorem eqD_refl {a : D} (h : Eqd 64 a) : eqO a a = .ok true := by rw [eqD_of h h, dat_eqv a h.dat]
@[simp] theorem eqD_int (a b : Int) : eqO (.int a) (.int b) = .ok (decide (a = b)) := by
  rw [eqD_of (Eqd.int _ _) (Eqd.int _ _)]
  exact congrArg R.ok (beq_dec a b)
theorem eqD_str {a b : Str} (h1 : PyData.strOk a = true) (h2 : PyData.strOk b = true) : eqO (.str a) (.str b) = .ok (a == b) := eqD_of (Eqd.str _ h1) (Eqd.str _ h2)
mutual
/-- data without truth values -/
def D.pl : D → Bool
  | .non => true
  | .int _ => true
  | .str _ => true
  | .tup xs => D.pls xs
  | .lst xs => D.pls xs
  | _ => false
def D.pls : List D → Bool
  | [] => true
  | d :: ds => d.pl && D.pls ds
end
mutual
theorem eqv_pl : ∀ a b : D, a.pl = true → b.pl = true → PyData.eqv a.py b.py = true → a = b
  | .non, .non, _, _, _ => rfl
  | .int i, .int j, _, _, h => by rw [eq_of_beq (show (i == j) = true from h)]
  | .str i, .str j, _, _, h => by rw [eq_of_beq (show (i == j) = true from h)]
  | .tup xs, .tup ys, h1, h2, h => by rw [eqvs_pl xs ys h1 h2 h]
  | .lst xs, .lst ys, h1, h2, h => by rw [eqvs_pl xs ys h1 h2 h]
  | .non, .int _, _, _, h => by cases h
  | .non, .str _, _, _, h => by cases h
  | .non, .tup _, _, _, h => by cases h
  | .non, .lst _, _, _, h => by cases h
  | .int _, .non, _, _, h => by cases h
  | .int _, .str _, _, _, h => by cases h
  | .int _, .tup _, _, _, h => by cases h
  | .int _, .lst _, _, _, h => by cases h
  | .str _, .non, _, _, h => by cases h
  | .str _, .int _, _, _, h => by cases h
  | .str _, .tup _, _, _, h => by cases h
  | .str _, .lst _, _, _, h => by cases h
  | .tup _, .non, _, _, h => by cases h
  | .tup _, .int _, _, _, h => by cases h
  | .tup _, .str _, _, _, h => by cases h
  | .tup _, .lst _, _, _, h => by cases h
  | .lst _, .non, _, _, h => by cases h
  | .lst _, .int _, _, _, h => by cases h
  | .lst _, .str _, _, _, h => by cases h
  | .lst _, .tup _, _, _, h => by cases h
theorem eqvs_pl : ∀ a b : List D, D.pls a = true → D.pls b = true → PyData.eqvAll (D.pys a) (D.pys b) = true → a = b
  | [], [], _, _, _ => rfl
  | x :: xs, y :: ys, h1, h2, h => by
    have h1' := Bool.and_eq_true_iff.mp (show (x.pl && D.pls xs) = true from h1)
    have h2' := Bool.and_eq_true_iff.mp (show (y.pl && D.pls ys) = true from h2)
    have h' := Bool.and_eq_true_iff.mp (show (PyData.eqv x.py y.py && PyData.eqvAll (D.pys xs) (D.pys ys)) = true from h)
    rw [eqv_pl x y h1'.1 h2'.1 h'.1, eqvs_pl xs ys h1'.2 h2'.2 h'.2]
  | [], _ :: _, _, _, h => by cases h
  | _ :: _, [], _, _, h => by cases h
end
theorem eqD_ne {a b : D} (h : Eqd 64 a) (h2 : Eqd 64 b) (p : a.pl = true) (p2 : b.pl = true) (ne : a ≠ b) : eqO a b = .ok false := by
  rw [eqD_of h h2]
  cases q : PyData.eqv a.py b.py with
  | false => rfl
  | true => exact absurd (eqv_pl a b p p2 q) ne
theorem eqD_dec {a b : D} (h : Eqd 64 a) (h2 : Eqd 64 b) (p : a.pl = true) (p2 : b.pl = true) {c : Prop} [Decidable c] (e : a = b ↔ c) : eqO a b = .ok (decide c) := by
  by_cases hc : c
  · rw [e.mpr hc, eqD_refl h2, decide_eq_true hc]
  · rw [eqD_ne h h2 p p2 fun z => hc (e.mp z), decide_eq_false hc]
theorem pls_map {α : Type} {f : α → D} (h : ∀ a, (f a).pl = true) : ∀ l : List α, D.pls (l.map f) = true
  | [] => rfl
  | a :: l => by
    show ((f a).pl && D.pls (l.map f)) = true
    rw [h a, pls_map h l] <;> rfl
theorem eqd_lst {α : Type} {f : α → D} {n : Nat} (h : ∀ a, Eqd n (f a)) (l : List α) : Eqd (n + 1) (.lst (l.map f)) := Eqd.lst fun y hy => by
  obtain ⟨a, _, rfl⟩ := List.mem_map.mp hy
  exact h a
theorem eqd_tup {α : Type} {f : α → D} {n : Nat} (h : ∀ a, Eqd n (f a)) (l : List α) : Eqd (n + 1) (.tup (l.map f)) := Eqd.tup fun y hy => by
  obtain ⟨a, _, rfl⟩ := List.mem_map.mp hy
  exact h a
theorem eq_ints (l m : List Int) : eqO (.lst (l.map D.int)) (.lst (m.map D.int)) = .ok (decide (l = m)) := by
  refine eqD_dec (eqd_lst (fun i => Eqd.int 0 i) l).up (eqd_lst (fun i => Eqd.int 0 i) m).up (pls_map (fun _ => rfl) l) (pls_map (fun _ => rfl) m) ⟨fun e => ?_, fun e => by rw [e]⟩
  have : ∀ l m : List Int, l.map D.int = m.map D.int → l = m := by
    intro l
    induction l with
    | nil => intro m e; cases m with
      | nil => rfl
      | cons _ _ => cases e
    | cons a l ih => intro m e; cases m with
      | nil => cases e
      | cons b m =>
        rw [List.map_cons, List.map_cons] at e
        injection e with e1 e2
        injection e1 with e1
        rw [e1, ih m e2]
  injection e with e
  exact this l m e
/-! in -/
theorem any_ints (a : Int) : ∀ xs : List Int, (xs.map D.int).any (fun y => eqV y.fv (D.int a).fv) = decide (a ∈ xs)
  | [] => rfl
  | x :: xs => by
    show ((x == a) || (xs.map D.int).any (fun y => eqV y.fv (D.int a).fv)) = _
    rw [any_ints a xs, beq_dec, ← Bool.decide_or]
    exact decide_eq_decide.mpr ⟨fun h => h.elim (fun h => h ▸ List.mem_cons_self) (List.mem_cons_of_mem _), fun h => (List.mem_cons.mp h).imp (fun e => e.symm) id⟩
theorem all_ints : ∀ xs : List Int, (xs.map D.int).all D.flat = true
  | [] => rfl
  | x :: xs => all_ints xs
theorem inD_tup (a : Int) (xs : List Int) : inO (.int a) (.tup (xs.map D.int)) = .ok (decide (a ∈ xs)) := by
  rw [inO_eq]
  show (if (true && (xs.map D.int).all D.flat) then R.ok ((xs.map D.int).any fun y => eqV y.fv (D.int a).fv) else .no) = _
  rw [all_ints, any_ints] <;> rfl
theorem inD_lst (a : Int) (xs : List Int) : inO (.int a) (.lst (xs.map D.int)) = .ok (decide (a ∈ xs)) := by
  rw [inO_eq]
  show (if (true && (xs.map D.int).all D.flat) then R.ok ((xs.map D.int).any fun y => eqV y.fv (D.int a).fv) else .no) = _
  rw [all_ints, any_ints] <;> rfl
/-! slices -/
theorem cut_to {xs : List D} {k : Nat} : cutO (.lst xs) .non (.int (k : Int)) = .ok (.lst (xs.take k)) := by
  rw [cutO_eq]
  show R.ok (D.lst (cutL xs none (some (k : Int)))) = _
  unfold cutL
  rw [HT.sIx_nat]
  show R.ok (D.lst ((xs.drop 0).take (min k xs.length - 0))) = _
  rw [List.drop_zero, Nat.sub_zero, ← List.take_eq_take_min]
theorem cut_tot {xs : List D} {k : Nat} : cutO (.tup xs) .non (.int (k : Int)) = .ok (.tup (xs.take k)) := by
  rw [cutO_eq]
  show R.ok (D.tup (cutL xs none (some (k : Int)))) = _
  unfold cutL
  rw [HT.sIx_nat]
  show R.ok (D.tup ((xs.drop 0).take (min k xs.length - 0))) = _
  rw [List.drop_zero, Nat.sub_zero, ← List.take_eq_take_min]
theorem cut_pre {xs : List D} {i : Int} (h : 0 ≤ i) : cutO (.lst xs) .non (.int i) = .ok (.lst (xs.take i.toNat)) := by
  have := cut_to (xs := xs) (k := i.toNat)
  rwa [Int.toNat_of_nonneg h] at this
theorem cut_pret {xs : List D} {i : Int} (h : 0 ≤ i) : cutO (.tup xs) .non (.int i) = .ok (.tup (xs.take i.toNat)) := by
  have := cut_tot (xs := xs) (k := i.toNat)
  rwa [Int.toNat_of_nonneg h] at this
@[simp] theorem in_t0 (a : Int) : inO (.int a) (.tup []) = .ok false := inD_tup a []
@[simp] theorem in_t1 (a b : Int) : inO (.int a) (.tup [.int b]) = .ok (decide (a = b)) := (inD_tup a [b]).trans (by simp)
@[simp] theorem in_t2 (a b c : Int) : inO (.int a) (.tup [.int b, .int c]) = .ok (decide (a = b ∨ a = c)) := (inD_tup a [b, c]).trans (by simp)
@[simp] theorem in_t3 (a b c d : Int) : inO (.int a) (.tup [.int b, .int c, .int d]) = .ok (decide (a = b ∨ a = c ∨ a = d)) := (inD_tup a [b, c, d]).trans (by simp)
theorem pick (L : List Int) {k : Int} (h : 0 ≤ k) (h2 : k < L.length) : ∃ v ∈ L, itemO (.tup (L.map D.int)) (.int k) = .ok (.int v) := by
  have h3 : k.toNat < L.length := by omega
  exact ⟨L[k.toNat], List.getElem_mem h3, item_mapt h (List.getElem?_eq_getElem h3)⟩
theorem putL_of {env : Env} {i : Nat} {xs : List D} {k : Int} {d : D} (he : env[i]? = some (.lst xs)) (h : 0 ≤ k) (h2 : k < xs.length) : putLO env i (.int k) d = .nx (env.set i (.lst (xs.set k.toNat d))) := by
  rw [putLO_eq]
  unfold putL
  rw [he]
  simp only [ixN_of h h2]
theorem eq_lst_nil : ∀ L : List Int, eqO (.lst (L.map D.int)) (.lst []) = .ok (decide (L = []))
  | [] => by rw [eqO_eq] <;> rfl
  | x :: xs => by
    rw [eqD_of (Eqd.lst (n := 1) fun y hy => by
      obtain ⟨i, _, rfl⟩ := List.mem_map.mp hy
      exact Eqd.int _ _).up (Eqd.lst (n := 1) fun y hy => by cases hy).up]
    rfl
/-! ranges -/
theorem small62_of {i : Int} (h1 : -1000000000 ≤ i) (h2 : i ≤ 1000000000) : small62 i = true := by
  unfold small62
  rw [decide_eq_true (by omega), decide_eq_true (by omega)] <;> rfl
/-- range(lo, hi) as ints -/
def rangeI (lo hi : Int) : List Int := (List.range (hi - lo).toNat).map fun i => lo + (i : Nat)
theorem rangeD_eq (lo hi : Int) : rangeD lo (hi - lo).toNat = (rangeI lo hi).map D.int := by
  unfold rangeD rangeI
  rw [List.map_map] <;> rfl
theorem rangeD_eq0 (hi : Int) : rangeD 0 hi.toNat = (rangeI 0 hi).map D.int := by
  rw [← rangeD_eq, Int.sub_zero]
theorem rng1_of {n : Int} (h1 : -1000000000 ≤ n) (h2 : n ≤ 1000000000) : rng1O n = .ok (.lst ((rangeI 0 n).map D.int)) := by
  rw [rng1O_eq]
  unfold rng1D
  rw [if_pos (small62_of h1 h2), rangeD_eq0]
theorem rng_of {i j : Int} (h1 : -1000000000 ≤ i) (h2 : i ≤ 1000000000) (h3 : -1000000000 ≤ j) (h4 : j ≤ 1000000000) : rngO (.int i) (.int j) = .ok (.lst ((rangeI i j).map D.int)) := by
  rw [rngO_eq]
  show (if small62 i && small62 j then R.ok (D.lst (rangeD i (j - i).toNat)) else .no) = _
  rw [small62_of h1 h2, small62_of h3 h4, rangeD_eq] <;> rfl
theorem rngt_of {i j : Int} (h1 : -10000 ≤ i) (h2 : i ≤ 10000) (h3 : -10000 ≤ j) (h4 : j ≤ 10000) : rngTO (.int i) (.int j) = .ok (.tup ((rangeI i j).map D.int)) := by
  rw [rngTO_eq]
  show (if (small62 i && small62 j) && decide ((j - i).toNat ≤ maxLen) then R.ok (D.tup (rangeD i (j - i).toNat)) else .no) = _
  rw [small62_of (by omega) (by omega), small62_of (by omega) (by omega), decide_eq_true (le_maxLen (by omega)), rangeD_eq] <;> rfl
theorem mem_rangeI {lo hi x : Int} : x ∈ rangeI lo hi ↔ lo ≤ x ∧ x < hi := by
  unfold rangeI
  rw [List.mem_map]
  constructor
  · rintro ⟨i, hi, rfl⟩
    rw [List.mem_range] at hi
    omega
  · intro h
    exact ⟨(x - lo).toNat, List.mem_range.mpr (by omega), by omega⟩
@[simp] theorem rangeI_length (lo hi : Int) : (rangeI lo hi).length = (hi - lo).toNat := by
  unfold rangeI
  rw [List.length_map, List.length_range]
theorem rangeI_get {lo hi : Int} {i : Nat} (h : i < (hi - lo).toNat) : (rangeI lo hi)[i]? = some (lo + (i : Nat)) := by
  unfold rangeI
  rw [List.getElem?_map, List.getElem?_range h] <;> rfl

end
end PD
end

section
set_option Elab.async false
set_option linter.all false
set_option maxRecDepth 100000
set_option maxHeartbeats 0
namespace PD.Law
open PySem L2 PD
abbrev f_check_range : Nat := 0
abbrev f_check_count : Nat := 1
abbrev f_choose : Nat := 2
abbrev f_all_threes : Nat := 3
abbrev f_line_counts : Nat := 4
abbrev f_left_count : Nat := 5
abbrev f_line_row : Nat := 6
abbrev f_corner_row : Nat := 7
abbrev f_sign_of : Nat := 8
abbrev f_quick_area : Nat := 9
abbrev f_turn_table : Nat := 10
abbrev f_check_row : Nat := 11
abbrev f_spread : Nat := 12
abbrev f_gather : Nat := 13
abbrev f_signed : Nat := 14
abbrev f_law_cell : Nat := 15
abbrev f_law_drawn : Nat := 16
abbrev f_law_area : Nat := 17
abbrev f_law_refusal : Nat := 18
abbrev f_law_made : Nat := 19
abbrev f_law_whole : Nat := 20
abbrev f_law_is_within : Nat := 21
abbrev f_law_holders : Nat := 22
abbrev f_law_counted : Nat := 23
abbrev f_law_row_due : Nat := 24
abbrev f_law_choose : Nat := 25
abbrev f_law_sums : Nat := 26
abbrev f_law_told : Nat := 27
abbrev f_law : Nat := 28
abbrev f_Floor___init__ : Nat := 29
abbrev f_Floor___len__ : Nat := 30
abbrev f_Floor_quick_turn : Nat := 31
abbrev c_Floor : Nat := 0
abbrev x_ValueError : Nat := 0
abbrev x_BowlError : Nat := 1
abbrev x_WrongCount : Nat := 2
abbrev x_TooFar : Nat := 3
abbrev x_NoPoint : Nat := 4
abbrev x_Repeated : Nat := 5
abbrev x_OnLine : Nat := 6
abbrev a_numbers : Nat := 0
abbrev a_value : Nat := 1
abbrev a_count : Nat := 2
abbrev a_points : Nat := 3
abbrev a_MOST : Nat := 4
abbrev a_LEAST : Nat := 5
abbrev a_FAR : Nat := 6
abbrev a_turns : Nat := 7
abbrev m_len : Nat := 0
abbrev m_quick_turn : Nat := 1
/-! check_range: 0 value, 1 low, 2 high -/
def b_check_range : RS := (.seq (.ife (.or (.cmp .Lt (.var 0) (.var 1)) (.cmp .Gt (.var 0) (.var 2))) (.seq (.raise x_TooFar (.cons (.var 0) .nil))
 .skip) .skip)
 .skip)
/-! check_count: 0 many, 1 low, 2 high -/
def b_check_count : RS := (.seq (.ife (.or (.cmp .Lt (.var 0) (.var 1)) (.cmp .Gt (.var 0) (.var 2))) (.seq (.raise x_WrongCount (.cons (.var 0) .nil))
 .skip) .skip)
 .skip)
/-! choose: 0 n, 1 k -/
def b_choose : RS := (.seq (.expr (.call f_check_range (.cons (.var 0) (.cons (.int 0) (.cons (.int 60) .nil)))))
 (.seq (.expr (.call f_check_range (.cons (.var 1) (.cons (.neg (.int 60)) (.cons (.int 60) .nil)))))
 (.seq (.ife (.cmp .Lt (.var 1) (.int 0)) (.seq (.ret (.int 0))
 .skip) .skip)
 (.seq (.ret (.mfn 0 (.cons (.var 0) (.cons (.var 1) .nil))))
 .skip))))
/-! all_threes: 0 many, 1 a, 2 b, 3 c -/
def e_all_threes_1 : RE := (.comp [1, 2, 3] (.nm 1) (.rng1 (.var 0)) (.forc (.nm 2) (.rng2 (.bin .Add (.var 1) (.int 1)) (.var 0)) (.forc (.nm 3) (.rng2 (.bin .Add (.var 2) (.int 1)) (.var 0)) (.one (.tup (.cons (.var 1) (.cons (.var 2) (.cons (.var 3) .nil))))))))
def b_all_threes : RS := (.seq (.ret e_all_threes_1)
 .skip)
/-! line_counts: 0 floor, 1 numbers, 2 a, 3 b -/
def e_line_counts_1 : RE := (.dcomp true [2, 3] (.nm 2) (.var 1) (.forc (.nm 3) (.var 1) (.ifc (.cmp .NotEq (.var 2) (.var 3)) (.kv (.tup (.cons (.var 2) (.cons (.var 3) .nil))) (.call f_left_count (.cons (.var 0) (.cons (.var 2) (.cons (.var 3) .nil))))))))
def b_line_counts : RS := (.seq (.asg 1 (.rgv (.dlen m_len (.var 0))))
 (.seq (.ret e_line_counts_1)
 .skip))
/-! left_count: 0 floor, 1 a, 2 b, 3 c -/
def e_left_count_1 : RE := (.comp [3] (.nm 3) (.rng1 (.dlen m_len (.var 0))) (.ifc (.and (.cmp .NotIn (.var 3) (.tup (.cons (.var 1) (.cons (.var 2) .nil)))) (.cmp .Eq (.meth (.var 0) m_quick_turn (.cons (.var 1) (.cons (.var 2) (.cons (.var 3) .nil)))) (.int 1))) (.one (.var 3))))
def b_left_count : RS := (.seq (.ret (.blt .len (.cons e_left_count_1 .nil)))
 .skip)
/-! line_row: 0 floor, 1 counts, 2 j, 3 line -/
def e_line_row_1 : RE := (.comp [3] (.nm 3) (.var 1) (.ifc (.cmp .Eq (.item (.var 1) (.var 3)) (.var 2)) (.one (.var 3))))
def e_line_row_2 : RE := (.comp [2] (.nm 2) (.rng1 (.bin .Sub (.dlen m_len (.var 0)) (.int 1))) (.one (.blt .len (.cons e_line_row_1 .nil))))
def b_line_row : RS := (.seq (.asg 1 (.call f_line_counts (.cons (.var 0) .nil)))
 (.seq (.ret e_line_row_2)
 .skip))
/-! corner_row: 0 floor, 1 many, 2 row, 3 size, 4 j -/
def e_corner_row_1 : RE := (.comp [4] (.nm 4) (.rng1 (.bin .Sub (.var 1) (.int 1))) (.one (.bin .Mult (.item (.var 2) (.var 4)) (.call f_choose (.cons (.bin .Sub (.bin .Sub (.var 1) (.int 2)) (.var 4)) (.cons (.bin .Sub (.var 3) (.int 2)) .nil))))))
def e_corner_row_2 : RE := (.comp [3] (.nm 3) (.rng2 (.int 3) (.bin .Add (.var 1) (.int 1))) (.one (.blt .sum (.cons e_corner_row_1 .nil))))
def b_corner_row : RS := (.seq (.asg 1 (.dlen m_len (.var 0)))
 (.seq (.asg 2 (.call f_line_row (.cons (.var 0) .nil)))
 (.seq (.ret e_corner_row_2)
 .skip)))
/-! sign_of: 0 value -/
def b_sign_of : RS := (.seq (.ife (.cmp .Gt (.var 0) (.int 0)) (.seq (.ret (.int 1))
 .skip) .skip)
 (.seq (.ife (.cmp .Lt (.var 0) (.int 0)) (.seq (.ret (.neg (.int 1)))
 .skip) .skip)
 (.seq (.ret (.int 0))
 .skip)))
/-! quick_area: 0 p, 1 q, 2 r -/
def b_quick_area : RS := (.seq (.ret (.bin .Sub (.bin .Mult (.bin .Sub (.item (.var 1) (.int 0)) (.item (.var 0) (.int 0))) (.bin .Sub (.item (.var 2) (.int 1)) (.item (.var 0) (.int 1)))) (.bin .Mult (.bin .Sub (.item (.var 1) (.int 1)) (.item (.var 0) (.int 1))) (.bin .Sub (.item (.var 2) (.int 0)) (.item (.var 0) (.int 0))))))
 .skip)
/-! turn_table: 0 points, 1 table, 2 a, 3 b, 4 c, 5 turn -/
def l_turn_table_1 : RS := (.for_ (.cons (.nm 2) (.cons (.nm 3) (.cons (.nm 4) .nil))) (.call f_all_threes (.cons (.blt .len (.cons (.var 0) .nil)) .nil)) (.seq (.asg 5 (.call f_sign_of (.cons (.call f_quick_area (.cons (.item (.var 0) (.var 2)) (.cons (.item (.var 0) (.var 3)) (.cons (.item (.var 0) (.var 4)) .nil)))) .nil)))
 (.seq (.ife (.cmp .Eq (.var 5) (.int 0)) (.seq (.raise x_OnLine (.cons (.tup (.cons (.var 2) (.cons (.var 3) (.cons (.var 4) .nil)))) .nil))
 .skip) .skip)
 (.seq (.setK 1 (.cons (.tup (.cons (.var 2) (.cons (.var 3) (.cons (.var 4) .nil)))) (.cons (.tup (.cons (.var 3) (.cons (.var 4) (.cons (.var 2) .nil)))) (.cons (.tup (.cons (.var 4) (.cons (.var 2) (.cons (.var 3) .nil)))) .nil))) (.var 5))
 (.seq (.setK 1 (.cons (.tup (.cons (.var 2) (.cons (.var 4) (.cons (.var 3) .nil)))) (.cons (.tup (.cons (.var 4) (.cons (.var 3) (.cons (.var 2) .nil)))) (.cons (.tup (.cons (.var 3) (.cons (.var 2) (.cons (.var 4) .nil)))) .nil))) (.neg (.var 5)))
 .skip)))))
def b_turn_table : RS := (.seq (.newT 1)
 (.seq l_turn_table_1
 (.seq (.ret (.var 1))
 .skip)))
/-! check_row: 0 row, 1 least, 2 entry -/
def l_check_row_1 : RS := (.for_ (.nm 2) (.var 0) (.seq (.expr (.call f_check_range (.cons (.var 2) (.cons (.neg (.gint "GREATEST" 10000000000000000000000000000000000000000)) (.cons (.gint "GREATEST" 10000000000000000000000000000000000000000) .nil)))))
 .skip))
def b_check_row : RS := (.seq (.expr (.call f_check_count (.cons (.blt .len (.cons (.var 0) .nil)) (.cons (.var 1) (.cons (.gint "MOST_ENTRIES" 64) .nil)))))
 (.seq l_check_row_1
 .skip))
/-! spread: 0 row, 1 many, 2 s, 3 m -/
def e_spread_1 : RE := (.comp [3] (.nm 3) (.rng2 (.var 2) (.var 1)) (.one (.bin .Mult (.item (.var 0) (.var 3)) (.mfn 0 (.cons (.var 3) (.cons (.var 2) .nil))))))
def e_spread_2 : RE := (.comp [2] (.nm 2) (.rng1 (.var 1)) (.one (.blt .sum (.cons e_spread_1 .nil))))
def b_spread : RS := (.seq (.expr (.call f_check_row (.cons (.var 0) (.cons (.int 0) .nil))))
 (.seq (.asg 1 (.blt .len (.cons (.var 0) .nil)))
 (.seq (.ret e_spread_2)
 .skip)))
/-! gather: 0 row, 1 many, 2 m, 3 s -/
def e_gather_1 : RE := (.comp [3] (.nm 3) (.rng2 (.var 2) (.var 1)) (.one (.call f_signed (.cons (.bin .Sub (.var 3) (.var 2)) (.cons (.bin .Mult (.mfn 0 (.cons (.var 3) (.cons (.var 2) .nil))) (.item (.var 0) (.var 3))) .nil)))))
def e_gather_2 : RE := (.comp [2] (.nm 2) (.rng1 (.var 1)) (.one (.blt .sum (.cons e_gather_1 .nil))))
def b_gather : RS := (.seq (.expr (.call f_check_row (.cons (.var 0) (.cons (.int 0) .nil))))
 (.seq (.asg 1 (.blt .len (.cons (.var 0) .nil)))
 (.seq (.ret e_gather_2)
 .skip)))
/-! signed: 0 distance, 1 value -/
def b_signed : RS := (.seq (.ife (.cmp .Eq (.bin .Mod (.var 0) (.int 2)) (.int 1)) (.seq (.ret (.neg (.var 1)))
 .skip) .skip)
 (.seq (.ret (.var 1))
 .skip))
/-! _law_cell: 0 _law_cells, 1 _law_place -/
def b_law_cell : RS := (.seq (.ife (.cmp .Lt (.var 1) (.blt .len (.cons (.var 0) .nil))) (.seq (.ret (.blt .abs (.cons (.item (.var 0) (.var 1)) .nil)))
 .skip) .skip)
 (.seq (.ret (.int 0))
 .skip))
/-! _law_drawn: 0 _law_cells, 1 _law_many, 2 _law_wide, 3 _law_across, 4 _law_up, 5 _law_points, 6 _law_k, 7 _law_c, 8 _law_x, 9 _law_y -/
def l_law_drawn_1 : RS := (.for_ (.nm 6) (.rng1 (.var 1)) (.seq (.asg 7 (.call f_law_cell (.cons (.var 0) (.cons (.bin .Add (.int 1) (.var 6)) .nil))))
 (.seq (.asg 8 (.bin .Add (.bin .Sub (.item (.var 3) (.var 6)) (.int 30)) (.bin .Mod (.blt .int (.cons (.var 7) .nil)) (.int 97))))
 (.seq (.asg 9 (.bin .Add (.bin .Sub (.item (.var 4) (.var 6)) (.int 30)) (.bin .Mod (.blt .int (.cons (.bin .FloorDiv (.var 7) (.int 97)) .nil)) (.int 97))))
 (.seq (.ife (.var 2) (.seq (.asg 8 (.bin .Sub (.bin .Mod (.blt .int (.cons (.bin .Add (.var 7) (.bin .Mult (.item (.var 3) (.var 6)) (.int 10007))) .nil)) (.int 2000001)) (.int 1000000)))
 (.seq (.asg 9 (.bin .Sub (.bin .Mod (.blt .int (.cons (.bin .Add (.bin .FloorDiv (.var 7) (.int 2000001)) (.bin .Mult (.item (.var 4) (.var 6)) (.int 20011))) .nil)) (.int 2000001)) (.int 1000000)))
 .skip)) .skip)
 (.seq (.app 5 (.tup (.cons (.var 8) (.cons (.var 9) .nil))))
 .skip))))))
def b_law_drawn : RS := (.seq (.asg 3 (.tup (.cons (.int 0) (.cons (.int 61) (.cons (.int 17) (.cons (.int 35) (.cons (.int 52) (.cons (.int 8) (.cons (.int 44) (.cons (.int 27) (.cons (.int 70) (.cons (.int 13) .nil))))))))))))
 (.seq (.asg 4 (.tup (.cons (.int 0) (.cons (.int 7) (.cons (.int 58) (.cons (.int 23) (.cons (.int 41) (.cons (.int 31) (.cons (.int 12) (.cons (.int 66) (.cons (.int 29) (.cons (.int 47) .nil))))))))))))
 (.seq (.asgF 5 (.lst .nil))
 (.seq l_law_drawn_1
 (.seq (.ret (.var 5))
 .skip)))))
/-! _law_area: 0 _law_p, 1 _law_q, 2 _law_r, 3 _law_first, 4 _law_second, 5 _law_third -/
def b_law_area : RS := (.seq (.asg 3 (.bin .Sub (.bin .Mult (.item (.var 0) (.int 0)) (.item (.var 1) (.int 1))) (.bin .Mult (.item (.var 1) (.int 0)) (.item (.var 0) (.int 1)))))
 (.seq (.asg 4 (.bin .Sub (.bin .Mult (.item (.var 1) (.int 0)) (.item (.var 2) (.int 1))) (.bin .Mult (.item (.var 2) (.int 0)) (.item (.var 1) (.int 1)))))
 (.seq (.asg 5 (.bin .Sub (.bin .Mult (.item (.var 2) (.int 0)) (.item (.var 0) (.int 1))) (.bin .Mult (.item (.var 0) (.int 0)) (.item (.var 2) (.int 1)))))
 (.seq (.ret (.bin .Add (.bin .Add (.var 3) (.var 4)) (.var 5)))
 .skip))))
/-! _law_refusal: 0 _law_points, 1 _law_p, 2 _law_a, 3 _law_value, 4 _law_b, 5 _law_c -/
def l_law_refusal_1 : RS := (.for_ (.nm 3) (.var 1) (.seq (.ife (.cmp .Gt (.blt .abs (.cons (.var 3) .nil)) (.int 1000000)) (.seq (.ret (.tup (.cons (.str "raised") (.cons (.str "TooFar") (.cons (.var 3) (.cons (.bl true) .nil))))))
 .skip) .skip)
 .skip))
def l_law_refusal_2 : RS := (.for_ (.nm 1) (.var 0) (.seq l_law_refusal_1
 .skip))
def l_law_refusal_3 : RS := (.for_ (.nm 5) (.rng2 (.bin .Add (.var 4) (.int 1)) (.blt .len (.cons (.var 0) .nil))) (.seq (.ife (.cmp .Eq (.call f_law_area (.cons (.item (.var 0) (.var 2)) (.cons (.item (.var 0) (.var 4)) (.cons (.item (.var 0) (.var 5)) .nil)))) (.int 0)) (.seq (.ret (.tup (.cons (.str "raised") (.cons (.str "OnLine") (.cons (.tup (.cons (.var 2) (.cons (.var 4) (.cons (.var 5) .nil)))) (.cons (.bl true) .nil))))))
 .skip) .skip)
 .skip))
def l_law_refusal_4 : RS := (.for_ (.nm 4) (.rng2 (.bin .Add (.var 2) (.int 1)) (.blt .len (.cons (.var 0) .nil))) (.seq l_law_refusal_3
 .skip))
def l_law_refusal_5 : RS := (.for_ (.nm 2) (.rng1 (.blt .len (.cons (.var 0) .nil))) (.seq l_law_refusal_4
 .skip))
def b_law_refusal : RS := (.seq (.ife (.or (.cmp .Lt (.blt .len (.cons (.var 0) .nil)) (.int 3)) (.cmp .Gt (.blt .len (.cons (.var 0) .nil)) (.int 10))) (.seq (.ret (.tup (.cons (.str "raised") (.cons (.str "WrongCount") (.cons (.blt .len (.cons (.var 0) .nil)) (.cons (.bl true) .nil))))))
 .skip) .skip)
 (.seq l_law_refusal_2
 (.seq l_law_refusal_5
 (.seq (.ret (.tup (.cons (.str "floor") (.cons (.str "") (.cons (.blt .tuple (.cons (.var 0) .nil)) (.cons (.bl true) .nil))))))
 .skip))))
/-! _law_made: 0 _law_points, 1 e, 2 _law_floor, 3 _law_alone -/
def b_law_made : RS := (.seq (.try_ (.seq (.asg 2 (.new c_Floor (.cons (.var 0) .nil)))
 .skip) (.hcons x_WrongCount 1 (.seq (.asg 3 (.and (.curis [x_BowlError]) (.curis [x_ValueError])))
 (.seq (.ret (.tup (.cons (.str "raised") (.cons (.str "WrongCount") (.cons (.curf a_count) (.cons (.and (.var 3) (.not (.curis [x_OnLine, x_TooFar]))) .nil))))))
 .skip)) (.hcons x_TooFar 1 (.seq (.asg 3 (.and (.curis [x_BowlError]) (.curis [x_ValueError])))
 (.seq (.ret (.tup (.cons (.str "raised") (.cons (.str "TooFar") (.cons (.curf a_value) (.cons (.and (.var 3) (.not (.curis [x_OnLine, x_WrongCount]))) .nil))))))
 .skip)) (.hcons x_OnLine 1 (.seq (.asg 3 (.and (.curis [x_BowlError]) (.curis [x_ValueError])))
 (.seq (.ret (.tup (.cons (.str "raised") (.cons (.str "OnLine") (.cons (.curf a_numbers) (.cons (.and (.var 3) (.not (.curis [x_TooFar, x_WrongCount]))) .nil))))))
 .skip)) .hnil))))
 (.seq (.ret (.tup (.cons (.str "floor") (.cons (.str "") (.cons (.attr (.var 2) a_points) (.cons (.isi (.var 2) (10 + c_Floor)) .nil))))))
 .skip))
/-! _law_whole: 0 _law_thing -/
def b_law_whole : RS := (.seq (.ret (.and (.isi (.var 0) 0) (.not (.isi (.var 0) 1))))
 .skip)
/-! _law_is_within: 0 _law_points, 1 _law_number, 2 _law_three, 3 _law_p, 4 _law_one, 5 _law_two, 6 _law_last, 7 _law_a, 8 _law_b, 9 _law_c, 10 _law_k -/
def e_law_is_within_1 : RE := (.comp [10] (.nm 10) (.var 2) (.one (.item (.var 0) (.var 10))))
def b_law_is_within : RS := (.seq (.asg 3 (.item (.var 0) (.var 1)))
 (.seq (.asgT (.cons (.nm 7) (.cons (.nm 8) (.cons (.nm 9) .nil))) e_law_is_within_1)
 (.seq (.asg 4 (.cmp .Gt (.call f_law_area (.cons (.var 7) (.cons (.var 8) (.cons (.var 3) .nil)))) (.int 0)))
 (.seq (.asg 5 (.cmp .Gt (.call f_law_area (.cons (.var 8) (.cons (.var 9) (.cons (.var 3) .nil)))) (.int 0)))
 (.seq (.asg 6 (.cmp .Gt (.call f_law_area (.cons (.var 9) (.cons (.var 7) (.cons (.var 3) .nil)))) (.int 0)))
 (.seq (.ret (.and (.cmp .Eq (.var 4) (.var 5)) (.cmp .Eq (.var 5) (.var 6))))
 .skip))))))
/-! _law_holders: 0 _law_points, 1 _law_number, 2 _law_masks, 3 _law_a, 4 _law_b, 5 _law_c, 6 _law_three -/
def l_law_holders_1 : RS := (.for_ (.nm 5) (.rng1 (.var 4)) (.seq (.asg 6 (.tup (.cons (.var 3) (.cons (.var 4) (.cons (.var 5) .nil)))))
 (.seq (.ife (.and (.cmp .NotIn (.var 1) (.var 6)) (.call f_law_is_within (.cons (.var 0) (.cons (.var 1) (.cons (.var 6) .nil))))) (.seq (.app 2 (.bin .Add (.bin .Add (.bin .LShift (.int 1) (.var 3)) (.bin .LShift (.int 1) (.var 4))) (.bin .LShift (.int 1) (.var 5))))
 .skip) .skip)
 .skip)))
def l_law_holders_2 : RS := (.for_ (.nm 4) (.rng1 (.var 3)) (.seq l_law_holders_1
 .skip))
def l_law_holders_3 : RS := (.for_ (.nm 3) (.rng1 (.blt .len (.cons (.var 0) .nil))) (.seq l_law_holders_2
 .skip))
def b_law_holders : RS := (.seq (.asgF 2 (.lst .nil))
 (.seq l_law_holders_3
 (.seq (.ret (.var 2))
 .skip)))
/-! _law_counted: 0 _law_points, 1 _law_many, 2 _law_around, 3 _law_counts, 4 _law_subset, 5 _law_numbers, 6 _law_k, 7 _law_number, 8 _law_held, 9 _law_mask -/
def e_law_counted_1 : RE := (.comp [7] (.nm 7) (.rng1 (.var 1)) (.one (.call f_law_holders (.cons (.var 0) (.cons (.var 7) .nil)))))
def e_law_counted_2 : RE := (.comp [6] (.nm 6) (.rng1 (.var 1)) (.ifc (.cmp .Eq (.bin .BitAnd (.bin .RShift (.var 4) (.var 6)) (.int 1)) (.int 1)) (.one (.var 6))))
def e_law_counted_3 : RE := (.comp [9] (.nm 9) (.item (.var 2) (.var 6)) (.ifc (.cmp .Eq (.bin .BitAnd (.var 9) (.var 4)) (.var 9)) (.one (.var 9))))
def l_law_counted_4 : RS := (.for_ (.nm 6) (.var 5) (.seq (.asg 8 e_law_counted_3)
 (.seq (.setL 3 (.blt .len (.cons (.var 5) .nil)) (.bin .Add (.item (.var 3) (.blt .len (.cons (.var 5) .nil))) (.blt .int (.cons (.cmp .Eq (.var 8) (.lst .nil)) .nil))))
 .skip)))
def l_law_counted_5 : RS := (.for_ (.nm 4) (.rng1 (.bin .LShift (.int 1) (.var 1))) (.seq (.asg 5 e_law_counted_2)
 (.seq l_law_counted_4
 .skip)))
def b_law_counted : RS := (.seq (.asg 1 (.blt .len (.cons (.var 0) .nil)))
 (.seq (.asg 2 e_law_counted_1)
 (.seq (.asgF 3 (.bin .Mult (.lst (.cons (.int 0) .nil)) (.bin .Add (.var 1) (.int 1))))
 (.seq l_law_counted_5
 (.seq (.ret (.cut (.var 3) (.part (.int 3)) .nopart))
 .skip)))))
/-! _law_row_due: 0 _law_points, 1 _law_many, 2 _law_row, 3 _law_p, 4 _law_q, 5 _law_left, 6 _law_r -/
def e_law_row_due_1 : RE := (.comp [6] (.nm 6) (.var 0) (.ifc (.cmp .Gt (.call f_law_area (.cons (.var 3) (.cons (.var 4) (.cons (.var 6) .nil)))) (.int 0)) (.one (.var 6))))
def l_law_row_due_2 : RS := (.for_ (.nm 4) (.var 0) (.seq (.ife (.cmp .NotEq (.var 3) (.var 4)) (.seq (.asg 5 (.blt .len (.cons e_law_row_due_1 .nil)))
 (.seq (.setL 2 (.var 5) (.bin .Add (.item (.var 2) (.var 5)) (.int 1)))
 .skip)) .skip)
 .skip))
def l_law_row_due_3 : RS := (.for_ (.nm 3) (.var 0) (.seq l_law_row_due_2
 .skip))
def b_law_row_due : RS := (.seq (.asg 1 (.blt .len (.cons (.var 0) .nil)))
 (.seq (.asgF 2 (.bin .Mult (.lst (.cons (.int 0) .nil)) (.bin .Sub (.var 1) (.int 1))))
 (.seq l_law_row_due_3
 (.seq (.ret (.var 2))
 .skip))))
/-! _law_choose: 0 _law_n, 1 _law_k, 2 _law_value, 3 _law_i -/
def l_law_choose_1 : RS := (.for_ (.nm 3) (.rng1 (.var 1)) (.seq (.asg 2 (.bin .FloorDiv (.bin .Mult (.var 2) (.bin .Sub (.var 0) (.var 3))) (.bin .Add (.var 3) (.int 1))))
 .skip))
def b_law_choose : RS := (.seq (.asg 2 (.int 1))
 (.seq l_law_choose_1
 (.seq (.ret (.var 2))
 .skip)))
/-! _law_sums: 0 _law_row, 1 _law_many, 2 _law_sums_here, 3 _law_size, 4 _law_total, 5 _law_j -/
def l_law_sums_1 : RS := (.for_ (.nm 5) (.rng1 (.bin .Sub (.var 1) (.int 1))) (.seq (.asg 4 (.bin .Add (.var 4) (.bin .Mult (.item (.var 0) (.var 5)) (.call f_law_choose (.cons (.bin .Sub (.bin .Sub (.var 1) (.int 2)) (.var 5)) (.cons (.bin .Sub (.var 3) (.int 2)) .nil))))))
 .skip))
def l_law_sums_2 : RS := (.for_ (.nm 3) (.rng2 (.int 3) (.bin .Add (.var 1) (.int 1))) (.seq (.asg 4 (.int 0))
 (.seq l_law_sums_1
 (.seq (.app 2 (.var 4))
 .skip))))
def b_law_sums : RS := (.seq (.asg 1 (.bin .Add (.blt .len (.cons (.var 0) .nil)) (.int 1)))
 (.seq (.asgF 2 (.lst .nil))
 (.seq l_law_sums_2
 (.seq (.ret (.var 2))
 .skip))))
/-! _law_told: 0 _law_name, 1 _law_given, 2 _law_kept, 3 _law_got, 4 _law_value -/
def e_law_told_1 : RE := (.comp [4] (.nm 4) (.var 3) (.one (.call f_law_whole (.cons (.var 4) .nil))))
def b_law_told : RS := (.seq (.ife (.cmp .Eq (.var 0) (.str "corners")) (.seq (.asgF 3 (.call f_corner_row (.cons (.var 1) .nil)))
 .skip) (.seq (.ife (.cmp .Eq (.var 0) (.str "lines")) (.seq (.asgF 3 (.call f_line_row (.cons (.var 1) .nil)))
 .skip) (.seq (.ife (.cmp .Eq (.var 0) (.str "spread")) (.seq (.asgF 3 (.call f_spread (.cons (.var 1) .nil)))
 .skip) (.seq (.asgF 3 (.call f_gather (.cons (.var 1) .nil)))
 .skip))
 .skip))
 .skip))
 (.seq (.ife (.or (.not (.isi (.var 3) 3)) (.cmp .In (.bl false) e_law_told_1)) (.seq (.ret .non)
 .skip) .skip)
 (.seq (.asg 2 (.blt .list (.cons (.var 3) .nil)))
 (.seq (.app 3 (.int 1))
 (.seq (.revL 3)
 (.seq (.ret (.var 2))
 .skip))))))
/-! law: 0 _law_script, 1 _law_cells, 2 _law_c, 3 _law_many, 4 _law_points, 5 _law_due, 6 _law_floor, 7 _law_row, 8 _law_sums_here, 9 _law_k -/
def l_law_1 : RS := (.for_ (.nm 9) (.rng1 (.int 2)) (.seq (.ife (.or (.cmp .NotEq (.call f_law_told (.cons (.str "corners") (.cons (.var 6) .nil))) (.var 8)) (.cmp .NotEq (.call f_law_told (.cons (.str "lines") (.cons (.var 6) .nil))) (.var 7))) (.seq (.ret (.bl false))
 .skip) .skip)
 .skip))
def b_law : RS := (.seq (.asg 1 (.cut (.var 0) .nopart (.part (.int 63))))
 (.seq (.asg 2 (.call f_law_cell (.cons (.var 1) (.cons (.int 0) .nil))))
 (.seq (.asg 3 (.item (.tup (.cons (.int 5) (.cons (.int 4) (.cons (.int 6) (.cons (.int 7) (.cons (.int 3) (.cons (.int 8) (.cons (.int 9) (.cons (.int 10) .nil))))))))) (.bin .Mod (.blt .int (.cons (.var 2) .nil)) (.int 8))))
 (.seq (.asg 4 (.call f_law_drawn (.cons (.var 1) (.cons (.var 3) (.cons (.cmp .Gt (.bin .Mod (.blt .int (.cons (.bin .FloorDiv (.var 2) (.int 8)) .nil)) (.int 5)) (.int 2)) .nil)))))
 (.seq (.asg 5 (.call f_law_refusal (.cons (.var 4) .nil)))
 (.seq (.ife (.cmp .NotEq (.call f_law_made (.cons (.blt .list (.cons (.var 4) .nil)) .nil)) (.var 5)) (.seq (.ret (.bl false))
 .skip) .skip)
 (.seq (.ife (.cmp .Eq (.item (.var 5) (.int 0)) (.str "raised")) (.seq (.ret (.bl true))
 .skip) .skip)
 (.seq (.asg 6 (.new c_Floor (.cons (.var 4) .nil)))
 (.seq (.asg 7 (.call f_law_row_due (.cons (.var 4) .nil)))
 (.seq (.asg 8 (.call f_law_sums (.cons (.var 7) .nil)))
 (.seq l_law_1
 (.seq (.ife (.and (.cmp .Lt (.var 3) (.int 8)) (.cmp .NotEq (.call f_law_counted (.cons (.var 4) .nil)) (.var 8))) (.seq (.ret (.bl false))
 .skip) .skip)
 (.seq (.ife (.cmp .NotEq (.call f_law_told (.cons (.str "spread") (.cons (.blt .list (.cons (.var 7) .nil)) .nil))) (.bin .Add (.lst (.cons (.bin .Mult (.var 3) (.bin .Sub (.var 3) (.int 1))) .nil)) (.var 8))) (.seq (.ret (.bl false))
 .skip) .skip)
 (.seq (.ret (.cmp .Eq (.call f_law_told (.cons (.str "gather") (.cons (.bin .Add (.lst (.cons (.bin .Mult (.var 3) (.bin .Sub (.var 3) (.int 1))) .nil)) (.var 8)) .nil))) (.var 7)))
 .skip))))))))))))))
/-! Floor.__init__: 0 self, 1 points, 2 x, 3 y -/
def l_Floor___init___1 : RS := (.for_ (.cons (.nm 2) (.cons (.nm 3) .nil)) (.var 1) (.seq (.expr (.call f_check_range (.cons (.var 2) (.cons (.neg (.con (.var 0) a_FAR)) (.cons (.con (.var 0) a_FAR) .nil)))))
 (.seq (.expr (.call f_check_range (.cons (.var 3) (.cons (.neg (.con (.var 0) a_FAR)) (.cons (.con (.var 0) a_FAR) .nil)))))
 .skip)))
def b_Floor___init__ : RS := (.seq (.expr (.call f_check_count (.cons (.blt .len (.cons (.var 1) .nil)) (.cons (.con (.var 0) a_LEAST) (.cons (.con (.var 0) a_MOST) .nil)))))
 (.seq l_Floor___init___1
 (.seq (.setF 0 a_points (.blt .tuple (.cons (.var 1) .nil)))
 (.seq (.setF 0 a_turns (.call f_turn_table (.cons (.attr (.var 0) a_points) .nil)))
 .skip))))
/-! Floor.__len__: 0 self -/
def b_Floor___len__ : RS := (.seq (.ret (.blt .len (.cons (.attr (.var 0) a_points) .nil)))
 .skip)
/-! Floor.quick_turn: 0 self, 1 a, 2 b, 3 c -/
def b_Floor_quick_turn : RS := (.seq (.ret (.item (.attr (.var 0) a_turns) (.tup (.cons (.var 1) (.cons (.var 2) (.cons (.var 3) .nil))))))
 .skip)
def T : Tabs := { meth := [(0, 0, 30), (0, 1, 31)], fld := [(0, 3, 0), (0, 7, 1)], con := [(0, 5, 3), (0, 4, 10), (0, 6, 1000000)], isi := [(0, 0, true), (0, 1, false), (0, 3, false), (0, 10, false), (1, 0, true), (1, 1, true), (1, 3, false), (1, 10, false), (2, 0, false), (2, 1, false), (2, 3, false), (2, 10, false), (3, 0, false), (3, 1, false), (3, 3, true), (3, 10, false), (4, 0, false), (4, 1, false), (4, 3, false), (4, 10, false), (5, 0, false), (5, 1, false), (5, 3, false), (5, 10, false), (10, 0, false), (10, 1, false), (10, 3, false), (10, 10, true)], xfld := [(2, 2, 0), (3, 1, 0), (6, 0, 0)], exm := [(2, 0, true), (2, 1, true), (2, 2, true), (2, 3, false), (2, 6, false), (3, 0, true), (3, 1, true), (3, 2, false), (3, 3, true), (3, 6, false), (6, 0, true), (6, 1, true), (6, 2, false), (6, 3, false), (6, 6, true)], xlen := [(2, 1), (3, 1), (6, 1)] }
def P : Prog := ⟨fun f => ([⟨3, 3, b_check_range⟩, ⟨3, 3, b_check_count⟩, ⟨2, 2, b_choose⟩, ⟨1, 4, b_all_threes⟩, ⟨1, 4, b_line_counts⟩, ⟨3, 4, b_left_count⟩, ⟨1, 4, b_line_row⟩, ⟨1, 5, b_corner_row⟩, ⟨1, 1, b_sign_of⟩, ⟨3, 3, b_quick_area⟩, ⟨1, 6, b_turn_table⟩, ⟨2, 3, b_check_row⟩, ⟨1, 4, b_spread⟩, ⟨1, 4, b_gather⟩, ⟨2, 2, b_signed⟩, ⟨2, 2, b_law_cell⟩, ⟨3, 10, b_law_drawn⟩, ⟨3, 6, b_law_area⟩, ⟨1, 6, b_law_refusal⟩, ⟨1, 4, b_law_made⟩, ⟨1, 1, b_law_whole⟩, ⟨3, 11, b_law_is_within⟩, ⟨2, 7, b_law_holders⟩, ⟨1, 10, b_law_counted⟩, ⟨1, 7, b_law_row_due⟩, ⟨2, 4, b_law_choose⟩, ⟨1, 6, b_law_sums⟩, ⟨2, 5, b_law_told⟩, ⟨1, 10, b_law⟩, ⟨2, 4, b_Floor___init__⟩, ⟨1, 1, b_Floor___len__⟩, ⟨4, 4, b_Floor_quick_turn⟩] : List Fn).getD f ⟨0, 0, .skip⟩, fun c => ([29] : List Nat).getD c 0, T.stat⟩
@[simp] theorem st_T : P.st = T.stat := eqt rfl
@[simp] theorem tm_0_0 : T.stat.meth c_Floor m_len = some f_Floor___len__ := eqt rfl
@[simp] theorem tm_0_1 : T.stat.meth c_Floor m_quick_turn = some f_Floor_quick_turn := eqt rfl
@[simp] theorem tf_0_3 : T.stat.fld c_Floor a_points = some 0 := eqt rfl
@[simp] theorem tf_0_7 : T.stat.fld c_Floor a_turns = some 1 := eqt rfl
@[simp] theorem tc_0_5 : T.stat.con c_Floor a_LEAST = some (3) := eqt rfl
@[simp] theorem tc_0_4 : T.stat.con c_Floor a_MOST = some (10) := eqt rfl
@[simp] theorem tc_0_6 : T.stat.con c_Floor a_FAR = some (1000000) := eqt rfl
@[simp] theorem ti_0_0 : T.stat.isi 0 0 = some true := eqt rfl
@[simp] theorem ti_0_1 : T.stat.isi 0 1 = some false := eqt rfl
@[simp] theorem ti_0_3 : T.stat.isi 0 3 = some false := eqt rfl
@[simp] theorem ti_0_10 : T.stat.isi 0 10 = some false := eqt rfl
@[simp] theorem ti_1_0 : T.stat.isi 1 0 = some true := eqt rfl
@[simp] theorem ti_1_1 : T.stat.isi 1 1 = some true := eqt rfl
@[simp] theorem ti_1_3 : T.stat.isi 1 3 = some false := eqt rfl
@[simp] theorem ti_1_10 : T.stat.isi 1 10 = some false := eqt rfl
@[simp] theorem ti_2_0 : T.stat.isi 2 0 = some false := eqt rfl
@[simp] theorem ti_2_1 : T.stat.isi 2 1 = some false := eqt rfl
@[simp] theorem ti_2_3 : T.stat.isi 2 3 = some false := eqt rfl
@[simp] theorem ti_2_10 : T.stat.isi 2 10 = some false := eqt rfl
@[simp] theorem ti_3_0 : T.stat.isi 3 0 = some false := eqt rfl
@[simp] theorem ti_3_1 : T.stat.isi 3 1 = some false := eqt rfl
@[simp] theorem ti_3_3 : T.stat.isi 3 3 = some true := eqt rfl
@[simp] theorem ti_3_10 : T.stat.isi 3 10 = some false := eqt rfl
@[simp] theorem ti_4_0 : T.stat.isi 4 0 = some false := eqt rfl
@[simp] theorem ti_4_1 : T.stat.isi 4 1 = some false := eqt rfl
@[simp] theorem ti_4_3 : T.stat.isi 4 3 = some false := eqt rfl
@[simp] theorem ti_4_10 : T.stat.isi 4 10 = some false := eqt rfl
@[simp] theorem ti_5_0 : T.stat.isi 5 0 = some false := eqt rfl
@[simp] theorem ti_5_1 : T.stat.isi 5 1 = some false := eqt rfl
@[simp] theorem ti_5_3 : T.stat.isi 5 3 = some false := eqt rfl
@[simp] theorem ti_5_10 : T.stat.isi 5 10 = some false := eqt rfl
@[simp] theorem ti_10_0 : T.stat.isi 10 0 = some false := eqt rfl
@[simp] theorem ti_10_1 : T.stat.isi 10 1 = some false := eqt rfl
@[simp] theorem ti_10_3 : T.stat.isi 10 3 = some false := eqt rfl
@[simp] theorem ti_10_10 : T.stat.isi 10 10 = some true := eqt rfl
@[simp] theorem tx_2_2 : T.stat.xfld x_WrongCount a_count = some 0 := eqt rfl
@[simp] theorem tx_3_1 : T.stat.xfld x_TooFar a_value = some 0 := eqt rfl
@[simp] theorem tx_6_0 : T.stat.xfld x_OnLine a_numbers = some 0 := eqt rfl
@[simp] theorem te_2_0 : T.stat.exm x_WrongCount x_ValueError = some true := eqt rfl
@[simp] theorem te_2_1 : T.stat.exm x_WrongCount x_BowlError = some true := eqt rfl
@[simp] theorem te_2_2 : T.stat.exm x_WrongCount x_WrongCount = some true := eqt rfl
@[simp] theorem te_2_3 : T.stat.exm x_WrongCount x_TooFar = some false := eqt rfl
@[simp] theorem te_2_6 : T.stat.exm x_WrongCount x_OnLine = some false := eqt rfl
@[simp] theorem te_3_0 : T.stat.exm x_TooFar x_ValueError = some true := eqt rfl
@[simp] theorem te_3_1 : T.stat.exm x_TooFar x_BowlError = some true := eqt rfl
@[simp] theorem te_3_2 : T.stat.exm x_TooFar x_WrongCount = some false := eqt rfl
@[simp] theorem te_3_3 : T.stat.exm x_TooFar x_TooFar = some true := eqt rfl
@[simp] theorem te_3_6 : T.stat.exm x_TooFar x_OnLine = some false := eqt rfl
@[simp] theorem te_6_0 : T.stat.exm x_OnLine x_ValueError = some true := eqt rfl
@[simp] theorem te_6_1 : T.stat.exm x_OnLine x_BowlError = some true := eqt rfl
@[simp] theorem te_6_2 : T.stat.exm x_OnLine x_WrongCount = some false := eqt rfl
@[simp] theorem te_6_3 : T.stat.exm x_OnLine x_TooFar = some false := eqt rfl
@[simp] theorem te_6_6 : T.stat.exm x_OnLine x_OnLine = some true := eqt rfl
@[simp] theorem tl_2 : T.stat.xlen x_WrongCount = 1 := eqt rfl
@[simp] theorem tl_3 : T.stat.xlen x_TooFar = 1 := eqt rfl
@[simp] theorem tl_6 : T.stat.xlen x_OnLine = 1 := eqt rfl
theorem run_check_range (n : Nat) (p0 p1 p2 : D) : vC (P.ctx (n + 1)) f_check_range [p0, p1, p2] = resOf (vS (P.ctx n) none b_check_range [p0, p1, p2]) := run_of rfl rfl rfl
theorem run_check_count (n : Nat) (p0 p1 p2 : D) : vC (P.ctx (n + 1)) f_check_count [p0, p1, p2] = resOf (vS (P.ctx n) none b_check_count [p0, p1, p2]) := run_of rfl rfl rfl
theorem run_choose (n : Nat) (p0 p1 : D) : vC (P.ctx (n + 1)) f_choose [p0, p1] = resOf (vS (P.ctx n) none b_choose [p0, p1]) := run_of rfl rfl rfl
theorem run_all_threes (n : Nat) (p0 : D) : vC (P.ctx (n + 1)) f_all_threes [p0] = resOf (vS (P.ctx n) none b_all_threes [p0, .un, .un, .un]) := run_of rfl rfl rfl
theorem run_line_counts (n : Nat) (p0 : D) : vC (P.ctx (n + 1)) f_line_counts [p0] = resOf (vS (P.ctx n) none b_line_counts [p0, .un, .un, .un]) := run_of rfl rfl rfl
theorem run_left_count (n : Nat) (p0 p1 p2 : D) : vC (P.ctx (n + 1)) f_left_count [p0, p1, p2] = resOf (vS (P.ctx n) none b_left_count [p0, p1, p2, .un]) := run_of rfl rfl rfl
theorem run_line_row (n : Nat) (p0 : D) : vC (P.ctx (n + 1)) f_line_row [p0] = resOf (vS (P.ctx n) none b_line_row [p0, .un, .un, .un]) := run_of rfl rfl rfl
theorem run_corner_row (n : Nat) (p0 : D) : vC (P.ctx (n + 1)) f_corner_row [p0] = resOf (vS (P.ctx n) none b_corner_row [p0, .un, .un, .un, .un]) := run_of rfl rfl rfl
theorem run_sign_of (n : Nat) (p0 : D) : vC (P.ctx (n + 1)) f_sign_of [p0] = resOf (vS (P.ctx n) none b_sign_of [p0]) := run_of rfl rfl rfl
theorem run_quick_area (n : Nat) (p0 p1 p2 : D) : vC (P.ctx (n + 1)) f_quick_area [p0, p1, p2] = resOf (vS (P.ctx n) none b_quick_area [p0, p1, p2]) := run_of rfl rfl rfl
theorem run_turn_table (n : Nat) (p0 : D) : vC (P.ctx (n + 1)) f_turn_table [p0] = resOf (vS (P.ctx n) none b_turn_table [p0, .un, .un, .un, .un, .un]) := run_of rfl rfl rfl
theorem run_check_row (n : Nat) (p0 p1 : D) : vC (P.ctx (n + 1)) f_check_row [p0, p1] = resOf (vS (P.ctx n) none b_check_row [p0, p1, .un]) := run_of rfl rfl rfl
theorem run_spread (n : Nat) (p0 : D) : vC (P.ctx (n + 1)) f_spread [p0] = resOf (vS (P.ctx n) none b_spread [p0, .un, .un, .un]) := run_of rfl rfl rfl
theorem run_gather (n : Nat) (p0 : D) : vC (P.ctx (n + 1)) f_gather [p0] = resOf (vS (P.ctx n) none b_gather [p0, .un, .un, .un]) := run_of rfl rfl rfl
theorem run_signed (n : Nat) (p0 p1 : D) : vC (P.ctx (n + 1)) f_signed [p0, p1] = resOf (vS (P.ctx n) none b_signed [p0, p1]) := run_of rfl rfl rfl
theorem run_law_cell (n : Nat) (p0 p1 : D) : vC (P.ctx (n + 1)) f_law_cell [p0, p1] = resOf (vS (P.ctx n) none b_law_cell [p0, p1]) := run_of rfl rfl rfl
theorem run_law_drawn (n : Nat) (p0 p1 p2 : D) : vC (P.ctx (n + 1)) f_law_drawn [p0, p1, p2] = resOf (vS (P.ctx n) none b_law_drawn [p0, p1, p2, .un, .un, .un, .un, .un, .un, .un]) := run_of rfl rfl rfl
theorem run_law_area (n : Nat) (p0 p1 p2 : D) : vC (P.ctx (n + 1)) f_law_area [p0, p1, p2] = resOf (vS (P.ctx n) none b_law_area [p0, p1, p2, .un, .un, .un]) := run_of rfl rfl rfl
theorem run_law_refusal (n : Nat) (p0 : D) : vC (P.ctx (n + 1)) f_law_refusal [p0] = resOf (vS (P.ctx n) none b_law_refusal [p0, .un, .un, .un, .un, .un]) := run_of rfl rfl rfl
theorem run_law_made (n : Nat) (p0 : D) : vC (P.ctx (n + 1)) f_law_made [p0] = resOf (vS (P.ctx n) none b_law_made [p0, .un, .un, .un]) := run_of rfl rfl rfl
theorem run_law_whole (n : Nat) (p0 : D) : vC (P.ctx (n + 1)) f_law_whole [p0] = resOf (vS (P.ctx n) none b_law_whole [p0]) := run_of rfl rfl rfl
theorem run_law_is_within (n : Nat) (p0 p1 p2 : D) : vC (P.ctx (n + 1)) f_law_is_within [p0, p1, p2] = resOf (vS (P.ctx n) none b_law_is_within [p0, p1, p2, .un, .un, .un, .un, .un, .un, .un, .un]) := run_of rfl rfl rfl
theorem run_law_holders (n : Nat) (p0 p1 : D) : vC (P.ctx (n + 1)) f_law_holders [p0, p1] = resOf (vS (P.ctx n) none b_law_holders [p0, p1, .un, .un, .un, .un, .un]) := run_of rfl rfl rfl
theorem run_law_counted (n : Nat) (p0 : D) : vC (P.ctx (n + 1)) f_law_counted [p0] = resOf (vS (P.ctx n) none b_law_counted [p0, .un, .un, .un, .un, .un, .un, .un, .un, .un]) := run_of rfl rfl rfl
theorem run_law_row_due (n : Nat) (p0 : D) : vC (P.ctx (n + 1)) f_law_row_due [p0] = resOf (vS (P.ctx n) none b_law_row_due [p0, .un, .un, .un, .un, .un, .un]) := run_of rfl rfl rfl
theorem run_law_choose (n : Nat) (p0 p1 : D) : vC (P.ctx (n + 1)) f_law_choose [p0, p1] = resOf (vS (P.ctx n) none b_law_choose [p0, p1, .un, .un]) := run_of rfl rfl rfl
theorem run_law_sums (n : Nat) (p0 : D) : vC (P.ctx (n + 1)) f_law_sums [p0] = resOf (vS (P.ctx n) none b_law_sums [p0, .un, .un, .un, .un, .un]) := run_of rfl rfl rfl
theorem run_law_told (n : Nat) (p0 p1 : D) : vC (P.ctx (n + 1)) f_law_told [p0, p1] = resOf (vS (P.ctx n) none b_law_told [p0, p1, .un, .un, .un]) := run_of rfl rfl rfl
theorem run_law (n : Nat) (p0 : D) : vC (P.ctx (n + 1)) f_law [p0] = resOf (vS (P.ctx n) none b_law [p0, .un, .un, .un, .un, .un, .un, .un, .un, .un]) := run_of rfl rfl rfl
theorem new_Floor (n : Nat) (p1 : D) : vN (P.ctx (n + 1)) c_Floor [p1] = selfOf (vS (P.ctx n) none b_Floor___init__ [.ins c_Floor [], p1, .un, .un]) := new_of rfl rfl rfl
theorem run_Floor___len__ (n : Nat) (p0 : D) : vC (P.ctx (n + 1)) f_Floor___len__ [p0] = resOf (vS (P.ctx n) none b_Floor___len__ [p0]) := run_of rfl rfl rfl
theorem run_Floor_quick_turn (n : Nat) (p0 p1 p2 p3 : D) : vC (P.ctx (n + 1)) f_Floor_quick_turn [p0, p1, p2, p3] = resOf (vS (P.ctx n) none b_Floor_quick_turn [p0, p1, p2, p3]) := run_of rfl rfl rfl
end PD.Law
end

section
set_option Elab.async false
set_option linter.all false
set_option maxRecDepth 100000
namespace PD.Law
/-! GB: areas, sums over lists. -/
def ar (p q r : Int × Int) : Int := (q.1 - p.1) * (r.2 - p.2) - (q.2 - p.2) * (r.1 - p.1)
def sg (v : Int) : Int := if 0 < v then 1 else if v < 0 then -1 else 0
theorem sg_neg (v : Int) : sg (-v) = -sg v := by
  unfold sg
  split <;> split <;> (try split) <;> (try split) <;> omega
theorem sg_zero {v : Int} : sg v = 0 ↔ v = 0 := by
  unfold sg
  split <;> (try split) <;> omega
theorem ar_rot (p q r : Int × Int) : ar q r p = ar p q r := by unfold ar; grind
theorem ar_swp (p q r : Int × Int) : ar p r q = -ar p q r := by unfold ar; grind
theorem ar_swq (p q r : Int × Int) : ar q p r = -ar p q r := by unfold ar; grind
theorem ar_aab (p q : Int × Int) : ar p p q = 0 := by unfold ar; grind
theorem ar_aba (p q : Int × Int) : ar p q p = 0 := by unfold ar; grind
theorem ar_abb (p q : Int × Int) : ar p q q = 0 := by unfold ar; grind
/-! ### sums -/
section
variable {α β : Type}
/-- the sum of f over l -/
def S (l : List α) (f : α → Nat) : Nat := (l.map f).sum
@[simp] theorem S_nil (f : α → Nat) : S [] f = 0 := rfl
@[simp] theorem S_cons (a : α) (l : List α) (f : α → Nat) : S (a :: l) f = f a + S l f := by simp [S]
@[simp] theorem S_append (l m : List α) (f : α → Nat) : S (l ++ m) f = S l f + S m f := by simp [S]
theorem S_congr {l : List α} {f g : α → Nat} (h : ∀ a ∈ l, f a = g a) : S l f = S l g := by
  unfold S
  rw [List.map_congr_left h]
theorem S_zero (l : List α) : S l (fun _ => 0) = 0 := by
  induction l with
  | nil => rfl
  | cons a l ih => simp [ih]
theorem S_add (l : List α) (f g : α → Nat) : S l (fun a => f a + g a) = S l f + S l g := by
  induction l with
  | nil => rfl
  | cons a l ih => simp only [S_cons, ih]; omega
theorem S_mul (l : List α) (k : Nat) (f : α → Nat) : S l (fun a => k * f a) = k * S l f := by
  induction l with
  | nil => rfl
  | cons a l ih => simp only [S_cons, ih, Nat.mul_add]
theorem S_mulr (l : List α) (k : Nat) (f : α → Nat) : S l (fun a => f a * k) = S l f * k := by
  induction l with
  | nil => simp
  | cons a l ih => simp only [S_cons, ih, Nat.add_mul]
theorem S_const (l : List α) (k : Nat) : S l (fun _ => k) = l.length * k := by
  induction l with
  | nil => simp
  | cons a l ih => simp only [S_cons, ih, List.length_cons, Nat.add_mul]; omega
theorem S_swap (l : List α) (m : List β) (f : α → β → Nat) : S l (fun a => S m (fun b => f a b)) = S m (fun b => S l (fun a => f a b)) := by
  induction l with
  | nil => simp [S_zero]
  | cons a l ih => simp only [S_cons, S_add, ih]
theorem S_filter (l : List α) (p : α → Prop) [DecidablePred p] (f : α → Nat) : S (l.filter p) f = S l (fun a => if p a then f a else 0) := by
  induction l with
  | nil => rfl
  | cons a l ih => by_cases h : p a <;> simp [h, ih]
theorem S_map (l : List α) (g : α → β) (f : β → Nat) : S (l.map g) f = S l (fun a => f (g a)) := by
  simp [S, List.map_map, Function.comp_def]
theorem S_flatMap (l : List α) (g : α → List β) (f : β → Nat) : S (l.flatMap g) f = S l (fun a => S (g a) f) := by
  induction l with
  | nil => rfl
  | cons a l ih => simp [ih]
theorem S_perm {l m : List α} (h : l.Perm m) (f : α → Nat) : S l f = S m f := by
  unfold S
  exact (h.map f).sum_nat
theorem len_filter (l : List α) (p : α → Prop) [DecidablePred p] : (l.filter p).length = S l (fun a => if p a then 1 else 0) := by
  induction l with
  | nil => rfl
  | cons a l ih => by_cases h : p a <;> simp [h, ih] <;> omega
/-- how often one thing stands in a list without repeats -/
theorem S_eq [DecidableEq α] {l : List α} (h : l.Nodup) {a : α} (ha : a ∈ l) (k : Nat) : S l (fun b => if b = a then k else 0) = k := by
  induction l with
  | nil => cases ha
  | cons c l ih =>
    rw [List.nodup_cons] at h
    rw [S_cons]
    by_cases e : c = a
    · subst e
      rw [if_pos rfl, S_congr (g := fun _ => 0) (fun b hb => if_neg fun z : b = c => h.1 (z ▸ hb)), S_zero]
      rfl
    · rw [if_neg e, ih h.2 ((List.mem_cons.mp ha).resolve_left fun z => e z.symm)]
      omega
theorem S_le {l : List α} {f g : α → Nat} (h : ∀ a ∈ l, f a ≤ g a) : S l f ≤ S l g := by
  induction l with
  | nil => exact Nat.le_refl _
  | cons a l ih =>
    rw [S_cons, S_cons]
    exact Nat.add_le_add (h a (by simp)) (ih fun b hb => h b (by simp [hb]))
theorem S_mem {l : List α} {f : α → Nat} {a : α} (h : a ∈ l) : f a ≤ S l f := by
  induction l with
  | nil => cases h
  | cons c l ih =>
    rw [S_cons]
    rcases List.mem_cons.mp h with rfl | h
    · exact Nat.le_add_right _ _
    · exact Nat.le_trans (ih h) (Nat.le_add_left _ _)
end
end PD.Law
end

section
set_option Elab.async false
set_option linter.all false
set_option maxRecDepth 100000
namespace PD.Law
/-! GR: how many places lie on the left of the ways from one place to another. -/
/-- no three of the places on a line -/
structure GP (l : List (Int × Int)) : Prop where
  nd : l.Nodup
  ne : ∀ p ∈ l, ∀ q ∈ l, ∀ r ∈ l, p ≠ q → q ≠ r → p ≠ r → ar p q r ≠ 0
abbrev b1 (c : Prop) [Decidable c] : Nat := if c then 1 else 0
/-- how many are on the left -/
def lft (l : List (Int × Int)) (p q : Int × Int) : Nat := S l fun r => b1 (0 < ar p q r)
def rgt (l : List (Int × Int)) (p q : Int × Int) : Nat := S l fun r => b1 (r ≠ p ∧ r ≠ q ∧ ¬ 0 < ar p q r)
/-- how many ways have j on the left -/
def cnt (l : List (Int × Int)) (j : Nat) : Nat := S l fun p => S l fun q => b1 (p ≠ q ∧ lft l p q = j)
theorem lr_sum {l : List (Int × Int)} (nd : l.Nodup) {p q : Int × Int} (hp : p ∈ l) (hq : q ∈ l) (h : p ≠ q) : lft l p q + rgt l p q + 2 = l.length := by
  have e : l.length = S l (fun r => b1 (0 < ar p q r) + b1 (r ≠ p ∧ r ≠ q ∧ ¬ 0 < ar p q r) + ((if r = p then 1 else 0) + (if r = q then 1 else 0))) := by
    rw [show l.length = S l (fun _ => 1) by rw [S_const, Nat.mul_one]]
    refine S_congr fun r hr => ?_
    by_cases h1 : r = p
    · subst h1
      have : ¬ 0 < ar r q r := by rw [ar_aba]; decide
      simp [this, h]
    · by_cases h2 : r = q
      · subst h2
        have : ¬ 0 < ar p r r := by rw [ar_abb]; decide
        simp [this, h1]
      · by_cases h3 : 0 < ar p q r <;> simp [h1, h2, h3]
  rw [e, S_add, S_add, S_add, S_eq nd hp, S_eq nd hq]
  rfl
theorem lft_le {l : List (Int × Int)} (nd : l.Nodup) {p q : Int × Int} (hp : p ∈ l) (hq : q ∈ l) (h : p ≠ q) : lft l p q + 2 ≤ l.length := by
  have := lr_sum nd hp hq h
  omega
/-- the way back -/
theorem lft_back {l : List (Int × Int)} (g : GP l) {p q : Int × Int} (hp : p ∈ l) (hq : q ∈ l) (h : p ≠ q) : lft l q p = rgt l p q := by
  refine S_congr fun r hr => ?_
  rw [ar_swq]
  by_cases h1 : r = p
  · subst h1
    have : ar r q r = 0 := ar_aba _ _
    simp [this]
  · by_cases h2 : r = q
    · subst h2
      have : ar p r r = 0 := ar_abb _ _
      simp [this]
    · have := g.ne p hp q hq r hr h (Ne.symm h2) (Ne.symm h1)
      by_cases h3 : 0 < ar p q r
      · have h4 : ¬ 0 < -ar p q r := by omega
        rw [show b1 (0 < -ar p q r) = 0 from if_neg h4, show b1 (r ≠ p ∧ r ≠ q ∧ ¬ 0 < ar p q r) = 0 from if_neg fun z => z.2.2 h3]
      · have h4 : 0 < -ar p q r := by omega
        rw [show b1 (0 < -ar p q r) = 1 from if_pos h4, show b1 (r ≠ p ∧ r ≠ q ∧ ¬ 0 < ar p q r) = 1 from if_pos ⟨h1, h2, h3⟩]
theorem cnt_mirror {l : List (Int × Int)} (g : GP l) {j : Nat} (hj : j + 2 ≤ l.length) : cnt l (l.length - 2 - j) = cnt l j := by
  unfold cnt
  rw [S_swap]
  refine S_congr fun p hp => S_congr fun q hq => ?_
  by_cases h : p = q
  · simp [h]
  · have e := lr_sum g.nd hp hq h
    have e2 := lft_back g hp hq h
    have : (lft l q p = l.length - 2 - j) = (lft l p q = j) := propext ⟨fun z => by omega, fun z => by omega⟩
    simp [h, Ne.symm h, this]
theorem S_ones {l : List (Int × Int)} (nd : l.Nodup) {p : Int × Int} (hp : p ∈ l) : S l (fun q => b1 (p ≠ q)) + 1 = l.length := by
  have e : l.length = S l (fun q => b1 (p ≠ q) + (if q = p then 1 else 0)) := by
    rw [show l.length = S l (fun _ => 1) by rw [S_const, Nat.mul_one]]
    refine S_congr fun r hr => ?_
    by_cases h1 : r = p
    · simp [h1]
    · simp [h1, Ne.symm h1]
  rw [e, S_add, S_eq nd hp]
theorem S_range (m k : Nat) : S (List.range m) (fun j => b1 (k = j)) = b1 (k < m) := by
  induction m with
  | zero => simp
  | succ m ih =>
    rw [List.range_succ, S_append, ih]
    by_cases h : k < m
    · have : ¬ k = m := by omega
      have h2 : k < m + 1 := by omega
      simp [h, this, h2]
    · by_cases h2 : k = m
      · simp [h2]
      · have h3 : ¬ k < m + 1 := by omega
        simp [h, h2, h3]
theorem cnt_sum {l : List (Int × Int)} (nd : l.Nodup) : S (List.range (l.length - 1)) (cnt l) = l.length * (l.length - 1) := by
  unfold cnt
  rw [S_swap, ← S_const]
  refine S_congr fun p hp => ?_
  rw [S_swap]
  have e : l.length - 1 = S l (fun q => b1 (p ≠ q)) := by
    have := S_ones nd hp
    omega
  rw [e]
  refine S_congr fun q hq => ?_
  by_cases h : p = q
  · simp [h, S_zero]
  · have := lft_le nd hp hq h
    have h2 : lft l p q < S l (fun q => b1 (p ≠ q)) := by omega
    rw [S_congr (g := fun j => b1 (lft l p q = j)) fun j _ => by simp [h], S_range, show b1 (p ≠ q) = 1 from if_pos h]
    exact if_pos h2
/-- without one place -/
theorem lft_without {l : List (Int × Int)} (nd : l.Nodup) {p q r : Int × Int} (hr : r ∈ l) : lft (l.filter fun s => s ≠ r) p q + b1 (0 < ar p q r) = lft l p q := by
  have e : lft l p q = S l (fun s => (if s ≠ r then b1 (0 < ar p q s) else 0) + (if s = r then b1 (0 < ar p q r) else 0)) := by
    refine S_congr fun s hs => ?_
    by_cases h : s = r
    · subst h; simp
    · simp [h]
  rw [e, S_add, S_eq nd hr]
  show S (l.filter fun s => s ≠ r) _ + _ = _
  rw [S_filter]
theorem cnt_without {l : List (Int × Int)} (nd : l.Nodup) (j : Nat) : S l (fun r => cnt (l.filter fun s => s ≠ r) j) = (l.length - 2 - j) * cnt l j + (j + 1) * cnt l (j + 1) := by
  have e1 : S l (fun r => cnt (l.filter fun s => s ≠ r) j) = S l fun r => S l fun p => S l fun q => b1 (p ≠ r ∧ q ≠ r ∧ p ≠ q ∧ lft (l.filter fun s => s ≠ r) p q = j) := by
    refine S_congr fun r hr => ?_
    unfold cnt
    rw [S_filter]
    refine S_congr fun p hp => ?_
    by_cases h : p = r
    · simp [h, S_zero]
    · rw [if_pos h, S_filter]
      refine S_congr fun q hq => ?_
      by_cases h2 : q = r
      · simp [h2]
      · simp [h, h2]
  rw [e1, S_swap]
  unfold cnt
  rw [← S_mul, ← S_mul, ← S_add]
  refine S_congr fun p hp => ?_
  rw [S_swap, ← S_mul, ← S_mul, ← S_add]
  refine S_congr fun q hq => ?_
  by_cases h : p = q
  · subst h
    simp [S_zero]
  · have lr := lr_sum nd hp hq h
    have e2 : S l (fun r => b1 (p ≠ r ∧ q ≠ r ∧ p ≠ q ∧ lft (l.filter fun s => s ≠ r) p q = j)) = S l (fun r => b1 (0 < ar p q r) * b1 (lft l p q = j + 1) + b1 (r ≠ p ∧ r ≠ q ∧ ¬ 0 < ar p q r) * b1 (lft l p q = j)) := by
      refine S_congr fun r hr => ?_
      have w := lft_without (p := p) (q := q) nd hr
      by_cases h1 : r = p
      · subst h1
        have : ¬ 0 < ar r q r := by rw [ar_aba]; decide
        simp [this]
      · by_cases h2 : r = q
        · subst h2
          have : ¬ 0 < ar p r r := by rw [ar_abb]; decide
          simp [this]
        · by_cases h3 : 0 < ar p q r
          · rw [show b1 (0 < ar p q r) = 1 from if_pos h3] at w
            have e : (lft (l.filter fun s => s ≠ r) p q = j) = (lft l p q = j + 1) := propext ⟨fun z => by omega, fun z => by omega⟩
            simp only [e]
            simp [h1, h2, h3, h, Ne.symm h1, Ne.symm h2]
          · rw [show b1 (0 < ar p q r) = 0 from if_neg h3] at w
            have e : (lft (l.filter fun s => s ≠ r) p q = j) = (lft l p q = j) := propext ⟨fun z => by omega, fun z => by omega⟩
            simp only [e]
            simp [h1, h2, h3, h, Ne.symm h1, Ne.symm h2]
    rw [e2, S_add, S_mulr, S_mulr]
    show lft l p q * _ + rgt l p q * _ = _
    by_cases h1 : lft l p q = j
    · have h2 : ¬ lft l p q = j + 1 := by omega
      have h3 : rgt l p q = l.length - 2 - j := by omega
      simp [h, h1, h3]
    · by_cases h2 : lft l p q = j + 1
      · simp [h, h2]
      · simp [h, h1, h2]
/-- fewer places -/
theorem GP.filter {l : List (Int × Int)} (g : GP l) (f : Int × Int → Bool) : GP (l.filter f) := ⟨g.nd.sublist List.filter_sublist, fun p hp q hq r hr => g.ne p (List.mem_filter.mp hp).1 q (List.mem_filter.mp hq).1 r (List.mem_filter.mp hr).1⟩
end PD.Law
end

section
set_option Elab.async false
set_option linter.all false
set_option maxRecDepth 100000
set_option maxHeartbeats 1000000
namespace PD.Law
open PySem L2 PD
/-! ### places, areas -/
abbrev ptD (p : Int × Int) : D := .tup [.int p.1, .int p.2]
abbrev t3D (t : Int × Int × Int) : D := .tup [.int t.1, .int t.2.1, .int t.2.2]
@[simp] theorem s_check_range (n : Nat) (v lo hi : Int) : vC (P.ctx (n + 1)) f_check_range [.int v, .int lo, .int hi] = if v < lo ∨ hi < v then .ex ⟨x_TooFar, [.int v]⟩ else .ok .non := by
  rw [run_check_range, b_check_range]
  by_cases h1 : v < lo <;> by_cases h2 : hi < v <;> simp [h1, h2]
@[simp] theorem s_check_count (n : Nat) (v lo hi : Int) : vC (P.ctx (n + 1)) f_check_count [.int v, .int lo, .int hi] = if v < lo ∨ hi < v then .ex ⟨x_WrongCount, [.int v]⟩ else .ok .non := by
  rw [run_check_count, b_check_count]
  by_cases h1 : v < lo <;> by_cases h2 : hi < v <;> simp [h1, h2]
@[simp] theorem s_sign_of (n : Nat) (v : Int) : vC (P.ctx (n + 1)) f_sign_of [.int v] = .ok (.int (sg v)) := by
  rw [run_sign_of, b_sign_of]
  unfold sg
  by_cases h1 : 0 < v <;> by_cases h2 : v < 0 <;> simp [h1, h2]
/-- a place within 10 ^ 40 -/
def Pb (p : Int × Int) : Prop := (-(10 ^ 40) ≤ p.1 ∧ p.1 ≤ 10 ^ 40) ∧ (-(10 ^ 40) ≤ p.2 ∧ p.2 ≤ 10 ^ 40)
theorem s_quick_area (n : Nat) {p q r : Int × Int} (hp : Pb p) (hq : Pb q) (hr : Pb r) : vC (P.ctx (n + 1)) f_quick_area [ptD p, ptD q, ptD r] = .ok (.int (ar p q r)) := by
  rw [run_quick_area, b_quick_area]
  obtain ⟨⟨p1, p2⟩, p3, p4⟩ := hp
  obtain ⟨⟨q1, q2⟩, q3, q4⟩ := hq
  obtain ⟨⟨r1, r2⟩, r3, r4⟩ := hr
  have h1 : Sm (q.1 - p.1) := small_le (by omega) (by omega)
  have h2 : Sm (r.2 - p.2) := small_le (by omega) (by omega)
  have h3 : Sm (q.2 - p.2) := small_le (by omega) (by omega)
  have h4 : Sm (r.1 - p.1) := small_le (by omega) (by omega)
  simp [h1, h2, h3, h4, ar]
/-! ### numbers of points -/
/-- the first bad number: the class and the number -/
def nmBad (m : Int) : List Int → List Int → Option (Nat × Int)
  | _, [] => none
  | pre, x :: r => if x < 0 ∨ m ≤ x then some (x_NoPoint, x) else if x ∈ pre then some (x_Repeated, x) else nmBad m (pre ++ [x]) r
def exO {α : Type} (o : Option (Nat × Int)) (r : R α) : R α := match o with
  | some (c, v) => .ex ⟨c, [.int v]⟩
  | none => r
theorem zip_pre {α : Type} {xs pre post : List (α × Nat)} {x : α × Nat} {ys : List α} {k : Nat} (e : ys.zipIdx k = pre ++ x :: post) : x.2 = k + pre.length ∧ ys = pre.map (·.1) ++ x.1 :: post.map (·.1) := by
  have h1 : (ys.zipIdx k).map (·.1) = ys := List.zipIdx_map_fst k ys
  have h2 : (ys.zipIdx k)[pre.length]? = some x := by rw [e, List.getElem?_append_right (Nat.le_refl _), Nat.sub_self] <;> rfl
  rw [List.getElem?_zipIdx] at h2
  constructor
  · cases h : ys[pre.length]? with
    | none => rw [h] at h2; cases h2
    | some a => rw [h] at h2; cases h2; rfl
  · rw [← h1, e, List.map_append] <;> rfl
theorem enum_ints (ns : List Int) : (ns.map D.int).mapIdx (fun i d => D.tup [.int (i : Nat), d]) = ns.zipIdx.map fun x => D.tup [.int (x.2 : Nat), .int x.1] := by
  rw [List.mapIdx_eq_zipIdx_map, List.zipIdx_map, List.map_map] <;> rfl
def exN (x : Nat × Int) : Exn := ⟨x.1, [.int x.2]⟩
/-! ### threes -/
def threes (m : Int) : List (Int × Int × Int) := (rangeI 0 m).flatMap fun a => (rangeI (a + 1) m).flatMap fun b => (rangeI (b + 1) m).map fun c => (a, b, c)
theorem mem_threes {m a b c : Int} : (a, b, c) ∈ threes m ↔ 0 ≤ a ∧ a < b ∧ b < c ∧ c < m := by
  unfold threes
  simp only [List.mem_flatMap, List.mem_map, mem_rangeI, Prod.mk.injEq]
  constructor
  · rintro ⟨a', _, b', _, c', _, rfl, rfl, rfl⟩
    omega
  · intro h
    exact ⟨a, by omega, b, by omega, c, by omega, rfl, rfl, rfl⟩
theorem threes_len {m : Nat} (h : m ≤ 12) : (threes m).length ≤ 1000 := by
  match m, h with
  | 0, _ | 1, _ | 2, _ | 3, _ | 4, _ | 5, _ | 6, _ | 7, _ | 8, _ | 9, _ | 10, _ | 11, _ | 12, _ => decide +kernel
  | n + 13, h => exact absurd h (by omega)
theorem s_all_threes (n : Nat) {m : Nat} (h : m ≤ 12) : vC (P.ctx (n + 1)) f_all_threes [.int m] = .ok (.lst ((threes m).map t3D)) := by
  rw [run_all_threes, b_all_threes]
  have hf : ((rangeI 0 m).flatMap fun a => (rangeI (a + 1) m).flatMap fun b => (rangeI (b + 1) m).flatMap fun c => [t3D (a, b, c)]) = (threes m).map t3D := by
    unfold threes
    simp only [List.map_flatMap, List.map_map, ← List.map_eq_flatMap]
    rfl
  have E : vE (P.ctx n) none e_all_threes_1 [.int m, .un, .un, .un] = .ok (.lst ((threes m).map t3D)) := by
    rw [e_all_threes_1, comp_of (h := D.int) (xs := rangeI 0 m) (g := fun a => (rangeI (a + 1) m).flatMap fun b => (rangeI (b + 1) m).flatMap fun c => [t3D (a, b, c)]) (by simp [rng1_of (n := (m : Int)) (by omega) (by omega)]; rfl) rfl ?_ ?_, hf]
    · intro a ha
      rw [mem_rangeI] at ha
      simp
      rw [forc_of (h := D.int) (xs := rangeI (a + 1) m) (g := fun b => (rangeI (b + 1) m).flatMap fun c => [t3D (a, b, c)]) (by simp [rng_of (i := a + 1) (j := m) (by omega) (by omega) (by omega) (by omega)]; rfl) rfl ?_]
      intro b hb
      rw [mem_rangeI] at hb
      simp
      rw [forc_of (h := D.int) (xs := rangeI (b + 1) m) (g := fun c => [t3D (a, b, c)]) (by simp [rng_of (i := b + 1) (j := m) (by omega) (by omega) (by omega) (by omega)]; rfl) rfl ?_]
      intro c hc
      simp
    · rw [hf, List.length_map]
      exact Nat.le_trans (threes_len h) (by omega)
  simp [E]
/-! ### the table of turns -/
def pt (pts : List (Int × Int)) (i : Int) : Int × Int := pts.getD i.toNat (0, 0)
def tv (pts : List (Int × Int)) (a b c : Int) : Int := ar (pt pts a) (pt pts b) (pt pts c)
theorem item_pt {pts : List (Int × Int)} {i : Int} (h : 0 ≤ i) (h2 : i < pts.length) : itemO (.tup (pts.map ptD)) (.int i) = .ok (ptD (pt pts i)) := by
  have e : pts[i.toNat]? = some (pt pts i) := by
    unfold pt
    rw [List.getD_eq_getElem?_getD, List.getElem?_eq_getElem (by omega)] <;> rfl
  exact item_mapt h e
theorem item_ptl {pts : List (Int × Int)} {i : Int} (h : 0 ≤ i) (h2 : i < pts.length) : itemO (.lst (pts.map ptD)) (.int i) = .ok (ptD (pt pts i)) := by
  have e : pts[i.toNat]? = some (pt pts i) := by
    unfold pt
    rw [List.getD_eq_getElem?_getD, List.getElem?_eq_getElem (by omega)] <;> rfl
  exact item_map h e
theorem pt_mem {pts : List (Int × Int)} {i : Int} (h : 0 ≤ i) (h2 : i < pts.length) : pt pts i ∈ pts := by
  unfold pt
  rw [List.getD_eq_getElem?_getD, List.getElem?_eq_getElem (by omega)]
  exact List.getElem_mem _
abbrev k3 (a b c : Int) : List Key := [.inl a, .inl b, .inl c]
/-- what a dict tells -/
def Tells (ks : List (List Key)) (vs : List D) (f : List Key → Option D) : Prop := ks.length = vs.length ∧ (∀ k, k ∈ ks ↔ f k ≠ none) ∧ ∀ k d, f k = some d → lookK k ks vs = .ok d
theorem look_old {k k' : List Key} {v : D} : ∀ {ks : List (List Key)} {vs : List D}, ks.length = vs.length → k' ∈ ks → lookK k' (ks ++ [k]) (vs ++ [v]) = lookK k' ks vs
  | [], _, _, h => by cases h
  | a :: ks, d :: vs, h, hk => by
    show (if a = k' then R.ok d else lookK k' (ks ++ [k]) (vs ++ [v])) = (if a = k' then R.ok d else lookK k' ks vs)
    by_cases e : a = k'
    · rw [if_pos e, if_pos e]
    · rw [if_neg e, if_neg e, look_old (by simpa using h) ((List.mem_cons.mp hk).resolve_left fun q => e q.symm)]
theorem look_new {k : List Key} {v : D} : ∀ {ks : List (List Key)} {vs : List D}, ks.length = vs.length → k ∉ ks → lookK k (ks ++ [k]) (vs ++ [v]) = .ok v
  | [], [], _, _ => by
    show (if k = k then R.ok v else _) = _
    rw [if_pos rfl]
  | a :: ks, d :: vs, h, hk => by
    show (if a = k then R.ok d else lookK k (ks ++ [k]) (vs ++ [v])) = _
    rw [if_neg (fun q : a = k => hk (q ▸ List.mem_cons_self)), look_new (by simpa using h) fun q => hk (List.mem_cons_of_mem _ q)]
theorem putV_not {k : List Key} {v : D} : ∀ {ks : List (List Key)} {vs : List D}, ks.length = vs.length → k ∉ ks → putV ks vs k v = vs
  | [], [], _, _ => rfl
  | a :: ks, d :: vs, h, hk => by
    show (if a = k then v else d) :: putV ks vs k v = _
    rw [if_neg (fun q : a = k => hk (q ▸ List.mem_cons_self)), putV_not (by simpa using h) fun q => hk (List.mem_cons_of_mem _ q)]
theorem putV_len {k : List Key} {v : D} : ∀ {ks : List (List Key)} {vs : List D}, ks.length = vs.length → (putV ks vs k v).length = ks.length
  | [], [], _ => rfl
  | a :: ks, d :: vs, h => by
    show (putV ks vs k v).length + 1 = ks.length + 1
    rw [putV_len (by simpa using h)]
theorem look_putV {k k' : List Key} {v : D} : ∀ {ks : List (List Key)} {vs : List D}, ks.length = vs.length → k ∈ ks → lookK k' ks (putV ks vs k v) = if k = k' then .ok v else lookK k' ks vs
  | [], _, _, h => by cases h
  | a :: ks, d :: vs, h, hk => by
    have h' : ks.length = vs.length := by simpa using h
    show (if a = k' then R.ok (if a = k then v else d) else lookK k' ks (putV ks vs k v)) = if k = k' then .ok v else if a = k' then .ok d else lookK k' ks vs
    by_cases e : a = k'
    · subst e
      rw [if_pos rfl]
      by_cases e2 : a = k
      · subst e2
        rw [if_pos rfl, if_pos rfl]
      · rw [if_neg e2, if_neg (fun q => e2 q.symm), if_pos rfl]
    · rw [if_neg e, if_neg e]
      by_cases hk2 : k ∈ ks
      · exact look_putV h' hk2
      · obtain rfl : k = a := (List.mem_cons.mp hk).resolve_right hk2
        rw [if_neg e]
        rw [putV_not h' hk2]
theorem put_tells {ks : List (List Key)} {vs : List D} {f : List Key → Option D} {k : List Key} {v : D} (h : Tells ks vs f) : Tells (putK ks vs k v).1 (putK ks vs k v).2 (fun k' => if k = k' then some v else f k') ∧ (putK ks vs k v).1.length ≤ ks.length + 1 := by
  obtain ⟨h1, h2, h3⟩ := h
  unfold putK
  by_cases hk : k ∈ ks
  · have e : (ks.any fun a => decide (a = k)) = true := List.any_eq_true.mpr ⟨k, hk, decide_eq_true rfl⟩
    rw [if_pos e]
    refine ⟨⟨(putV_len h1).symm, fun k' => ?_, fun k' d hd => ?_⟩, Nat.le_succ _⟩
    · dsimp only
      split
      · rename_i q
        subst q
        exact ⟨fun _ => by simp, fun _ => hk⟩
      · exact h2 k'
    · rw [look_putV h1 hk]
      dsimp only at hd
      split at hd
      · rename_i q
        cases hd
        rw [if_pos q]
      · rename_i q
        rw [if_neg q]
        exact h3 k' d hd
  · have e : ¬ (ks.any fun a => decide (a = k)) = true := fun q => by
      obtain ⟨a, ha, q⟩ := List.any_eq_true.mp q
      exact hk (of_decide_eq_true q ▸ ha)
    rw [if_neg e]
    refine ⟨⟨by simp [h1], fun k' => ?_, fun k' d hd => ?_⟩, by simp⟩
    · dsimp only
      rw [List.mem_append, List.mem_singleton, h2 k']
      split
      · rename_i q
        simp [q]
      · rename_i q
        exact ⟨fun z => z.resolve_right fun w => q w.symm, Or.inl⟩
    · dsimp only at hd
      split at hd
      · rename_i q
        subst q
        cases hd
        exact look_new h1 hk
      · rw [look_old h1 ((h2 k').mpr (by rw [hd]; simp))]
        exact h3 k' d hd
theorem putD_three {env : Env} {i : Nat} {ks : List (List Key)} {vs : List D} {a b c a' b' c' a'' b'' c'' : Int} {v : D} {f : List Key → Option D} (h : Tells ks vs f) (hl : ks.length + 3 < 100000) (he : env[i]? = some (.dic ks vs)) :
    ∃ ks' vs', putDO env i (.tup [t3D (a, b, c), t3D (a', b', c'), t3D (a'', b'', c'')]) v = .nx (env.set i (.dic ks' vs')) ∧ ks'.length ≤ ks.length + 3 ∧
      Tells ks' vs' (fun k' => if k3 a'' b'' c'' = k' then some v else if k3 a' b' c' = k' then some v else if k3 a b c = k' then some v else f k') := by
  rw [putDO_eq]
  have T1 := put_tells (k := k3 a b c) (v := v) h
  have T2 := put_tells (k := k3 a' b' c') (v := v) T1.1
  have T3 := put_tells (k := k3 a'' b'' c'') (v := v) T2.1
  refine ⟨_, _, ?_, ?_, T3.1⟩
  · unfold putD
    rw [he]
    have e1 : ks.length < maxLen := by show ks.length < 100000; omega
    have e2 : (putK ks vs (k3 a b c) v).1.length < maxLen := by show _ < 100000; omega
    have e3 : (putK (putK ks vs (k3 a b c) v).1 (putK ks vs (k3 a b c) v).2 (k3 a' b' c') v).1.length < maxLen := by show _ < 100000; omega
    simp only [putKs, keysOf, keyOf, e1, e2, e3, if_true]
  · omega
/-- the first three on a line -/
def onErr (pts : List (Int × Int)) : Option (Int × Int × Int) := (threes pts.length).find? fun t => tv pts t.1 t.2.1 t.2.2 == 0
/-- the dict of turns of the threes in S -/
structure Tab (pts : List (Int × Int)) (S : List (Int × Int × Int)) (f : List Key → Option D) : Prop where
  val : ∀ k d, f k = some d → ∃ a b c, k = k3 a b c ∧ d = .int (sg (tv pts a b c))
  has : ∀ a b c, (a, b, c) ∈ S → f (k3 a b c) ≠ none ∧ f (k3 b c a) ≠ none ∧ f (k3 c a b) ≠ none ∧ f (k3 a c b) ≠ none ∧ f (k3 c b a) ≠ none ∧ f (k3 b a c) ≠ none
theorem k3_inj {a b c a' b' c' : Int} : k3 a b c = k3 a' b' c' ↔ a = a' ∧ b = b' ∧ c = c' := by
  simp [k3]
theorem Tab.step {pts : List (Int × Int)} {S : List (Int × Int × Int)} {f : List Key → Option D} {a b c : Int} (h : Tab pts S f) {v w : D} (hv : v = .int (sg (tv pts a b c))) (hw : w = .int (-sg (tv pts a b c))) :
    Tab pts (S ++ [(a, b, c)]) (fun k => if k3 b a c = k then some w else if k3 c b a = k then some w else if k3 a c b = k then some w else
      if k3 c a b = k then some v else if k3 b c a = k then some v else if k3 a b c = k then some v else f k) := by
  have r1 : tv pts b c a = tv pts a b c := ar_rot _ _ _
  have r2 : tv pts c a b = tv pts a b c := (ar_rot _ _ _).symm.trans r1 |> fun _ => by rw [← r1]; exact ar_rot _ _ _
  have s1 : tv pts a c b = -tv pts a b c := ar_swp _ _ _
  have s2 : tv pts c b a = -tv pts a b c := by rw [← r2]; exact ar_swp _ _ _
  have s3 : tv pts b a c = -tv pts a b c := by rw [← r1]; exact ar_swp _ _ _
  constructor
  · intro k d
    split
    · rename_i q
      subst q
      rintro ⟨⟩
      exact ⟨_, _, _, rfl, by rw [hw, s3, sg_neg]⟩
    split
    · rename_i q
      subst q
      rintro ⟨⟩
      exact ⟨_, _, _, rfl, by rw [hw, s2, sg_neg]⟩
    split
    · rename_i q
      subst q
      rintro ⟨⟩
      exact ⟨_, _, _, rfl, by rw [hw, s1, sg_neg]⟩
    split
    · rename_i q
      subst q
      rintro ⟨⟩
      exact ⟨_, _, _, rfl, by rw [hv, r2]⟩
    split
    · rename_i q
      subst q
      rintro ⟨⟩
      exact ⟨_, _, _, rfl, by rw [hv, r1]⟩
    split
    · rename_i q
      subst q
      rintro ⟨⟩
      exact ⟨_, _, _, rfl, hv⟩
    · exact h.val k d
  · intro a' b' c' hm
    have go : ∀ k, (f k ≠ none ∨ k = k3 a b c ∨ k = k3 b c a ∨ k = k3 c a b ∨ k = k3 a c b ∨ k = k3 c b a ∨ k = k3 b a c) → (if k3 b a c = k then some w else if k3 c b a = k then some w else if k3 a c b = k then some w else
      if k3 c a b = k then some v else if k3 b c a = k then some v else if k3 a b c = k then some v else f k) ≠ none := by
      intro k hk
      split
      · simp
      split
      · simp
      split
      · simp
      split
      · simp
      split
      · simp
      split
      · simp
      · rcases hk with h | h | h | h | h | h | h
        · exact h
        all_goals (subst h; contradiction)
    rcases List.mem_append.mp hm with hm | hm
    · obtain ⟨g1, g2, g3, g4, g5, g6⟩ := h.has a' b' c' hm
      exact ⟨go _ (.inl g1), go _ (.inl g2), go _ (.inl g3), go _ (.inl g4), go _ (.inl g5), go _ (.inl g6)⟩
    · obtain ⟨rfl, rfl, rfl⟩ : a' = a ∧ b' = b ∧ c' = c := by simpa using hm
      exact ⟨go _ (by simp), go _ (by simp), go _ (by simp), go _ (by simp), go _ (by simp), go _ (by simp)⟩
/-- a floor's turns -/
def TurnsOk (pts : List (Int × Int)) (d : D) : Prop := ∃ ks vs f, d = .dic ks vs ∧ Tells ks vs f ∧ Tab pts (threes pts.length) f
theorem TurnsOk.get {pts : List (Int × Int)} {d : D} (h : TurnsOk pts d) {a b c : Int} (ha : 0 ≤ a ∧ a < pts.length) (hb : 0 ≤ b ∧ b < pts.length) (hc : 0 ≤ c ∧ c < pts.length) (h1 : a ≠ b) (h2 : b ≠ c) (h3 : c ≠ a) :
    itemO d (t3D (a, b, c)) = .ok (.int (sg (tv pts a b c))) := by
  obtain ⟨ks, vs, f, rfl, T, B⟩ := h
  have hf : f (k3 a b c) ≠ none := by
    by_cases ab : a < b <;> by_cases bc : b < c <;> by_cases ca : c < a
    · omega
    · exact (B.has a b c (mem_threes.mpr (by omega))).1
    · exact (B.has c a b (mem_threes.mpr (by omega))).2.1
    · exact (B.has a c b (mem_threes.mpr (by omega))).2.2.2.1
    · exact (B.has b c a (mem_threes.mpr (by omega))).2.2.1
    · exact (B.has b a c (mem_threes.mpr (by omega))).2.2.2.2.2
    · exact (B.has c b a (mem_threes.mpr (by omega))).2.2.2.2.1
    · omega
  cases hd : f (k3 a b c) with
  | none => exact absurd hd hf
  | some d =>
    obtain ⟨a', b', c', e, rfl⟩ := B.val _ _ hd
    obtain ⟨rfl, rfl, rfl⟩ := k3_inj.mp e
    rw [itemO_eq]
    exact T.2.2 _ _ hd
theorem s_turn_table (n : Nat) (pts : List (Int × Int)) (hl : pts.length ≤ 12) (hp : ∀ p ∈ pts, Pb p) :
    RX ((onErr pts).map fun t => ⟨x_OnLine, [t3D t]⟩) (TurnsOk pts) (vC (P.ctx (n + 2)) f_turn_table [.tup (pts.map ptD)]) := by
  rw [run_turn_table, b_turn_table]
  have L : OutX ((onErr pts).map fun t => ⟨x_OnLine, [t3D t]⟩) (fun e => ∃ d a b c t, e = [.tup (pts.map ptD), d, a, b, c, t] ∧ TurnsOk pts d) (vS (P.ctx (n + 1)) none l_turn_table_1 [.tup (pts.map ptD), .dic [] [], .un, .un, .un, .un]) := by
    rw [l_turn_table_1]
    refine for_wp (threes pts.length) (h := t3D) (I := fun pre e => ∃ ks vs f a b c t, e = [.tup (pts.map ptD), .dic ks vs, a, b, c, t] ∧ ks.length ≤ 6 * pre.length ∧ Tells ks vs f ∧ Tab pts pre f ∧ ∀ rest, threes pts.length = pre ++ rest → onErr pts = rest.find? fun t => tv pts t.1 t.2.1 t.2.2 == 0)
      (by simp [s_all_threes n hl]; rfl) rfl ?_ ?_ ?_
    · refine ⟨[], [], fun _ => none, _, _, _, _, rfl, Nat.zero_le _, ⟨rfl, by simp, by simp⟩, ⟨by simp, by simp⟩, fun rest h => ?_⟩
      unfold onErr
      rw [h] <;> rfl
    · rintro pre ⟨a, b, c⟩ post e eq ⟨ks, vs, f, a0, b0, c0, t0, rfl, hk, T, B, F⟩
      have hm : (a, b, c) ∈ threes pts.length := by rw [eq]; simp
      rw [mem_threes] at hm
      have F' := F _ eq
      have hlen : pre.length < 1000 := by
        have := threes_len hl
        rw [eq] at this
        simp at this
        omega
      have q := s_quick_area n (hp _ (pt_mem (i := a) (by omega) (by omega))) (hp _ (pt_mem (i := b) (by omega) (by omega))) (hp _ (pt_mem (i := c) (by omega) (by omega)))
      have e0 : sg (ar (pt pts a) (pt pts b) (pt pts c)) = sg (tv pts a b c) := rfl
      by_cases z : tv pts a b c = 0
      · have z' : (tv pts a b c == 0) = true := by rw [z]; rfl
        rw [List.find?_cons] at F'
        simp only [z'] at F'
        have e1 : sg (tv pts a b c) = 0 := sg_zero.mpr z
        simp [item_pt, hm, show 0 ≤ b by omega, show 0 ≤ c by omega, show a < pts.length by omega, show b < pts.length by omega, q, e0, e1, F']
      · have z' : (tv pts a b c == 0) = false := beq_false_of_ne z
        rw [List.find?_cons] at F'
        simp only [z'] at F'
        have e1 : ¬ sg (tv pts a b c) = 0 := fun h => z (sg_zero.mp h)
        obtain ⟨ks1, vs1, p1, l1, T1⟩ := putD_three (env := [.tup (pts.map ptD), .dic ks vs, .int a, .int b, .int c, .int (sg (tv pts a b c))]) (i := 1) (a := a) (b := b) (c := c) (a' := b) (b' := c) (c' := a) (a'' := c) (b'' := a) (c'' := b) (v := .int (sg (tv pts a b c))) T (by omega) rfl
        obtain ⟨ks2, vs2, p2, l2, T2⟩ := putD_three (env := [.tup (pts.map ptD), .dic ks1 vs1, .int a, .int b, .int c, .int (sg (tv pts a b c))]) (i := 1) (a := a) (b := c) (c := b) (a' := c) (b' := b) (c' := a) (a'' := b) (b'' := a) (c'' := c) (v := .int (-sg (tv pts a b c))) T1 (by omega) rfl
        refine nx_step (e := [.tup (pts.map ptD), .dic ks2 vs2, .int a, .int b, .int c, .int (sg (tv pts a b c))]) (by
          simp [item_pt, hm, show 0 ≤ b by omega, show 0 ≤ c by omega, show a < pts.length by omega, show b < pts.length by omega, q, e0, e1, p1, p2]) ?_
        refine ⟨ks2, vs2, _, _, _, _, _, rfl, by simp only [List.length_append, List.length_singleton]; omega, T2, Tab.step B rfl rfl, fun rest h => ?_⟩
        rw [F']
        rw [eq] at h
        have : post = rest := by simpa using h
        rw [this]
    · rintro e ⟨ks, vs, f, a0, b0, c0, t0, rfl, hk, T, B, F⟩
      rw [F [] (by simp)]
      exact ⟨_, rfl, _, _, _, _, _, rfl, ks, vs, f, rfl, T, B⟩
  revert L
  cases onErr pts with
  | none =>
    rintro ⟨e, h, d, a, b, c, t, rfl, T⟩
    obtain ⟨ks, vs, f, rfl, T⟩ := T
    refine ⟨.dic ks vs, ?_, ks, vs, f, rfl, T⟩
    simp [h]
  | some x => rintro ⟨e, h⟩; simp [h]
/-! ### Floor -/
def far (v : Int) : Prop := v < -1000000 ∨ 1000000 < v
instance (v : Int) : Decidable (far v) := by unfold far; infer_instance
/-- the first coordinate out of range -/
def farOf : List (Int × Int) → Option Int
  | [] => none
  | p :: r => if far p.1 then some p.1 else if far p.2 then some p.2 else farOf r
theorem farOf_none : ∀ {pts : List (Int × Int)}, farOf pts = none → ∀ p ∈ pts, ¬ far p.1 ∧ ¬ far p.2
  | [], _, p, hp => by cases hp
  | q :: r, h, p, hp => by
    rw [farOf] at h
    split at h
    · cases h
    split at h
    · cases h
    · rename_i h1 h2
      rcases List.mem_cons.mp hp with rfl | hp
      · exact ⟨h1, h2⟩
      · exact farOf_none h p hp
theorem Pb_of {p : Int × Int} (h : ¬ far p.1 ∧ ¬ far p.2) : Pb p := by
  unfold far at h
  unfold Pb
  omega
def floorErr (pts : List (Int × Int)) : Option Exn :=
  if pts.length < 3 ∨ 10 < pts.length then some ⟨x_WrongCount, [.int pts.length]⟩
  else match farOf pts with
  | some v => some ⟨x_TooFar, [.int v]⟩
  | none => (onErr pts).map fun t => ⟨x_OnLine, [t3D t]⟩
/-- a floor -/
def FloorIs (pts : List (Int × Int)) (d : D) : Prop := ∃ t, d = .ins c_Floor [.tup (pts.map ptD), t] ∧ TurnsOk pts t
theorem l_init (n : Nat) (pts : List (Int × Int)) (d : D) (hd : walkOf d = .ok (pts.map ptD)) (hr : rd d = .ok d) :
    OutX ((farOf pts).map fun v => ⟨x_TooFar, [.int v]⟩) (fun e => ∃ a b, e = [.ins c_Floor [], d, a, b]) (vS (P.ctx (n + 1)) none l_Floor___init___1 [.ins c_Floor [], d, .un, .un]) := by
  rw [l_Floor___init___1]
  refine for_wp pts (h := ptD) (I := fun pre e => (∃ a b, e = [.ins c_Floor [], d, a, b]) ∧ ∀ rest, pts = pre ++ rest → farOf pts = farOf rest) (s := d) (by simp [hr]) hd ⟨⟨_, _, rfl⟩, fun rest h => by rw [h] <;> rfl⟩ ?_ ?_
  · rintro pre ⟨x, y⟩ post e eq ⟨⟨a, b, rfl⟩, hi⟩
    have e3 := hi _ eq
    rw [farOf] at e3
    by_cases c1 : far x
    · rw [if_pos c1] at e3
      refine ex_step (d := ⟨x_TooFar, [.int x]⟩) (e := [.ins c_Floor [], d, .int x, .int y]) ?_ ?_
      · have c1' := c1
        unfold far at c1'
        simp [c1']
      · rw [e3]
        exact ⟨_, rfl⟩
    · rw [if_neg c1] at e3
      by_cases c2 : far y
      · rw [if_pos c2] at e3
        refine ex_step (d := ⟨x_TooFar, [.int y]⟩) (e := [.ins c_Floor [], d, .int x, .int y]) ?_ ?_
        · have c1' := c1
          have c2' := c2
          unfold far at c1' c2'
          simp [c1', c2']
        · rw [e3]
          exact ⟨_, rfl⟩
      · rw [if_neg c2] at e3
        refine nx_step (e := [.ins c_Floor [], d, .int x, .int y]) ?_ ⟨⟨_, _, rfl⟩, fun rest h => ?_⟩
        · have c1' := c1
          have c2' := c2
          unfold far at c1' c2'
          simp [c1', c2']
        · rw [e3]
          rw [eq] at h
          have : post = rest := by simpa using h
          rw [this]
  · rintro e ⟨⟨a, b, rfl⟩, hi⟩
    rw [hi [] (by simp)]
    exact ⟨_, rfl, _, _, rfl⟩
theorem new_floor (n : Nat) (pts : List (Int × Int)) (d : D) (hd : walkOf d = .ok (pts.map ptD)) (hr : rd d = .ok d) (hlen : bltO .len [d] = .ok (.int pts.length)) (ht : bltO .tuple [d] = .ok (.tup (pts.map ptD))) :
    RX (floorErr pts) (FloorIs pts) (vN (P.ctx (n + 3)) c_Floor [d]) := by
  rw [new_Floor, b_Floor___init__]
  unfold floorErr
  by_cases hc : pts.length < 3 ∨ 10 < pts.length
  · rw [if_pos hc]
    have hc' : (pts.length : Int) < 3 ∨ (10 : Int) < pts.length := by omega
    simp [hr, hlen, hc']
  · rw [if_neg hc]
    have hc' : ¬ ((pts.length : Int) < 3 ∨ (10 : Int) < pts.length) := by omega
    have L := l_init (n + 1) pts d hd hr
    cases hf : farOf pts with
    | some v =>
      rw [hf] at L
      obtain ⟨e, L⟩ := L
      simp [hr, hlen, hc', L]
    | none =>
      rw [hf] at L
      obtain ⟨e, L, a, b, rfl⟩ := L
      have tt := s_turn_table n pts (by omega) fun p hp => Pb_of (farOf_none hf p hp)
      revert tt
      cases onErr pts with
      | some t =>
        intro tt
        simp only [Option.map_some, rX_some] at tt
        simp [hr, hlen, hc', L, ht, tt]
      | none =>
        rintro ⟨t, tt, T⟩
        refine ⟨_, ?_, t, rfl, T⟩
        simp [hr, hlen, hc', L, ht, tt]
theorem new_floor_l (n : Nat) (pts : List (Int × Int)) : RX (floorErr pts) (FloorIs pts) (vN (P.ctx (n + 3)) c_Floor [.lst (pts.map ptD)]) := new_floor n pts _ rfl rfl (by simp) (by simp)
theorem new_floor_t (n : Nat) (pts : List (Int × Int)) : RX (floorErr pts) (FloorIs pts) (vN (P.ctx (n + 3)) c_Floor [.tup (pts.map ptD)]) := new_floor n pts _ rfl rfl (by simp) (by simp)
theorem nmBad_none {m : Int} : ∀ {pre ns : List Int}, nmBad m pre ns = none → pre.Nodup → (∀ x ∈ ns, 0 ≤ x ∧ x < m) ∧ (pre ++ ns).Nodup
  | pre, [], _, h => ⟨by simp, by simpa using h⟩
  | pre, x :: r, h, hn => by
    rw [nmBad] at h
    split at h
    · cases h
    split at h
    · cases h
    · rename_i h1 h2
      have := nmBad_none h (by
        rw [List.nodup_append]
        exact ⟨hn, by simp, fun a ha b hb => by
          obtain rfl : b = x := by simpa using hb
          exact fun q => h2 (q ▸ ha)⟩)
      refine ⟨fun y hy => ?_, by simpa using this.2⟩
      rcases List.mem_cons.mp hy with rfl | hy
      · omega
      · exact this.1 y hy
theorem nmBad_cls {m : Int} {x : Nat × Int} : ∀ {pre ns : List Int}, nmBad m pre ns = some x → x.1 = x_NoPoint ∨ x.1 = x_Repeated
  | pre, [], h => by cases h
  | pre, y :: r, h => by
    rw [nmBad] at h
    split at h
    · cases h
      exact .inl rfl
    split at h
    · cases h
      exact .inr rfl
    · exact nmBad_cls h
theorem three_of {m a b c : Int} (h : nmBad m [] [a, b, c] = none) : (0 ≤ a ∧ a < m) ∧ (0 ≤ b ∧ b < m) ∧ (0 ≤ c ∧ c < m) ∧ a ≠ b ∧ b ≠ c ∧ c ≠ a := by
  obtain ⟨h1, h2⟩ := nmBad_none h (by simp)
  simp at h1 h2
  refine ⟨h1.1, h1.2.1, h1.2.2, h2.1.1, h2.2, fun q => h2.1.2 q.symm⟩
/-! ### the law's own defs -/
theorem s_cell (n : Nat) (ns : List Int) {i : Int} (h : 0 ≤ i) : ∃ c, 0 ≤ c ∧ vC (P.ctx (n + 1)) f_law_cell [.lst (ns.map .int), .int i] = .ok (.int c) := by
  rw [run_law_cell, b_law_cell]
  by_cases h2 : i < ns.length
  · have q : itemO (.lst (ns.map D.int)) (.int i) = .ok (.int ns[i.toNat]) := item_map h (List.getElem?_eq_getElem (by omega))
    refine ⟨if ns[i.toNat] < 0 then -ns[i.toNat] else ns[i.toNat], by split <;> omega, ?_⟩
    simp [h2, q]
  · exact ⟨0, by omega, by simp [h2]⟩
/-- points of the range -/
def Near (b : Int) (pts : List (Int × Int)) : Prop := ∀ p ∈ pts, (-b ≤ p.1 ∧ p.1 ≤ b) ∧ (-b ≤ p.2 ∧ p.2 ≤ b)
theorem mod_lt (a : Int) {b : Int} (h : 0 < b) : 0 ≤ a % b ∧ a % b < b := ⟨Int.emod_nonneg a (by omega), Int.emod_lt_of_pos a h⟩
def acr : List Int := [0, 61, 17, 35, 52, 8, 44, 27, 70, 13]
def upw : List Int := [0, 7, 58, 23, 41, 31, 12, 66, 29, 47]
theorem s_points (n : Nat) (ns : List Int) {m : Int} (h : 0 ≤ m) (h2 : m ≤ 10) (w : Bool) : ∃ pts, (pts.length : Int) = m ∧ Near 1000000 pts ∧ vC (P.ctx (n + 2)) f_law_drawn [.lst (ns.map .int), .int m, .bl w] = .ok (.lst (pts.map ptD)) := by
  rw [run_law_drawn, b_law_drawn]
  have L : OutX none (fun e => ∃ pts k c x y, e = [.lst (ns.map .int), .int m, .bl w, .tup (acr.map .int), .tup (upw.map .int), .lst (pts.map ptD), k, c, x, y] ∧ (pts.length : Int) = m ∧ Near 1000000 pts) (vS (P.ctx (n + 1)) none l_law_drawn_1 [.lst (ns.map .int), .int m, .bl w, .tup (acr.map .int), .tup (upw.map .int), .lst [], .un, .un, .un, .un]) := by
    rw [l_law_drawn_1]
    refine for_wp (rangeI 0 m) (h := D.int) (I := fun pre e => ∃ pts k c x y, e = [.lst (ns.map .int), .int m, .bl w, .tup (acr.map .int), .tup (upw.map .int), .lst (pts.map ptD), k, c, x, y] ∧ pts.length = pre.length ∧ Near 1000000 pts)
      (by simp [rng1_of (n := m) (by omega) (by omega)]; rfl) rfl ⟨[], _, _, _, _, rfl, rfl, by intro p hp; cases hp⟩ ?_ ?_
    · rintro pre k post e eq ⟨pts, k0, c0, x0, y0, rfl, hl, hN⟩
      have hk : 0 ≤ k ∧ k < m := mem_rangeI.mp (by rw [eq]; simp)
      have hlen : pts.length < 10 := by
        have := congrArg List.length eq
        simp at this
        omega
      obtain ⟨c, hc, qc⟩ := s_cell n ns (i := 1 + k) (by omega)
      obtain ⟨a, ha, qa⟩ := pick acr hk.1 (by show k < 10; omega)
      obtain ⟨u, hu, qu⟩ := pick upw hk.1 (by show k < 10; omega)
      have ha' : 0 ≤ a ∧ a ≤ 70 := by simp [acr] at ha; omega
      have hu' : 0 ≤ u ∧ u ≤ 70 := by simp [upw] at hu; omega
      have sa : Sm a := ⟨by omega, by omega⟩
      have su : Sm u := ⟨by omega, by omega⟩
      cases w with
      | false =>
        refine nx_step (e := [.lst (ns.map .int), .int m, .bl false, .tup (acr.map .int), .tup (upw.map .int), .lst ((pts ++ [(a - 30 + c % 97, u - 30 + c / 97 % 97)]).map ptD), .int k, .int c, .int (a - 30 + c % 97), .int (u - 30 + c / 97 % 97)]) (by simp [qc, qa, qu, show pts.length < 100000 by omega]) ⟨_, _, _, _, _, rfl, by simp [hl], ?_⟩
        intro p hp
        rcases List.mem_append.mp hp with hp | hp
        · exact hN p hp
        · obtain rfl := List.mem_singleton.mp hp
          dsimp only
          omega
      | true =>
        refine nx_step (e := [.lst (ns.map .int), .int m, .bl true, .tup (acr.map .int), .tup (upw.map .int), .lst ((pts ++ [((c + a * 10007) % 2000001 - 1000000, (c / 2000001 + u * 20011) % 2000001 - 1000000)]).map ptD), .int k, .int c, .int ((c + a * 10007) % 2000001 - 1000000), .int ((c / 2000001 + u * 20011) % 2000001 - 1000000)]) (by simp [qc, qa, qu, sa, su, show pts.length < 100000 by omega]) ⟨_, _, _, _, _, rfl, by simp [hl], ?_⟩
        intro p hp
        rcases List.mem_append.mp hp with hp | hp
        · exact hN p hp
        · obtain rfl := List.mem_singleton.mp hp
          dsimp only
          omega
    · rintro e ⟨pts, k0, c0, x0, y0, rfl, hl, hN⟩
      exact ⟨_, rfl, pts, _, _, _, _, rfl, by rw [hl, rangeI_length]; omega, hN⟩
  obtain ⟨e, L, pts, k, c, x, y, rfl, hl, hN⟩ := L
  refine ⟨pts, hl, hN, ?_⟩
  simp [acr, upw] at L
  simp [L]
theorem Near.pb {b : Int} {pts : List (Int × Int)} (h : Near b pts) (hb : b ≤ 10 ^ 40) : ∀ p ∈ pts, Pb p := fun p hp => by
  have := h p hp
  unfold Pb
  omega
theorem Near.pt {b : Int} {pts : List (Int × Int)} (h : Near b pts) {i : Int} (h0 : 0 ≤ i) (h1 : i < pts.length) : (-b ≤ (pt pts i).1 ∧ (pt pts i).1 ≤ b) ∧ (-b ≤ (pt pts i).2 ∧ (pt pts i).2 ≤ b) := h _ (pt_mem h0 h1)
theorem Near.set {b : Int} {pts : List (Int × Int)} (h : Near b pts) {i : Nat} {p : Int × Int} (hp : (-b ≤ p.1 ∧ p.1 ≤ b) ∧ (-b ≤ p.2 ∧ p.2 ≤ b)) : Near b (pts.set i p) := fun q hq => by
  rcases List.mem_or_eq_of_mem_set hq with hq | rfl
  · exact h q hq
  · exact hp
theorem Near.mono {b c : Int} {pts : List (Int × Int)} (h : Near b pts) (hb : b ≤ c) : Near c pts := fun p hp => by
  have := h p hp
  omega
theorem s_area (n : Nat) {p q r : Int × Int} (hp : Pb p) (hq : Pb q) (hr : Pb r) : vC (P.ctx (n + 1)) f_law_area [ptD p, ptD q, ptD r] = .ok (.int (ar p q r)) := by
  rw [run_law_area, b_law_area]
  obtain ⟨⟨p1, p2⟩, p3, p4⟩ := hp
  obtain ⟨⟨q1, q2⟩, q3, q4⟩ := hq
  obtain ⟨⟨r1, r2⟩, r3, r4⟩ := hr
  have h1 : Sm p.1 := ⟨by omega, by omega⟩
  have h2 : Sm p.2 := ⟨by omega, by omega⟩
  have h3 : Sm q.1 := ⟨by omega, by omega⟩
  have h4 : Sm q.2 := ⟨by omega, by omega⟩
  have h5 : Sm r.1 := ⟨by omega, by omega⟩
  have h6 : Sm r.2 := ⟨by omega, by omega⟩
  simp [h1, h2, h3, h4, h5, h6]
  unfold ar
  grind
/-! what is due -/
def raisedD (x : Str) (d : D) : D := .tup [.str "raised", .str x, d, .bl true]
def dueD (pts : List (Int × Int)) : D :=
  if pts.length < 3 ∨ 10 < pts.length then raisedD "WrongCount" (.int pts.length)
  else match farOf pts with
  | some v => raisedD "TooFar" (.int v)
  | none => match onErr pts with
    | some t => raisedD "OnLine" (t3D t)
    | none => .tup [.str "floor", .str "", .tup (pts.map ptD), .bl true]
def farD (v : Int) : Option D := if far v then some (raisedD "TooFar" (.int v)) else none
theorem far_search (pts : List (Int × Int)) : (pts.findSome? fun p => [p.1, p.2].findSome? farD) = (farOf pts).map fun v => raisedD "TooFar" (.int v) := by
  induction pts with
  | nil => rfl
  | cons p r ih =>
    rw [List.findSome?_cons, ih, farOf]
    unfold farD
    by_cases h1 : far p.1 <;> by_cases h2 : far p.2 <;> simp [h1, h2]
def onD (pts : List (Int × Int)) (a b c : Int) : Option D := if tv pts a b c = 0 then some (raisedD "OnLine" (t3D (a, b, c))) else none
theorem on_search (pts : List (Int × Int)) : ((rangeI 0 pts.length).findSome? fun a => (rangeI (a + 1) pts.length).findSome? fun b => (rangeI (b + 1) pts.length).findSome? fun c => onD pts a b c) = (onErr pts).map fun t => raisedD "OnLine" (t3D t) := by
  unfold onErr threes
  rw [List.find?_flatMap, List.map_findSome?]
  congr 1
  funext a
  show _ = (Option.map _ (List.find? _ _))
  rw [List.find?_flatMap, List.map_findSome?]
  congr 1
  funext b
  show _ = (Option.map _ (List.find? _ _))
  rw [List.find?_map, Option.map_map]
  induction rangeI (b + 1) pts.length with
  | nil => rfl
  | cons c r ih =>
    rw [List.findSome?_cons, List.find?_cons, ih]
    unfold onD
    by_cases h : tv pts a b c = 0
    · simp [h]
    · have hb : (tv pts a b c == 0) = false := beq_false_of_ne h
      simp [h, hb]
theorem s_refusal (n : Nat) {pts : List (Int × Int)} (hl : pts.length ≤ 12) (hp : ∀ p ∈ pts, Pb p) : vC (P.ctx (n + 2)) f_law_refusal [.lst (pts.map ptD)] = .ok (dueD pts) := by
  rw [run_law_refusal, b_law_refusal]
  unfold dueD
  by_cases hc : pts.length < 3 ∨ 10 < pts.length
  · rw [if_pos hc]
    have hc' : (pts.length : Int) < 3 ∨ (10 : Int) < pts.length := by omega
    rcases hc' with h | h <;> simp [h, raisedD]
  rw [if_neg hc]
  have hc1 : ¬ (pts.length : Int) < 3 := by omega
  have hc2 : ¬ (10 : Int) < pts.length := by omega
  have L1 : ∀ p ∈ pts, ∀ a0 a1 a2 a3, OutR ([p.1, p.2].findSome? farD) (fun e => ∃ v, e = [.lst (pts.map ptD), ptD p, a0, v, a2, a3]) (vS (P.ctx (n + 1)) none l_law_refusal_1 [.lst (pts.map ptD), ptD p, a0, a1, a2, a3]) := by
    intro p hp a0 a1 a2 a3
    rw [l_law_refusal_1]
    refine for_search [p.1, p.2] farD (h := D.int) _ (by simp; rfl) rfl ⟨_, rfl⟩ ?_
    rintro v hv e ⟨v0, rfl⟩
    unfold farD
    by_cases h : far v
    · have h' : 1000000 < (if v < 0 then -v else v) := by unfold far at h; split <;> omega
      rw [if_pos h]
      simp [h', raisedD]
    · have h' : ¬ 1000000 < (if v < 0 then -v else v) := by unfold far at h; split <;> omega
      rw [if_neg h]
      simp [h']
  have L2 : OutR ((farOf pts).map fun v => raisedD "TooFar" (.int v)) (fun e => ∃ p v, e = [.lst (pts.map ptD), p, .un, v, .un, .un]) (vS (P.ctx (n + 1)) none l_law_refusal_2 [.lst (pts.map ptD), .un, .un, .un, .un, .un]) := by
    rw [l_law_refusal_2, ← far_search]
    refine for_search pts _ (h := ptD) _ (by simp; rfl) rfl ⟨_, _, rfl⟩ ?_
    rintro p hp' e ⟨p0, v0, rfl⟩
    have q := L1 p hp' .un v0 .un .un
    revert q
    cases [p.1, p.2].findSome? farD with
    | some d => rintro ⟨e, q⟩; simp [q]
    | none => rintro ⟨e, q, v, rfl⟩; simp [q]
  have L3 : ∀ a b : Int, (0 ≤ a ∧ a < pts.length) → (0 ≤ b ∧ b < pts.length) → ∀ p v c0, OutR ((rangeI (b + 1) pts.length).findSome? fun c => onD pts a b c) (fun e => ∃ c, e = [.lst (pts.map ptD), p, .int a, v, .int b, c]) (vS (P.ctx (n + 1)) none l_law_refusal_3 [.lst (pts.map ptD), p, .int a, v, .int b, c0]) := by
    intro a b ha hb p v c0
    rw [l_law_refusal_3]
    refine for_search (rangeI (b + 1) pts.length) _ (h := D.int) _ (by simp [rng_of (i := b + 1) (j := pts.length) (by omega) (by omega) (by omega) (by omega)]; rfl) rfl ⟨_, rfl⟩ ?_
    rintro c hc e ⟨c1, rfl⟩
    rw [mem_rangeI] at hc
    have q := s_area n (hp _ (pt_mem ha.1 ha.2)) (hp _ (pt_mem hb.1 hb.2)) (hp _ (pt_mem (i := c) (by omega) hc.2))
    have q' : ar (pt pts a) (pt pts b) (pt pts c) = tv pts a b c := rfl
    unfold onD
    by_cases h : tv pts a b c = 0
    · rw [if_pos h]
      simp [item_ptl, ha, hb, hc, show 0 ≤ c by omega, q, q', h, raisedD]
    · rw [if_neg h]
      simp [item_ptl, ha, hb, hc, show 0 ≤ c by omega, q, q', h]
  have L4 : ∀ a : Int, (0 ≤ a ∧ a < pts.length) → ∀ p v b0 c0, OutR ((rangeI (a + 1) pts.length).findSome? fun b => (rangeI (b + 1) pts.length).findSome? fun c => onD pts a b c) (fun e => ∃ b c, e = [.lst (pts.map ptD), p, .int a, v, b, c]) (vS (P.ctx (n + 1)) none l_law_refusal_4 [.lst (pts.map ptD), p, .int a, v, b0, c0]) := by
    intro a ha p v b0 c0
    rw [l_law_refusal_4]
    refine for_search (rangeI (a + 1) pts.length) _ (h := D.int) _ (by simp [rng_of (i := a + 1) (j := pts.length) (by omega) (by omega) (by omega) (by omega)]; rfl) rfl ⟨_, _, rfl⟩ ?_
    rintro b hb e ⟨b1, c1, rfl⟩
    rw [mem_rangeI] at hb
    have q := L3 a b ha ⟨by omega, hb.2⟩ p v c1
    revert q
    cases ((rangeI (b + 1) pts.length).findSome? fun c => onD pts a b c) with
    | some d => rintro ⟨e, q⟩; simp [q]
    | none => rintro ⟨e, q, v, rfl⟩; simp [q]
  have L5 : ∀ p v, OutR ((onErr pts).map fun t => raisedD "OnLine" (t3D t)) (fun e => ∃ a b c, e = [.lst (pts.map ptD), p, a, v, b, c]) (vS (P.ctx (n + 1)) none l_law_refusal_5 [.lst (pts.map ptD), p, .un, v, .un, .un]) := by
    intro p v
    rw [l_law_refusal_5, ← on_search]
    refine for_search (rangeI 0 pts.length) _ (h := D.int) _ (by simp [rng1_of (n := pts.length) (by omega) (by omega)]; rfl) rfl ⟨_, _, _, rfl⟩ ?_
    rintro a ha e ⟨a1, b1, c1, rfl⟩
    rw [mem_rangeI] at ha
    have q := L4 a ha p v b1 c1
    revert q
    cases ((rangeI (a + 1) pts.length).findSome? fun b => (rangeI (b + 1) pts.length).findSome? fun c => onD pts a b c) with
    | some d => rintro ⟨e, q⟩; simp [q]
    | none => rintro ⟨e, q, v, w, rfl⟩; simp [q]
  cases hf : farOf pts with
  | some v =>
    rw [hf] at L2
    obtain ⟨e, L2⟩ := L2
    simp [hc1, hc2, L2]
  | none =>
    rw [hf] at L2
    obtain ⟨e, L2, p, v, rfl⟩ := L2
    have q := L5 p v
    revert q
    cases onErr pts with
    | some t => rintro ⟨e, q⟩; simp [hc1, hc2, L2, q]
    | none => rintro ⟨e, q, a, b, c, rfl⟩; simp [hc1, hc2, L2, q]
@[simp] theorem anyIs_nil (f c) : anyIs f c [] = some false := rfl
theorem anyIs_cons {f : Nat → Nat → Option Bool} {c t : Nat} {ts : List Nat} {a b : Bool} (h : f c t = some a) (h2 : anyIs f c ts = some b) : anyIs f c (t :: ts) = some (a || b) := by
  rw [anyIs, h, h2]
theorem eq_strs {a b : Str} (h : (a == b) = t) (h1 : PyData.strOk a = true := by decide +kernel) (h2 : PyData.strOk b = true := by decide +kernel) : eqO (.str a) (.str b) = .ok t := by rw [eqD_str h1 h2, h]
theorem s_made (n : Nat) {pts : List (Int × Int)} : vC (P.ctx (n + 4)) f_law_made [.lst (pts.map ptD)] = .ok (dueD pts) := by
  rw [run_law_made, b_law_made]
  have q := new_floor_l n pts
  revert q
  unfold floorErr dueD
  split
  · intro q
    simp only [rX_some] at q
    simp [q, anyIs_cons, raisedD]
  · cases farOf pts with
    | some v =>
      intro q
      simp only [rX_some] at q
      simp [q, anyIs_cons, raisedD]
    | none =>
      cases onErr pts with
      | some t =>
        intro q
        simp only [rX_some, Option.map_some] at q
        simp [q, anyIs_cons, raisedD]
      | none =>
        rintro ⟨d, q, t, rfl, T⟩
        simp [q]

end PD.Law
end

section
set_option Elab.async false
set_option linter.all false
set_option maxRecDepth 100000
set_option maxHeartbeats 1000000
namespace PD.Law
open PySem L2 PD
/-! ### floors without a flaw -/
theorem rangeI_nodup (lo hi : Int) : (rangeI lo hi).Nodup := by
  unfold rangeI
  have : ∀ l : List Nat, l.Nodup → (l.map fun i : Nat => lo + (i : Int)).Nodup := by
    intro l
    induction l with
    | nil => intro _; exact .nil
    | cons a l ih =>
      intro h
      rw [List.nodup_cons] at h
      rw [List.map_cons, List.nodup_cons]
      refine ⟨fun z => ?_, ih h.2⟩
      obtain ⟨b, hb, e⟩ := List.mem_map.mp z
      exact h.1 (by rw [show a = b by omega]; exact hb)
  exact this _ List.nodup_range
theorem tv_swp (pts : List (Int × Int)) (a b c : Int) : tv pts b a c = - tv pts a b c := by
  unfold tv ar
  grind
theorem tv_rot (pts : List (Int × Int)) (a b c : Int) : tv pts b c a = tv pts a b c := by
  unfold tv ar
  grind
theorem on_none {pts : List (Int × Int)} (h : onErr pts = none) {a b c : Int} (h0 : 0 ≤ a) (h1 : a < b) (h2 : b < c) (h3 : c < pts.length) : tv pts a b c ≠ 0 := by
  have q := List.find?_eq_none.mp h (a, b, c) (mem_threes.mpr ⟨h0, h1, h2, h3⟩)
  simpa using q
theorem tv_ne {pts : List (Int × Int)} (h : onErr pts = none) {a b c : Int} (ha : 0 ≤ a ∧ a < pts.length) (hb : 0 ≤ b ∧ b < pts.length) (hc : 0 ≤ c ∧ c < pts.length) (h1 : a ≠ b) (h2 : b ≠ c) (h3 : a ≠ c) : tv pts a b c ≠ 0 := by
  have e1 := tv_rot pts a b c
  have e2 := tv_rot pts b c a
  have e3 := tv_swp pts a b c
  have e4 := tv_rot pts b a c
  have e5 := tv_rot pts a c b
  rcases (show (a < b ∧ b < c) ∨ (a < c ∧ c < b) ∨ (b < a ∧ a < c) ∨ (b < c ∧ c < a) ∨ (c < a ∧ a < b) ∨ (c < b ∧ b < a) by omega) with z | z | z | z | z | z
  · have := on_none h ha.1 z.1 z.2 hc.2
    omega
  · have := on_none h ha.1 z.1 z.2 hb.2
    omega
  · have := on_none h hb.1 z.1 z.2 hc.2
    omega
  · have := on_none h hb.1 z.1 z.2 ha.2
    omega
  · have := on_none h hc.1 z.1 z.2 hb.2
    omega
  · have := on_none h hc.1 z.1 z.2 ha.2
    omega
theorem pts_eq (pts : List (Int × Int)) : (rangeI 0 pts.length).map (pt pts) = pts := by
  refine List.ext_getElem? fun i => ?_
  rw [List.getElem?_map]
  by_cases h : i < pts.length
  · rw [rangeI_get (by omega)]
    show some (pt pts (0 + (i : Nat))) = _
    unfold pt
    rw [List.getD_eq_getElem?_getD, show (0 + (i : Int)).toNat = i by omega, List.getElem?_eq_getElem h]
    rfl
  · rw [List.getElem?_eq_none (by simp; omega), List.getElem?_eq_none (by omega)]
    rfl
theorem pt_inj {pts : List (Int × Int)} (l3 : 3 ≤ pts.length) (h : onErr pts = none) {a b : Int} (ha : 0 ≤ a ∧ a < pts.length) (hb : 0 ≤ b ∧ b < pts.length) : pt pts a = pt pts b ↔ a = b := by
  refine ⟨fun e => ?_, fun e => by rw [e]⟩
  by_cases hab : a = b
  · exact hab
  obtain ⟨c, hc⟩ : ∃ c : Int, (0 ≤ c ∧ c < pts.length) ∧ b ≠ c ∧ a ≠ c := by
    by_cases h0 : a ≠ 0 ∧ b ≠ 0
    · exact ⟨0, by omega, by omega, by omega⟩
    by_cases h1 : a ≠ 1 ∧ b ≠ 1
    · exact ⟨1, by omega, by omega, by omega⟩
    exact ⟨2, by omega, by omega, by omega⟩
  have := tv_ne h ha hb hc.1 hab hc.2.1 hc.2.2
  unfold tv at this
  rw [e, ar_aab] at this
  exact absurd rfl this
theorem gp_of {pts : List (Int × Int)} (l3 : 3 ≤ pts.length) (h : onErr pts = none) : GP pts := by
  have at_ : ∀ p ∈ pts, ∃ a : Int, (0 ≤ a ∧ a < pts.length) ∧ pt pts a = p := fun p hp => by
    rw [← pts_eq pts] at hp
    obtain ⟨a, ha, e⟩ := List.mem_map.mp hp
    exact ⟨a, mem_rangeI.mp ha, e⟩
  constructor
  · rw [← pts_eq pts]
    have : ∀ l : List Int, l.Nodup → (∀ a ∈ l, 0 ≤ a ∧ a < pts.length) → (l.map (pt pts)).Nodup := by
      intro l
      induction l with
      | nil => intro _ _; exact .nil
      | cons a l ih =>
        intro hn hm
        rw [List.nodup_cons] at hn
        rw [List.map_cons, List.nodup_cons]
        refine ⟨fun z => ?_, ih hn.2 fun b hb => hm b (by simp [hb])⟩
        obtain ⟨b, hb, e⟩ := List.mem_map.mp z
        have := (pt_inj l3 h (hm b (by simp [hb])) (hm a (by simp))).mp e
        exact hn.1 (this ▸ hb)
    exact this _ (rangeI_nodup _ _) fun a ha => mem_rangeI.mp ha
  · intro p hp q hq r hr h1 h2 h3
    obtain ⟨a, ha, rfl⟩ := at_ p hp
    obtain ⟨b, hb, rfl⟩ := at_ q hq
    obtain ⟨c, hc, rfl⟩ := at_ r hr
    exact tv_ne h ha hb hc (fun e => h1 (by rw [e])) (fun e => h2 (by rw [e])) fun e => h3 (by rw [e])
/-- the floor that is built -/
structure Good (pts : List (Int × Int)) : Prop where
  l1 : 3 ≤ pts.length
  l2 : pts.length ≤ 10
  near : Near 1000000 pts
  on : onErr pts = none
theorem Good.gp {pts : List (Int × Int)} (g : Good pts) : GP pts := gp_of g.l1 g.on
theorem rd_floor {pts : List (Int × Int)} {fl : D} (F : FloorIs pts fl) : rd fl = .ok fl := by
  obtain ⟨t, rfl, _⟩ := F
  rfl
theorem S_pts (pts : List (Int × Int)) (f : Int × Int → Nat) : S pts f = S (rangeI 0 pts.length) fun a => f (pt pts a) := by
  rw [← S_map (rangeI 0 pts.length) (pt pts) f, pts_eq]
/-! ### the program's counts -/
theorem s_len (n : Nat) {pts : List (Int × Int)} {fl : D} (F : FloorIs pts fl) (hl : pts.length ≤ 12) : lenMv (P.ctx (n + 1)) m_len fl = .ok (.int pts.length) := by
  obtain ⟨t, rfl, T⟩ := F
  have q : vC (P.ctx (n + 1)) f_Floor___len__ [.ins c_Floor [.tup (pts.map ptD), t]] = .ok (.int pts.length) := by
    rw [run_Floor___len__, b_Floor___len__]
    simp
  have h1 : (0 : Int) ≤ pts.length := by omega
  have h2 : (pts.length : Int) ≤ 100000 := by omega
  simp [q, h1, h2]
theorem sg_pos {v : Int} : sg v = 1 ↔ 0 < v := by
  unfold sg
  split
  · simp [*]
  · split <;> simp <;> omega
theorem s_quick_turn (n : Nat) {pts : List (Int × Int)} {t : D} (T : TurnsOk pts t) {a b c : Int} (ha : 0 ≤ a ∧ a < pts.length) (hb : 0 ≤ b ∧ b < pts.length) (hc : 0 ≤ c ∧ c < pts.length) (h1 : a ≠ b) (h2 : b ≠ c) (h3 : c ≠ a) :
    vC (P.ctx (n + 1)) f_Floor_quick_turn [.ins c_Floor [.tup (pts.map ptD), t], .int a, .int b, .int c] = .ok (.int (sg (tv pts a b c))) := by
  rw [run_Floor_quick_turn, b_Floor_quick_turn]
  have g := TurnsOk.get T ha hb hc h1 h2 h3
  obtain ⟨ks, vs, f, rfl, T'⟩ := T
  simp [g]
theorem lft_idx (pts : List (Int × Int)) (a b : Int) : ((rangeI 0 pts.length).filter fun c => decide (¬ (c = a ∨ c = b) ∧ 0 < tv pts a b c)).length = lft pts (pt pts a) (pt pts b) := by
  rw [len_filter, lft, S_pts]
  refine S_congr fun c _ => ?_
  by_cases h1 : c = a
  · subst h1
    rw [if_neg (fun z => z.1 (Or.inl rfl)), ar_aba]
    rfl
  by_cases h2 : c = b
  · subst h2
    rw [if_neg (fun z => z.1 (Or.inr rfl)), ar_abb]
    rfl
  simp [h1, h2, tv]
theorem fm_filter {α β : Type} (l : List α) (p : α → Prop) [DecidablePred p] (f : α → β) : (l.flatMap fun a => if p a then [f a] else []) = (l.filter p).map f := by
  induction l with
  | nil => rfl
  | cons a l ih => by_cases h : p a <;> simp [h, ih]
theorem s_left_count (n : Nat) {pts : List (Int × Int)} {fl : D} (F : FloorIs pts fl) (hl : pts.length ≤ 12) {a b : Int} (ha : 0 ≤ a ∧ a < pts.length) (hb : 0 ≤ b ∧ b < pts.length) (hab : a ≠ b) :
    vC (P.ctx (n + 2)) f_left_count [fl, .int a, .int b] = .ok (.int (lft pts (pt pts a) (pt pts b) : Nat)) := by
  have hr := rd_floor F
  have q := s_len n F hl
  obtain ⟨t, rfl, T⟩ := F
  rw [run_left_count, b_left_count]
  have E : vE (P.ctx (n + 1)) none e_left_count_1 [.ins c_Floor [.tup (pts.map ptD), t], .int a, .int b, .un] = .ok (.lst (((rangeI 0 pts.length).filter fun c => decide (¬ (c = a ∨ c = b) ∧ 0 < tv pts a b c)).map D.int)) := by
    rw [e_left_count_1, comp_of (h := D.int) (xs := rangeI 0 pts.length) (g := fun c => if ¬ (c = a ∨ c = b) ∧ 0 < tv pts a b c then [D.int c] else []) (by simp [-lenMv_ins, q, rng1_of (n := pts.length) (by omega) (by omega)]; rfl) rfl ?_ ?_, fm_filter]
    · intro c hc
      rw [mem_rangeI] at hc
      by_cases h1 : c = a
      · simp [h1]
      by_cases h2 : c = b
      · simp [h2]
      have g := s_quick_turn n T ha hb hc hab (Ne.symm h2) h1
      have e := eqD_int (sg (tv pts a b c)) 1
      simp [h1, h2, g, e, sg_pos]
      by_cases h3 : 0 < tv pts a b c <;> simp [h3]
    · rw [fm_filter, List.length_map]
      refine Nat.le_trans (List.length_filter_le _ _) ?_
      rw [rangeI_length]
      omega
  have hL := lft_idx pts a b
  revert E hL
  generalize ((rangeI 0 pts.length).filter fun c => decide (¬ (c = a ∨ c = b) ∧ 0 < tv pts a b c)) = L
  intro E hL
  simp [E, hL]
/-- the ways -/
def prs (m : Nat) : List (Int × Int) := (rangeI 0 m).flatMap fun a => (rangeI 0 m).flatMap fun b => if a ≠ b then [(a, b)] else []
theorem mem_prs {m : Nat} {a b : Int} : (a, b) ∈ prs m ↔ (0 ≤ a ∧ a < m) ∧ (0 ≤ b ∧ b < m) ∧ a ≠ b := by
  unfold prs
  simp only [List.mem_flatMap, mem_rangeI]
  constructor
  · rintro ⟨a', ha, b', hb, h⟩
    by_cases e : a' ≠ b'
    · rw [if_pos e] at h
      obtain ⟨rfl, rfl⟩ := Prod.mk.inj (List.mem_singleton.mp h)
      exact ⟨ha, hb, e⟩
    · rw [if_neg e] at h; cases h
  · rintro ⟨ha, hb, e⟩
    exact ⟨a, ha, b, hb, by rw [if_pos e]; simp⟩
abbrev k2 (a : Int × Int) : List Key := [.inl a.1, .inl a.2]
theorem prs_ok {m : Nat} (h : m ≤ 12) : ((prs m).map k2).Nodup ∧ (prs m).length ≤ 1000 := by
  match m, h with
  | 0, _ | 1, _ | 2, _ | 3, _ | 4, _ | 5, _ | 6, _ | 7, _ | 8, _ | 9, _ | 10, _ | 11, _ | 12, _ => decide +kernel
  | n + 13, h => exact absurd h (by omega)
def lcs (pts : List (Int × Int)) : List (List Key × D) := (prs pts.length).map fun a => (k2 a, .int (lft pts (pt pts a.1) (pt pts a.2) : Nat))
theorem s_line_counts (n : Nat) {pts : List (Int × Int)} {fl : D} (F : FloorIs pts fl) (hl : pts.length ≤ 12) :
    vC (P.ctx (n + 3)) f_line_counts [fl] = .ok (.dit ((lcs pts).map (·.1)) ((lcs pts).map (·.2))) := by
  have hr := rd_floor F
  have q := s_len (n + 1) F hl
  rw [run_line_counts, b_line_counts]
  have rg := rgvO_of (n := (pts.length : Int)) (by omega) (by omega)
  have wk : walkOf (.rng 0 (pts.length : Int)) = .ok ((rangeI 0 pts.length).map D.int) := by
    rw [walk_rng, ← rangeD_eq0]
  have E : vE (P.ctx (n + 2)) none e_line_counts_1 [fl, .rng 0 pts.length, .un, .un] = .ok (.dit ((lcs pts).map (·.1)) ((lcs pts).map (·.2))) := by
    rw [e_line_counts_1, dcomp_of (h := D.int) (xs := rangeI 0 pts.length) (g := fun a => (rangeI 0 pts.length).flatMap fun b => if a ≠ b then [D.tup [.tup [.int a, .int b], .int (lft pts (pt pts a) (pt pts b) : Nat)]] else []) (by simp) wk ?_]
    · have o := prs_ok hl
      have e : ((rangeI 0 pts.length).flatMap fun a => (rangeI 0 pts.length).flatMap fun b => if a ≠ b then [D.tup [.tup [.int a, .int b], .int (lft pts (pt pts a) (pt pts b) : Nat)]] else []) = (lcs pts).map fun p => D.tup [.tup (p.1.map keyD), p.2] := by
        unfold lcs prs
        simp only [List.map_flatMap, List.map_map]
        congr 1
        funext a
        congr 1
        funext b
        by_cases h : a = b <;> simp [h, keyD]
      rw [e, dict_t (by unfold lcs; rw [List.map_map]; exact o.1) (by unfold lcs; rw [List.length_map]; omega)]
    · intro a ha
      rw [mem_rangeI] at ha
      simp [hr]
      rw [forc_of (h := D.int) (xs := rangeI 0 pts.length) (g := fun b => if a ≠ b then [D.tup [.tup [.int a, .int b], .int (lft pts (pt pts a) (pt pts b) : Nat)]] else []) (by simp) wk ?_]
      · simp
      intro b hb
      rw [mem_rangeI] at hb
      have e := eqD_int a b
      by_cases h : a = b
      · simp [h]
      · have s := s_left_count n F hl ha hb h
        simp [hr, e, h, s]
  simp [-lenMv_ins, hr, q, rg, E]
theorem look_at {κ : Type} [DecidableEq κ] : ∀ {l : List (κ × D)} {k : κ} {d : D}, (l.map (·.1)).Nodup → (k, d) ∈ l → lookK k (l.map (·.1)) (l.map (·.2)) = .ok d
  | (k0, d0) :: l, k, d, hn, h => by
    rw [List.map_cons, List.nodup_cons] at hn
    show (if k0 = k then R.ok d0 else lookK k (l.map (·.1)) (l.map (·.2))) = _
    rcases List.mem_cons.mp h with e | h
    · cases e
      rw [if_pos rfl]
    · have : k0 ≠ k := fun z => hn.1 (by rw [z]; exact List.mem_map.mpr ⟨_, h, rfl⟩)
      rw [if_neg this, look_at hn.2 h]
theorem lcs_nd {pts : List (Int × Int)} (hl : pts.length ≤ 12) : ((lcs pts).map (·.1)).Nodup := by
  unfold lcs
  rw [List.map_map]
  exact (prs_ok hl).1
theorem lcs_look {pts : List (Int × Int)} (hl : pts.length ≤ 12) {a : Int × Int} (h : a ∈ prs pts.length) : itemO (.dit ((lcs pts).map (·.1)) ((lcs pts).map (·.2))) (.tup [.int a.1, .int a.2]) = .ok (.int (lft pts (pt pts a.1) (pt pts a.2) : Nat)) := by
  rw [itemO_eq]
  exact look_at (lcs_nd hl) (List.mem_map.mpr ⟨a, h, rfl⟩)
/-- the line row -/
def rowOf (pts : List (Int × Int)) : List Int := (rangeI 0 (pts.length - 1)).map fun j => (cnt pts j.toNat : Nat)
theorem cnt_idx {pts : List (Int × Int)} (l3 : 3 ≤ pts.length) (on : onErr pts = none) (j : Nat) : ((prs pts.length).filter fun a => decide (lft pts (pt pts a.1) (pt pts a.2) = j)).length = cnt pts j := by
  rw [len_filter]
  unfold prs cnt
  rw [S_flatMap, S_pts]
  refine S_congr fun a ha => ?_
  rw [S_flatMap, S_pts]
  refine S_congr fun b hb => ?_
  have e := pt_inj l3 on (mem_rangeI.mp ha) (mem_rangeI.mp hb)
  by_cases h : a = b
  · have h2 := e.mpr h
    simp [h]
  · have h2 : ¬ pt pts a = pt pts b := fun z => h (e.mp z)
    simp [h, h2]
theorem s_line_row (n : Nat) {pts : List (Int × Int)} {fl : D} (F : FloorIs pts fl) (l3 : 3 ≤ pts.length) (hl : pts.length ≤ 12) (on : onErr pts = none) :
    vC (P.ctx (n + 4)) f_line_row [fl] = .ok (.lst ((rowOf pts).map D.int)) := by
  have hr := rd_floor F
  have q := s_len (n + 2) F hl
  have c := s_line_counts n F hl
  rw [run_line_row, b_line_row]
  have E2 : ∀ j : Int, 0 ≤ j → vE (P.ctx (n + 3)) none e_line_row_1 [fl, .dit ((lcs pts).map (·.1)) ((lcs pts).map (·.2)), .int j, .un] = .ok (.lst (((prs pts.length).filter fun a => decide (lft pts (pt pts a.1) (pt pts a.2) = j.toNat)).map fun a => .tup [.int a.1, .int a.2])) := by
    intro j hj
    rw [e_line_row_1, comp_of (h := fun a => D.tup [.int a.1, .int a.2]) (xs := prs pts.length) (g := fun a => if lft pts (pt pts a.1) (pt pts a.2) = j.toNat then [D.tup [.int a.1, .int a.2]] else []) (by simp; rfl) ?_ ?_ ?_, fm_filter]
    · rw [walk_dit]
      unfold lcs
      rw [List.map_map, List.map_map]
      rfl
    · intro a ha
      have l := lcs_look hl ha
      have e := eqD_int (lft pts (pt pts a.1) (pt pts a.2) : Nat) j
      simp [l, e]
      by_cases h : lft pts (pt pts a.1) (pt pts a.2) = j.toNat
      · have h2 : ((lft pts (pt pts a.1) (pt pts a.2) : Nat) : Int) = j := by omega
        simp [h, h2, hj]
        omega
      · have h2 : ¬ ((lft pts (pt pts a.1) (pt pts a.2) : Nat) : Int) = j := by omega
        simp [h, h2]
    · rw [fm_filter, List.length_map]
      refine Nat.le_trans (List.length_filter_le _ _) ?_
      have := (prs_ok hl).2
      omega
  have E : vE (P.ctx (n + 3)) none e_line_row_2 [fl, .dit ((lcs pts).map (·.1)) ((lcs pts).map (·.2)), .un, .un] = .ok (.lst ((rowOf pts).map D.int)) := by
    rw [e_line_row_2, comp_of (h := D.int) (xs := rangeI 0 (pts.length - 1)) (g := fun j => [D.int (cnt pts j.toNat : Nat)]) (by simp [-lenMv_ins, hr, q, rng1_of (n := (pts.length : Int) - 1) (by omega) (by omega)]; rfl) rfl ?_ ?_]
    · unfold rowOf
      rw [List.map_map, ← List.map_eq_flatMap]
      rfl
    · intro j hj
      rw [mem_rangeI] at hj
      have e := E2 j hj.1
      simp [hr, e, cnt_idx l3 on]
    · rw [← List.map_eq_flatMap, List.length_map, rangeI_length]
      omega
  simp [hr, c, E]

end PD.Law
end

section
set_option Elab.async false
set_option linter.all false
set_option maxRecDepth 100000
set_option maxHeartbeats 1000000
namespace PD.Law
open PySem L2 PD
/-! ### the law's own rows -/
theorem eqd_pt (p : Int × Int) : Eqd 1 (ptD p) := Eqd.tup (n := 0) fun z hz => by
  simp only [List.mem_cons, List.not_mem_nil, or_false] at hz
  rcases hz with rfl | rfl <;> exact Eqd.int _ _
theorem eq_pt (p q : Int × Int) : eqO (ptD p) (ptD q) = .ok (decide (p = q)) := by
  refine eqD_dec (eqd_pt p).up (eqd_pt q).up rfl rfl ⟨fun e => ?_, fun e => by rw [e]⟩
  injection e with e
  injection e with e1 e2
  injection e2 with e2
  injection e1 with e1
  injection e2 with e2
  exact Prod.ext e1 e2
theorem in_true (l : List Int) : inO (.bl false) (.lst (l.map fun _ => D.bl true)) = .ok false := by
  rw [inO_eq]
  show (if (true && (l.map fun _ => D.bl true).all D.flat) then R.ok ((l.map fun _ => D.bl true).any fun y => eqV y.fv (D.bl false).fv) else .no) = _
  have h1 : ∀ l : List Int, (l.map fun _ => D.bl true).all D.flat = true := by
    intro l
    induction l with
    | nil => rfl
    | cons a l ih => exact ih
  have h2 : ∀ l : List Int, ((l.map fun _ => D.bl true).any fun y => eqV y.fv (D.bl false).fv) = false := by
    intro l
    induction l with
    | nil => rfl
    | cons a l ih =>
      show (eqV (V.bl true) (V.bl false) || _) = false
      rw [ih]
      rfl
  rw [h1, h2]
  rfl
@[simp] theorem s_whole (n : Nat) (v : Int) : vC (P.ctx (n + 1)) f_law_whole [.int v] = .ok (.bl true) := by
  rw [run_law_whole, b_law_whole]
  simp
def cntL (pts : List (Int × Int)) (l : List (Int × Int)) (j : Nat) : Nat := (l.filter fun a => decide (lft pts (pt pts a.1) (pt pts a.2) = j)).length
def rowL (pts : List (Int × Int)) (l : List (Int × Int)) : List Int := (rangeI 0 (pts.length - 1)).map fun j => (cntL pts l j.toNat : Nat)
theorem rowL_len (pts l) : (rowL pts l).length = pts.length - 1 := by
  unfold rowL
  rw [List.length_map, rangeI_length]
  omega
theorem rowL_get {pts l} {j : Nat} (h : j < pts.length - 1) : (rowL pts l)[j]? = some ((cntL pts l j : Nat) : Int) := by
  unfold rowL
  rw [List.getElem?_map, rangeI_get (by omega)]
  show some ((cntL pts l (0 + (j : Int)).toNat : Nat) : Int) = _
  rw [show (0 + (j : Int)).toNat = j by omega]
theorem cntL_snoc (pts l a j) : cntL pts (l ++ [a]) j = cntL pts l j + if lft pts (pt pts a.1) (pt pts a.2) = j then 1 else 0 := by
  unfold cntL
  rw [List.filter_append, List.length_append]
  by_cases h : lft pts (pt pts a.1) (pt pts a.2) = j <;> simp [h]
theorem rowL_set {pts l} {a : Int × Int} {L : Nat} (e : lft pts (pt pts a.1) (pt pts a.2) = L) (h : L < pts.length - 1) : (rowL pts l).set L ((cntL pts l L : Nat) + 1) = rowL pts (l ++ [a]) := by
  refine List.ext_getElem? fun j => ?_
  rw [List.getElem?_set]
  by_cases hj : j < pts.length - 1
  · rw [rowL_get hj, rowL_get hj, cntL_snoc, e]
    by_cases h2 : L = j
    · subst h2
      rw [if_pos rfl, if_pos (by rw [rowL_len]; exact h), if_pos rfl]
      rfl
    · rw [if_neg h2, if_neg h2]
      rfl
  · rw [List.getElem?_eq_none (by rw [rowL_len]; omega), List.getElem?_eq_none (by rw [rowL_len]; omega)]
    split
    · rename_i h2; omega
    · rfl
theorem rowL_nil {pts : List (Int × Int)} (h1 : 1 ≤ pts.length) : List.replicate (pts.length - 1) (D.int 0) = (rowL pts []).map D.int := by
  refine List.ext_getElem? fun j => ?_
  rw [List.getElem?_map]
  by_cases hj : j < pts.length - 1
  · rw [rowL_get hj, List.getElem?_replicate, if_pos (by omega)]
    rfl
  · rw [List.getElem?_eq_none (by rw [List.length_replicate]; omega), List.getElem?_eq_none (by rw [rowL_len]; omega)]
    rfl
theorem rowL_prs {pts : List (Int × Int)} (l3 : 3 ≤ pts.length) (on : onErr pts = none) : rowL pts (prs pts.length) = rowOf pts := by
  unfold rowL rowOf
  refine List.map_congr_left fun j _ => ?_
  rw [← cnt_idx l3 on]
  rfl
def inn (a : Int) (pre : List Int) : List (Int × Int) := pre.flatMap fun b => if a ≠ b then [(a, b)] else []
def outr (m : Nat) (pre : List Int) : List (Int × Int) := pre.flatMap fun a => inn a (rangeI 0 m)
theorem inn_nil (a) : inn a [] = [] := rfl
theorem inn_same (a pre) : inn a (pre ++ [a]) = inn a pre := by simp [inn]
theorem inn_snoc {a b : Int} (pre) (h : a ≠ b) : inn a (pre ++ [b]) = inn a pre ++ [(a, b)] := by simp [inn, h]
theorem outr_snoc (m a pre) : outr m (pre ++ [a]) = outr m pre ++ inn a (rangeI 0 m) := by simp [outr]
theorem outr_prs (m : Nat) : outr m (rangeI 0 m) = prs m := rfl
theorem lst_walk (pts : List (Int × Int)) : walkOf (.lst (pts.map ptD)) = .ok ((rangeI 0 pts.length).map fun a => ptD (pt pts a)) := by
  rw [walk_lst, show ((rangeI 0 pts.length).map fun a => ptD (pt pts a)) = ((rangeI 0 pts.length).map (pt pts)).map ptD by rw [List.map_map] <;> rfl, pts_eq]
theorem s_row_due (n : Nat) {pts : List (Int × Int)} (g : Good pts) :
    vC (P.ctx (n + 2)) f_law_row_due [.lst (pts.map ptD)] = .ok (.lst ((rowOf pts).map D.int)) := by
  have hp := g.near.pb (by omega)
  have l1 := g.l1
  have l2 := g.l2
  rw [run_law_row_due, b_law_row_due]
  have E : ∀ (a b : Int) (e1 e2 e5 : D), (0 ≤ a ∧ a < pts.length) → (0 ≤ b ∧ b < pts.length) → vE (P.ctx (n + 1)) none e_law_row_due_1 [.lst (pts.map ptD), e1, e2, ptD (pt pts a), ptD (pt pts b), e5, .un] = .ok (.lst ((pts.filter fun r => decide (0 < ar (pt pts a) (pt pts b) r)).map ptD)) := by
    intro a b e1 e2 e5 ha hb
    rw [e_law_row_due_1, comp_of (h := ptD) (xs := pts) (g := fun r => if 0 < ar (pt pts a) (pt pts b) r then [ptD r] else []) (by simp; rfl) rfl ?_ ?_, fm_filter]
    · intro r hr
      have q := s_area n (hp _ (pt_mem ha.1 ha.2)) (hp _ (pt_mem hb.1 hb.2)) (hp _ hr)
      by_cases h : 0 < ar (pt pts a) (pt pts b) r <;> simp [q, h]
    · rw [fm_filter, List.length_map]
      exact Nat.le_trans (List.length_filter_le _ _) (by omega)
  have lf : ∀ a b : Int, (pts.filter fun r => decide (0 < ar (pt pts a) (pt pts b) r)).length = lft pts (pt pts a) (pt pts b) := fun a b => by rw [len_filter] <;> rfl
  have L1 : ∀ (a : Int) (l : List (Int × Int)) (e4 e5 e6 : D), (0 ≤ a ∧ a < pts.length) → ∃ e', vS (P.ctx (n + 1)) none l_law_row_due_2 [.lst (pts.map ptD), .int pts.length, .lst ((rowL pts l).map D.int), ptD (pt pts a), e4, e5, .un] = .nx e' ∧ ∃ e4 e5, e' = [.lst (pts.map ptD), .int pts.length, .lst ((rowL pts (l ++ inn a (rangeI 0 pts.length))).map D.int), ptD (pt pts a), e4, e5, .un] := by
    intro a l e4 e5 e6 ha
    rw [l_law_row_due_2]
    refine for_wp (rangeI 0 pts.length) (h := fun b => ptD (pt pts b)) (I := fun pre e => ∃ e4 e5, e = [.lst (pts.map ptD), .int pts.length, .lst ((rowL pts (l ++ inn a pre)).map D.int), ptD (pt pts a), e4, e5, .un]) (Q := fun o => ∃ e', o = .nx e' ∧ ∃ e4 e5, e' = [.lst (pts.map ptD), .int pts.length, .lst ((rowL pts (l ++ inn a (rangeI 0 pts.length))).map D.int), ptD (pt pts a), e4, e5, .un]) (by simp) (lst_walk pts) ⟨_, _, by rw [inn_nil, List.append_nil]⟩ ?_ fun e h => ⟨e, rfl, h⟩
    rintro pre b post e eq ⟨f4, f5, rfl⟩
    have hb : 0 ≤ b ∧ b < pts.length := mem_rangeI.mp (by rw [eq]; simp)
    have i := pt_inj l1 g.on ha hb
    have ee := eq_pt (pt pts a) (pt pts b)
    by_cases h : a = b
    · subst h
      refine nx_step (e := [.lst (pts.map ptD), .int pts.length, .lst ((rowL pts (l ++ inn a pre)).map D.int), ptD (pt pts a), ptD (pt pts a), f5, .un]) (by simp [ee]) ⟨_, _, by rw [inn_same]⟩
    · have h2 : ¬ pt pts a = pt pts b := fun z => h (i.mp z)
      have lb := lft_le g.gp.nd (pt_mem ha.1 ha.2) (pt_mem hb.1 hb.2) h2
      have hL : lft pts (pt pts a) (pt pts b) < pts.length - 1 := by omega
      have q := E a b (.int pts.length) (.lst ((rowL pts (l ++ inn a pre)).map D.int)) f5 ha hb
      have gt := rowL_get (l := l ++ inn a pre) hL
      have it : itemO (.lst ((rowL pts (l ++ inn a pre)).map D.int)) (.int (lft pts (pt pts a) (pt pts b) : Nat)) = .ok (.int (cntL pts (l ++ inn a pre) (lft pts (pt pts a) (pt pts b)) : Nat)) := item_map (by omega) (by rw [show ((lft pts (pt pts a) (pt pts b) : Nat) : Int).toNat = lft pts (pt pts a) (pt pts b) by omega]; exact gt)
      have pl := putL_of (env := [.lst (pts.map ptD), .int pts.length, .lst ((rowL pts (l ++ inn a pre)).map D.int), ptD (pt pts a), ptD (pt pts b), .int (lft pts (pt pts a) (pt pts b) : Nat), .un]) (i := 2) (k := (lft pts (pt pts a) (pt pts b) : Nat)) (d := .int ((cntL pts (l ++ inn a pre) (lft pts (pt pts a) (pt pts b)) : Nat) + 1)) rfl (by omega) (by rw [List.length_map, rowL_len]; omega)
      have st := rowL_set (l := l ++ inn a pre) (a := (a, b)) (L := lft pts (pt pts a) (pt pts b)) rfl hL
      have e3 : inn a (pre ++ [b]) = inn a pre ++ [(a, b)] := inn_snoc pre h
      have key : ∀ R : List (Int × Int), (l ++ inn a pre) = R → lstep (onT (PD.asgT (.nm 4) (ptD (pt pts b)) [.lst (pts.map ptD), .int pts.length, .lst ((rowL pts R).map D.int), ptD (pt pts a), f4, f5, .un]) fun e => vS (P.ctx (n + 1)) none (.seq (.ife (.cmp .NotEq (.var 3) (.var 4)) (.seq (.asg 5 (.blt .len (.cons e_law_row_due_1 .nil)))
 (.seq (.setL 2 (.var 5) (.bin .Add (.item (.var 2) (.var 5)) (.int 1)))
 .skip)) .skip)
 .skip) e) (fun e => ∃ e4 e5, e = [.lst (pts.map ptD), .int pts.length, .lst ((rowL pts (R ++ [(a, b)])).map D.int), ptD (pt pts a), e4, e5, .un]) (fun o => ∃ e', o = .nx e' ∧ ∃ e4 e5, e' = [.lst (pts.map ptD), .int pts.length, .lst ((rowL pts (l ++ inn a (rangeI 0 pts.length))).map D.int), ptD (pt pts a), e4, e5, .un]) := by
        intro R hR
        rw [hR] at q it pl st
        rw [← List.map_set] at pl
        rw [show ((lft pts (pt pts a) (pt pts b) : Nat) : Int).toNat = lft pts (pt pts a) (pt pts b) by omega, st] at pl
        refine nx_step (e := [.lst (pts.map ptD), .int pts.length, .lst ((rowL pts (R ++ [(a, b)])).map D.int), ptD (pt pts a), ptD (pt pts b), .int (lft pts (pt pts a) (pt pts b) : Nat), .un]) ?_ ⟨_, _, rfl⟩
        have hlf := lf a b
        revert q hlf
        generalize (pts.filter fun r => decide (0 < ar (pt pts a) (pt pts b) r)) = FF
        intro q hlf
        simp [ee, h2, q, hlf, it, pl]
      have kk := key _ rfl
      rw [e3, ← List.append_assoc]
      exact kk
  have L2 : ∃ e', vS (P.ctx (n + 1)) none l_law_row_due_3 [.lst (pts.map ptD), .int pts.length, .lst ((rowL pts []).map D.int), .un, .un, .un, .un] = .nx e' ∧ ∃ e3 e4 e5, e' = [.lst (pts.map ptD), .int pts.length, .lst ((rowL pts (prs pts.length)).map D.int), e3, e4, e5, .un] := by
    rw [l_law_row_due_3]
    refine for_wp (rangeI 0 pts.length) (h := fun b => ptD (pt pts b)) (I := fun pre e => ∃ e3 e4 e5, e = [.lst (pts.map ptD), .int pts.length, .lst ((rowL pts (outr pts.length pre)).map D.int), e3, e4, e5, .un]) (Q := fun o => ∃ e', o = .nx e' ∧ ∃ e3 e4 e5, e' = [.lst (pts.map ptD), .int pts.length, .lst ((rowL pts (prs pts.length)).map D.int), e3, e4, e5, .un]) (by simp) (lst_walk pts) ⟨_, _, _, rfl⟩ ?_ fun e h => ⟨e, rfl, h⟩
    rintro pre a post e eq ⟨f3, f4, f5, rfl⟩
    have ha : 0 ≤ a ∧ a < pts.length := mem_rangeI.mp (by rw [eq]; simp)
    obtain ⟨e', q, e4, e5, rfl⟩ := L1 a (outr pts.length pre) f4 f5 .un ha
    refine nx_step (by simp [q]; rfl) ⟨ptD (pt pts a), e4, e5, ?_⟩
    rw [outr_snoc]
  obtain ⟨e', q, e3, e4, e5, rfl⟩ := L2
  have rp := rowL_nil (pts := pts) (by omega)
  have h1 : -1000 ≤ (pts.length : Int) - 1 := by omega
  have h2 : (pts.length : Int) - 1 ≤ 1000 := by omega
  rw [rowL_prs l1 g.on] at q
  simp [h1, h2, rp, q]

end PD.Law
end

section
set_option Elab.async false
set_option linter.all false
set_option maxRecDepth 100000
set_option maxHeartbeats 1000000
namespace PD.Law
open PySem L2 PD
/-! ### without a point -/
theorem at_pt {l : List (Int × Int)} {p : Int × Int} (h : p ∈ l) : ∃ a : Int, (0 ≤ a ∧ a < l.length) ∧ pt l a = p := by
  rw [← pts_eq l] at h
  obtain ⟨a, ha, e⟩ := List.mem_map.mp h
  exact ⟨a, mem_rangeI.mp ha, e⟩
theorem nd_inj {l : List (Int × Int)} (nd : l.Nodup) {a b : Int} (ha : 0 ≤ a ∧ a < l.length) (hb : 0 ≤ b ∧ b < l.length) (h : pt l a = pt l b) : a = b := by
  unfold pt at h
  rw [List.getD_eq_getElem?_getD, List.getD_eq_getElem?_getD, List.getElem?_eq_getElem (by omega : a.toNat < l.length), List.getElem?_eq_getElem (by omega : b.toNat < l.length)] at h
  have := (List.getElem_inj nd).mp h
  omega
theorem on_of_gp {l : List (Int × Int)} (g : GP l) : onErr l = none := by
  refine List.find?_eq_none.mpr fun t ht => ?_
  obtain ⟨a, b, c⟩ := t
  have q := mem_threes.mp ht
  have n1 : pt l a ≠ pt l b := fun e => by have := nd_inj g.nd ⟨by omega, by omega⟩ ⟨by omega, by omega⟩ e; omega
  have n2 : pt l b ≠ pt l c := fun e => by have := nd_inj g.nd ⟨by omega, by omega⟩ ⟨by omega, by omega⟩ e; omega
  have n3 : pt l a ≠ pt l c := fun e => by have := nd_inj g.nd ⟨by omega, by omega⟩ ⟨by omega, by omega⟩ e; omega
  have := g.ne _ (pt_mem (i := a) (by omega) (by omega)) _ (pt_mem (i := b) (by omega) (by omega)) _ (pt_mem (i := c) (by omega) (by omega)) n1 n2 n3
  have : ¬ (tv l a b c = 0) := this
  simpa using this
def wo (pts : List (Int × Int)) (r : Int) : List (Int × Int) := pts.filter fun s => s ≠ pt pts r
theorem split_at {pts : List (Int × Int)} {r : Int} (hr : 0 ≤ r ∧ r < pts.length) : pts = pts.take r.toNat ++ pt pts r :: pts.drop (r.toNat + 1) := by
  have h : r.toNat < pts.length := by omega
  have e : pt pts r = pts[r.toNat] := by
    unfold pt
    rw [List.getD_eq_getElem?_getD, List.getElem?_eq_getElem h]
    rfl
  rw [e, ← List.drop_eq_getElem_cons h, List.take_append_drop]
theorem wo_cut {pts : List (Int × Int)} (nd : pts.Nodup) {r : Int} (hr : 0 ≤ r ∧ r < pts.length) : wo pts r = pts.take r.toNat ++ pts.drop (r.toNat + 1) := by
  have e := split_at hr
  unfold wo
  generalize pt pts r = p at e ⊢
  generalize pts.take r.toNat = A at e ⊢
  generalize pts.drop (r.toNat + 1) = B at e ⊢
  subst e
  rw [List.nodup_append] at nd
  obtain ⟨h1, h2, h3⟩ := nd
  rw [List.nodup_cons] at h2
  rw [List.filter_append, List.filter_cons]
  have a1 : A.filter (fun s => decide (s ≠ p)) = A := List.filter_eq_self.mpr fun s hs => decide_eq_true (h3 s hs p (by simp))
  have a2 : B.filter (fun s => decide (s ≠ p)) = B := List.filter_eq_self.mpr fun s hs => decide_eq_true fun z => h2.1 (z ▸ hs)
  rw [a1, a2]
  simp
theorem wo_len {pts : List (Int × Int)} (nd : pts.Nodup) {r : Int} (hr : 0 ≤ r ∧ r < pts.length) : (wo pts r).length = pts.length - 1 := by
  rw [wo_cut nd hr, List.length_append, List.length_take, List.length_drop]
  omega
theorem wo_good {pts : List (Int × Int)} (g : Good pts) (h4 : 4 ≤ pts.length) {r : Int} (hr : 0 ≤ r ∧ r < pts.length) : Good (wo pts r) := by
  have l := wo_len g.gp.nd hr
  have l2 := g.l2
  exact ⟨by omega, by omega, fun p hp => g.near p (List.mem_filter.mp hp).1, on_of_gp (g.gp.filter _)⟩
theorem near_far {pts : List (Int × Int)} (h : Near 1000000 pts) : farOf pts = none := by
  induction pts with
  | nil => rfl
  | cons p r ih =>
    have h1 := h p (by simp)
    rw [farOf, if_neg (by unfold far; omega), if_neg (by unfold far; omega)]
    exact ih fun q hq => h q (by simp [hq])
theorem Good.new {pts : List (Int × Int)} (g : Good pts) (n : Nat) : ∃ d, vN (P.ctx (n + 3)) c_Floor [.lst (pts.map ptD)] = .ok d ∧ FloorIs pts d := by
  have q := new_floor_l n pts
  unfold floorErr at q
  have l1 := g.l1
  have l2 := g.l2
  rw [if_neg (by omega), near_far g.near, g.on] at q
  exact q
/-! ### rows -/
theorem rowOf_len (pts : List (Int × Int)) : (rowOf pts).length = pts.length - 1 := by
  unfold rowOf
  rw [List.length_map, rangeI_length]
  omega
theorem rowOf_get {pts : List (Int × Int)} {j : Nat} (h : j < pts.length - 1) : (rowOf pts)[j]? = some ((cnt pts j : Nat) : Int) := by
  unfold rowOf
  rw [List.getElem?_map, rangeI_get (by omega)]
  show some ((cnt pts (0 + (j : Int)).toNat : Nat) : Int) = _
  rw [show (0 + (j : Int)).toNat = j by omega]
theorem rowOf_rev {pts : List (Int × Int)} (g : GP pts) : (rowOf pts).reverse = rowOf pts := by
  refine List.ext_getElem? fun j => ?_
  by_cases h : j < pts.length - 1
  · rw [List.getElem?_reverse (by rw [rowOf_len]; exact h), rowOf_len, rowOf_get (by omega), rowOf_get h]
    rw [show pts.length - 1 - 1 - j = pts.length - 2 - j by omega, cnt_mirror g (by omega)]
  · rw [List.getElem?_eq_none (by rw [List.length_reverse, rowOf_len]; omega), List.getElem?_eq_none (by rw [rowOf_len]; omega)]
theorem sum_rangeI (m : Nat) (f : Nat → Nat) : ((rangeI 0 m).map fun j => ((f j.toNat : Nat) : Int)).sum = ((S (List.range m) f : Nat) : Int) := by
  have e : ((rangeI 0 m).map fun j => ((f j.toNat : Nat) : Int)) = (List.range m).map fun i => ((f i : Nat) : Int) := by
    unfold rangeI
    rw [List.map_map]
    rw [show ((m : Int) - 0).toNat = m by omega]
    refine List.map_congr_left fun i _ => ?_
    show ((f (0 + (i : Int)).toNat : Nat) : Int) = _
    rw [show (0 + (i : Int)).toNat = i by omega]
  rw [e]
  generalize List.range m = l
  induction l with
  | nil => rfl
  | cons a l ih =>
    rw [List.map_cons, List.sum_cons, S_cons, ih]
    omega
theorem rowOf_sum {pts : List (Int × Int)} (nd : pts.Nodup) (h : 1 ≤ pts.length) : (rowOf pts).sum = (pts.length : Int) * (pts.length - 1) := by
  unfold rowOf
  rw [show (pts.length : Int) - 1 = ((pts.length - 1 : Nat) : Int) by omega, sum_rangeI, cnt_sum nd]
  rw [Int.natCast_mul]
theorem cnt_le (pts : List (Int × Int)) (j : Nat) : cnt pts j ≤ pts.length * pts.length := by
  unfold cnt
  refine Nat.le_trans (S_le (g := fun _ => pts.length) fun p _ => ?_) (by rw [S_const]; exact Nat.le_refl _)
  refine Nat.le_trans (S_le (g := fun _ => 1) fun q _ => ?_) (by rw [S_const, Nat.mul_one]; exact Nat.le_refl _)
  by_cases h : p ≠ q ∧ lft pts p q = j <;> simp [h]
/-! ### sums of rows -/
theorem item_ints {l : List Int} {j : Int} {v : Int} (h : 0 ≤ j) (e : l[j.toNat]? = some v) : itemO (.lst (l.map D.int)) (.int j) = .ok (.int v) := item_map h e
theorem cut_suf {xs : List D} {i : Int} (h : 0 ≤ i) : cutO (.lst xs) (.int i) .non = .ok (.lst (xs.drop i.toNat)) := by
  rw [cutO_eq]
  show R.ok (D.lst (cutL xs (some i) none)) = _
  unfold cutL
  rw [show i = ((i.toNat : Nat) : Int) by omega, HT.sIx_nat]
  show R.ok (D.lst ((xs.drop (min i.toNat xs.length)).take (xs.length - min i.toNat xs.length))) = _
  have e : xs.drop (min i.toNat xs.length) = xs.drop i.toNat := by
    by_cases h : i.toNat ≤ xs.length
    · rw [Nat.min_eq_left h]
    · rw [Nat.min_eq_right (by omega), List.drop_eq_nil_of_le (Nat.le_refl _), List.drop_eq_nil_of_le (by omega)]
  rw [e, List.take_of_length_le (by rw [List.length_drop]; omega)]
  rw [show ((i.toNat : Nat) : Int).toNat = i.toNat by omega]
theorem eqd_pts (pts : List (Int × Int)) : Eqd 2 (.tup (pts.map ptD)) := eqd_tup eqd_pt pts
theorem attr_pts {pts : List (Int × Int)} {fl : D} (F : FloorIs pts fl) : getF T.stat fl a_points = .ok (.tup (pts.map ptD)) := by
  obtain ⟨t, rfl, _⟩ := F
  simp
/-! ### what is due -/
theorem eqd_raised {x : Str} {d : D} (hx : PyData.strOk x = true) (hd : Eqd 1 d) : Eqd 64 (raisedD x d) := by
  refine (Eqd.tup (n := 1) fun y hy => ?_).up
  simp only [List.mem_cons, List.not_mem_nil, or_false] at hy
  rcases hy with rfl | rfl | rfl | rfl
  · exact Eqd.str _ (by decide +kernel)
  · exact Eqd.str _ hx
  · exact hd
  · exact Eqd.bl _ _
theorem eqd_t3 (t : Int × Int × Int) : Eqd 1 (t3D t) := Eqd.tup (n := 0) fun y hy => by
  simp only [List.mem_cons, List.not_mem_nil, or_false] at hy
  rcases hy with rfl | rfl | rfl <;> exact Eqd.int _ _
theorem eqd_fl (pts : List (Int × Int)) : Eqd 64 (.tup [.str "floor", .str "", .tup (pts.map ptD), .bl true]) := by
  refine (Eqd.tup (n := 2) fun y hy => ?_).up
  simp only [List.mem_cons, List.not_mem_nil, or_false] at hy
  rcases hy with rfl | rfl | rfl | rfl
  · exact Eqd.str _ (by decide +kernel)
  · exact Eqd.str _ (by decide +kernel)
  · exact eqd_pts _
  · exact Eqd.bl _ _
theorem eqd_due (pts : List (Int × Int)) : Eqd 64 (dueD pts) := by
  unfold dueD
  split
  · exact eqd_raised (by decide +kernel) (Eqd.int _ _)
  split
  · exact eqd_raised (by decide +kernel) (Eqd.int _ _)
  split
  · exact eqd_raised (by decide +kernel) (eqd_t3 _)
  · exact eqd_fl _
theorem eq_rr : eqO (.str "raised") (.str "raised") = .ok true := eq_strs (by decide +kernel)
theorem eq_fr : eqO (.str "floor") (.str "raised") = .ok false := eq_strs (by decide +kernel)
end PD.Law
end

section
set_option Elab.async false
set_option linter.all false
set_option maxRecDepth 100000
set_option maxHeartbeats 1000000
/-! GC: parts of a list by size: order does not matter, double counting. -/
namespace PD.Law
variable {α β : Type}
def subs : Nat → List α → List (List α)
  | 0, _ => [[]]
  | _ + 1, [] => []
  | k + 1, a :: l => (subs k l).map (a :: ·) ++ subs (k + 1) l
theorem subs_zero (l : List α) : subs 0 l = [[]] := by cases l <;> rfl
theorem subs_map (g : α → β) : ∀ (k : Nat) (l : List α), subs k (l.map g) = (subs k l).map (List.map g)
  | 0, l => by rw [subs_zero, subs_zero]; rfl
  | k + 1, [] => rfl
  | k + 1, a :: l => by
    show (subs k (l.map g)).map (g a :: ·) ++ subs (k + 1) (l.map g) = ((subs k l).map (a :: ·) ++ subs (k + 1) l).map (List.map g)
    rw [subs_map g k l, subs_map g (k + 1) l, List.map_append, List.map_map, List.map_map]
    rfl
theorem subs_len : ∀ {k : Nat} {l s : List α}, s ∈ subs k l → s.length = k
  | 0, l, s, h => by rw [subs_zero] at h; simp at h; subst h; rfl
  | k + 1, [], s, h => by cases h
  | k + 1, a :: l, s, h => by
    rcases List.mem_append.mp h with h | h
    · obtain ⟨t, ht, rfl⟩ := List.mem_map.mp h
      rw [List.length_cons, subs_len ht]
    · exact subs_len h
theorem subs_sub : ∀ {k : Nat} {l s : List α}, s ∈ subs k l → s.Sublist l
  | 0, l, s, h => by rw [subs_zero] at h; simp at h; subst h; exact List.nil_sublist _
  | k + 1, [], s, h => by cases h
  | k + 1, a :: l, s, h => by
    rcases List.mem_append.mp h with h | h
    · obtain ⟨t, ht, rfl⟩ := List.mem_map.mp h
      exact (subs_sub ht).cons₂ a
    · exact (subs_sub h).cons a
/-- what does not change when two neighbours change places does not hang on the order -/
theorem perm_swap {γ : Type} {F : List α → γ} (hF : ∀ pre x y post, F (pre ++ x :: y :: post) = F (pre ++ y :: x :: post)) {l m : List α} (h : l.Perm m) : F l = F m := by
  have go : ∀ pre, F (pre ++ l) = F (pre ++ m) := by
    induction h with
    | nil => exact fun _ => rfl
    | cons x _ ih =>
      intro pre
      have := ih (pre ++ [x])
      simpa using this
    | swap x y l => exact fun pre => hF pre y x l
    | trans _ _ i1 i2 => exact fun pre => (i1 pre).trans (i2 pre)
  exact go []
theorem subs_perm {l m : List α} (h : l.Perm m) : ∀ (k : Nat) (F : List α → Nat), (∀ s t : List α, s.Perm t → F s = F t) → S (subs k l) F = S (subs k m) F := by
  induction h with
  | nil => exact fun _ _ _ => rfl
  | cons x _ ih =>
    rename_i l m _
    intro k F hF
    cases k with
    | zero => rfl
    | succ k =>
      show S ((subs k l).map (x :: ·) ++ subs (k + 1) l) F = S ((subs k m).map (x :: ·) ++ subs (k + 1) m) F
      rw [S_append, S_append, S_map, S_map, ih k (fun s => F (x :: s)) (fun s t h => hF _ _ (h.cons x)), ih (k + 1) F hF]
  | swap x y l =>
    intro k F hF
    cases k with
    | zero => rfl
    | succ k =>
      cases k with
      | zero =>
        show S (((subs 0 (x :: l)).map (y :: ·)) ++ ((subs 0 l).map (x :: ·) ++ subs 1 l)) F = S (((subs 0 (y :: l)).map (x :: ·)) ++ ((subs 0 l).map (y :: ·) ++ subs 1 l)) F
        simp only [subs_zero, S_append, S_map, S_cons, S_nil]
        omega
      | succ k =>
        show S ((((subs k l).map (x :: ·) ++ subs (k + 1) l).map (y :: ·)) ++ ((subs (k + 1) l).map (x :: ·) ++ subs (k + 2) l)) F = S ((((subs k l).map (y :: ·) ++ subs (k + 1) l).map (x :: ·)) ++ ((subs (k + 1) l).map (y :: ·) ++ subs (k + 2) l)) F
        simp only [S_append, S_map, List.map_append, List.map_map]
        have e : S (subs k l) (fun s => F (y :: x :: s)) = S (subs k l) (fun s => F (x :: y :: s)) := S_congr fun s _ => hF _ _ (.swap x y s)
        show S (subs k l) (fun s => F (y :: x :: s)) + S (subs (k + 1) l) (fun s => F (y :: s)) + (S (subs (k + 1) l) (fun s => F (x :: s)) + _) = S (subs k l) (fun s => F (x :: y :: s)) + S (subs (k + 1) l) (fun s => F (x :: s)) + (S (subs (k + 1) l) (fun s => F (y :: s)) + _)
        omega
  | trans _ _ i1 i2 => exact fun k F hF => (i1 k F hF).trans (i2 k F hF)
theorem subs_none : ∀ {k : Nat} {l : List α}, l.length < k → subs k l = []
  | k + 1, [], _ => rfl
  | k + 1, a :: l, h => by
    show (subs k l).map (a :: ·) ++ subs (k + 1) l = []
    rw [subs_none (by simp at h; omega), subs_none (by simp at h; omega)]
    rfl
/-- each part of size k lies in length - k parts of size k + 1 -/
theorem subs_double : ∀ (k : Nat) (l : List α) (F : List α → Nat), S (subs (k + 1) l) (fun s => S (subs k s) F) = (l.length - k) * S (subs k l) F
  | 0, l, F => by
    have : ∀ l : List α, (subs 1 l).length = l.length := fun l => by
      induction l with
      | nil => rfl
      | cons a l ih =>
        show ((subs 0 l).map (a :: ·) ++ subs 1 l).length = _
        rw [List.length_append, subs_zero, ih]
        simp
        omega
    simp only [subs_zero, S_cons, S_nil, S_const, this]
    simp
  | k + 1, [], F => by simp [subs]
  | k + 1, a :: l, F => by
    have e1 : S (subs (k + 2) (a :: l)) (fun s => S (subs (k + 1) s) F) = S (subs (k + 1) l) (fun s => S (subs (k + 1) (a :: s)) F) + S (subs (k + 2) l) (fun s => S (subs (k + 1) s) F) := by
      show S ((subs (k + 1) l).map (a :: ·) ++ subs (k + 2) l) _ = _
      rw [S_append, S_map]
    have e2 : S (subs (k + 1) l) (fun s => S (subs (k + 1) (a :: s)) F) = S (subs (k + 1) l) (fun s => S (subs k s) fun t => F (a :: t)) + S (subs (k + 1) l) (fun s => S (subs (k + 1) s) F) := by
      rw [← S_add]
      refine S_congr fun s _ => ?_
      show S ((subs k s).map (a :: ·) ++ subs (k + 1) s) F = _
      rw [S_append, S_map]
    have e3 : S (subs (k + 1) l) (fun s => S (subs (k + 1) s) F) = S (subs (k + 1) l) F := by
      refine S_congr fun s hs => ?_
      have hl := subs_len hs
      have : ∀ (s : List α), subs s.length s = [s] := fun s => by
        induction s with
        | nil => rfl
        | cons b s ih =>
          show (subs s.length s).map (b :: ·) ++ subs (s.length + 1) s = _
          rw [ih, subs_none (by omega)]
          rfl
      rw [← hl, this]
      simp
    have e4 : S (subs (k + 1) (a :: l)) F = S (subs k l) (fun s => F (a :: s)) + S (subs (k + 1) l) F := by
      show S ((subs k l).map (a :: ·) ++ subs (k + 1) l) F = _
      rw [S_append, S_map]
    rw [e1, e2, e3, subs_double k l (fun t => F (a :: t)), subs_double (k + 1) l F, e4, List.length_cons]
    by_cases h : l.length < k + 1
    · rw [subs_none h]
      have : l.length - k = 0 := by omega
      have : l.length - (k + 1) = 0 := by omega
      have : l.length + 1 - (k + 1) = 0 := by omega
      simp [*]
    · rw [show l.length + 1 - (k + 1) = l.length - k by omega, show l.length - (k + 1) = l.length - k - 1 by omega]
      obtain ⟨d, hd⟩ : ∃ d, l.length - k = d + 1 := ⟨l.length - k - 1, by omega⟩
      rw [hd]
      simp [Nat.mul_add, Nat.add_mul]
      omega
end PD.Law
end

section
set_option Elab.async false
set_option linter.all false
set_option maxRecDepth 100000
set_option maxHeartbeats 4000000
/-! GF: four and five places: who lies within a triangle of the others. -/
namespace PD.Law
abbrev Pt := Int × Int
def tb (p q r : Pt) : Bool := decide (0 < ar p q r)
def wn (a b c p : Pt) : Bool := (tb a b p == tb b c p) && (tb b c p == tb c a p)
theorem tb_rot (p q r : Pt) : tb q r p = tb p q r := by unfold tb; rw [ar_rot]
theorem tb_rot2 (p q r : Pt) : tb r p q = tb p q r := by rw [tb_rot r p q]
theorem tb_swp {p q r : Pt} (h : ar p q r ≠ 0) : tb p r q = !tb p q r := by
  unfold tb
  rw [ar_swp, ← decide_not]
  exact decide_eq_decide.mpr (by omega)
theorem tb_swq {p q r : Pt} (h : ar p q r ≠ 0) : tb q p r = !tb p q r := by
  unfold tb
  rw [ar_swq, ← decide_not]
  exact decide_eq_decide.mpr (by omega)
theorem tb_rev {p q r : Pt} (h : ar p q r ≠ 0) : tb r q p = !tb p q r := by
  rw [← tb_rot r q p, tb_swq h]
/-- who of four lies within -/
def w1 (x y z w : Bool) : Bool := (x == z) && (z == !y)
def w2 (x y z w : Bool) : Bool := ((!x) == w) && (w == y)
def w3 (x y z w : Bool) : Bool := (x == !w) && ((!w) == z)
def w4 (x y z w : Bool) : Bool := (y == w) && (w == !z)
def q4 (x y z w : Bool) : Nat := (w1 x y z w).toNat + (w2 x y z w).toNat + (w3 x y z w).toNat + (w4 x y z w).toNat
structure Ne4 (a b c d : Pt) : Prop where
  x : ar a b c ≠ 0
  y : ar a b d ≠ 0
  z : ar a c d ≠ 0
  w : ar b c d ≠ 0
theorem wn1 {a b c d : Pt} (h : Ne4 a b c d) : wn b c d a = w1 (tb a b c) (tb a b d) (tb a c d) (tb b c d) := by
  unfold wn w1
  rw [tb_rot a b c, tb_rot a c d, tb_rev h.y]
theorem wn2 {a b c d : Pt} (h : Ne4 a b c d) : wn a c d b = w2 (tb a b c) (tb a b d) (tb a c d) (tb b c d) := by
  unfold wn w2
  rw [tb_swp h.x, tb_rot b c d, tb_rot2 a b d]
theorem wn3 {a b c d : Pt} (h : Ne4 a b c d) : wn a b d c = w3 (tb a b c) (tb a b d) (tb a c d) (tb b c d) := by
  unfold wn w3
  rw [tb_swp h.w, tb_rot2 a c d]
theorem wn4 {a b c d : Pt} (h : Ne4 a b c d) : wn a b c d = w4 (tb a b c) (tb a b d) (tb a c d) (tb b c d) := by
  unfold wn w4
  rw [tb_swq h.z]
instance (a b c d : Pt) : Decidable (Ne4 a b c d) := decidable_of_iff (ar a b c ≠ 0 ∧ ar a b d ≠ 0 ∧ ar a c d ≠ 0 ∧ ar b c d ≠ 0) ⟨fun ⟨h1, h2, h3, h4⟩ => ⟨h1, h2, h3, h4⟩, fun h => ⟨h.x, h.y, h.z, h.w⟩⟩
def in4 : List Pt → Nat
  | [a, b, c, d] => if Ne4 a b c d then q4 (tb a b c) (tb a b d) (tb a c d) (tb b c d) else 0
  | _ => 0
theorem in4_of {a b c d : Pt} (h : Ne4 a b c d) : in4 [a, b, c, d] = q4 (tb a b c) (tb a b d) (tb a c d) (tb b c d) := if_pos h
theorem Ne4.s1 {a b c d : Pt} (h : Ne4 a b c d) : Ne4 b a c d := ⟨by rw [ar_swq]; have := h.x; omega, by rw [ar_swq]; have := h.y; omega, h.w, h.z⟩
theorem Ne4.s2 {a b c d : Pt} (h : Ne4 a b c d) : Ne4 a c b d := ⟨by rw [ar_swp]; have := h.x; omega, h.z, h.y, by rw [ar_swq]; have := h.w; omega⟩
theorem Ne4.s3 {a b c d : Pt} (h : Ne4 a b c d) : Ne4 a b d c := ⟨h.y, h.x, by rw [ar_swp]; have := h.z; omega, by rw [ar_swp]; have := h.w; omega⟩
theorem q4_s1 : ∀ x y z w, q4 (!x) (!y) w z = q4 x y z w := by decide
theorem q4_s2 : ∀ x y z w, q4 (!x) z y (!w) = q4 x y z w := by decide
theorem q4_s3 : ∀ x y z w, q4 y x (!z) (!w) = q4 x y z w := by decide
theorem in4_1 (a b c d : Pt) : in4 [a, b, c, d] = in4 [b, a, c, d] := by
  by_cases h : Ne4 a b c d
  · rw [in4_of h, in4_of h.s1, tb_swq h.x, tb_swq h.y, q4_s1]
  · have h2 : ¬ Ne4 b a c d := fun z => h z.s1
    show (if _ then _ else _) = (if _ then _ else _)
    rw [if_neg h, if_neg h2]
theorem in4_2 (a b c d : Pt) : in4 [a, b, c, d] = in4 [a, c, b, d] := by
  by_cases h : Ne4 a b c d
  · rw [in4_of h, in4_of h.s2, tb_swp h.x, tb_swq h.w, q4_s2]
  · have h2 : ¬ Ne4 a c b d := fun z => h z.s2
    show (if _ then _ else _) = (if _ then _ else _)
    rw [if_neg h, if_neg h2]
theorem in4_3 (a b c d : Pt) : in4 [a, b, c, d] = in4 [a, b, d, c] := by
  by_cases h : Ne4 a b c d
  · rw [in4_of h, in4_of h.s3, tb_swp h.z, tb_swp h.w, q4_s3]
  · have h2 : ¬ Ne4 a b d c := fun z => h z.s3
    show (if _ then _ else _) = (if _ then _ else _)
    rw [if_neg h, if_neg h2]
theorem in4_perm {s t : List Pt} (h : s.Perm t) : in4 s = in4 t := by
  refine perm_swap (fun pre x y post => ?_) h
  match pre, post with
  | [], [] => rfl
  | [], [_] => rfl
  | [], [c, d] => exact in4_1 ..
  | [], _ :: _ :: _ :: _ => rfl
  | [_], [] => rfl
  | [a], [d] => exact in4_2 ..
  | [_], _ :: _ :: _ => rfl
  | [a, b], [] => exact in4_3 ..
  | [_, _], _ :: _ => rfl
  | [_, _, _], _ => rfl
  | [_, _, _, _], _ => rfl
  | _ :: _ :: _ :: _ :: _ :: _, _ => rfl
/-- the law of four -/
def r4 (x y z w : Bool) : Bool := !(w && (!z) && y && !x) && !((!w) && z && (!y) && x)
theorem rel4 {a b c d : Pt} (h : Ne4 a b c d) : r4 (tb a b c) (tb a b d) (tb a c d) (tb b c d) = true := by
  have e : ar b c d - ar a c d + ar a b d - ar a b c = 0 := by unfold ar; grind
  have h1 := h.x
  have h2 := h.y
  have h3 := h.z
  have h4 := h.w
  unfold tb r4
  generalize ar a b c = X at *
  generalize ar a b d = Y at *
  generalize ar a c d = Z at *
  generalize ar b c d = W at *
  by_cases p1 : 0 < X <;> by_cases p2 : 0 < Y <;> by_cases p3 : 0 < Z <;> by_cases p4 : 0 < W <;> simp [p1, p2, p3, p4] <;> omega
/-- the law of five -/
def g3 (x y z w u v : Bool) : Bool := if (x == y) == (u == v) then (z == w) == (x == y) else true
theorem mulsg {x y : Int} (h : x ≠ 0) (h2 : y ≠ 0) : x * y ≠ 0 ∧ (decide (0 < x * y) = (decide (0 < x) == decide (0 < y))) := by
  refine ⟨Int.mul_ne_zero h h2, ?_⟩
  rcases Int.lt_or_gt_of_ne h with a | a <;> rcases Int.lt_or_gt_of_ne h2 with b | b
  · have := Int.mul_pos_of_neg_of_neg a b
    rw [decide_eq_true this, decide_eq_false (by omega), decide_eq_false (by omega)]
    rfl
  · have := Int.mul_neg_of_neg_of_pos a b
    rw [decide_eq_false (by omega), decide_eq_false (by omega), decide_eq_true (by omega)]
    rfl
  · have := Int.mul_neg_of_pos_of_neg a b
    rw [decide_eq_false (by omega), decide_eq_true (by omega), decide_eq_false (by omega)]
    rfl
  · have := Int.mul_pos a b
    rw [decide_eq_true this, decide_eq_true (by omega), decide_eq_true (by omega)]
    rfl
theorem rel5 {x y z w u v : Int} (e : x * y - z * w + u * v = 0) (hx : x ≠ 0) (hy : y ≠ 0) (hz : z ≠ 0) (hw : w ≠ 0) (hu : u ≠ 0) (hv : v ≠ 0) :
    g3 (decide (0 < x)) (decide (0 < y)) (decide (0 < z)) (decide (0 < w)) (decide (0 < u)) (decide (0 < v)) = true := by
  obtain ⟨a1, a2⟩ := mulsg hx hy
  obtain ⟨b1, b2⟩ := mulsg hz hw
  obtain ⟨c1, c2⟩ := mulsg hu hv
  unfold g3
  rw [← a2, ← b2, ← c2]
  generalize x * y = X at *
  generalize z * w = Z at *
  generalize u * v = U at *
  by_cases p1 : 0 < X <;> by_cases p2 : 0 < Z <;> by_cases p3 : 0 < U <;> simp [p1, p2, p3] <;> omega

structure Ne5 (a b c d e : Pt) : Prop where
  nabc : ar a b c ≠ 0
  nabd : ar a b d ≠ 0
  nabe : ar a b e ≠ 0
  nacd : ar a c d ≠ 0
  nace : ar a c e ≠ 0
  nade : ar a d e ≠ 0
  nbcd : ar b c d ≠ 0
  nbce : ar b c e ≠ 0
  nbde : ar b d e ≠ 0
  ncde : ar c d e ≠ 0
theorem Ne5.fabcd {a b c d e : Pt} (h : Ne5 a b c d e) : Ne4 a b c d := ⟨h.nabc, h.nabd, h.nacd, h.nbcd⟩
theorem Ne5.fabce {a b c d e : Pt} (h : Ne5 a b c d e) : Ne4 a b c e := ⟨h.nabc, h.nabe, h.nace, h.nbce⟩
theorem Ne5.fabde {a b c d e : Pt} (h : Ne5 a b c d e) : Ne4 a b d e := ⟨h.nabd, h.nabe, h.nade, h.nbde⟩
theorem Ne5.facde {a b c d e : Pt} (h : Ne5 a b c d e) : Ne4 a c d e := ⟨h.nacd, h.nace, h.nade, h.ncde⟩
theorem Ne5.fbcde {a b c d e : Pt} (h : Ne5 a b c d e) : Ne4 b c d e := ⟨h.nbcd, h.nbce, h.nbde, h.ncde⟩
def inS (vabc vabd vabe vacd vace vade vbcd vbce vbde vcde : Bool) : Nat := q4 vabc vabd vacd vbcd + q4 vabc vabe vace vbce + q4 vabd vabe vade vbde + q4 vacd vace vade vcde + q4 vbcd vbce vbde vcde
def hl_a (vabc vabd vabe vacd vace vade vbcd vbce vbde vcde : Bool) : Bool := w1 vabc vabd vacd vbcd || w1 vabc vabe vace vbce || w1 vabd vabe vade vbde || w1 vacd vace vade vcde
def hl_b (vabc vabd vabe vacd vace vade vbcd vbce vbde vcde : Bool) : Bool := w2 vabc vabd vacd vbcd || w2 vabc vabe vace vbce || w2 vabd vabe vade vbde || w1 vbcd vbce vbde vcde
def hl_c (vabc vabd vabe vacd vace vade vbcd vbce vbde vcde : Bool) : Bool := w3 vabc vabd vacd vbcd || w3 vabc vabe vace vbce || w2 vacd vace vade vcde || w2 vbcd vbce vbde vcde
def hl_d (vabc vabd vabe vacd vace vade vbcd vbce vbde vcde : Bool) : Bool := w4 vabc vabd vacd vbcd || w3 vabd vabe vade vbde || w3 vacd vace vade vcde || w3 vbcd vbce vbde vcde
def hl_e (vabc vabd vabe vacd vace vade vbcd vbce vbde vcde : Bool) : Bool := w4 vabc vabe vace vbce || w4 vabd vabe vade vbde || w4 vacd vace vade vcde || w4 vbcd vbce vbde vcde
def held5 (vabc vabd vabe vacd vace vade vbcd vbce vbde vcde : Bool) : Nat := (hl_a vabc vabd vabe vacd vace vade vbcd vbce vbde vcde).toNat + (hl_b vabc vabd vabe vacd vace vade vbcd vbce vbde vcde).toNat + (hl_c vabc vabd vabe vacd vace vade vbcd vbce vbde vcde).toNat + (hl_d vabc vabd vabe vacd vace vade vbcd vbce vbde vcde).toNat + (hl_e vabc vabd vabe vacd vace vade vbcd vbce vbde vcde).toNat
def lf (x y z : Bool) : Nat := x.toNat + y.toNat + z.toNat
def row5 (vabc vabd vabe vacd vace vade vbcd vbce vbde vcde : Bool) : Nat := (if lf vabc vabd vabe = 0 then 1 else 0) + (if lf (!vabc) vacd vace = 0 then 1 else 0) + (if lf (!vabd) (!vacd) vade = 0 then 1 else 0) + (if lf (!vabe) (!vace) (!vade) = 0 then 1 else 0) + (if lf (!vabc) (!vabd) (!vabe) = 0 then 1 else 0) + (if lf vabc vbcd vbce = 0 then 1 else 0) + (if lf vabd (!vbcd) vbde = 0 then 1 else 0) + (if lf vabe (!vbce) (!vbde) = 0 then 1 else 0) + (if lf vabc (!vacd) (!vace) = 0 then 1 else 0) + (if lf (!vabc) (!vbcd) (!vbce) = 0 then 1 else 0) + (if lf vacd vbcd vcde = 0 then 1 else 0) + (if lf vace vbce (!vcde) = 0 then 1 else 0) + (if lf vabd vacd (!vade) = 0 then 1 else 0) + (if lf (!vabd) vbcd (!vbde) = 0 then 1 else 0) + (if lf (!vacd) (!vbcd) (!vcde) = 0 then 1 else 0) + (if lf vade vbde vcde = 0 then 1 else 0) + (if lf vabe vace vade = 0 then 1 else 0) + (if lf (!vabe) vbce vbde = 0 then 1 else 0) + (if lf (!vace) (!vbce) vcde = 0 then 1 else 0) + (if lf (!vade) (!vbde) (!vcde) = 0 then 1 else 0)
def rl (vabc vabd vabe vacd vace vade vbcd vbce vbde vcde : Bool) : Bool := r4 vabc vabd vacd vbcd && r4 vabc vabe vace vbce && r4 vabd vabe vade vbde && r4 vacd vace vade vcde && r4 vbcd vbce vbde vcde && g3 vabc vade vabd vace vabe vacd && g3 vabc vbde vabd vbce vabe vbcd && g3 vabc vcde vacd vbce vace vbcd && g3 vabd vcde vacd vbde vade vbcd && g3 vabe vcde vace vbde vade vbce
theorem five_bits : ∀ vabc vabd vabe vacd vace vade vbcd vbce vbde vcde : Bool, rl vabc vabd vabe vacd vace vade vbcd vbce vbde vcde = true → inS vabc vabd vabe vacd vace vade vbcd vbce vbde vcde = 2 * held5 vabc vabd vabe vacd vace vade vbcd vbce vbde vcde ∧ row5 vabc vabd vabe vacd vace vade vbcd vbce vbde vcde + held5 vabc vabd vabe vacd vace vade vbcd vbce vbde vcde = 5 ∧ held5 vabc vabd vabe vacd vace vade vbcd vbce vbde vcde ≤ 2 := by decide +kernel
theorem rl_of {a b c d e : Pt} (h : Ne5 a b c d e) : rl (tb a b c) (tb a b d) (tb a b e) (tb a c d) (tb a c e) (tb a d e) (tb b c d) (tb b c e) (tb b d e) (tb c d e) = true := by
  have e0 : ar a b c * ar a d e - ar a b d * ar a c e + ar a b e * ar a c d = 0 := by unfold ar; grind
  have e1 : ar a b c * ar b d e - ar a b d * ar b c e + ar a b e * ar b c d = 0 := by unfold ar; grind
  have e2 : ar a b c * ar c d e - ar a c d * ar b c e + ar a c e * ar b c d = 0 := by unfold ar; grind
  have e3 : ar a b d * ar c d e - ar a c d * ar b d e + ar a d e * ar b c d = 0 := by unfold ar; grind
  have e4 : ar a b e * ar c d e - ar a c e * ar b d e + ar a d e * ar b c e = 0 := by unfold ar; grind
  unfold rl
  rw [rel4 h.fabcd, rel4 h.fabce, rel4 h.fabde, rel4 h.facde, rel4 h.fbcde]
  rw [show g3 (tb a b c) (tb a d e) (tb a b d) (tb a c e) (tb a b e) (tb a c d) = true from rel5 e0 h.nabc h.nade h.nabd h.nace h.nabe h.nacd]
  rw [show g3 (tb a b c) (tb b d e) (tb a b d) (tb b c e) (tb a b e) (tb b c d) = true from rel5 e1 h.nabc h.nbde h.nabd h.nbce h.nabe h.nbcd]
  rw [show g3 (tb a b c) (tb c d e) (tb a c d) (tb b c e) (tb a c e) (tb b c d) = true from rel5 e2 h.nabc h.ncde h.nacd h.nbce h.nace h.nbcd]
  rw [show g3 (tb a b d) (tb c d e) (tb a c d) (tb b d e) (tb a d e) (tb b c d) = true from rel5 e3 h.nabd h.ncde h.nacd h.nbde h.nade h.nbcd]
  rw [show g3 (tb a b e) (tb c d e) (tb a c e) (tb b d e) (tb a d e) (tb b c e) = true from rel5 e4 h.nabe h.ncde h.nace h.nbde h.nade h.nbce]
  rfl
theorem in_five {a b c d e : Pt} (h : Ne5 a b c d e) : S (subs 4 [a, b, c, d, e]) in4 = inS (tb a b c) (tb a b d) (tb a b e) (tb a c d) (tb a c e) (tb a d e) (tb b c d) (tb b c e) (tb b d e) (tb c d e) := by
  show S [[a, b, c, d], [a, b, c, e], [a, b, d, e], [a, c, d, e], [b, c, d, e]] in4 = _
  simp only [S_cons, S_nil]
  rw [in4_of h.fabcd, in4_of h.fabce, in4_of h.fabde, in4_of h.facde, in4_of h.fbcde]
  unfold inS
  omega
/-- x lies within a triangle of the list -/
def isIn (l : List Pt) (x : Pt) : Prop := ∃ p ∈ l, ∃ q ∈ l, ∃ r ∈ l, (p ≠ q ∧ q ≠ r ∧ p ≠ r) ∧ (p ≠ x ∧ q ≠ x ∧ r ≠ x) ∧ wn p q r x = true
theorem lft_b {l : List Pt} {p q : Pt} : lft l p q = S l fun r => (tb p q r).toNat := S_congr fun r _ => by unfold tb b1; by_cases h : 0 < ar p q r <;> simp [h]
theorem row_five {a b c d e : Pt} (h : Ne5 a b c d e) (nd : [a, b, c, d, e].Nodup) : cnt [a, b, c, d, e] 0 = row5 (tb a b c) (tb a b d) (tb a b e) (tb a c d) (tb a c e) (tb a d e) (tb b c d) (tb b c e) (tb b d e) (tb c d e) := by
  have za : ∀ p q, tb p q p = false := fun p q => by unfold tb; rw [ar_aba]; rfl
  have zb : ∀ p q, tb p q q = false := fun p q => by unfold tb; rw [ar_abb]; rfl
  have lab : lft [a, b, c, d, e] a b = lf (tb a b c) (tb a b d) (tb a b e) := by
    rw [lft_b]
    simp only [S_cons, S_nil, za, zb]
    simp only [Bool.toNat_false, Nat.zero_add, Nat.add_zero]
    unfold lf
    omega
  have lac : lft [a, b, c, d, e] a c = lf (!(tb a b c)) (tb a c d) (tb a c e) := by
    rw [lft_b]
    simp only [S_cons, S_nil, za, zb, tb_swp h.nabc]
    simp only [Bool.toNat_false, Nat.zero_add, Nat.add_zero]
    unfold lf
    omega
  have lad : lft [a, b, c, d, e] a d = lf (!(tb a b d)) (!(tb a c d)) (tb a d e) := by
    rw [lft_b]
    simp only [S_cons, S_nil, za, zb, tb_swp h.nabd, tb_swp h.nacd]
    simp only [Bool.toNat_false, Nat.zero_add, Nat.add_zero]
    unfold lf
    omega
  have lae : lft [a, b, c, d, e] a e = lf (!(tb a b e)) (!(tb a c e)) (!(tb a d e)) := by
    rw [lft_b]
    simp only [S_cons, S_nil, za, zb, tb_swp h.nabe, tb_swp h.nace, tb_swp h.nade]
    simp only [Bool.toNat_false, Nat.zero_add, Nat.add_zero]
    unfold lf
    omega
  have lba : lft [a, b, c, d, e] b a = lf (!(tb a b c)) (!(tb a b d)) (!(tb a b e)) := by
    rw [lft_b]
    simp only [S_cons, S_nil, za, zb, tb_swq h.nabc, tb_swq h.nabd, tb_swq h.nabe]
    simp only [Bool.toNat_false, Nat.zero_add, Nat.add_zero]
    unfold lf
    omega
  have lbc : lft [a, b, c, d, e] b c = lf (tb a b c) (tb b c d) (tb b c e) := by
    rw [lft_b]
    simp only [S_cons, S_nil, za, zb, tb_rot a b c]
    simp only [Bool.toNat_false, Nat.zero_add, Nat.add_zero]
    unfold lf
    omega
  have lbd : lft [a, b, c, d, e] b d = lf (tb a b d) (!(tb b c d)) (tb b d e) := by
    rw [lft_b]
    simp only [S_cons, S_nil, za, zb, tb_rot a b d, tb_swp h.nbcd]
    simp only [Bool.toNat_false, Nat.zero_add, Nat.add_zero]
    unfold lf
    omega
  have lbe : lft [a, b, c, d, e] b e = lf (tb a b e) (!(tb b c e)) (!(tb b d e)) := by
    rw [lft_b]
    simp only [S_cons, S_nil, za, zb, tb_rot a b e, tb_swp h.nbce, tb_swp h.nbde]
    simp only [Bool.toNat_false, Nat.zero_add, Nat.add_zero]
    unfold lf
    omega
  have lca : lft [a, b, c, d, e] c a = lf (tb a b c) (!(tb a c d)) (!(tb a c e)) := by
    rw [lft_b]
    simp only [S_cons, S_nil, za, zb, tb_rot2 a b c, tb_swq h.nacd, tb_swq h.nace]
    simp only [Bool.toNat_false, Nat.zero_add, Nat.add_zero]
    unfold lf
    omega
  have lcb : lft [a, b, c, d, e] c b = lf (!(tb a b c)) (!(tb b c d)) (!(tb b c e)) := by
    rw [lft_b]
    simp only [S_cons, S_nil, za, zb, tb_rev h.nabc, tb_swq h.nbcd, tb_swq h.nbce]
    simp only [Bool.toNat_false, Nat.zero_add, Nat.add_zero]
    unfold lf
    omega
  have lcd : lft [a, b, c, d, e] c d = lf (tb a c d) (tb b c d) (tb c d e) := by
    rw [lft_b]
    simp only [S_cons, S_nil, za, zb, tb_rot a c d, tb_rot b c d]
    simp only [Bool.toNat_false, Nat.zero_add, Nat.add_zero]
    unfold lf
    omega
  have lce : lft [a, b, c, d, e] c e = lf (tb a c e) (tb b c e) (!(tb c d e)) := by
    rw [lft_b]
    simp only [S_cons, S_nil, za, zb, tb_rot a c e, tb_rot b c e, tb_swp h.ncde]
    simp only [Bool.toNat_false, Nat.zero_add, Nat.add_zero]
    unfold lf
    omega
  have lda : lft [a, b, c, d, e] d a = lf (tb a b d) (tb a c d) (!(tb a d e)) := by
    rw [lft_b]
    simp only [S_cons, S_nil, za, zb, tb_rot2 a b d, tb_rot2 a c d, tb_swq h.nade]
    simp only [Bool.toNat_false, Nat.zero_add, Nat.add_zero]
    unfold lf
    omega
  have ldb : lft [a, b, c, d, e] d b = lf (!(tb a b d)) (tb b c d) (!(tb b d e)) := by
    rw [lft_b]
    simp only [S_cons, S_nil, za, zb, tb_rev h.nabd, tb_rot2 b c d, tb_swq h.nbde]
    simp only [Bool.toNat_false, Nat.zero_add, Nat.add_zero]
    unfold lf
    omega
  have ldc : lft [a, b, c, d, e] d c = lf (!(tb a c d)) (!(tb b c d)) (!(tb c d e)) := by
    rw [lft_b]
    simp only [S_cons, S_nil, za, zb, tb_rev h.nacd, tb_rev h.nbcd, tb_swq h.ncde]
    simp only [Bool.toNat_false, Nat.zero_add, Nat.add_zero]
    unfold lf
    omega
  have lde : lft [a, b, c, d, e] d e = lf (tb a d e) (tb b d e) (tb c d e) := by
    rw [lft_b]
    simp only [S_cons, S_nil, za, zb, tb_rot a d e, tb_rot b d e, tb_rot c d e]
    simp only [Bool.toNat_false, Nat.zero_add, Nat.add_zero]
    unfold lf
    omega
  have lea : lft [a, b, c, d, e] e a = lf (tb a b e) (tb a c e) (tb a d e) := by
    rw [lft_b]
    simp only [S_cons, S_nil, za, zb, tb_rot2 a b e, tb_rot2 a c e, tb_rot2 a d e]
    simp only [Bool.toNat_false, Nat.zero_add, Nat.add_zero]
    unfold lf
    omega
  have leb : lft [a, b, c, d, e] e b = lf (!(tb a b e)) (tb b c e) (tb b d e) := by
    rw [lft_b]
    simp only [S_cons, S_nil, za, zb, tb_rev h.nabe, tb_rot2 b c e, tb_rot2 b d e]
    simp only [Bool.toNat_false, Nat.zero_add, Nat.add_zero]
    unfold lf
    omega
  have lec : lft [a, b, c, d, e] e c = lf (!(tb a c e)) (!(tb b c e)) (tb c d e) := by
    rw [lft_b]
    simp only [S_cons, S_nil, za, zb, tb_rev h.nace, tb_rev h.nbce, tb_rot2 c d e]
    simp only [Bool.toNat_false, Nat.zero_add, Nat.add_zero]
    unfold lf
    omega
  have led : lft [a, b, c, d, e] e d = lf (!(tb a d e)) (!(tb b d e)) (!(tb c d e)) := by
    rw [lft_b]
    simp only [S_cons, S_nil, za, zb, tb_rev h.nade, tb_rev h.nbde, tb_rev h.ncde]
    simp only [Bool.toNat_false, Nat.zero_add, Nat.add_zero]
    unfold lf
    omega
  simp only [List.nodup_cons, List.mem_cons, List.not_mem_nil, or_false, not_or] at nd
  obtain ⟨⟨n1, n2, n3, n4⟩, ⟨n5, n6, n7⟩, ⟨n8, n9⟩, n10, -⟩ := nd
  have sy : ∀ {p q : Pt}, ¬ p = q → ¬ q = p := fun h z => h z.symm
  unfold cnt
  simp only [S_cons, S_nil, b1, ne_eq, n1, n2, n3, n4, n5, n6, n7, n8, n9, n10, sy n1, sy n2, sy n3, sy n4, sy n5, sy n6, sy n7, sy n8, sy n9, sy n10, not_true_eq_false, not_false_eq_true, true_and, false_and, if_false, ite_false, Nat.zero_add, Nat.add_zero, lab, lac, lad, lae, lba, lbc, lbd, lbe, lca, lcb, lcd, lce, lda, ldb, ldc, lde, lea, leb, lec, led]
  unfold row5
  simp only [Nat.add_assoc]
end PD.Law
end

section
set_option Elab.async false
set_option linter.all false
set_option maxRecDepth 100000
set_option maxHeartbeats 1000000
/-! GK: corners of a list of places, and of its parts by size. -/
namespace PD.Law
/-- r is on the left of the way from p to q -/
def Lf (p q r : Pt) : Prop := 0 < ar p q r
instance (p q r : Pt) : Decidable (Lf p q r) := inferInstanceAs (Decidable (0 < ar p q r))
theorem lf_tot {p q r : Pt} (h : ar p q r ≠ 0) : Lf p q r ∨ Lf p r q := by
  unfold Lf
  rw [ar_swp p q r]
  omega
theorem lf_as {p q r : Pt} (h : Lf p q r) : ¬ Lf p r q := by
  unfold Lf at *
  rw [ar_swp p q r]
  omega
/-- x lies within a triangle of the list -/
def hIn (l : List Pt) (x : Pt) : Prop := ∃ a ∈ l, ∃ b ∈ l, ∃ c ∈ l, (a ≠ x ∧ b ≠ x ∧ c ≠ x) ∧ Lf x a b ∧ Lf x b c ∧ Lf x c a
theorem wn_cyc {a b c x : Pt} (h1 : ar x a b ≠ 0) (h2 : ar x b c ≠ 0) (h3 : ar x c a ≠ 0) : wn a b c x = true ↔ (Lf x a b ∧ Lf x b c ∧ Lf x c a) ∨ (Lf x a c ∧ Lf x c b ∧ Lf x b a) := by
  unfold wn tb Lf
  rw [ar_rot x a b, ar_rot x b c, ar_rot x c a, ar_swp x c a, ar_swp x b c, ar_swp x a b]
  generalize ar x a b = X at *
  generalize ar x b c = Y at *
  generalize ar x c a = Z at *
  by_cases p1 : 0 < X <;> by_cases p2 : 0 < Y <;> by_cases p3 : 0 < Z <;> simp [p1, p2, p3] <;> omega
theorem hits {p a b c t : Pt} (h1 : Lf p a b) (h2 : Lf p b c) (h3 : Lf p c a) : ¬ (Lf p a t ∧ Lf p b t ∧ Lf p c t) := by
  rintro ⟨q1, q2, q3⟩
  unfold Lf at *
  have e : ar p a b * ar p c t + ar p c a * ar p b t + ar p a t * ar p b c = 0 := by unfold ar; grind
  have m1 := Int.mul_pos h1 q3
  have m2 := Int.mul_pos h3 q2
  have m3 := Int.mul_pos q1 h2
  omega
/-- without a ring of three there is a first -/
theorem has_top {p : Pt} : ∀ {m : List Pt}, m ≠ [] → m.Nodup → (∀ q ∈ m, ∀ r ∈ m, q ≠ r → ar p q r ≠ 0) → (∀ a ∈ m, ∀ b ∈ m, ∀ c ∈ m, ¬ (Lf p a b ∧ Lf p b c ∧ Lf p c a)) → ∃ t ∈ m, ∀ r ∈ m, r ≠ t → Lf p r t
  | [], h, _, _, _ => absurd rfl h
  | [a], _, _, _, _ => ⟨a, .head _, fun r hr ne => absurd (List.mem_singleton.mp hr) ne⟩
  | a :: b :: m, _, nd, ne, cy => by
    obtain ⟨t, ht, hh⟩ := has_top (m := b :: m) (by simp) nd.tail (fun q hq r hr => ne q (.tail _ hq) r (.tail _ hr)) fun x hx y hy z hz => cy x (.tail _ hx) y (.tail _ hy) z (.tail _ hz)
    have hat : a ≠ t := fun z => (List.nodup_cons.mp nd).1 (z ▸ ht)
    rcases lf_tot (ne a (.head _) t (.tail _ ht) hat) with h | h
    · refine ⟨t, .tail _ ht, fun r hr nr => ?_⟩
      rcases List.mem_cons.mp hr with rfl | hr
      · exact h
      · exact hh r hr nr
    · refine ⟨a, .head _, fun r hr nr => ?_⟩
      rcases List.mem_cons.mp hr with rfl | hr
      · exact absurd rfl nr
      · by_cases hrt : r = t
        · subst hrt; exact h
        · rcases lf_tot (ne r (.tail _ hr) a (.head _) nr) with g | g
          · exact g
          · exact absurd ⟨hh r hr hrt, h, g⟩ (cy r (.tail _ hr) t (.tail _ ht) a (.head _))
/-- no left at all -/
theorem lft_zero {l : List Pt} {p q : Pt} : lft l p q = 0 ↔ ∀ r ∈ l, ¬ Lf p q r := by
  unfold lft
  constructor
  · intro h r hr z
    have := S_mem (f := fun r => b1 (0 < ar p q r)) hr
    rw [h] at this
    have z : 0 < ar p q r := z
    simp [b1, z] at this
  · intro h
    rw [show (S l fun r => b1 (0 < ar p q r)) = S l (fun _ => 0) from S_congr fun r hr => if_neg (h r hr), S_zero]
theorem S_one {α : Type} [DecidableEq α] {l : List α} (nd : l.Nodup) {f : α → Prop} [DecidablePred f] {t : α} (ht : t ∈ l) (h : ∀ x ∈ l, f x ↔ x = t) : S l (fun x => b1 (f x)) = 1 := by
  rw [← S_eq nd ht 1]
  refine S_congr fun x hx => ?_
  by_cases hxt : x = t
  · simp [b1, hxt, (h t ht).mpr rfl]
  · have nf : ¬ f x := fun z => hxt ((h x hx).mp z)
    simp [b1, hxt, nf]
open Classical in
theorem corner_one {l : List Pt} (g : GP l) (h2 : 2 ≤ l.length) {p : Pt} (hp : p ∈ l) : S l (fun q => b1 (p ≠ q ∧ lft l p q = 0)) = if hIn l p then 0 else 1 := by
  have ne : ∀ q ∈ l, ∀ r ∈ l, q ≠ p → r ≠ p → q ≠ r → ar p q r ≠ 0 := fun q hq r hr h1 h2 h3 => g.ne p hp q hq r hr (Ne.symm h1) h3 (Ne.symm h2)
  by_cases hin : hIn l p
  · rw [if_pos hin]
    rw [S_congr (g := fun _ => 0) fun t ht => ?_, S_zero]
    refine if_neg ?_
    rintro ⟨hpt, h0⟩
    rw [lft_zero] at h0
    obtain ⟨a, ha, b, hb, c, hc, ⟨na, nb, nc⟩, r1, r2, r3⟩ := hin
    have up : ∀ r ∈ l, r ≠ p → r ≠ t → Lf p r t := fun r hr h1 h2 => (lf_tot (ne r hr t ht h1 (Ne.symm hpt) h2)).resolve_right (h0 r hr)
    by_cases ta : a = t
    · subst ta; exact h0 b hb r1
    by_cases tb : b = t
    · subst tb; exact h0 c hc r2
    by_cases tc : c = t
    · subst tc; exact h0 a ha r3
    exact hits r1 r2 r3 ⟨up a ha na ta, up b hb nb tb, up c hc nc tc⟩
  · rw [if_neg hin]
    have hm : ∀ r, r ∈ l.filter (fun q => decide (q ≠ p)) ↔ r ∈ l ∧ r ≠ p := fun r => by rw [List.mem_filter]; simp
    have hne : l.filter (fun q => decide (q ≠ p)) ≠ [] := by
      intro z
      match l, h2, g.nd, hp, z with
      | a :: b :: l, _, nd, _, z =>
        have hab : a ≠ b := fun e => by subst e; simp at nd
        by_cases ha : a = p
        · have : b ∈ (a :: b :: l).filter (fun q => decide (q ≠ p)) := List.mem_filter.mpr ⟨by simp, by subst ha; simpa using Ne.symm hab⟩
          rw [z] at this
          cases this
        · have : a ∈ (a :: b :: l).filter (fun q => decide (q ≠ p)) := List.mem_filter.mpr ⟨by simp, by simpa using ha⟩
          rw [z] at this
          cases this
    obtain ⟨t, ht, hh⟩ := has_top (p := p) hne (g.nd.sublist List.filter_sublist) (fun q hq r hr h => by
      rw [hm] at hq hr
      exact ne q hq.1 r hr.1 hq.2 hr.2 h) (fun a ha b hb c hc z => by
      rw [hm] at ha hb hc
      exact hin ⟨a, ha.1, b, hb.1, c, hc.1, ⟨ha.2, hb.2, hc.2⟩, z⟩)
    rw [hm] at ht
    refine S_one g.nd ht.1 fun q hq => ?_
    rw [lft_zero]
    constructor
    · rintro ⟨h1, h3⟩
      by_cases e : q = t
      · exact e
      · exact absurd (hh q ((hm q).mpr ⟨hq, Ne.symm h1⟩) e) (fun z => h3 t ht.1 z)
    · rintro rfl
      refine ⟨Ne.symm ht.2, fun r hr z => ?_⟩
      by_cases e1 : r = p
      · subst e1
        unfold Lf at z
        rw [ar_aba] at z
        omega
      by_cases e2 : r = q
      · subst e2
        unfold Lf at z
        rw [ar_abb] at z
        omega
      exact lf_as z (hh r ((hm r).mpr ⟨hr, e1⟩) e2)
open Classical in
theorem corners_cnt {l : List Pt} (g : GP l) (h2 : 2 ≤ l.length) : cnt l 0 = S l fun p => if hIn l p then 0 else 1 := S_congr fun p hp => corner_one g h2 hp
end PD.Law
end

section
set_option Elab.async false
set_option linter.all false
set_option maxRecDepth 100000
set_option maxHeartbeats 1000000
/-! GM: how many parts of a size there are. -/
namespace PD.Law
theorem ite_same_i {c : Prop} {i j : Decidable c} {a b : Nat} : @ite Nat c i a b = @ite Nat c j a b := by
  by_cases h : c
  · rw [if_pos h, if_pos h]
  · rw [if_neg h, if_neg h]
section
variable {α : Type} [DecidableEq α]
def ch : Nat → Nat → Nat
  | _, 0 => 1
  | 0, _ + 1 => 0
  | n + 1, k + 1 => ch n k + ch n (k + 1)
theorem ch_zero (n : Nat) : ch n 0 = 1 := by cases n <;> rfl
open Classical in
theorem subs_all {R : α → Prop} : ∀ (k : Nat) (l : List α), S (subs k l) (fun T => if ∀ r ∈ T, R r then 1 else 0) = ch (l.filter fun r => decide (R r)).length k
  | 0, l => by rw [subs_zero, ch_zero]; simp
  | k + 1, [] => rfl
  | k + 1, a :: l => by
    show S ((subs k l).map (a :: ·) ++ subs (k + 1) l) _ = _
    rw [S_append, S_map, subs_all (k + 1) l]
    by_cases h : R a
    · rw [List.filter_cons_of_pos (by simpa using h), List.length_cons]
      show _ = ch _ k + ch _ (k + 1)
      rw [← subs_all k l]
      congr 1
      refine S_congr fun T _ => ?_
      simp [h]
    · rw [List.filter_cons_of_neg (by simpa using h), S_congr (g := fun _ => 0) fun T _ => if_neg (by simp [h]), S_zero, Nat.zero_add]
open Classical in
theorem subs_two {l : List α} (nd : l.Nodup) {p q : α} (hp : p ∈ l) (hq : q ∈ l) (hpq : p ≠ q) (R : α → Prop) (k : Nat) :
    S (subs (k + 2) l) (fun T => if p ∈ T ∧ q ∈ T ∧ ∀ r ∈ T, r ≠ p → r ≠ q → R r then 1 else 0) = ch (l.filter fun r => decide (r ≠ p ∧ r ≠ q ∧ R r)).length k := by
  obtain ⟨l', hl⟩ : ∃ l', l.Perm (p :: q :: l') := by
    refine ⟨(l.erase p).erase q, (List.perm_cons_erase hp).trans (.cons p (List.perm_cons_erase ?_))⟩
    exact (List.mem_erase_of_ne (Ne.symm hpq)).mpr hq
  rw [subs_perm hl (k + 2) _ fun s t h => by
    have : (p ∈ s ∧ q ∈ s ∧ ∀ r ∈ s, r ≠ p → r ≠ q → R r) ↔ (p ∈ t ∧ q ∈ t ∧ ∀ r ∈ t, r ≠ p → r ≠ q → R r) := by
      rw [h.mem_iff, h.mem_iff]
      exact and_congr Iff.rfl (and_congr Iff.rfl ⟨fun z r hr => z r (h.mem_iff.mpr hr), fun z r hr => z r (h.mem_iff.mp hr)⟩)
    by_cases c : (p ∈ s ∧ q ∈ s ∧ ∀ r ∈ s, r ≠ p → r ≠ q → R r)
    · rw [if_pos c, if_pos (this.mp c)]
    · rw [if_neg c, if_neg fun z => c (this.mpr z)]]
  have nd' := hl.nodup nd
  have n1 : p ∉ l' := fun z => (List.nodup_cons.mp nd').1 (.tail _ z)
  have n2 : q ∉ l' := (List.nodup_cons.mp nd'.tail).1
  have fl : (l.filter fun r => decide (r ≠ p ∧ r ≠ q ∧ R r)).length = (l'.filter fun r => decide (R r)).length := by
    rw [(hl.filter _).length_eq, List.filter_cons_of_neg (by simp), List.filter_cons_of_neg (by simp)]
    congr 1
    refine List.filter_congr fun r hr => ?_
    have h1 : r ≠ p := fun z => n1 (z ▸ hr)
    have h2 : r ≠ q := fun z => n2 (z ▸ hr)
    simp [h1, h2]
  rw [fl, ← subs_all k l']
  show S (((subs k l').map (q :: ·) ++ subs (k + 1) l').map (p :: ·) ++ ((subs (k + 1) l').map (q :: ·) ++ subs (k + 2) l')) _ = _
  have z2 : S ((subs (k + 1) l').map (q :: ·) ++ subs (k + 2) l') (fun T => if p ∈ T ∧ q ∈ T ∧ ∀ r ∈ T, r ≠ p → r ≠ q → R r then 1 else 0) = 0 := by
    rw [S_congr (g := fun _ => 0) fun T hT => if_neg ?_, S_zero]
    rintro ⟨h, _⟩
    rcases List.mem_append.mp hT with hT | hT
    · obtain ⟨t, ht, rfl⟩ := List.mem_map.mp hT
      rcases List.mem_cons.mp h with h | h
      · exact hpq h
      · exact n1 ((subs_sub ht).subset h)
    · exact n1 ((subs_sub hT).subset h)
  have z1 : S (((subs (k + 1) l')).map (p :: ·)) (fun T => if p ∈ T ∧ q ∈ T ∧ ∀ r ∈ T, r ≠ p → r ≠ q → R r then 1 else 0) = 0 := by
    rw [S_congr (g := fun _ => 0) fun T hT => if_neg ?_, S_zero]
    rintro ⟨_, h, _⟩
    obtain ⟨t, ht, rfl⟩ := List.mem_map.mp hT
    rcases List.mem_cons.mp h with h | h
    · exact hpq h.symm
    · exact n2 ((subs_sub ht).subset h)
  rw [S_append, z2, List.map_append, S_append, z1, List.map_map, S_map, Nat.add_zero]
  refine S_congr fun t ht => ?_
  have hs := (subs_sub ht).subset
  have : (p ∈ p :: q :: t ∧ q ∈ p :: q :: t ∧ ∀ r ∈ p :: q :: t, r ≠ p → r ≠ q → R r) ↔ ∀ r ∈ t, R r := by
    constructor
    · rintro ⟨_, _, h⟩ r hr
      exact h r (.tail _ (.tail _ hr)) (fun z => n1 (z ▸ hs hr)) fun z => n2 (z ▸ hs hr)
    · intro h
      refine ⟨.head _, .tail _ (.head _), fun r hr h1 h2 => ?_⟩
      rcases List.mem_cons.mp hr with rfl | hr
      · exact absurd rfl h1
      · rcases List.mem_cons.mp hr with rfl | hr
        · exact absurd rfl h2
        · exact h r hr
  show (if p ∈ p :: q :: t ∧ q ∈ p :: q :: t ∧ ∀ r ∈ p :: q :: t, r ≠ p → r ≠ q → R r then 1 else 0) = _
  by_cases c : ∀ r ∈ t, R r
  · rw [if_pos (this.mpr c), if_pos c]
  · rw [if_neg fun z => c (this.mp z), if_neg c]
theorem sub_filter {T l : List α} (h : T.Sublist l) (nd : l.Nodup) : T = l.filter fun x => decide (x ∈ T) := by
  induction h with
  | slnil => rfl
  | cons a h ih =>
    rename_i T l
    obtain ⟨h1, h2⟩ := List.nodup_cons.mp nd
    rw [List.filter_cons_of_neg (by simpa using fun z => h1 (h.subset z))]
    exact ih h2
  | cons_cons a h ih =>
    rename_i T l
    obtain ⟨h1, h2⟩ := List.nodup_cons.mp nd
    rw [List.filter_cons_of_pos (by simp)]
    congr 1
    rw [List.filter_congr (q := fun x => decide (x ∈ T)) fun x hx => ?_]
    · exact ih h2
    · have : x ≠ a := fun z => h1 (z ▸ hx)
      simp [this]
theorem S_part {T l : List α} (h : T.Sublist l) (nd : l.Nodup) (f : α → Nat) : S T f = S l fun x => if x ∈ T then f x else 0 := by
  conv => lhs; rw [sub_filter h nd]
  rw [S_filter]
end
open Classical in
theorem cnt_parts {l : List Pt} (nd : l.Nodup) (k : Nat) : S (subs (k + 2) l) (fun T => cnt T 0) = S l fun p => S l fun q => if p ≠ q then ch (rgt l p q) k else 0 := by
  have e : ∀ T ∈ subs (k + 2) l, cnt T 0 = S l fun p => S l fun q => if p ≠ q then (if p ∈ T ∧ q ∈ T ∧ ∀ r ∈ T, r ≠ p → r ≠ q → ¬ Lf p q r then 1 else 0) else 0 := fun T hT => by
    unfold cnt
    rw [S_part (subs_sub hT) nd]
    refine S_congr fun p _ => ?_
    by_cases hp : p ∈ T
    · rw [if_pos hp, S_part (subs_sub hT) nd]
      refine S_congr fun q _ => ?_
      by_cases hq : q ∈ T
      · rw [if_pos hq]
        by_cases hpq : p ≠ q
        · rw [if_pos hpq]
          have : (p ≠ q ∧ lft T p q = 0) ↔ (p ∈ T ∧ q ∈ T ∧ ∀ r ∈ T, r ≠ p → r ≠ q → ¬ Lf p q r) := by
            rw [lft_zero]
            constructor
            · exact fun ⟨_, h⟩ => ⟨hp, hq, fun r hr _ _ => h r hr⟩
            · rintro ⟨_, _, h⟩
              refine ⟨hpq, fun r hr z => ?_⟩
              by_cases e1 : r = p
              · subst e1
                unfold Lf at z
                rw [ar_aba] at z
                omega
              by_cases e2 : r = q
              · subst e2
                unfold Lf at z
                rw [ar_abb] at z
                omega
              exact h r hr e1 e2 z
          unfold b1
          by_cases c : (p ≠ q ∧ lft T p q = 0)
          · rw [if_pos c, if_pos (this.mp c)]
          · rw [if_neg c, if_neg fun z => c (this.mpr z)]
        · rw [if_neg hpq]
          exact if_neg fun z => hpq z.1
      · rw [if_neg hq]
        by_cases hpq : p ≠ q
        · rw [if_pos hpq, if_neg fun z => hq z.2.1]
        · rw [if_neg hpq]
    · rw [if_neg hp]
      symm
      rw [S_congr (g := fun _ => 0) fun q _ => ?_, S_zero]
      by_cases hpq : p ≠ q
      · rw [if_pos hpq, if_neg fun z => hp z.1]
      · rw [if_neg hpq]
  rw [S_congr e, S_swap]
  refine S_congr fun p hp => ?_
  rw [S_swap]
  refine S_congr fun q hq => ?_
  by_cases hpq : p ≠ q
  · simp only [if_pos hpq]
    have h := subs_two nd hp hq hpq (fun r => ¬ Lf p q r) k
    have e2 : rgt l p q = (l.filter fun r => decide (r ≠ p ∧ r ≠ q ∧ ¬ Lf p q r)).length := by
      rw [len_filter]
      rfl
    rw [e2]
    exact Eq.trans (S_congr fun T _ => ite_same_i) (h.trans (congrArg (fun z => ch z k) (congrArg List.length (List.filter_congr fun r _ => decide_eq_decide.mpr Iff.rfl))))
  · simp only [if_neg hpq, S_zero]
theorem pick_range (m : Nat) (k : Nat) (g : Nat → Nat) : S (List.range m) (fun j => b1 (k = j) * g j) = if k < m then g k else 0 := by
  induction m with
  | zero => rfl
  | succ m ih =>
    rw [List.range_succ, S_append, ih, S_cons, S_nil]
    by_cases h1 : k < m
    · rw [if_pos h1, if_pos (by omega), b1, if_neg (by omega)]
      omega
    · by_cases h2 : k = m
      · subst h2
        simp [b1]
      · rw [if_neg h1, if_neg (by omega), b1, if_neg h2]
        omega
theorem row_parts {l : List Pt} (nd : l.Nodup) (k : Nat) : S (subs (k + 2) l) (fun T => cnt T 0) = S (List.range (l.length - 1)) fun j => cnt l j * ch (l.length - 2 - j) k := by
  rw [cnt_parts nd]
  symm
  unfold cnt
  simp only [← S_mulr]
  rw [S_swap]
  refine S_congr fun p hp => ?_
  rw [S_swap]
  refine S_congr fun q hq => ?_
  by_cases hpq : p ≠ q
  · have lr := lr_sum nd hp hq hpq
    have := pick_range (l.length - 1) (lft l p q) fun j => ch (l.length - 2 - j) k
    rw [if_pos (by omega)] at this
    rw [if_pos hpq, show rgt l p q = l.length - 2 - lft l p q by omega, ← this]
    refine S_congr fun j _ => ?_
    simp [b1, hpq]
  · rw [if_neg hpq, S_congr (g := fun _ => 0) fun j _ => ?_, S_zero]
    simp [b1, hpq]
end PD.Law
end

section
set_option Elab.async false
set_option linter.all false
set_option maxRecDepth 100000
set_option maxHeartbeats 1000000
namespace PD.Law
open PySem L2 PD
def Out.lk (o : Out) (g : Env → Out) : Dp g Out := match o with
  | .nx e => g e
  | .ct e => g e
  | .bk e => .nx e
  | o => o
theorem lcons {f : D → Env → Out} {x : D} {xs : List D} {env : Env} : loop f (x :: xs) env = Out.lk (f x env) fun e => loop f xs e := by
  rw [loop]
  cases f x env <;> rfl
@[simp ↓] theorem lk_nx (e g) : Out.lk (.nx e) g = g e := rfl
@[simp ↓] theorem lk_ct (e g) : Out.lk (.ct e) g = g e := rfl
@[simp ↓] theorem lk_bk (e g) : Out.lk (.bk e) g = .nx e := rfl
@[simp ↓] theorem lk_rt (d e g) : Out.lk (.rt d e) g = .rt d e := rfl
@[simp ↓] theorem lk_ex (d e g) : Out.lk (.ex d e) g = .ex d e := rfl
abbrev Cd := (Int × Int × Int) × Int
def wiI (pts : List Pt) (x : Cd) : Bool := wn (pt pts x.1.1) (pt pts x.1.2.1) (pt pts x.1.2.2) (pt pts x.2)
theorem eq_bl (s t : Bool) : eqO (.bl s) (.bl t) = .ok (s == t) := by
  rw [eqO_eq]
  cases s <;> cases t <;> rfl
theorem s_is_within (n : Nat) {pts : List Pt} (hp : ∀ p ∈ pts, Pb p) {a b c p : Int} (ha : 0 ≤ a ∧ a < pts.length) (hb : 0 ≤ b ∧ b < pts.length) (hc : 0 ≤ c ∧ c < pts.length) (hq : 0 ≤ p ∧ p < pts.length) :
    vC (P.ctx (n + 2)) f_law_is_within [.lst (pts.map ptD), .int p, t3D (a, b, c)] = .ok (.bl (wiI pts ((a, b, c), p))) := by
  rw [run_law_is_within, b_law_is_within]
  have ia := item_ptl (pts := pts) ha.1 ha.2
  have ib := item_ptl (pts := pts) hb.1 hb.2
  have ic := item_ptl (pts := pts) hc.1 hc.2
  have ip := item_ptl (pts := pts) hq.1 hq.2
  have E : ∀ e3, vE (P.ctx (n + 1)) none e_law_is_within_1 [.lst (pts.map ptD), .int p, t3D (a, b, c), e3, .un, .un, .un, .un, .un, .un, .un] = .ok (.lst [ptD (pt pts a), ptD (pt pts b), ptD (pt pts c)]) := fun e3 => by
    rw [e_law_is_within_1, comp_of (h := D.int) (xs := [a, b, c]) (g := fun x => [ptD (pt pts x)]) (by simp; rfl) rfl ?_ (by simp)]
    · simp
    · intro x hx
      have ix := item_ptl (pts := pts) (i := x) (by simp at hx; omega) (by simp at hx; omega)
      simp [ix]
  have pa := hp _ (pt_mem ha.1 ha.2)
  have pb := hp _ (pt_mem hb.1 hb.2)
  have pc := hp _ (pt_mem hc.1 hc.2)
  have pp := hp _ (pt_mem hq.1 hq.2)
  have a1 := s_area n pa pb pp
  have a2 := s_area n pb pc pp
  have a3 := s_area n pc pa pp
  simp [E, ip, a1, a2, a3]
  unfold wiI wn tb
  dsimp only
  generalize decide (0 < ar (pt pts a) (pt pts b) (pt pts p)) = u
  generalize decide (0 < ar (pt pts b) (pt pts c) (pt pts p)) = v
  generalize decide (0 < ar (pt pts c) (pt pts a) (pt pts p)) = w
  cases u <;> cases v <;> cases w <;> simp [eq_bl]
theorem flat_len {α β : Type} (f : α → List β) (k : Nat) (h : ∀ a, (f a).length ≤ k) (l : List α) : (l.flatMap f).length ≤ l.length * k := by
  induction l with
  | nil => simp
  | cons a l ih =>
    rw [List.flatMap_cons, List.length_append, List.length_cons, Nat.add_mul]
    have := h a
    omega
theorem rI_le {lo hi : Int} {k : Nat} (h : hi - lo ≤ k) : (rangeI lo hi).length ≤ k := by rw [rangeI_length]; omega
theorem pre_le {l pre post : List Int} {x : Int} {k : Nat} (h : l = pre ++ x :: post) (hl : l.length ≤ k) : pre.length ≤ k := by
  rw [h, List.length_append] at hl
  omega
end PD.Law
end

section
set_option Elab.async false
set_option linter.all false
set_option maxRecDepth 100000
set_option maxHeartbeats 1000000
namespace PD.Law
open PySem L2 PD
/-! W10: choices, rows. -/
def chI (a b : Int) : Int := ((ch a.toNat b.toNat : Nat) : Int)
theorem mc_ch {a b : Int} (ha : 0 ≤ a ∧ a ≤ 9) (hb : 0 ≤ b ∧ b ≤ 9) : PySem.W.mcComb a b = chI a b := by
  have h : ∀ a : Fin 10, ∀ b : Fin 10, PySem.W.mcComb (a.val : Int) (b.val : Int) = chI (a.val : Int) (b.val : Int) := by decide +kernel
  have := h ⟨a.toNat, by omega⟩ ⟨b.toNat, by omega⟩
  rw [show (((⟨a.toNat, by omega⟩ : Fin 10).val : Nat) : Int) = a from Int.toNat_of_nonneg ha.1, show (((⟨b.toNat, by omega⟩ : Fin 10).val : Nat) : Int) = b from Int.toNat_of_nonneg hb.1] at this
  exact this
theorem ch_small : ∀ a : Fin 10, ∀ b : Fin 10, ch a.val b.val ≤ 1000 := by decide +kernel
theorem chI_b {a b : Int} (ha : 0 ≤ a ∧ a ≤ 9) (hb : 0 ≤ b ∧ b ≤ 9) : 0 ≤ chI a b ∧ chI a b ≤ 1000 := by
  have := ch_small ⟨a.toNat, by omega⟩ ⟨b.toNat, by omega⟩
  unfold chI
  dsimp only at this
  omega
theorem s_choose (n : Nat) {a b : Int} (ha : 0 ≤ a ∧ a ≤ 9) (hb : 0 ≤ b ∧ b ≤ 9) : vC (P.ctx (n + 2)) f_choose [.int a, .int b] = .ok (.int (chI a b)) := by
  rw [run_choose, b_choose]
  have m := mfn_comb (a := a) (b := b) (by omega) (by omega) (by omega) (by omega)
  rw [mc_ch ha hb] at m
  have c1 : ¬ (a < 0 ∨ 60 < a) := by omega
  have c2 : ¬ (b < -60 ∨ 60 < b) := by omega
  have c3 : ¬ b < 0 := by omega
  simp [c1, c2, c3, m]
theorem ch_step : ∀ a : Fin 10, ∀ i : Fin 9, ((ch a.val i.val : Nat) : Int) * ((a.val : Int) - (i.val : Int)) / ((i.val : Int) + 1) = ((ch a.val (i.val + 1) : Nat) : Int) := by decide +kernel
theorem s_law_choose (n : Nat) {a b : Int} (ha : 0 ≤ a ∧ a ≤ 9) (hb : 0 ≤ b ∧ b ≤ 9) : vC (P.ctx (n + 1)) f_law_choose [.int a, .int b] = .ok (.int (chI a b)) := by
  rw [run_law_choose, b_law_choose]
  have q : ∃ e', vS (P.ctx n) none l_law_choose_1 [.int a, .int b, .int 1, .un] = .nx e' ∧ ∃ d, e' = [.int a, .int b, .int (chI a b), d] := by
    rw [l_law_choose_1]
    refine for_wp (rangeI 0 b) (h := D.int) (I := fun pre e => ∃ d, e = [.int a, .int b, .int (chI a (pre.length : Nat)), d]) (Q := fun o => ∃ e', o = .nx e' ∧ ∃ d, e' = [.int a, .int b, .int (chI a b), d]) (by simp [rng1_of (n := b) (by omega) (by omega)]; rfl) rfl ⟨_, by show _ = [_, _, D.int ((ch a.toNat 0 : Nat) : Int), _]; rw [ch_zero]; rfl⟩ ?_ ?_
    · rintro pre i post e eq ⟨d, rfl⟩
      have hi : 0 ≤ i ∧ i < b := mem_rangeI.mp (by rw [eq]; simp)
      have hil : i = (pre.length : Nat) := by
        have h1 : (rangeI 0 b)[pre.length]? = some i := by rw [eq, List.getElem?_append_right (by omega)]; simp
        unfold rangeI at h1
        rw [List.getElem?_map] at h1
        cases hg : (List.range (b - 0).toNat)[pre.length]? with
        | none => rw [hg] at h1; cases h1
        | some k =>
          rw [hg] at h1
          have hk := List.getElem?_eq_some_iff.mp hg
          obtain ⟨hk1, hk2⟩ := hk
          rw [List.getElem_range] at hk2
          subst hk2
          cases h1
          show (0 : Int) + (pre.length : Nat) = _
          omega
      have b1 := chI_b ha (show 0 ≤ i ∧ i ≤ 9 by omega)
      have st := ch_step ⟨a.toNat, by omega⟩ ⟨i.toNat, by omega⟩
      have st2 : chI a i * (a - i) / (i + 1) = chI a (i + 1) := by
        unfold chI
        dsimp only at st
        rw [Int.toNat_of_nonneg ha.1, Int.toNat_of_nonneg hi.1] at st
        rw [st, show (i + 1).toNat = i.toNat + 1 by omega]
      rw [← hil]
      have s1 : Sm (chI a i) := ⟨by omega, by omega⟩
      have s2 : Sm (a - i) := ⟨by omega, by omega⟩
      have s3 : Sm (i + 1) := ⟨by omega, by omega⟩
      have p3 : 0 < i + 1 := by omega
      refine nx_step (e := [.int a, .int b, .int (chI a (i + 1)), .int i]) ?_ ⟨_, by rw [List.length_append, hil]; rfl⟩
      simp [s1, s2, s3, p3, st2]
    · rintro e ⟨d, rfl⟩
      refine ⟨_, rfl, d, ?_⟩
      rw [rangeI_length, show ((b - 0).toNat : Int) = b by omega]
  obtain ⟨e', q, d, rfl⟩ := q
  simp [q]
/-! ### rows -/
def gt (r : List Int) (j : Int) : Int := r.getD j.toNat 0
theorem gt_item {r : List Int} {j : Int} (h : 0 ≤ j ∧ j < r.length) : itemO (.lst (r.map D.int)) (.int j) = .ok (.int (gt r j)) := item_ints h.1 (by
  unfold gt
  rw [List.getD_eq_getElem?_getD, List.getElem?_eq_getElem (by omega)]
  rfl)
/-- a row of moderate size -/
def Rw10 (B : Int) (r : List Int) : Prop := ∀ x ∈ r, -B ≤ x ∧ x ≤ B
theorem gt_b {B : Int} (hB : 0 ≤ B) {r : List Int} (h : Rw10 B r) (j : Int) : -B ≤ gt r j ∧ gt r j ≤ B := by
  unfold gt
  rw [List.getD_eq_getElem?_getD]
  cases e : r[j.toNat]? with
  | none => simp; omega
  | some x => exact h x (List.mem_of_getElem? e)
def cornT (r : List Int) (s : Int) : List Int := (rangeI 0 r.length).map fun j => gt r j * chI ((r.length : Int) - 1 - j) (s - 2)
def sumsL (r : List Int) : List Int := (rangeI 3 ((r.length : Int) + 2)).map fun s => (cornT r s).sum
def spreadT (r : List Int) (s : Int) : List Int := (rangeI s r.length).map fun m => gt r m * chI m s
def spreadL (r : List Int) : List Int := (rangeI 0 r.length).map fun s => (spreadT r s).sum
def gathT (r : List Int) (m : Int) : List Int := (rangeI m r.length).map fun s => if (s - m) % 2 = 1 then -(chI s m * gt r s) else chI s m * gt r s
def gathL (r : List Int) : List Int := (rangeI 0 r.length).map fun m => (gathT r m).sum
theorem s_corner_row (n : Nat) {pts : List Pt} {fl : D} (F : FloorIs pts fl) (g : Good pts) : vC (P.ctx (n + 5)) f_corner_row [fl] = .ok (.lst ((sumsL (rowOf pts)).map D.int)) := by
  have hr := rd_floor F
  have l1 := g.l1
  have l2 := g.l2
  have rl := rowOf_len pts
  have sl := s_len (n + 3) F (by omega)
  have lr := s_line_row n F l1 (by omega) g.on
  rw [run_corner_row, b_corner_row]
  have hb : Rw10 1000 (rowOf pts) := fun x hx => by
    obtain ⟨j, _, rfl⟩ := List.mem_map.mp hx
    have c1 := cnt_le pts j.toNat
    have c3 : pts.length * pts.length ≤ 10 * 10 := Nat.mul_le_mul l2 l2
    omega
  generalize rowOf pts = r at *
  have E1 : ∀ s : Int, 3 ≤ s ∧ s < (pts.length : Int) + 1 → ∀ y, vE (P.ctx (n + 4)) none e_corner_row_1 [fl, .int pts.length, .lst (r.map D.int), .int s, y] = .ok (.lst ((cornT r s).map D.int)) := fun s hs y => by
    rw [e_corner_row_1, comp_of (h := D.int) (xs := rangeI 0 r.length) (g := fun j => [D.int (gt r j * chI ((r.length : Int) - 1 - j) (s - 2))]) (by simp [rng1_of (n := (pts.length : Int) - 1) (by omega) (by omega)]; rw [show (pts.length : Int) - 1 = (r.length : Int) by omega]) rfl ?_ ?_]
    · rw [← List.map_eq_flatMap, cornT, List.map_map]
      rfl
    · intro j hj
      rw [mem_rangeI] at hj
      have i1 := gt_item (r := r) hj
      have c1 := s_choose (n + 2) (a := (pts.length : Int) - 2 - j) (b := s - 2) (by omega) (by omega)
      have b1 := gt_b (by omega) hb j
      have b2 := chI_b (a := (pts.length : Int) - 2 - j) (b := s - 2) (by omega) (by omega)
      have s1 : Sm (gt r j) := ⟨by omega, by omega⟩
      have s2 : Sm (chI ((pts.length : Int) - 2 - j) (s - 2)) := ⟨by omega, by omega⟩
      have e1 : (r.length : Int) - 1 - j = (pts.length : Int) - 2 - j := by omega
      simp [hr, i1, c1, s1, s2, e1]
    · rw [← List.map_eq_flatMap, List.length_map, rangeI_length]
      omega
  have E2 : vE (P.ctx (n + 4)) none e_corner_row_2 [fl, .int pts.length, .lst (r.map D.int), .un, .un] = .ok (.lst ((sumsL r).map D.int)) := by
    rw [e_corner_row_2, comp_of (h := D.int) (xs := rangeI 3 ((pts.length : Int) + 1)) (g := fun s => [D.int (cornT r s).sum]) (by simp [rng_of (i := 3) (j := (pts.length : Int) + 1) (by omega) (by omega) (by omega) (by omega)]; rfl) rfl ?_ ?_]
    · rw [← List.map_eq_flatMap, sumsL, List.map_map, show (r.length : Int) + 2 = (pts.length : Int) + 1 by omega]
      rfl
    · intro s hs
      rw [mem_rangeI] at hs
      have E := E1 s hs
      generalize cornT r s = L at *
      simp [E]
    · rw [← List.map_eq_flatMap, List.length_map, rangeI_length]
      omega
  generalize sumsL r = L at *
  simp [-lenMv_ins, hr, sl, lr, E2]
theorem sum_snoc (l : List Int) (x : Int) : (l ++ [x]).sum = l.sum + x := by simp
theorem s_sums (n : Nat) {r : List Int} {B : Int} (hB : 0 ≤ B ∧ B ≤ 10 ^ 20) (hb : Rw10 B r) (hl : r.length ≤ 9) : vC (P.ctx (n + 2)) f_law_sums [.lst (r.map D.int)] = .ok (.lst ((sumsL r).map D.int)) := by
  rw [run_law_sums, b_law_sums]
  have L1 : ∀ s : Int, 3 ≤ s ∧ s < (r.length : Int) + 2 → ∀ (x y : D), ∃ y', vS (P.ctx (n + 1)) none l_law_sums_1 [.lst (r.map D.int), .int ((r.length : Int) + 1), x, .int s, .int 0, y] = .nx [.lst (r.map D.int), .int ((r.length : Int) + 1), x, .int s, .int (cornT r s).sum, y'] := by
    intro s hs x y
    have q : ∃ e', vS (P.ctx (n + 1)) none l_law_sums_1 [.lst (r.map D.int), .int ((r.length : Int) + 1), x, .int s, .int 0, y] = .nx e' ∧ ∃ y', e' = [.lst (r.map D.int), .int ((r.length : Int) + 1), x, .int s, .int (cornT r s).sum, y'] := by
      rw [l_law_sums_1]
      refine for_wp (rangeI 0 r.length) (h := D.int) (I := fun pre e => ∃ y', e = [.lst (r.map D.int), .int ((r.length : Int) + 1), x, .int s, .int (pre.map fun j => gt r j * chI ((r.length : Int) - 1 - j) (s - 2)).sum, y']) (Q := fun o => ∃ e', o = .nx e' ∧ ∃ y', e' = [.lst (r.map D.int), .int ((r.length : Int) + 1), x, .int s, .int (cornT r s).sum, y']) (by simp [rng1_of (n := (r.length : Int)) (by omega) (by omega)]; rfl) rfl ⟨y, rfl⟩ ?_ fun e h => ⟨e, rfl, h⟩
      rintro pre j post e eq ⟨y', rfl⟩
      have hj : 0 ≤ j ∧ j < r.length := mem_rangeI.mp (by rw [eq]; simp)
      have i1 := gt_item (r := r) hj
      have c1 := s_law_choose n (a := (r.length : Int) - 1 - j) (b := s - 2) (by omega) (by omega)
      have b1 := gt_b hB.1 hb j
      have b2 := chI_b (a := (r.length : Int) - 1 - j) (b := s - 2) (by omega) (by omega)
      have s1 : Sm (gt r j) := ⟨by omega, by omega⟩
      have s2 : Sm (chI ((r.length : Int) - 1 - j) (s - 2)) := ⟨by omega, by omega⟩
      have e1 : (r.length : Int) + 1 - 2 - j = (r.length : Int) - 1 - j := by omega
      refine nx_step (e := [.lst (r.map D.int), .int ((r.length : Int) + 1), x, .int s, .int ((pre ++ [j]).map fun j => gt r j * chI ((r.length : Int) - 1 - j) (s - 2)).sum, .int j]) ?_ ⟨_, rfl⟩
      rw [List.map_append, List.map_cons, List.map_nil, sum_snoc]
      generalize (pre.map fun j => gt r j * chI ((r.length : Int) - 1 - j) (s - 2)).sum = T at *
      simp [i1, c1, s1, s2, e1]
    obtain ⟨e', q, y', rfl⟩ := q
    exact ⟨y', q⟩
  have q : ∃ e', vS (P.ctx (n + 1)) none l_law_sums_2 [.lst (r.map D.int), .int ((r.length : Int) + 1), .lst (([] : List Int).map D.int), .un, .un, .un] = .nx e' ∧ ∃ x y z, e' = [.lst (r.map D.int), .int ((r.length : Int) + 1), .lst ((sumsL r).map D.int), x, y, z] := by
    rw [l_law_sums_2]
    refine for_wp (rangeI 3 ((r.length : Int) + 2)) (h := D.int) (I := fun pre e => ∃ x y z, e = [.lst (r.map D.int), .int ((r.length : Int) + 1), .lst ((pre.map fun s => (cornT r s).sum).map D.int), x, y, z]) (Q := fun o => ∃ e', o = .nx e' ∧ ∃ x y z, e' = [.lst (r.map D.int), .int ((r.length : Int) + 1), .lst ((sumsL r).map D.int), x, y, z]) (by simp [rng_of (i := 3) (j := (r.length : Int) + 1 + 1) (by omega) (by omega) (by omega) (by omega)]; rw [show (r.length : Int) + 1 + 1 = (r.length : Int) + 2 by omega]) rfl ⟨_, _, _, rfl⟩ ?_ fun e h => ⟨e, rfl, h⟩
    rintro pre s post e eq ⟨x, y, z, rfl⟩
    have hs : 3 ≤ s ∧ s < (r.length : Int) + 2 := mem_rangeI.mp (by rw [eq]; simp)
    have hpre : pre.length ≤ 11 := by
      have h := congrArg List.length eq
      rw [rangeI_length, List.length_append] at h
      omega
    obtain ⟨z', q⟩ := L1 s hs (.lst ((pre.map fun s => (cornT r s).sum).map D.int)) z
    refine nx_step (e := [.lst (r.map D.int), .int ((r.length : Int) + 1), .lst (((pre ++ [s]).map fun s => (cornT r s).sum).map D.int), .int s, .int (cornT r s).sum, z']) ?_ ⟨_, _, _, rfl⟩
    have hL : (pre.map fun s => (cornT r s).sum).length < 100000 := by rw [List.length_map]; omega
    rw [List.map_append, List.map_cons, List.map_nil]
    generalize (pre.map fun s => (cornT r s).sum) = L at *
    generalize cornT r s = M at *
    simp [q, hL]
  obtain ⟨e', q, x, y, z, rfl⟩ := q
  simp only [List.map_nil] at q
  generalize sumsL r = L at *
  simp [q]
theorem s_check_row (n : Nat) {r : List Int} {B : Int} (hB : 0 ≤ B ∧ B ≤ 10 ^ 20) (hb : Rw10 B r) (hl : r.length ≤ 9) : vC (P.ctx (n + 2)) f_check_row [.lst (r.map D.int), .int 0] = .ok .non := by
  rw [run_check_row, b_check_row]
  have q : ∃ e', vS (P.ctx (n + 1)) none l_check_row_1 [.lst (r.map D.int), .int 0, .un] = .nx e' ∧ ∃ d, e' = [.lst (r.map D.int), .int 0, d] := by
    rw [l_check_row_1]
    refine for_pass r (h := D.int) _ (by simp; rfl) rfl ⟨_, rfl⟩ ?_
    rintro x hx e ⟨d, rfl⟩
    have h := hb x hx
    have c1 : ¬ (x < -10000000000000000000000000000000000000000 ∨ 10000000000000000000000000000000000000000 < x) := by omega
    refine ⟨[.lst (r.map D.int), .int 0, .int x], ?_, _, rfl⟩
    simp [c1]
  obtain ⟨e', q, d, rfl⟩ := q
  have c2 : ¬ ((r.length : Int) < 0 ∨ 64 < (r.length : Int)) := by omega
  simp [q, c2]
theorem s_spread (n : Nat) {r : List Int} {B : Int} (hB : 0 ≤ B ∧ B ≤ 10 ^ 20) (hb : Rw10 B r) (hl : r.length ≤ 9) : vC (P.ctx (n + 3)) f_spread [.lst (r.map D.int)] = .ok (.lst ((spreadL r).map D.int)) := by
  rw [run_spread, b_spread]
  have cr := s_check_row n hB hb hl
  have E1 : ∀ s : Int, 0 ≤ s ∧ s < r.length → ∀ y, vE (P.ctx (n + 2)) none e_spread_1 [.lst (r.map D.int), .int r.length, .int s, y] = .ok (.lst ((spreadT r s).map D.int)) := fun s hs y => by
    rw [e_spread_1, comp_of (h := D.int) (xs := rangeI s r.length) (g := fun m => [D.int (gt r m * chI m s)]) (by simp [rng_of (i := s) (j := (r.length : Int)) (by omega) (by omega) (by omega) (by omega)]; rfl) rfl ?_ ?_]
    · rw [← List.map_eq_flatMap, spreadT, List.map_map]
      rfl
    · intro m hm
      rw [mem_rangeI] at hm
      have i1 := gt_item (r := r) (j := m) (by omega)
      have c1 := mfn_comb (a := m) (b := s) (by omega) (by omega) (by omega) (by omega)
      rw [mc_ch (by omega) (by omega)] at c1
      have b1 := gt_b hB.1 hb m
      have b2 := chI_b (a := m) (b := s) (by omega) (by omega)
      have s1 : Sm (gt r m) := ⟨by omega, by omega⟩
      have s2 : Sm (chI m s) := ⟨by omega, by omega⟩
      simp [i1, c1, s1, s2]
    · rw [← List.map_eq_flatMap, List.length_map, rangeI_length]
      omega
  have E2 : vE (P.ctx (n + 2)) none e_spread_2 [.lst (r.map D.int), .int r.length, .un, .un] = .ok (.lst ((spreadL r).map D.int)) := by
    rw [e_spread_2, comp_of (h := D.int) (xs := rangeI 0 r.length) (g := fun s => [D.int (spreadT r s).sum]) (by simp [rng1_of (n := (r.length : Int)) (by omega) (by omega)]; rfl) rfl ?_ ?_]
    · rw [← List.map_eq_flatMap, spreadL, List.map_map]
      rfl
    · intro s hs
      rw [mem_rangeI] at hs
      have E := E1 s hs
      generalize spreadT r s = L at *
      simp [E]
    · rw [← List.map_eq_flatMap, List.length_map, rangeI_length]
      omega
  generalize spreadL r = L at *
  simp [cr, E2]
theorem s_signed (n : Nat) (d v : Int) : vC (P.ctx (n + 1)) f_signed [.int d, .int v] = .ok (.int (if d % 2 = 1 then -v else v)) := by
  rw [run_signed, b_signed]
  by_cases h : d % 2 = 1 <;> simp [h]
theorem s_gather (n : Nat) {r : List Int} {B : Int} (hB : 0 ≤ B ∧ B ≤ 10 ^ 20) (hb : Rw10 B r) (hl : r.length ≤ 9) : vC (P.ctx (n + 3)) f_gather [.lst (r.map D.int)] = .ok (.lst ((gathL r).map D.int)) := by
  rw [run_gather, b_gather]
  have cr := s_check_row n hB hb hl
  have E1 : ∀ m : Int, 0 ≤ m ∧ m < r.length → ∀ y, vE (P.ctx (n + 2)) none e_gather_1 [.lst (r.map D.int), .int r.length, .int m, y] = .ok (.lst ((gathT r m).map D.int)) := fun m hm y => by
    rw [e_gather_1, comp_of (h := D.int) (xs := rangeI m r.length) (g := fun s => [D.int (if (s - m) % 2 = 1 then -(chI s m * gt r s) else chI s m * gt r s)]) (by simp [rng_of (i := m) (j := (r.length : Int)) (by omega) (by omega) (by omega) (by omega)]; rfl) rfl ?_ ?_]
    · rw [← List.map_eq_flatMap, gathT, List.map_map]
      rfl
    · intro s hs
      rw [mem_rangeI] at hs
      have i1 := gt_item (r := r) (j := s) (by omega)
      have c1 := mfn_comb (a := s) (b := m) (by omega) (by omega) (by omega) (by omega)
      rw [mc_ch (by omega) (by omega)] at c1
      have b1 := gt_b hB.1 hb s
      have b2 := chI_b (a := s) (b := m) (by omega) (by omega)
      have s1 : Sm (gt r s) := ⟨by omega, by omega⟩
      have s2 : Sm (chI s m) := ⟨by omega, by omega⟩
      have sg := s_signed (n + 1) (s - m) (chI s m * gt r s)
      simp [i1, c1, s1, s2, sg]
    · rw [← List.map_eq_flatMap, List.length_map, rangeI_length]
      omega
  have E2 : vE (P.ctx (n + 2)) none e_gather_2 [.lst (r.map D.int), .int r.length, .un, .un] = .ok (.lst ((gathL r).map D.int)) := by
    rw [e_gather_2, comp_of (h := D.int) (xs := rangeI 0 r.length) (g := fun m => [D.int (gathT r m).sum]) (by simp [rng1_of (n := (r.length : Int)) (by omega) (by omega)]; rfl) rfl ?_ ?_]
    · rw [← List.map_eq_flatMap, gathL, List.map_map]
      rfl
    · intro s hs
      rw [mem_rangeI] at hs
      have E := E1 s hs
      generalize gathT r s = L at *
      simp [E]
    · rw [← List.map_eq_flatMap, List.length_map, rangeI_length]
      omega
  generalize gathL r = L at *
  simp [cr, E2]
end PD.Law
end

section
set_option Elab.async false
set_option linter.all false
set_option maxRecDepth 100000
set_option maxHeartbeats 1000000
namespace PD.Law
open PySem L2 PD
/-! W10b: what is told; holders. -/
abbrev liD (l : List Int) : D := .lst (l.map D.int)
theorem told_tail (n : Nat) (L : List Int) (hL : L.length ≤ 100) (x y : D) : vE (P.ctx n) none (RE.blt Blt.list (.cons (.var 3) .nil)) [x, y, .un, liD L, .un] = .ok (liD L) := by simp
theorem told_E (n : Nat) (L : List Int) (hL : L.length ≤ 100) (x y z : D) : vE (P.ctx (n + 1)) none e_law_told_1 [x, y, z, .lst (L.map D.int), .un] = .ok (.lst (L.map fun _ => D.bl true)) := by
  rw [e_law_told_1, comp_of (h := D.int) (xs := L) (g := fun _ => [D.bl true]) (by simp; rfl) rfl ?_ ?_, ← List.map_eq_flatMap]
  · intro j hj
    simp
  · rw [← List.map_eq_flatMap, List.length_map]; omega
theorem told_corners (n : Nat) {X : D} {L : List Int} (hL : L.length ≤ 100) (hr : rd X = .ok X) (q : vC (P.ctx (n + 1)) f_corner_row [X] = .ok (liD L)) : vC (P.ctx (n + 2)) f_law_told [.str "corners", X] = .ok (liD L) := by
  rw [run_law_told, b_law_told]
  have s1 : eqO (.str "corners") (.str "corners") = .ok true := eq_strs (by decide +kernel)
  have E := told_E n L hL (.str "corners") X .un
  have e := in_true L
  have hc : L.length < 100000 := by omega
  simp [s1, hr, q, E, e, hc]
theorem told_lines (n : Nat) {X : D} {L : List Int} (hL : L.length ≤ 100) (hr : rd X = .ok X) (q : vC (P.ctx (n + 1)) f_line_row [X] = .ok (liD L)) : vC (P.ctx (n + 2)) f_law_told [.str "lines", X] = .ok (liD L) := by
  rw [run_law_told, b_law_told]
  have s1 : eqO (.str "lines") (.str "corners") = .ok false := eq_strs (by decide +kernel)
  have s2 : eqO (.str "lines") (.str "lines") = .ok true := eq_strs (by decide +kernel)
  have E := told_E n L hL (.str "lines") X .un
  have e := in_true L
  have hc : L.length < 100000 := by omega
  simp [s1, s2, hr, q, E, e, hc]
theorem told_spread (n : Nat) {X : D} {L : List Int} (hL : L.length ≤ 100) (hr : rd X = .ok X) (q : vC (P.ctx (n + 1)) f_spread [X] = .ok (liD L)) : vC (P.ctx (n + 2)) f_law_told [.str "spread", X] = .ok (liD L) := by
  rw [run_law_told, b_law_told]
  have s1 : eqO (.str "spread") (.str "corners") = .ok false := eq_strs (by decide +kernel)
  have s2 : eqO (.str "spread") (.str "lines") = .ok false := eq_strs (by decide +kernel)
  have s3 : eqO (.str "spread") (.str "spread") = .ok true := eq_strs (by decide +kernel)
  have E := told_E n L hL (.str "spread") X .un
  have e := in_true L
  have hc : L.length < 100000 := by omega
  simp [s1, s2, s3, hr, q, E, e, hc]
theorem told_gather (n : Nat) {X : D} {L : List Int} (hL : L.length ≤ 100) (hr : rd X = .ok X) (q : vC (P.ctx (n + 1)) f_gather [X] = .ok (liD L)) : vC (P.ctx (n + 2)) f_law_told [.str "gather", X] = .ok (liD L) := by
  rw [run_law_told, b_law_told]
  have s1 : eqO (.str "gather") (.str "corners") = .ok false := eq_strs (by decide +kernel)
  have s2 : eqO (.str "gather") (.str "lines") = .ok false := eq_strs (by decide +kernel)
  have s3 : eqO (.str "gather") (.str "spread") = .ok false := eq_strs (by decide +kernel)
  have E := told_E n L hL (.str "gather") X .un
  have e := in_true L
  have hc : L.length < 100000 := by omega
  simp [s1, s2, s3, hr, q, E, e, hc]
/-! ### holders -/
def msk (a b c : Int) : Int := 2 ^ a.toNat + 2 ^ b.toNat + 2 ^ c.toNat
def hd1 (pts : List Pt) (x a b : Int) (l : List Int) : List Int := l.flatMap fun c => if ¬ (x = a ∨ x = b ∨ x = c) ∧ wiI pts ((a, b, c), x) = true then [msk a b c] else []
def hd2 (pts : List Pt) (x a : Int) (l : List Int) : List Int := l.flatMap fun b => hd1 pts x a b (rangeI 0 b)
def hd3 (pts : List Pt) (x : Int) (l : List Int) : List Int := l.flatMap fun a => hd2 pts x a (rangeI 0 a)
theorem hd1_snoc (pts x a b l c) : hd1 pts x a b (l ++ [c]) = hd1 pts x a b l ++ if ¬ (x = a ∨ x = b ∨ x = c) ∧ wiI pts ((a, b, c), x) = true then [msk a b c] else [] := by simp [hd1]
theorem hd1_len (pts x a b) (l : List Int) : (hd1 pts x a b l).length ≤ l.length := by
  have := flat_len (fun c => if ¬ (x = a ∨ x = b ∨ x = c) ∧ wiI pts ((a, b, c), x) = true then [msk a b c] else []) 1 (fun c => by split <;> simp) l
  unfold hd1
  omega
theorem hd2_len (pts x a) {l : List Int} (h : ∀ b ∈ l, b ≤ 10) : (hd2 pts x a l).length ≤ l.length * 10 := by
  induction l with
  | nil => simp [hd2]
  | cons b l ih =>
    have h1 := ih fun y hy => h y (List.mem_cons_of_mem _ hy)
    have h2 := hd1_len pts x a b (rangeI 0 b)
    have h3 : (rangeI 0 b).length ≤ 10 := rI_le (by have := h b (.head _); omega)
    show (hd1 pts x a b (rangeI 0 b) ++ hd2 pts x a l).length ≤ _
    rw [List.length_append, List.length_cons]
    omega
theorem hd3_len (pts x) {l : List Int} (h : ∀ b ∈ l, b ≤ 10) : (hd3 pts x l).length ≤ l.length * 100 := by
  induction l with
  | nil => simp [hd3]
  | cons a l ih =>
    have h1 := ih fun y hy => h y (List.mem_cons_of_mem _ hy)
    have ha := h a (.head _)
    have h2 := hd2_len pts x a (l := rangeI 0 a) fun b hb => by rw [mem_rangeI] at hb; omega
    have h3 : (rangeI 0 a).length ≤ 10 := rI_le (by omega)
    show (hd2 pts x a (rangeI 0 a) ++ hd3 pts x l).length ≤ _
    rw [List.length_append, List.length_cons]
    omega
theorem L_hd1 (n : Nat) {pts : List Pt} (hp : ∀ p ∈ pts, Pb p) (hl : pts.length ≤ 10) {x a b : Int} (hx : 0 ≤ x ∧ x < pts.length) (ha : 0 ≤ a ∧ a < pts.length) (hb : 0 ≤ b ∧ b < pts.length) (acc : List Int) (hacc : acc.length ≤ 90000) (e5 e6 : D) :
    ∃ e5' e6', vS (P.ctx (n + 2)) none l_law_holders_1 [.lst (pts.map ptD), .int x, liD acc, .int a, .int b, e5, e6] = .nx [.lst (pts.map ptD), .int x, liD (acc ++ hd1 pts x a b (rangeI 0 b)), .int a, .int b, e5', e6'] := by
  have q : ∃ e', vS (P.ctx (n + 2)) none l_law_holders_1 [.lst (pts.map ptD), .int x, liD acc, .int a, .int b, e5, e6] = .nx e' ∧ ∃ e5' e6', e' = [.lst (pts.map ptD), .int x, liD (acc ++ hd1 pts x a b (rangeI 0 b)), .int a, .int b, e5', e6'] := by
    rw [l_law_holders_1]
    refine for_wp (rangeI 0 b) (h := D.int) (I := fun pre e => ∃ e5' e6', e = [.lst (pts.map ptD), .int x, liD (acc ++ hd1 pts x a b pre), .int a, .int b, e5', e6']) (Q := fun o => ∃ e', o = .nx e' ∧ ∃ e5' e6', e' = [.lst (pts.map ptD), .int x, liD (acc ++ hd1 pts x a b (rangeI 0 b)), .int a, .int b, e5', e6']) (by simp [rng1_of (n := b) (by omega) (by omega)]; rfl) rfl ⟨e5, e6, by simp [hd1]⟩ ?_ fun e h => ⟨e, rfl, h⟩
    rintro pre c post e eq ⟨f5, f6, rfl⟩
    have hc : 0 ≤ c ∧ c < b := mem_rangeI.mp (by rw [eq]; simp)
    have w := s_is_within n hp ha hb (c := c) (by omega) hx
    have hL : (acc ++ hd1 pts x a b pre).length < 100000 := by
      have h1 := hd1_len pts x a b pre
      have h2 := pre_le eq (rI_le (k := 10) (by omega))
      rw [List.length_append]
      omega
    refine nx_step (e := [.lst (pts.map ptD), .int x, liD (acc ++ hd1 pts x a b (pre ++ [c])), .int a, .int b, .int c, t3D (a, b, c)]) ?_ ⟨_, _, rfl⟩
    rw [hd1_snoc, ← List.append_assoc]
    generalize acc ++ hd1 pts x a b pre = L at *
    have m1 := bin_shl (a := 1) (b := a) ha.1 (by omega) (by decide)
    have m2 := bin_shl (a := 1) (b := b) hb.1 (by omega) (by decide)
    have m3 := bin_shl (a := 1) (b := c) hc.1 (by omega) (by decide)
    rw [Int.one_mul] at m1 m2 m3
    by_cases h1 : x = a ∨ x = b ∨ x = c
    · simp [h1]
    · cases h2 : wiI pts ((a, b, c), x) with
      | false =>
        rw [h2] at w
        simp [h1, h2, w]
      | true =>
        rw [h2] at w
        simp [h1, h2, w, hL, m1, m2, m3, msk]
  obtain ⟨e', q, e5', e6', rfl⟩ := q
  exact ⟨e5', e6', q⟩
theorem L_hd2 (n : Nat) {pts : List Pt} (hp : ∀ p ∈ pts, Pb p) (hl : pts.length ≤ 10) {x a : Int} (hx : 0 ≤ x ∧ x < pts.length) (ha : 0 ≤ a ∧ a < pts.length) (acc : List Int) (hacc : acc.length ≤ 80000) (e4 e5 e6 : D) :
    ∃ e4' e5' e6', vS (P.ctx (n + 2)) none l_law_holders_2 [.lst (pts.map ptD), .int x, liD acc, .int a, e4, e5, e6] = .nx [.lst (pts.map ptD), .int x, liD (acc ++ hd2 pts x a (rangeI 0 a)), .int a, e4', e5', e6'] := by
  have q : ∃ e', vS (P.ctx (n + 2)) none l_law_holders_2 [.lst (pts.map ptD), .int x, liD acc, .int a, e4, e5, e6] = .nx e' ∧ ∃ e4' e5' e6', e' = [.lst (pts.map ptD), .int x, liD (acc ++ hd2 pts x a (rangeI 0 a)), .int a, e4', e5', e6'] := by
    rw [l_law_holders_2]
    refine for_wp (rangeI 0 a) (h := D.int) (I := fun pre e => ∃ e4' e5' e6', e = [.lst (pts.map ptD), .int x, liD (acc ++ hd2 pts x a pre), .int a, e4', e5', e6']) (Q := fun o => ∃ e', o = .nx e' ∧ ∃ e4' e5' e6', e' = [.lst (pts.map ptD), .int x, liD (acc ++ hd2 pts x a (rangeI 0 a)), .int a, e4', e5', e6']) (by simp [rng1_of (n := a) (by omega) (by omega)]; rfl) rfl ⟨e4, e5, e6, by simp [hd2]⟩ ?_ fun e h => ⟨e, rfl, h⟩
    rintro pre b post e eq ⟨f4, f5, f6, rfl⟩
    have hb : 0 ≤ b ∧ b < a := mem_rangeI.mp (by rw [eq]; simp)
    have hpre := pre_le eq (rI_le (k := 10) (by omega))
    have hL : (acc ++ hd2 pts x a pre).length ≤ 90000 := by
      have := hd2_len pts x a (l := pre) fun b hb => by
        have : b ∈ rangeI 0 a := by rw [eq]; exact List.mem_append_left _ hb
        rw [mem_rangeI] at this
        omega
      rw [List.length_append]
      omega
    obtain ⟨g5, g6, w⟩ := L_hd1 n hp hl hx ha (b := b) (by omega) (acc ++ hd2 pts x a pre) hL f5 f6
    refine nx_step (e := [.lst (pts.map ptD), .int x, liD (acc ++ hd2 pts x a (pre ++ [b])), .int a, .int b, g5, g6]) ?_ ⟨_, _, _, rfl⟩
    have e1 : acc ++ hd2 pts x a (pre ++ [b]) = acc ++ hd2 pts x a pre ++ hd1 pts x a b (rangeI 0 b) := by simp [hd2]
    rw [e1]
    generalize acc ++ hd2 pts x a pre = L at *
    simp [w, -List.map_append]
  obtain ⟨e', q, e4', e5', e6', rfl⟩ := q
  exact ⟨e4', e5', e6', q⟩
theorem s_holders (n : Nat) {pts : List Pt} (hp : ∀ p ∈ pts, Pb p) (hl : pts.length ≤ 10) {x : Int} (hx : 0 ≤ x ∧ x < pts.length) :
    vC (P.ctx (n + 3)) f_law_holders [.lst (pts.map ptD), .int x] = .ok (liD (hd3 pts x (rangeI 0 pts.length))) := by
  rw [run_law_holders, b_law_holders]
  have q : ∃ e', vS (P.ctx (n + 2)) none l_law_holders_3 [.lst (pts.map ptD), .int x, liD [], .un, .un, .un, .un] = .nx e' ∧ ∃ e3' e4' e5' e6', e' = [.lst (pts.map ptD), .int x, liD (hd3 pts x (rangeI 0 pts.length)), e3', e4', e5', e6'] := by
    rw [l_law_holders_3]
    refine for_wp (rangeI 0 pts.length) (h := D.int) (I := fun pre e => ∃ e3' e4' e5' e6', e = [.lst (pts.map ptD), .int x, liD (hd3 pts x pre), e3', e4', e5', e6']) (Q := fun o => ∃ e', o = .nx e' ∧ ∃ e3' e4' e5' e6', e' = [.lst (pts.map ptD), .int x, liD (hd3 pts x (rangeI 0 pts.length)), e3', e4', e5', e6']) (by simp [rng1_of (n := pts.length) (by omega) (by omega)]; rfl) rfl ⟨.un, .un, .un, .un, by simp [hd3]⟩ ?_ fun e h => ⟨e, rfl, h⟩
    rintro pre a post e eq ⟨f3, f4, f5, f6, rfl⟩
    have ha : 0 ≤ a ∧ a < pts.length := mem_rangeI.mp (by rw [eq]; simp)
    have hpre := pre_le eq (rI_le (k := 10) (by omega))
    have hL : (hd3 pts x pre).length ≤ 80000 := by
      have := hd3_len pts x (l := pre) fun b hb => by
        have : b ∈ rangeI 0 pts.length := by rw [eq]; exact List.mem_append_left _ hb
        rw [mem_rangeI] at this
        omega
      omega
    obtain ⟨g4, g5, g6, w⟩ := L_hd2 n hp hl hx ha (hd3 pts x pre) hL f4 f5 f6
    refine nx_step (e := [.lst (pts.map ptD), .int x, liD (hd3 pts x (pre ++ [a])), .int a, g4, g5, g6]) ?_ ⟨_, _, _, _, rfl⟩
    have e1 : hd3 pts x (pre ++ [a]) = hd3 pts x pre ++ hd2 pts x a (rangeI 0 a) := by simp [hd3]
    rw [e1]
    generalize hd3 pts x pre = L at *
    simp [w, -List.map_append]
  obtain ⟨e', q, e3', e4', e5', e6', rfl⟩ := q
  simp only [liD, List.map_nil] at q
  simp [q]
end PD.Law
end

section
set_option Elab.async false
set_option linter.all false
set_option maxRecDepth 100000
set_option maxHeartbeats 4000000
namespace PD.Law
open PySem L2 PD
/-! GS: spreading and gathering rows, length by length. -/
theorem sp_2 (a0 a1 : Int) : spreadL [a0, a1] = [(a0 * 1 + (a1 * 1 + 0)), (a1 * 1 + 0)] := by kernel_rfl
theorem su_2 (a0 a1 : Int) : sumsL [a0, a1] = [(a0 * 1 + (a1 * 0 + 0))] := by kernel_rfl
theorem ga_2 (a0 a1 : Int) : gathL [a0, a1] = [(1 * a0 + (-(1 * a1) + 0)), (1 * a1 + 0)] := by kernel_rfl
theorem sps_2 (a0 a1 : Int) (h : [a0, a1].reverse = [a0, a1]) : spreadL [a0, a1] = [a0, a1].sum :: sumsL [a0, a1] := by
  simp only [List.reverse_cons, List.reverse_nil, List.nil_append, List.cons_append, List.cons.injEq, and_true] at h
  rw [sp_2, su_2]
  simp only [List.sum_cons, List.sum_nil, List.cons.injEq, and_true]
  refine ⟨?_, ?_⟩ <;> omega
theorem gas_2 (a0 a1 : Int) : gathL (spreadL [a0, a1]) = [a0, a1] := by
  rw [sp_2, ga_2]
  simp only [List.cons.injEq, and_true]
  refine ⟨?_, ?_⟩ <;> omega
theorem sp_3 (a0 a1 a2 : Int) : spreadL [a0, a1, a2] = [(a0 * 1 + (a1 * 1 + (a2 * 1 + 0))), (a1 * 1 + (a2 * 2 + 0)), (a2 * 1 + 0)] := by kernel_rfl
theorem su_3 (a0 a1 a2 : Int) : sumsL [a0, a1, a2] = [(a0 * 2 + (a1 * 1 + (a2 * 0 + 0))), (a0 * 1 + (a1 * 0 + (a2 * 0 + 0)))] := by kernel_rfl
theorem ga_3 (a0 a1 a2 : Int) : gathL [a0, a1, a2] = [(1 * a0 + (-(1 * a1) + (1 * a2 + 0))), (1 * a1 + (-(2 * a2) + 0)), (1 * a2 + 0)] := by kernel_rfl
theorem sps_3 (a0 a1 a2 : Int) (h : [a0, a1, a2].reverse = [a0, a1, a2]) : spreadL [a0, a1, a2] = [a0, a1, a2].sum :: sumsL [a0, a1, a2] := by
  simp only [List.reverse_cons, List.reverse_nil, List.nil_append, List.cons_append, List.cons.injEq, and_true] at h
  rw [sp_3, su_3]
  simp only [List.sum_cons, List.sum_nil, List.cons.injEq, and_true]
  refine ⟨?_, ?_, ?_⟩ <;> omega
theorem gas_3 (a0 a1 a2 : Int) : gathL (spreadL [a0, a1, a2]) = [a0, a1, a2] := by
  rw [sp_3, ga_3]
  simp only [List.cons.injEq, and_true]
  refine ⟨?_, ?_, ?_⟩ <;> omega
theorem sp_4 (a0 a1 a2 a3 : Int) : spreadL [a0, a1, a2, a3] = [(a0 * 1 + (a1 * 1 + (a2 * 1 + (a3 * 1 + 0)))), (a1 * 1 + (a2 * 2 + (a3 * 3 + 0))), (a2 * 1 + (a3 * 3 + 0)), (a3 * 1 + 0)] := by kernel_rfl
theorem su_4 (a0 a1 a2 a3 : Int) : sumsL [a0, a1, a2, a3] = [(a0 * 3 + (a1 * 2 + (a2 * 1 + (a3 * 0 + 0)))), (a0 * 3 + (a1 * 1 + (a2 * 0 + (a3 * 0 + 0)))), (a0 * 1 + (a1 * 0 + (a2 * 0 + (a3 * 0 + 0))))] := by kernel_rfl
theorem ga_4 (a0 a1 a2 a3 : Int) : gathL [a0, a1, a2, a3] = [(1 * a0 + (-(1 * a1) + (1 * a2 + (-(1 * a3) + 0)))), (1 * a1 + (-(2 * a2) + (3 * a3 + 0))), (1 * a2 + (-(3 * a3) + 0)), (1 * a3 + 0)] := by kernel_rfl
theorem sps_4 (a0 a1 a2 a3 : Int) (h : [a0, a1, a2, a3].reverse = [a0, a1, a2, a3]) : spreadL [a0, a1, a2, a3] = [a0, a1, a2, a3].sum :: sumsL [a0, a1, a2, a3] := by
  simp only [List.reverse_cons, List.reverse_nil, List.nil_append, List.cons_append, List.cons.injEq, and_true] at h
  rw [sp_4, su_4]
  simp only [List.sum_cons, List.sum_nil, List.cons.injEq, and_true]
  refine ⟨?_, ?_, ?_, ?_⟩ <;> omega
theorem gas_4 (a0 a1 a2 a3 : Int) : gathL (spreadL [a0, a1, a2, a3]) = [a0, a1, a2, a3] := by
  rw [sp_4, ga_4]
  simp only [List.cons.injEq, and_true]
  refine ⟨?_, ?_, ?_, ?_⟩ <;> omega
theorem sp_5 (a0 a1 a2 a3 a4 : Int) : spreadL [a0, a1, a2, a3, a4] = [(a0 * 1 + (a1 * 1 + (a2 * 1 + (a3 * 1 + (a4 * 1 + 0))))), (a1 * 1 + (a2 * 2 + (a3 * 3 + (a4 * 4 + 0)))), (a2 * 1 + (a3 * 3 + (a4 * 6 + 0))), (a3 * 1 + (a4 * 4 + 0)), (a4 * 1 + 0)] := by kernel_rfl
theorem su_5 (a0 a1 a2 a3 a4 : Int) : sumsL [a0, a1, a2, a3, a4] = [(a0 * 4 + (a1 * 3 + (a2 * 2 + (a3 * 1 + (a4 * 0 + 0))))), (a0 * 6 + (a1 * 3 + (a2 * 1 + (a3 * 0 + (a4 * 0 + 0))))), (a0 * 4 + (a1 * 1 + (a2 * 0 + (a3 * 0 + (a4 * 0 + 0))))), (a0 * 1 + (a1 * 0 + (a2 * 0 + (a3 * 0 + (a4 * 0 + 0)))))] := by kernel_rfl
theorem ga_5 (a0 a1 a2 a3 a4 : Int) : gathL [a0, a1, a2, a3, a4] = [(1 * a0 + (-(1 * a1) + (1 * a2 + (-(1 * a3) + (1 * a4 + 0))))), (1 * a1 + (-(2 * a2) + (3 * a3 + (-(4 * a4) + 0)))), (1 * a2 + (-(3 * a3) + (6 * a4 + 0))), (1 * a3 + (-(4 * a4) + 0)), (1 * a4 + 0)] := by kernel_rfl
theorem sps_5 (a0 a1 a2 a3 a4 : Int) (h : [a0, a1, a2, a3, a4].reverse = [a0, a1, a2, a3, a4]) : spreadL [a0, a1, a2, a3, a4] = [a0, a1, a2, a3, a4].sum :: sumsL [a0, a1, a2, a3, a4] := by
  simp only [List.reverse_cons, List.reverse_nil, List.nil_append, List.cons_append, List.cons.injEq, and_true] at h
  rw [sp_5, su_5]
  simp only [List.sum_cons, List.sum_nil, List.cons.injEq, and_true]
  refine ⟨?_, ?_, ?_, ?_, ?_⟩ <;> omega
theorem gas_5 (a0 a1 a2 a3 a4 : Int) : gathL (spreadL [a0, a1, a2, a3, a4]) = [a0, a1, a2, a3, a4] := by
  rw [sp_5, ga_5]
  simp only [List.cons.injEq, and_true]
  refine ⟨?_, ?_, ?_, ?_, ?_⟩ <;> omega
theorem sp_6 (a0 a1 a2 a3 a4 a5 : Int) : spreadL [a0, a1, a2, a3, a4, a5] = [(a0 * 1 + (a1 * 1 + (a2 * 1 + (a3 * 1 + (a4 * 1 + (a5 * 1 + 0)))))), (a1 * 1 + (a2 * 2 + (a3 * 3 + (a4 * 4 + (a5 * 5 + 0))))), (a2 * 1 + (a3 * 3 + (a4 * 6 + (a5 * 10 + 0)))), (a3 * 1 + (a4 * 4 + (a5 * 10 + 0))), (a4 * 1 + (a5 * 5 + 0)), (a5 * 1 + 0)] := by kernel_rfl
theorem su_6 (a0 a1 a2 a3 a4 a5 : Int) : sumsL [a0, a1, a2, a3, a4, a5] = [(a0 * 5 + (a1 * 4 + (a2 * 3 + (a3 * 2 + (a4 * 1 + (a5 * 0 + 0)))))), (a0 * 10 + (a1 * 6 + (a2 * 3 + (a3 * 1 + (a4 * 0 + (a5 * 0 + 0)))))), (a0 * 10 + (a1 * 4 + (a2 * 1 + (a3 * 0 + (a4 * 0 + (a5 * 0 + 0)))))), (a0 * 5 + (a1 * 1 + (a2 * 0 + (a3 * 0 + (a4 * 0 + (a5 * 0 + 0)))))), (a0 * 1 + (a1 * 0 + (a2 * 0 + (a3 * 0 + (a4 * 0 + (a5 * 0 + 0))))))] := by kernel_rfl
theorem ga_6 (a0 a1 a2 a3 a4 a5 : Int) : gathL [a0, a1, a2, a3, a4, a5] = [(1 * a0 + (-(1 * a1) + (1 * a2 + (-(1 * a3) + (1 * a4 + (-(1 * a5) + 0)))))), (1 * a1 + (-(2 * a2) + (3 * a3 + (-(4 * a4) + (5 * a5 + 0))))), (1 * a2 + (-(3 * a3) + (6 * a4 + (-(10 * a5) + 0)))), (1 * a3 + (-(4 * a4) + (10 * a5 + 0))), (1 * a4 + (-(5 * a5) + 0)), (1 * a5 + 0)] := by kernel_rfl
theorem sps_6 (a0 a1 a2 a3 a4 a5 : Int) (h : [a0, a1, a2, a3, a4, a5].reverse = [a0, a1, a2, a3, a4, a5]) : spreadL [a0, a1, a2, a3, a4, a5] = [a0, a1, a2, a3, a4, a5].sum :: sumsL [a0, a1, a2, a3, a4, a5] := by
  simp only [List.reverse_cons, List.reverse_nil, List.nil_append, List.cons_append, List.cons.injEq, and_true] at h
  rw [sp_6, su_6]
  simp only [List.sum_cons, List.sum_nil, List.cons.injEq, and_true]
  refine ⟨?_, ?_, ?_, ?_, ?_, ?_⟩ <;> omega
theorem gas_6 (a0 a1 a2 a3 a4 a5 : Int) : gathL (spreadL [a0, a1, a2, a3, a4, a5]) = [a0, a1, a2, a3, a4, a5] := by
  rw [sp_6, ga_6]
  simp only [List.cons.injEq, and_true]
  refine ⟨?_, ?_, ?_, ?_, ?_, ?_⟩ <;> omega
theorem sp_7 (a0 a1 a2 a3 a4 a5 a6 : Int) : spreadL [a0, a1, a2, a3, a4, a5, a6] = [(a0 * 1 + (a1 * 1 + (a2 * 1 + (a3 * 1 + (a4 * 1 + (a5 * 1 + (a6 * 1 + 0))))))), (a1 * 1 + (a2 * 2 + (a3 * 3 + (a4 * 4 + (a5 * 5 + (a6 * 6 + 0)))))), (a2 * 1 + (a3 * 3 + (a4 * 6 + (a5 * 10 + (a6 * 15 + 0))))), (a3 * 1 + (a4 * 4 + (a5 * 10 + (a6 * 20 + 0)))), (a4 * 1 + (a5 * 5 + (a6 * 15 + 0))), (a5 * 1 + (a6 * 6 + 0)), (a6 * 1 + 0)] := by kernel_rfl
theorem su_7 (a0 a1 a2 a3 a4 a5 a6 : Int) : sumsL [a0, a1, a2, a3, a4, a5, a6] = [(a0 * 6 + (a1 * 5 + (a2 * 4 + (a3 * 3 + (a4 * 2 + (a5 * 1 + (a6 * 0 + 0))))))), (a0 * 15 + (a1 * 10 + (a2 * 6 + (a3 * 3 + (a4 * 1 + (a5 * 0 + (a6 * 0 + 0))))))), (a0 * 20 + (a1 * 10 + (a2 * 4 + (a3 * 1 + (a4 * 0 + (a5 * 0 + (a6 * 0 + 0))))))), (a0 * 15 + (a1 * 5 + (a2 * 1 + (a3 * 0 + (a4 * 0 + (a5 * 0 + (a6 * 0 + 0))))))), (a0 * 6 + (a1 * 1 + (a2 * 0 + (a3 * 0 + (a4 * 0 + (a5 * 0 + (a6 * 0 + 0))))))), (a0 * 1 + (a1 * 0 + (a2 * 0 + (a3 * 0 + (a4 * 0 + (a5 * 0 + (a6 * 0 + 0)))))))] := by kernel_rfl
theorem ga_7 (a0 a1 a2 a3 a4 a5 a6 : Int) : gathL [a0, a1, a2, a3, a4, a5, a6] = [(1 * a0 + (-(1 * a1) + (1 * a2 + (-(1 * a3) + (1 * a4 + (-(1 * a5) + (1 * a6 + 0))))))), (1 * a1 + (-(2 * a2) + (3 * a3 + (-(4 * a4) + (5 * a5 + (-(6 * a6) + 0)))))), (1 * a2 + (-(3 * a3) + (6 * a4 + (-(10 * a5) + (15 * a6 + 0))))), (1 * a3 + (-(4 * a4) + (10 * a5 + (-(20 * a6) + 0)))), (1 * a4 + (-(5 * a5) + (15 * a6 + 0))), (1 * a5 + (-(6 * a6) + 0)), (1 * a6 + 0)] := by kernel_rfl
theorem sps_7 (a0 a1 a2 a3 a4 a5 a6 : Int) (h : [a0, a1, a2, a3, a4, a5, a6].reverse = [a0, a1, a2, a3, a4, a5, a6]) : spreadL [a0, a1, a2, a3, a4, a5, a6] = [a0, a1, a2, a3, a4, a5, a6].sum :: sumsL [a0, a1, a2, a3, a4, a5, a6] := by
  simp only [List.reverse_cons, List.reverse_nil, List.nil_append, List.cons_append, List.cons.injEq, and_true] at h
  rw [sp_7, su_7]
  simp only [List.sum_cons, List.sum_nil, List.cons.injEq, and_true]
  refine ⟨?_, ?_, ?_, ?_, ?_, ?_, ?_⟩ <;> omega
theorem gas_7 (a0 a1 a2 a3 a4 a5 a6 : Int) : gathL (spreadL [a0, a1, a2, a3, a4, a5, a6]) = [a0, a1, a2, a3, a4, a5, a6] := by
  rw [sp_7, ga_7]
  simp only [List.cons.injEq, and_true]
  refine ⟨?_, ?_, ?_, ?_, ?_, ?_, ?_⟩ <;> omega
theorem sp_8 (a0 a1 a2 a3 a4 a5 a6 a7 : Int) : spreadL [a0, a1, a2, a3, a4, a5, a6, a7] = [(a0 * 1 + (a1 * 1 + (a2 * 1 + (a3 * 1 + (a4 * 1 + (a5 * 1 + (a6 * 1 + (a7 * 1 + 0)))))))), (a1 * 1 + (a2 * 2 + (a3 * 3 + (a4 * 4 + (a5 * 5 + (a6 * 6 + (a7 * 7 + 0))))))), (a2 * 1 + (a3 * 3 + (a4 * 6 + (a5 * 10 + (a6 * 15 + (a7 * 21 + 0)))))), (a3 * 1 + (a4 * 4 + (a5 * 10 + (a6 * 20 + (a7 * 35 + 0))))), (a4 * 1 + (a5 * 5 + (a6 * 15 + (a7 * 35 + 0)))), (a5 * 1 + (a6 * 6 + (a7 * 21 + 0))), (a6 * 1 + (a7 * 7 + 0)), (a7 * 1 + 0)] := by kernel_rfl
theorem su_8 (a0 a1 a2 a3 a4 a5 a6 a7 : Int) : sumsL [a0, a1, a2, a3, a4, a5, a6, a7] = [(a0 * 7 + (a1 * 6 + (a2 * 5 + (a3 * 4 + (a4 * 3 + (a5 * 2 + (a6 * 1 + (a7 * 0 + 0)))))))), (a0 * 21 + (a1 * 15 + (a2 * 10 + (a3 * 6 + (a4 * 3 + (a5 * 1 + (a6 * 0 + (a7 * 0 + 0)))))))), (a0 * 35 + (a1 * 20 + (a2 * 10 + (a3 * 4 + (a4 * 1 + (a5 * 0 + (a6 * 0 + (a7 * 0 + 0)))))))), (a0 * 35 + (a1 * 15 + (a2 * 5 + (a3 * 1 + (a4 * 0 + (a5 * 0 + (a6 * 0 + (a7 * 0 + 0)))))))), (a0 * 21 + (a1 * 6 + (a2 * 1 + (a3 * 0 + (a4 * 0 + (a5 * 0 + (a6 * 0 + (a7 * 0 + 0)))))))), (a0 * 7 + (a1 * 1 + (a2 * 0 + (a3 * 0 + (a4 * 0 + (a5 * 0 + (a6 * 0 + (a7 * 0 + 0)))))))), (a0 * 1 + (a1 * 0 + (a2 * 0 + (a3 * 0 + (a4 * 0 + (a5 * 0 + (a6 * 0 + (a7 * 0 + 0))))))))] := by kernel_rfl
theorem ga_8 (a0 a1 a2 a3 a4 a5 a6 a7 : Int) : gathL [a0, a1, a2, a3, a4, a5, a6, a7] = [(1 * a0 + (-(1 * a1) + (1 * a2 + (-(1 * a3) + (1 * a4 + (-(1 * a5) + (1 * a6 + (-(1 * a7) + 0)))))))), (1 * a1 + (-(2 * a2) + (3 * a3 + (-(4 * a4) + (5 * a5 + (-(6 * a6) + (7 * a7 + 0))))))), (1 * a2 + (-(3 * a3) + (6 * a4 + (-(10 * a5) + (15 * a6 + (-(21 * a7) + 0)))))), (1 * a3 + (-(4 * a4) + (10 * a5 + (-(20 * a6) + (35 * a7 + 0))))), (1 * a4 + (-(5 * a5) + (15 * a6 + (-(35 * a7) + 0)))), (1 * a5 + (-(6 * a6) + (21 * a7 + 0))), (1 * a6 + (-(7 * a7) + 0)), (1 * a7 + 0)] := by kernel_rfl
theorem sps_8 (a0 a1 a2 a3 a4 a5 a6 a7 : Int) (h : [a0, a1, a2, a3, a4, a5, a6, a7].reverse = [a0, a1, a2, a3, a4, a5, a6, a7]) : spreadL [a0, a1, a2, a3, a4, a5, a6, a7] = [a0, a1, a2, a3, a4, a5, a6, a7].sum :: sumsL [a0, a1, a2, a3, a4, a5, a6, a7] := by
  simp only [List.reverse_cons, List.reverse_nil, List.nil_append, List.cons_append, List.cons.injEq, and_true] at h
  rw [sp_8, su_8]
  simp only [List.sum_cons, List.sum_nil, List.cons.injEq, and_true]
  refine ⟨?_, ?_, ?_, ?_, ?_, ?_, ?_, ?_⟩ <;> omega
theorem gas_8 (a0 a1 a2 a3 a4 a5 a6 a7 : Int) : gathL (spreadL [a0, a1, a2, a3, a4, a5, a6, a7]) = [a0, a1, a2, a3, a4, a5, a6, a7] := by
  rw [sp_8, ga_8]
  simp only [List.cons.injEq, and_true]
  refine ⟨?_, ?_, ?_, ?_, ?_, ?_, ?_, ?_⟩ <;> omega
theorem sp_9 (a0 a1 a2 a3 a4 a5 a6 a7 a8 : Int) : spreadL [a0, a1, a2, a3, a4, a5, a6, a7, a8] = [(a0 * 1 + (a1 * 1 + (a2 * 1 + (a3 * 1 + (a4 * 1 + (a5 * 1 + (a6 * 1 + (a7 * 1 + (a8 * 1 + 0))))))))), (a1 * 1 + (a2 * 2 + (a3 * 3 + (a4 * 4 + (a5 * 5 + (a6 * 6 + (a7 * 7 + (a8 * 8 + 0)))))))), (a2 * 1 + (a3 * 3 + (a4 * 6 + (a5 * 10 + (a6 * 15 + (a7 * 21 + (a8 * 28 + 0))))))), (a3 * 1 + (a4 * 4 + (a5 * 10 + (a6 * 20 + (a7 * 35 + (a8 * 56 + 0)))))), (a4 * 1 + (a5 * 5 + (a6 * 15 + (a7 * 35 + (a8 * 70 + 0))))), (a5 * 1 + (a6 * 6 + (a7 * 21 + (a8 * 56 + 0)))), (a6 * 1 + (a7 * 7 + (a8 * 28 + 0))), (a7 * 1 + (a8 * 8 + 0)), (a8 * 1 + 0)] := by kernel_rfl
theorem su_9 (a0 a1 a2 a3 a4 a5 a6 a7 a8 : Int) : sumsL [a0, a1, a2, a3, a4, a5, a6, a7, a8] = [(a0 * 8 + (a1 * 7 + (a2 * 6 + (a3 * 5 + (a4 * 4 + (a5 * 3 + (a6 * 2 + (a7 * 1 + (a8 * 0 + 0))))))))), (a0 * 28 + (a1 * 21 + (a2 * 15 + (a3 * 10 + (a4 * 6 + (a5 * 3 + (a6 * 1 + (a7 * 0 + (a8 * 0 + 0))))))))), (a0 * 56 + (a1 * 35 + (a2 * 20 + (a3 * 10 + (a4 * 4 + (a5 * 1 + (a6 * 0 + (a7 * 0 + (a8 * 0 + 0))))))))), (a0 * 70 + (a1 * 35 + (a2 * 15 + (a3 * 5 + (a4 * 1 + (a5 * 0 + (a6 * 0 + (a7 * 0 + (a8 * 0 + 0))))))))), (a0 * 56 + (a1 * 21 + (a2 * 6 + (a3 * 1 + (a4 * 0 + (a5 * 0 + (a6 * 0 + (a7 * 0 + (a8 * 0 + 0))))))))), (a0 * 28 + (a1 * 7 + (a2 * 1 + (a3 * 0 + (a4 * 0 + (a5 * 0 + (a6 * 0 + (a7 * 0 + (a8 * 0 + 0))))))))), (a0 * 8 + (a1 * 1 + (a2 * 0 + (a3 * 0 + (a4 * 0 + (a5 * 0 + (a6 * 0 + (a7 * 0 + (a8 * 0 + 0))))))))), (a0 * 1 + (a1 * 0 + (a2 * 0 + (a3 * 0 + (a4 * 0 + (a5 * 0 + (a6 * 0 + (a7 * 0 + (a8 * 0 + 0)))))))))] := by kernel_rfl
theorem ga_9 (a0 a1 a2 a3 a4 a5 a6 a7 a8 : Int) : gathL [a0, a1, a2, a3, a4, a5, a6, a7, a8] = [(1 * a0 + (-(1 * a1) + (1 * a2 + (-(1 * a3) + (1 * a4 + (-(1 * a5) + (1 * a6 + (-(1 * a7) + (1 * a8 + 0))))))))), (1 * a1 + (-(2 * a2) + (3 * a3 + (-(4 * a4) + (5 * a5 + (-(6 * a6) + (7 * a7 + (-(8 * a8) + 0)))))))), (1 * a2 + (-(3 * a3) + (6 * a4 + (-(10 * a5) + (15 * a6 + (-(21 * a7) + (28 * a8 + 0))))))), (1 * a3 + (-(4 * a4) + (10 * a5 + (-(20 * a6) + (35 * a7 + (-(56 * a8) + 0)))))), (1 * a4 + (-(5 * a5) + (15 * a6 + (-(35 * a7) + (70 * a8 + 0))))), (1 * a5 + (-(6 * a6) + (21 * a7 + (-(56 * a8) + 0)))), (1 * a6 + (-(7 * a7) + (28 * a8 + 0))), (1 * a7 + (-(8 * a8) + 0)), (1 * a8 + 0)] := by kernel_rfl
theorem sps_9 (a0 a1 a2 a3 a4 a5 a6 a7 a8 : Int) (h : [a0, a1, a2, a3, a4, a5, a6, a7, a8].reverse = [a0, a1, a2, a3, a4, a5, a6, a7, a8]) : spreadL [a0, a1, a2, a3, a4, a5, a6, a7, a8] = [a0, a1, a2, a3, a4, a5, a6, a7, a8].sum :: sumsL [a0, a1, a2, a3, a4, a5, a6, a7, a8] := by
  simp only [List.reverse_cons, List.reverse_nil, List.nil_append, List.cons_append, List.cons.injEq, and_true] at h
  rw [sp_9, su_9]
  simp only [List.sum_cons, List.sum_nil, List.cons.injEq, and_true]
  refine ⟨?_, ?_, ?_, ?_, ?_, ?_, ?_, ?_, ?_⟩ <;> omega
theorem gas_9 (a0 a1 a2 a3 a4 a5 a6 a7 a8 : Int) : gathL (spreadL [a0, a1, a2, a3, a4, a5, a6, a7, a8]) = [a0, a1, a2, a3, a4, a5, a6, a7, a8] := by
  rw [sp_9, ga_9]
  simp only [List.cons.injEq, and_true]
  refine ⟨?_, ?_, ?_, ?_, ?_, ?_, ?_, ?_, ?_⟩ <;> omega
theorem spread_sums {r : List Int} (h1 : 2 ≤ r.length) (h2 : r.length ≤ 9) (h : r.reverse = r) : spreadL r = r.sum :: sumsL r := by
  match r, h1, h2, h with
  | [a0, a1], _, _, h => exact sps_2 a0 a1 h
  | [a0, a1, a2], _, _, h => exact sps_3 a0 a1 a2 h
  | [a0, a1, a2, a3], _, _, h => exact sps_4 a0 a1 a2 a3 h
  | [a0, a1, a2, a3, a4], _, _, h => exact sps_5 a0 a1 a2 a3 a4 h
  | [a0, a1, a2, a3, a4, a5], _, _, h => exact sps_6 a0 a1 a2 a3 a4 a5 h
  | [a0, a1, a2, a3, a4, a5, a6], _, _, h => exact sps_7 a0 a1 a2 a3 a4 a5 a6 h
  | [a0, a1, a2, a3, a4, a5, a6, a7], _, _, h => exact sps_8 a0 a1 a2 a3 a4 a5 a6 a7 h
  | [a0, a1, a2, a3, a4, a5, a6, a7, a8], _, _, h => exact sps_9 a0 a1 a2 a3 a4 a5 a6 a7 a8 h
  | [], h1, _, _ => exact absurd h1 (by decide)
  | [_], h1, _, _ => exact absurd h1 (by show ¬ 2 ≤ 1; decide)
  | _ :: _ :: _ :: _ :: _ :: _ :: _ :: _ :: _ :: _ :: _, _, h2, _ => exact absurd h2 (by simp only [List.length_cons]; omega)
theorem gather_spread {r : List Int} (h1 : 2 ≤ r.length) (h2 : r.length ≤ 9) : gathL (spreadL r) = r := by
  match r, h1, h2 with
  | [a0, a1], _, _ => exact gas_2 a0 a1
  | [a0, a1, a2], _, _ => exact gas_3 a0 a1 a2
  | [a0, a1, a2, a3], _, _ => exact gas_4 a0 a1 a2 a3
  | [a0, a1, a2, a3, a4], _, _ => exact gas_5 a0 a1 a2 a3 a4
  | [a0, a1, a2, a3, a4, a5], _, _ => exact gas_6 a0 a1 a2 a3 a4 a5
  | [a0, a1, a2, a3, a4, a5, a6], _, _ => exact gas_7 a0 a1 a2 a3 a4 a5 a6
  | [a0, a1, a2, a3, a4, a5, a6, a7], _, _ => exact gas_8 a0 a1 a2 a3 a4 a5 a6 a7
  | [a0, a1, a2, a3, a4, a5, a6, a7, a8], _, _ => exact gas_9 a0 a1 a2 a3 a4 a5 a6 a7 a8
  | [], h1, _ => exact absurd h1 (by decide)
  | [_], h1, _ => exact absurd h1 (by show ¬ 2 ≤ 1; decide)
  | _ :: _ :: _ :: _ :: _ :: _ :: _ :: _ :: _ :: _ :: _, _, h2 => exact absurd h2 (by simp only [List.length_cons]; omega)
end PD.Law
end

section
set_option Elab.async false
set_option linter.all false
set_option maxRecDepth 100000
set_option maxHeartbeats 1000000
namespace PD.Law
open PySem L2 PD
/-! W10c: counted. -/
def bitsOf (m k : Int) : List Int := (rangeI 0 m).filter fun j => decide (((k / 2 ^ j.toNat).toNat &&& 1 : Nat) = 1)
theorem bits_len (m : Nat) (k : Int) : (bitsOf m k).length ≤ m := by
  unfold bitsOf
  refine Nat.le_trans (List.length_filter_le _ _) ?_
  rw [rangeI_length]
  omega
theorem rangeI_at {lo hi j : Int} (h : 0 ≤ j ∧ j < hi - lo) : (rangeI lo hi)[j.toNat]? = some (lo + j) := by
  unfold rangeI
  rw [List.getElem?_map, List.getElem?_range (by omega)]
  show some (lo + (j.toNat : Nat)) = _
  congr 1
  omega
def heldL (pts : List Pt) (T k : Int) : List Int := (hd3 pts k (rangeI 0 pts.length)).filter fun m => decide (((m.toNat &&& T.toNat : Nat) : Int) = m)
def crn (pts : List Pt) (T k : Int) : Nat := if heldL pts T k = [] then 1 else 0
def cL (m : Nat) (f : Nat → Nat) : List Int := (rangeI 0 ((m : Int) + 1)).map fun s => ((f s.toNat : Nat) : Int)
theorem cL_len (m f) : (cL m f).length = m + 1 := by
  unfold cL
  rw [List.length_map, rangeI_length]
  omega
theorem cL_get {m f} {j : Nat} (h : j ≤ m) : (cL m f)[j]? = some ((f j : Nat) : Int) := by
  unfold cL
  have := rangeI_at (lo := 0) (hi := (m : Int) + 1) (j := (j : Nat)) (by omega)
  rw [Int.toNat_natCast] at this
  rw [List.getElem?_map, this]
  simp
theorem cL_set {m : Nat} {f : Nat → Nat} {j d : Nat} (h : j ≤ m) : (cL m f).set j (((f j : Nat) : Int) + ((d : Nat) : Int)) = cL m (fun s => f s + if s = j then d else 0) := by
  refine List.ext_getElem? fun i => ?_
  rw [List.getElem?_set]
  by_cases hi : i ≤ m
  · rw [cL_get hi, cL_get hi, cL_len]
    by_cases hij : j = i
    · subst hij
      rw [if_pos rfl, if_pos (by omega), if_pos rfl, Int.natCast_add]
    · rw [if_neg hij, if_neg (Ne.symm hij), Nat.add_zero]
  · rw [List.getElem?_eq_none (by rw [cL_len]; omega), List.getElem?_eq_none (by rw [cL_len]; omega), cL_len]
    by_cases hij : j = i
    · omega
    · rw [if_neg hij]
theorem hd_pos (pts x l) : ∀ m ∈ hd3 pts x l, 0 ≤ m := by
  intro m hm
  unfold hd3 hd2 hd1 at hm
  simp only [List.mem_flatMap] at hm
  obtain ⟨a, _, b, _, c, _, hm⟩ := hm
  split at hm
  · rw [List.mem_singleton] at hm
    subst hm
    unfold msk
    have h1 : (0 : Int) ≤ 2 ^ a.toNat := Int.pow_nonneg (by decide)
    have h2 : (0 : Int) ≤ 2 ^ b.toNat := Int.pow_nonneg (by decide)
    have h3 : (0 : Int) ≤ 2 ^ c.toNat := Int.pow_nonneg (by decide)
    omega
  · cases hm
abbrev arD (pts : List Pt) : D := .lst ((rangeI 0 pts.length).map fun x => liD (hd3 pts x (rangeI 0 pts.length)))
theorem E_around (n : Nat) {pts : List Pt} (hp : ∀ p ∈ pts, Pb p) (hl : pts.length ≤ 10) (x y z u v w i j : D) : vE (P.ctx (n + 3)) none e_law_counted_1 [.lst (pts.map ptD), .int pts.length, x, y, z, u, v, w, i, j] = .ok (arD pts) := by
  rw [e_law_counted_1, comp_of (h := D.int) (xs := rangeI 0 pts.length) (g := fun x => [liD (hd3 pts x (rangeI 0 pts.length))]) (by simp [rng1_of (n := (pts.length : Int)) (by omega) (by omega)]; rfl) rfl ?_ ?_]
  · rw [← List.map_eq_flatMap]
  · intro k hk
    rw [mem_rangeI] at hk
    have h := s_holders n hp hl hk
    simp [h]
  · rw [← List.map_eq_flatMap, List.length_map, rangeI_length]
    omega
theorem E_bits (n : Nat) (m : Nat) (hm : m ≤ 10) {T : Int} (hT : 0 ≤ T) (x y z u v w i j : D) : vE (P.ctx n) none e_law_counted_2 [x, .int m, y, z, .int T, u, v, w, i, j] = .ok (liD (bitsOf m T)) := by
  rw [e_law_counted_2, comp_of (h := D.int) (xs := rangeI 0 m) (g := fun j => if ((T / 2 ^ j.toNat).toNat &&& 1 : Nat) = 1 then [D.int j] else []) (by simp [rng1_of (n := (m : Int)) (by omega) (by omega)]; rfl) rfl ?_ ?_, fm_filter]
  · rfl
  · intro j hj
    rw [mem_rangeI] at hj
    have b1 := bin_shr (a := T) hj.1
    have h20 : (0 : Int) ≤ 2 ^ j.toNat := Int.pow_nonneg (by decide)
    have hq := Int.ediv_nonneg hT h20
    have b2 := bin_band (a := T / 2 ^ j.toNat) (b := 1) hq (by decide)
    simp [b1, b2]
    generalize T / 2 ^ j.toNat = u at *
    by_cases h6 : u.toNat % 2 = 1
    · rw [if_pos h6, if_pos (by omega)]
    · rw [if_neg h6, if_neg (by omega)]
  · rw [fm_filter, List.length_map]
    have := bits_len m T
    unfold bitsOf at this
    omega
theorem E_held (n : Nat) {pts : List Pt} (hl : pts.length ≤ 10) {T k : Int} (hT : 0 ≤ T) (hk : 0 ≤ k ∧ k < pts.length) (x y z u v w i : D) : vE (P.ctx n) none e_law_counted_3 [x, y, arD pts, z, .int T, u, .int k, v, w, i] = .ok (liD (heldL pts T k)) := by
  have it : itemO (arD pts) (.int k) = .ok (liD (hd3 pts k (rangeI 0 pts.length))) := item_map (f := fun x => liD (hd3 pts x (rangeI 0 pts.length))) hk.1 (by
    have := rangeI_at (lo := 0) (hi := pts.length) (j := k) (by omega)
    rw [Int.zero_add] at this
    exact this)
  have hpos := hd_pos pts k (rangeI 0 pts.length)
  have hlen := hd3_len pts k (l := rangeI 0 pts.length) fun b hb => by rw [mem_rangeI] at hb; omega
  rw [rangeI_length] at hlen
  unfold heldL
  generalize hd3 pts k (rangeI 0 pts.length) = H at *
  have hrd : rd (arD pts) = .ok (arD pts) := by simp
  generalize arD pts = AD at *
  rw [e_law_counted_3, comp_of (h := D.int) (xs := H) (g := fun m => if ((m.toNat &&& T.toNat : Nat) : Int) = m then [D.int m] else []) (s := liD H) ?_ rfl ?_ ?_, fm_filter]
  · simp [hrd, it]
  · intro m hm
    have b2 := bin_band (a := m) (b := T) (hpos m hm) hT
    have e := eqD_int ((m.toNat &&& T.toNat : Nat) : Int) m
    by_cases h6 : ((m.toNat &&& T.toNat : Nat) : Int) = m
    · rw [h6] at b2
      simp [b2, h6]
    · rw [decide_eq_false h6] at e
      simp [-eqD_int, b2, e, h6]
  · rw [fm_filter, List.length_map]
    exact Nat.le_trans (List.length_filter_le _ _) (by omega)
theorem L_cnt4 (n : Nat) {pts : List Pt} (hl : pts.length ≤ 10) {T : Int} (hT : 0 ≤ T) {nb : List Int} (hnb : ∀ k ∈ nb, 0 ≤ k ∧ k < pts.length) (hnl : nb.length ≤ pts.length) (f : Nat → Nat) (x e6 e7 e8 e9 : D) :
    ∃ e6' e8', vS (P.ctx n) none l_law_counted_4 [x, .int pts.length, arD pts, liD (cL pts.length f), .int T, liD nb, e6, e7, e8, e9] = .nx [x, .int pts.length, arD pts, liD (cL pts.length fun s => f s + if s = nb.length then S nb (crn pts T) else 0), .int T, liD nb, e6', e7, e8', e9] := by
  have q : ∃ e', vS (P.ctx n) none l_law_counted_4 [x, .int pts.length, arD pts, liD (cL pts.length f), .int T, liD nb, e6, e7, e8, e9] = .nx e' ∧ ∃ e6' e8', e' = [x, .int pts.length, arD pts, liD (cL pts.length fun s => f s + if s = nb.length then S nb (crn pts T) else 0), .int T, liD nb, e6', e7, e8', e9] := by
    rw [l_law_counted_4]
    refine for_wp nb (h := D.int) (I := fun pre e => ∃ e6' e8', e = [x, .int pts.length, arD pts, liD (cL pts.length fun s => f s + if s = nb.length then S pre (crn pts T) else 0), .int T, liD nb, e6', e7, e8', e9]) (Q := fun o => ∃ e', o = .nx e' ∧ ∃ e6' e8', e' = [x, .int pts.length, arD pts, liD (cL pts.length fun s => f s + if s = nb.length then S nb (crn pts T) else 0), .int T, liD nb, e6', e7, e8', e9]) (by simp; rfl) rfl ⟨e6, e8, by simp⟩ ?_ fun e h => ⟨e, rfl, h⟩
    rintro pre k post e eq ⟨f6, f8, rfl⟩
    have hk := hnb k (by rw [eq]; simp)
    have E := E_held n hl hT hk x (.int pts.length) (liD (cL pts.length fun s => f s + if s = nb.length then S pre (crn pts T) else 0)) (liD nb) e7 f8 e9
    have el := eq_lst_nil (heldL pts T k)
    have ec : (if heldL pts T k = [] then (1 : Int) else 0) = ((crn pts T k : Nat) : Int) := by
      unfold crn
      split <;> rfl
    have g1 := cL_get (m := pts.length) (f := fun s => f s + if s = nb.length then S pre (crn pts T) else 0) hnl
    have it := item_ints (j := (nb.length : Nat)) (by omega) (by rw [Int.toNat_natCast]; exact g1)
    have st := cL_set (m := pts.length) (f := fun s => f s + if s = nb.length then S pre (crn pts T) else 0) (d := crn pts T k) hnl
    have e1 : (cL pts.length fun s => f s + if s = nb.length then S (pre ++ [k]) (crn pts T) else 0) = cL pts.length fun s => (f s + if s = nb.length then S pre (crn pts T) else 0) + if s = nb.length then crn pts T k else 0 := by
      congr 1
      funext s
      rw [S_append]
      by_cases hs : s = nb.length
      · simp [hs]; omega
      · simp [hs]
    refine nx_step (e := [x, .int pts.length, arD pts, liD (cL pts.length fun s => f s + if s = nb.length then S (pre ++ [k]) (crn pts T) else 0), .int T, liD nb, .int k, e7, liD (heldL pts T k), e9]) ?_ ⟨_, _, rfl⟩
    rw [e1, ← st]
    have gl := cL_len pts.length fun s => f s + if s = nb.length then S pre (crn pts T) else 0
    generalize (cL pts.length fun s => f s + if s = nb.length then S pre (crn pts T) else 0) = C at *
    generalize (f nb.length + if nb.length = nb.length then S pre (crn pts T) else 0) = V at *
    have hrd : rd (arD pts) = .ok (arD pts) := by simp
    have pl := putL_of (env := [x, .int pts.length, arD pts, liD C, .int T, liD nb, .int k, e7, liD (heldL pts T k), e9]) (i := 3) (k := (nb.length : Nat)) (d := .int ((V : Int) + (crn pts T k : Nat))) rfl (by omega) (by rw [List.length_map, gl]; omega)
    rw [← List.map_set, Int.toNat_natCast] at pl
    generalize arD pts = AD at *
    generalize heldL pts T k = HL at *
    by_cases hh : HL = []
    · rw [decide_eq_true hh] at el
      rw [if_pos hh] at ec
      simp [E, el, it, ← ec] at pl ⊢
      rw [pl]
      simp [List.map_set]
    · rw [decide_eq_false hh] at el
      rw [if_neg hh] at ec
      simp [E, el, it, ← ec] at pl ⊢
      rw [pl]
      simp [List.map_set]
  obtain ⟨e', q, e6', e8', rfl⟩ := q
  exact ⟨e6', e8', q⟩
/-- how many corners, over the parts of each size -/
def cvF (pts : List Pt) (pre : List Int) (s : Nat) : Nat := S pre fun T => if s = (bitsOf pts.length T).length then S (bitsOf pts.length T) (crn pts T) else 0
theorem s_counted (n : Nat) {pts : List Pt} (hp : ∀ p ∈ pts, Pb p) (h3 : 3 ≤ pts.length) (hl : pts.length ≤ 8) :
    vC (P.ctx (n + 4)) f_law_counted [.lst (pts.map ptD)] = .ok (liD ((cL pts.length (cvF pts (rangeI 0 ((2 ^ pts.length : Nat) : Int)))).drop 3)) := by
  rw [run_law_counted, b_law_counted]
  have E := E_around n hp (by omega)
  have h2 : (2 : Nat) ^ pts.length ≤ 2 ^ 8 := Nat.pow_le_pow_right (by omega) hl
  rw [show (2 : Nat) ^ 8 = 256 by decide] at h2
  have hM1 : (1 : Int) * 2 ^ (pts.length : Int).toNat = ((2 ^ pts.length : Nat) : Int) := by simp
  generalize (2 : Nat) ^ pts.length = M at *
  have c0 : List.replicate (pts.length + 1) (D.int 0) = (cL pts.length (cvF pts [])).map D.int := by
    unfold cL
    rw [List.map_map]
    refine List.ext_getElem? fun i => ?_
    rw [List.getElem?_map]
    by_cases hi : i < pts.length + 1
    · have := rangeI_at (lo := 0) (hi := (pts.length : Int) + 1) (j := (i : Nat)) (by omega)
      rw [Int.toNat_natCast] at this
      rw [List.getElem?_replicate, if_pos hi, this]
      rfl
    · rw [List.getElem?_eq_none (by rw [List.length_replicate]; omega), List.getElem?_eq_none (by rw [rangeI_length]; omega)]
      rfl
  have q : ∃ e', vS (P.ctx (n + 3)) none l_law_counted_5 [.lst (pts.map ptD), .int pts.length, arD pts, .lst ((cL pts.length (cvF pts [])).map D.int), .un, .un, .un, .un, .un, .un] = .nx e' ∧ ∃ e4 e5 e6 e8, e' = [.lst (pts.map ptD), .int pts.length, arD pts, liD (cL pts.length (cvF pts (rangeI 0 (M : Int)))), e4, e5, e6, .un, e8, .un] := by
    rw [l_law_counted_5]
    refine for_wp (rangeI 0 (M : Int)) (h := D.int) (I := fun pre e => ∃ e4 e5 e6 e8, e = [.lst (pts.map ptD), .int pts.length, arD pts, liD (cL pts.length (cvF pts pre)), e4, e5, e6, .un, e8, .un]) (Q := fun o => ∃ e', o = .nx e' ∧ ∃ e4 e5 e6 e8, e' = [.lst (pts.map ptD), .int pts.length, arD pts, liD (cL pts.length (cvF pts (rangeI 0 (M : Int)))), e4, e5, e6, .un, e8, .un]) (s := .lst ((rangeI 0 (M : Int)).map D.int)) ?_ rfl ⟨_, _, _, _, rfl⟩ ?_ fun e h => ⟨e, rfl, h⟩
    · have r := rng1_of (n := (M : Int)) (by omega) (by omega)
      have b := bin_shl (a := 1) (b := (pts.length : Int)) (by omega) (by omega) (by decide)
      rw [hM1] at b
      simp [b, r]
    · rintro pre T post e eq ⟨e4, e5, e6, e8, rfl⟩
      have hT : 0 ≤ T ∧ T < (M : Int) := mem_rangeI.mp (by rw [eq]; simp)
      have Eb := E_bits (n + 3) pts.length (by omega) hT.1 (.lst (pts.map ptD)) (arD pts) (liD (cL pts.length (cvF pts pre))) e5 e6 .un e8 .un
      obtain ⟨e6', e8', w⟩ := L_cnt4 (n + 3) (pts := pts) (by omega) hT.1 (nb := bitsOf pts.length T) (fun k hk => by
        have := (List.mem_filter.mp hk).1
        rw [mem_rangeI] at this
        exact this) (bits_len _ _) (cvF pts pre) (.lst (pts.map ptD)) e6 .un e8 .un
      have e1 : cvF pts (pre ++ [T]) = fun s => cvF pts pre s + if s = (bitsOf pts.length T).length then S (bitsOf pts.length T) (crn pts T) else 0 := by
        funext s
        unfold cvF
        rw [S_append]
        simp
      refine nx_step (e := [.lst (pts.map ptD), .int pts.length, arD pts, liD (cL pts.length (cvF pts (pre ++ [T]))), .int T, liD (bitsOf pts.length T), e6', .un, e8', .un]) ?_ ⟨_, _, _, _, rfl⟩
      rw [e1]
      have hrd : rd (arD pts) = .ok (arD pts) := by simp
      generalize arD pts = AD at *
      generalize (cL pts.length fun s => cvF pts pre s + if s = (bitsOf pts.length T).length then S (bitsOf pts.length T) (crn pts T) else 0) = C1 at *
      generalize cL pts.length (cvF pts pre) = C0 at *
      generalize bitsOf pts.length T = nb at *
      simp [Eb, w]
  obtain ⟨e', q, e4, e5, e6, e8, rfl⟩ := q
  have h1 : -1000 ≤ (pts.length : Int) + 1 := by omega
  have h2' : (pts.length : Int) + 1 ≤ 1000 := by omega
  have cs := cut_suf (xs := (cL pts.length (cvF pts (rangeI 0 (M : Int)))).map D.int) (i := 3) (by decide)
  have hrd : rd (arD pts) = .ok (arD pts) := by simp
  have E := E (.un) .un .un .un .un .un .un .un
  generalize cL pts.length (cvF pts (rangeI 0 (M : Int))) = CC at *
  generalize arD pts = AD at *
  simp [E, h1, h2', c0, q, cs]
end PD.Law
end

section
set_option Elab.async false
set_option linter.all false
set_option maxRecDepth 100000
set_option maxHeartbeats 1000000
namespace PD.Law
open PySem L2 PD
/-! W10d: what is counted is what the sums say. -/
theorem bits_perm {m : Nat} (h : m ≤ 7) : ∀ s : Fin 8, (((rangeI 0 ((2 ^ m : Nat) : Int)).map (bitsOf m)).filter fun l => decide (s.val = l.length)).Perm (subs s.val (rangeI 0 m)) := by
  match m, h with
  | 0, _ | 1, _ | 2, _ | 3, _ | 4, _ | 5, _ | 6, _ | 7, _ => decide +kernel
  | n + 8, h => exact absurd h (by omega)
theorem mask_in {m : Nat} (h : m ≤ 7) : ∀ T ∈ rangeI 0 ((2 ^ m : Nat) : Int), ∀ t ∈ threes m, ((((msk t.2.2 t.2.1 t.1).toNat &&& T.toNat : Nat) : Int) = msk t.2.2 t.2.1 t.1) ↔ (t.2.2 ∈ bitsOf m T ∧ t.2.1 ∈ bitsOf m T ∧ t.1 ∈ bitsOf m T) := by
  match m, h with
  | 0, _ | 1, _ | 2, _ | 3, _ | 4, _ | 5, _ | 6, _ | 7, _ => decide +kernel
  | n + 8, h => exact absurd h (by omega)
theorem GP.sub {l m : List Pt} (g : GP l) (h : m.Sublist l) : GP m := ⟨g.nd.sublist h, fun p hp q hq r hr => g.ne p (h.subset hp) q (h.subset hq) r (h.subset hr)⟩
def part (pts : List Pt) (l : List Int) : List Pt := l.map (pt pts)
theorem part_sub {pts : List Pt} {l : List Int} (h : l.Sublist (rangeI 0 pts.length)) : (part pts l).Sublist pts := by
  have := h.map (pt pts)
  rwa [pts_eq] at this
theorem mem_hd3 {pts : List Pt} {k m : Int} {n : Int} : m ∈ hd3 pts k (rangeI 0 n) ↔ ∃ a b c : Int, (0 ≤ c ∧ c < b ∧ b < a ∧ a < n) ∧ ¬ (k = a ∨ k = b ∨ k = c) ∧ wiI pts ((a, b, c), k) = true ∧ m = msk a b c := by
  unfold hd3 hd2 hd1
  simp only [List.mem_flatMap, mem_rangeI]
  constructor
  · rintro ⟨a, ha, b, hb, c, hc, h⟩
    split at h
    · rename_i h2
      rw [List.mem_singleton] at h
      exact ⟨a, b, c, by omega, h2.1, h2.2, h⟩
    · cases h
  · rintro ⟨a, b, c, h1, h2, h3, h4⟩
    refine ⟨a, by omega, b, by omega, c, by omega, ?_⟩
    rw [if_pos ⟨h2, h3⟩, List.mem_singleton]
    exact h4
/-- three in the order of their numbers -/
theorem held_in {pts : List Pt} (l3 : 3 ≤ pts.length) (h7 : pts.length ≤ 7) (on : onErr pts = none) {T : Int} (hT : T ∈ rangeI 0 ((2 ^ pts.length : Nat) : Int)) {k : Int} (hk : 0 ≤ k ∧ k < pts.length) :
    heldL pts T k = [] ↔ ¬ hIn (part pts (bitsOf pts.length T)) (pt pts k) := by
  have mi := mask_in h7 T hT
  have hB : ∀ x ∈ bitsOf pts.length T, 0 ≤ x ∧ x < pts.length := fun x hx => by
    have := (List.mem_filter.mp hx).1
    rw [mem_rangeI] at this
    exact this
  have inj := fun {a b : Int} (ha : 0 ≤ a ∧ a < pts.length) (hb : 0 ≤ b ∧ b < pts.length) => pt_inj l3 on ha hb
  have g := gp_of l3 on
  have ne : ∀ {a b c : Int}, (0 ≤ a ∧ a < pts.length) → (0 ≤ b ∧ b < pts.length) → (0 ≤ c ∧ c < pts.length) → a ≠ b → b ≠ c → a ≠ c → ar (pt pts a) (pt pts b) (pt pts c) ≠ 0 := fun ha hb hc h1 h2 h3 => tv_ne on ha hb hc h1 h2 h3
  unfold heldL
  rw [List.filter_eq_nil_iff]
  constructor
  · rintro h ⟨x, hx, y, hy, z, hz, ⟨nx, ny, nz⟩, c1, c2, c3⟩
    obtain ⟨i, hi, rfl⟩ := List.mem_map.mp hx
    obtain ⟨j, hj, rfl⟩ := List.mem_map.mp hy
    obtain ⟨l, hl, rfl⟩ := List.mem_map.mp hz
    have ki : k ≠ i := fun e => nx (by rw [e])
    have kj : k ≠ j := fun e => ny (by rw [e])
    have kl : k ≠ l := fun e => nz (by rw [e])
    have ij : i ≠ j := fun e => by subst e; unfold Lf at c1; rw [ar_abb] at c1; omega
    have jl : j ≠ l := fun e => by subst e; unfold Lf at c2; rw [ar_abb] at c2; omega
    have li : l ≠ i := fun e => by subst e; unfold Lf at c3; rw [ar_abb] at c3; omega
    have main : ∀ a b c : Int, a ∈ bitsOf pts.length T → b ∈ bitsOf pts.length T → c ∈ bitsOf pts.length T → c < b → b < a → k ≠ a → k ≠ b → k ≠ c → ((Lf (pt pts k) (pt pts a) (pt pts b) ∧ Lf (pt pts k) (pt pts b) (pt pts c) ∧ Lf (pt pts k) (pt pts c) (pt pts a)) ∨ (Lf (pt pts k) (pt pts a) (pt pts c) ∧ Lf (pt pts k) (pt pts c) (pt pts b) ∧ Lf (pt pts k) (pt pts b) (pt pts a))) → False := by
      intro a b c ha hb hc h1 h2 ka kb kc cy
      have ba := hB a ha
      have bb := hB b hb
      have bc := hB c hc
      have w : wiI pts ((a, b, c), k) = true := (wn_cyc (ne hk ba bb ka (by omega) kb) (ne hk bb bc kb (by omega) kc) (ne hk bc ba kc (by omega) ka)).mpr cy
      have hm : msk a b c ∈ hd3 pts k (rangeI 0 pts.length) := mem_hd3.mpr ⟨a, b, c, by omega, by omega, w, rfl⟩
      refine h _ hm ?_
      have := (mi (c, b, a) (mem_threes.mpr (by omega))).mpr ⟨ha, hb, hc⟩
      exact decide_eq_true this
    rcases Int.lt_or_gt_of_ne ij with a1 | a1 <;> rcases Int.lt_or_gt_of_ne jl with a2 | a2 <;> rcases Int.lt_or_gt_of_ne li with a3 | a3
    · omega
    · exact main l j i hl hj hi a1 a2 kl kj ki (.inr ⟨c3, c1, c2⟩)
    · exact main j i l hj hi hl a3 a1 kj ki kl (.inr ⟨c2, c3, c1⟩)
    · exact main j l i hj hl hi a3 a2 kj kl ki (.inl ⟨c2, c3, c1⟩)
    · exact main i l j hi hl hj a2 a3 ki kl kj (.inr ⟨c1, c2, c3⟩)
    · exact main l i j hl hi hj a1 a3 kl ki kj (.inl ⟨c3, c1, c2⟩)
    · exact main i j l hi hj hl a2 a1 ki kj kl (.inl ⟨c1, c2, c3⟩)
    · omega
  · intro h m hm hd
    obtain ⟨a, b, c, h1, h2, h3, rfl⟩ := mem_hd3.mp hm
    obtain ⟨ia, ib, ic⟩ := (mi (c, b, a) (mem_threes.mpr (by omega))).mp (of_decide_eq_true hd)
    dsimp only at ia ib ic
    have ba := hB a ia
    have bb := hB b ib
    have bc := hB c ic
    have ka : k ≠ a := by omega
    have kb : k ≠ b := by omega
    have kc : k ≠ c := by omega
    have cy := (wn_cyc (ne hk ba bb ka (by omega) kb) (ne hk bb bc kb (by omega) kc) (ne hk bc ba kc (by omega) ka)).mp h3
    have pa : pt pts a ≠ pt pts k := fun e => ka ((inj ba hk).mp e).symm
    have pb : pt pts b ≠ pt pts k := fun e => kb ((inj bb hk).mp e).symm
    have pc : pt pts c ≠ pt pts k := fun e => kc ((inj bc hk).mp e).symm
    rcases cy with cy | cy
    · exact h ⟨_, List.mem_map_of_mem ia, _, List.mem_map_of_mem ib, _, List.mem_map_of_mem ic, ⟨pa, pb, pc⟩, cy⟩
    · exact h ⟨_, List.mem_map_of_mem ia, _, List.mem_map_of_mem ic, _, List.mem_map_of_mem ib, ⟨pa, pc, pb⟩, cy⟩
end PD.Law
end

section
set_option Elab.async false
set_option linter.all false
set_option maxRecDepth 100000
set_option maxHeartbeats 1000000
namespace PD.Law
open PySem L2 PD
/-! W10e: counted = sums. -/
theorem bits_sub (m T : Int) : (bitsOf m T).Sublist (rangeI 0 m) := List.filter_sublist
theorem crn_cnt {pts : List Pt} (l3 : 3 ≤ pts.length) (h7 : pts.length ≤ 7) (on : onErr pts = none) {T : Int} (hT : T ∈ rangeI 0 ((2 ^ pts.length : Nat) : Int)) (h2 : 2 ≤ (bitsOf pts.length T).length) :
    S (bitsOf pts.length T) (crn pts T) = cnt (part pts (bitsOf pts.length T)) 0 := by
  classical
  have gp := (gp_of l3 on).sub (part_sub (bits_sub pts.length T))
  rw [corners_cnt gp (by unfold part; rw [List.length_map]; exact h2)]
  unfold part
  rw [S_map]
  refine S_congr fun k hk => ?_
  have hk2 := (bits_sub pts.length T).subset hk
  rw [mem_rangeI] at hk2
  have hi := held_in l3 h7 on hT hk2
  unfold part at hi
  unfold crn
  by_cases h : heldL pts T k = []
  · rw [if_pos h, if_neg (hi.mp h)]
  · rw [if_neg h]
    by_cases h3 : hIn (List.map (pt pts) (bitsOf (pts.length) T)) (pt pts k)
    · rw [if_pos h3]
    · exact absurd (hi.mpr h3) h
theorem cvF_row {pts : List Pt} (l3 : 3 ≤ pts.length) (h7 : pts.length ≤ 7) (on : onErr pts = none) {k : Nat} (hk : k + 2 ≤ 7) : cvF pts (rangeI 0 ((2 ^ pts.length : Nat) : Int)) (k + 2) = S (List.range (pts.length - 1)) fun j => cnt pts j * ch (pts.length - 2 - j) k := by
  have g := gp_of l3 on
  have e1 : cvF pts (rangeI 0 ((2 ^ pts.length : Nat) : Int)) (k + 2) = S (rangeI 0 ((2 ^ pts.length : Nat) : Int)) fun T => if k + 2 = (bitsOf pts.length T).length then cnt (part pts (bitsOf pts.length T)) 0 else 0 := by
    unfold cvF
    refine S_congr fun T hT => ?_
    by_cases h : k + 2 = (bitsOf pts.length T).length
    · rw [if_pos h, if_pos h, crn_cnt l3 h7 on hT (by omega)]
    · rw [if_neg h, if_neg h]
  rw [e1, ← S_map (rangeI 0 ((2 ^ pts.length : Nat) : Int)) (bitsOf pts.length) fun B => if k + 2 = B.length then cnt (part pts B) 0 else 0, ← S_filter _ (fun B : List Int => k + 2 = B.length) fun B => cnt (part pts B) 0, S_perm (bits_perm h7 ⟨k + 2, by omega⟩)]
  have e2 : S (subs (k + 2) pts) (fun T => cnt T 0) = S (subs (k + 2) ((rangeI 0 pts.length).map (pt pts))) (fun T => cnt T 0) := by rw [pts_eq]
  rw [← row_parts g.nd k, e2, subs_map, S_map]
  rfl
theorem corn_sum {pts : List Pt} (l3 : 3 ≤ pts.length) {s : Int} (hs : 2 ≤ s) : (cornT (rowOf pts) s).sum = ((S (List.range (pts.length - 1)) fun j => cnt pts j * ch (pts.length - 2 - j) (s - 2).toNat : Nat) : Int) := by
  rw [← sum_rangeI]
  unfold cornT
  rw [rowOf_len]
  congr 1
  have e : ((pts.length - 1 : Nat) : Int) = (pts.length : Int) - 1 := by omega
  refine List.map_congr_left fun j hj => ?_
  rw [mem_rangeI] at hj
  have g1 := rowOf_get (pts := pts) (j := j.toNat) (by omega)
  have g2 : gt (rowOf pts) j = ((cnt pts j.toNat : Nat) : Int) := by
    unfold gt
    rw [List.getD_eq_getElem?_getD, g1]
    rfl
  rw [g2]
  unfold chI
  rw [Int.natCast_mul, show (((pts.length - 1 : Nat) : Int) - 1 - j).toNat = pts.length - 2 - j.toNat by omega]
theorem counted_eq {pts : List Pt} (l3 : 3 ≤ pts.length) (h7 : pts.length ≤ 7) (on : onErr pts = none) : (cL pts.length (cvF pts (rangeI 0 ((2 ^ pts.length : Nat) : Int)))).drop 3 = sumsL (rowOf pts) := by
  refine List.ext_getElem? fun i => ?_
  rw [List.getElem?_drop]
  unfold sumsL
  rw [rowOf_len, show ((pts.length - 1 : Nat) : Int) + 2 = (pts.length : Int) + 1 by omega, List.getElem?_map]
  by_cases hi : i + 3 ≤ pts.length
  · have r := rangeI_at (lo := 3) (hi := (pts.length : Int) + 1) (j := (i : Nat)) (by omega)
    rw [Int.toNat_natCast] at r
    rw [r, show 3 + i = i + 1 + 2 by omega, cL_get (by omega), cvF_row l3 h7 on (by omega)]
    show _ = some ((cornT (rowOf pts) (3 + (i : Int))).sum)
    rw [corn_sum l3 (by omega), show (3 + (i : Int) - 2).toNat = i + 1 by omega]
  · rw [List.getElem?_eq_none (by rw [cL_len]; omega), List.getElem?_eq_none (by rw [rangeI_length]; omega)]
    rfl
end PD.Law
end

section
set_option Elab.async false
set_option linter.all false
set_option maxRecDepth 100000
set_option maxHeartbeats 1000000
namespace PD.Law
open PySem L2 PD
/-! K10s: the law. -/
theorem prod_b {x y : Int} (hx : -1000 ≤ x ∧ x ≤ 1000) (hy : 0 ≤ y ∧ y ≤ 1000) : -1000000 ≤ x * y ∧ x * y ≤ 1000000 := by
  have h1 := Int.mul_le_mul_of_nonneg_right hx.2 hy.1
  have h2 := Int.mul_le_mul_of_nonneg_right hx.1 hy.1
  omega
theorem sum_b {B : Int} (hB : 0 ≤ B) : ∀ {l : List Int}, (∀ x ∈ l, -B ≤ x ∧ x ≤ B) → -(B * l.length) ≤ l.sum ∧ l.sum ≤ B * l.length
  | [], _ => by simp
  | x :: l, h => by
    have h1 := sum_b hB fun y hy => h y (.tail _ hy)
    have h2 := h x (.head _)
    rw [List.sum_cons, List.length_cons, Int.natCast_add, Int.mul_add]
    simp only [Int.natCast_one, Int.mul_one]
    omega
theorem spread_b {r : List Int} (hb : Rw10 1000 r) (hl : r.length ≤ 9) : Rw10 (10 ^ 8) (spreadL r) := by
  intro x hx
  obtain ⟨s, hs, rfl⟩ := List.mem_map.mp hx
  rw [mem_rangeI] at hs
  have h := sum_b (B := 1000000) (by omega) (l := spreadT r s) fun y hy => by
    obtain ⟨m, hm, rfl⟩ := List.mem_map.mp hy
    rw [mem_rangeI] at hm
    exact prod_b (gt_b (by omega) hb m) (chI_b (by omega) (by omega))
  have hlen : (spreadT r s).length ≤ 9 := by
    unfold spreadT
    rw [List.length_map, rangeI_length]
    omega
  have e : (10 : Int) ^ 8 = 100000000 := by decide
  rw [e]
  generalize (spreadT r s).length = L at *
  omega
theorem L_told (n : Nat) {pts : List Pt} {fl : D} (F : FloorIs pts fl) (g : Good pts) (e0 e1 e2 e3 e4 e5 : D) :
    ∃ e9, vS (P.ctx (n + 7)) none l_law_1 [e0, e1, e2, e3, e4, e5, fl, liD (rowOf pts), liD (sumsL (rowOf pts)), .un] = .nx [e0, e1, e2, e3, e4, e5, fl, liD (rowOf pts), liD (sumsL (rowOf pts)), e9] := by
  have hr := rd_floor F
  have l1 := g.l1
  have l2 := g.l2
  have rl := rowOf_len pts
  have sl : (sumsL (rowOf pts)).length ≤ 100 := by unfold sumsL; rw [List.length_map, rangeI_length]; omega
  have t1 := told_corners (n + 5) sl hr (s_corner_row (n + 1) F g)
  have t2 := told_lines (n + 5) (L := rowOf pts) (by omega) hr (s_line_row (n + 2) F l1 (by omega) g.on)
  have q : ∃ e', vS (P.ctx (n + 7)) none l_law_1 [e0, e1, e2, e3, e4, e5, fl, liD (rowOf pts), liD (sumsL (rowOf pts)), .un] = .nx e' ∧ ∃ e9, e' = [e0, e1, e2, e3, e4, e5, fl, liD (rowOf pts), liD (sumsL (rowOf pts)), e9] := by
    rw [l_law_1]
    refine for_pass (rangeI 0 2) (h := D.int) _ (by simp [rng1_of (n := 2) (by omega) (by omega)]; rfl) rfl ⟨_, rfl⟩ ?_
    rintro k hk e ⟨e9, rfl⟩
    refine ⟨[e0, e1, e2, e3, e4, e5, fl, liD (rowOf pts), liD (sumsL (rowOf pts)), .int k], ?_, _, rfl⟩
    generalize sumsL (rowOf pts) = SS at *
    generalize rowOf pts = RR at *
    have x1 := eq_ints SS SS
    have x2 := eq_ints RR RR
    simp [hr, t1, t2, x1, x2]
  obtain ⟨e', q, e9, rfl⟩ := q
  exact ⟨e9, q⟩
theorem pure_law (n : Nat) (ns : List Int) (h : ns.length ≤ 63) : vC (P.ctx (n + 8)) f_law [.lst (ns.map D.int)] = .ok (.bl true) := by
  rw [run_law, b_law]
  obtain ⟨c, hc, qc⟩ := s_cell (n + 6) ns (i := 0) (by omega)
  have cut : cutO (.lst (ns.map D.int)) .non (.int 63) = .ok (.lst (ns.map D.int)) := by
    rw [cut_pre (by decide), List.take_of_length_le (by simpa using h)]
  obtain ⟨m, hm, qm⟩ := pick [5, 4, 6, 7, 3, 8, 9, 10] (k := c % 8) (by omega) (by show c % 8 < 8; omega)
  have hm' : 3 ≤ m ∧ m ≤ 10 := by simp at hm; omega
  simp only [List.map_cons, List.map_nil] at qm
  obtain ⟨pts, hl, N0, p0⟩ := s_points (n + 5) ns (m := m) (by omega) (by omega) (decide (2 < c / 8 % 5))
  have hp := N0.pb (by omega)
  have rf := s_refusal (n + 5) (pts := pts) (by omega) hp
  have md := s_made (n + 3) (pts := pts)
  have e1 := eqD_refl (eqd_due pts)
  have hc3 : ¬ (pts.length < 3 ∨ 10 < pts.length) := by omega
  unfold dueD at rf md e1
  rw [if_neg hc3] at rf md e1
  rw [near_far N0] at rf md e1
  dsimp only at rf md e1
  cases hon : onErr pts with
  | some t =>
    rw [hon] at rf md e1
    simp only [raisedD] at rf md e1
    simp [cut, qc, qm, p0, rf, md, e1, eq_rr]
  | none =>
    rw [hon] at rf md e1
    dsimp only at rf md e1
    have g : Good pts := ⟨by omega, by omega, N0, hon⟩
    obtain ⟨fl, nf, F⟩ := g.new (n + 4)
    have hr := rd_floor F
    subst hl
    have l1 := g.l1
    have l2 := g.l2
    have rl := rowOf_len pts
    have hb : Rw10 1000 (rowOf pts) := fun x hx => by
      obtain ⟨j, _, rfl⟩ := List.mem_map.mp hx
      have c1 := cnt_le pts j.toNat
      have c3 : pts.length * pts.length ≤ 10 * 10 := Nat.mul_le_mul l2 l2
      omega
    have rdue := s_row_due (n + 5) g
    have sms := s_sums (n + 5) (B := 1000) (by omega) hb (by omega)
    obtain ⟨e9, q1⟩ := L_told n F g (.lst (ns.map .int)) (.lst (ns.map .int)) (.int c) (.int pts.length) (.lst (pts.map ptD)) (.tup [.str "floor", .str "", .tup (pts.map ptD), .bl true])
    have rs := rowOf_sum g.gp.nd (by omega)
    have ss := spread_sums (r := rowOf pts) (by omega) (by omega) (rowOf_rev g.gp)
    have gs := gather_spread (r := rowOf pts) (by omega) (by omega)
    have sl : (sumsL (rowOf pts)).length ≤ 100 := by unfold sumsL; rw [List.length_map, rangeI_length]; omega
    have rl9 : (rowOf pts).length ≤ 9 := by omega
    have sb9 := spread_b hb rl9
    have sl9 : (spreadL (rowOf pts)).length ≤ 9 := by
      unfold spreadL
      rw [List.length_map, rangeI_length]
      omega
    have t3 := told_spread (n + 5) (X := liD (rowOf pts)) (L := spreadL (rowOf pts)) (Nat.le_trans sl9 (by decide)) (by simp) (s_spread (n + 3) (B := 1000) (by omega) hb (by omega))
    have t4 := told_gather (n + 5) (X := liD (spreadL (rowOf pts))) (L := rowOf pts) (by omega) (by simp) (by
      have this := s_gather (n + 3) (r := spreadL (rowOf pts)) (B := 10 ^ 8) (by decide) sb9 sl9
      rw [gs] at this
      exact this)
    have ct : pts.length ≤ 7 → vC (P.ctx (n + 7)) f_law_counted [.lst (pts.map ptD)] = .ok (liD (sumsL (rowOf pts))) := fun h7 => by
      rw [s_counted (n + 3) hp l1 (by omega), counted_eq l1 h7 hon]
    rw [ss, rs] at t3 t4
    generalize sumsL (rowOf pts) = SS at *
    generalize rowOf pts = RR at *
    have s0 : Sm (pts.length : Int) := ⟨by omega, by omega⟩
    have s1 : Sm ((pts.length : Int) - 1) := ⟨by omega, by omega⟩
    generalize hW : (pts.length : Int) * ((pts.length : Int) - 1) = W at *
    have x1 := eq_ints SS SS
    have x2 := eq_ints RR RR
    have bc : binO .Add (.lst [.int W]) (liD SS) = .ok (liD (W :: SS)) := bin_catL (by simp; omega)
    generalize W :: SS = WS at *
    have x3 := eq_ints WS WS
    by_cases h8 : pts.length ≤ 7
    · have c8 : (pts.length : Int) < 8 := by omega
      have ct := ct h8
      simp [cut, qc, qm, p0, rf, md, e1, eq_fr, nf, hr, rdue, sms, q1, c8, ct, x1, x2, t3, t4, s0, s1, hW, bc, x3]
    · have c8 : ¬ (pts.length : Int) < 8 := by omega
      simp [cut, qc, qm, p0, rf, md, e1, eq_fr, nf, hr, rdue, sms, q1, c8, x1, x2, t3, t4, s0, s1, hW, bc, x3]
end PD.Law
end

section
set_option Elab.async false
set_option linter.all false
set_option maxRecDepth 100000
set_option maxHeartbeats 0
namespace PD.Law
open PySem PySem.Spec PyProof.Rows L2 PD
def tp (i : Nat) : Stmt := PySem.Challenge.pw_everybowl_k10_corners_of_subsets.main.body.getD i (.Pass ⟨0, 0, 0, 0⟩)
def ms (i j : Nat) : Stmt := (match tp i with | .ClassDef (body := b) .. => b | _ => []).getD j (.Pass ⟨0, 0, 0, 0⟩)
def n0 : List Str := ["value", "low", "high"]
def n1 : List Str := ["many", "low", "high"]
def n2 : List Str := ["n", "k"]
def n3 : List Str := ["many", "a", "b", "c"]
def n4 : List Str := ["floor", "numbers", "a", "b"]
def n5 : List Str := ["floor", "a", "b", "c"]
def n6 : List Str := ["floor", "counts", "j", "line"]
def n7 : List Str := ["floor", "many", "row", "size", "j"]
def n8 : List Str := ["value"]
def n9 : List Str := ["p", "q", "r"]
def n10 : List Str := ["points", "table", "a", "b", "c", "turn"]
def n11 : List Str := ["row", "least", "entry"]
def n12 : List Str := ["row", "many", "s", "m"]
def n13 : List Str := ["row", "many", "m", "s"]
def n14 : List Str := ["distance", "value"]
def n15 : List Str := ["_law_cells", "_law_place"]
def n16 : List Str := ["_law_cells", "_law_many", "_law_wide", "_law_across", "_law_up", "_law_points", "_law_k", "_law_c", "_law_x", "_law_y"]
def n17 : List Str := ["_law_p", "_law_q", "_law_r", "_law_first", "_law_second", "_law_third"]
def n18 : List Str := ["_law_points", "_law_p", "_law_a", "_law_value", "_law_b", "_law_c"]
def n19 : List Str := ["_law_points", "e", "_law_floor", "_law_alone"]
def n20 : List Str := ["_law_thing"]
def n21 : List Str := ["_law_points", "_law_number", "_law_three", "_law_p", "_law_one", "_law_two", "_law_last", "_law_a", "_law_b", "_law_c", "_law_k"]
def n22 : List Str := ["_law_points", "_law_number", "_law_masks", "_law_a", "_law_b", "_law_c", "_law_three"]
def n23 : List Str := ["_law_points", "_law_many", "_law_around", "_law_counts", "_law_subset", "_law_numbers", "_law_k", "_law_number", "_law_held", "_law_mask"]
def n24 : List Str := ["_law_points", "_law_many", "_law_row", "_law_p", "_law_q", "_law_left", "_law_r"]
def n25 : List Str := ["_law_n", "_law_k", "_law_value", "_law_i"]
def n26 : List Str := ["_law_row", "_law_many", "_law_sums_here", "_law_size", "_law_total", "_law_j"]
def n27 : List Str := ["_law_name", "_law_given", "_law_kept", "_law_got", "_law_value"]
def n28 : List Str := ["_law_script", "_law_cells", "_law_c", "_law_many", "_law_points", "_law_due", "_law_floor", "_law_row", "_law_sums_here", "_law_k"]
def n29 : List Str := ["self", "points", "x", "y"]
def n30 : List Str := ["self"]
def n31 : List Str := ["self", "a", "b", "c"]
def d0 : He.DefD := ⟨("check_range", none), "check_range", "check_range", defArgs (tp 10), defBody (tp 10), defScope (tp 10), [], []⟩
def d1 : He.DefD := ⟨("check_count", none), "check_count", "check_count", defArgs (tp 11), defBody (tp 11), defScope (tp 11), [], []⟩
def d2 : He.DefD := ⟨("choose", none), "choose", "choose", defArgs (tp 15), defBody (tp 15), defScope (tp 15), [], []⟩
def d3 : He.DefD := ⟨("all_threes", none), "all_threes", "all_threes", defArgs (tp 16), defBody (tp 16), defScope (tp 16), [], []⟩
def d4 : He.DefD := ⟨("line_counts", none), "line_counts", "line_counts", defArgs (tp 18), defBody (tp 18), defScope (tp 18), [], []⟩
def d5 : He.DefD := ⟨("left_count", none), "left_count", "left_count", defArgs (tp 19), defBody (tp 19), defScope (tp 19), [], []⟩
def d6 : He.DefD := ⟨("line_row", none), "line_row", "line_row", defArgs (tp 20), defBody (tp 20), defScope (tp 20), [], []⟩
def d7 : He.DefD := ⟨("corner_row", none), "corner_row", "corner_row", defArgs (tp 21), defBody (tp 21), defScope (tp 21), [], []⟩
def d8 : He.DefD := ⟨("sign_of", none), "sign_of", "sign_of", defArgs (tp 23), defBody (tp 23), defScope (tp 23), [], []⟩
def d9 : He.DefD := ⟨("quick_area", none), "quick_area", "quick_area", defArgs (tp 24), defBody (tp 24), defScope (tp 24), [], []⟩
def d10 : He.DefD := ⟨("turn_table", none), "turn_table", "turn_table", defArgs (tp 26), defBody (tp 26), defScope (tp 26), [], []⟩
def d11 : He.DefD := ⟨("check_row", none), "check_row", "check_row", defArgs (tp 31), defBody (tp 31), defScope (tp 31), [], []⟩
def d12 : He.DefD := ⟨("spread", none), "spread", "spread", defArgs (tp 32), defBody (tp 32), defScope (tp 32), [], []⟩
def d13 : He.DefD := ⟨("gather", none), "gather", "gather", defArgs (tp 33), defBody (tp 33), defScope (tp 33), [], []⟩
def d14 : He.DefD := ⟨("signed", none), "signed", "signed", defArgs (tp 34), defBody (tp 34), defScope (tp 34), [], []⟩
def d15 : He.DefD := ⟨("_law_cell", none), "_law_cell", "_law_cell", defArgs (tp 36), defBody (tp 36), defScope (tp 36), [], []⟩
def d16 : He.DefD := ⟨("_law_drawn", none), "_law_drawn", "_law_drawn", defArgs (tp 37), defBody (tp 37), defScope (tp 37), [], []⟩
def d17 : He.DefD := ⟨("_law_area", none), "_law_area", "_law_area", defArgs (tp 38), defBody (tp 38), defScope (tp 38), [], []⟩
def d18 : He.DefD := ⟨("_law_refusal", none), "_law_refusal", "_law_refusal", defArgs (tp 39), defBody (tp 39), defScope (tp 39), [], []⟩
def d19 : He.DefD := ⟨("_law_made", none), "_law_made", "_law_made", defArgs (tp 40), defBody (tp 40), defScope (tp 40), [], []⟩
def d20 : He.DefD := ⟨("_law_whole", none), "_law_whole", "_law_whole", defArgs (tp 41), defBody (tp 41), defScope (tp 41), [], []⟩
def d21 : He.DefD := ⟨("_law_is_within", none), "_law_is_within", "_law_is_within", defArgs (tp 42), defBody (tp 42), defScope (tp 42), [], []⟩
def d22 : He.DefD := ⟨("_law_holders", none), "_law_holders", "_law_holders", defArgs (tp 43), defBody (tp 43), defScope (tp 43), [], []⟩
def d23 : He.DefD := ⟨("_law_counted", none), "_law_counted", "_law_counted", defArgs (tp 44), defBody (tp 44), defScope (tp 44), [], []⟩
def d24 : He.DefD := ⟨("_law_row_due", none), "_law_row_due", "_law_row_due", defArgs (tp 45), defBody (tp 45), defScope (tp 45), [], []⟩
def d25 : He.DefD := ⟨("_law_choose", none), "_law_choose", "_law_choose", defArgs (tp 46), defBody (tp 46), defScope (tp 46), [], []⟩
def d26 : He.DefD := ⟨("_law_sums", none), "_law_sums", "_law_sums", defArgs (tp 47), defBody (tp 47), defScope (tp 47), [], []⟩
def d27 : He.DefD := ⟨("_law_told", none), "_law_told", "_law_told", defArgs (tp 48), defBody (tp 48), defScope (tp 48), [], []⟩
def d28 : He.DefD := ⟨("law", none), "law", "law", defArgs (tp 49), defBody (tp 49), defScope (tp 49), [], []⟩
def d29 : He.DefD := ⟨("Floor", some "__init__"), "__init__", "Floor.__init__", defArgs (ms 27 3), defBody (ms 27 3), defScope (ms 27 3), [], []⟩
def d30 : He.DefD := ⟨("Floor", some "__len__"), "__len__", "Floor.__len__", defArgs (ms 27 5), defBody (ms 27 5), defScope (ms 27 5), [], []⟩
def d31 : He.DefD := ⟨("Floor", some "quick_turn"), "quick_turn", "Floor.quick_turn", defArgs (ms 27 12), defBody (ms 27 12), defScope (ms 27 12), [], []⟩
def dd : List He.DefD := [d0, d1, d2, d3, d4, d5, d6, d7, d8, d9, d10, d11, d12, d13, d14, d15, d16, d17, d18, d19, d20, d21, d22, d23, d24, d25, d26, d27, d28, d29, d30, d31]
def N : Info := { nc := 1, cn := fun c => (["Floor"] : List Str).getD c "", lay := fun c => ([["points", "_turns"]] : List (List Str)).getD c [], xn := fun c => (["ValueError", "BowlError", "WrongCount", "TooFar", "NoPoint", "Repeated", "OnLine"] : List Str).getD c "", xf := fun c => ([[], [], ["count"], ["value"], ["number"], ["number"], ["numbers"]] : List (List Str)).getD c [], gints := [("MOST_ENTRIES", 64), ("GREATEST", 10000000000000000000000000000000000000000)], frees := ["range", "len", "sum", "abs", "int", "tuple", "isinstance", "ValueError", "bool", "list"], nf := 32, fat := fun f => ([("check_range", none), ("check_count", none), ("choose", none), ("all_threes", none), ("line_counts", none), ("left_count", none), ("line_row", none), ("corner_row", none), ("sign_of", none), ("quick_area", none), ("turn_table", none), ("check_row", none), ("spread", none), ("gather", none), ("signed", none), ("_law_cell", none), ("_law_drawn", none), ("_law_area", none), ("_law_refusal", none), ("_law_made", none), ("_law_whole", none), ("_law_is_within", none), ("_law_holders", none), ("_law_counted", none), ("_law_row_due", none), ("_law_choose", none), ("_law_sums", none), ("_law_told", none), ("law", none), ("Floor", some "__init__"), ("Floor", some "__len__"), ("Floor", some "quick_turn")] : List (Str × Option Str)).getD f ("", none), pars := fun f => ([["value", "low", "high"], ["many", "low", "high"], ["n", "k"], ["many"], ["floor"], ["floor", "a", "b"], ["floor"], ["floor"], ["value"], ["p", "q", "r"], ["points"], ["row", "least"], ["row"], ["row"], ["distance", "value"], ["_law_cells", "_law_place"], ["_law_cells", "_law_many", "_law_wide"], ["_law_p", "_law_q", "_law_r"], ["_law_points"], ["_law_points"], ["_law_thing"], ["_law_points", "_law_number", "_law_three"], ["_law_points", "_law_number"], ["_law_points"], ["_law_points"], ["_law_n", "_law_k"], ["_law_row"], ["_law_name", "_law_given"], ["_law_script"], ["self", "points"], ["self"], ["self", "a", "b", "c"]] : List (List Str)).getD f [], ini := fun f => decide (f ∈ ([29] : List Nat)), mname := fun m => (["__len__", "quick_turn"] : List Str).getD m "", raised := [3, 2, 6], caught := [6, 3, 2], fnm := fun m => (["numbers", "value", "count", "points", "MOST", "LEAST", "FAR", "_turns"] : List Str).getD m "", nw := fun f => decide (f ∈ ([6, 7, 12, 13] : List Nat)), nwm := fun f => decide (f ∈ ([] : List Nat)), mfns := [("comb", 0)] }
theorem ck0 : defB P N 0 n0 d0 = true := by decide +kernel
theorem ck1 : defB P N 1 n1 d1 = true := by decide +kernel
theorem ck2 : defB P N 2 n2 d2 = true := by decide +kernel
theorem ck3 : defB P N 3 n3 d3 = true := by decide +kernel
theorem ck4 : defB P N 4 n4 d4 = true := by decide +kernel
theorem ck5 : defB P N 5 n5 d5 = true := by decide +kernel
theorem ck6 : defB P N 6 n6 d6 = true := by decide +kernel
theorem ck7 : defB P N 7 n7 d7 = true := by decide +kernel
theorem ck8 : defB P N 8 n8 d8 = true := by decide +kernel
theorem ck9 : defB P N 9 n9 d9 = true := by decide +kernel
theorem ck10 : defB P N 10 n10 d10 = true := by decide +kernel
theorem ck11 : defB P N 11 n11 d11 = true := by decide +kernel
theorem ck12 : defB P N 12 n12 d12 = true := by decide +kernel
theorem ck13 : defB P N 13 n13 d13 = true := by decide +kernel
theorem ck14 : defB P N 14 n14 d14 = true := by decide +kernel
theorem ck15 : defB P N 15 n15 d15 = true := by decide +kernel
theorem ck16 : defB P N 16 n16 d16 = true := by decide +kernel
theorem ck17 : defB P N 17 n17 d17 = true := by decide +kernel
theorem ck18 : defB P N 18 n18 d18 = true := by decide +kernel
theorem ck19 : defB P N 19 n19 d19 = true := by decide +kernel
theorem ck20 : defB P N 20 n20 d20 = true := by decide +kernel
theorem ck21 : defB P N 21 n21 d21 = true := by decide +kernel
theorem ck22 : defB P N 22 n22 d22 = true := by decide +kernel
theorem ck23 : defB P N 23 n23 d23 = true := by decide +kernel
theorem ck24 : defB P N 24 n24 d24 = true := by decide +kernel
theorem ck25 : defB P N 25 n25 d25 = true := by decide +kernel
theorem ck26 : defB P N 26 n26 d26 = true := by decide +kernel
theorem ck27 : defB P N 27 n27 d27 = true := by decide +kernel
theorem ck28 : defB P N 28 n28 d28 = true := by decide +kernel
theorem ck29 : defB P N 29 n29 d29 = true := by decide +kernel
theorem ck30 : defB P N 30 n30 d30 = true := by decide +kernel
theorem ck31 : defB P N 31 n31 d31 = true := by decide +kernel
end PD.Law
end

section
set_option Elab.async false
set_option linter.all false
set_option maxRecDepth 100000
set_option maxHeartbeats 0
namespace PD.Law
open PySem PySem.Spec PyProof.Rows L2 PD
def fa : List He.Fa := [.glo "law"]
def ex (K : PySem.W.Frag) : Bool := factsB N T P.init K && xsB N PySem.Challenge.pw_everybowl_k10_corners_of_subsets K
abbrev Rw : PySem.W.OpenRow := PySem.W.OpenLaw.row PySem.Challenge.rw_everybowl_k10_corners_of_subsets
abbrev hk : PySem.W.Hook := hookP 4 fa dd ex
def ob (s : PySem.W.SharedT) : AlP := obsP 4 fa dd ex (HandSHeadRun.getT s)
theorem ob_eq (s : PySem.W.SharedT) : ob s = hk.obs s.abs := obsP_eq (HandSHeadRun.getT_eq s)
def lo0 : List PySem.Str := ["_wall", "__name__", "BowlError", "WrongCount", "TooFar", "NoPoint", "Repeated", "OnLine", "check_range", "check_count", "check_number", "check_numbers", "choose", "all_threes", "line_counts", "left_count", "line_row", "corner_row", "sign_of", "quick_area", "turn_table", "Floor", "MOST_ENTRIES", "GREATEST", "check_row", "spread", "gather", "signed", "_law_cell", "_law_drawn"]
def lo1 : List PySem.Str := ["_law_area", "_law_refusal", "_law_made", "_law_whole", "_law_is_within", "_law_holders", "_law_counted", "_law_row_due", "_law_choose", "_law_sums", "_law_told"]
def loose : List PySem.Str := lo0 ++ lo1
theorem run (w : World) : HandSHeadRun.RunEqI Rw (PySem.W.view Rw.prog [0, 49]) hk ob 6000 loose w := by
  unfold HandSHeadRun.RunEqI
  kernel_rfl
theorem facts {w : World} {K : PySem.W.Frag} {h : Heap} {mg : Str → Option Value} {f : Addr} (X : K.In h) (G : h.Ns mainGlobals mg) (hfa : mg ("law" : Str) = some (.ref f)) (c : He.SaysD fa dd K) (e : ex K = true) :
    ∃ fd : FuncData, (∀ (s : Shared) (v : Value), BindsTo s fd ⟨[v], []⟩ [("_law_script", v)]) ∧ ∀ base : Heap, K.In base → base.Ns mainGlobals mg → FnOk PySem.Challenge.pw_everybowl_k10_corners_of_subsets w K mg base (L2.CX PySem.Challenge.pw_everybowl_k10_corners_of_subsets w) (2 * (11 + 1) + 3) f fd ["_law_script"] (spF N K (N.nw 28) ((P.ctx 12).call 28)) :=
  law_end (P := P) (N := N) (T := T) (fa := fa) (fn := dd) (nn := fun i => ([n0, n1, n2, n3, n4, n5, n6, n7, n8, n9, n10, n11, n12, n13, n14, n15, n16, n17, n18, n19, n20, n21, n22, n23, n24, n25, n26, n27, n28, n29, n30, n31] : List (List Str)).getD i []) (base := h) rfl X G c rfl (fun i hi => by
    have hi : i < 32 := hi
    match i, hi with
    | 0, _ => exact ck0 | 1, _ => exact ck1 | 2, _ => exact ck2 | 3, _ => exact ck3 | 4, _ => exact ck4 | 5, _ => exact ck5 | 6, _ => exact ck6 | 7, _ => exact ck7 | 8, _ => exact ck8 | 9, _ => exact ck9
    | 10, _ => exact ck10 | 11, _ => exact ck11 | 12, _ => exact ck12 | 13, _ => exact ck13 | 14, _ => exact ck14 | 15, _ => exact ck15 | 16, _ => exact ck16 | 17, _ => exact ck17 | 18, _ => exact ck18 | 19, _ => exact ck19
    | 20, _ => exact ck20 | 21, _ => exact ck21 | 22, _ => exact ck22 | 23, _ => exact ck23 | 24, _ => exact ck24 | 25, _ => exact ck25 | 26, _ => exact ck26 | 27, _ => exact ck27 | 28, _ => exact ck28 | 29, _ => exact ck29
    | 30, _ => exact ck30 | 31, _ => exact ck31
    | n + 32, h => exact absurd h (by omega)) (fun c hc => by
    have hc : c < 1 := hc
    match c, hc with
    | 0, _ => exact ⟨by decide, by decide⟩
    | n + 1, h => exact absurd h (by omega)) e (by decide) (by decide) rfl rfl hfa
theorem pure_at (ns : List Int) (h : ns.length ≤ 63) : (P.ctx 12).call 28 [.lst (ns.map D.int)] = .ok (.bl true) := by
  have q := pure_law 4 ns h
  rw [vC_eq] at q
  exact q
theorem sp_ok {K : PySem.W.Frag} {H : Hp} {a : Addr} {ns : List Int} (hl : ns.length ≤ 63) (hS : SqL K H a (ns.map V.int)) : spF N K (N.nw 28) ((P.ctx 12).call 28) [.ref a] H (fun v _ => v = .bl true) fun _ _ _ => False := by
  refine ⟨[.lst (ns.map D.int)], .cons (.lst hS (rps_ints ns)) .nil, ?_⟩
  rw [pure_at ns hl]
  intro v H' _ r _
  cases r
  rfl
end PD.Law
open PySem PySem.W PySem.Calls PyProof.Rows
set_option maxHeartbeats 0
theorem PySem.Challenge.cw_everybowl_k10_corners_of_subsets_holds : PySem.Challenge.rw_everybowl_k10_corners_of_subsets.Holds := by
  w_on; o_law
  refine HandSHeadRun.head_imp (r := OpenLaw.row PySem.Challenge.rw_everybowl_k10_corners_of_subsets) (q := view (OpenLaw.row PySem.Challenge.rw_everybowl_k10_corners_of_subsets).prog [0, 49]) (H := PD.Law.hk) (ob := PD.Law.ob) (M := 6000) (loose := PD.Law.loose) (d := HandSHeadRun.topDef (OpenLaw.row PySem.Challenge.rw_everybowl_k10_corners_of_subsets).prog 49) (kwd := []) PD.Law.ob_eq
    PD.Law.run (by kernel_rfl) (by kernel_rfl) (by kernel_rfl) (by rfl) (by first | assumption | decide +kernel) (by decide +kernel) ⟨rfl, rfl, rfl, rfl, rfl, by decide +kernel⟩ ?hw ?hc
  case hw => w_witness2
  case hc =>
    refine PD.walk_ofP (l := PySem.Challenge.rw_everybowl_k10_corners_of_subsets) (n := 63) (k := 27) (x := "_law_script") (CX := fun w => L2.CX PySem.Challenge.pw_everybowl_k10_corners_of_subsets w) rfl (by decide) (by kernel_rfl) ⟨rfl, by decide, by decide⟩ ?F ?cx
    case F =>
      intro w mg fa h Y G hmg0
      obtain ⟨K, KX, c, e⟩ := Y
      have hmg : mg ("law" : PySem.Str) = some (.ref fa) := by
        have e : (HandSHeadRun.topDef (OpenLaw.row PySem.Challenge.rw_everybowl_k10_corners_of_subsets).prog 49).name = ("law" : PySem.Str) := by kernel_rfl
        rw [← e]
        exact hmg0
      obtain ⟨fd, hb, hF⟩ := PD.Law.facts (w := w) KX G hmg c e
      exact ⟨K, fd, _, KX, hb, fun H a ns hl _ hS => PD.Law.sp_ok hl hS, hF⟩
    case cx =>
      intro w H s e s' z
      obtain ⟨a, B, H', cls, d, _, _, _, _, _, _, _, f⟩ := z
      exact f
end
