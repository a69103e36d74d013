import PyProof.Rows.All
import Wide.All
import OpenK.AllK
import Wide.FinOn
import HandS.ForMost
import HandS.ForExc
import HandS.TupAny
import HandS.TupLe
import HandS.Wide
import HandS.WideBits
import HandS.Style
import HandS.TupMul
import HandS.Deep
import KE.KTupSum
import HandS.IsInst
import KE.KRevSl
import HandS.Walk
import HandS.Iter
import HandS.Comp
import HandS.Defaults
import HandS.HeadHook1
import HandS.ExcOwn
import HandS.TryMany
import HandS.Words
import HandS.HeadHook2
import HandS.HeadHook4
import HandS.Ends
import HandS.More
import HandS.Head0
import HandS.Head1
import HandS.Head2
import HandS.HeadEnd
import PySem.Challenge.RW_everypicture_k58_median_passes
set_option Elab.async false
set_option linter.all false
set_option exponentiation.threshold 500
set_option maxRecDepth 100000
set_option maxHeartbeats 0
/-! Di: an evaluator over data for a part of Python. This part: values, the tree, the evaluator. -/
namespace Di
open PySem
abbrev D := PyData
/-- what changes: a list, a dict, a set -/
inductive M where
  | lst (xs : List D) | dct (kvs : List (D × D)) | set (xs : List D)
/-- what stands in a slot: a value; an object of the slot's own; the j-th lent object; a caught error with its field -/
inductive Sl where
  | v (d : D) | m (x : M) | l (j : Nat) | e (d : Option D)
/-- what an expression gives: a value; a new object; the object of slot i -/
inductive R where
  | v (d : D) | m (x : M) | a (i : Nat)
/-- a value or an object, looked at -/
inductive RM where
  | v (d : D) | m (x : M)
structure Env where
  sl : List (Option Sl)
  le : List M
inductive Out (α : Type) where
  | ok (a : α) (e : Env) | exc (c : Nat) (d : Option D) (e : Env) | no
/-- a statement's end -/
inductive Fl where
  | nx (e : Env) | rt (r : R) (e : Env) | bk (e : Env) | ct (e : Env) | exc (c : Nat) (d : Option D) (e : Env) | no
/-- a call's end: the lent objects as they are left -/
inductive CO where
  | ok (r : RM) (le : List M) | exc (c : Nat) (d : Option D) (le : List M) | no
abbrev Calls := Nat → List Sl → List M → CO
def LINE : Nat := 16777216
/-! ### the tree -/
inductive Ty where
  | int | bool | str | tup | lst
  deriving DecidableEq, Repr
/-- built-ins that look at values -/
inductive Bi where
  | len | int | abs | min | max | sum | sorted | tuple | list | set | repr | str | all | any
  deriving DecidableEq, Repr
/-- methods that look at values -/
inductive Mt where
  | bits | join | index | count | get
  deriving DecidableEq, Repr
inductive Tg where
  | n (i : Nat) | t (is : List Nat)
mutual
inductive E where
  | lit (c : PySem.Const)
  | var (i : Nat)
  | glo (i : Nat)
  | bin (op : Operator) (a b : E)
  | cmp (op : CmpOp) (a b : E)
  | chn (op op2 : CmpOp) (a b c : E)
  | isN (neg : Bool) (a : E)
  | isB (v neg : Bool) (a : E)
  | neg (a : E)
  | notE (a : E)
  | andE (a b : E)
  | orE (a b : E)
  | ife (t : T) (a b : E)
  | tup (es : Es)
  | lst (es : Es)
  | sub (a b : E)
  | slc (a : E) (lo hi : Oe)
  | rvs (a : E)
  | call (f : Nat) (es : Es)
  | calk (f : Nat) (es ks : Es) (perm : List Nat)
  | blt (b : Bi) (es : Es)
  | isi (a : E) (ts : List Ty)
  | bits (a : E)
  | lc (g : Tg) (own : List Nat) (it : It) (c : Ts) (e : E)
  | lc2 (g : Tg) (own : List Nat) (it : It) (c1 : Ts) (g2 : Tg) (own2 : List Nat) (it2 : It) (c : Ts) (e : E)
  | dc (g : Tg) (own : List Nat) (it : It) (c : Ts) (k v : E)
  | exa (i : Nat)
inductive Es where
  | nil | cons (e : E) (es : Es)
inductive Oe where
  | none | some (e : E)
inductive T where
  | val (e : E) | tru (e : E) | not (t : T) | and (t u : T) | or (t u : T)
inductive Ts where
  | nil | one (t : T)
inductive It where
  | seq (e : E) | rng1 (a : E) | rng2 (a b : E) | rng3 (a b : E) (c : Int) | enum (e : E) | zip (a b : E) | rev (e : E)
end
mutual
inductive S where
  | set (i : Nat) (e : E)
  | setT (is : List Nat) (e : E)
  | setP (is : List Nat) (es : Es)
  | put (i : Nat) (k e : E)
  | aug (op : Operator) (i : Nat) (e : E)
  | exp (e : E)
  | app (i : Nat) (e : E)
  | ext (i : Nat) (e : E)
  | ret (e : E)
  | retN
  | ite (t : T) (a b : Ss)
  | for (g : Tg) (it : It) (b : Ss)
  | whl (fuel : Nat) (t : T) (b : Ss)
  | brk | cnt | pas | nev
  | rai (c : Nat) (es : Es)
  | tri (b : Ss) (hs : Hs)
inductive Ss where
  | nil | cons (s : S) (ss : Ss)
/-- except clauses: a class, the slot of its name, the suite -/
inductive Hs where
  | nil | cons (c : Nat) (i : Option Nat) (b : Ss) (hs : Hs)
end
/-! ### looking -/
def slot (env : Env) (i : Nat) : Option Sl := match env.sl[i]? with
  | some (some s) => some s
  | _ => none
def lookS (env : Env) : Sl → Option RM
  | .v d => some (.v d)
  | .m x => some (.m x)
  | .l j => (match env.le[j]? with
    | some x => some (.m x)
    | none => none)
  | .e _ => none
def de (env : Env) : R → Option RM
  | .v d => some (.v d)
  | .m x => some (.m x)
  | .a i => (match slot env i with
    | some s => lookS env s
    | none => none)
def RM.toD : RM → Option D
  | .v d => some d
  | .m (.lst xs) => some (.list xs)
  | _ => none
def RM.lst : RM → Option (List D)
  | .v (.list xs) => some xs
  | .m (.lst xs) => some xs
  | _ => none
def RM.tup : RM → Option (List D)
  | .v (.tuple xs) => some xs
  | _ => none
def RM.seq : RM → Option (List D)
  | .v (.tuple xs) => some xs
  | .v (.list xs) => some xs
  | .m (.lst xs) => some xs
  | _ => none
def setS (env : Env) (i : Nat) (s : Sl) : Env := ⟨env.sl.set i (some s), env.le⟩
def deAll (env : Env) : List R → Option (List RM)
  | [] => some []
  | r :: rs => (match de env r with
    | some x => (match deAll env rs with
      | some xs => some (x :: xs)
      | none => none)
    | none => none)
def Out.bind {α β : Type} (o : Out α) (f : α → Env → Out β) : Out β := match o with
  | .ok a e => f a e
  | .exc c d e => .exc c d e
  | .no => .no
def op1 (f : RM → Option R) (x : R) (env : Env) : Out R := match de env x with
  | some x => (match f x with
    | some r => .ok r env
    | none => .no)
  | none => .no
def op2 (f : RM → RM → Option R) (x y : R) (env : Env) : Out R := match de env x, de env y with
  | some x, some y => (match f x y with
    | some r => .ok r env
    | none => .no)
  | _, _ => .no
/-- into a tuple, a list: it never changes from then on -/
def freeze (r : R) (env : Env) : Out D := match r with
  | .v d => .ok d env
  | .m (.lst xs) => .ok (.list xs) env
  | .a i => (match slot env i with
    | some (.v d) => .ok d env
    | some (.m (.lst xs)) => .ok (.list xs) (setS env i (.v (.list xs)))
    | _ => .no)
  | _ => .no
/-- into a slot -/
def settle (r : R) (env : Env) : Out R := match r with
  | .v d => .ok (.v d) env
  | .m x => .ok (.m x) env
  | .a i => (freeze (.a i) env).bind fun d env => .ok (.v d) env
def toSl : R → Sl
  | .v d => .v d
  | .m x => .m x
  | .a _ => .v .none
def setAllS : List Nat → List R → Env → Env
  | i :: is, r :: rs, env => setAllS is rs (setS env i (toSl r))
  | _, _, env => env
/-- then a statement goes on -/
def Out.go {α : Type} (o : Out α) (k : α → Env → Fl) : Fl := match o with
  | .ok a e => k a e
  | .exc c d e => .exc c d e
  | .no => .no
def Fl.seq (o : Fl) (k : Env → Fl) : Fl := match o with
  | .nx e => k e
  | o => o
def Fl.loop (o : Fl) (again : Env → Fl) : Fl := match o with
  | .nx e => again e
  | .ct e => again e
  | .bk e => .nx e
  | o => o
/-- handed back -/
def fin (r : R) (env : Env) : Option RM := match r with
  | .v d => some (.v d)
  | .m x => some (.m x)
  | .a i => (match slot env i with
    | some (.v d) => some (.v d)
    | some (.m x) => some (.m x)
    | _ => none)
/-! ### data's operations -/
mutual
/-- data no deeper than n, without dicts -/
def nice : Nat → D → Bool
  | _, .none => true
  | _, .bool _ => true
  | _, .int _ => true
  | _, .str x => PyData.canLay0 (.str x)
  | 0, .list _ => false
  | 0, .tuple _ => false
  | n + 1, .list xs => niceAll n xs
  | n + 1, .tuple xs => niceAll n xs
  | _, .dict _ => false
def niceAll : Nat → List D → Bool
  | _, [] => true
  | n, x :: xs => nice n x && niceAll n xs
end
def b2i (b : Bool) : Int := if b then 1 else 0
def dAdd : RM → RM → Option R
  | .v (.int i), .v (.int j) => some (.v (.int (i + j)))
  | .v (.int i), .v (.bool b) => some (.v (.int (i + b2i b)))
  | .v (.str x), .v (.str y) => if x.length + y.length ≤ LINE then some (.v (.str (x ++ y))) else none
  | .v (.tuple xs), .v (.tuple ys) => if xs.length + ys.length ≤ LINE then some (.v (.tuple (xs ++ ys))) else none
  | x, y => (match x.lst, y.lst with
    | some xs, some ys => if xs.length + ys.length ≤ LINE then some (.m (.lst (xs ++ ys))) else none
    | _, _ => none)
def big (i : Int) : Bool := decide (i.natAbs < 2 ^ 20000)
def small (i : Int) : Bool := decide (i.natAbs < 2 ^ 64)
def dMul : RM → RM → Option R
  | .v (.int i), .v (.int j) => if (small i || small j || (big i && big j)) = true then some (.v (.int (i * j))) else none
  | .v (.tuple xs), .v (.int j) => if xs.length ≤ 1000 ∧ j ≤ 1000 ∧ -1000 ≤ j then some (.v (.tuple (List.replicate j.toNat xs).flatten)) else none
  | .m (.lst xs), .v (.int j) => if xs.length * j.toNat ≤ LINE ∧ j < 2 ^ 60 ∧ - 2 ^ 60 < j then some (.m (.lst (List.replicate j.toNat xs).flatten)) else none
  | _, _ => none
def dInt (f : Int → Int → Option Int) : RM → RM → Option R
  | .v (.int i), .v (.int j) => (match f i j with
    | some k => some (.v (.int k))
    | none => none)
  | _, _ => none
def dBin : Operator → RM → RM → Option R
  | .Add => dAdd
  | .Sub => dInt fun i j => some (i - j)
  | .Mult => dMul
  | .FloorDiv => dInt fun i j => if 0 < j ∧ j.natAbs < 2 ^ 8000 then some (i / j) else none
  | .Mod => dInt fun i j => if 0 < j then some (i % j) else none
  | .Pow => dInt fun i j => if 0 ≤ j ∧ j ≤ 64 ∧ i.natAbs < 2 ^ 200 then some (i ^ j.toNat) else none
  | .LShift => dInt fun i j => if 0 ≤ j ∧ j ≤ 100000 ∧ i.natAbs < 2 ^ 20000 then some (i * 2 ^ j.toNat) else none
  | .RShift => dInt fun i j => if 0 ≤ j then some (i / 2 ^ j.toNat) else none
  | .BitAnd => dInt fun i j => some (Builtin.bitAnd i j)
  | .BitOr => dInt fun i j => some (Builtin.bitOr i j)
  | .BitXor => dInt fun i j => some (Builtin.bitXor i j)
  | _ => fun _ _ => none
/-- == -/
def dEq (x y : RM) : Option Bool := match x.toD, y.toD with
  | some a, some b => if (nice 20 a && nice 20 b) = true then some (PyData.eqv a b) else none
  | _, _ => none
def dLt (x y : RM) : Option Bool := match x, y with
  | .v (.int i), .v (.int j) => some (decide (i < j))
  | _, _ => none
def dMem (x y : RM) : Option Bool := match x.toD, y.seq with
  | some a, some ys => if (nice 20 a && niceAll 20 ys) = true then some (ys.any fun z => PyData.eqv z a) else none
  | _, _ => none
def dCmpB : CmpOp → RM → RM → Option Bool
  | .Eq, x, y => dEq x y
  | .NotEq, x, y => (dEq x y).map (!·)
  | .Lt, x, y => dLt x y
  | .Gt, x, y => dLt y x
  | .LtE, x, y => (dLt y x).map (!·)
  | .GtE, x, y => (dLt x y).map (!·)
  | .In, x, y => dMem x y
  | .NotIn, x, y => (dMem x y).map (!·)
  | _, _, _ => none
def dCmp (op : CmpOp) (x y : RM) : Option R := (dCmpB op x y).map fun b => .v (.bool b)
def isNone : RM → Bool
  | .v .none => true
  | _ => false
def dNeg : RM → Option R
  | .v (.int i) => some (.v (.int (-i)))
  | _ => none
def dNot : RM → Option R
  | .v (.bool b) => some (.v (.bool (!b)))
  | _ => none
def dIsB (v neg : Bool) : RM → Option R
  | .v (.bool b) => some (.v (.bool ((b == v) != neg)))
  | _ => none
def dRvs : RM → Option R
  | .v (.tuple xs) => some (.v (.tuple xs.reverse))
  | x => (match x.lst with
    | some xs => some (.m (.lst xs.reverse))
    | none => none)
def dTy : Ty → RM → Bool
  | .int, .v (.int _) => true
  | .int, .v (.bool _) => true
  | .bool, .v (.bool _) => true
  | .str, .v (.str _) => true
  | .tup, .v (.tuple _) => true
  | .lst, .v (.list _) => true
  | .lst, .m (.lst _) => true
  | _, _ => false
/-- an index from either end -/
def ixD (n : Nat) (i : Int) : Option Nat := if 0 ≤ i then (if i < n then some i.toNat else none) else if -(n : Int) ≤ i then some (i + n).toNat else none
def dSub : RM → RM → Option R
  | x, .v (.int i) => (match x.seq with
    | some xs => (match ixD xs.length i with
      | some j => (match xs[j]? with
        | some d => some (.v d)
        | none => none)
      | none => none)
    | none => (match x with
      | .v (.str s) => if LINE < s.length then none else (match ixD s.length i with
        | some j => (match s.cps.toList[j]? with
          | some c => some (.v (.str ⟨#[c]⟩))
          | none => none)
        | none => none)
      | _ => none))
  | _, _ => none
def sIx (n d : Nat) : Option Int → Nat
  | none => d
  | some i => if i < 0 then (i + n).toNat else min i.toNat n
def cut {α : Type} (xs : List α) (lo hi : Option Int) : List α := (xs.drop (sIx xs.length 0 lo)).take (sIx xs.length xs.length hi - sIx xs.length 0 lo)
def dSlc (lo hi : Option Int) : RM → Option R
  | .v (.tuple xs) => some (.v (.tuple (cut xs lo hi)))
  | .v (.str s) => if s.length ≤ LINE then some (.v (.str ⟨(cut s.cps.toList lo hi).toArray⟩)) else none
  | x => (match x.lst with
    | some xs => some (.m (.lst (cut xs lo hi)))
    | none => none)
def ints? : List D → Option (List Int)
  | [] => some []
  | .int i :: r => (match ints? r with
    | some is => some (i :: is)
    | none => none)
  | _ :: _ => none
def bools? : List D → Option (List Bool)
  | [] => some []
  | .bool i :: r => (match bools? r with
    | some is => some (i :: is)
    | none => none)
  | _ :: _ => none
def minL : Int → List Int → Int
  | m, [] => m
  | m, i :: r => minL (if i < m then i else m) r
def maxL : Int → List Int → Int
  | m, [] => m
  | m, i :: r => maxL (if i > m then i else m) r
def dBlt : Bi → List RM → Option R
  | .len, [x] => (match x.seq with
    | some xs => some (.v (.int xs.length))
    | none => (match x with
      | .v (.str s) => if s.length ≤ LINE then some (.v (.int s.length)) else none
      | _ => none))
  | .int, [.v (.int i)] => some (.v (.int i))
  | .int, [.v (.bool b)] => some (.v (.int (b2i b)))
  | .abs, [.v (.int i)] => some (.v (.int (if i < 0 then -i else i)))
  | .min, [.v (.int i), .v (.int j)] => some (.v (.int (if j < i then j else i)))
  | .max, [.v (.int i), .v (.int j)] => some (.v (.int (if j > i then j else i)))
  | .min, [x] => (match x.lst with
    | some xs => (match ints? xs with
      | some (i :: is) => some (.v (.int (minL i is)))
      | _ => none)
    | none => none)
  | .max, [x] => (match x.lst with
    | some xs => (match ints? xs with
      | some (i :: is) => some (.v (.int (maxL i is)))
      | _ => none)
    | none => none)
  | .sum, [x] => (match x.seq with
    | some xs => (match ints? xs with
      | some is => some (.v (.int is.sum))
      | none => none)
    | none => none)
  | .all, [x] => (match x.lst with
    | some xs => (match bools? xs with
      | some bs => some (.v (.bool (bs.all id)))
      | none => none)
    | none => none)
  | .any, [x] => (match x.lst with
    | some xs => (match bools? xs with
      | some bs => some (.v (.bool (bs.any id)))
      | none => none)
    | none => none)
  | .tuple, [x] => (match x.seq with
    | some xs => some (.v (.tuple xs))
    | none => none)
  | .list, [x] => (match x.seq with
    | some xs => some (.m (.lst xs))
    | none => none)
  | _, _ => none
def bitLen (i : Int) : Nat := if i = 0 then 0 else i.natAbs.log2 + 1
def dMth : Mt → RM → List RM → Option R
  | .bits, .v (.int i), [] => some (.v (.int (bitLen i)))
  | _, _, _ => none
def litD : PySem.Const → Option D
  | .none => some .none
  | .bool b => some (.bool b)
  | .int i => some (.int i)
  | .str s => some (.str s)
  | _ => none
def truD : RM → Option Bool
  | .v .none => some false
  | .v (.bool b) => some b
  | .v (.int i) => some (i != 0)
  | .v (.str s) => if s.length ≤ LINE then some (s.length != 0) else none
  | x => (match x.seq with
    | some xs => some (!xs.isEmpty)
    | none => none)
/-! ### calls -/
inductive Org where
  | s (i : Nat) | l (j : Nat)
  deriving DecidableEq
/-- the callee's slots, what is lent, and from where -/
def prep (env : Env) : List R → Nat → Option (List Sl × List M × List Org)
  | [], _ => some ([], [], [])
  | .v d :: rs, k => (match prep env rs k with
    | some (a, b, c) => some (.v d :: a, b, c)
    | none => none)
  | .m x :: rs, k => (match prep env rs k with
    | some (a, b, c) => some (.m x :: a, b, c)
    | none => none)
  | .a i :: rs, k => (match slot env i with
    | some (.v d) => (match prep env rs k with
      | some (a, b, c) => some (.v d :: a, b, c)
      | none => none)
    | some (.m x) => (match prep env rs (k + 1) with
      | some (a, b, c) => some (.l k :: a, x :: b, .s i :: c)
      | none => none)
    | some (.l j) => (match env.le[j]?, prep env rs (k + 1) with
      | some x, some (a, b, c) => some (.l k :: a, x :: b, .l j :: c)
      | _, _ => none)
    | _ => none)
/-- the lent objects come back -/
def back : Env → List Org → List M → Env
  | env, .s i :: os, x :: xs => back (setS env i (.m x)) os xs
  | env, .l j :: os, x :: xs => back ⟨env.sl, env.le.set j x⟩ os xs
  | env, _, _ => env
def pick {α : Type} (perm : List Nat) (xs : List α) : List α := perm.filterMap fun j => xs[j]?
def doCall (F : Calls) (f : Nat) (rs : List R) (env : Env) : Out R := match prep env rs 0 with
  | some (a, b, c) => if c.Nodup then (match F f a b with
    | .ok (.v d) le => .ok (.v d) (back env c le)
    | .ok (.m x) le => .ok (.m x) (back env c le)
    | .exc k d le => .exc k d (back env c le)
    | .no => .no) else .no
  | none => .no
/-! ### targets, what is walked -/
def setAll : List Nat → List D → Env → Env
  | i :: is, d :: ds, env => setAll is ds (setS env i (.v d))
  | _, _, env => env
def bindT : Tg → D → Env → Option Env
  | .n i, d, env => some (setS env i (.v d))
  | .t is, .tuple ds, env => if ds.length = is.length then some (setAll is ds env) else none
  | .t _, _, _ => none
/-- what is walked; the lent object that it is -/
structure Src where
  ds : List D
  al : Option (Nat × List D)
def isLst (xs : List D) : Option M → Prop
  | some (.lst ys) => ys = xs
  | _ => False
open Classical in
noncomputable def stands (s : Src) (env : Env) : Bool := match s.al with
  | none => true
  | some (j, xs) => decide (isLst xs env.le[j]?)
def srcOf (r : R) (env : Env) : Out Src := match r with
  | .v (.tuple ds) => .ok ⟨ds, none⟩ env
  | .v (.list ds) => .ok ⟨ds, none⟩ env
  | .m (.lst ds) => .ok ⟨ds, none⟩ env
  | .a i => (match slot env i with
    | some (.m (.lst ds)) => .ok ⟨ds, none⟩ (setS env i (.v (.list ds)))
    | some (.l j) => (match env.le[j]? with
      | some (.lst ds) => .ok ⟨ds, some (j, ds)⟩ env
      | _ => .no)
    | _ => .no)
  | _ => .no
/-- a list alone -/
def srcLst (r : R) (env : Env) : Out Src := match r with
  | .v (.tuple _) => .no
  | r => srcOf r env
def enumD : Nat → List D → List D
  | _, [] => []
  | k, d :: ds => .tuple [.int k, d] :: enumD (k + 1) ds
def rangeD (lo : Int) (n : Nat) : List D := (List.range n).map fun k => .int (lo + (k : Nat))
def wipeE (env : Env) : List Nat → Env
  | [] => env
  | i :: is => ⟨(wipeE env is).sl.set i none, env.le⟩
/-- the slots of a block's own names as they were -/
def unwipe (old env : Env) : List Nat → Env
  | [] => env
  | i :: is => (match old.sl[i]? with
    | some s => ⟨(unwipe old env is).sl.set i s, env.le⟩
    | none => unwipe old env is)
noncomputable def loopF (g : Tg) (chk : Env → Bool) (body : Env → Fl) : List D → Env → Fl
  | [], env => .nx env
  | d :: ds, env => (match bindT g d env with
    | none => .no
    | some env => (body env).loop fun env => if chk env = true then loopF g chk body ds env else .no)
noncomputable def loopC (g : Tg) (own : List Nat) (chk : Env → Bool) (turn : Env → Out (List D)) : List D → Env → Out (List D)
  | [], env => .ok [] env
  | d :: ds, env => (match bindT g d env with
    | none => .no
    | some env => (turn env).bind fun ys env => if chk env = true then (loopC g own chk turn ds (wipeE env own)).bind fun yss env => .ok (ys ++ yss) env else .no)
noncomputable def loopW (t : Env → Out Bool) (body : Env → Fl) : Nat → Env → Fl
  | 0, _ => .no
  | n + 1, env => (t env).go fun b env => if b = true then (body env).loop (loopW t body n) else .nx env
/-- a comprehension's list; no error leaves it -/
def madeC (own : List Nat) (env : Env) : Out (List D) → Out R
  | .ok ys env' => if ys.length ≤ LINE then .ok (.m (.lst ys)) (unwipe env env' own) else .no
  | _ => .no
/-- one turn: the test, the item -/
def turn1 (c : Env → Out Bool) (e : Env → Out D) (env : Env) : Out (List D) := (c env).bind fun b env => if b = true then (e env).bind fun y env => .ok [y] env else .ok [] env
/-! ### expressions' parts -/
def varR (i : Nat) (env : Env) : Out R := match slot env i with
    | some (.v d) => .ok (.v d) env
    | some (.m _) => .ok (.a i) env
    | some (.l _) => .ok (.a i) env
    | _ => .no
def litR (c : PySem.Const) (env : Env) : Out R := match litD c with
    | some d => .ok (.v d) env
    | none => .no
def gloR (o : Option D) (env : Env) : Out R := match o with
    | some d => .ok (.v d) env
    | none => .no
def chnR (op op2' : CmpOp) (fc : Env → Out R) (x y : R) (env : Env) : Out R := match de env x, de env y with
    | some x, some y' => (match dCmpB op x y' with
      | some true => (fc env).bind fun z env => op2 (dCmp op2') y z env
      | some false => .ok (.v (.bool false)) env
      | none => .no)
    | _, _ => .no
def andR (fb : Env → Out R) (x : R) (env : Env) : Out R := match x with
    | .v (.bool true) => fb env
    | .v (.bool false) => .ok (.v (.bool false)) env
    | _ => .no
def orR (fb : Env → Out R) (x : R) (env : Env) : Out R := match x with
    | .v (.bool true) => .ok (.v (.bool true)) env
    | .v (.bool false) => fb env
    | _ => .no
def tupR (ds : List D) (env : Env) : Out R := if ds.length ≤ LINE then .ok (.v (.tuple ds)) env else .no
def lstR (ds : List D) (env : Env) : Out R := if ds.length ≤ LINE then .ok (.m (.lst ds)) env else .no
def bltR (b : Bi) (rs : List R) (env : Env) : Out R := match deAll env rs with
    | some xs => (match dBlt b xs with
      | some r => .ok r env
      | none => .no)
    | none => .no
def isiG (ts : List Ty) (x : RM) : Option R := some (.v (.bool (ts.any fun t => dTy t x)))
def isnG (neg : Bool) (x : RM) : Option R := some (.v (.bool (isNone x != neg)))
def bitG (x : RM) : Option R := dMth .bits x []
def exaR (i : Nat) (env : Env) : Out R := match slot env i with
    | some (.e (some d)) => .ok (.v d) env
    | _ => .no
def partR (r : R) (env : Env) : Out (Option Int) := match r with
    | .v (.int i) => .ok (some i) env
    | _ => .no
def valT (r : R) (env : Env) : Out Bool := match r with
    | .v (.bool b) => .ok b env
    | _ => .no
def truT (r : R) (env : Env) : Out Bool := match de env r with
    | some x => (match truD x with
      | some b => .ok b env
      | none => .no)
    | none => .no
noncomputable def rng1D (r : R) (env : Env) : Out Src := match r with
    | .v (.int n) => @ite _ (n ≤ LINE ∧ - 2 ^ 60 < n) (Classical.propDecidable _) (.ok ⟨rangeD 0 n.toNat, none⟩ env) .no
    | _ => .no
noncomputable def rng2D (r r2 : R) (env : Env) : Out Src := match r, r2 with
    | .v (.int lo), .v (.int hi) => @ite _ (hi - lo ≤ LINE ∧ (- 2 ^ 60 < lo ∧ lo < 2 ^ 60 ∧ hi < 2 ^ 60 ∧ - 2 ^ 60 < hi)) (Classical.propDecidable _) (.ok ⟨rangeD lo (hi - lo).toNat, none⟩ env) .no
    | _, _ => .no
def enumI (s : Src) (env : Env) : Out Src := .ok ⟨enumD 0 s.ds, s.al⟩ env
/-! ### statements' parts -/
def tupOf (r : R) (env : Env) : Out (List D) := match de env r with
  | some (.v (.tuple ds)) => .ok ds env
  | _ => .no
def intOf (r : R) (env : Env) : Out Int := match r with
  | .v (.int i) => .ok i env
  | _ => .no
/-- the object of slot i changes -/
def chg (f : M → Option M) (i : Nat) (env : Env) : Fl := match slot env i with
  | some (.m x) => (match f x with
    | some y => .nx (setS env i (.m y))
    | none => .no)
  | some (.l j) => (match env.le[j]? with
    | some x => (match f x with
      | some y => .nx ⟨env.sl, env.le.set j y⟩
      | none => .no)
    | none => .no)
  | _ => .no
def putM (k : Int) (d : D) : M → Option M
  | .lst xs => (match ixD xs.length k with
    | some j => some (.lst (xs.set j d))
    | none => none)
  | _ => none
def isLs (env : Env) (i : Nat) : Bool := match de env (.a i) with
  | some (.m (.lst _)) => true
  | _ => false
def dAug : Operator → RM → RM → Option R
  | .Add => dInt fun i j => some (i + j)
  | .Sub => dInt fun i j => some (i - j)
  | _ => fun _ _ => none
def augR (i : Nat) (r : R) (env : Env) : Fl := match r with
  | .v z => .nx (setS env i (.v z))
  | _ => .no
def appD (d : D) : M → Option M
  | .lst xs => if xs.length < LINE then some (.lst (xs ++ [d])) else none
  | _ => none
def extD (r : RM) : M → Option M
  | .lst xs => (match r with
    | .m (.lst ys) => if xs.length + ys.length ≤ LINE then some (.lst (xs ++ ys)) else none
    | _ => none)
  | _ => none
def raiD (c : Nat) (ds : List D) (env : Env) : Fl := match ds with
  | [] => .exc c none env
  | [d] => .exc c (some d) env
  | _ => .no
/-! ### the evaluator -/
mutual
noncomputable def evE (G : Nat → Option D) (F : Calls) : E → Env → Out R
  | .lit c, env => litR c env
  | .var i, env => varR i env
  | .glo i, env => gloR (G i) env
  | .bin op a b, env => (evE G F a env).bind fun x env => (evE G F b env).bind fun y env => op2 (dBin op) x y env
  | .cmp op a b, env => (evE G F a env).bind fun x env => (evE G F b env).bind fun y env => op2 (dCmp op) x y env
  | .chn op op' a b c, env => (evE G F a env).bind fun x env => (evE G F b env).bind fun y env => chnR op op' (fun env => evE G F c env) x y env
  | .isN neg a, env => (evE G F a env).bind fun x env => op1 (isnG neg) x env
  | .isB v neg a, env => (evE G F a env).bind fun x env => op1 (dIsB v neg) x env
  | .neg a, env => (evE G F a env).bind fun x env => op1 dNeg x env
  | .notE a, env => (evE G F a env).bind fun x env => op1 dNot x env
  | .andE a b, env => (evE G F a env).bind fun x env => andR (fun env => evE G F b env) x env
  | .orE a b, env => (evE G F a env).bind fun x env => orR (fun env => evE G F b env) x env
  | .ife t a b, env => (evT G F t env).bind fun c env => if c = true then evE G F a env else evE G F b env
  | .tup es, env => (evZ G F es env).bind tupR
  | .lst es, env => (evZ G F es env).bind lstR
  | .sub a b, env => (evE G F a env).bind fun x env => (evE G F b env).bind fun y env => op2 dSub x y env
  | .slc a lo hi, env => (evE G F a env).bind fun x env => (evO G F lo env).bind fun l env => (evO G F hi env).bind fun h env => op1 (dSlc l h) x env
  | .rvs a, env => (evE G F a env).bind fun x env => op1 dRvs x env
  | .call f es, env => (evA G F es env).bind fun rs env => doCall F f rs env
  | .calk f es ks perm, env => (evA G F es env).bind fun rs env => (evA G F ks env).bind fun zs env => doCall F f (pick perm (rs ++ zs)) env
  | .blt b es, env => (evA G F es env).bind fun rs env => bltR b rs env
  | .isi a ts, env => (evE G F a env).bind fun x env => op1 (isiG ts) x env
  | .bits a, env => (evE G F a env).bind fun x env => op1 bitG x env
  | .lc g own it c e, env => (evI G F it env).bind fun src env =>
      madeC own env (loopC g own (stands src) (turn1 (fun env => evTs G F c env) (fun env => (evE G F e env).bind freeze)) src.ds (wipeE env own))
  | .lc2 g own it c1 g2 own2 it2 c e, env => (evI G F it env).bind fun src env =>
      madeC own env (loopC g own (stands src) (fun env => (evTs G F c1 env).bind fun b env => if b = true then (evI G F it2 env).bind fun src2 env =>
        loopC g2 own2 (stands src2) (turn1 (fun env => evTs G F c env) (fun env => (evE G F e env).bind freeze)) src2.ds (wipeE env own2) else .ok [] env) src.ds (wipeE env own))
  | .dc .., _ => .no
  | .exa i, env => exaR i env
/-- arguments of a call -/
noncomputable def evA (G : Nat → Option D) (F : Calls) : Es → Env → Out (List R)
  | .nil, env => .ok [] env
  | .cons e es, env => (evE G F e env).bind fun r env => (evA G F es env).bind fun rs env => .ok (r :: rs) env
/-- items of a display -/
noncomputable def evZ (G : Nat → Option D) (F : Calls) : Es → Env → Out (List D)
  | .nil, env => .ok [] env
  | .cons e es, env => ((evE G F e env).bind freeze).bind fun d env => (evZ G F es env).bind fun ds env => .ok (d :: ds) env
/-- the right side of a, b = .. -/
noncomputable def evP (G : Nat → Option D) (F : Calls) : Es → Env → Out (List R)
  | .nil, env => .ok [] env
  | .cons e es, env => ((evE G F e env).bind settle).bind fun d env => (evP G F es env).bind fun ds env => .ok (d :: ds) env
noncomputable def evO (G : Nat → Option D) (F : Calls) : Oe → Env → Out (Option Int)
  | .none, env => .ok none env
  | .some e, env => (evE G F e env).bind partR
noncomputable def evT (G : Nat → Option D) (F : Calls) : T → Env → Out Bool
  | .val e, env => (evE G F e env).bind valT
  | .tru e, env => (evE G F e env).bind truT
  | .not t, env => (evT G F t env).bind fun b env => .ok (!b) env
  | .and t u, env => (evT G F t env).bind fun b env => if b = true then evT G F u env else .ok false env
  | .or t u, env => (evT G F t env).bind fun b env => if b = true then .ok true env else evT G F u env
noncomputable def evTs (G : Nat → Option D) (F : Calls) : Ts → Env → Out Bool
  | .nil, env => .ok true env
  | .one t, env => evT G F t env
noncomputable def evI (G : Nat → Option D) (F : Calls) : It → Env → Out Src
  | .seq e, env => (evE G F e env).bind srcOf
  | .enum e, env => (evE G F e env).bind fun r env => (srcLst r env).bind enumI
  | .rng1 a, env => (evE G F a env).bind rng1D
  | .rng2 a b, env => (evE G F a env).bind fun r env => (evE G F b env).bind fun r2 env => rng2D r r2 env
  | _, _ => .no
end
mutual
noncomputable def exS (G : Nat → Option D) (F : Calls) : S → Env → Fl
  | .set i e, env => ((evE G F e env).bind settle).go fun r env => .nx (setS env i (toSl r))
  | .setT is e, env => ((evE G F e env).bind tupOf).go fun ds env => if ds.length = is.length then .nx (setAll is ds env) else .no
  | .setP is es, env => (evP G F es env).go fun rs env => if rs.length = is.length then .nx (setAllS is rs env) else .no
  | .put i k e, env => ((evE G F e env).bind freeze).go fun d env => if isLs env i = true then ((evE G F k env).bind intOf).go fun k env => chg (putM k d) i env else .no
  | .aug op i e, env => (match slot env i with
    | some (.v d) => ((evE G F e env).bind fun y env => op2 (dAug op) (.v d) y env).go fun r env => augR i r env
    | _ => .no)
  | .exp e, env => (evE G F e env).go fun _ env => .nx env
  | .app i e, env => if isLs env i = true then ((evE G F e env).bind freeze).go fun d env => chg (appD d) i env else .no
  | .ext i e, env => if isLs env i = true then (evE G F e env).go fun r env => (match de env r with
      | some x => chg (extD x) i env
      | none => .no) else .no
  | .ret e, env => (evE G F e env).go fun r env => .rt r env
  | .retN, env => .rt (.v .none) env
  | .ite t a b, env => (evT G F t env).go fun c env => if c = true then exSs G F a env else exSs G F b env
  | .for g it b, env => (evI G F it env).go fun src env => loopF g (stands src) (fun env => exSs G F b env) src.ds env
  | .whl n t b, env => loopW (fun env => evT G F t env) (fun env => exSs G F b env) n env
  | .brk, env => .bk env
  | .cnt, env => .ct env
  | .pas, env => .nx env
  | .nev, env => .no
  | .rai c es, env => (evZ G F es env).go fun ds env => raiD c ds env
  | .tri b hs, env => (match exSs G F b env with
    | .exc c d env => exHs G F hs c d env
    | o => o)
noncomputable def exSs (G : Nat → Option D) (F : Calls) : Ss → Env → Fl
  | .nil, env => .nx env
  | .cons s ss, env => (exS G F s env).seq fun env => exSs G F ss env
noncomputable def exHs (G : Nat → Option D) (F : Calls) : Hs → Nat → Option D → Env → Fl
  | .nil, c, d, env => .exc c d env
  | .cons c' i b hs, c, d, env => if c' = c ∨ c' = 0 then (match i with
      | none => exSs G F b env
      | some i => exSs G F b (setS env i (.e d))) else exHs G F hs c d env
end
/-- a def: how many parameters, how many slots, the body -/
structure Fn where
  np : Nat
  n : Nat
  body : Ss
structure Prog where
  fns : List Fn
  glo : Nat → Option D
/-- calls to the depth k -/
noncomputable def rn (P : Prog) : Nat → Calls
  | 0, _, _, _ => .no
  | k + 1, f, as, le => (match P.fns[f]? with
    | some fn => if as.length = fn.np then (match exSs P.glo (rn P k) fn.body ⟨as.map some ++ List.replicate (fn.n - fn.np) none, le⟩ with
      | .rt r env => (match fin r env with
        | some x => .ok x env.le
        | none => .no)
      | .nx env => .ok (.v .none) env.le
      | .exc c d env => .exc c d env.le
      | _ => .no) else .no
    | none => .no)
end Di
namespace Di
open PySem PySem.Spec PyProof.Rows L2
abbrev St := L2.St
/-! ### data in the abstract heap, for ever -/
def FzL (H : Hp) (a : Addr) (xs : List V) : Prop := ∃ o, H a = some (.frz o (.lst xs))
theorem FzL.rd {H : Hp} {a : Addr} {xs : List V} (h : FzL H a xs) : Rd H a (.lst xs) := .inr h
/-- a list that never changes: frozen, or of the written part -/
def SqF (K : PySem.W.Frag) (H : Hp) (a : Addr) (xs : List V) : Prop := FzL H a xs ∨ ∃ (o : Obj) (its : Array Value) (n : Nat), K.lookup a = some o ∧ o.cls = .type "list" ∧ o.dict = none ∧ o.data = .seq its n ∧ its.size ≤ sizeLine ∧ Vals xs its.toList
theorem SqF.sq {K : PySem.W.Frag} {H : Hp} {a : Addr} {xs : List V} (h : SqF K H a xs) : SqL K H a xs := by
  rcases h with h | h
  · exact .inl h.rd
  · exact .inr h
theorem FzL.sq {K : PySem.W.Frag} {H : Hp} {a : Addr} {xs : List V} (h : FzL H a xs) : SqL K H a xs := .inl h.rd
mutual
inductive Pd (K : PySem.W.Frag) (H : Hp) : V → D → Prop
  | non : Pd K H .non .none
  | bl (b : Bool) : Pd K H (.bl b) (.bool b)
  | int (i : Int) : Pd K H (.int i) (.int i)
  | str (x : Str) : Pd K H (.str x) (.str x)
  | lst {a : Addr} {xs : List V} {ds : List D} : SqF K H a xs → xs.length ≤ sizeLine → PdA K H xs ds → Pd K H (.ref a) (.list ds)
  | tup {a : Addr} {xs : List V} {ds : List D} : SqT K H a xs → xs.length ≤ sizeLine → PdA K H xs ds → Pd K H (.ref a) (.tuple ds)
inductive PdA (K : PySem.W.Frag) (H : Hp) : List V → List D → Prop
  | nil : PdA K H [] []
  | cons {v : V} {vs : List V} {d : D} {ds : List D} : Pd K H v d → PdA K H vs ds → PdA K H (v :: vs) (d :: ds)
end
/-- what never changes stands -/
structure Kp (H H' : Hp) : Prop where
  tup : ∀ a xs, H a = some (.tup xs) → H' a = some (.tup xs)
  frz : ∀ a o u, H a = some (.frz o u) → H' a = some (.frz o u)
theorem Kp.refl (H : Hp) : Kp H H := ⟨fun _ _ h => h, fun _ _ _ h => h⟩
theorem Kp.sqT {K : PySem.W.Frag} {H H' : Hp} {a : Addr} {xs : List V} (k : Kp H H') (h : SqT K H a xs) : SqT K H' a xs := by
  rcases h with (h | ⟨o, h⟩) | h
  · exact .inl (.inl (k.tup _ _ h))
  · exact .inl (.inr ⟨o, k.frz _ _ _ h⟩)
  · exact .inr h
theorem Kp.sqF {K : PySem.W.Frag} {H H' : Hp} {a : Addr} {xs : List V} (k : Kp H H') (h : SqF K H a xs) : SqF K H' a xs := by
  rcases h with ⟨o, h⟩ | h
  · exact .inl ⟨o, k.frz _ _ _ h⟩
  · exact .inr h
theorem Kp.fzL {H H' : Hp} {a : Addr} {xs : List V} (k : Kp H H') (h : FzL H a xs) : FzL H' a xs := let ⟨o, h⟩ := h; ⟨o, k.frz _ _ _ h⟩
mutual
theorem Pd.keep {K : PySem.W.Frag} {H H' : Hp} (k : Kp H H') : ∀ {v : V} {d : D}, Pd K H v d → Pd K H' v d
  | _, _, .non => .non
  | _, _, .bl b => .bl b
  | _, _, .int i => .int i
  | _, _, .str x => .str x
  | _, _, .lst h z a => .lst (k.sqF h) z (PdA.keep k a)
  | _, _, .tup h z a => .tup (k.sqT h) z (PdA.keep k a)
theorem PdA.keep {K : PySem.W.Frag} {H H' : Hp} (k : Kp H H') : ∀ {vs : List V} {ds : List D}, PdA K H vs ds → PdA K H' vs ds
  | _, _, .nil => .nil
  | _, _, .cons h t => .cons (Pd.keep k h) (PdA.keep k t)
end
mutual
theorem Pd.dp {K : PySem.W.Frag} {H : Hp} : ∀ {v : V} {d : D}, Pd K H v d → Dp K H v d
  | _, _, .non => .non
  | _, _, .bl b => .bl b
  | _, _, .int i => .int i
  | _, _, .str x => .str x
  | _, _, .lst h _ a => .lst h.sq (PdA.dp a)
  | _, _, .tup h _ a => .tup h (PdA.dp a)
theorem PdA.dp {K : PySem.W.Frag} {H : Hp} : ∀ {vs : List V} {ds : List D}, PdA K H vs ds → DpAll K H vs ds
  | _, _, .nil => .nil
  | _, _, .cons h t => .cons (Pd.dp h) (PdA.dp t)
end
section
variable {K : PySem.W.Frag} {H H' : Hp}
theorem PdA.length : ∀ {vs : List V} {ds : List D}, PdA K H vs ds → vs.length = ds.length
  | _, _, .nil => rfl
  | _, _, .cons _ t => congrArg Nat.succ (PdA.length t)
theorem PdA.get : ∀ {vs : List V} {ds : List D} {i : Nat} {d : D}, PdA K H vs ds → ds[i]? = some d → ∃ v, vs[i]? = some v ∧ Pd K H v d
  | _, _, _, _, .nil, e => by simp at e
  | _, _, 0, _, .cons h _, e => by simp at e; subst e; exact ⟨_, rfl, h⟩
  | _, _, i + 1, d, .cons _ t, e => by
    obtain ⟨v, h1, h2⟩ := PdA.get (i := i) (d := d) t (by simpa using e)
    exact ⟨v, by simpa using h1, h2⟩
theorem PdA.getV : ∀ {vs : List V} {ds : List D} {i : Nat} {v : V}, PdA K H vs ds → vs[i]? = some v → ∃ d, ds[i]? = some d ∧ Pd K H v d
  | _, _, _, _, .nil, e => by simp at e
  | _, _, 0, _, .cons h _, e => by simp at e; subst e; exact ⟨_, rfl, h⟩
  | _, _, i + 1, v, .cons _ t, e => by
    obtain ⟨d, h1, h2⟩ := PdA.getV (i := i) (v := v) t (by simpa using e)
    exact ⟨d, by simpa using h1, h2⟩
theorem PdA.append : ∀ {vs ws : List V} {ds es : List D}, PdA K H vs ds → PdA K H ws es → PdA K H (vs ++ ws) (ds ++ es)
  | _, _, _, _, .nil, h => h
  | _, _, _, _, .cons h t, h' => .cons h (PdA.append t h')
theorem PdA.one {v : V} {d : D} (h : Pd K H v d) : PdA K H [v] [d] := .cons h .nil
theorem PdA.drop : ∀ {vs : List V} {ds : List D} (n : Nat), PdA K H vs ds → PdA K H (vs.drop n) (ds.drop n)
  | _, _, 0, h => h
  | _, _, _ + 1, .nil => .nil
  | _, _, n + 1, .cons _ t => PdA.drop n t
theorem PdA.take : ∀ {vs : List V} {ds : List D} (n : Nat), PdA K H vs ds → PdA K H (vs.take n) (ds.take n)
  | _, _, 0, _ => .nil
  | _, _, _ + 1, .nil => .nil
  | _, _, n + 1, .cons h t => .cons h (PdA.take n t)
theorem PdA.set : ∀ {vs : List V} {ds : List D} {v : V} {d : D} (i : Nat), PdA K H vs ds → Pd K H v d → PdA K H (vs.set i v) (ds.set i d)
  | _, _, _, _, _, .nil, _ => .nil
  | _, _, _, _, 0, .cons _ t, h => .cons h t
  | _, _, _, _, n + 1, .cons h t, h' => .cons h (PdA.set n t h')
theorem PdA.rep {vs : List V} {ds : List D} (h : PdA K H vs ds) : ∀ n : Nat, PdA K H (List.replicate n vs).flatten (List.replicate n ds).flatten
  | 0 => .nil
  | n + 1 => by
    rw [List.replicate_succ, List.replicate_succ, List.flatten_cons, List.flatten_cons]
    exact h.append (PdA.rep h n)
theorem PdA.reverse : ∀ {vs : List V} {ds : List D}, PdA K H vs ds → PdA K H vs.reverse ds.reverse
  | _, _, .nil => .nil
  | _, _, .cons h t => by
    rw [List.reverse_cons, List.reverse_cons]
    exact (PdA.reverse t).append (.one h)
end
/-! ### an object that may change -/
def MOk (K : PySem.W.Frag) (H : Hp) (p : Addr) : M → Prop
  | .lst ds => ∃ vs, H p = some (.lst vs) ∧ vs.length ≤ sizeLine ∧ PdA K H vs ds
  | .dct _ => False
  | .set _ => False
theorem MOk.mut {K : PySem.W.Frag} {H : Hp} {p : Addr} {x : M} (h : MOk K H p x) : ∃ u, H p = some u ∧ Mut (some u) := by
  cases x with
  | lst ds => obtain ⟨vs, h, _⟩ := h; exact ⟨_, h, trivial⟩
  | dct _ => exact h.elim
  | set _ => exact h.elim
theorem MOk.keep {K : PySem.W.Frag} {H H' : Hp} {p : Addr} {x : M} (k : Kp H H') (e : ∀ o, H p = some o → H' p = some o) (h : MOk K H p x) : MOk K H' p x := by
  cases x with
  | lst ds => obtain ⟨vs, h, z, a⟩ := h; exact ⟨vs, e _ h, z, a.keep k⟩
  | dct _ => exact h.elim
  | set _ => exact h.elim
def Ext (A : Addr → Prop) (H H' : Hp) : Prop := ∀ a o, H a = some o → ¬ A a → H' a = some o
/-- addresses of a frame's own and lent objects -/
def Own (la : List Addr) (env : Env) (σ : St) (p : Addr) : Prop := (∃ (i : Nat) (x : M), slot env i = some (.m x) ∧ σ[i]? = some (some (.ref p))) ∨ p ∈ la
/-- a caught error: its dict holds the field (phi: what is known of error variables) -/
def SRel (K : PySem.W.Frag) (la : List Addr) (H : Hp) (v : V) : Sl → Prop
  | .v d => Pd K H v d
  | .m x => ∃ p, v = .ref p ∧ MOk K H p x
  | .l j => ∃ p, la[j]? = some p ∧ v = .ref p
  | .e _ => True
structure ERel (K : PySem.W.Frag) (la : List Addr) (env : Env) (σ : St) (H : Hp) : Prop where
  len : env.sl.length = σ.length
  at_ : ∀ (i : Nat) (s : Sl), slot env i = some s → ∃ v, σ[i]? = some (some v) ∧ SRel K la H v s
  lent : ∀ (j : Nat) (x : M), env.le[j]? = some x → ∃ p, la[j]? = some p ∧ MOk K H p x
  ll : env.le.length = la.length
  apart : ∀ (i j : Nat) (x y : M) (p : Addr), slot env i = some (.m x) → slot env j = some (.m y) → σ[i]? = some (some (.ref p)) → σ[j]? = some (some (.ref p)) → i = j
  out : ∀ (i : Nat) (x : M) (p : Addr), slot env i = some (.m x) → σ[i]? = some (some (.ref p)) → p ∉ la
  nd : la.Nodup
section
variable {K : PySem.W.Frag} {la : List Addr} {env env' env0 env1 env2 : Env} {σ σ' σ0 σ1 σ2 : St} {H H' H0 H1 H2 : Hp}
theorem ERel.mut (r : ERel K la env σ H) {p : Addr} (o : Own la env σ p) : ∃ u, H p = some u ∧ Mut (some u) := by
  rcases o with ⟨i, x, h, e⟩ | h
  · obtain ⟨v, e2, q, rfl, m⟩ := r.at_ i _ h
    rw [e] at e2
    cases e2
    exact m.mut
  · obtain ⟨j, hj, rfl⟩ := List.getElem_of_mem h
    have hl : j < env.le.length := by rw [r.ll]; exact hj
    obtain ⟨p, e, m⟩ := r.lent j env.le[j] (List.getElem?_eq_getElem hl)
    rw [List.getElem?_eq_getElem hj] at e
    cases e
    exact m.mut
theorem ERel.kp (r : ERel K la env σ H) (e : Ext (Own la env σ) H H') : Kp H H' :=
  ⟨fun a xs h => e a _ h fun o => by obtain ⟨u, h', m⟩ := r.mut o; rw [h] at h'; cases h'; exact m,
   fun a ob u h => e a _ h fun o => by obtain ⟨w, h', m⟩ := r.mut o; rw [h] at h'; cases h'; exact m⟩
/-- from one point to a later one -/
structure Post (K : PySem.W.Frag) (la : List Addr) (env : Env) (σ : St) (H : Hp) (env' : Env) (σ' : St) (H' : Hp) : Prop where
  ext : Ext (Own la env σ) H H'
  rel : ERel K la env' σ' H'
  sub : ∀ p, Own la env' σ' p → Own la env σ p ∨ H p = none
theorem Post.refl (r : ERel K la env σ H) : Post K la env σ H env σ H := ⟨fun _ _ h _ => h, r, fun _ h => .inl h⟩
theorem Post.trans (a : Post K la env σ H env1 σ1 H1) (b : Post K la env1 σ1 H1 env2 σ2 H2) : Post K la env σ H env2 σ2 H2 where
  ext := fun p o h n => b.ext p o (a.ext p o h n) fun q => by
    rcases a.sub p q with q | q
    · exact n q
    · rw [h] at q; cases q
  rel := b.rel
  sub := fun p q => by
    rcases b.sub p q with q | q
    · exact a.sub p q
    · by_cases n : Own la env σ p
      · exact .inl n
      · cases e : H p with
        | none => exact .inr rfl
        | some o => rw [a.ext p o e n] at q; cases q
/-- what an expression gave -/
def RRel (K : PySem.W.Frag) (la : List Addr) (env : Env) (σ : St) (H : Hp) (v : V) : R → Prop
  | .v d => Pd K H v d
  | .m x => ∃ p, v = .ref p ∧ MOk K H p x ∧ ¬ Own la env σ p
  | .a i => (∃ s, slot env i = some s) ∧ σ[i]? = some (some v)
/-- slots stay filled -/
def Fil (env env' : Env) : Prop := ∀ i s, slot env i = some s → ∃ s', slot env' i = some s'
theorem Fil.refl (env : Env) : Fil env env := fun _ s h => ⟨s, h⟩
theorem Fil.trans (a : Fil env env1) (b : Fil env1 env2) : Fil env env2 := fun i s h => let ⟨s', h'⟩ := a i s h; b i s' h'
theorem RRel.after {v : V} {r : R} (rel : ERel K la env σ H) (p : Post K la env σ H env' σ H') (f : Fil env env') (h : RRel K la env σ H v r) : RRel K la env' σ H' v r := by
  cases r with
  | v d => exact Pd.keep (rel.kp p.ext) h
  | m x =>
    obtain ⟨q, e, m, n⟩ := h
    refine ⟨q, e, m.keep (rel.kp p.ext) (fun o ho => p.ext q o ho n), fun o => ?_⟩
    rcases p.sub q o with o | o
    · exact n o
    · obtain ⟨u, h, _⟩ := m.mut
      rw [h] at o; cases o
  | a i =>
    obtain ⟨⟨s, h⟩, e⟩ := h
    exact ⟨f i s h, e⟩
/-- a new object's place -/
def New (la : List Addr) (env : Env) (σ : St) (H : Hp) (v : V) (r : R) : Prop := ∀ x p, r = .m x → v = .ref p → H p = none ∨ Own la env σ p
theorem New.before {v : V} {r : R} (p : Post K la env σ H env' σ' H') (h : New la env' σ' H' v r) : New la env σ H v r := fun x q e e' => by
  rcases h x q e e' with h | h
  · by_cases n : Own la env σ q
    · exact .inr n
    · cases z : H q with
      | none => exact .inl rfl
      | some o => rw [p.ext q o z n] at h; cases h
  · exact (p.sub q h).symm
theorem New.v {v : V} {d : D} : New la env σ H v (.v d) := fun _ _ e => nomatch e
theorem New.a {v : V} {i : Nat} : New la env σ H v (.a i) := fun _ _ e => nomatch e
end
/-! ### readings over data -/
/-- what is wanted of an error: class, field -/
abbrev XR := Nat → Option D → Value → Option Addr → Hp → Prop
structure Cn where
  K : PySem.W.Frag
  xr : XR
  la : List Addr
section
variable (c : Cn) (W : WX)
/-- the whole evaluation from (env0, H0) ends so; then Q -/
def Fin {α β : Type} (Rl : Env → Hp → Env → Hp → St → β → α → Prop) (env0 : Env) (H0 : Hp) (σ : St) (Q : β → Hp → Prop) : Out α → Prop
  | .ok a env' => ∀ b H', Post c.K c.la env0 σ H0 env' σ H' → Fil env0 env' → Rl env0 H0 env' H' σ b a → Q b H'
  | .exc k d env' => ∀ cls dd H', Post c.K c.la env0 σ H0 env' σ H' → Fil env0 env' → c.xr k d cls dd H' → W cls dd σ H'
  | .no => False
def tG {α β : Type} (Rl : Env → Hp → Env → Hp → St → β → α → Prop) (f : Env → Out α) : St → Hp → (β → Hp → Prop) → Prop := fun σ H Q =>
  ∃ env, ERel c.K c.la env σ H ∧ Fin c W Rl env H σ Q (f env)
/-- an expression's value -/
def RlE : Env → Hp → Env → Hp → St → V → R → Prop := fun env H env' H' σ v r => RRel c.K c.la env' σ H' v r ∧ New c.la env σ H v r
abbrev tE (f : Env → Out R) : TE := tG c W (RlE c) f
/-- a test's -/
abbrev tT (f : Env → Out Bool) : TT := tG c W (fun _ _ _ _ _ b a => b = a) f
end
section
variable {c : Cn} {W : WX} {α β γ δ : Type}
/-- THE STEP: one part is evaluated, the rest follows -/
theorem step {Rl : Env → Hp → Env → Hp → St → δ → γ → Prop} {Rf : Env → Hp → Env → Hp → St → β → α → Prop} {f : Env → Out α} {k : α → Env → Out γ} {env0 env1 : Env} {H0 H1 : Hp} {σ : St} {Q : δ → Hp → Prop} {Rest : β → Hp → Prop}
    (p : Post c.K c.la env0 σ H0 env1 σ H1) (fl : Fil env0 env1) (h : Fin c W Rl env0 H0 σ Q ((f env1).bind k))
    (n : ∀ a env2 b H2, Post c.K c.la env1 σ H1 env2 σ H2 → Fil env1 env2 → Rf env1 H1 env2 H2 σ b a → Fin c W Rl env0 H0 σ Q (k a env2) → Rest b H2) : tG c W Rf f σ H1 Rest := by
  refine ⟨env1, p.rel, ?_⟩
  cases e : f env1 with
  | ok a env2 =>
    rw [e] at h
    exact fun b H2 p2 f2 r => n a env2 b H2 p2 f2 r h
  | exc k d env2 =>
    rw [e] at h
    exact fun cls dd H2 p2 f2 x => h cls dd H2 (p.trans p2) (fl.trans f2) x
  | no =>
    rw [e] at h
    exact h.elim
theorem start_ {Rl : Env → Hp → Env → Hp → St → β → α → Prop} {f : Env → Out α} {σ : St} {H : Hp} {Q : β → Hp → Prop} (h : tG c W Rl f σ H Q) :
    ∃ env, Post c.K c.la env σ H env σ H ∧ Fil env env ∧ Fin c W Rl env H σ Q (f env) := by
  obtain ⟨env, r, h⟩ := h
  exact ⟨env, .refl r, .refl env, h⟩
end
end Di
namespace Di
open PySem PySem.Spec PyProof.Rows L2
theorem imp {X : Cx} {e : Expr} {t t' : TE} (h : PE X e t) (i : ∀ σ H Q, t' σ H Q → t σ H Q) : PE X e t' := ⟨fun pins s σ H Q I q => h.run pins s σ H Q I (i σ H Q q)⟩
theorem impT {X : Cx} {e : Expr} {t t' : TT} (h : PT X e t) (i : ∀ σ H Q, t' σ H Q → t σ H Q) : PT X e t' := ⟨fun pins s σ H Q I q => h.run pins s σ H Q I (i σ H Q q)⟩
theorem impW {X : Cx} {e : Expr} {t t' : TT} (h : PW X e t) (i : ∀ σ H Q, t' σ H Q → t σ H Q) : PW X e t' := ⟨fun w pins s σ H Q I q => h.run w pins s σ H Q I (i σ H Q q)⟩
theorem impA {X : Cx} {e : List Expr} {t t' : TA} (h : PA X e t) (i : ∀ σ H Q, t' σ H Q → t σ H Q) : PA X e t' := ⟨fun pos pins s σ H Q I q => h.run pos pins s σ H Q I (i σ H Q q)⟩
theorem impS {X : Cx} {st : Stmt} {t t' : TS} (h : PS X st t) (i : ∀ D σ H, t' D σ H → t D σ H) : PS X st t' := ⟨fun pins s σ H D I q => h.run pins s σ H D I (i D σ H q)⟩
theorem impSs {X : Cx} {st : List Stmt} {t t' : TS} (h : PSs X st t) (i : ∀ D σ H, t' D σ H → t D σ H) : PSs X st t' := ⟨fun pins s σ H D I q => h.run pins s σ H D I (i D σ H q)⟩
/-! ### what is looked at, what is new -/
def Lk (K : PySem.W.Frag) (H : Hp) (v : V) : RM → Prop
  | .v d => Pd K H v d
  | .m x => ∃ p, v = .ref p ∧ MOk K H p x
/-- r came by an operation: all that stood stands -/
structure Nw (K : PySem.W.Frag) (H H' : Hp) (v : V) (r : R) : Prop where
  ext : ∀ a o, H a = some o → H' a = some o
  is : match r with
    | .v d => Pd K H' v d
    | .m x => ∃ p, v = .ref p ∧ MOk K H' p x ∧ H p = none
    | .a _ => False
section
variable {K : PySem.W.Frag} {la : List Addr} {env env' : Env} {σ : St} {H H' : Hp} {v : V} {d : D}
theorem kpAll (e : ∀ a o, H a = some o → H' a = some o) : Kp H H' := ⟨fun _ _ h => e _ _ h, fun _ _ _ h => e _ _ h⟩
theorem ext_new {p : Addr} {o : HO} (n : H p = none) : ∀ a u, H a = some u → upd H p o a = some u := fun a u h => by
  rw [upd_ne (ne_of_none h n)]; exact h
theorem Nw.val (h : Pd K H v d) : Nw K H H v (.v d) := ⟨fun _ _ h => h, h⟩
theorem Nw.tup {p : Addr} {xs : List V} {ds : List D} (n : H p = none) (z : xs.length ≤ sizeLine) (a : PdA K H xs ds) : Nw K H (upd H p (.tup xs)) (.ref p) (.v (.tuple ds)) :=
  ⟨ext_new n, .tup (SqT.of upd_same) z (a.keep (kpAll (ext_new n)))⟩
theorem Nw.lst {p : Addr} {xs : List V} {ds : List D} (n : H p = none) (z : xs.length ≤ sizeLine) (a : PdA K H xs ds) : Nw K H (upd H p (.lst xs)) (.ref p) (.m (.lst ds)) :=
  ⟨ext_new n, p, rfl, ⟨xs, upd_same, z, a.keep (kpAll (ext_new n))⟩, n⟩
theorem ERel.grow (r : ERel K la env σ H) (e : ∀ a o, H a = some o → H' a = some o) : ERel K la env σ H' := by
  have k := kpAll e
  refine ⟨r.len, fun i s h => ?_, fun j x h => ?_, r.ll, r.apart, r.out, r.nd⟩
  · obtain ⟨v, h1, h2⟩ := r.at_ i s h
    refine ⟨v, h1, ?_⟩
    cases s with
    | v d => exact Pd.keep k h2
    | m x => obtain ⟨p, e1, m⟩ := h2; exact ⟨p, e1, m.keep k fun o => e p o⟩
    | l j => exact h2
    | e d => exact h2
  · obtain ⟨p, h1, m⟩ := r.lent j x h
    exact ⟨p, h1, m.keep k fun o => e p o⟩
theorem Post.grow (r : ERel K la env σ H) (e : ∀ a o, H a = some o → H' a = some o) : Post K la env σ H env σ H' :=
  ⟨fun a o h _ => e a o h, r.grow e, fun _ h => .inl h⟩
theorem Nw.rl {r : R} (rel : ERel K la env σ H) (n : Nw K H H' v r) : RRel K la env σ H' v r ∧ New la env σ H v r := by
  obtain ⟨e, i⟩ := n
  cases r with
  | v d => exact ⟨i, New.v⟩
  | m x =>
    obtain ⟨p, e1, m, n⟩ := i
    refine ⟨⟨p, e1, m, fun o => ?_⟩, fun x q e2 e3 => ?_⟩
    · obtain ⟨u, h, _⟩ := rel.mut o
      rw [n] at h; cases h
    · rw [e1] at e3; cases e3; exact .inl n
  | a j => exact i.elim
theorem lk_of {r : R} {x : RM} (rel : ERel K la env σ H) (h : RRel K la env σ H v r) (e : de env r = some x) : Lk K H v x := by
  cases r with
  | v d => cases e; exact h
  | m y =>
    cases e
    obtain ⟨p, e1, m, _⟩ := h
    exact ⟨p, e1, m⟩
  | a i =>
    obtain ⟨⟨s, h⟩, e2⟩ := h
    have e : (match slot env i with
      | some s => lookS env s
      | none => none) = some x := e
    rw [h] at e
    obtain ⟨v', e3, q⟩ := rel.at_ i s h
    rw [e2] at e3
    cases e3
    cases s with
    | v d => cases e; exact q
    | m y => cases e; exact q
    | l j =>
      have e : (match env.le[j]? with
        | some x => some (RM.m x)
        | none => none) = some x := e
      obtain ⟨p, e4, e5⟩ := q
      cases e6 : env.le[j]? with
      | none => rw [e6] at e; cases e
      | some y =>
        rw [e6] at e
        cases e
        obtain ⟨p', e7, m⟩ := rel.lent j y e6
        rw [e4] at e7
        cases e7
        exact ⟨p, e5, m⟩
    | e d => cases e
/-! ### views of what is looked at -/
theorem Lk.seqT {x : RM} {xs : List D} (h : Lk K H v x) (e : x.tup = some xs) : ∃ p vs, v = .ref p ∧ SqT K H p vs ∧ vs.length ≤ sizeLine ∧ PdA K H vs xs := by
  cases x with
  | v d =>
    cases d <;> cases e
    cases h with
    | tup a b c => exact ⟨_, _, rfl, a, b, c⟩
  | m y => cases e
theorem Lk.seqL {x : RM} {xs : List D} (h : Lk K H v x) (e : x.lst = some xs) : ∃ p vs, v = .ref p ∧ SqL K H p vs ∧ vs.length ≤ sizeLine ∧ PdA K H vs xs := by
  cases x with
  | v d =>
    cases d <;> cases e
    cases h with
    | lst a b c => exact ⟨_, _, rfl, a.sq, b, c⟩
  | m y =>
    cases y <;> cases e
    obtain ⟨p, e1, vs, h1, h2, h3⟩ := h
    exact ⟨p, vs, e1, SqL.of h1, h2, h3⟩
theorem Lk.seq {x : RM} {xs : List D} (h : Lk K H v x) (e : x.seq = some xs) : ∃ p vs, v = .ref p ∧ (SqL K H p vs ∨ SqT K H p vs) ∧ vs.length ≤ sizeLine ∧ PdA K H vs xs := by
  cases x with
  | v d =>
    cases d <;> cases e
    · obtain ⟨p, vs, a, b, c⟩ := h.seqL (x := .v (.list xs)) rfl; exact ⟨p, vs, a, .inl b, c⟩
    · obtain ⟨p, vs, a, b, c⟩ := h.seqT (x := .v (.tuple xs)) rfl; exact ⟨p, vs, a, .inr b, c⟩
  | m y =>
    cases y <;> cases e
    obtain ⟨p, vs, a, b, c⟩ := h.seqL (x := .m (.lst xs)) rfl; exact ⟨p, vs, a, .inl b, c⟩
theorem Lk.dp {x : RM} {d : D} (h : Lk K H v x) (e : x.toD = some d) : Dp K H v d := by
  cases x with
  | v d => cases e; exact Pd.dp h
  | m y =>
    cases y <;> cases e
    obtain ⟨p, e1, vs, h1, h2, h3⟩ := h
    subst e1
    exact .lst (SqL.of h1) h3.dp
theorem Lk.grow {x : RM} (h : Lk K H v x) (e : ∀ a o, H a = some o → H' a = some o) : Lk K H' v x := by
  cases x with
  | v d => exact Pd.keep (kpAll e) h
  | m y => obtain ⟨p, e1, m⟩ := h; exact ⟨p, e1, m.keep (kpAll e) fun o => e p o⟩
end
/-! ### operations by values -/
def OpS (K : PySem.W.Frag) (r : R2) (g : RM → RM → Option R) : Prop := ∀ (x y : V) (H : Hp) (dx dy : RM) (res : R) (Q : VK), Lk K H x dx → Lk K H y dy → g dx dy = some res → (∀ v H', Nw K H H' v res → Q v H') → r x y H Q
theorem OpS.mk {X : Cx} {f : Value → Value → Sem Value} {K : PySem.W.Frag} {r : R2} {g : RM → RM → Option R} (h : OpR X f r) (s : OpS K r g) :
    ∀ (pins : List (Addr × Obj)) (st : Shared) (σ : St) (H : Hp) (x y : V) (v u : Value) (dx dy : RM) (res : R) (Q : VK), Inv X pins σ H st → RelV x v → RelV y u → Lk K H x dx → Lk K H y dy → g dx dy = some res → (∀ v H', Nw K H H' v res → Q v H') →
    wpAny (model X.prog X.w) X.A (f v u) (EP X pins σ Q) X.xe st := fun pins st σ H x y v u dx dy res Q I rx ry lx ly e q => h pins st σ H x y v u Q I rx ry (s x y H dx dy res Q lx ly e q)
/-- an operation as it is by data -/
def OpD (X : Cx) (f : Value → Value → Sem Value) (g : RM → RM → Option R) : Prop := OpR X f fun x y H Q => ∃ dx dy res, Lk X.K H x dx ∧ Lk X.K H y dy ∧ g dx dy = some res ∧ ∀ v H', Nw X.K H H' v res → Q v H'
theorem OpD.of {X : Cx} {f : Value → Value → Sem Value} {g : RM → RM → Option R}
    (h : ∀ (x y : V) (H : Hp) (dx dy : RM) (res : R) (Q : VK), Lk X.K H x dx → Lk X.K H y dy → g dx dy = some res → (∀ v H', Nw X.K H H' v res → Q v H') → ∃ r : R2, OpR X f r ∧ r x y H Q) : OpD X f g := by
  intro pins s σ H x y v u Q I rx ry ⟨dx, dy, res, lx, ly, e, q⟩
  obtain ⟨r, ho, hr⟩ := h x y H dx dy res Q lx ly e q
  exact ho pins s σ H x y v u Q I rx ry hr
section
variable {X : Cx} {c : Cn} {W : WX}
theorem two {g : RM → RM → Option R} {fa fb : Env → Out R} (hK : X.K = c.K) {σ : St} {H : Hp} {Q : VK}
    (h : tE c W (fun env => (fa env).bind fun x env => (fb env).bind fun y env => op2 g x y env) σ H Q) :
    tOp (fun x y H Q => ∃ dx dy res, Lk X.K H x dx ∧ Lk X.K H y dy ∧ g dx dy = some res ∧ ∀ v H', Nw X.K H H' v res → Q v H') (tE c W fa) (tE c W fb) σ H Q := by
  obtain ⟨env, p, fl, h⟩ := start_ h
  refine step p fl h fun x env1 v H1 p1 f1 r1 h1 => ?_
  refine step (p.trans p1) (fl.trans f1) h1 fun y env2 u H2 p2 f2 r2 h2 => ?_
  have h2 : Fin c W (RlE c) env H σ Q (op2 g x y env2) := h2
  have r1' := r1.1.after p1.rel p2 f2
  unfold op2 at h2
  split at h2
  · rename_i dx dy ex ey
    split at h2
    · rename_i res eg
      have l1 : Lk X.K H2 v dx := by rw [hK]; exact lk_of p2.rel r1' ex
      have l2 : Lk X.K H2 u dy := by rw [hK]; exact lk_of p2.rel r2.1 ey
      refine ⟨dx, dy, res, l1, l2, eg, fun w H3 n => ?_⟩
      rw [hK] at n
      have p3 : Post c.K c.la env2 σ H2 env2 σ H3 := .grow p2.rel n.ext
      have rl := n.rl p2.rel
      have p02 := (p.trans p1).trans p2
      exact h2 w H3 (p02.trans p3) ((fl.trans f1).trans f2) ⟨rl.1, rl.2.before p02⟩
    · exact h2.elim
  · exact h2.elim
theorem one {g : RM → Option R} {fa : Env → Out R} (hK : X.K = c.K) {σ : St} {H : Hp} {Q : VK}
    (h : tE c W (fun env => (fa env).bind fun x env => op1 g x env) σ H Q) :
    tUn (fun x H Q => ∃ dx res, Lk X.K H x dx ∧ g dx = some res ∧ ∀ v H', Nw X.K H H' v res → Q v H') (tE c W fa) σ H Q := by
  obtain ⟨env, p, fl, h⟩ := start_ h
  refine step p fl h fun x env1 v H1 p1 f1 r1 h1 => ?_
  have h1 : Fin c W (RlE c) env H σ Q (op1 g x env1) := h1
  unfold op1 at h1
  split at h1
  · rename_i dx ex
    split at h1
    · rename_i res eg
      have l1 : Lk X.K H1 v dx := by rw [hK]; exact lk_of p1.rel r1.1 ex
      refine ⟨dx, res, l1, eg, fun w H3 n => ?_⟩
      rw [hK] at n
      have p3 : Post c.K c.la env1 σ H1 env1 σ H3 := .grow p1.rel n.ext
      have rl := n.rl p1.rel
      have p02 := p.trans p1
      exact h1 w H3 (p02.trans p3) (fl.trans f1) ⟨rl.1, rl.2.before p02⟩
    · exact h1.elim
  · exact h1.elim
theorem s_bin {op : Operator} {g : RM → RM → Option R} {a b : Expr} {pos : Pos} {fa fb : Env → Out R} (hK : X.K = c.K) (ho : OpD X (binaryOp op) g) (ha : PE X a (tE c W fa)) (hb : PE X b (tE c W fb)) :
    PE X (.BinOp a op b pos) (tE c W fun env => (fa env).bind fun x env => (fb env).bind fun y env => op2 g x y env) :=
  imp (pe_op ho ha hb) fun _ _ _ h => two hK h
end
end Di
namespace Di
open PySem PySem.Spec PyProof.Rows L2
theorem bits_of {i : Int} {n : Nat} (h0 : 0 < n) (h : i.natAbs < 2 ^ n) : Builtin.Int.intBits i ≤ n := by
  have := PySem.Flt.log2_lt_of h0 h
  unfold Builtin.Int.intBits
  split <;> omega
section
variable {X : Cx}
theorem LINE_eq : LINE = sizeLine := by rw [sizeLine_eq]; rfl
theorem pd_int {K : PySem.W.Frag} {H : Hp} {v : V} {i : Int} (h : Lk K H v (.v (.int i))) : v = .int i := by cases h; rfl
theorem pd_bl {K : PySem.W.Frag} {H : Hp} {v : V} {i : Bool} (h : Lk K H v (.v (.bool i))) : v = .bl i := by cases h; rfl
theorem pd_str {K : PySem.W.Frag} {H : Hp} {v : V} {i : Str} (h : Lk K H v (.v (.str i))) : v = .str i := by cases h; rfl
/-- ints by a rule -/
theorem opd_int {f : Value → Value → Sem Value} {C : Int → Int → Prop} {g : Int → Int → V} {k : Int → Int → Option Int} (h : OpR X f (rI C g)) (hk : ∀ i j z, k i j = some z → C i j ∧ g i j = .int z) : OpD X f (dInt k) := by
  refine OpD.of fun x y H dx dy res Q lx ly e q => ?_
  unfold dInt at e
  split at e
  · rename_i i j
    split at e
    · rename_i z hz
      cases e
      obtain ⟨hc, hg⟩ := hk i j z hz
      refine ⟨_, h, i, j, pd_int lx, pd_int ly, hc, ?_⟩
      rw [hg]
      exact q _ _ (.val (.int _))
    · cases e
  · cases e
theorem op_rI0 {f : Value → Value → Sem Value} {g : Int → Int → V} (h : OpR X f (rI0 g)) : OpR X f (rI (fun _ _ => True) g) := fun pins s σ H x y v u Q I rx ry ⟨i, j, a, b, _, q⟩ => h pins s σ H x y v u Q I rx ry ⟨i, j, a, b, q⟩
theorem op_powW : OpR X (binaryOp .Pow) (rI (fun i j => 0 ≤ j ∧ j ≤ 64 ∧ i.natAbs < 2 ^ 200) fun i j => .int (i ^ j.toNat)) := opI fun i j _ _ _ _ _ hc q => by
  refine PyProof.Rows.pow_int hc.1 ?_ q
  have h1 := bits_of (by decide) hc.2.2
  have h2 : ((Builtin.Int.intBits i : Nat) : Int) * j ≤ 200 * 64 := Int.le_trans (Int.mul_le_mul_of_nonneg_left hc.2.1 (by omega)) (Int.mul_le_mul_of_nonneg_right (by omega) (by decide))
  omega
theorem op_fdivD : OpR X (binaryOp .FloorDiv) (rI (fun _ j => 0 < j ∧ j.natAbs < 2 ^ 8000) fun i j => .int (i / j)) := fun pins s σ H x y v u Q I rx ry ⟨i, j, a, b, hc, q⟩ =>
  op_fdivW pins s σ H x y v u Q I rx ry ⟨i, j, a, b, wide_div hc.1 hc.2 (by decide) (by decide), q⟩
/-- list + list -/
def rCatR (K : PySem.W.Frag) : R2 := fun x y H Q => ∃ l b xs zs, x = .ref l ∧ y = .ref b ∧ SqL K H l xs ∧ SqL K H b zs ∧ xs.length + zs.length ≤ sizeLine ∧ ∀ p, H p = none → Q (.ref p) (upd H p (.lst (xs ++ zs)))
theorem op_catR : OpR X (binaryOp .Add) (rCatR X.K) := by
  intro pins s σ H x y v u Q I rx ry h
  obtain ⟨l, b, xs, zs, rfl, rfl, hH, hB, hz, q⟩ := h
  cases rx
  cases ry
  obtain ⟨its, r, p1, z1⟩ := I.list hH
  obtain ⟨its2, r2, p2, z2⟩ := I.list hB
  have hl := r.length
  have hl2 := r2.length
  obtain ⟨⟨cls, dd, data, sl⟩, ho, hc, n, hd⟩ := id p1.isList
  obtain ⟨⟨cls2, dd2, data2, sl2⟩, ho2, hc2, n2, hd2⟩ := id p2.isList
  simp only at hc hd hc2 hd2
  subst hc hd hc2 hd2
  refine concat_meets ⟨_, ho, rfl⟩ ⟨_, ho2, rfl⟩ PySem.noFill_list_add PySem.seq_list_add PySem.F.slot_list_add PySem.F.entry_list_add (PySem.F.args_list_add_2 _ _) (list_addW l b its.toArray its2.toArray n n2 dd dd2 sl sl2 (by rw [List.size_toArray, List.size_toArray]; omega)) ⟨ho, ho2, ?_⟩
  have ea : its.toArray ++ its2.toArray = (its ++ its2).toArray := by simp
  rw [ea]
  exact ⟨.ref _, _, I.lnew (t' := s.toks) (r.append r2) (by rw [List.length_append]; omega), rfl, q _ I.fresh⟩
theorem opd_add : OpD X (binaryOp .Add) dAdd := by
  refine OpD.of fun x y H dx dy res Q lx ly e q => ?_
  unfold dAdd at e
  split at e
  · cases e
    refine ⟨_, op_add, _, _, pd_int lx, pd_int ly, q _ _ (.val (.int _))⟩
  · cases e
    refine ⟨_, op_add_ib, _, _, pd_int lx, pd_bl ly, q _ _ (.val (.int _))⟩
  · split at e
    · rename_i hz
      cases e
      rw [LINE_eq] at hz
      exact ⟨_, op_add_str, _, _, pd_str lx, pd_str ly, hz, q _ _ (.val (.str _))⟩
    · cases e
  · split at e
    · rename_i hz
      cases e
      rw [LINE_eq] at hz
      obtain ⟨p, vs, rfl, h1, h2, h3⟩ := lx.seqT rfl
      obtain ⟨p', vs', rfl, h1', h2', h3'⟩ := ly.seqT rfl
      have hz' : vs.length + vs'.length ≤ sizeLine := by rw [h3.length, h3'.length]; exact hz
      have ha := h3.append h3'
      refine ⟨_, op_catA, p, p', vs, vs', rfl, rfl, h1, h1', hz', fun hx => ?_, fun _ hy => ?_, fun _ _ z hn => q _ _ (.tup hn (by rw [List.length_append]; exact hz') ha)⟩
      · subst hx
        cases h3
        exact q _ _ (.val (.tup h1' h2' h3'))
      · subst hy
        cases h3'
        rw [List.append_nil] at q
        exact q _ _ (.val (.tup h1 h2 h3))
    · cases e
  · split at e
    · rename_i xs ys e1 e2
      split at e
      · rename_i hz
        cases e
        rw [LINE_eq] at hz
        obtain ⟨p, vs, rfl, h1, h2, h3⟩ := lx.seqL e1
        obtain ⟨p', vs', rfl, h1', h2', h3'⟩ := ly.seqL e2
        have hz' : vs.length + vs'.length ≤ sizeLine := by rw [h3.length, h3'.length]; exact hz
        exact ⟨_, op_catR, p, p', vs, vs', rfl, rfl, h1, h1', hz', fun z hn => q _ _ (.lst hn (by rw [List.length_append]; exact hz') (h3.append h3'))⟩
      · cases e
    · cases e
theorem shl_k {i j z : Int} (e : (if 0 ≤ j ∧ j ≤ 100000 ∧ i.natAbs < 2 ^ 20000 then some (i * 2 ^ j.toNat) else none) = some z) : CShl i j ∧ V.int (i * 2 ^ j.toNat) = V.int z := by
  split at e
  · rename_i h
    cases e
    refine ⟨?_, rfl⟩
    have := shl_ok (j := j.toNat) h.2.2 (by omega)
    rw [Int.toNat_of_nonneg h.1] at this
    exact this
  · cases e
theorem if_k {C : Prop} [Decidable C] {a z : Int} (e : (if C then some a else none) = some z) : C ∧ V.int a = V.int z := by
  split at e
  · rename_i h
    cases e
    exact ⟨h, rfl⟩
  · cases e
theorem some_k {a z : Int} (e : some a = some z) : True ∧ V.int a = V.int z := by
  cases e
  exact ⟨trivial, rfl⟩
theorem opd_ints {op : Operator} (h : op ≠ .Add) (h2 : op ≠ .Mult) : OpD X (binaryOp op) (dBin op) := by
  cases op with
  | Add => exact absurd rfl h
  | Mult => exact absurd rfl h2
  | Sub => exact opd_int (k := fun i j => some (i - j)) (op_rI0 op_sub) fun i j z e => some_k e
  | FloorDiv => exact opd_int (k := fun i j => if 0 < j ∧ j.natAbs < 2 ^ 8000 then some (i / j) else none) op_fdivD fun i j z e => if_k e
  | Mod => exact opd_int (k := fun i j => if 0 < j then some (i % j) else none) op_mod fun i j z e => if_k e
  | Pow => exact opd_int (k := fun i j => if 0 ≤ j ∧ j ≤ 64 ∧ i.natAbs < 2 ^ 200 then some (i ^ j.toNat) else none) op_powW fun i j z e => if_k e
  | LShift => exact opd_int (k := fun i j => if 0 ≤ j ∧ j ≤ 100000 ∧ i.natAbs < 2 ^ 20000 then some (i * 2 ^ j.toNat) else none) op_shlW fun i j z e => shl_k e
  | RShift => exact opd_int (k := fun i j => if 0 ≤ j then some (i / 2 ^ j.toNat) else none) op_shr fun i j z e => if_k e
  | BitAnd => exact opd_int (k := fun i j => some (Builtin.bitAnd i j)) (op_rI0 op_and) fun i j z e => some_k e
  | BitOr => exact opd_int (k := fun i j => some (Builtin.bitOr i j)) (op_rI0 op_or) fun i j z e => some_k e
  | BitXor => exact opd_int (k := fun i j => some (Builtin.bitXor i j)) (op_rI0 op_xor) fun i j z e => some_k e
  | MatMult => exact OpD.of fun x y H dx dy res Q lx ly e q => (nomatch e)
  | Div => exact OpD.of fun x y H dx dy res Q lx ly e q => (nomatch e)
end
end Di
namespace Di
open PySem PySem.Spec PyProof.Rows L2
/-! ### nice data is shaped -/
mutual
theorem nice_lay : ∀ (n : Nat) (d : D), nice n d = true → d.canLay0 = true
  | n, .none, _ => by simp only [PyData.canLay0]
  | n, .bool _, _ => by simp only [PyData.canLay0]
  | n, .int _, _ => by simp only [PyData.canLay0]
  | 0, .str x, h => h
  | n + 1, .str x, h => h
  | 0, .list _, h => by simp [nice] at h
  | 0, .tuple _, h => by simp [nice] at h
  | n + 1, .list xs, h => by
    simp only [PyData.canLay0]
    exact niceAll_lay n xs (by simpa [nice] using h)
  | n + 1, .tuple xs, h => by
    simp only [PyData.canLay0]
    exact niceAll_lay n xs (by simpa [nice] using h)
  | 0, .dict _, h => by simp [nice] at h
  | n + 1, .dict _, h => by simp [nice] at h
theorem niceAll_lay : ∀ (n : Nat) (ds : List D), niceAll n ds = true → PyData.canLayAll0 ds = true
  | n, [], _ => by simp only [PyData.canLayAll0]
  | n, x :: xs, h => by
    simp only [niceAll, Bool.and_eq_true] at h
    simp only [PyData.canLayAll0, Bool.and_eq_true]
    exact ⟨nice_lay n x h.1, niceAll_lay n xs h.2⟩
end
mutual
theorem nice_depth : ∀ (n : Nat) (d : D), nice n d = true → d.depth ≤ n
  | n, .none, _ => by simp only [PyData.depth]; omega
  | n, .bool _, _ => by simp only [PyData.depth]; omega
  | n, .int _, _ => by simp only [PyData.depth]; omega
  | 0, .str x, h => by simp only [PyData.depth]; omega
  | n + 1, .str x, h => by simp only [PyData.depth]; omega
  | 0, .list _, h => by simp [nice] at h
  | 0, .tuple _, h => by simp [nice] at h
  | n + 1, .list xs, h => by
    have := niceAll_depth n xs (by simpa [nice] using h)
    simp only [PyData.depth]; omega
  | n + 1, .tuple xs, h => by
    have := niceAll_depth n xs (by simpa [nice] using h)
    simp only [PyData.depth]; omega
  | 0, .dict _, h => by simp [nice] at h
  | n + 1, .dict _, h => by simp [nice] at h
theorem niceAll_depth : ∀ (n : Nat) (ds : List D), niceAll n ds = true → PyData.depthAll ds ≤ n
  | n, [], _ => by simp only [PyData.depthAll]; omega
  | n, x :: xs, h => by
    simp only [niceAll, Bool.and_eq_true] at h
    have h1 := nice_depth n x h.1
    have h2 := niceAll_depth n xs h.2
    simp only [PyData.depthAll]; omega
end
theorem nice_shaped {n : Nat} {d : D} (h : nice n d = true) (hn : n ≤ 64) : SeqAt.shaped d = true := by
  show (d.canLay0 && decide (d.depth ≤ 64)) = true
  have := nice_depth n d h
  rw [nice_lay n d h, decide_eq_true (by omega)]
  rfl
theorem niceAll_shaped {n : Nat} {ds : List D} (h : niceAll n ds = true) (hn : n + 1 ≤ 64) : SeqAt.shaped (.list ds) = true ∧ SeqAt.shaped (.tuple ds) = true :=
  ⟨nice_shaped (n := n + 1) (by simpa [nice] using h) hn, nice_shaped (n := n + 1) (by simpa [nice] using h) hn⟩
section
variable {X : Cx}
/-! ### comparisons -/
theorem opd_b {f : Value → Value → Sem Value} {p : RM → RM → Option Bool} (h : ∀ (x y : V) (H : Hp) (dx dy : RM) (b : Bool) (Q : VK), Lk X.K H x dx → Lk X.K H y dy → p dx dy = some b → Q (.bl b) H → ∃ r : R2, OpR X f r ∧ r x y H Q) :
    OpD X f (fun x y => (p x y).map fun b => .v (.bool b)) := OpD.of fun x y H dx dy res Q lx ly e q => by
  cases e1 : p dx dy with
  | none =>
    have e : (p dx dy).map (fun b => R.v (.bool b)) = some res := e
    rw [e1] at e; cases e
  | some b =>
    have e : (p dx dy).map (fun b => R.v (.bool b)) = some res := e
    rw [e1] at e
    cases e
    exact h x y H dx dy b Q lx ly e1 (q _ _ (.val (.bl b)))
theorem map_not {a : Option Bool} {b : Bool} (h : a.map (!·) = some b) : a = some (!b) := by
  cases a with
  | none => cases h
  | some c => cases h; simp
theorem eq_k {dx dy : RM} {b : Bool} (e : dEq dx dy = some b) : ∃ d d', dx.toD = some d ∧ dy.toD = some d' ∧ nice 20 d = true ∧ nice 20 d' = true ∧ PyData.eqv d d' = b := by
  unfold dEq at e
  split at e
  · rename_i a a' h1 h2
    split at e
    · rename_i h
      simp only [Bool.and_eq_true] at h
      cases e
      exact ⟨a, a', h1, h2, h.1, h.2, rfl⟩
    · cases e
  · cases e
theorem lt_k {dx dy : RM} {b : Bool} (e : dLt dx dy = some b) : ∃ i j, dx = .v (.int i) ∧ dy = .v (.int j) ∧ b = decide (i < j) := by
  unfold dLt at e
  split at e
  · cases e; exact ⟨_, _, rfl, rfl, rfl⟩
  · cases e
theorem mem_k {dx dy : RM} {b : Bool} (e : dMem dx dy = some b) : ∃ d ds, dx.toD = some d ∧ dy.seq = some ds ∧ nice 20 d = true ∧ niceAll 20 ds = true ∧ (ds.any fun z => PyData.eqv z d) = b := by
  unfold dMem at e
  split at e
  · rename_i a a' h1 h2
    split at e
    · rename_i h
      simp only [Bool.and_eq_true] at h
      cases e
      exact ⟨a, a', h1, h2, h.1, h.2, rfl⟩
    · cases e
  · cases e
/-- x in t, a tuple -/
def rInT (K : PySem.W.Frag) (neg : Bool) : R2 := fun x y H Q => ∃ d ds, Dp K H x d ∧ Dp K H y (.tuple ds) ∧ SeqAt.shaped d = true ∧ SeqAt.shaped (.tuple ds) = true ∧ Q (.bl ((ds.any fun z => PyData.eqv z d) != neg)) H
theorem op_inT (hu : X.A.units + 65 < cLine) : OpR X (compareOp .In) (rInT X.K false) := by
  intro pins s σ H x y v u Q I rx ry h
  obtain ⟨d, ds, hd, he, sd, se, q⟩ := h
  obtain ⟨as, r1⟩ := Dp.reads I d x v hd rx
  obtain ⟨bs, r2⟩ := Dp.reads I (.tuple ds) y u he ry
  have room : X.A.units + 1 + min (PyData.depthAll ds) d.depth < cLine := by
    have := SeqAt.depth_of_shaped sd
    omega
  refine SeqAt.in_tuple_reads r2 r1 ?_ (SeqAt.canLay_of_shaped sd) room ⟨.bl _, H, I, rfl, ?_⟩
  · have := SeqAt.canLay_of_shaped se
    simpa only [PyData.canLay0] using this
  · rw [Bool.bne_false] at q
    exact q
theorem op_notInT (hu : X.A.units + 65 < cLine) : OpR X (compareOp .NotIn) (rInT X.K true) := by
  intro pins s σ H x y v u Q I rx ry h
  obtain ⟨d, ds, hd, he, sd, se, q⟩ := h
  obtain ⟨as, r1⟩ := Dp.reads I d x v hd rx
  obtain ⟨bs, r2⟩ := Dp.reads I (.tuple ds) y u he ry
  have room : X.A.units + 1 + min (PyData.depthAll ds) d.depth < cLine := by
    have := SeqAt.depth_of_shaped sd
    omega
  refine SeqAt.notIn_tuple_reads r2 r1 ?_ (SeqAt.canLay_of_shaped sd) room ⟨.bl _, H, I, rfl, ?_⟩
  · have := SeqAt.canLay_of_shaped se
    simpa only [PyData.canLay0] using this
  · rw [Bool.bne_true] at q
    exact q
end
end Di
namespace Di
open PySem PySem.Spec PyProof.Rows L2
section
variable {X : Cx}
theorem Lk.dpT {K : PySem.W.Frag} {H : Hp} {v : V} {x : RM} {xs : List D} (h : Lk K H v x) (e : x.seq = some xs) : Dp K H v (.list xs) ∨ Dp K H v (.tuple xs) := by
  cases x with
  | v d =>
    cases d <;> cases e
    · exact .inl (Pd.dp h)
    · exact .inr (Pd.dp h)
  | m y =>
    cases y <;> cases e
    exact .inl (h.dp (x := .m (.lst xs)) rfl)
theorem opd_eq (hu : X.A.units + 65 < cLine) : OpD X (compareOp .Eq) (dCmp .Eq) := opd_b fun x y H dx dy b Q lx ly e q => by
  obtain ⟨d, d', h1, h2, n1, n2, e⟩ := eq_k e
  refine ⟨_, op_eqD (by omega), d, d', lx.dp h1, ly.dp h2, nice_shaped n1 (by decide), nice_shaped n2 (by decide), ?_⟩
  rw [e]; exact q
theorem opd_ne (hu : X.A.units + 65 < cLine) : OpD X (compareOp .NotEq) (dCmp .NotEq) := opd_b fun x y H dx dy b Q lx ly e q => by
  obtain ⟨d, d', h1, h2, n1, n2, e⟩ := eq_k (map_not e)
  refine ⟨_, op_neD (by omega), d, d', lx.dp h1, ly.dp h2, nice_shaped n1 (by decide), nice_shaped n2 (by decide), ?_⟩
  rw [e, Bool.not_not]; exact q
theorem opd_in (hu : X.A.units + 65 < cLine) : OpD X (compareOp .In) (dCmp .In) := opd_b fun x y H dx dy b Q lx ly e q => by
  obtain ⟨d, ds, h1, h2, n1, n2, e⟩ := mem_k e
  obtain ⟨s1, s2⟩ := niceAll_shaped n2 (by decide)
  rcases ly.dpT h2 with l | l
  · refine ⟨_, op_inD hu, d, ds, lx.dp h1, l, nice_shaped n1 (by decide), s1, ?_⟩
    rw [e]; exact q
  · refine ⟨_, op_inT hu, d, ds, lx.dp h1, l, nice_shaped n1 (by decide), s2, ?_⟩
    rw [e, Bool.bne_false]; exact q
theorem opd_notIn (hu : X.A.units + 65 < cLine) : OpD X (compareOp .NotIn) (dCmp .NotIn) := opd_b fun x y H dx dy b Q lx ly e q => by
  obtain ⟨d, ds, h1, h2, n1, n2, e⟩ := mem_k (map_not e)
  obtain ⟨s1, s2⟩ := niceAll_shaped n2 (by decide)
  rcases ly.dpT h2 with l | l
  · refine ⟨_, op_notInD hu, d, ds, lx.dp h1, l, nice_shaped n1 (by decide), s1, ?_⟩
    rw [e, Bool.not_not]; exact q
  · refine ⟨_, op_notInT hu, d, ds, lx.dp h1, l, nice_shaped n1 (by decide), s2, ?_⟩
    rw [e, Bool.bne_true, Bool.not_not]; exact q
theorem opd_lt : OpD X (compareOp .Lt) (dCmp .Lt) := opd_b fun x y H dx dy b Q lx ly e q => by
  obtain ⟨i, j, rfl, rfl, rfl⟩ := lt_k e
  exact ⟨_, op_lt, i, j, pd_int lx, pd_int ly, q⟩
theorem opd_gt : OpD X (compareOp .Gt) (dCmp .Gt) := opd_b fun x y H dx dy b Q lx ly e q => by
  obtain ⟨i, j, rfl, rfl, rfl⟩ := lt_k e
  exact ⟨_, op_gt, j, i, pd_int lx, pd_int ly, q⟩
theorem opd_le : OpD X (compareOp .LtE) (dCmp .LtE) := opd_b fun x y H dx dy b Q lx ly e q => by
  obtain ⟨i, j, rfl, rfl, e3⟩ := lt_k (map_not e)
  refine ⟨_, op_le, j, i, pd_int lx, pd_int ly, ?_⟩
  have : decide (j ≤ i) = b := by
    have e2 : b = !decide (i < j) := by rw [← e3, Bool.not_not]
    rw [e2, ← decide_not]
    exact decide_eq_decide.mpr (by omega)
  show Q (.bl (decide (j ≤ i))) H
  rw [this]; exact q
theorem opd_ge : OpD X (compareOp .GtE) (dCmp .GtE) := opd_b fun x y H dx dy b Q lx ly e q => by
  obtain ⟨i, j, rfl, rfl, e3⟩ := lt_k (map_not e)
  refine ⟨_, op_ge, i, j, pd_int lx, pd_int ly, ?_⟩
  have : decide (j ≤ i) = b := by
    have e2 : b = !decide (i < j) := by rw [← e3, Bool.not_not]
    rw [e2, ← decide_not]
    exact decide_eq_decide.mpr (by omega)
  show Q (.bl (decide (j ≤ i))) H
  rw [this]; exact q
theorem opd_cmp (hu : X.A.units + 65 < cLine) (op : CmpOp) : OpD X (compareOp op) (dCmp op) := by
  cases op with
  | Eq => exact opd_eq hu
  | NotEq => exact opd_ne hu
  | Lt => exact opd_lt
  | LtE => exact opd_le
  | Gt => exact opd_gt
  | GtE => exact opd_ge
  | In => exact opd_in hu
  | NotIn => exact opd_notIn hu
  | Is => exact OpD.of fun x y H dx dy res Q lx ly e q => (nomatch (show (none : Option R) = some res from e))
  | IsNot => exact OpD.of fun x y H dx dy res Q lx ly e q => (nomatch (show (none : Option R) = some res from e))
variable {c : Cn} {W : WX}
theorem s_cmp {op : CmpOp} {g : RM → RM → Option R} {a b : Expr} {pos : Pos} {fa fb : Env → Out R} (hK : X.K = c.K) (ho : OpD X (compareOp op) g) (ha : PE X a (tE c W fa)) (hb : PE X b (tE c W fb)) (hm : behindInMarks op b = false) :
    PE X (.Compare a [op] [b] pos) (tE c W fun env => (fa env).bind fun x env => (fb env).bind fun y env => op2 g x y env) :=
  imp (pe_cmpR ho ha hb hm) fun _ _ _ h => two hK h
theorem t_val {f : Env → Out R} {σ : St} {H : Hp} {Q : Bool → Hp → Prop} (h : tT c W (fun env => (f env).bind valT) σ H Q) :
    tE c W f σ H fun x H' => ∃ k, x = .bl k ∧ Q k H' := by
  obtain ⟨env, p, fl, h⟩ := start_ h
  refine step p fl h fun x env1 v H1 p1 f1 r1 h1 => ?_
  cases x with
  | v d =>
    cases d with
    | bool b =>
      have e := r1.1
      cases e
      exact ⟨b, rfl, h1 b H1 (p.trans p1) (fl.trans f1) rfl⟩
    | _ => exact h1.elim
  | _ => exact h1.elim
theorem s_tcmp {op : CmpOp} {g : RM → RM → Option R} {a b : Expr} {pos : Pos} {fa fb : Env → Out R} (hK : X.K = c.K) (ho : OpD X (compareOp op) g) (ha : PE X a (tE c W fa)) (hb : PE X b (tE c W fb)) (hm : behindInMarks op b = false) :
    PT X (.Compare a [op] [b] pos) (tT c W fun env => (((fa env).bind fun x env => (fb env).bind fun y env => op2 g x y env)).bind valT) := by
  refine impT (pt_cmpR ho ha hb hm) fun σ H Q h => ?_
  exact two (Q := fun x H' => ∃ k, x = .bl k ∧ Q k H') hK (t_val h)
theorem s_var {i : Nat} {x : Str} {pos : Pos} (hN : X.N[i]? = some x) (hv : Vis X.env.scope x) (hd : (x == ("__debug__" : Str)) = false) (hcd : (x == ("__classdict__" : Str)) = false) :
    PE X (.Name x pos) (tE c W fun env => varR i env) := by
  refine imp (pe_var hN hv hd hcd) fun σ H Q h => ?_
  obtain ⟨env, p, fl, h⟩ := start_ h
  unfold varR at h
  cases e : slot env i with
  | none => rw [e] at h; exact h.elim
  | some s =>
    rw [e] at h
    obtain ⟨v, h1, h2⟩ := p.rel.at_ i s e
    refine ⟨v, h1, ?_⟩
    cases s with
    | v d => exact h v H p fl ⟨h2, New.v⟩
    | m x => exact h v H p fl ⟨⟨⟨_, e⟩, h1⟩, New.a⟩
    | l j => exact h v H p fl ⟨⟨⟨_, e⟩, h1⟩, New.a⟩
    | e d => exact h.elim
theorem s_lit {k : PySem.Const} {j : Nat} {pos : Pos} (h : (litD k).isSome = true) : PE X (.Constant k j pos) (tE c W fun env => litR k env) := by
  have go : ∀ {v : V} {d : D} (σ : St) (H : Hp) (Q : VK), (∀ H, Pd c.K H v d) → tE c W (fun env => .ok (.v d) env) σ H Q → tC v σ H Q := fun {v d} σ H Q hp h => by
    obtain ⟨env, p, fl, h⟩ := start_ h
    exact h v H p fl ⟨hp H, New.v⟩
  cases k with
  | none => exact imp pe_non fun σ H Q h => go σ H Q (fun _ => .non) h
  | bool b => exact imp pe_bl fun σ H Q h => go σ H Q (fun _ => .bl b) h
  | int i => exact imp pe_int fun σ H Q h => go σ H Q (fun _ => .int i) h
  | str s => exact imp pe_str fun σ H Q h => go σ H Q (fun _ => .str s) h
  | _ => cases h
end
end Di
namespace Di
open PySem PySem.Spec PyProof.Rows L2
/-! ### arguments -/
inductive ARel (K : PySem.W.Frag) (la : List Addr) (env : Env) (H : Hp) (env' : Env) (H' : Hp) (σ : St) : List V → List R → Prop
  | nil : ARel K la env H env' H' σ [] []
  | cons {v : V} {vs : List V} {r : R} {rs : List R} : RRel K la env' σ H' v r → New la env σ H v r → (∀ x p, r = .m x → v = .ref p → ∀ q, q ∈ vs.zip rs → ∀ y, q.2 = .m y → q.1 ≠ .ref p) →
      ARel K la env H env' H' σ vs rs → ARel K la env H env' H' σ (v :: vs) (r :: rs)
abbrev tA (c : Cn) (W : WX) (f : Env → Out (List R)) : TA := tG c W (fun env H env' H' σ vs rs => ARel c.K c.la env H env' H' σ vs rs) f
/-- items of a display -/
abbrev tZ (c : Cn) (W : WX) (f : Env → Out (List D)) : TA := tG c W (fun _ _ _ H' _ vs ds => PdA c.K H' vs ds) f
section
variable {X : Cx} {c : Cn} {W : WX}
theorem ARel.length {K : PySem.W.Frag} {la : List Addr} {env env' : Env} {H H' : Hp} {σ : St} : ∀ {vs : List V} {rs : List R}, ARel K la env H env' H' σ vs rs → vs.length = rs.length
  | _, _, .nil => rfl
  | _, _, .cons _ _ _ t => congrArg Nat.succ t.length
theorem ARel.before {K : PySem.W.Frag} {la : List Addr} {env0 env env' : Env} {H0 H H' : Hp} {σ : St} (p : Post K la env0 σ H0 env σ H) : ∀ {vs : List V} {rs : List R}, ARel K la env H env' H' σ vs rs → ARel K la env0 H0 env' H' σ vs rs
  | _, _, .nil => .nil
  | _, _, .cons a b d t => .cons a (b.before p) d (t.before p)
theorem ARel.news {K : PySem.W.Frag} {la : List Addr} {env env' : Env} {H H' : Hp} {σ : St} : ∀ {vs : List V} {rs : List R}, ARel K la env H env' H' σ vs rs → ∀ q ∈ vs.zip rs, New la env σ H q.1 q.2
  | _, _, .nil, q, h => by simp at h
  | _, _, .cons a b d t, q, h => by
    rcases List.mem_cons.mp (show q ∈ (_, _) :: _ from h) with h | h
    · subst h; exact b
    · exact t.news q h
theorem a_nil : PA X [] (tA c W fun env => .ok [] env) := impA pa_nil fun σ H Q h => by
  obtain ⟨env, p, fl, h⟩ := start_ h
  exact h [] H p fl .nil
theorem a_cons {e : Expr} {es : List Expr} {fe : Env → Out R} {fs : Env → Out (List R)} (he : PE X e (tE c W fe)) (hs : PA X es (tA c W fs)) (h1 : starEach (e :: es) X.env = (false, eval e X.env) :: starEach es X.env) :
    PA X (e :: es) (tA c W fun env => (fe env).bind fun r env => (fs env).bind fun rs env => .ok (r :: rs) env) := impA (pa_cons he hs h1) fun σ H Q h => by
  obtain ⟨env, p, fl, h⟩ := start_ h
  refine step p fl h fun r env1 v H1 p1 f1 r1 h1 => ?_
  refine step (p.trans p1) (fl.trans f1) h1 fun rs env2 vs H2 p2 f2 r2 h2 => ?_
  refine h2 (v :: vs) H2 ((p.trans p1).trans p2) ((fl.trans f1).trans f2) (.cons (r1.1.after p1.rel p2 f2) r1.2 (fun x q e e' z hz y ey eq => ?_) (r2.before (p.trans p1)))
  subst e
  obtain ⟨q', eq', m, n⟩ := r1.1
  rw [e'] at eq'
  cases eq'
  rcases r2.news z hz y q ey eq with h | h
  · obtain ⟨u, hu, _⟩ := m.mut
    rw [h] at hu; cases hu
  · exact n h
/-! ### freezing -/
theorem Inv.freeze {pins : List (Addr × Obj)} {σ : St} {H : Hp} {s : Shared} {p : Addr} {xs : List V} (I : Inv X pins σ H s) (h : H p = some (.lst xs)) : ∃ o, Inv X pins σ (upd H p (.frz o (.lst xs))) s := I.lock h trivial
/-- an expression whose new list is frozen -/
def tFz (t : TE) : TE := fun σ H Q => t σ H fun v H1 => Q v H1 ∨ ∃ p xs, v = .ref p ∧ H1 p = some (.lst xs) ∧ ∀ o, Q v (upd H1 p (.frz o (.lst xs)))
theorem pe_fz {e : Expr} {t : TE} (h : PE X e t) : PE X e (tFz t) := by
  refine ⟨fun pins s σ H Q I q => ?_⟩
  refine thn (h.run pins s σ H _ I q) fun v s1 ⟨x, H1, I1, r1, q1⟩ => ?_
  rcases q1 with q1 | ⟨p, xs, e, hp, q1⟩
  · exact ⟨x, H1, I1, r1, q1⟩
  · obtain ⟨o, I2⟩ := Inv.freeze I1 hp
    exact ⟨x, _, I2, r1, q1 o⟩
theorem kp_frz {H : Hp} {p : Addr} {xs : List V} {o : Obj} (h : H p = some (.lst xs)) : Kp H (upd H p (.frz o (.lst xs))) := by
  refine ⟨fun a ys ha => ?_, fun a ob u ha => ?_⟩
  · rw [upd_ne (ne_of ha h (fun z => by cases z))]; exact ha
  · rw [upd_ne (ne_of ha h (fun z => by cases z))]; exact ha
/-- an address not owned is frozen -/
theorem ERel.frz {K : PySem.W.Frag} {la : List Addr} {env : Env} {σ : St} {H : Hp} {p : Addr} {xs : List V} {o : Obj} (r : ERel K la env σ H) (h : H p = some (.lst xs)) (n : ¬ Own la env σ p) : ERel K la env σ (upd H p (.frz o (.lst xs))) := by
  have k := kp_frz (o := o) h
  refine ⟨r.len, fun i s e => ?_, fun j x e => ?_, r.ll, r.apart, r.out, r.nd⟩
  · obtain ⟨v, h1, h2⟩ := r.at_ i s e
    refine ⟨v, h1, ?_⟩
    cases s with
    | v d => exact Pd.keep k h2
    | m x =>
      obtain ⟨q, e1, m⟩ := h2
      refine ⟨q, e1, m.keep k fun ob hb => ?_⟩
      rw [upd_ne]
      · exact hb
      · rintro rfl
        rw [e1] at h1
        exact n (.inl ⟨i, x, e, h1⟩)
    | l j => exact h2
    | e d => exact h2
  · obtain ⟨q, h1, m⟩ := r.lent j x e
    refine ⟨q, h1, m.keep k fun ob hb => ?_⟩
    rw [upd_ne]
    · exact hb
    · rintro rfl
      exact n (.inr (List.mem_of_getElem? h1))
theorem slot_set_self {env : Env} {i : Nat} {s t : Sl} (h : slot env i = some t) : slot (setS env i s) i = some s := by
  unfold slot at h ⊢
  unfold setS
  have : i < env.sl.length := by
    cases e : env.sl[i]? with
    | none => rw [e] at h; cases h
    | some u => exact (List.getElem?_eq_some_iff.mp e).1
  simp [this]
theorem slot_set_ne {env : Env} {i j : Nat} {s : Sl} (h : j ≠ i) : slot (setS env i s) j = slot env j := by
  unfold slot setS
  simp only [List.getElem?_set_ne (Ne.symm h)]
/-- the list of slot i is frozen -/
theorem ERel.frzS {K : PySem.W.Frag} {la : List Addr} {env : Env} {σ : St} {H : Hp} {i : Nat} {ds : List D} (r : ERel K la env σ H) (h : slot env i = some (.m (.lst ds))) :
    ∃ p xs, σ[i]? = some (some (.ref p)) ∧ H p = some (.lst xs) ∧ Own la env σ p ∧ ∀ o, ERel K la (setS env i (.v (.list ds))) σ (upd H p (.frz o (.lst xs))) ∧ Pd K (upd H p (.frz o (.lst xs))) (.ref p) (.list ds) := by
  obtain ⟨v, h1, p, rfl, xs, hp, hz, ha⟩ := r.at_ i _ h
  refine ⟨p, xs, h1, hp, .inl ⟨i, _, h, h1⟩, fun o => ?_⟩
  have k := kp_frz (o := o) hp
  have pd : Pd K (upd H p (.frz o (.lst xs))) (.ref p) (.list ds) := .lst (.inl ⟨o, upd_same⟩) hz (ha.keep k)
  refine ⟨⟨by rw [← r.len]; simp [setS], fun j s e => ?_, fun j x e => ?_, r.ll, fun j l x y q hx hy e1 e2 => ?_, fun j x q hx e1 => ?_, r.nd⟩, pd⟩
  · by_cases hj : j = i
    · subst hj
      rw [slot_set_self h] at e
      cases e
      exact ⟨_, h1, pd⟩
    · rw [slot_set_ne hj] at e
      obtain ⟨v, e1, e2⟩ := r.at_ j s e
      refine ⟨v, e1, ?_⟩
      cases s with
      | v d => exact Pd.keep k e2
      | m x =>
        obtain ⟨q, e3, m⟩ := e2
        refine ⟨q, e3, m.keep k fun ob hb => ?_⟩
        rw [upd_ne]
        · exact hb
        · rintro rfl
          rw [e3] at e1
          exact hj (r.apart j i _ _ _ e h e1 h1)
      | l j => exact e2
      | e d => exact e2
  · obtain ⟨q, e1, m⟩ := r.lent j x e
    refine ⟨q, e1, m.keep k fun ob hb => ?_⟩
    rw [upd_ne]
    · exact hb
    · rintro rfl
      exact r.out i _ _ h h1 (List.mem_of_getElem? e1)
  · have ne : ∀ (j : Nat) (x : M), slot (setS env i (.v (.list ds))) j = some (.m x) → j ≠ i := fun j x hx e => by
      subst e
      rw [slot_set_self h] at hx
      cases hx
    have n1 := ne j x hx
    have n2 := ne l y hy
    rw [slot_set_ne n1] at hx
    rw [slot_set_ne n2] at hy
    exact r.apart j l x y q hx hy e1 e2
  · have n1 : j ≠ i := fun e => by
      subst e
      rw [slot_set_self h] at hx
      cases hx
    rw [slot_set_ne n1] at hx
    exact r.out j x q hx e1
theorem fil_set {env : Env} {i : Nat} {s t : Sl} (h : slot env i = some t) : Fil env (setS env i s) := fun j u e => by
  by_cases hj : j = i
  · subst hj; exact ⟨s, slot_set_self h⟩
  · exact ⟨u, by rw [slot_set_ne hj]; exact e⟩
theorem own_setv {la : List Addr} {env : Env} {σ : St} {i : Nat} {d : D} {t : Sl} (h : slot env i = some t) {p : Addr} (o : Own la (setS env i (.v d)) σ p) : Own la env σ p := by
  rcases o with ⟨j, x, e, e1⟩ | o
  · by_cases hj : j = i
    · subst hj
      rw [slot_set_self h] at e
      cases e
    · rw [slot_set_ne hj] at e
      exact .inl ⟨j, x, e, e1⟩
  · exact .inr o
/-- the values of display items: data that never changes -/
theorem s_fz {e : Expr} {f : Env → Out R} (h : PE X e (tE c W f)) : PE X e (tG c W (fun _ _ _ H' _ v d => Pd c.K H' v d) fun env => (f env).bind freeze) := by
  refine imp (pe_fz h) fun σ H Q q => ?_
  obtain ⟨env, p, fl, q⟩ := start_ q
  refine step p fl q fun r env1 v H1 p1 f1 r1 h1 => ?_
  cases r with
  | v d => exact .inl (h1 v H1 (p.trans p1) (fl.trans f1) r1.1)
  | m x =>
    cases x with
    | lst ds =>
      obtain ⟨⟨q, e, ⟨xs, hp, hz, ha⟩, n⟩, nw⟩ := r1
      refine .inr ⟨q, xs, e, hp, fun o => ?_⟩
      have k := kp_frz (o := o) hp
      subst e
      have p2 : Post c.K c.la env σ H env1 σ (upd H1 q (.frz o (.lst xs))) := by
        have pp := p.trans p1
        refine ⟨fun a ob h n2 => ?_, pp.rel.frz hp n, pp.sub⟩
        rw [upd_ne]
        · exact pp.ext a ob h n2
        · rintro rfl
          rcases nw _ _ rfl rfl with z | z
          · rw [h] at z; cases z
          · exact n2 z
      exact h1 (.ref q) _ p2 (fl.trans f1) (.lst (.inl ⟨o, upd_same⟩) hz (ha.keep k))
    | _ => exact h1.elim
  | a i =>
    have h1 : Fin c W (fun _ _ _ H' _ v d => Pd c.K H' v d) env H σ Q (match slot env1 i with
      | some (.v d) => .ok d env1
      | some (.m (.lst xs)) => .ok (.list xs) (setS env1 i (.v (.list xs)))
      | _ => .no) := h1
    obtain ⟨⟨s, hs⟩, hv⟩ := r1.1
    rw [hs] at h1
    cases s with
    | v d =>
      obtain ⟨v', e1, e2⟩ := p1.rel.at_ i _ hs
      rw [hv] at e1
      cases e1
      exact .inl (h1 v H1 (p.trans p1) (fl.trans f1) e2)
    | m x =>
      cases x with
      | lst ds =>
        obtain ⟨q, xs, e1, hp, ow, hh⟩ := p1.rel.frzS hs
        rw [hv] at e1
        cases e1
        refine .inr ⟨q, xs, rfl, hp, fun o => ?_⟩
        have pp := p.trans p1
        refine h1 (.ref q) _ ⟨fun a ob h n2 => ?_, (hh o).1, fun a o => pp.sub a (own_setv hs o)⟩ ((fl.trans f1).trans (fil_set hs)) (hh o).2
        rw [upd_ne]
        · exact pp.ext a ob h n2
        · rintro rfl
          rcases pp.sub _ ow with z | z
          · exact n2 z
          · rw [h] at z; cases z
      | _ => exact h1.elim
    | l j => exact h1.elim
    | e d => exact h1.elim
theorem z_nil : PA X [] (tZ c W fun env => .ok [] env) := impA pa_nil fun σ H Q h => by
  obtain ⟨env, p, fl, h⟩ := start_ h
  exact h [] H p fl .nil
theorem z_cons {e : Expr} {es : List Expr} {fe : Env → Out R} {fs : Env → Out (List D)} (he : PE X e (tE c W fe)) (hs : PA X es (tZ c W fs)) (h1 : starEach (e :: es) X.env = (false, eval e X.env) :: starEach es X.env) :
    PA X (e :: es) (tZ c W fun env => ((fe env).bind freeze).bind fun d env => (fs env).bind fun ds env => .ok (d :: ds) env) := impA (pa_cons (s_fz he) hs h1) fun σ H Q h => by
  obtain ⟨env, p, fl, h⟩ := start_ h
  refine step p fl h fun d env1 v H1 p1 f1 r1 h1 => ?_
  refine step (p.trans p1) (fl.trans f1) h1 fun ds env2 vs H2 p2 f2 r2 h2 => ?_
  exact h2 (v :: vs) H2 ((p.trans p1).trans p2) ((fl.trans f1).trans f2) (.cons (Pd.keep (p1.rel.kp p2.ext) r1) r2)
theorem s_tup {es : List Expr} {fs : Env → Out (List D)} {k : Nat} {pos : Pos} (h : PA X es (tZ c W fs)) : PE X (.Tuple es k pos) (tE c W fun env => (fs env).bind tupR) := by
  refine imp (pe_tup h) fun σ H Q q => ?_
  obtain ⟨env, p, fl, q⟩ := start_ q
  refine step p fl q fun ds env1 vs H1 p1 f1 r1 h1 => ?_
  have h1 : Fin c W (RlE c) env H σ Q (if ds.length ≤ LINE then .ok (.v (.tuple ds)) env1 else .no) := h1
  split at h1
  · rename_i hz
    rw [LINE_eq] at hz
    refine ⟨by rw [r1.length]; exact hz, fun q hq => ?_⟩
    have n := Nw.tup hq (by rw [r1.length]; exact hz) r1
    have pp := p.trans p1
    have rl := n.rl pp.rel
    exact h1 _ _ (pp.trans (.grow pp.rel n.ext)) (fl.trans f1) ⟨rl.1, rl.2.before pp⟩
  · exact h1.elim
theorem s_lst {es : List Expr} {fs : Env → Out (List D)} {pos : Pos} (h : PA X es (tZ c W fs)) : PE X (.List es pos) (tE c W fun env => (fs env).bind lstR) := by
  refine imp (pe_lst h) fun σ H Q q => ?_
  obtain ⟨env, p, fl, q⟩ := start_ q
  refine step p fl q fun ds env1 vs H1 p1 f1 r1 h1 => ?_
  have h1 : Fin c W (RlE c) env H σ Q (if ds.length ≤ LINE then .ok (.m (.lst ds)) env1 else .no) := h1
  split at h1
  · rename_i hz
    rw [LINE_eq] at hz
    refine ⟨by rw [r1.length]; exact hz, fun q hq => ?_⟩
    have n := Nw.lst hq (by rw [r1.length]; exact hz) r1
    have pp := p.trans p1
    have rl := n.rl pp.rel
    exact h1 _ _ (pp.trans (.grow pp.rel n.ext)) (fl.trans f1) ⟨rl.1, rl.2.before pp⟩
  · exact h1.elim
end
end Di
namespace Di
open PySem PySem.Spec PyProof.Rows L2
inductive LkA (K : PySem.W.Frag) (H : Hp) : List V → List RM → Prop
  | nil : LkA K H [] []
  | cons {v : V} {vs : List V} {x : RM} {xs : List RM} : Lk K H v x → LkA K H vs xs → LkA K H (v :: vs) (x :: xs)
theorem lkA_of {K : PySem.W.Frag} {la : List Addr} {env0 env : Env} {H0 H : Hp} {σ : St} (rel : ERel K la env σ H) : ∀ {vs : List V} {rs : List R} {xs : List RM}, ARel K la env0 H0 env H σ vs rs → deAll env rs = some xs → LkA K H vs xs
  | _, _, _, .nil, e => by cases e; exact .nil
  | _, _, _, .cons (r := r) (rs := rs) a b d t, e => by
    unfold deAll at e
    cases e1 : de env r with
    | none => rw [e1] at e; cases e
    | some x =>
      rw [e1] at e
      cases e2 : deAll env rs with
      | none => rw [e2] at e; cases e
      | some ys =>
        rw [e2] at e
        cases e
        exact .cons (lk_of rel a e1) (lkA_of rel t e2)
section
variable {X : Cx} {c : Cn} {W : WX}
/-- a built-in's call by data -/
def BlD (X : Cx) (f : Value) (b : Bi) : Prop := CallR X f fun xs H Q => ∃ ds res, LkA X.K H xs ds ∧ dBlt b ds = some res ∧ ∀ v H', Nw X.K H H' v res → Q v H'
theorem BlD.of {f : Value} {b : Bi} (h : ∀ (xs : List V) (H : Hp) (ds : List RM) (res : R) (Q : VK), LkA X.K H xs ds → dBlt b ds = some res → (∀ v H', Nw X.K H H' v res → Q v H') → ∃ r, CallR X f r ∧ r xs H Q) : BlD X f b := by
  intro pins s σ H xs us Q I rx ⟨ds, res, l, e, q⟩
  obtain ⟨r, hc, hr⟩ := h xs H ds res Q l e q
  exact hc pins s σ H xs us Q I rx hr
theorem LkA.one {K : PySem.W.Frag} {H : Hp} {xs : List V} {x : RM} (h : LkA K H xs [x]) : ∃ v, xs = [v] ∧ Lk K H v x := by
  cases h with
  | cons a t => cases t; exact ⟨_, rfl, a⟩
theorem LkA.two {K : PySem.W.Frag} {H : Hp} {xs : List V} {x y : RM} (h : LkA K H xs [x, y]) : ∃ v u, xs = [v, u] ∧ Lk K H v x ∧ Lk K H u y := by
  cases h with
  | cons a t =>
    cases t with
    | cons b t => cases t; exact ⟨_, _, rfl, a, b⟩
theorem ints_k {K : PySem.W.Frag} {H : Hp} : ∀ {vs : List V} {ds : List D} {is : List Int}, PdA K H vs ds → ints? ds = some is → vs = is.map V.int
  | _, _, _, .nil, e => by cases e; rfl
  | _, _, _, .cons (d := d) (ds := ds) h t, e => by
    cases d with
    | int i =>
      cases h
      unfold ints? at e
      cases e1 : ints? ds with
      | none => rw [e1] at e; cases e
      | some js =>
        rw [e1] at e
        cases e
        rw [ints_k t e1]
        rfl
    | _ => simp [ints?] at e
theorem bools_k {K : PySem.W.Frag} {H : Hp} : ∀ {vs : List V} {ds : List D} {is : List Bool}, PdA K H vs ds → bools? ds = some is → vs = is.map V.bl
  | _, _, _, .nil, e => by cases e; rfl
  | _, _, _, .cons (d := d) (ds := ds) h t, e => by
    cases d with
    | bool i =>
      cases h
      unfold bools? at e
      cases e1 : bools? ds with
      | none => rw [e1] at e; cases e
      | some js =>
        rw [e1] at e
        cases e
        rw [bools_k t e1]
        rfl
    | _ => simp [bools?] at e
theorem minL_k : ∀ (is : List Int) (m : Int), minL m is ∈ m :: is ∧ ∀ y ∈ m :: is, minL m is ≤ y
  | [], m => by simp [minL]
  | i :: r, m => by
    unfold minL
    obtain ⟨h1, h2⟩ := minL_k r (if i < m then i else m)
    refine ⟨?_, fun y hy => ?_⟩
    · simp only [List.mem_cons] at h1 ⊢
      rcases h1 with h1 | h1
      · rw [h1]; split <;> simp
      · exact .inr (.inr h1)
    · have h3 := h2 _ (List.mem_cons_self ..)
      simp only [List.mem_cons] at hy
      rcases hy with rfl | rfl | hy
      · split at h3 <;> split <;> omega
      · split at h3 <;> split <;> omega
      · exact h2 y (List.mem_cons_of_mem _ hy)
theorem maxL_k : ∀ (is : List Int) (m : Int), maxL m is ∈ m :: is ∧ ∀ y ∈ m :: is, y ≤ maxL m is
  | [], m => by simp [maxL]
  | i :: r, m => by
    unfold maxL
    obtain ⟨h1, h2⟩ := maxL_k r (if i > m then i else m)
    refine ⟨?_, fun y hy => ?_⟩
    · simp only [List.mem_cons] at h1 ⊢
      rcases h1 with h1 | h1
      · rw [h1]; split <;> simp
      · exact .inr (.inr h1)
    · have h3 := h2 _ (List.mem_cons_self ..)
      simp only [List.mem_cons] at hy
      rcases hy with rfl | rfl | hy
      · split at h3 <;> split <;> omega
      · split at h3 <;> split <;> omega
      · exact h2 y (List.mem_cons_of_mem _ hy)
theorem bl_len : BlD X (.builtin "len") .len := .of fun xs H ds res Q l e q => by
  unfold dBlt at e
  split at e <;> try (first | contradiction | (exfalso; simp_all; done))
  rename_i x
  obtain ⟨v, rfl, lx⟩ := l.one
  split at e
  · rename_i ys es
    cases e
    obtain ⟨p, vs, rfl, h1, h2, h3⟩ := lx.seq es
    refine ⟨_, call_len_seq, p, vs, rfl, h1, ?_⟩
    rw [h3.length]
    exact q _ _ (.val (.int _))
  · split at e
    · split at e
      · rename_i z hz
        cases e
        rw [LINE_eq] at hz
        rw [pd_str lx]
        exact ⟨_, call_len_str, _, rfl, hz, q _ _ (.val (.int _))⟩
      · cases e
    · cases e
theorem bl_int : BlD X (.type "int") .int := .of fun xs H ds res Q l e q => by
  unfold dBlt at e
  split at e <;> try (first | contradiction | (exfalso; simp_all; done))
  · rename_i i
    cases e
    obtain ⟨v, rfl, lx⟩ := l.one
    rw [pd_int lx]
    exact ⟨_, call_int1, .inl ⟨_, rfl, q _ _ (.val (.int _))⟩⟩
  · rename_i b
    cases e
    obtain ⟨v, rfl, lx⟩ := l.one
    rw [pd_bl lx]
    exact ⟨_, call_int1, .inr ⟨_, rfl, q _ _ (.val (.int _))⟩⟩
theorem bl_abs : BlD X (.builtin "abs") .abs := .of fun xs H ds res Q l e q => by
  unfold dBlt at e
  split at e <;> try (first | contradiction | (exfalso; simp_all; done))
  cases e
  obtain ⟨v, rfl, lx⟩ := l.one
  rw [pd_int lx]
  exact ⟨_, call_abs, _, rfl, q _ _ (.val (.int _))⟩
theorem bl_min (hc : X.calm = true) : BlD X (.builtin "min") .min := .of fun xs H ds res Q l e q => by
  unfold dBlt at e
  split at e <;> try (first | contradiction | (exfalso; simp_all; done))
  · cases e
    obtain ⟨v, u, rfl, lx, ly⟩ := l.two
    rw [pd_int lx, pd_int ly]
    exact ⟨_, call_min2 hc, _, _, rfl, q _ _ (.val (.int _))⟩
  · rename_i x _
    obtain ⟨v, rfl, lx⟩ := l.one
    split at e
    · rename_i ys es
      split at e
      · rename_i i is ei
        cases e
        obtain ⟨p, vs, rfl, h1, h2, h3⟩ := lx.seqL es
        rw [ints_k h3 ei] at h1
        obtain ⟨k1, k2⟩ := minL_k is i
        refine ⟨_, cr_min hc, p, i :: is, rfl, h1, by simp, fun m hm hle => ?_⟩
        have : m = minL i is := Int.le_antisymm (hle _ k1) (k2 m hm)
        rw [this]
        exact q _ _ (.val (.int _))
      · cases e
    · cases e
theorem bl_max (hc : X.calm = true) : BlD X (.builtin "max") .max := .of fun xs H ds res Q l e q => by
  unfold dBlt at e
  split at e <;> try (first | contradiction | (exfalso; simp_all; done))
  · cases e
    obtain ⟨v, u, rfl, lx, ly⟩ := l.two
    rw [pd_int lx, pd_int ly]
    exact ⟨_, call_max2 hc, _, _, rfl, q _ _ (.val (.int _))⟩
  · rename_i x _
    obtain ⟨v, rfl, lx⟩ := l.one
    split at e
    · rename_i ys es
      split at e
      · rename_i i is ei
        cases e
        obtain ⟨p, vs, rfl, h1, h2, h3⟩ := lx.seqL es
        rw [ints_k h3 ei] at h1
        obtain ⟨k1, k2⟩ := maxL_k is i
        refine ⟨_, cr_max hc, p, i :: is, rfl, h1, by simp, fun m hm hle => ?_⟩
        have : m = maxL i is := Int.le_antisymm (k2 m hm) (hle _ k1)
        rw [this]
        exact q _ _ (.val (.int _))
      · cases e
    · cases e
theorem cr_sum_tup (hc : X.calm = true) : CallR X (.builtin "sum") (fun vs H Q => ∃ (a : Addr) (ns : List Int), vs = [V.ref a] ∧ SqT X.K H a (ns.map V.int) ∧ Q (.int ns.sum) H) := by
  intro pins s σ H vs us Q I r h
  obtain ⟨a, ns, rfl, hs, q⟩ := h
  obtain ⟨its, rv, hl, _⟩ := I.tuple hs
  rw [Vals.ref1 r]
  obtain ⟨xs, e⟩ := rv.ints.allInts.items
  have hn : numsOf (intItems xs).toList = ns := by rw [← e]; exact rv.ints.numsOf
  rw [nums_intItems] at hn
  have hl : s.heap.IsTuple a its.toArray := hl
  rw [e] at hl
  refine PySem.W.ktm_sumG (I.ok.hd hc) hl fun h' tk t' hk => ?_
  rw [preSum_eq, List.take_of_length_le (by simp), hn]
  exact ⟨.int _, H, I.kept hk, ⟨_, rfl⟩, q⟩
theorem bl_sum (hc : X.calm = true) : BlD X (.builtin "sum") .sum := .of fun xs H ds res Q l e q => by
  unfold dBlt at e
  split at e <;> try (first | contradiction | (exfalso; simp_all; done))
  rename_i x
  obtain ⟨v, rfl, lx⟩ := l.one
  split at e
  · rename_i ys es
    split at e
    · rename_i is ei
      cases e
      obtain ⟨p, vs, rfl, h1, h2, h3⟩ := lx.seq es
      rw [ints_k h3 ei] at h1
      rcases h1 with h1 | h1
      · exact ⟨_, cr_sum hc, p, is, rfl, h1, q _ _ (.val (.int _))⟩
      · exact ⟨_, cr_sum_tup hc, p, is, rfl, h1, q _ _ (.val (.int _))⟩
    · cases e
  · cases e
theorem bl_all (hc : X.calm = true) : BlD X (.builtin "all") .all := .of fun xs H ds res Q l e q => by
  unfold dBlt at e
  split at e <;> try (first | contradiction | (exfalso; simp_all; done))
  rename_i x
  obtain ⟨v, rfl, lx⟩ := l.one
  split at e
  · rename_i ys es
    split at e
    · rename_i is ei
      cases e
      obtain ⟨p, vs, rfl, h1, h2, h3⟩ := lx.seqL es
      rw [bools_k h3 ei] at h1
      exact ⟨_, cr_all hc, p, is, rfl, h1, q _ _ (.val (.bl _))⟩
    · cases e
  · cases e
theorem bl_any (hc : X.calm = true) : BlD X (.builtin "any") .any := .of fun xs H ds res Q l e q => by
  unfold dBlt at e
  split at e <;> try (first | contradiction | (exfalso; simp_all; done))
  rename_i x
  obtain ⟨v, rfl, lx⟩ := l.one
  split at e
  · rename_i ys es
    split at e
    · rename_i is ei
      cases e
      obtain ⟨p, vs, rfl, h1, h2, h3⟩ := lx.seqL es
      rw [bools_k h3 ei] at h1
      exact ⟨_, cr_any hc, p, is, rfl, h1, q _ _ (.val (.bl _))⟩
    · cases e
  · cases e
theorem bl_tuple : BlD X (.type "tuple") .tuple := .of fun xs H ds res Q l e q => by
  unfold dBlt at e
  split at e <;> try (first | contradiction | (exfalso; simp_all; done))
  rename_i x
  obtain ⟨v, rfl, lx⟩ := l.one
  split at e
  · rename_i ys es
    cases e
    obtain ⟨p, vs, rfl, h1, h2, h3⟩ := lx.seq es
    refine ⟨_, call_tuple_of, p, vs, rfl, ?_⟩
    rcases h1 with h1 | h1
    · exact .inl ⟨h1, fun z hz => q _ _ (.tup hz h2 h3)⟩
    · exact .inr ⟨h1, q _ _ (.val (.tup h1 h2 h3))⟩
  · cases e
theorem bl_list : BlD X (.type "list") .list := .of fun xs H ds res Q l e q => by
  unfold dBlt at e
  split at e <;> try (first | contradiction | (exfalso; simp_all; done))
  rename_i x
  obtain ⟨v, rfl, lx⟩ := l.one
  split at e
  · rename_i ys es
    cases e
    obtain ⟨p, vs, rfl, h1, h2, h3⟩ := lx.seq es
    exact ⟨_, call_list_of, p, vs, rfl, h1, fun z hz => q _ _ (.lst hz h2 h3)⟩
  · cases e
theorem t_blt {b : Bi} {fs : Env → Out (List R)} (hK : X.K = c.K) {σ : St} {H : Hp} {Q : VK}
    (h : tE c W (fun env => (fs env).bind fun rs env => bltR b rs env) σ H Q) : tCB (fun xs H Q => ∃ ds res, LkA X.K H xs ds ∧ dBlt b ds = some res ∧ ∀ v H', Nw X.K H H' v res → Q v H') (tA c W fs) σ H Q := by
  obtain ⟨env, p, fl, h⟩ := start_ h
  refine step p fl h fun rs env1 vs H1 p1 f1 r1 h1 => ?_
  have h1 : Fin c W (RlE c) env H σ Q (bltR b rs env1) := h1
  unfold bltR at h1
  split at h1
  · rename_i ds ed
    split at h1
    · rename_i res er
      have l : LkA X.K H1 vs ds := by rw [hK]; exact lkA_of p1.rel r1 ed
      refine ⟨ds, res, l, er, fun w H3 n => ?_⟩
      rw [hK] at n
      have pp := p.trans p1
      have rl := n.rl pp.rel
      exact h1 w H3 (pp.trans (.grow pp.rel n.ext)) (fl.trans f1) ⟨rl.1, rl.2.before pp⟩
    · exact h1.elim
  · exact h1.elim
end
end Di
namespace Di
open PySem PySem.Spec PyProof.Rows L2
section
variable {X : Cx} {c : Cn} {W : WX}
/-! ### subscripts -/
def IxD (X : Cx) (g : RM → RM → Option R) : Prop := IxR X fun x y H Q => ∃ dx dy res, Lk X.K H x dx ∧ Lk X.K H y dy ∧ g dx dy = some res ∧ ∀ v H', Nw X.K H H' v res → Q v H'
theorem ixD_N (n : Nat) (i : Int) : ixD n i = ixN n i := rfl
theorem atI_of {K : PySem.W.Frag} {H : Hp} {vs : List V} {ds : List D} {i : Int} {j : Nat} {d : D} (h : PdA K H vs ds) (e : ixD ds.length i = some j) (e2 : ds[j]? = some d) : ∃ v, atI vs i = some v ∧ Pd K H v d := by
  obtain ⟨v, h1, h2⟩ := h.get e2
  refine ⟨v, ?_, h2⟩
  unfold atI
  rw [h.length, ← ixD_N, e]
  exact h1
theorem ix_sub : IxD X dSub := by
  intro a b pins s σ H x y v u Q I rx ry ⟨dx, dy, res, lx, ly, e, q⟩
  suffices h : ∃ r : R2, IxR X r ∧ r x y H Q by
    obtain ⟨r, hr, h⟩ := h
    exact hr a b pins s σ H x y v u Q I rx ry h
  unfold dSub at e
  split at e
  · rename_i i
    have ey := pd_int ly
    split at e
    · rename_i xs es
      split at e
      · rename_i j ej
        split at e
        · rename_i d ed
          cases e
          obtain ⟨p, vs, rfl, h1, h2, h3⟩ := lx.seq es
          obtain ⟨w, hw, hp⟩ := atI_of h3 ej ed
          rcases h1 with h1 | h1
          · exact ⟨_, ix_list, p, vs, i, w, rfl, ey, h1, hw, q _ _ (.val hp)⟩
          · exact ⟨_, ix_tup, p, vs, i, w, rfl, ey, h1, hw, q _ _ (.val hp)⟩
        · cases e
      · cases e
    · split at e
      · rename_i z _
        split at e
        · cases e
        · rename_i hz
          split at e
          · rename_i j ej
            split at e
            · rename_i k ek
              cases e
              rw [LINE_eq] at hz
              refine ⟨_, ix_str, z, i, k, pd_str lx, ey, by omega, ?_, q _ _ (.val (.str _))⟩
              unfold atI
              have : z.cps.toList.length = z.length := Array.length_toList
              rw [this, ← ixD_N, ej]
              exact ek
            · cases e
          · cases e
      · cases e
  · cases e
theorem s_sub {a b : Expr} {pos : Pos} {fa fb : Env → Out R} (hK : X.K = c.K) (ha : PE X a (tE c W fa)) (hb : PE X b (tE c W fb)) (hs : PlainIx b) :
    PE X (.Subscript a b pos) (tE c W fun env => (fa env).bind fun x env => (fb env).bind fun y env => op2 dSub x y env) :=
  imp (pe_ix ix_sub ha hb hs) fun _ _ _ h => two hK h
/-! ### slices -/
theorem pdA_cut {K : PySem.W.Frag} {H : Hp} {vs : List V} {ds : List D} (h : PdA K H vs ds) (lo hi : Option Int) : PdA K H (cutV vs lo hi) (cut ds lo hi) := by
  unfold cutV cut
  rw [h.length]
  exact (h.drop _).take _
def SlD (X : Cx) : Prop := SlR X fun x lo hi H Q => ∃ dx res, Lk X.K H x dx ∧ dSlc lo hi dx = some res ∧ ∀ v H', Nw X.K H H' v res → Q v H'
theorem sl_slc : SlD X := by
  intro pins s σ H x v vl vu lo hi sl Q I rx hs pl pu ⟨dx, res, lx, e, q⟩
  suffices h : ∃ r : V → Option Int → Option Int → Hp → VK → Prop, SlR X r ∧ r x lo hi H Q by
    obtain ⟨r, hr, h⟩ := h
    exact hr pins s σ H x v vl vu lo hi sl Q I rx hs pl pu h
  unfold dSlc at e
  split at e
  · rename_i xs
    cases e
    obtain ⟨p, vs, rfl, h1, h2, h3⟩ := lx.seqT rfl
    refine ⟨_, sl_tupA, p, vs, rfl, h1, fun hw => ?_, fun _ z hz => q _ _ (.tup hz (Nat.le_trans (cutV_length _ _ _) h2) (pdA_cut h3 lo hi))⟩
    have e : cut xs lo hi = xs := by
      unfold cut
      have h1 : sIx xs.length 0 lo = 0 := by rw [← h3.length]; exact hw.1
      have h2 : sIx xs.length xs.length hi = xs.length := by rw [← h3.length]; exact hw.2
      rw [h1, h2]
      simp
    rw [e] at q
    exact q _ _ (.val (.tup h1 h2 h3))
  · rename_i z
    split at e
    · rename_i hz
      cases e
      rw [LINE_eq] at hz
      refine ⟨_, sl_str, z, pd_str lx, hz, ?_⟩
      have e : cutS z lo hi = ⟨(cut z.cps.toList lo hi).toArray⟩ := by
        unfold cutS cut
        have : z.cps.toList.length = z.length := Array.length_toList
        rw [this]
        rfl
      rw [e]
      exact q _ _ (.val (.str _))
    · cases e
  · split at e
    · rename_i xs es
      cases e
      obtain ⟨p, vs, rfl, h1, h2, h3⟩ := lx.seqL es
      exact ⟨_, sl_list, p, vs, rfl, h1, fun z hz => q _ _ (.lst hz (Nat.le_trans (cutV_length _ _ _) h2) (pdA_cut h3 lo hi))⟩
    · cases e
abbrev tO (c : Cn) (W : WX) (f : Env → Out (Option Int)) : TO := tG c W (fun _ _ _ _ _ b a => b = a) f
theorem o_none : PO X none (tO c W fun env => .ok none env) := by
  have h : PO X none tNoPart := po_none
  refine ⟨fun pins s σ H Q I q => h.run pins s σ H Q I ?_⟩
  obtain ⟨env, p, fl, q⟩ := start_ q
  exact q none H p fl rfl
theorem o_some {e : Expr} {f : Env → Out R} (he : PE X e (tE c W f)) : PO X (some e) (tO c W fun env => (f env).bind partR) := by
  have h := po_some he
  refine ⟨fun pins s σ H Q I q => h.run pins s σ H Q I ?_⟩
  obtain ⟨env, p, fl, q⟩ := start_ q
  refine step p fl q fun r env1 v H1 p1 f1 r1 h1 => ?_
  cases r with
  | v d =>
    cases d with
    | int i =>
      have e := r1.1
      cases e
      exact ⟨i, rfl, h1 (some i) H1 (p.trans p1) (fl.trans f1) rfl⟩
    | _ => exact h1.elim
  | _ => exact h1.elim
theorem s_slc {a : Expr} {lo hi : Option Expr} {p2 pos : Pos} {fa : Env → Out R} {fl fh : Env → Out (Option Int)} (hK : X.K = c.K) (ha : PE X a (tE c W fa)) (hl : PO X lo (tO c W fl)) (hh : PO X hi (tO c W fh)) :
    PE X (.Subscript a (.Slice lo hi none p2) pos) (tE c W fun env => (fa env).bind fun x env => (fl env).bind fun l env => (fh env).bind fun h env => op1 (dSlc l h) x env) :=
  imp (pe_slice sl_slc ha hl hh) fun σ H Q h => by
    obtain ⟨env, p, fi, h⟩ := start_ h
    refine step p fi h fun x env1 v H1 p1 f1 r1 h1 => ?_
    refine step (p.trans p1) (fi.trans f1) h1 fun l env2 l' H2 p2 f2 r2 h2 => ?_
    refine step ((p.trans p1).trans p2) ((fi.trans f1).trans f2) h2 fun u env3 u' H3 p3 f3 r3 h3 => ?_
    subst r2 r3
    have rx := (r1.1.after p1.rel p2 f2).after p2.rel p3 f3
    have h3 : Fin c W (RlE c) env H σ Q (op1 (dSlc l' u') x env3) := h3
    unfold op1 at h3
    split at h3
    · rename_i dx ex
      split at h3
      · rename_i res eg
        have l1 : Lk X.K H3 v dx := by rw [hK]; exact lk_of p3.rel rx ex
        refine ⟨dx, res, l1, eg, fun w H4 n => ?_⟩
        rw [hK] at n
        have pp := ((p.trans p1).trans p2).trans p3
        have rl := n.rl pp.rel
        exact h3 w H4 (pp.trans (.grow pp.rel n.ext)) (((fi.trans f1).trans f2).trans f3) ⟨rl.1, rl.2.before pp⟩
      · exact h3.elim
    · exact h3.elim
/-! ### one operand -/
theorem s_neg {a : Expr} {pos : Pos} {fa : Env → Out R} (hK : X.K = c.K) (ha : PE X a (tE c W fa)) : PE X (.UnaryOp .USub a pos) (tE c W fun env => (fa env).bind fun x env => op1 dNeg x env) := by
  have h : UnR X (unaryOp .USub) (fun x H Q => ∃ dx res, Lk X.K H x dx ∧ dNeg dx = some res ∧ ∀ v H', Nw X.K H H' v res → Q v H') := by
    intro pins s σ H x v Q I rx ⟨dx, res, lx, e, q⟩
    unfold dNeg at e
    split at e
    · cases e
      exact un_neg pins s σ H x v Q I rx ⟨_, pd_int lx, q _ _ (.val (.int _))⟩
    · cases e
  exact imp (pe_un h ha) fun _ _ _ h => one hK h
theorem s_not {a : Expr} {pos : Pos} {fa : Env → Out R} (hK : X.K = c.K) (ha : PE X a (tE c W fa)) : PE X (.UnaryOp .Not a pos) (tE c W fun env => (fa env).bind fun x env => op1 dNot x env) := by
  refine imp (pe_not ha) fun σ H Q h => ?_
  have h := one (X := X) hK h
  obtain ⟨env, p, fl, h⟩ := start_ h
  refine ⟨env, p.rel, ?_⟩
  cases ef : fa env with
  | ok r env1 =>
    rw [ef] at h
    intro v H1 p1 f1 r1
    obtain ⟨dx, res, lx, e, q⟩ := h v H1 p1 f1 r1
    unfold dNot at e
    split at e
    · rename_i b
      cases e
      exact ⟨b, pd_bl lx, q _ _ (.val (.bl _))⟩
    · cases e
  | exc k d e => rw [ef] at h; exact h
  | no => rw [ef] at h; exact h
theorem non_iff {K : PySem.W.Frag} {H : Hp} {v : V} {x : RM} (h : Lk K H v x) : decide (v = .non) = isNone x := by
  cases x with
  | v d => cases h <;> rfl
  | m y => obtain ⟨p, rfl, _⟩ := h; rfl
theorem isN_k {neg : Bool} {fa : Env → Out R} (hK : X.K = c.K) {σ : St} {H : Hp} {Q : VK} (h : tE c W (fun env => (fa env).bind fun x env => op1 (isnG neg) x env) σ H Q) : tE c W fa σ H fun x H1 => Q (.bl (decide (x = .non) != neg)) H1 := by
  have h := one (X := X) hK h
  obtain ⟨env, p, fl, h⟩ := start_ h
  refine ⟨env, p.rel, ?_⟩
  cases ef : fa env with
  | ok r env1 =>
    rw [ef] at h
    intro v H1 p1 f1 r1
    obtain ⟨dx, res, lx, e, q⟩ := h v H1 p1 f1 r1
    cases e
    rw [non_iff lx]
    exact q _ _ (.val (.bl _))
  | exc k d e => rw [ef] at h; exact h
  | no => rw [ef] at h; exact h
theorem s_isN {neg : Bool} {a : Expr} {j : Nat} {p2 pos : Pos} {fa : Env → Out R} (hK : X.K = c.K) (ha : PE X a (tE c W fa)) : PE X (.Compare a [if neg = true then .IsNot else .Is] [.Constant .none j p2] pos)
    (tE c W fun env => (fa env).bind fun x env => op1 (isnG neg) x env) := by
  cases neg with
  | false =>
    refine imp (pe_cmp (pc_isN ha)) fun σ H Q h => ?_
    have z := isN_k hK h
    simp only [Bool.bne_false] at z
    exact z
  | true =>
    refine imp (pe_cmp (pc_notN ha)) fun σ H Q h => ?_
    have z := isN_k hK h
    simp only [Bool.bne_true] at z
    exact z
theorem t_isN {neg : Bool} {a : Expr} {j : Nat} {p2 pos : Pos} {fa : Env → Out R} (hK : X.K = c.K) (ha : PE X a (tE c W fa)) : PT X (.Compare a [if neg = true then .IsNot else .Is] [.Constant .none j p2] pos)
    (tT c W fun env => ((fa env).bind fun x env => op1 (isnG neg) x env).bind valT) := by
  cases neg with
  | false =>
    refine impT (pt_cmp (pc_isN ha)) fun σ H Q h => ?_
    have z := isN_k (Q := fun x H' => ∃ k, x = .bl k ∧ Q k H') hK (t_val h)
    simp only [Bool.bne_false] at z
    exact z
  | true =>
    refine impT (pt_cmp (pc_notN ha)) fun σ H Q h => ?_
    have z := isN_k (Q := fun x H' => ∃ k, x = .bl k ∧ Q k H') hK (t_val h)
    simp only [Bool.bne_true] at z
    exact z
theorem isB_k {neg w : Bool} {fa : Env → Out R} (hK : X.K = c.K) {σ : St} {H : Hp} {Q : VK} (h : tE c W (fun env => (fa env).bind fun x env => op1 (dIsB w neg) x env) σ H Q) :
    tOp (fun x y H Q => ∃ a b, x = .bl a ∧ y = .bl b ∧ Q (.bl (decide (a = b) != neg)) H) (tE c W fa) (tC (.bl w)) σ H Q := by
  have h := one (X := X) hK h
  obtain ⟨env, p, fl, h⟩ := start_ h
  refine ⟨env, p.rel, ?_⟩
  cases ef : fa env with
  | ok r env1 =>
    rw [ef] at h
    intro v H1 p1 f1 r1
    obtain ⟨dx, res, lx, e, q⟩ := h v H1 p1 f1 r1
    unfold dIsB at e
    split at e
    · rename_i b
      cases e
      refine ⟨b, w, pd_bl lx, rfl, ?_⟩
      rw [← Bool.beq_eq_decide_eq]
      exact q _ _ (.val (.bl _))
    · cases e
  | exc k d e => rw [ef] at h; exact h
  | no => rw [ef] at h; exact h
theorem op_is_bln {neg : Bool} : OpR X (compareOp (if neg = true then .IsNot else .Is)) (fun x y H Q => ∃ a b, x = .bl a ∧ y = .bl b ∧ Q (.bl (decide (a = b) != neg)) H) := by
  cases neg with
  | false =>
    intro pins s σ H x y v u Q I rx ry ⟨a, b, e1, e2, q⟩
    rw [Bool.bne_false] at q
    exact op_is_bl pins s σ H x y v u Q I rx ry ⟨a, b, e1, e2, q⟩
  | true =>
    intro pins s σ H x y v u Q I rx ry ⟨a, b, e1, e2, q⟩
    rw [Bool.bne_true] at q
    exact op_isnot_bl pins s σ H x y v u Q I rx ry ⟨a, b, e1, e2, q⟩
theorem nomark_ {op : CmpOp} {w : Bool} {j : Nat} {p : Pos} : behindInMarks op (.Constant (.bool w) j p) = false := rfl
theorem s_isB {neg w : Bool} {a : Expr} {j : Nat} {p2 pos : Pos} {fa : Env → Out R} (hK : X.K = c.K) (ha : PE X a (tE c W fa)) : PE X (.Compare a [if neg = true then .IsNot else .Is] [.Constant (.bool w) j p2] pos)
    (tE c W fun env => (fa env).bind fun x env => op1 (dIsB w neg) x env) :=
  imp (pe_cmpR op_is_bln ha (pe_bl (b := w)) nomark_) fun σ H Q h => isB_k hK h
theorem t_isB {neg w : Bool} {a : Expr} {j : Nat} {p2 pos : Pos} {fa : Env → Out R} (hK : X.K = c.K) (ha : PE X a (tE c W fa)) : PT X (.Compare a [if neg = true then .IsNot else .Is] [.Constant (.bool w) j p2] pos)
    (tT c W fun env => ((fa env).bind fun x env => op1 (dIsB w neg) x env).bind valT) :=
  impT (pt_cmpR op_is_bln ha (pe_bl (b := w)) nomark_) fun σ H Q h => isB_k (Q := fun x H' => ∃ k, x = .bl k ∧ Q k H') hK (t_val h)
/-! ### and, or, not, if -/
theorem s_and {a b : Expr} {rest : List Expr} {pos : Pos} {fa fb : Env → Out R} (ha : PE X a (tE c W fa)) (hb : PE X (.BoolOp .And (b :: rest) pos) (tE c W fb)) :
    PE X (.BoolOp .And (a :: b :: rest) pos) (tE c W fun env => (fa env).bind fun x env => andR fb x env) := by
  refine imp (pe_and ha hb) fun σ H Q h => ?_
  obtain ⟨env, p, fl, h⟩ := start_ h
  refine step p fl h fun x env1 v H1 p1 f1 r1 h1 => ?_
  cases x with
  | v d =>
    cases d with
    | bool k =>
      have e := r1.1
      cases e
      refine ⟨k, rfl, ?_⟩
      cases k with
      | true =>
        rw [if_pos rfl]
        have h1 : Fin c W (RlE c) env H σ Q (fb env1) := h1
        have h1 : Fin c W (RlE c) env H σ Q ((fb env1).bind fun r env => .ok r env) := by
          cases ef : fb env1 <;> rw [ef] at h1 <;> exact h1
        refine step (p.trans p1) (fl.trans f1) h1 fun y env2 u H2 p2 f2 r2 h2 => ?_
        have pp := p.trans p1
        exact h2 u H2 (pp.trans p2) ((fl.trans f1).trans f2) ⟨r2.1, r2.2.before pp⟩
      | false =>
        rw [if_neg Bool.false_ne_true]
        exact h1 (.bl false) H1 (p.trans p1) (fl.trans f1) ⟨.bl false, New.v⟩
    | _ => exact h1.elim
  | _ => exact h1.elim
theorem s_or {a b : Expr} {rest : List Expr} {pos : Pos} {fa fb : Env → Out R} (ha : PE X a (tE c W fa)) (hb : PE X (.BoolOp .Or (b :: rest) pos) (tE c W fb)) :
    PE X (.BoolOp .Or (a :: b :: rest) pos) (tE c W fun env => (fa env).bind fun x env => orR fb x env) := by
  refine imp (pe_or ha hb) fun σ H Q h => ?_
  obtain ⟨env, p, fl, h⟩ := start_ h
  refine step p fl h fun x env1 v H1 p1 f1 r1 h1 => ?_
  cases x with
  | v d =>
    cases d with
    | bool k =>
      have e := r1.1
      cases e
      refine ⟨k, rfl, ?_⟩
      cases k with
      | false =>
        rw [if_neg Bool.false_ne_true]
        have h1 : Fin c W (RlE c) env H σ Q (fb env1) := h1
        have h1 : Fin c W (RlE c) env H σ Q ((fb env1).bind fun r env => .ok r env) := by
          cases ef : fb env1 <;> rw [ef] at h1 <;> exact h1
        refine step (p.trans p1) (fl.trans f1) h1 fun y env2 u H2 p2 f2 r2 h2 => ?_
        have pp := p.trans p1
        exact h2 u H2 (pp.trans p2) ((fl.trans f1).trans f2) ⟨r2.1, r2.2.before pp⟩
      | true =>
        rw [if_pos rfl]
        exact h1 (.bl true) H1 (p.trans p1) (fl.trans f1) ⟨.bl true, New.v⟩
    | _ => exact h1.elim
  | _ => exact h1.elim
/-- a part's end is the whole's -/
theorem tail_ {f : Env → Out R} {env0 env1 : Env} {H0 H1 : Hp} {σ : St} {Q : VK} (p : Post c.K c.la env0 σ H0 env1 σ H1) (fl : Fil env0 env1) (h : Fin c W (RlE c) env0 H0 σ Q (f env1)) : tE c W f σ H1 Q := by
  have h : Fin c W (RlE c) env0 H0 σ Q ((f env1).bind fun r env => .ok r env) := by
    cases ef : f env1 <;> rw [ef] at h <;> exact h
  refine step p fl h fun y env2 u H2 p2 f2 r2 h2 => ?_
  exact h2 u H2 (p.trans p2) (fl.trans f2) ⟨r2.1, r2.2.before p⟩
theorem tailT {f : Env → Out Bool} {env0 env1 : Env} {H0 H1 : Hp} {σ : St} {Q : Bool → Hp → Prop} (p : Post c.K c.la env0 σ H0 env1 σ H1) (fl : Fil env0 env1) (h : Fin c W (fun _ _ _ _ _ b a => b = a) env0 H0 σ Q (f env1)) : tT c W f σ H1 Q := by
  have h : Fin c W (fun _ _ _ _ _ b a => b = a) env0 H0 σ Q ((f env1).bind fun r env => .ok r env) := by
    cases ef : f env1 <;> rw [ef] at h <;> exact h
  refine step p fl h fun y env2 u H2 p2 f2 r2 h2 => ?_
  exact h2 u H2 (p.trans p2) (fl.trans f2) r2
theorem s_ife {t a b : Expr} {pos : Pos} {ft : Env → Out Bool} {fa fb : Env → Out R} (ht : PT X t (tT c W ft)) (ha : PE X a (tE c W fa)) (hb : PE X b (tE c W fb)) :
    PE X (.IfExp t a b pos) (tE c W fun env => (ft env).bind fun c env => if c = true then fa env else fb env) := by
  refine imp (pe_ifExp ht ha hb) fun σ H Q h => ?_
  obtain ⟨env, p, fl, h⟩ := start_ h
  refine step p fl h fun x env1 v H1 p1 f1 r1 h1 => ?_
  subst r1
  cases v with
  | true => exact tail_ (p.trans p1) (fl.trans f1) h1
  | false => exact tail_ (p.trans p1) (fl.trans f1) h1
theorem t_not {a : Expr} {pos : Pos} {f : Env → Out Bool} (ha : PT X a (tT c W f)) : PT X (.UnaryOp .Not a pos) (tT c W fun env => (f env).bind fun b env => .ok (!b) env) := by
  refine impT (pt_not ha) fun σ H Q h => ?_
  obtain ⟨env, p, fl, h⟩ := start_ h
  refine step p fl h fun x env1 v H1 p1 f1 r1 h1 => ?_
  subst r1
  exact h1 (!v) H1 (p.trans p1) (fl.trans f1) rfl
theorem w_and {a b : Expr} {rest : List Expr} {pos : Pos} {fa fb : Env → Out Bool} (ha : PT X a (tT c W fa)) (hb : PW X (.BoolOp .And (b :: rest) pos) (tT c W fb)) :
    PW X (.BoolOp .And (a :: b :: rest) pos) (tT c W fun env => (fa env).bind fun b env => if b = true then fb env else .ok false env) := by
  refine impW (pw_and ha hb) fun σ H Q h => ?_
  obtain ⟨env, p, fl, h⟩ := start_ h
  refine step p fl h fun x env1 v H1 p1 f1 r1 h1 => ?_
  subst r1
  cases v with
  | true => exact tailT (p.trans p1) (fl.trans f1) h1
  | false => exact h1 false H1 (p.trans p1) (fl.trans f1) rfl
theorem w_or {a b : Expr} {rest : List Expr} {pos : Pos} {fa fb : Env → Out Bool} (ha : PT X a (tT c W fa)) (hb : PW X (.BoolOp .Or (b :: rest) pos) (tT c W fb)) :
    PW X (.BoolOp .Or (a :: b :: rest) pos) (tT c W fun env => (fa env).bind fun b env => if b = true then .ok true env else fb env) := by
  refine impW (pw_or ha hb) fun σ H Q h => ?_
  obtain ⟨env, p, fl, h⟩ := start_ h
  refine step p fl h fun x env1 v H1 p1 f1 r1 h1 => ?_
  subst r1
  cases v with
  | false => exact tailT (p.trans p1) (fl.trans f1) h1
  | true => exact h1 true H1 (p.trans p1) (fl.trans f1) rfl
theorem t_valE {a : Expr} {f : Env → Out R} (ha : PE X a (tE c W f)) (he : ∀ whole, isTrue a X.env whole = (do let v ← whole; standAt a.pos; holding [v] (truthy v))) : PT X a (tT c W fun env => (f env).bind valT) :=
  impT (pt_val ha he) fun σ H Q h => t_val h
theorem tru_k {K : PySem.W.Frag} {H : Hp} {v : V} {x : RM} {b : Bool} (l : Lk K H v x) (e : truD x = some b) : TruV K v H b := by
  unfold truD at e
  split at e
  · cases e; cases l; rfl
  · cases e; cases l; rfl
  · cases e; cases l; rfl
  · split at e
    · rename_i z hz
      cases e
      rw [LINE_eq] at hz
      rw [pd_str l]
      refine ⟨hz, ?_⟩
      rw [Bool.eq_iff_iff]
      simp
    · cases e
  · split at e
    · rename_i xs es
      cases e
      obtain ⟨p, vs, rfl, h1, h2, h3⟩ := l.seq es
      have e : (!xs.isEmpty) = !vs.isEmpty := by cases h3 <;> rfl
      rw [e]
      rcases h1 with h1 | h1
      · exact .inl ⟨vs, h1, rfl⟩
      · exact .inr (.inl ⟨vs, h1, rfl⟩)
    · cases e
theorem t_tru {a : Expr} {f : Env → Out R} (hK : X.K = c.K) (ha : PE X a (tE c W f)) (he : ∀ whole, isTrue a X.env whole = (do let v ← whole; standAt a.pos; holding [v] (truthy v))) :
    PT X a (tT c W fun env => (f env).bind truT) := by
  refine impT (pt_truth ha he) fun σ H Q h => ?_
  obtain ⟨env, p, fl, h⟩ := start_ h
  refine step p fl h fun x env1 v H1 p1 f1 r1 h1 => ?_
  have h1 : Fin c W (fun _ _ _ _ _ b a => b = a) env H σ Q (truT x env1) := h1
  unfold truT at h1
  split at h1
  · rename_i dx ex
    split at h1
    · rename_i b eb
      refine ⟨b, ?_, h1 b H1 (p.trans p1) (fl.trans f1) rfl⟩
      rw [hK]
      exact tru_k (lk_of p1.rel r1.1 ex) eb
    · exact h1.elim
  · exact h1.elim
end
end Di
namespace Di
open PySem PySem.Spec PyProof.Rows L2
/-! ### what a def promises, by data -/
def LE (K : PySem.W.Frag) (la : List Addr) (le : List M) (H : Hp) : Prop := le.length = la.length ∧ ∀ (j : Nat) (y : M), le[j]? = some y → ∃ p, la[j]? = some p ∧ MOk K H p y
def VR (K : PySem.W.Frag) (la : List Addr) (env : Env) (σ : St) (H H' : Hp) (v : V) : RM → Prop
  | .v d => Pd K H' v d
  | .m x => ∃ p, v = .ref p ∧ MOk K H' p x ∧ p ∉ la ∧ (H p = none ∨ Own la env σ p)
def eC (as : List Sl) (le : List M) : Env := ⟨as.map some, le⟩
def spF (K : PySem.W.Frag) (xr : XR) (F : List Sl → List M → CO) (n : Nat) : Sp := fun vs H Q E => vs.length = n ∧ ∃ as le la, as.length = vs.length ∧ ERel K la (eC as le) (vs.map some) H ∧ (∀ a ∈ as, ∀ d, a ≠ .e d) ∧
  match F as le with
  | .ok r le' => ∀ v H', Ext (Own la (eC as le) (vs.map some)) H H' → LE K la le' H' → VR K la (eC as le) (vs.map some) H H' v r → Q v H'
  | .exc k d le' => ∀ cls dd H', Ext (Own la (eC as le) (vs.map some)) H H' → LE K la le' H' → xr k d cls dd H' → E cls dd H'
  | .no => False
/-! ### the caller's side -/
/-- the lent object's place -/
def OrgAt (la : List Addr) (env : Env) (σ : St) : Org → M → Addr → Prop
  | .s i, x, p => slot env i = some (.m x) ∧ σ[i]? = some (some (.ref p))
  | .l j, x, p => la[j]? = some p ∧ env.le[j]? = some x
inductive Orgs (la : List Addr) (env : Env) (σ : St) : List Org → List M → List Addr → Prop
  | nil : Orgs la env σ [] [] []
  | cons {o : Org} {x : M} {p : Addr} {os : List Org} {xs : List M} {ps : List Addr} : OrgAt la env σ o x p → Orgs la env σ os xs ps → Orgs la env σ (o :: os) (x :: xs) (p :: ps)
/-- an argument in the callee's slot -/
def ArgAt (K : PySem.W.Frag) (la : List Addr) (env : Env) (σ : St) (H : Hp) (la0 : List Addr) (k : Nat) (v : V) : Sl → Prop
  | .v d => Pd K H v d
  | .m x => ∃ p, v = .ref p ∧ MOk K H p x ∧ ¬ Own la env σ p
  | .l q => k ≤ q ∧ ∃ p, la0[q - k]? = some p ∧ v = .ref p
  | .e _ => False
inductive Args_ (K : PySem.W.Frag) (la : List Addr) (env : Env) (σ : St) (H : Hp) (la0 : List Addr) (k : Nat) : List V → List Sl → Prop
  | nil : Args_ K la env σ H la0 k [] []
  | cons {v : V} {a : Sl} {vs : List V} {as : List Sl} : ArgAt K la env σ H la0 k v a → (∀ x p, a = .m x → v = .ref p → ∀ q, q ∈ vs.zip as → ∀ y, q.2 = .m y → q.1 ≠ .ref p) → Args_ K la env σ H la0 k vs as →
      Args_ K la env σ H la0 k (v :: vs) (a :: as)
section
variable {K : PySem.W.Frag} {la la0 : List Addr} {env env0 : Env} {σ : St} {H H0 : Hp}
theorem Orgs.len {os : List Org} {xs : List M} {ps : List Addr} (h : Orgs la env σ os xs ps) : os.length = ps.length ∧ xs.length = ps.length := by
  induction h with
  | nil => exact ⟨rfl, rfl⟩
  | cons _ _ ih => exact ⟨congrArg Nat.succ ih.1, congrArg Nat.succ ih.2⟩
theorem Args_.up {k : Nat} {p : Addr} : ∀ {vs : List V} {as : List Sl}, Args_ K la env σ H la0 (k + 1) vs as → Args_ K la env σ H (p :: la0) k vs as
  | _, _, .nil => .nil
  | _, _, .cons (a := a) h d t => by
    refine .cons ?_ d t.up
    cases a with
    | v d => exact h
    | m x => exact h
    | l q =>
      obtain ⟨h1, p', h2, h3⟩ := h
      refine ⟨by omega, p', ?_, h3⟩
      have : q - k = (q - (k + 1)) + 1 := by omega
      rw [this]
      simpa using h2
    | e d => exact h
theorem mem_zip_m {K : PySem.W.Frag} {la : List Addr} {env env0 env' : Env} {σ : St} {H H0 H' : Hp} : ∀ {vs : List V} {rs : List R} {as : List Sl} {ms : List M} {os : List Org} {k : Nat}, ARel K la env0 H0 env H σ vs rs → prep env rs k = some (as, ms, os) →
    ∀ q ∈ vs.zip as, ∀ y, q.2 = .m y → ∃ z ∈ vs.zip rs, z.1 = q.1 ∧ z.2 = .m y := by
  intro vs rs as ms os k h
  induction h generalizing as ms os k with
  | nil =>
    intro e q hq
    simp [prep] at e
    obtain ⟨rfl, rfl, rfl⟩ := e
    simp at hq
  | @cons v vs r rs h1 h2 h3 h4 ih =>
    intro e q hq y hy
    have fin : ∀ {a : Sl} {as' : List Sl} {ms' : List M} {os' : List Org} {k' : Nat}, as = a :: as' → prep env rs k' = some (as', ms', os') → (∀ y, a = .m y → r = .m y) → ∃ z ∈ (v :: vs).zip (r :: rs), z.1 = q.1 ∧ z.2 = .m y := fun {a as' ms' os' k'} e1 e2 e3 => by
      subst e1
      rcases List.mem_cons.mp (show q ∈ (v, a) :: vs.zip as' from hq) with hq | hq
      · subst hq
        exact ⟨(v, r), List.mem_cons_self .., rfl, e3 y hy⟩
      · obtain ⟨z, hz, z1, z2⟩ := ih e2 q hq y hy
        exact ⟨z, List.mem_cons_of_mem _ hz, z1, z2⟩
    cases r with
    | v d =>
      simp only [prep] at e
      split at e
      · rename_i e2
        cases e
        exact fin rfl e2 fun y z => by cases z
      · cases e
    | m x =>
      simp only [prep] at e
      split at e
      · rename_i e2
        cases e
        exact fin rfl e2 fun y z => by cases z; rfl
      · cases e
    | a i =>
      simp only [prep] at e
      split at e
      · split at e
        · rename_i e2
          cases e
          exact fin rfl e2 fun y z => by cases z
        · cases e
      · split at e
        · rename_i e2
          cases e
          exact fin rfl e2 fun y z => by cases z
        · cases e
      · split at e
        · rename_i e2
          cases e
          exact fin rfl e2 fun y z => by cases z
        · cases e
      · cases e
theorem prep_ok (rel : ERel K la env σ H) : ∀ {vs : List V} {rs : List R} {as : List Sl} {ms : List M} {os : List Org} {k : Nat}, ARel K la env0 H0 env H σ vs rs → prep env rs k = some (as, ms, os) →
    ∃ la0, Orgs la env σ os ms la0 ∧ Args_ K la env σ H la0 k vs as := by
  intro vs rs as ms os k h
  induction h generalizing as ms os k with
  | nil =>
    intro e
    simp [prep] at e
    obtain ⟨rfl, rfl, rfl⟩ := e
    exact ⟨[], .nil, .nil⟩
  | @cons v vs r rs h1 h2 h3 h4 ih =>
    intro e
    cases r with
    | v d =>
      simp only [prep] at e
      split at e
      · rename_i e2
        cases e
        obtain ⟨la0, o, a⟩ := ih e2
        exact ⟨la0, o, .cons h1 (fun x p z => by cases z) a⟩
      · cases e
    | m x =>
      simp only [prep] at e
      split at e
      · rename_i e2
        cases e
        obtain ⟨la0, o, a⟩ := ih e2
        refine ⟨la0, o, .cons h1 (fun y p z e' q hq w hw => ?_) a⟩
        cases z
        obtain ⟨z, hz, z1, z2⟩ := mem_zip_m (env' := env) (H' := H) h4 e2 q hq w hw
        rw [← z1]
        exact h3 _ _ rfl e' z hz w z2
      · cases e
    | a i =>
      obtain ⟨_, hv⟩ := h1
      simp only [prep] at e
      split at e
      · rename_i d es
        split at e
        · rename_i e2
          cases e
          obtain ⟨la0, o, a⟩ := ih e2
          obtain ⟨v', e1, pd⟩ := rel.at_ i _ es
          rw [hv] at e1
          cases e1
          exact ⟨la0, o, .cons pd (fun x p z => by cases z) a⟩
        · cases e
      · rename_i x es
        split at e
        · rename_i e2
          cases e
          obtain ⟨la0, o, a⟩ := ih e2
          obtain ⟨v', e1, p, rfl, m⟩ := rel.at_ i _ es
          rw [hv] at e1
          cases e1
          exact ⟨p :: la0, .cons ⟨es, hv⟩ o, .cons ⟨Nat.le_refl _, p, by simp, rfl⟩ (fun x p z => by cases z) a.up⟩
        · cases e
      · rename_i j es
        split at e
        · rename_i ej e2
          cases e
          obtain ⟨la0, o, a⟩ := ih e2
          obtain ⟨v', e1, p, e3, rfl⟩ := rel.at_ i _ es
          rw [hv] at e1
          cases e1
          exact ⟨p :: la0, .cons ⟨e3, ej⟩ o, .cons ⟨Nat.le_refl _, p, by simp, rfl⟩ (fun x p z => by cases z) a.up⟩
        · cases e
      · cases e
theorem OrgAt.own {o : Org} {x : M} {p : Addr} (h : OrgAt la env σ o x p) : Own la env σ p := by
  cases o with
  | s i => exact .inl ⟨i, x, h⟩
  | l j => exact .inr (List.mem_of_getElem? h.1)
theorem OrgAt.mok (rel : ERel K la env σ H) {o : Org} {x : M} {p : Addr} (h : OrgAt la env σ o x p) : MOk K H p x := by
  cases o with
  | s i =>
    obtain ⟨v, e1, q, rfl, m⟩ := rel.at_ i _ h.1
    rw [h.2] at e1
    cases e1
    exact m
  | l j =>
    obtain ⟨q, e1, m⟩ := rel.lent j x h.2
    rw [h.1] at e1
    cases e1
    exact m
theorem nodup_at {α : Type} : ∀ {l : List α} {i j : Nat} {x : α}, l.Nodup → l[i]? = some x → l[j]? = some x → i = j
  | [], i, j, x, _, h, _ => by simp at h
  | a :: l, 0, 0, x, _, _, _ => rfl
  | a :: l, 0, j + 1, x, n, h, h' => by
    simp at h h'
    exact absurd (List.mem_of_getElem? h') (h ▸ (List.nodup_cons.mp n).1)
  | a :: l, i + 1, 0, x, n, h, h' => by
    simp at h h'
    exact absurd (List.mem_of_getElem? h) (h' ▸ (List.nodup_cons.mp n).1)
  | a :: l, i + 1, j + 1, x, n, h, h' => by
    exact congrArg Nat.succ (nodup_at (i := i) (j := j) (x := x) (List.nodup_cons.mp n).2 (by simpa using h) (by simpa using h'))
/-- one place, one origin -/
theorem OrgAt.inj (rel : ERel K la env σ H) {o o' : Org} {x y : M} {p : Addr} (h : OrgAt la env σ o x p) (h' : OrgAt la env σ o' y p) : o = o' := by
  cases o with
  | s i =>
    cases o' with
    | s j => rw [rel.apart i j x y p h.1 h'.1 h.2 h'.2]
    | l j => exact absurd (List.mem_of_getElem? h'.1) (rel.out i x p h.1 h.2)
  | l i =>
    cases o' with
    | s j => exact absurd (List.mem_of_getElem? h.1) (rel.out j y p h'.1 h'.2)
    | l j =>
      have a1 : la[i]? = some p := h.1
      have a2 : la[j]? = some p := h'.1
      have e := nodup_at rel.nd a1 a2
      rw [e]
theorem Orgs.mem {os : List Org} {xs : List M} {ps : List Addr} (h : Orgs la env σ os xs ps) : ∀ p ∈ ps, ∃ o x, o ∈ os ∧ OrgAt la env σ o x p := by
  induction h with
  | nil => intro p hp; simp at hp
  | cons a t ih =>
    intro q hq
    rcases List.mem_cons.mp hq with rfl | hq
    · exact ⟨_, _, List.mem_cons_self .., a⟩
    · obtain ⟨o, x, h1, h2⟩ := ih q hq
      exact ⟨o, x, List.mem_cons_of_mem _ h1, h2⟩
theorem Orgs.nodup (rel : ERel K la env σ H) {os : List Org} {xs : List M} {ps : List Addr} (h : Orgs la env σ os xs ps) : os.Nodup → ps.Nodup := by
  induction h with
  | nil => intro _; exact List.nodup_nil
  | cons a t ih =>
    intro n
    obtain ⟨n1, n2⟩ := List.nodup_cons.mp n
    refine List.nodup_cons.mpr ⟨fun hp => ?_, ih n2⟩
    obtain ⟨o, x, h1, h2⟩ := t.mem _ hp
    rw [a.inj rel h2] at n1
    exact n1 h1
theorem Orgs.get {os : List Org} {xs : List M} {ps : List Addr} (h : Orgs la env σ os xs ps) : ∀ (j : Nat) (x : M), xs[j]? = some x → ∃ o p, os[j]? = some o ∧ ps[j]? = some p ∧ OrgAt la env σ o x p := by
  induction h with
  | nil => intro j x e; simp at e
  | cons a t ih =>
    intro j x e
    cases j with
    | zero => simp at e; subst e; exact ⟨_, _, rfl, rfl, a⟩
    | succ j =>
      obtain ⟨o, p, h1, h2, h3⟩ := ih j x (by simpa using e)
      exact ⟨o, p, by simpa using h1, by simpa using h2, h3⟩
theorem Args_.len {k : Nat} {vs : List V} {as : List Sl} (h : Args_ K la env σ H la0 k vs as) : vs.length = as.length := by
  induction h with
  | nil => rfl
  | cons _ _ _ ih => exact congrArg Nat.succ ih
theorem Args_.get {k : Nat} {vs : List V} {as : List Sl} (h : Args_ K la env σ H la0 k vs as) : ∀ (i : Nat) (a : Sl), as[i]? = some a → ∃ v, vs[i]? = some v ∧ ArgAt K la env σ H la0 k v a := by
  induction h with
  | nil => intro i a e; simp at e
  | cons h1 h2 t ih =>
    intro i a e
    cases i with
    | zero => simp at e; subst e; exact ⟨_, rfl, h1⟩
    | succ i =>
      obtain ⟨v, e1, e2⟩ := ih i a (by simpa using e)
      exact ⟨v, by simpa using e1, e2⟩
theorem Args_.apart {k : Nat} {vs : List V} {as : List Sl} (h : Args_ K la env σ H la0 k vs as) : ∀ (i j : Nat) (x y : M) (p : Addr), as[i]? = some (.m x) → as[j]? = some (.m y) → vs[i]? = some (.ref p) → vs[j]? = some (.ref p) → i = j := by
  induction h with
  | nil => intro i j x y p e; simp at e
  | @cons v a vs as h1 h2 t ih =>
    have far : ∀ (j : Nat) (x y : M) (p : Addr), a = .m x → v = .ref p → as[j]? = some (.m y) → vs[j]? = some (.ref p) → False := fun j x y p e1 e2 e3 e4 => by
      refine h2 x p e1 e2 (.ref p, .m y) ?_ y rfl rfl
      have : (vs.zip as)[j]? = some (.ref p, .m y) := by rw [List.getElem?_zip_eq_some]; exact ⟨e4, e3⟩
      exact List.mem_of_getElem? this
    intro i j x y p e1 e2 e3 e4
    cases i with
    | zero =>
      cases j with
      | zero => rfl
      | succ j =>
        simp at e1 e3
        exact (far j x y p e1 e3 (by simpa using e2) (by simpa using e4)).elim
    | succ i =>
      cases j with
      | zero =>
        simp at e2 e4
        exact (far i y x p e2 e4 (by simpa using e1) (by simpa using e3)).elim
      | succ j => rw [ih i j x y p (by simpa using e1) (by simpa using e2) (by simpa using e3) (by simpa using e4)]
theorem slot_eC {as : List Sl} {le : List M} {i : Nat} : slot (eC as le) i = as[i]? := by
  unfold slot eC
  simp only [List.getElem?_map]
  cases as[i]? <;> rfl
/-- the callee's frame -/
theorem callee (rel : ERel K la env σ H) {os : List Org} {ms : List M} {vs : List V} {as : List Sl} (o : Orgs la env σ os ms la0) (n : os.Nodup) (a : Args_ K la env σ H la0 0 vs as) : ERel K la0 (eC as ms) (vs.map some) H := by
  refine ⟨by simp [eC, a.len], fun i s e => ?_, fun j x e => ?_, o.len.2, fun i j x y p hx hy e1 e2 => ?_, fun i x p hx e1 hp => ?_, o.nodup rel n⟩
  · rw [slot_eC] at e
    obtain ⟨v, e1, e2⟩ := a.get i s e
    refine ⟨v, by simp [e1], ?_⟩
    cases s with
    | v d => exact e2
    | m x => obtain ⟨p, e3, m, _⟩ := e2; exact ⟨p, e3, m⟩
    | l q => obtain ⟨_, p, e3, e4⟩ := e2; exact ⟨p, by simpa using e3, e4⟩
    | e d => exact e2.elim
  · obtain ⟨org, p, _, h2, h3⟩ := o.get j x e
    exact ⟨p, h2, h3.mok rel⟩
  · rw [slot_eC] at hx hy
    simp only [List.getElem?_map, Option.map_eq_some_iff] at e1 e2
    obtain ⟨v1, e1, q1⟩ := e1
    obtain ⟨v2, e2, q2⟩ := e2
    cases q1
    cases q2
    exact a.apart i j x y p hx hy e1 e2
  · rw [slot_eC] at hx
    simp only [List.getElem?_map, Option.map_eq_some_iff] at e1
    obtain ⟨v1, e1, q1⟩ := e1
    cases q1
    obtain ⟨v, e2, q, e3, m, nn⟩ := a.get i _ hx
    rw [e1] at e2
    cases e2
    cases e3
    obtain ⟨org, y, _, h2⟩ := o.mem p hp
    exact nn h2.own
/-- what the callee may change: lent, or handed over -/
theorem callee_own {ms : List M} {vs : List V} {as : List Sl} (a : Args_ K la env σ H la0 0 vs as) {p : Addr} (h : Own la0 (eC as ms) (vs.map some) p) :
    (∃ (i : Nat) (x : M), as[i]? = some (.m x) ∧ vs[i]? = some (.ref p) ∧ MOk K H p x ∧ ¬ Own la env σ p) ∨ p ∈ la0 := by
  rcases h with ⟨i, x, h1, h2⟩ | h
  · rw [slot_eC] at h1
    simp only [List.getElem?_map, Option.map_eq_some_iff] at h2
    obtain ⟨v1, e1, q1⟩ := h2
    cases q1
    obtain ⟨v, e2, q, e3, m, nn⟩ := a.get i _ h1
    rw [e1] at e2
    cases e2
    cases e3
    exact .inl ⟨i, x, h1, e1, m, nn⟩
  · exact .inr h
/-! ### the lent objects come back -/
theorem own_setm {i : Nat} {x y : M} (h : slot env i = some (.m x)) {p : Addr} : Own la (setS env i (.m y)) σ p ↔ Own la env σ p := by
  constructor
  · rintro (⟨j, z, e, e1⟩ | o)
    · by_cases hj : j = i
      · subst hj; exact .inl ⟨j, x, h, e1⟩
      · rw [slot_set_ne hj] at e; exact .inl ⟨j, z, e, e1⟩
    · exact .inr o
  · rintro (⟨j, z, e, e1⟩ | o)
    · by_cases hj : j = i
      · subst hj; exact .inl ⟨j, y, slot_set_self h, e1⟩
      · exact .inl ⟨j, z, by rw [slot_set_ne hj]; exact e, e1⟩
    · exact .inr o
theorem slot_le {env : Env} {le : List M} {i : Nat} : slot ⟨env.sl, le⟩ i = slot env i := rfl
/-- what back leaves -/
theorem back_ok : ∀ {os : List Org} {ms : List M} {ps : List Addr} {env : Env} {le' : List M}, Orgs la env σ os ms ps → os.Nodup → le'.length = ps.length →
    (back env os le').sl.length = env.sl.length ∧ (back env os le').le.length = env.le.length ∧
    (∀ i s, slot (back env os le') i = some s → (slot env i = some s ∧ Org.s i ∉ os) ∨ ∃ (j : Nat) (y x : M), os[j]? = some (.s i) ∧ le'[j]? = some y ∧ s = .m y ∧ slot env i = some (.m x)) ∧
    (∀ (q : Nat) (y : M), (back env os le').le[q]? = some y → (env.le[q]? = some y ∧ Org.l q ∉ os) ∨ ∃ j : Nat, os[j]? = some (.l q) ∧ le'[j]? = some y) ∧
    (∀ i s, slot env i = some s → ∃ s', slot (back env os le') i = some s') ∧
    (∀ p, Own la (back env os le') σ p ↔ Own la env σ p) := by
  intro os
  induction os with
  | nil =>
    intro ms ps env le' o _ _
    cases o
    have e : back env [] le' = env := by cases le' <;> rfl
    rw [e]
    exact ⟨rfl, rfl, fun i s h => .inl ⟨h, by simp⟩, fun q y h => .inl ⟨h, by simp⟩, fun i s h => ⟨s, h⟩, fun p => Iff.rfl⟩
  | cons o os ih =>
    intro ms ps env le' h n hl
    cases h with
    | @cons _ x p _ xs ps a t =>
      obtain ⟨n1, n2⟩ := List.nodup_cons.mp n
      cases le' with
      | nil => simp at hl
      | cons y ys =>
        have hl' : ys.length = ps.length := by simpa using hl
        cases o with
        | s i =>
          have tr : ∀ {os' : List Org} {xs' : List M} {ps' : List Addr}, Org.s i ∉ os' → Orgs la env σ os' xs' ps' → Orgs la (setS env i (.m y)) σ os' xs' ps' := fun {os' xs' ps'} hn hh => by
            induction hh with
            | nil => exact .nil
            | @cons o' x' p' os' xs' ps' a' t' ih' =>
              have m1 := fun e => hn (List.mem_cons.mpr (.inl e))
              have m2 := fun e => hn (List.mem_cons.mpr (.inr e))
              refine .cons ?_ (ih' m2)
              cases o' with
              | s j => exact ⟨by rw [slot_set_ne (fun e => m1 (by rw [e]))]; exact a'.1, a'.2⟩
              | l j => exact a'
          obtain ⟨r1, r2, r3, r4, r5, r6⟩ := ih (env := setS env i (.m y)) (le' := ys) (tr n1 t) n2 hl'
          have eb : back env (Org.s i :: os) (y :: ys) = back (setS env i (.m y)) os ys := rfl
          rw [eb]
          refine ⟨by rw [r1]; simp [setS], by rw [r2]; rfl, fun k s e => ?_, fun q z e => ?_, fun k s e => ?_, fun p => ?_⟩
          · rcases r3 k s e with ⟨e1, m⟩ | ⟨j, z, w, e1, e2, e3, e4⟩
            · by_cases hk : k = i
              · subst hk
                rw [slot_set_self a.1] at e1
                cases e1
                exact .inr ⟨0, y, x, rfl, rfl, rfl, a.1⟩
              · rw [slot_set_ne hk] at e1
                exact .inl ⟨e1, by simp only [List.mem_cons, not_or]; exact ⟨fun e => hk (by injection e), m⟩⟩
            · have hk : k ≠ i := fun e => n1 (by rw [← e]; exact List.mem_of_getElem? e1)
              rw [slot_set_ne hk] at e4
              exact .inr ⟨j + 1, z, w, by simpa using e1, by simpa using e2, e3, e4⟩
          · rcases r4 q z e with ⟨e1, m⟩ | ⟨j, e1, e2⟩
            · exact .inl ⟨e1, by simp only [List.mem_cons, not_or]; exact ⟨fun e => (by cases e), m⟩⟩
            · exact .inr ⟨j + 1, by simpa using e1, by simpa using e2⟩
          · by_cases hk : k = i
            · subst hk; exact r5 k _ (slot_set_self a.1)
            · exact r5 k s (by rw [slot_set_ne hk]; exact e)
          · rw [r6 p]
            exact own_setm a.1
        | l q =>
          have tr : ∀ {os' : List Org} {xs' : List M} {ps' : List Addr}, Org.l q ∉ os' → Orgs la env σ os' xs' ps' → Orgs la ⟨env.sl, env.le.set q y⟩ σ os' xs' ps' := fun {os' xs' ps'} hn hh => by
            induction hh with
            | nil => exact .nil
            | @cons o' x' p' os' xs' ps' a' t' ih' =>
              have m1 := fun e => hn (List.mem_cons.mpr (.inl e))
              have m2 := fun e => hn (List.mem_cons.mpr (.inr e))
              refine .cons ?_ (ih' m2)
              cases o' with
              | s j => exact a'
              | l j => exact ⟨a'.1, by show (env.le.set q y)[j]? = _; rw [List.getElem?_set_ne (fun e => m1 (by rw [e]))]; exact a'.2⟩
          obtain ⟨r1, r2, r3, r4, r5, r6⟩ := ih (env := ⟨env.sl, env.le.set q y⟩) (le' := ys) (tr n1 t) n2 hl'
          have eb : back env (Org.l q :: os) (y :: ys) = back ⟨env.sl, env.le.set q y⟩ os ys := rfl
          rw [eb]
          have hq : q < env.le.length := (List.getElem?_eq_some_iff.mp a.2).1
          refine ⟨r1, by rw [r2]; simp, fun k s e => ?_, fun j z e => ?_, fun k s e => r5 k s e, fun p => r6 p⟩
          · rcases r3 k s e with ⟨e1, m⟩ | ⟨j, z, w, e1, e2, e3, e4⟩
            · exact .inl ⟨e1, by simp only [List.mem_cons, not_or]; exact ⟨fun e => (by cases e), m⟩⟩
            · exact .inr ⟨j + 1, z, w, by simpa using e1, by simpa using e2, e3, e4⟩
          · rcases r4 j z e with ⟨e1, m⟩ | ⟨k, e1, e2⟩
            · have e1 : (env.le.set q y)[j]? = some z := e1
              by_cases hj : j = q
              · subst hj
                rw [List.getElem?_set_self hq] at e1
                cases e1
                exact .inr ⟨0, rfl, rfl⟩
              · rw [List.getElem?_set_ne (Ne.symm hj)] at e1
                exact .inl ⟨e1, by simp only [List.mem_cons, not_or]; exact ⟨fun e => hj (by injection e), m⟩⟩
            · exact .inr ⟨k + 1, by simpa using e1, by simpa using e2⟩
end
end Di
namespace Di
open PySem PySem.Spec PyProof.Rows L2
theorem prep_noE {env : Env} : ∀ {rs : List R} {k : Nat} {as : List Sl} {ms : List M} {os : List Org}, prep env rs k = some (as, ms, os) → ∀ a ∈ as, ∀ d, a ≠ .e d := by
  intro rs
  induction rs with
  | nil =>
    intro k as ms os e
    simp [prep] at e
    obtain ⟨rfl, _, _⟩ := e
    intro a h; simp at h
  | cons r rs ih =>
    intro k as ms os e
    have fin : ∀ {a : Sl} {as' : List Sl} {ms' : List M} {os' : List Org} {k' : Nat}, as = a :: as' → prep env rs k' = some (as', ms', os') → (∀ d, a ≠ .e d) → ∀ b ∈ as, ∀ d, b ≠ .e d := fun {a as' ms' os' k'} e1 e2 e3 b hb d => by
      subst e1
      rcases List.mem_cons.mp hb with rfl | hb
      · exact e3 d
      · exact ih e2 b hb d
    cases r with
    | v d =>
      simp only [prep] at e
      split at e
      · rename_i e2
        cases e
        exact fin rfl e2 fun d z => by cases z
      · cases e
    | m x =>
      simp only [prep] at e
      split at e
      · rename_i e2
        cases e
        exact fin rfl e2 fun d z => by cases z
      · cases e
    | a i =>
      simp only [prep] at e
      split at e
      · split at e
        · rename_i e2
          cases e
          exact fin rfl e2 fun d z => by cases z
        · cases e
      · split at e
        · rename_i e2
          cases e
          exact fin rfl e2 fun d z => by cases z
        · cases e
      · split at e
        · rename_i e2
          cases e
          exact fin rfl e2 fun d z => by cases z
        · cases e
      · cases e
section
variable {X : Cx} {c : Cn} {W : WX} {env0 env : Env} {σ : St} {H0 H : Hp} {vs : List V} {rs : List R} {Q : VK}
theorem call_ok {F : Calls} {f n : Nat} (hF : ∀ as le, F f as le ≠ .no → as.length = n) (p : Post c.K c.la env0 σ H0 env σ H) (fl : Fil env0 env) (ar : ARel c.K c.la env0 H0 env H σ vs rs)
    (h : Fin c W (RlE c) env0 H0 σ Q (doCall F f rs env)) : spF c.K c.xr (F f) n vs H Q (WE W σ) := by
  unfold doCall at h
  split at h
  · rename_i as ms os ep
    split at h
    · rename_i nd
      obtain ⟨la0, o, a⟩ := prep_ok p.rel ar ep
      have rel := p.rel
      have cal := callee rel o nd a
      have hn : as.length = n := hF as ms fun e => by rw [e] at h; exact h.elim
      -- what the callee may touch stands in the frame's own or is new
      have touch : ∀ q, Own la0 (eC as ms) (vs.map some) q → H0 q = none ∨ Own c.la env0 σ q := fun q hq => by
        rcases callee_own (K := c.K) (la := c.la) (env := env) (σ := σ) (H := H) a hq with ⟨i, x, h1, h2, m, nn⟩ | hq
        · have hz : (vs.zip as)[i]? = some (.ref q, .m x) := by rw [List.getElem?_zip_eq_some]; exact ⟨h2, h1⟩
          obtain ⟨z, hzm, z1, z2⟩ := mem_zip_m (env' := env) (H' := H) ar ep _ (List.mem_of_getElem? hz) x rfl
          exact ar.news z hzm x q z2 z1
        · obtain ⟨org, x, _, ho⟩ := o.mem q hq
          exact (p.sub q ho.own).symm
      have lenOf : ∀ {le' : List M} {H' : Hp}, LE c.K la0 le' H' → le'.length = la0.length := fun h => h.1
      -- the frame behind the call
      have after : ∀ {le' : List M} {H' : Hp}, Ext (Own la0 (eC as ms) (vs.map some)) H H' → LE c.K la0 le' H' → Post c.K c.la env0 σ H0 (back env os le') σ H' ∧ Fil env0 (back env os le') := fun {le' H'} ex le => by
        obtain ⟨r1, r2, r3, r4, r5, r6⟩ := back_ok (la := c.la) (σ := σ) o nd le.1
        have k : Kp H H' := cal.kp ex
        have far : ∀ q, Own c.la env σ q → q ∉ la0 → ∀ ob, H q = some ob → H' q = some ob := fun q hq hl ob hb => ex q ob hb fun z => by
          rcases callee_own (K := c.K) (la := c.la) (env := env) (σ := σ) (H := H) a z with ⟨i, x, h1, h2, m, nn⟩ | z
          · exact nn hq
          · exact hl z
        refine ⟨⟨fun b ob hb nb => ?_, ⟨by rw [r1]; exact rel.len, fun i s e => ?_, fun j y e => ?_, by rw [r2]; exact rel.ll, fun i j x y q hx hy e1 e2 => ?_, fun i x q hx e1 => ?_, rel.nd⟩, fun q hq => p.sub q ((r6 q).mp hq)⟩, fun i s e => ?_⟩
        · refine ex b ob (p.ext b ob hb nb) fun z => ?_
          rcases touch b z with z | z
          · rw [hb] at z; cases z
          · exact nb z
        · rcases r3 i s e with ⟨e1, ni⟩ | ⟨j, y, x, e1, e2, rfl, e4⟩
          · obtain ⟨v, h1, h2⟩ := rel.at_ i s e1
            refine ⟨v, h1, ?_⟩
            cases s with
            | v d => exact Pd.keep k h2
            | m x =>
              obtain ⟨q, rfl, m⟩ := h2
              refine ⟨q, rfl, m.keep k (far q (.inl ⟨i, x, e1, h1⟩) fun hq => ?_)⟩
              obtain ⟨org, y, h3, h4⟩ := o.mem q hq
              have := OrgAt.inj rel (show OrgAt c.la env σ (.s i) x q from ⟨e1, h1⟩) h4
              rw [this] at ni
              exact ni h3
            | l j => exact h2
            | e d => exact h2
          · obtain ⟨q, h1, m⟩ := le.2 j y e2
            obtain ⟨org, q', h2, h3, h4⟩ : ∃ org q', os[j]? = some org ∧ la0[j]? = some q' ∧ OrgAt c.la env σ org (ms[j]?.getD x) q' := by
              have hj : j < ms.length := by
                rw [o.len.2, ← le.1]
                exact (List.getElem?_eq_some_iff.mp e2).1
              obtain ⟨org, q', h2, h3, h4⟩ := o.get j ms[j] (List.getElem?_eq_getElem hj)
              exact ⟨org, q', h2, h3, by rw [List.getElem?_eq_getElem hj]; exact h4⟩
            rw [e1] at h2
            cases h2
            rw [h1] at h3
            cases h3
            exact ⟨_, h4.2, q, rfl, m⟩
        · rcases r4 j y e with ⟨e1, nj⟩ | ⟨i, e1, e2⟩
          · obtain ⟨q, h1, m⟩ := rel.lent j y e1
            refine ⟨q, h1, m.keep k (far q (.inr (List.mem_of_getElem? h1)) fun hq => ?_)⟩
            obtain ⟨org, z, h3, h4⟩ := o.mem q hq
            have := OrgAt.inj rel (show OrgAt c.la env σ (.l j) y q from ⟨h1, e1⟩) h4
            rw [this] at nj
            exact nj h3
          · obtain ⟨q, h1, m⟩ := le.2 i y e2
            have hi : i < ms.length := by
              rw [o.len.2, ← le.1]
              exact (List.getElem?_eq_some_iff.mp e2).1
            obtain ⟨org, q', h2, h3, h4⟩ := o.get i ms[i] (List.getElem?_eq_getElem hi)
            rw [e1] at h2
            cases h2
            rw [h1] at h3
            cases h3
            exact ⟨q, h4.1, m⟩
        · have un : ∀ (i : Nat) (x : M), slot (back env os le') i = some (.m x) → ∃ x', slot env i = some (.m x') := fun i x hx => by
            rcases r3 i _ hx with ⟨e1, _⟩ | ⟨_, _, x', _, _, _, e4⟩
            · exact ⟨x, e1⟩
            · exact ⟨x', e4⟩
          obtain ⟨x', h1⟩ := un i x hx
          obtain ⟨y', h2⟩ := un j y hy
          exact rel.apart i j x' y' q h1 h2 e1 e2
        · rcases r3 i _ hx with ⟨h1, _⟩ | ⟨_, _, x', _, _, _, h1⟩
          · exact rel.out i x q h1 e1
          · exact rel.out i x' q h1 e1
        · obtain ⟨s', h1⟩ := fl i s e
          exact r5 i s' h1
      refine ⟨by rw [a.len]; exact hn, as, ms, la0, a.len.symm, cal, prep_noE ep, ?_⟩
      cases eF : F f as ms with
      | ok r le' =>
        rw [eF] at h
        intro v H' ex le vr
        obtain ⟨pp, ff⟩ := after ex le
        cases r with
        | v d => exact h v H' pp ff ⟨vr, New.v⟩
        | m x =>
          obtain ⟨q, rfl, m, n1, n2⟩ := vr
          obtain ⟨_, _, _, _, _, r6⟩ := back_ok (la := c.la) (σ := σ) (le' := le') o nd le.1
          refine h _ H' pp ff ⟨⟨q, rfl, m, fun hq => ?_⟩, fun y q' e1 e2 => ?_⟩
          · have hq := (r6 q).mp hq
            rcases n2 with n2 | n2
            · obtain ⟨u, hu, _⟩ := rel.mut hq
              rw [n2] at hu; cases hu
            · rcases callee_own (K := c.K) (la := c.la) (env := env) (σ := σ) (H := H) a n2 with ⟨i, x, h1, h2, m, nn⟩ | z
              · exact nn hq
              · exact n1 z
          · cases e2
            rcases n2 with n2 | n2
            · by_cases z : Own c.la env0 σ q
              · exact .inr z
              · cases e : H0 q with
                | none => exact .inl rfl
                | some ob => rw [p.ext q ob e z] at n2; cases n2
            · exact touch q n2
      | exc k d le' =>
        rw [eF] at h
        intro cls dd H' ex le x
        obtain ⟨pp, ff⟩ := after ex le
        exact h cls dd H' pp ff x
      | no =>
        rw [eF] at h
        exact h.elim
    · exact h.elim
  · exact h.elim
end
/-! ### a call in the text -/
def noStar : Expr → Bool
  | .Starred _ _ => false
  | _ => true
theorem star_of {e : Expr} {es : List Expr} {env : PySem.Env} (h : noStar e = true) : starEach (e :: es) env = (false, eval e env) :: starEach es env := by
  cases e <;> first | rfl | cases h
theorem star_any : ∀ {es : List Expr} {env : PySem.Env} {pos : Pos}, es.all noStar = true → (backTo pos (starEach es env)).any (·.1) = false
  | [], env, pos, _ => rfl
  | e :: es, env, pos, h => by
    simp only [List.all_cons, Bool.and_eq_true] at h
    rw [star_of h.1]
    show (false || (backTo pos (starEach es env)).any (·.1)) = false
    rw [Bool.false_or]
    exact star_any h.2
section
variable {X : Cx} {CX : CXT} {k : Nat} {f : Addr} {fd : FuncData} {ps : List Str} {sp : Sp} {E : St → XK} {x : Str} {p pos : Pos} {es : List Expr} {t tk : TA}
theorem pe_callS0 (F : FnOk X.prog X.w X.K X.mg X.base CX k f fd ps sp) (hr : Room k X.A) (hg : Gl X x) (hm : X.mg x = some (.ref f)) (hk : PySem.W.keepIn X.K (.ref f) = true) (hb : Binds X.K fd ps []) (hx : ∀ σ, PassesAt CX X σ (E σ))
    (hdb : (x == ("__debug__" : Str)) = false) : PE X (.Call (.Name x p) [] [] pos) (tCallS sp E tNil) := by
  refine ⟨fun pins s σ H Q I h => ?_⟩
  refine wpAny_Call_Name_kw (ld_glob I hg hm ?_ hdb)
  exact PySem.W.callWith_K0 I.kIn hk (run_fnS (us := []) F hr hb (hx σ) I .nil h)
theorem s_call {c : Cn} {n : Nat} {W : WX} {fC : Calls} {i : Nat} {fa : Env → Out (List R)} (F : FnOk X.prog X.w X.K X.mg X.base CX k f fd ps (spF c.K c.xr (fC i) n)) (hn : ∀ as le, fC i as le ≠ .no → as.length = n)
    (hr : Room k X.A) (hg : Gl X x) (hm : X.mg x = some (.ref f)) (hk : PySem.W.keepIn X.K (.ref f) = true) (hb : Binds X.K fd ps []) (hx : ∀ σ, PassesAt CX X σ (WE W σ))
    (ha : PA X es (tA c W fa)) (h0 : es = [] → ∀ env, fa env = .ok [] env) (hs : es.all noStar = true) (hdb : (x == ("__debug__" : Str)) = false) :
    PE X (.Call (.Name x p) es [] pos) (tE c W fun env => (fa env).bind fun rs env => doCall fC i rs env) := by
  cases es with
  | nil =>
    refine imp (pe_callS0 F hr hg hm hk hb hx hdb (pos := pos)) fun σ H Q h => ?_
    obtain ⟨env, p, fl, h⟩ := start_ h
    rw [h0 rfl] at h
    exact call_ok hn p fl .nil h
  | cons e es =>
    simp only [List.all_cons, Bool.and_eq_true] at hs
    refine imp (pe_callS F hr hg hm hk hb hx ha hdb (star_of hs.1) (star_any hs.2)) fun σ H Q h => ?_
    obtain ⟨env, p, fl, h⟩ := start_ h
    refine step p fl h fun rs env1 vs H1 p1 f1 r1 h1 => ?_
    exact call_ok hn (p.trans p1) (fl.trans f1) (r1.before p) h1
end
end Di
namespace Di
open PySem PySem.Spec PyProof.Rows L2 HT
section
variable {prog : Program} {w : World} {A : Around} {E : Value → Shared → Prop} {s : Shared}
/-! ### t[::-1] -/
theorem back_applied {sl : Addr} {u : Tok} {n : Nat} {Q : Int × Int × Nat → Shared → Prop} (hs : s.heap.IsSliceOf sl .none .none (.int (-1) u))
    (h : Q ((n : Int) - 1, -1, n) s) : wpAny (model prog w) A (Builtin.Slice.sliceApplied (.ref sl) (pure (n : Int))) Q E s := by
  obtain ⟨os, hos, hcs, hds⟩ := id hs
  unfold Builtin.Slice.sliceApplied Builtin.Slice.sliceFields
  refine wpAny_bind (wpAny_bind (wpAny_field hos hds (x := .none) rfl (wpAny_bind (wpAny_field hos hds (x := .none) rfl (wpAny_bind (wpAny_field hos hds (x := .int (-1) u) rfl (wpAny_pure ?_)))))))
  refine wpAny_bind (slicePart_int ?_)
  show wpAny _ _ (if ((-1 : Int) == 0) = true then _ else _) _ _ s
  rw [if_neg (by decide)]
  refine wpAny_bind (slicePart_none (wpAny_bind (slicePart_none (wpAny_bind (wpAny_pure ?_)))))
  show wpAny _ _ (pure (((n : Int) - 1, (-1 : Int), Builtin.Slice.slicePlaces ((n : Int) - 1) (-1) (-1)))) _ _ s
  have e : Builtin.Slice.slicePlaces ((n : Int) - 1) (-1) (-1) = n := by
    unfold Builtin.Slice.slicePlaces
    have h1 : ¬ ((-1 : Int) > 0) := by omega
    have h2 : (- -1 : Int) = 1 := by decide
    simp only [h1, if_false, h2, Int.ediv_one]
    split <;> omega
  rw [e]
  exact wpAny_pure h
theorem fm_congr {α β : Type} {f g : α → Option β} : ∀ {l : List α}, (∀ a ∈ l, f a = g a) → l.filterMap f = l.filterMap g
  | [], _ => rfl
  | a :: l, h => by
    rw [List.filterMap_cons, List.filterMap_cons, h a (List.mem_cons_self ..), fm_congr fun b hb => h b (List.mem_cons_of_mem _ hb)]
theorem back_pick (xs : Array Value) : ((List.range xs.size).filterMap fun (m : Nat) => xs[(((xs.size : Nat) : Int) - 1 + (m : Int) * -1).toNat]?).toArray = xs.toList.reverse.toArray := by
  have e2 : (List.range xs.size).filterMap (fun (m : Nat) => xs[(((xs.size : Nat) : Int) - 1 + (m : Int) * -1).toNat]?) = ((List.range xs.size).map fun k => xs.size - 1 - k).filterMap (xs[·]?) := by
    rw [List.filterMap_map]
    refine fm_congr fun m hm => ?_
    have := List.mem_range.mp hm
    have e3 : (((xs.size : Nat) : Int) - 1 + (m : Int) * -1).toNat = xs.size - 1 - m := by omega
    show xs[(((xs.size : Nat) : Int) - 1 + (m : Int) * -1).toNat]? = xs[xs.size - 1 - m]?
    rw [e3]
  rw [e2, PySem.W.krv_range, List.filterMap_reverse, PySem.W.krv_all]
theorem getItem_tuple_back {t sl : Addr} {items : Array Value} {u : Tok} {Q : Value → Shared → Prop} (ht : IsTup s.heap t items) (hs : s.heap.IsSliceOf sl .none .none (.int (-1) u))
    (h : Q (.ref s.heap.objs.size) { s with heap := s.heap.push { cls := .type "tuple", data := .seq items.toList.reverse.toArray } })
    (hsz : items.size ≤ sizeLine) : wpAny (model prog w) A (getItem (.ref t) (.ref sl)) Q E s := by
  have htake : sizeOk (.seq items.toList.reverse.toArray) := by
    show items.toList.reverse.toArray.size ≤ sizeLine
    rw [List.size_toArray, List.length_reverse, Array.length_toList]
    exact hsz
  obtain ⟨os, hos, hcs, hds⟩ := id hs
  have hTs : s.TypeIs (.ref sl) "slice" := ⟨os, hos, hcs⟩
  unfold getItem
  try with_reducible refine wpAny_holding ?_
  first | refine wpAny_bind (wpAny_pure ?_) | skip
  refine wpAny_bind (wpAny_sequenceKey ht.typeIs (by decide) ?_)
  refine wpAny_bind (wpAny_callSpecial?_slot (name := Str.ofString "__getitem__") ht.typeIs PyProof.Rows.slot_tuple_getitem
    (wpAny_call_entry PyProof.Rows.slot_tuple_getitem ht.typeIs entry_tuple_getitem ?_ (args_tuple_getitem _ _)))
  show wpAny _ _ (Builtin.Tuple.tupleItemsOf (.ref t) >>= _) _ _ s
  refine wpAny_bind (tupleItemsOf_ ht ?_)
  refine wpAny_bind (wpAny_typeOf hTs ?_)
  rw [if_pos (by decide)]
  refine wpAny_bind (back_applied hs ?_)
  have hno : ¬ (((((items.size : Nat) : Int) - 1) == 0 && (-1 : Int) == 1 && items.size == items.size) = true) := by
    intro q
    rw [Bool.and_eq_true, Bool.and_eq_true] at q
    exact absurd q.1.2 (by decide)
  show wpAny _ _ (if ((((items.size : Nat) : Int) - 1) == 0 && (-1 : Int) == 1 && items.size == items.size) = true then _ else _) _ _ s
  rw [if_neg hno, back_pick]
  first
    | exact wpAny_bind (m := Builtin.Tuple.tupleExact _) (wpAny_newObj_type (wpAny_pure ⟨_, rfl, wpAny_pure h⟩) htake)
    | exact wpAny_bind (m := Builtin.Tuple.tupleExact _) (wpAny_newObj_type (wpAny_bind (wpAny_pure (wpAny_pure ⟨_, rfl, wpAny_pure h⟩))) htake)
    | exact wpAny_bind (wpAny_bind (m := Builtin.Tuple.tupleExact _) (wpAny_newObj_type (wpAny_pure (wpAny_pure ⟨_, rfl, wpAny_pure h⟩)) htake))
    | exact wpAny_bind (wpAny_bind (m := Builtin.Tuple.tupleExact _) (wpAny_newObj_type (wpAny_pure ⟨_, rfl, wpAny_pure h⟩) htake))
/-! ### t * n, t itself or nothing -/
theorem tuple_mul1 (l : Addr) (items : Array Value) (n : Nat) (dd : Option Addr) (sl : Array (Option Value)) (x : Int) (u : Tok) (c0 : (decide (x < -(2 ^ 63)) || decide (x ≥ 2 ^ 63)) = false) (c1 : (items.isEmpty || x == 1) = true) :
    Meets (Builtin.«tuple.__mul__» ⟨[.ref l, .int x u], []⟩) (fun _ R s => s.heap.get? l = some { cls := .type "tuple", dict := dd, data := .seq items n, slots := sl } ∧ R (.ok (.ret (Value.ref l))) s) :=
  .of_wp fun prog w A R s h => by
    obtain ⟨hp, g, d, tk, os⟩ := s
    obtain ⟨hl, h⟩ := h
    have f1 := AutoSeq1.idx_int
    wp_walk using wpAny_loadPart' hl
    repeat (first
      | (refine wpAny_ite_false (decide_eq_false (by rw [c0]; exact Bool.false_ne_true)) ?_; wp_walk using wpAny_loadPart' hl)
      | (refine wpAny_ite_true (decide_eq_true (by rw [c1])) ?_; wp_walk using wpAny_loadPart' hl))
    exact ⟨_, rfl, h⟩
theorem tuple_mul0 (l : Addr) (items : Array Value) (n : Nat) (dd : Option Addr) (sl : Array (Option Value)) (x : Int) (u : Tok) (c0 : (decide (x < -(2 ^ 63)) || decide (x ≥ 2 ^ 63)) = false) (c1 : (items.isEmpty || x == 1) = false) (c2 : (decide (x ≤ 0) || items.isEmpty) = true) :
    Meets (Builtin.«tuple.__mul__» ⟨[.ref l, .int x u], []⟩) (fun _ R s => s.heap.get? l = some { cls := .type "tuple", dict := dd, data := .seq items n, slots := sl } ∧ R (.ok (.ret (Value.ref s.heap.objs.size))) { s with heap := s.heap.push { cls := Value.type "tuple", data := Data.seq #[] }, toks := s.toks }) :=
  .of_wp fun prog w A R s h => by
    obtain ⟨hp, g, d, tk, os⟩ := s
    obtain ⟨hl, h⟩ := h
    have f1 := AutoSeq1.idx_int
    wp_walk using wpAny_loadPart' hl
    repeat (first
      | (refine wpAny_ite_false (decide_eq_false (by rw [c0]; exact Bool.false_ne_true)) ?_; wp_walk using wpAny_loadPart' hl)
      | (refine wpAny_ite_false (decide_eq_false (by rw [c1]; exact Bool.false_ne_true)) ?_; wp_walk using wpAny_loadPart' hl)
      | (refine wpAny_ite_true (decide_eq_true (by rw [c2])) ?_; wp_walk using wpAny_loadPart' hl))
    exact ⟨_, rfl, h⟩
end
end Di
namespace Di
open PySem PySem.Spec PyProof.Rows L2
section
variable {X : Cx} {c : Cn} {W : WX}
theorem small_k {i : Int} (h : small i = true) : -(2 ^ 64) < i ∧ i < 2 ^ 64 := by
  have := of_decide_eq_true h
  constructor <;> omega
def rRepA (K : PySem.W.Frag) : R2 := fun x y H Q => ∃ l k xs, x = .ref l ∧ y = .int k ∧ SqT K H l xs ∧ -1000 ≤ k ∧ k ≤ 1000 ∧ xs.length ≤ 1000 ∧
  (xs = [] ∨ k = 1 → Q (.ref l) H) ∧ (¬ (xs = [] ∨ k = 1) → ∀ p, H p = none → Q (.ref p) (upd H p (.tup (List.replicate k.toNat xs).flatten)))
theorem op_repA : OpR X (binaryOp .Mult) (rRepA X.K) := by
  intro pins s σ H x y v u Q I rx ry h
  obtain ⟨l, k, xs, rfl, rfl, hT, h0, h1, hz, q1, q2⟩ := h
  by_cases hk : xs = [] ∨ k = 1
  · have q1 := q1 hk
    cases rx
    obtain ⟨t, rfl⟩ := ry
    obtain ⟨its, r, ⟨⟨cls, dd, data, sl⟩, ho, hc, n, hd⟩, hs⟩ := I.tuple hT
    simp only at hc hd
    subst hc hd
    have c0 : (decide (k < -(2 ^ 63)) || decide (k ≥ 2 ^ 63)) = false := by
      rw [decide_eq_false (by omega), decide_eq_false (by omega)] <;> rfl
    have c1 : (its.toArray.isEmpty || k == 1) = true := by
      rcases hk with hk | hk
      · subst hk
        cases r
        rfl
      · subst hk
        simp
    refine wpAny_binaryOp_repeat_ref (T := "tuple") (U := "int") (by decide) ⟨_, ho, rfl⟩ (fun s' => typeIs_int s' k t) noFill_tuple_mul F.fills_int_mul F.slot_int_rmul repeat_tuple F.slot_int_index.lookup
      (call_meets F.slot_int_rmul (typeIs_int s k t) F.entry_int_rmul (F.args_int_rmul_2 _ _) (int_rmul_tuple k t l its.toArray n dd sl)
        ⟨ho, rfl, ⟨_, ho, rfl⟩, call_meets F.slot_tuple_mul ⟨_, ho, rfl⟩ F.entry_tuple_mul (F.args_tuple_mul_2 _ _) (tuple_mul1 l its.toArray n dd sl k t c0 c1) ⟨ho, ⟨.ref l, H, I, rfl, q1⟩⟩⟩)
  · have q2 := q2 hk
    by_cases hk2 : k ≤ 0
    · cases rx
      obtain ⟨t, rfl⟩ := ry
      obtain ⟨its, r, ⟨⟨cls, dd, data, sl⟩, ho, hc, n, hd⟩, hs⟩ := I.tuple hT
      simp only at hc hd
      subst hc hd
      have c0 : (decide (k < -(2 ^ 63)) || decide (k ≥ 2 ^ 63)) = false := by
        rw [decide_eq_false (by omega), decide_eq_false (by omega)] <;> rfl
      have c1 : (its.toArray.isEmpty || k == 1) = false := by
        have : its ≠ [] := fun e => hk (.inl (by subst e; cases r; rfl))
        cases its with
        | nil => exact absurd rfl this
        | cons a b =>
          show (false || k == 1) = false
          rw [Bool.false_or]
          exact beq_eq_false_iff_ne.mpr (by omega)
      have c2 : (decide (k ≤ 0) || its.toArray.isEmpty) = true := by rw [decide_eq_true hk2]; rfl
      have ek : k.toNat = 0 := by omega
      rw [ek] at q2
      refine wpAny_binaryOp_repeat_ref (T := "tuple") (U := "int") (by decide) ⟨_, ho, rfl⟩ (fun s' => typeIs_int s' k t) noFill_tuple_mul F.fills_int_mul F.slot_int_rmul repeat_tuple F.slot_int_index.lookup
        (call_meets F.slot_int_rmul (typeIs_int s k t) F.entry_int_rmul (F.args_int_rmul_2 _ _) (int_rmul_tuple k t l its.toArray n dd sl)
          ⟨ho, rfl, ⟨_, ho, rfl⟩, call_meets F.slot_tuple_mul ⟨_, ho, rfl⟩ F.entry_tuple_mul (F.args_tuple_mul_2 _ _) (tuple_mul0 l its.toArray n dd sl k t c0 c1 c2) ⟨ho, ?_⟩⟩)
      refine ⟨.ref s.heap.objs.size, _, I.laid (t' := s.toks) (o := .tup []) (fun b ob q => Heap.get?_push_of_some _ q) (Nat.le_refl _) ?_, rfl, q2 _ (I.hok.fresh (Nat.le_refl _))⟩
      exact ⟨Nat.zero_le _, [], .nil, IsTup.new _ _⟩
    · exact op_repT pins s σ H _ _ v u Q I rx ry ⟨l, k, xs, rfl, rfl, hT, fun e => hk (.inl e), by omega, h1, hz, q2⟩
theorem opd_mul : OpD X (binaryOp .Mult) (dBin .Mult) := OpD.of fun x y H dx dy res Q lx ly e q => by
  replace e : dMul dx dy = some res := e
  unfold dMul at e
  split at e
  · rename_i i j
    split at e
    · rename_i hc
      cases e
      have hq := q _ _ (.val (.int (i * j)))
      simp only [Bool.or_eq_true, Bool.and_eq_true] at hc
      rcases hc with (hc | hc) | ⟨h1, h2⟩
      · exact ⟨_, op_mul, i, j, pd_int lx, pd_int ly, .inl (small_k hc), hq⟩
      · exact ⟨_, op_mul, i, j, pd_int lx, pd_int ly, .inr (small_k hc), hq⟩
      · exact ⟨_, op_mulX, i, j, pd_int lx, pd_int ly, mulx_ok (of_decide_eq_true h1) (of_decide_eq_true h2) (by decide), hq⟩
    · cases e
  · rename_i xs j
    split at e
    · rename_i hc
      obtain ⟨h1, h2, h3⟩ := hc
      cases e
      obtain ⟨p, vs, rfl, a1, a2, a3⟩ := lx.seqT rfl
      have hl := a3.length
      refine ⟨_, op_repA, p, j, vs, rfl, pd_int ly, a1, by omega, h2, by omega, fun hk => ?_, fun hk p' hp => ?_⟩
      · have : (List.replicate j.toNat xs).flatten = xs := by
          rcases hk with hk | hk
          · subst hk
            have : xs = [] := List.eq_nil_of_length_eq_zero (by rw [← hl]; rfl)
            subst this
            simp
          · subst hk
            simp
        rw [this] at q
        exact q _ _ (.val (.tup a1 a2 a3))
      · refine q _ _ (.tup hp ?_ (a3.rep _))
        rw [PyProof.Rows.lm_len_rep_flat, sizeLine_eq]
        have a1 : j.toNat * vs.length ≤ 1000 * 1000 := Nat.mul_le_mul (by omega) (by omega)
        omega
    · cases e
  · rename_i xs j
    split at e
    · rename_i hc
      obtain ⟨h1, h2, h3⟩ := hc
      cases e
      obtain ⟨p, rfl, vs, a1, a2, a3⟩ := lx
      have hl := a3.length
      rw [← hl, LINE_eq] at h1
      refine ⟨_, op_rep, p, j, vs, rfl, pd_int ly, a1, by omega, by omega, h1, fun p' hp => q _ _ (.lst hp ?_ (a3.rep _))⟩
      rw [PyProof.Rows.lm_len_rep_flat, Nat.mul_comm]
      exact h1
    · cases e
  · cases e
/-! ### e[::-1] -/
theorem pe_revA {e : Expr} {te : TE} {k : Nat} {p1 p2 p3 pos : Pos} (he : PE X e te) : PE X (.Subscript e (.Slice none none (some (.UnaryOp .USub (.Constant (.int 1) k p1) p2)) p3) pos)
    (fun σ H Q => te σ H fun x H1 => ∃ a xs, x = .ref a ∧ SqT X.K H1 a xs ∧ ∀ p, H1 p = none → Q (.ref p) (upd H1 p (.tup xs.reverse))) := by
  refine ⟨fun pins s σ H Q I h => ?_⟩
  refine Subscript_ (thn (he.run pins s σ H _ I h) fun v s1 ⟨x, H1, I1, r1, q1⟩ => ?_)
  obtain ⟨a, xs, ex, hx, q⟩ := q1
  subst ex
  cases r1
  have hst : PO X (some (.UnaryOp .USub (.Constant (.int 1) k p1) p2)) (tPart (tUn (rU fun i => .int (-i)) (tC (.int 1)))) := po_some (pe_un un_neg pe_int)
  refine wpAny_Slice (thn (po_none.run pins s1 σ H1 (fun o H2 => o = none ∧ H2 = H1) I1 ⟨rfl, rfl⟩) fun vl s2 ⟨l, H2, I2, pl, el, e2⟩ => ?_)
  subst el e2
  refine thn (po_none.run pins s2 σ H2 (fun o H3 => o = none ∧ H3 = H2) I2 ⟨rfl, rfl⟩) fun vu s3 ⟨u, H3, I3, pu, eu, e3⟩ => ?_
  subst eu e3
  refine thn (hst.run pins s3 σ H3 (fun o H4 => o = some (-1) ∧ H4 = H3) I3 ⟨1, rfl, -1, rfl, rfl, rfl⟩) fun vs s4 ⟨o, H4, I4, ps, eo, e4⟩ => ?_
  subst eo e4
  cases pl
  cases pu
  obtain ⟨u0, rfl⟩ : ∃ u0, vs = .int (-1) u0 := by cases ps; exact ⟨_, rfl⟩
  have I5 : Inv X pins σ H4 { s4 with heap := s4.heap.push { cls := .type "slice", data := .fields #[.none, .none, .int (-1) u0] } } := I4.kept (t' := s4.toks) fun b ob q => Heap.get?_push_of_some _ q
  obtain ⟨its, r, ht, hz⟩ := I5.tuple hx
  have hlen := r.length
  show wpAny (model X.prog X.w) X.A (subscriptTail e (.Slice none none (some (.UnaryOp .USub (.Constant (.int 1) k p1) p2)) p3) (.ref a) (.ref s4.heap.objs.size)) (EP X pins σ Q) X.xe { s4 with heap := s4.heap.push { cls := .type "slice", data := .fields #[.none, .none, .int (-1) u0] } }
  refine tail_any (ops := [.ref a, .ref s4.heap.objs.size]) ht.typeIs (PyProof.Rows.slot_tuple_getitem.lookup) ?_ (by with_unfolding_all rfl)
  refine getItem_tuple_back ht (Heap.IsSliceOf.new _ _ _ _) ?_ (by rw [List.size_toArray]; omega)
  refine ⟨.ref _, _, I5.laid (t' := s4.toks) (o := .tup xs.reverse) (fun b ob q => Heap.get?_push_of_some _ q) (Nat.le_refl _) ?_, rfl, q _ (I5.hok.fresh (Nat.le_refl _))⟩
  exact ⟨by rw [List.length_reverse]; exact hz, _, r.reverse, IsTup.new _ _⟩
end
end Di
namespace Di
open PySem PySem.Spec PyProof.Rows L2
section
variable {X : Cx} {c : Cn} {W : WX}
theorem s_rvs {a : Expr} {k : Nat} {p1 p2 p3 pos : Pos} {fa : Env → Out R} (hK : X.K = c.K) (ha : PE X a (tE c W fa)) :
    PE X (.Subscript a (.Slice none none (some (.UnaryOp .USub (.Constant (.int 1) k p1) p2)) p3) pos) (tE c W fun env => (fa env).bind fun x env => op1 dRvs x env) := by
  have hL := pe_revL (k := k) (p1 := p1) (p2 := p2) (p3 := p3) (pos := pos) ha
  have hT := pe_revA (k := k) (p1 := p1) (p2 := p2) (p3 := p3) (pos := pos) ha
  refine ⟨fun pins s σ H Q I h => ?_⟩
  obtain ⟨env, p, fl, h⟩ := start_ h
  cases ef : fa env with
  | ok r env1 =>
    rw [ef] at h
    have h : Fin c W (RlE c) env H σ Q (op1 dRvs r env1) := h
    unfold op1 at h
    split at h
    · rename_i x ex
      unfold dRvs at h
      split at h
      · rename_i d eg
        split at eg
        · rename_i xs
          cases eg
          refine hT.run pins s σ H Q I ⟨env, p.rel, ?_⟩
          rw [ef]
          intro v H1 p1 f1 r1
          have lx : Lk c.K H1 v (.v (.tuple xs)) := lk_of p1.rel r1.1 ex
          obtain ⟨a, vs, rfl, h1, h2, h3⟩ := lx.seqT rfl
          rw [hK]
          refine ⟨a, vs, rfl, h1, fun q hq => ?_⟩
          have n : Nw c.K H1 (upd H1 q (.tup vs.reverse)) (.ref q) (.v (.tuple xs.reverse)) := .tup hq (by rw [List.length_reverse]; exact h2) h3.reverse
          have rl := n.rl p1.rel
          exact h _ _ (p1.trans (.grow p1.rel n.ext)) f1 ⟨rl.1, rl.2.before p1⟩
        · split at eg
          · rename_i xs es
            cases eg
            refine hL.run pins s σ H Q I ⟨env, p.rel, ?_⟩
            rw [ef]
            intro v H1 p1 f1 r1
            have lx : Lk c.K H1 v x := lk_of p1.rel r1.1 ex
            obtain ⟨a, vs, rfl, h1, h2, h3⟩ := lx.seqL es
            rw [hK]
            refine ⟨a, vs, rfl, h1, fun q hq => ?_⟩
            have n : Nw c.K H1 (upd H1 q (.lst vs.reverse)) (.ref q) (.m (.lst xs.reverse)) := .lst hq (by rw [List.length_reverse]; exact h2) h3.reverse
            have rl := n.rl p1.rel
            exact h _ _ (p1.trans (.grow p1.rel n.ext)) f1 ⟨rl.1, rl.2.before p1⟩
          · cases eg
      · exact h.elim
    · exact h.elim
  | exc k d e =>
    rw [ef] at h
    exact hL.run pins s σ H Q I ⟨env, p.rel, by rw [ef]; exact h⟩
  | no => rw [ef] at h; exact h.elim
/-! ### a < b < c -/
abbrev RD (X : Cx) (g : RM → RM → Option R) : R2 := fun x y H Q => ∃ dx dy res, Lk X.K H x dx ∧ Lk X.K H y dy ∧ g dx dy = some res ∧ ∀ v H', Nw X.K H H' v res → Q v H'
theorem chain_ {op op' : CmpOp} {fa fb fc : Env → Out R} (hK : X.K = c.K) {σ : St} {H : Hp} {Q : VK}
    (h : tE c W (fun env => (fa env).bind fun x env => (fb env).bind fun y env => chnR op op' fc x y env) σ H Q) : tChain (RD X (dCmp op)) (RD X (dCmp op')) (tE c W fa) (tE c W fb) (tE c W fc) σ H Q := by
  obtain ⟨env, p, fl, h⟩ := start_ h
  refine step p fl h fun x env1 v H1 p1 f1 r1 h1 => ?_
  refine step (p.trans p1) (fl.trans f1) h1 fun y env2 u H2 p2 f2 r2 h2 => ?_
  have h2 : Fin c W (RlE c) env H σ Q (chnR op op' fc x y env2) := h2
  have rx := r1.1.after p1.rel p2 f2
  have pp := (p.trans p1).trans p2
  have ff := (fl.trans f1).trans f2
  unfold chnR at h2
  split at h2
  · rename_i dx dy ex ey
    have l1 : Lk X.K H2 v dx := by rw [hK]; exact lk_of p2.rel rx ex
    have l2 : Lk X.K H2 u dy := by rw [hK]; exact lk_of p2.rel r2.1 ey
    have go : ∀ b, dCmpB op dx dy = some b → dCmp op dx dy = some (.v (.bool b)) := fun b e => by unfold dCmp; rw [e]; rfl
    split at h2
    · rename_i ec
      refine ⟨dx, dy, _, l1, l2, go _ ec, fun w H3 n => ?_⟩
      rw [hK] at n
      have p3 : Post c.K c.la env2 σ H2 env2 σ H3 := .grow p2.rel n.ext
      have e := n.is
      cases e
      refine ⟨true, rfl, ?_⟩
      rw [if_pos rfl]
      refine step (pp.trans p3) ff h2 fun z env3 w H4 p4 f4 r4 h4 => ?_
      have h4 : Fin c W (RlE c) env H σ Q (op2 (dCmp op') y z env3) := h4
      have ry := (r2.1.after p2.rel p3 (.refl _)).after p3.rel p4 f4
      unfold op2 at h4
      split at h4
      · rename_i dy' dz ey' ez
        split at h4
        · rename_i res er
          have l3 : Lk X.K H4 u dy' := by rw [hK]; exact lk_of p4.rel ry ey'
          have l4 : Lk X.K H4 w dz := by rw [hK]; exact lk_of p4.rel r4.1 ez
          refine ⟨dy', dz, res, l3, l4, er, fun t H5 n5 => ?_⟩
          rw [hK] at n5
          have p5 : Post c.K c.la env3 σ H4 env3 σ H5 := .grow p4.rel n5.ext
          have rl := n5.rl p4.rel
          have ppp := (pp.trans p3).trans p4
          exact h4 t H5 (ppp.trans p5) (ff.trans f4) ⟨rl.1, rl.2.before ppp⟩
        · exact h4.elim
      · exact h4.elim
    · rename_i ec
      refine ⟨dx, dy, _, l1, l2, go _ ec, fun w H3 n => ?_⟩
      rw [hK] at n
      have p3 : Post c.K c.la env2 σ H2 env2 σ H3 := .grow p2.rel n.ext
      have e := n.is
      cases e
      refine ⟨false, rfl, ?_⟩
      rw [if_neg Bool.false_ne_true]
      exact h2 (.bl false) H3 (pp.trans p3) ff ⟨.bl false, New.v⟩
    · exact h2.elim
  · exact h2.elim
theorem s_chn {op op' : CmpOp} {a b d : Expr} {pos : Pos} {fa fb fc : Env → Out R} (hK : X.K = c.K) (ho : ∀ op, OpD X (compareOp op) (dCmp op)) (ha : PE X a (tE c W fa)) (hb : PE X b (tE c W fb)) (hc : PE X d (tE c W fc)) (hm : lastMarks [op, op'] [b, d] = false) :
    PE X (.Compare a [op, op'] [b, d] pos) (tE c W fun env => (fa env).bind fun x env => (fb env).bind fun y env => chnR op op' fc x y env) :=
  imp (pe_chain (ho op) (ho op') ha hb hc hm) fun _ _ _ h => chain_ hK h
theorem t_chn {op op' : CmpOp} {a b d : Expr} {pos : Pos} {fa fb fc : Env → Out R} (hK : X.K = c.K) (ho : ∀ op, OpD X (compareOp op) (dCmp op)) (ha : PE X a (tE c W fa)) (hb : PE X b (tE c W fb)) (hc : PE X d (tE c W fc)) (hm : lastMarks [op, op'] [b, d] = false) :
    PT X (.Compare a [op, op'] [b, d] pos) (tT c W fun env => ((fa env).bind fun x env => (fb env).bind fun y env => chnR op op' fc x y env).bind valT) := by
  refine impT (pt_chain (ho op) (ho op') ha hb hc hm) fun σ H Q h => ?_
  exact chain_ (Q := fun x H' => ∃ k, x = .bl k ∧ Q k H') hK (t_val h)
/-! ### isinstance -/
def tyN : Ty → String
  | .int => "int" | .bool => "bool" | .str => "str" | .tup => "tuple" | .lst => "list"
def ofN : RM → String
  | .v .none => "NoneType"
  | .v (.bool _) => "bool"
  | .v (.int _) => "int"
  | .v (.str _) => "str"
  | .v (.list _) => "list"
  | .v (.tuple _) => "tuple"
  | .v (.dict _) => "dict"
  | .m (.lst _) => "list"
  | .m (.dct _) => "dict"
  | .m (.set _) => "set"
def kitS (x : RM) : Prop := ∀ t : Ty, kitB (ofN x) (tyN t) = some (dTy t x)
theorem kitS_none : kitS (.v .none) := fun t => by cases t <;> decide +kernel
theorem kitS_bool : kitS (.v (.bool true)) := fun t => by cases t <;> decide +kernel
theorem kitS_int : kitS (.v (.int 0)) := fun t => by cases t <;> decide +kernel
theorem kitS_str : kitS (.v (.str "")) := fun t => by cases t <;> decide +kernel
theorem kitS_list : kitS (.v (.list [])) := fun t => by cases t <;> decide +kernel
theorem kitS_tuple : kitS (.v (.tuple [])) := fun t => by cases t <;> decide +kernel
theorem kitS_dict : kitS (.v (.dict [])) := fun t => by cases t <;> decide +kernel
theorem kitS_set : kitS (.m (.set [])) := fun t => by cases t <;> decide +kernel
theorem kitB_of (t : Ty) (x : RM) : kitB (ofN x) (tyN t) = some (dTy t x) := by
  rcases x with d | m
  · cases d with
    | none => exact kitS_none t
    | bool b => cases t <;> exact kitS_bool _
    | int b => cases t <;> exact kitS_int _
    | str b => cases t <;> exact kitS_str _
    | list b => cases t <;> exact kitS_list _
    | tuple b => cases t <;> exact kitS_tuple _
    | dict b => cases t <;> exact kitS_dict _
  · cases m with
    | lst b => cases t <;> exact kitS_list _
    | dct b => cases t <;> exact kitS_dict _
    | set b => cases t <;> exact kitS_set _
theorem tyX_of {K : PySem.W.Frag} {H : Hp} {v : V} {x : RM} (h : Lk K H v x) : TyX K H v (.type (ofN x)) := by
  cases x with
  | v d =>
    cases h with
    | non => exact .base .non
    | bl b => exact .base (.bl b)
    | int i => exact .base (.int i)
    | str s => exact .base (.str s)
    | lst a b c =>
      rcases a with ⟨o, a⟩ | ⟨o, its, n, h1, h2, _⟩
      · exact .base (.frz a)
      · exact .kList h1 h2
    | tup a b c =>
      rcases a with (a | ⟨o, a⟩) | ⟨o, its, n, h1, h2, _⟩
      · exact .base (.tup a)
      · exact .fTuple a
      · exact .kTuple h1 h2
  | m y =>
    cases y with
    | lst ds => obtain ⟨p, rfl, vs, h1, _⟩ := h; exact .base (.lst h1)
    | dct _ => obtain ⟨p, _, m⟩ := h; exact m.elim
    | set _ => obtain ⟨p, _, m⟩ := h; exact m.elim
theorem kitAny_of {K : PySem.W.Frag} {x : RM} : ∀ ts : List Ty, PySem.W.kitAny K (.type (ofN x)) (ts.map fun t => .type (tyN t)) = some (ts.any fun t => dTy t x)
  | [] => rfl
  | t :: ts => by
    refine kitAny_cons (kit_ty (kitB_of t x)) (fun e => ?_) fun e => ?_
    · rw [List.any_cons, e, Bool.false_or]
      exact kitAny_of ts
    · rw [List.any_cons, e, Bool.true_or]
/-- the names of built-in types -/
structure TyOk (X : Cx) (t : Ty) : Prop where
  gl : Gl X (tyN t)
  mg : X.mg (tyN t) = none
theorem pe_ty {t : Ty} {p : Pos} (h : TyOk X t) : PE X (.Name (tyN t) p) (tC (.ty (tyN t))) := by
  refine pe_bltn h.gl h.mg (u := .type (tyN t)) ?_ rfl ?_ ?_
  · cases t <;> decide +kernel
  · cases t <;> decide
  · cases t <;> decide
def tyNames : List Ty → List Expr → Bool
  | [], [] => true
  | t :: ts, .Name x _ :: es => x == (tyN t : Str) && tyNames ts es
  | _, _ => false
def tTys (ts : List Ty) : TA := fun _ H Q => Q (ts.map fun t => V.ty (tyN t)) H
theorem pa_tys : ∀ {ts : List Ty} {es : List Expr}, (∀ t ∈ ts, TyOk X t) → tyNames ts es = true → PA X es (tTys ts)
  | [], [], _, _ => pa_nil
  | t :: ts, .Name x p :: es, h, e => by
    simp only [tyNames, Bool.and_eq_true] at e
    have ex := eq_of_beq e.1
    subst ex
    exact pa_cons (pe_ty (h t (List.mem_cons_self ..))) (pa_tys (fun u hu => h u (List.mem_cons_of_mem _ hu)) e.2) rfl
theorem paired_tys : ∀ ts : List Ty, Paired ClsV (ts.map fun t => V.ty (tyN t)) (ts.map fun t => .type (tyN t))
  | [] => .nil
  | t :: ts => .cons (.ty _) (paired_tys ts)
theorem s_isi1 {t : Ty} {a : Expr} {p p2 pos : Pos} {fa : Env → Out R} (hK : X.K = c.K) (hg : Gl X "isinstance") (hm : X.mg "isinstance" = none) (ht : TyOk X t) (ha : PE X a (tE c W fa)) (hs : noStar a = true) :
    PE X (.Call (.Name "isinstance" p) [a, .Name (tyN t) p2] [] pos) (tE c W fun env => (fa env).bind fun x env => op1 (isiG [t]) x env) := by
  refine imp (pe_callB call_isi hg hm (by decide +kernel) (pa_cons ha (pa_cons (pe_ty ht) pa_nil rfl) (star_of hs)) (by decide) (by decide) (star_of hs) (star_any (by simp [hs, noStar]))) fun σ H Q h => ?_
  have h := one (X := X) hK h
  obtain ⟨env, p, fl, h⟩ := start_ h
  refine ⟨env, p.rel, ?_⟩
  cases ef : fa env with
  | ok r env1 =>
    rw [ef] at h
    intro v H1 p1 f1 r1
    obtain ⟨dx, res, lx, e, q⟩ := h v H1 p1 f1 r1
    cases e
    refine ⟨v, .ty (tyN t), _, _, dTy t dx, rfl, .ty _, tyX_of lx, kit_ty (kitB_of t dx), ?_⟩
    have q := q (.bl (dTy t dx)) H1 (.val (by simp only [List.any_cons, List.any_nil, Bool.or_false]; exact .bl _))
    exact q
  | exc k d e => rw [ef] at h; exact h
  | no => rw [ef] at h; exact h.elim
theorem s_isiT {ts : List Ty} {es : List Expr} {a : Expr} {p p2 pos : Pos} {x1} {fa : Env → Out R} (hK : X.K = c.K) (hg : Gl X "isinstance") (hm : X.mg "isinstance" = none) (ht : ∀ t ∈ ts, TyOk X t) (hn : tyNames ts es = true) (hz : ts.length ≤ 100) (ha : PE X a (tE c W fa)) (hs : noStar a = true) :
    PE X (.Call (.Name "isinstance" p) [a, .Tuple es x1 p2] [] pos) (tE c W fun env => (fa env).bind fun x env => op1 (isiG ts) x env) := by
  refine imp (pe_callB call_isiT hg hm (by decide +kernel) (pa_cons ha (pa_cons (pe_tup (pa_tys ht hn)) pa_nil rfl) (star_of hs)) (by decide) (by decide) (star_of hs) (star_any (by simp [hs, noStar]))) fun σ H Q h => ?_
  have h := one (X := X) hK h
  obtain ⟨env, p, fl, h⟩ := start_ h
  refine ⟨env, p.rel, ?_⟩
  cases ef : fa env with
  | ok r env1 =>
    rw [ef] at h
    intro v H1 p1 f1 r1
    obtain ⟨dx, res, lx, e, q⟩ := h v H1 p1 f1 r1
    cases e
    refine ⟨by rw [List.length_map, sizeLine_eq]; omega, fun tp hp => ?_⟩
    have lx2 := lx.grow (ext_new (o := .tup (ts.map fun t => V.ty (tyN t))) hp)
    exact ⟨v, tp, _, _, _, _, rfl, upd_same, paired_tys ts, tyX_of lx2, kitAny_of ts, q _ _ ⟨ext_new hp, .bl _⟩⟩
  | exc k d e => rw [ef] at h; exact h
  | no => rw [ef] at h; exact h.elim
/-! ### bit_length -/
theorem bitLen_eq (i : Int) : Builtin.Int.intBits i = bitLen i := by
  unfold Builtin.Int.intBits bitLen
  by_cases h : i = 0
  · subst h; rfl
  · rw [if_neg h, if_neg (by simpa using h)]
theorem s_bits {a : Expr} {apos pos : Pos} {fa : Env → Out R} (hK : X.K = c.K) (ha : PE X a (tE c W fa)) (hb : attributeBase a "bit_length" X.env (eval a X.env) = eval a X.env) (hl : (apos.endLine == pos.line) = true) :
    PE X (.Call (.Attribute a "bit_length" apos) [] [] pos) (tE c W fun env => (fa env).bind fun x env => op1 bitG x env) := by
  refine imp (pe_bits ha hb hl) fun σ H Q h => ?_
  have h := one (X := X) hK h
  obtain ⟨env, p, fl, h⟩ := start_ h
  refine ⟨env, p.rel, ?_⟩
  cases ef : fa env with
  | ok r env1 =>
    rw [ef] at h
    intro v H1 p1 f1 r1
    obtain ⟨dx, res, lx, e, q⟩ := h v H1 p1 f1 r1
    unfold bitG dMth at e
    split at e
    · cases e
      rw [← bitLen_eq] at q
      exact ⟨_, pd_int lx, q _ _ (.val (.int _))⟩
    · cases e
  | exc k d e => rw [ef] at h; exact h
  | no => rw [ef] at h; exact h.elim
/-! ### globals -/
theorem s_glo {x : Str} {d : D} {v : V} {u : Value} {pos : Pos} (hg : Gl X x) (hm : X.mg x = some u) (r : RelV v u) (hd : (x == ("__debug__" : Str)) = false) (hp : ∀ H, Pd c.K H v d) : PE X (.Name x pos) (tE c W fun env => gloR (some d) env) := by
  refine imp (pe_glob hg hm r hd) fun σ H Q h => ?_
  obtain ⟨env, p, fl, h⟩ := start_ h
  exact h v H p fl ⟨hp H, New.v⟩
end
end Di
namespace Di
open PySem PySem.Spec PyProof.Rows L2
/-! ### what is walked, by data -/
structure WD (K : PySem.W.Frag) (J : L2.It) (ds : List D) (G : Hp → Prop) : Prop where
  goes : ∀ (i : Nat) (H : Hp), i < ds.length → G H → J.go i H
  stops : ∀ H, G H → J.stop ds.length H
  yields : ∀ (i : Nat) (H : Hp) (x : V) (H' : Hp) (d : D), ds[i]? = some d → G H → J.yld i H x H' → (∀ a o, H a = some o → H' a = some o) ∧ Pd K H' x d
section
variable {K : PySem.W.Frag} {a : Addr} {ds : List D}
theorem wd_list : WD K (Itl K a) ds (fun H => ∃ xs, SqL K H a xs ∧ PdA K H xs ds) where
  goes := fun i H hi ⟨xs, h, p⟩ => ⟨xs, xs[i]'(by rw [p.length]; exact hi), h, by simp [p.length, hi]⟩
  stops := fun H ⟨xs, h, p⟩ => ⟨xs, h, by rw [p.length]; exact Nat.le_refl _⟩
  yields := fun i H x H' d e ⟨xs, h, p⟩ y => by
    obtain ⟨rfl, y⟩ := y
    obtain ⟨v, h1, h2⟩ := p.get e
    have := y xs h
    rw [h1] at this
    cases this
    exact ⟨fun _ _ h => h, h2⟩
theorem wd_tup : WD K (Itt K a) ds (fun H => ∃ xs, SqT K H a xs ∧ PdA K H xs ds) where
  goes := fun i H hi ⟨xs, h, p⟩ => ⟨xs, xs[i]'(by rw [p.length]; exact hi), h, by simp [p.length, hi]⟩
  stops := fun H ⟨xs, h, p⟩ => ⟨xs, h, by rw [p.length]; exact Nat.le_refl _⟩
  yields := fun i H x H' d e ⟨xs, h, p⟩ y => by
    obtain ⟨rfl, y⟩ := y
    obtain ⟨v, h1, h2⟩ := p.get e
    have := y xs h
    rw [h1] at this
    cases this
    exact ⟨fun _ _ h => h, h2⟩
theorem rangeD_len {lo : Int} {n : Nat} : (rangeD lo n).length = n := by simp [rangeD]
theorem rangeD_at {lo : Int} {n i : Nat} {d : D} (h : (rangeD lo n)[i]? = some d) : d = .int (lo + i) := by
  unfold rangeD at h
  rw [List.getElem?_map] at h
  cases e : (List.range n)[i]? with
  | none => rw [e] at h; cases h
  | some k =>
    rw [e] at h
    obtain ⟨h1, h2⟩ := List.getElem?_eq_some_iff.mp e
    rw [List.getElem_range] at h2
    subst h2
    simpa using h.symm
theorem wd_range {lo : Int} {n : Nat} : WD K (Itr lo n) (rangeD lo n) (fun _ => True) where
  goes := fun i H hi _ => by rw [rangeD_len] at hi; exact hi
  stops := fun H _ => by rw [rangeD_len]; exact Nat.le_refl _
  yields := fun i H x H' d e _ y => by
    obtain ⟨rfl, rfl⟩ := y
    rw [rangeD_at e]
    exact ⟨fun _ _ h => h, .int _⟩
theorem enumD_len : ∀ {k : Nat} {ds : List D}, (enumD k ds).length = ds.length
  | _, [] => rfl
  | k, d :: ds => congrArg Nat.succ (enumD_len (k := k + 1) (ds := ds))
theorem enumD_at : ∀ {ds : List D} {k i : Nat} {d : D}, (enumD k ds)[i]? = some d → ∃ x, ds[i]? = some x ∧ d = .tuple [.int ((k + i : Nat)), x]
  | [], _, _, _, h => by simp [enumD] at h
  | x :: ds, k, 0, d, h => by
    simp [enumD] at h
    exact ⟨x, rfl, by rw [← h]; simp⟩
  | x :: ds, k, i + 1, d, h => by
    obtain ⟨y, h1, h2⟩ := enumD_at (ds := ds) (k := k + 1) (i := i) (d := d) (by simpa [enumD] using h)
    refine ⟨y, by simpa using h1, ?_⟩
    rw [h2]
    have : k + 1 + i = k + (i + 1) := by omega
    rw [this]
theorem wd_enum : WD K (Ite K a) (enumD 0 ds) (fun H => ∃ xs, SqL K H a xs ∧ PdA K H xs ds) where
  goes := fun i H hi ⟨xs, h, p⟩ => by
    rw [enumD_len] at hi
    exact ⟨xs, xs[i]'(by rw [p.length]; exact hi), h, by simp [p.length, hi]⟩
  stops := fun H ⟨xs, h, p⟩ => ⟨xs, h, by rw [p.length, enumD_len]; exact Nat.le_refl _⟩
  yields := fun i H x H' d e ⟨xs, h, p⟩ y => by
    obtain ⟨T, z, rfl, hT, rfl, y⟩ := y
    obtain ⟨dz, e1, rfl⟩ := enumD_at e
    obtain ⟨v, h1, h2⟩ := p.get e1
    have := y xs h
    rw [h1] at this
    cases this
    rw [Nat.zero_add]
    refine ⟨ext_new hT, .tup (SqT.of upd_same) (by rw [sizeLine_eq]; simp) (.cons (.int _) (.one (Pd.keep (kpAll (ext_new hT)) h2)))⟩
end
/-- as Post; the places of B may change -/
structure PX (K : PySem.W.Frag) (la : List Addr) (B : Addr → Prop) (env : Env) (σ : St) (H : Hp) (env' : Env) (σ' : St) (H' : Hp) : Prop where
  ext : ∀ a o, H a = some o → ¬ B a → ¬ Own la env σ a → H' a = some o
  rel : ERel K la env' σ' H'
  sub : ∀ p, Own la env' σ' p → Own la env σ p ∨ H p = none
section
variable {K : PySem.W.Frag} {la : List Addr} {B : Addr → Prop} {env env1 env2 : Env} {σ σ1 σ2 : St} {H H1 H2 : Hp}
theorem Post.px (p : Post K la env σ H env1 σ1 H1) : PX K la B env σ H env1 σ1 H1 := ⟨fun a o h _ n => p.ext a o h n, p.rel, p.sub⟩
theorem PX.post (p : PX K la B env σ H env1 σ1 H1) (h : ∀ a, B a → H a = none) : Post K la env σ H env1 σ1 H1 :=
  ⟨fun a o e n => p.ext a o e (fun b => by rw [h a b] at e; cases e) n, p.rel, p.sub⟩
theorem PX.trans (a : PX K la B env σ H env1 σ1 H1) (b : PX K la B env1 σ1 H1 env2 σ2 H2) (hB : ∀ p, B p → ¬ Own la env2 σ2 p ∨ H p = none) : PX K la B env σ H env2 σ2 H2 where
  ext := fun p o h nb n => b.ext p o (a.ext p o h nb n) nb fun q => by
    rcases a.sub p q with q | q
    · exact n q
    · rw [h] at q; cases q
  rel := b.rel
  sub := fun p q => by
    rcases b.sub p q with q' | q'
    · exact a.sub p q'
    · by_cases n : Own la env σ p
      · exact .inl n
      · by_cases nb : B p
        · rcases hB p nb with z | z
          · exact absurd q z
          · exact .inr z
        · cases e : H p with
          | none => exact .inr rfl
          | some o => rw [a.ext p o e nb n] at q'; cases q'
/-- the places of B are apart from what is walked -/
def Safe (la : List Addr) (env : Env) (σ : St) (H H' : Hp) (B : Addr → Prop) : Prop := ∀ a, B a → ((∃ o, H a = some o) ∧ ¬ Own la env σ a ∧ ∀ u, H' a = some u → Mut (some u)) ∨ H' a = none
theorem PX.kp {env0 : Env} {σ0 : St} {H0 : Hp} (r : ERel K la env σ H) (s : Safe la env0 σ0 H0 H B) (p : PX K la B env σ H env1 σ1 H1) : Kp H H1 := by
  have nb : ∀ {a : Addr} {u : HO}, H a = some u → ¬ Mut (some u) → ¬ B a := fun {a u} h m b => by
    rcases s a b with ⟨_, _, z⟩ | z
    · exact m (z u h)
    · rw [h] at z; cases z
  have no : ∀ {a : Addr} {u : HO}, H a = some u → ¬ Mut (some u) → ¬ Own la env σ a := fun {a u} h m o => by
    obtain ⟨w, h', m'⟩ := r.mut o
    rw [h] at h'; cases h'; exact m m'
  exact ⟨fun a xs h => p.ext a _ h (nb h fun m => m) (no h fun m => m), fun a ob u h => p.ext a _ h (nb h fun m => m) (no h fun m => m)⟩
end
def RlI (c : Cn) : Env → Hp → Env → Hp → St → L2.It → Src → Prop := fun env H env' H' σ J s => s.ds.length ≤ LINE ∧ stands s env' = true ∧
  ∃ G, WD c.K J s.ds G ∧ ∀ B, Safe c.la env σ H H' B → ∀ env2 σ2 H2, PX c.K c.la B env' σ H' env2 σ2 H2 → stands s env2 = true → G H2
/-- a walk's reading -/
abbrev tI (c : Cn) (W : WX) (f : Env → Out Src) : TI := tG c W (RlI c) f
section
variable {X : Cx} {c : Cn} {W : WX} {tg : Expr}
theorem pd_len {K : PySem.W.Frag} {H : Hp} {v : V} {ds : List D} (h : Pd K H v (.tuple ds)) : ds.length ≤ LINE := by
  cases h with
  | tup a b c => rw [← c.length, LINE_eq]; exact b
theorem pd_lenL {K : PySem.W.Frag} {H : Hp} {v : V} {ds : List D} (h : Pd K H v (.list ds)) : ds.length ≤ LINE := by
  cases h with
  | lst a b c => rw [← c.length, LINE_eq]; exact b
theorem stands0 {ds : List D} {env : Env} : stands ⟨ds, none⟩ env = true := rfl
theorem stands_l {ds xs : List D} {j : Nat} {env : Env} : stands ⟨ds, some (j, xs)⟩ env = true ↔ isLst xs env.le[j]? := by
  unfold stands
  exact @decide_eq_true_iff _ (Classical.propDecidable _)
/-- a list, by the list's rule, frozen where it is the frame's own -/
theorem seq_list {fe : Env → Out R} {env env1 : Env} {r : R} {s : Src} {env2 : Env} {σ : St} {H : Hp} {Rest : V → Addr → Hp → Prop} (p : Post c.K c.la env σ H env σ H) (ef : fe env = .ok r env1) (es : srcOf r env1 = .ok s env2) (nt : ∀ ds, r ≠ .v (.tuple ds))
    (n : ∀ v a H1, v = .ref a → Post c.K c.la env σ H env2 σ H1 → Fil env env2 → s.ds.length ≤ LINE → stands s env2 = true → (∃ xs, SqL c.K H1 a xs ∧ PdA c.K H1 xs s.ds) →
      (∀ B, Safe c.la env σ H H1 B → ∀ env3 σ3 H3, PX c.K c.la B env2 σ H1 env3 σ3 H3 → stands s env3 = true → ∃ xs, SqL c.K H3 a xs ∧ PdA c.K H3 xs s.ds) → Rest v a H1) :
    tFz (tE c W fe) σ H fun v H1 => ∃ a, v = .ref a ∧ Rest v a H1 := by
  refine ⟨env, p.rel, ?_⟩
  rw [ef]
  intro v H1 p1 f1 r1
  have keepL : ∀ {a : Addr} {ds : List D} {H1 : Hp}, ERel c.K c.la env2 σ H1 → Pd c.K H1 (.ref a) (.list ds) → (∃ xs, SqL c.K H1 a xs ∧ PdA c.K H1 xs ds) ∧
      ∀ B, Safe c.la env σ H H1 B → ∀ env3 σ3 H3, PX c.K c.la B env2 σ H1 env3 σ3 H3 → ∃ xs, SqL c.K H3 a xs ∧ PdA c.K H3 xs ds := fun {a ds H1} rel h => by
    have go : ∀ {H : Hp}, Pd c.K H (.ref a) (.list ds) → ∃ xs, SqL c.K H a xs ∧ PdA c.K H xs ds := fun {H} h => by
      cases h with
      | lst a b c => exact ⟨_, a.sq, c⟩
    exact ⟨go h, fun B hB env3 σ3 H3 p3 => go (Pd.keep (p3.kp rel hB) h)⟩
  cases r with
  | v d =>
    cases d with
    | list ds =>
      cases es
      have h := r1.1
      have h : Pd c.K H1 v (.list ds) := h
      have hl := pd_lenL h
      cases h with
      | @lst a xs _ h1 h2 h3 =>
        obtain ⟨k1, k2⟩ := keepL p1.rel (.lst h1 h2 h3)
        exact .inl ⟨a, rfl, n _ a H1 rfl p1 f1 hl rfl k1 fun B hB e3 s3 H3 p3 _ => k2 B hB e3 s3 H3 p3⟩
    | tuple ds => exact absurd rfl (nt ds)
    | _ => cases es
  | m x =>
    cases x with
    | lst ds =>
      cases es
      obtain ⟨⟨a, rfl, ⟨xs, h1, h2, h3⟩, no⟩, nw⟩ := r1
      have hl : ds.length ≤ LINE := by rw [← h3.length, LINE_eq]; exact h2
      refine .inl ⟨a, rfl, n _ a H1 rfl p1 f1 hl rfl ⟨xs, SqL.of h1, h3⟩ fun B hB e3 s3 H3 p3 _ => ⟨xs, SqL.of (p3.ext a _ h1 (fun b => ?_) no), h3.keep (p3.kp p1.rel hB)⟩⟩
      rcases hB a b with ⟨⟨o, z1⟩, z2, _⟩ | z
      · rcases nw _ _ rfl rfl with q | q
        · rw [q] at z1; cases z1
        · exact z2 q
      · rw [h1] at z; cases z
    | _ => cases es
  | a i =>
    obtain ⟨⟨⟨t, ht⟩, hv⟩, _⟩ := r1
    unfold srcOf at es
    dsimp only at es
    rw [ht] at es
    cases t with
    | m x =>
      cases x with
      | lst ds =>
        cases es
        obtain ⟨q, xs, e1, hp, ow, hh⟩ := p1.rel.frzS ht
        rw [hv] at e1
        cases e1
        refine .inr ⟨q, xs, rfl, hp, fun o => ?_⟩
        obtain ⟨k1, k2⟩ := keepL (hh o).1 (hh o).2
        refine ⟨q, rfl, n _ q _ rfl ⟨fun a ob h n2 => ?_, (hh o).1, fun a o => p1.sub a (own_setv ht o)⟩ (f1.trans (fil_set ht)) (pd_lenL (hh o).2) rfl k1 fun B hB e3 s3 H3 p3 _ => k2 B hB e3 s3 H3 p3⟩
        rw [upd_ne]
        · exact p1.ext a ob h n2
        · rintro rfl
          rcases p1.sub _ ow with z | z
          · exact n2 z
          · rw [h] at z; cases z
      | _ => cases es
    | l j =>
      dsimp only at es
      split at es
      · rename_i ds ej
        cases es
        obtain ⟨v', e1, q, e3, rfl⟩ := p1.rel.at_ i _ ht
        rw [hv] at e1
        cases e1
        obtain ⟨q', e4, xs, h1, h2, h3⟩ := p1.rel.lent j _ ej
        rw [e3] at e4
        cases e4
        have hl : ds.length ≤ LINE := by rw [← h3.length, LINE_eq]; exact h2
        refine .inl ⟨q, rfl, n _ q H1 rfl p1 f1 hl ?_ ⟨xs, SqL.of h1, h3⟩ fun B hB e3' s3 H3 p3 st => ?_⟩
        · refine stands_l.mpr ?_
          rw [ej]
          exact rfl
        · have st : isLst ds e3'.le[j]? := stands_l.mp st
          cases e5 : e3'.le[j]? with
          | none => rw [e5] at st; exact st.elim
          | some y =>
            rw [e5] at st
            cases y with
            | lst ys =>
              have st : ys = ds := st
              subst st
              obtain ⟨q', e6, xs', g1, g2, g3⟩ := p3.rel.lent j _ e5
              rw [e3] at e6
              cases e6
              exact ⟨xs', SqL.of g1, g3⟩
            | _ => exact st.elim
      · cases es
    | _ => cases es
theorem i_seq {e : Expr} {fe : Env → Out R} (hK : X.K = c.K) (he : PE X e (tE c W fe)) : PI X tg e (tI c W fun env => (fe env).bind srcOf) := by
  refine ⟨fun pins s σ H R I h => ?_⟩
  obtain ⟨env, p, fl, h⟩ := start_ h
  cases ef : fe env with
  | ok r env1 =>
    rw [ef] at h
    have h : Fin c W (RlI c) env H σ R (srcOf r env1) := h
    cases es : srcOf r env1 with
    | ok sr env2 =>
      rw [es] at h
      by_cases nt : ∃ ds, r = .v (.tuple ds)
      · obtain ⟨ds, rfl⟩ := nt
        cases es
        refine (pi_tup he).run pins s σ H R I ⟨env, p.rel, ?_⟩
        rw [ef]
        intro v H1 p1 f1 r1
        have hp := r1.1
        have hp : Pd c.K H1 v (.tuple ds) := hp
        have hl := pd_len hp
        have go : ∀ {a : Addr} {H : Hp}, Pd c.K H (.ref a) (.tuple ds) → ∃ xs, SqT c.K H a xs ∧ PdA c.K H xs ds := fun {a H} h => by
          cases h with
          | tup a b c => exact ⟨_, a, c⟩
        obtain ⟨a, rfl⟩ : ∃ a, v = .ref a := by cases hp; exact ⟨_, rfl⟩
        obtain ⟨xs, g1, g2⟩ := go hp
        rw [hK]
        exact ⟨a, rfl, ⟨xs, g1⟩, h _ H1 p1 f1 ⟨hl, rfl, _, wd_tup, fun B hB e3 s3 H3 p3 _ => go (Pd.keep (p3.kp p1.rel hB) hp)⟩⟩
      · refine (pi_list (pe_fz he)).run pins s σ H R I ?_
        have h' := seq_list (c := c) (W := W) (Rest := fun v a H1 => (∃ xs, SqL X.K H1 a xs) ∧ R (Itl X.K a) H1) p ef es (fun ds e => nt ⟨ds, e⟩) fun v a H1 ev pp ff hl hs ⟨xs, k1, k2⟩ k3 => by
          rw [hK]
          exact ⟨⟨xs, k1⟩, h _ H1 pp ff ⟨hl, hs, _, wd_list, k3⟩⟩
        exact h'
    | exc k d e =>
      cases r with
      | v d => cases d <;> cases es
      | m d => cases d <;> cases es
      | a i =>
        unfold srcOf at es
        dsimp only at es
        split at es
        · cases es
        · split at es <;> cases es
        · cases es
    | no => rw [es] at h; exact h.elim
  | exc k d e =>
    rw [ef] at h
    exact (pi_list he).run pins s σ H R I ⟨env, p.rel, by rw [ef]; exact h⟩
  | no => rw [ef] at h; exact h.elim
end
end Di
namespace Di
open PySem PySem.Spec PyProof.Rows L2
section
variable {X : Cx} {c : Cn} {W : WX} {tg : Expr}
theorem rl_range {env : Env} {H : Hp} {env' : Env} {H' : Hp} {σ : St} {lo : Int} {n : Nat} (hz : n ≤ LINE) : RlI c env H env' H' σ (Itr lo n) ⟨rangeD lo n, none⟩ :=
  ⟨by rw [rangeD_len]; exact hz, rfl, _, wd_range, fun _ _ _ _ _ _ _ => trivial⟩
theorem i_rng1 {a : Expr} {p pos : Pos} {fa : Env → Out R} (hg : Gl X "range") (hm : X.mg "range" = none) (ha : PE X a (tE c W fa)) (hs : noStar a = true) :
    PI X tg (.Call (.Name "range" p) [a] [] pos) (tI c W fun env => (fa env).bind rng1D) := by
  have h0 := pi_range1 (tg := tg) (p := p) (pos := pos) hg hm (pa_cons ha pa_nil (star_of hs)) (star_of hs)
  refine ⟨fun pins s σ H R I h => h0.run pins s σ H R I ?_⟩
  obtain ⟨env, p, fl, h⟩ := start_ h
  refine step p fl h fun r env1 v H1 p1 f1 r1 h1 => ?_
  have h1 : Fin c W (RlI c) env H σ R (rng1D r env1) := h1
  unfold rng1D at h1
  split at h1
  · rename_i n _
    split at h1
    · rename_i hn
      have e : Pd c.K H1 v (.int n) := r1.1
      cases e
      have z : LINE = 16777216 := rfl
      refine ⟨n, rfl, by omega, by omega, h1 _ H1 (p.trans p1) (fl.trans f1) (rl_range (by omega))⟩
    · exact h1.elim
  · exact h1.elim
theorem i_rng2 {a b : Expr} {p pos : Pos} {fa fb : Env → Out R} (hg : Gl X "range") (hm : X.mg "range" = none) (ha : PE X a (tE c W fa)) (hb : PE X b (tE c W fb)) (hs : noStar a = true) (hs2 : noStar b = true) :
    PI X tg (.Call (.Name "range" p) [a, b] [] pos) (tI c W fun env => (fa env).bind fun r env => (fb env).bind fun r2 env => rng2D r r2 env) := by
  have h0 := pi_range2 (tg := tg) (p := p) (pos := pos) hg hm (pa_cons ha (pa_cons hb pa_nil (star_of hs2)) (star_of hs)) (by rw [star_of hs, star_of hs2]; rfl) (star_of hs2)
  refine ⟨fun pins s σ H R I h => h0.run pins s σ H R I ?_⟩
  obtain ⟨env, p, fl, h⟩ := start_ h
  refine step p fl h fun r env1 v H1 p1 f1 r1 h1 => ?_
  refine step (p.trans p1) (fl.trans f1) h1 fun r2 env2 u H2 p2 f2 q2 h2 => ?_
  have h2 : Fin c W (RlI c) env H σ R (rng2D r r2 env2) := h2
  unfold rng2D at h2
  split at h2
  · rename_i lo hi _
    split at h2
    · rename_i hn
      have e : Pd c.K H1 v (.int lo) := r1.1
      cases e
      have e : Pd c.K H2 u (.int hi) := q2.1
      cases e
      have z : LINE = 16777216 := rfl
      refine ⟨lo, hi, rfl, ⟨by omega, by omega, by omega, by omega⟩, h2 _ H2 ((p.trans p1).trans p2) ((fl.trans f1).trans f2) (rl_range (by omega))⟩
    · exact h2.elim
  · exact h2.elim
theorem srcOf_exc {r : R} {env : Env} {k : Nat} {d : Option D} {e : Env} (es : srcOf r env = .exc k d e) : False := by
  cases r with
  | v d => cases d <;> cases es
  | m d => cases d <;> cases es
  | a i =>
    unfold srcOf at es
    dsimp only at es
    split at es
    · cases es
    · split at es <;> cases es
    · cases es
theorem srcLst_eq {r : R} {env : Env} {s : Src} {e : Env} (h : srcLst r env = .ok s e) : srcOf r env = .ok s e ∧ ∀ ds, r ≠ .v (.tuple ds) := by
  unfold srcLst at h
  split at h
  · cases h
  · rename_i n
    exact ⟨h, n⟩
theorem srcLst_exc {r : R} {env : Env} {k : Nat} {d : Option D} {e : Env} (h : srcLst r env = .exc k d e) : False := by
  unfold srcLst at h
  split at h
  · cases h
  · exact srcOf_exc h
theorem i_enum {e : Expr} {elts : List Expr} {kk : Nat} {tpos p pos : Pos} {fe : Env → Out R} (hK : X.K = c.K) (hg : Gl X "enumerate") (hm : X.mg "enumerate" = none) (he : PE X e (tE c W fe)) (hs : noStar e = true) :
    PI X (.Tuple elts kk tpos) (.Call (.Name "enumerate" p) [e] [] pos) (tI c W fun env => (fe env).bind fun r env => (srcLst r env).bind enumI) := by
  have h0 := pi_enum (elts := elts) (kk := kk) (tpos := tpos) (p := p) (pos := pos) hg hm (pa_cons (pe_fz he) pa_nil (star_of hs)) (star_of hs)
  refine ⟨fun pins s σ H R I h => h0.run pins s σ H R I ?_⟩
  obtain ⟨env, p, fl, h⟩ := start_ h
  cases ef : fe env with
  | ok r env1 =>
    rw [ef] at h
    have h : Fin c W (RlI c) env H σ R ((srcLst r env1).bind enumI) := h
    cases es : srcLst r env1 with
    | ok sr env2 =>
      rw [es] at h
      obtain ⟨es', nt⟩ := srcLst_eq es
      have h' := seq_list (c := c) (W := W) (Rest := fun v a H1 => (∃ xs, SqL X.K H1 a xs) ∧ R (Ite X.K a) H1) p ef es' nt fun v a H1 ev pp ff hl hs ⟨xs, k1, k2⟩ k3 => by
        rw [hK]
        exact ⟨⟨xs, k1⟩, h _ H1 pp ff ⟨by rw [enumD_len]; exact hl, hs, _, wd_enum, k3⟩⟩
      have go : ∀ {t : TE} {Rest : V → Addr → Hp → Prop} {Q : List V → Hp → Prop}, (t σ H fun v H1 => ∃ a, v = .ref a ∧ Rest v a H1) → (∀ t' : VK, True) → (t σ H fun v H1 => ∃ a, v = .ref a ∧ Rest v a H1) := fun h _ => h
      obtain ⟨env', r', h'⟩ := h'
      refine ⟨env', r', ?_⟩
      cases ef' : fe env' with
      | ok r1 e1 =>
        rw [ef'] at h'
        intro v H1 p1 f1 q1
        rcases h' v H1 p1 f1 q1 with ⟨a, e, ⟨xs, k⟩, z⟩ | ⟨p, xs, e, hp, z⟩
        · exact .inl ⟨a, xs, by rw [e], k, z⟩
        · refine .inr ⟨p, xs, e, hp, fun o => ?_⟩
          obtain ⟨a, e, ⟨xs, k⟩, z⟩ := z o
          exact ⟨a, xs, by rw [e], k, z⟩
      | exc k d e => rw [ef'] at h'; exact h'
      | no => rw [ef'] at h'; exact h'
    | exc k d e => exact (srcLst_exc es).elim
    | no => rw [es] at h; exact h.elim
  | exc k d e =>
    rw [ef] at h
    exact ⟨env, p.rel, by rw [ef]; exact h⟩
  | no => rw [ef] at h; exact h.elim
end
end Di
namespace Di
open PySem PySem.Spec PyProof.Rows L2
/-! ### setting slots -/
theorem slot_lt {env : Env} {i : Nat} {s : Sl} (h : slot env i = some s) : i < env.sl.length := by
  unfold slot at h
  cases e : env.sl[i]? with
  | none => rw [e] at h; cases h
  | some u => exact (List.getElem?_eq_some_iff.mp e).1
theorem slot_set {env : Env} {i j : Nat} {s : Sl} : slot (setS env i s) j = if j = i then (if i < env.sl.length then some s else none) else slot env j := by
  by_cases h : j = i
  · subst h
    rw [if_pos rfl]
    unfold slot setS
    by_cases hl : j < env.sl.length
    · simp [hl]
    · rw [if_neg hl]
      simp [List.getElem?_set, hl]
  · rw [if_neg h]
    exact slot_set_ne h
section
variable {K : PySem.W.Frag} {la : List Addr} {env env' envN : Env} {σ σ' : St} {H H' HN : Hp}
theorem setv_m {i j : Nat} {d : D} {x : M} (h : slot (setS env i (.v d)) j = some (.m x)) : slot env j = some (.m x) ∧ j ≠ i := by
  rw [slot_set] at h
  split at h
  · split at h <;> cases h
  · rename_i n
    exact ⟨h, n⟩
theorem post_setv {i : Nat} {d : D} {v : V} (rel : ERel K la env σ H) (hv : Pd K H v d) : Post K la env σ H (setS env i (.v d)) (σ.set i (some v)) H := by
  have get : ∀ {j : Nat} {u : V}, j ≠ i → (σ.set i (some v))[j]? = some (some u) → σ[j]? = some (some u) := fun {j u} n e => by
    rw [List.getElem?_set_ne (Ne.symm n)] at e
    exact e
  refine ⟨fun _ _ h _ => h, ⟨by simp [setS, rel.len], fun j s e => ?_, rel.lent, rel.ll, fun j k x y p hx hy e1 e2 => ?_, fun j x p hx e1 => ?_, rel.nd⟩, fun p o => ?_⟩
  · rw [slot_set] at e
    split at e
    · rename_i hj
      subst hj
      split at e
      · rename_i hl
        cases e
        exact ⟨v, by rw [List.getElem?_set_self (by rw [← rel.len]; exact hl)], hv⟩
      · cases e
    · rename_i hj
      obtain ⟨u, e1, e2⟩ := rel.at_ j s e
      exact ⟨u, by rw [List.getElem?_set_ne (Ne.symm hj)]; exact e1, e2⟩
  · obtain ⟨hx, n1⟩ := setv_m hx
    obtain ⟨hy, n2⟩ := setv_m hy
    exact rel.apart j k x y p hx hy (get n1 e1) (get n2 e2)
  · obtain ⟨hx, n1⟩ := setv_m hx
    exact rel.out j x p hx (get n1 e1)
  · rcases o with ⟨j, x, hx, e1⟩ | o
    · obtain ⟨hx, n1⟩ := setv_m hx
      exact .inl (.inl ⟨j, x, hx, get n1 e1⟩)
    · exact .inl (.inr o)
theorem fil_setS {i : Nat} {s : Sl} : Fil env (setS env i s) := fun j t e => by
  rw [slot_set]
  split
  · rename_i hj
    subst hj
    rw [if_pos (slot_lt e)]
    exact ⟨s, rfl⟩
  · exact ⟨t, e⟩
/-! ### targets -/
def tgIx : Tg → List Nat
  | .n i => [i]
  | .t is => is
def gNames : List Nat → TGs
  | [] => gNil
  | i :: is => gCons (gName i) (gNames is)
def gRead (K : PySem.W.Frag) : Tg → TG
  | .n i => gName i
  | .t is => gTup K is.length (gNames is)
def setAllV : List Nat → List V → St → St
  | i :: is, v :: vs, σ => setAllV is vs (σ.set i (some v))
  | _, _, σ => σ
theorem names_ok : ∀ {is : List Nat} {vs : List V} {ds : List D} {σ : St} {env : Env} {Q : St → Hp → Prop}, vs.length = is.length → PdA K H vs ds → ERel K la env σ H →
    (Post K la env σ H (setAll is ds env) (setAllV is vs σ) H → Fil env (setAll is ds env) → Q (setAllV is vs σ) H) → gNames is vs σ H Q
  | [], [], _, σ, env, Q, _, .nil, rel, q => ⟨rfl, q (.refl rel) (.refl env)⟩
  | i :: is, v :: vs, _, σ, env, Q, hl, .cons hv hr, rel, q => by
    refine ⟨v, vs, rfl, ?_⟩
    have p := post_setv (i := i) rel hv
    exact names_ok (is := is) (env := setS env i (.v _)) (by simpa using hl) hr p.rel fun p2 f2 => q (p.trans p2) (fil_setS.trans f2)
theorem wipe_at : ∀ {vs : List Nat} {σ : St} {j : Nat}, j ∉ vs → (wipe σ vs)[j]? = σ[j]?
  | [], _, _, _ => rfl
  | v :: vs, σ, j, h => by
    unfold wipe
    rw [List.getElem?_set_ne (fun e => h (by rw [e]; exact List.mem_cons_self ..))]
    exact wipe_at fun m => h (List.mem_cons_of_mem _ m)
theorem wipe_none : ∀ {vs : List Nat} {σ : St} {j : Nat}, j ∈ vs → ∀ {v : V}, (wipe σ vs)[j]? ≠ some (some v) := fun {vs σ j} h {v} e => (wipe_some e).2 h
theorem wipe_ext {vs : List Nat} {σ τ : St} (hl : σ.length = τ.length) (h : ∀ j, j ∉ vs → σ[j]? = τ[j]?) : wipe σ vs = wipe τ vs := by
  have go : ∀ {vs : List Nat} {σ : St} {j : Nat}, j ∈ vs → j < σ.length → (wipe σ vs)[j]? = some none := fun {vs σ j} => by
    induction vs with
    | nil => intro h; simp at h
    | cons v vs ih =>
      intro h hj
      unfold wipe
      by_cases e : v = j
      · subst e
        rw [List.getElem?_set_self (by rw [wipe_length]; exact hj)]
      · rw [List.getElem?_set_ne e]
        rcases List.mem_cons.mp h with h | h
        · exact absurd h.symm e
        · exact ih h hj
  apply List.ext_getElem?
  intro j
  by_cases hj : j ∈ vs
  · by_cases hl2 : j < σ.length
    · rw [go hj hl2, go hj (hl ▸ hl2)]
    · rw [List.getElem?_eq_none (by rw [wipe_length]; omega), List.getElem?_eq_none (by rw [wipe_length]; omega)]
  · rw [wipe_at hj, wipe_at hj, h j hj]
theorem setAllV_len : ∀ {is : List Nat} {vs : List V} {σ : St}, (setAllV is vs σ).length = σ.length
  | [], _, _ => rfl
  | _ :: _, [], _ => rfl
  | i :: is, v :: vs, σ => by
    unfold setAllV
    rw [setAllV_len, List.length_set]
theorem setAllV_at : ∀ {is : List Nat} {vs : List V} {σ : St} {j : Nat}, j ∉ is → (setAllV is vs σ)[j]? = σ[j]?
  | [], _, _, _, _ => rfl
  | _ :: _, [], _, _, _ => rfl
  | i :: is, v :: vs, σ, j, h => by
    unfold setAllV
    rw [setAllV_at fun m => h (List.mem_cons_of_mem _ m), List.getElem?_set_ne (fun e => h (by rw [e]; exact List.mem_cons_self ..))]
theorem bind_ok {tg : Tg} {d : D} {x : V} {Q : St → Hp → Prop} (rel : ERel K la env σ H) (hd : Pd K H x d) (e : bindT tg d env = some env')
    (q : ∀ σ', Post K la env σ H env' σ' H → Fil env env' → (∀ vs : List Nat, (∀ i ∈ tgIx tg, i ∈ vs) → wipe σ' vs = wipe σ vs) → Q σ' H) : gRead K tg x σ H Q := by
  cases tg with
  | n i =>
    cases e
    refine q _ (post_setv rel hd) fil_setS fun vs h => wipe_ext (by simp) fun j hj => ?_
    rw [List.getElem?_set_ne (fun e => hj (by rw [← e]; exact h i (by simp [tgIx])))]
  | t is =>
    cases d with
    | tuple ds =>
      unfold bindT at e
      dsimp only at e
      split at e
      · rename_i hl
        cases e
        cases hd with
        | tup h1 h2 h3 =>
          refine ⟨_, _, rfl, h1, by rw [h3.length]; exact hl, names_ok (by rw [h3.length]; exact hl) h3 rel fun p f => q _ p f fun vs h => wipe_ext setAllV_len fun j hj => setAllV_at fun m => hj (h j m)⟩
      · cases e
    | _ => cases e
/-! ### wiping -/
theorem slot_j {env : Env} {i : Nat} : slot env i = (env.sl[i]?).join := by
  unfold slot
  cases env.sl[i]? with
  | none => rfl
  | some s => cases s <;> rfl
theorem slot_wipe : ∀ {own : List Nat} {j : Nat}, slot (wipeE env own) j = if j ∈ own then none else slot env j
  | [], j => by simp [wipeE]
  | i :: is, j => by
    have ih := slot_wipe (own := is) (j := j)
    rw [slot_j] at ih ⊢
    unfold wipeE
    by_cases h : j = i
    · subst h
      rw [if_pos (List.mem_cons_self ..)]
      show (((wipeE env is).sl.set j none)[j]?).join = none
      rw [List.getElem?_set]
      simp only [if_true]
      split <;> rfl
    · show (((wipeE env is).sl.set i none)[j]?).join = _
      rw [List.getElem?_set_ne (Ne.symm h), ih]
      by_cases hm : j ∈ is
      · rw [if_pos hm, if_pos (List.mem_cons_of_mem _ hm)]
      · rw [if_neg hm, if_neg (by simp [h, hm])]
theorem wipeE_le : ∀ {own : List Nat}, (wipeE env own).le = env.le
  | [] => rfl
  | i :: is => rfl
theorem wipeE_len : ∀ {own : List Nat}, (wipeE env own).sl.length = env.sl.length
  | [] => rfl
  | i :: is => by
    unfold wipeE
    rw [List.length_set, wipeE_len]
theorem own_wipe {own : List Nat} {p : Addr} (o : Own la (wipeE env own) (wipe σ own) p) : Own la env σ p := by
  rcases o with ⟨i, x, h, e⟩ | o
  · rw [slot_wipe] at h
    split at h
    · cases h
    · exact .inl ⟨i, x, h, (wipe_some e).1⟩
  · exact .inr o
theorem post_wipe {own : List Nat} (rel : ERel K la env σ H) : Post K la env σ H (wipeE env own) (wipe σ own) H := by
  have sl : ∀ {j : Nat} {s : Sl}, slot (wipeE env own) j = some s → slot env j = some s ∧ j ∉ own := fun {j s} h => by
    rw [slot_wipe] at h
    split at h
    · cases h
    · rename_i n; exact ⟨h, n⟩
  refine ⟨fun _ _ h _ => h, ⟨by rw [wipeE_len, wipe_length]; exact rel.len, fun j s e => ?_, by rw [wipeE_le]; exact rel.lent, by rw [wipeE_le]; exact rel.ll, fun i j x y p hx hy e1 e2 => ?_, fun i x p hx e => ?_, rel.nd⟩, fun p o => .inl (own_wipe o)⟩
  · obtain ⟨h, n⟩ := sl e
    obtain ⟨v, e1, e2⟩ := rel.at_ j s h
    exact ⟨v, by rw [wipe_at n]; exact e1, e2⟩
  · exact rel.apart i j x y p (sl hx).1 (sl hy).1 (wipe_some e1).1 (wipe_some e2).1
  · exact rel.out i x p (sl hx).1 (wipe_some e).1
theorem unwipe_le : ∀ {own : List Nat}, (unwipe env envN own).le = envN.le
  | [] => rfl
  | i :: is => by
    unfold unwipe
    split
    · rfl
    · exact unwipe_le
theorem unwipe_len : ∀ {own : List Nat}, (unwipe env envN own).sl.length = envN.sl.length
  | [] => rfl
  | i :: is => by
    unfold unwipe
    split
    · rw [List.length_set, unwipe_len]
    · exact unwipe_len
theorem slot_unwipe (hl : envN.sl.length = env.sl.length) : ∀ {own : List Nat} {j : Nat}, slot (unwipe env envN own) j = if j ∈ own then slot env j else slot envN j
  | [], j => by simp [unwipe]
  | i :: is, j => by
    have ih := slot_unwipe hl (own := is) (j := j)
    unfold unwipe
    split
    · rename_i s e
      by_cases h : j = i
      · subst h
        rw [if_pos (List.mem_cons_self ..), slot_j, slot_j]
        show (((unwipe env envN is).sl.set j s)[j]?).join = _
        have hj : j < (unwipe env envN is).sl.length := by
          rw [unwipe_len, hl]
          exact (List.getElem?_eq_some_iff.mp e).1
        rw [List.getElem?_set_self hj, e]
      · have e2 : slot ⟨(unwipe env envN is).sl.set i s, envN.le⟩ j = slot (unwipe env envN is) j := by
          rw [slot_j, slot_j]
          show (((unwipe env envN is).sl.set i s)[j]?).join = _
          rw [List.getElem?_set_ne (Ne.symm h)]
        rw [e2, ih]
        by_cases hm : j ∈ is
        · rw [if_pos hm, if_pos (List.mem_cons_of_mem _ hm)]
        · rw [if_neg hm, if_neg (by simp [h, hm])]
    · rename_i e
      rw [ih]
      by_cases h : j = i
      · subst h
        have : slot env j = none := by rw [slot_j, e]; rfl
        rw [if_pos (List.mem_cons_self ..), this]
        split
        · rfl
        · rw [slot_j, List.getElem?_eq_none (by rw [hl]; exact List.getElem?_eq_none_iff.mp e)]
          rfl
      · by_cases hm : j ∈ is
        · rw [if_pos hm, if_pos (List.mem_cons_of_mem _ hm)]
        · rw [if_neg hm, if_neg (by simp [h, hm])]
theorem unwipe_ok {own : List Nat} (rel : ERel K la env σ H) (P : Post K la (wipeE env own) (wipe σ own) H envN (wipe σ own) HN) (fl : Fil (wipeE env own) envN) :
    Post K la env σ H (unwipe env envN own) σ HN ∧ Fil env (unwipe env envN own) ∧ ∀ p, Own la (unwipe env envN own) σ p → (∃ i x, slot env i = some (.m x) ∧ σ[i]? = some (some (.ref p))) ∨ Own la envN (wipe σ own) p := by
  have hl : envN.sl.length = env.sl.length := by rw [P.rel.len, wipe_length, rel.len]
  have relw := (post_wipe (own := own) rel).rel
  have k : Kp H HN := relw.kp P.ext
  have cs : ∀ {j : Nat} {s : Sl}, slot (unwipe env envN own) j = some s → (j ∈ own ∧ slot env j = some s) ∨ (j ∉ own ∧ slot envN j = some s) := fun {j s} h => by
    rw [slot_unwipe hl] at h
    split at h
    · rename_i m; exact .inl ⟨m, h⟩
    · rename_i m; exact .inr ⟨m, h⟩
  have far : ∀ {i : Nat} {x : M} {p : Addr}, i ∈ own → slot env i = some (.m x) → σ[i]? = some (some (.ref p)) → ¬ Own la (wipeE env own) (wipe σ own) p := fun {i x p} hi hx e o => by
    rcases o with ⟨j, y, hy, e2⟩ | o
    · rw [slot_wipe] at hy
      split at hy
      · cases hy
      · rename_i n
        have := rel.apart i j x y p hx hy e (wipe_some e2).1
        exact n (this ▸ hi)
    · exact rel.out i x p hx e o
  have up : ∀ {i : Nat} {v : V}, i ∉ own → σ[i]? = some (some v) → (wipe σ own)[i]? = some (some v) := fun {i v} n e => by rw [wipe_at n]; exact e
  have owns : ∀ p, Own la (unwipe env envN own) σ p → (∃ i x, slot env i = some (.m x) ∧ σ[i]? = some (some (.ref p))) ∨ Own la envN (wipe σ own) p := fun p o => by
    rcases o with ⟨i, x, h, e⟩ | o
    · rcases cs h with ⟨_, h⟩ | ⟨n, h⟩
      · exact .inl ⟨i, x, h, e⟩
      · exact .inr (.inl ⟨i, x, h, up n e⟩)
    · exact .inr (.inr o)
  refine ⟨⟨fun a o h n => P.ext a o h fun q => n (own_wipe q), ⟨by rw [unwipe_len, hl]; exact rel.len, fun j s e => ?_, by rw [unwipe_le]; exact P.rel.lent, by rw [unwipe_le]; exact P.rel.ll, fun i j x y p hx hy e1 e2 => ?_, fun i x p hx e => ?_, rel.nd⟩, fun p o => ?_⟩, fun j s e => ?_, owns⟩
  · rcases cs e with ⟨m, h⟩ | ⟨n, h⟩
    · obtain ⟨v, e1, e2⟩ := rel.at_ j s h
      refine ⟨v, e1, ?_⟩
      cases s with
      | v d => exact Pd.keep k e2
      | m x =>
        obtain ⟨p, rfl, mo⟩ := e2
        exact ⟨p, rfl, mo.keep k fun o ho => P.ext p o ho (far m h e1)⟩
      | l j => exact e2
      | e d => exact e2
    · obtain ⟨v, e1, e2⟩ := P.rel.at_ j s h
      exact ⟨v, (wipe_some e1).1, e2⟩
  · have mix : ∀ {i j : Nat} {x y : M}, i ∈ own → slot env i = some (.m x) → σ[i]? = some (some (.ref p)) → j ∉ own → slot envN j = some (.m y) → σ[j]? = some (some (.ref p)) → False := fun {i j x y} hi hx e hj hy e2 => by
      rcases P.sub p (.inl ⟨j, y, hy, up hj e2⟩) with o | o
      · exact far hi hx e o
      · obtain ⟨v, e3, q, e4, mo⟩ := rel.at_ i _ hx
        rw [e] at e3
        cases e3
        cases e4
        obtain ⟨u, hu, _⟩ := mo.mut
        rw [o] at hu; cases hu
    rcases cs hx with ⟨hi, hx⟩ | ⟨hi, hx⟩
    · rcases cs hy with ⟨hj, hy⟩ | ⟨hj, hy⟩
      · exact rel.apart i j x y p hx hy e1 e2
      · exact (mix hi hx e1 hj hy e2).elim
    · rcases cs hy with ⟨hj, hy⟩ | ⟨hj, hy⟩
      · exact (mix hj hy e2 hi hx e1).elim
      · exact P.rel.apart i j x y p hx hy (up hi e1) (up hj e2)
  · rcases cs hx with ⟨hi, hx⟩ | ⟨hi, hx⟩
    · exact rel.out i x p hx e
    · exact P.rel.out i x p hx (up hi e)
  · rcases owns p o with ⟨i, x, h, e⟩ | o
    · exact .inl (.inl ⟨i, x, h, e⟩)
    · rcases P.sub p o with o | o
      · exact .inl (own_wipe o)
      · exact .inr o
  · rw [slot_unwipe hl]
    split
    · exact ⟨s, e⟩
    · rename_i n
      exact fl j s (by rw [slot_wipe, if_neg n]; exact e)
theorem wipe_idem {own : List Nat} : wipe (wipe σ own) own = wipe σ own := wipe_ext (wipe_length σ own) fun j hj => wipe_at hj
end
end Di
namespace Di
open PySem PySem.Spec PyProof.Rows L2
theorem stands_le {s : Src} {env env' : Env} (h : env.le = env'.le) : stands s env = stands s env' := by
  unfold stands
  rw [h]
/-- slots other than these stay filled -/
def FilX (own : List Nat) (env env' : Env) : Prop := ∀ j s, j ∉ own → slot env j = some s → ∃ s', slot env' j = some s'
theorem Fil.x {own : List Nat} {env env' : Env} (h : Fil env env') : FilX own env env' := fun j s _ e => h j s e
/-- one turn of a comprehension that fills the list at p -/
structure TurnOk (c : Cn) (own : List Nat) (TB : St → Hp → (Hp → Prop) → Prop) (turn : Env → Out (List D)) (p : Addr) : Prop where
  run : ∀ (env : Env) (σ : St) (H : Hp) (acc ys : List D) (env' : Env) (Nx : Hp → Prop), ERel c.K c.la env σ H → MOk c.K H p (.lst acc) → ¬ Own c.la env σ p → turn env = .ok ys env' → acc.length + ys.length ≤ LINE →
    (∀ H', PX c.K c.la (· = p) env σ H env' σ H' → FilX own env env' → MOk c.K H' p (.lst (acc ++ ys)) → Nx H') → TB σ H Nx
section
variable {c : Cn} {W : WX}
theorem bind_okE {α β : Type} {o : Out α} {f : α → Env → Out β} {b : β} {e' : Env} (h : o.bind f = .ok b e') : ∃ a e, o = .ok a e ∧ f a e = .ok b e' := by
  cases o with
  | ok a e => exact ⟨a, e, rfl, h⟩
  | exc k d e => cases h
  | no => cases h
theorem loopC_cons {g : Tg} {own : List Nat} {chk : Env → Bool} {turn : Env → Out (List D)} {d : D} {ds ys : List D} {env envN : Env} (h : loopC g own chk turn (d :: ds) env = .ok ys envN) :
    ∃ envb y1 env' rest, bindT g d env = some envb ∧ turn envb = .ok y1 env' ∧ chk env' = true ∧ loopC g own chk turn ds (wipeE env' own) = .ok rest envN ∧ ys = y1 ++ rest := by
  unfold loopC at h
  split at h
  · cases h
  · rename_i envb eb
    obtain ⟨y1, env', e1, h⟩ := bind_okE h
    split at h
    · rename_i hc
      obtain ⟨rest, e, e2, h⟩ := bind_okE h
      cases h
      exact ⟨envb, y1, env', rest, eb, e1, hc, e2, rfl⟩
    · cases h
theorem not_own {K : PySem.W.Frag} {la : List Addr} {B : Addr → Prop} {env env' : Env} {σ σ' : St} {H H' : Hp} {p : Addr} {x : M} (P : PX K la B env σ H env' σ' H') (n : ¬ Own la env σ p) (m : MOk K H p x) : ¬ Own la env' σ' p := fun o => by
  rcases P.sub p o with o | o
  · exact n o
  · obtain ⟨u, hu, _⟩ := m.mut
    rw [o] at hu; cases hu
theorem loop_ok {TB : St → Hp → (Hp → Prop) → Prop} {turn : Env → Out (List D)} {J : L2.It} {G : Hp → Prop} {tg : Tg} {own : List Nat} {s : Src} {envI envN : Env} {σ : St} {HI H0 : Hp} {p : Addr} {acc0 ys : List D} {Nx : Hp → Prop}
    (tb : TurnOk c own TB turn p) (ht : ∀ i ∈ tgIx tg, i ∈ own) (wd : WD c.K J s.ds G) (hG : ∀ env2 σ2 H2, PX c.K c.la (· = p) envI σ HI env2 σ2 H2 → stands s env2 = true → G H2) (hs0 : stands s envI = true)
    (p0 : PX c.K c.la (· = p) envI σ HI envI σ H0) (hD : MOk c.K H0 p (.lst acc0)) (nD : ¬ Own c.la envI σ p)
    (e : loopC tg own (stands s) turn s.ds (wipeE envI own) = .ok ys envN) (hz : acc0.length + ys.length ≤ LINE)
    (n : ∀ H', PX c.K c.la (· = p) (wipeE envI own) (wipe σ own) H0 envN (wipe σ own) H' → Fil (wipeE envI own) envN → MOk c.K H' p (.lst (acc0 ++ ys)) → ¬ Own c.la envN (wipe σ own) p → Nx H') :
    ∃ Wf : Nat → Nat → Hp → Prop, (∃ m, Wf 0 m H0) ∧ ∀ i m H, Wf i m H → (J.stop i H ∧ Nx H) ∨ (J.go i H ∧ ∃ Nx' : Hp → Prop, (∀ H', Nx' H' → ∃ m', m' < m ∧ Wf (i + 1) m' H') ∧
      ∀ x H', J.yld i H x H' → gRead c.K tg x (wipe σ own) H' fun σ2 H2 => wipe σ2 own = wipe σ own ∧ TB σ2 H2 Nx') := by
  let P := fun (i : Nat) (H : Hp) => i ≤ s.ds.length ∧ ∃ acc rest env, PX c.K c.la (· = p) (wipeE envI own) (wipe σ own) H0 env (wipe σ own) H ∧ Fil (wipeE envI own) env ∧ stands s env = true ∧ MOk c.K H p (.lst acc) ∧ ¬ Own c.la env (wipe σ own) p ∧
    loopC tg own (stands s) turn (s.ds.drop i) env = .ok rest envN ∧ acc ++ rest = acc0 ++ ys
  have hw := post_wipe (own := own) p0.rel
  have nw : ¬ Own c.la (wipeE envI own) (wipe σ own) p := fun o => nD (own_wipe o)
  have hB : ∀ {env : Env} {σ : St} {H : Hp}, ¬ Own c.la env σ p → ∀ q, q = p → ¬ Own c.la env σ q ∨ H q = none := fun n q e => .inl (e ▸ n)
  have start : P 0 H0 := ⟨Nat.zero_le _, acc0, ys, wipeE envI own, (Post.refl hw.rel).px, .refl _, by rw [stands_le wipeE_le]; exact hs0, hD, nw, by rw [List.drop_zero]; exact e, rfl⟩
  refine ⟨fun i m H => m = s.ds.length - i ∧ P i H, ⟨_, rfl, start⟩, ?_⟩
  rintro i m H ⟨rfl, hi, acc, rest, env, pp, ff, st, md, nd, el, ea⟩
  have hg : G H := hG env (wipe σ own) H ((p0.trans hw.px (hB nw)).trans pp (hB nd)) st
  by_cases hlt : i < s.ds.length
  · obtain ⟨d, ed⟩ : ∃ d, s.ds[i]? = some d := ⟨_, List.getElem?_eq_getElem hlt⟩
    have edr : s.ds.drop i = d :: s.ds.drop (i + 1) := by
      rw [List.drop_eq_getElem_cons hlt]
      rw [List.getElem?_eq_getElem hlt] at ed
      cases ed
      rfl
    rw [edr] at el
    obtain ⟨envb, y1, env', rest', eb, et, ec, el', rfl⟩ := loopC_cons el
    refine .inr ⟨wd.goes i H hlt hg, P (i + 1), fun H' q => ⟨s.ds.length - (i + 1), by omega, rfl, q⟩, fun x H' hy => ?_⟩
    obtain ⟨ex, hx⟩ := wd.yields i H x H' d ed hg hy
    have p1 : Post c.K c.la env (wipe σ own) H env (wipe σ own) H' := .grow pp.rel ex
    refine bind_ok p1.rel hx eb fun σ2 p2 f2 hσ => ?_
    have hσ2 : wipe σ2 own = wipe σ own := by rw [hσ own ht, wipe_idem]
    refine ⟨hσ2, ?_⟩
    have md' : MOk c.K H' p (.lst acc) := md.keep (kpAll ex) (fun o => ex p o)
    have nd' := not_own (p1.trans p2).px nd md (B := fun _ => False)
    have hlen : acc.length + (y1 ++ rest').length = acc0.length + ys.length := by
      have := congrArg List.length ea
      simp only [List.length_append] at this ⊢
      omega
    refine tb.run envb σ2 H' acc y1 env' _ p2.rel md' nd' et (by rw [List.length_append] at hlen; omega) fun H3 p3 f3 md3 => ?_
    have p4 := post_wipe (own := own) p3.rel
    have nd3 := not_own p3 nd' md'
    have nd4 : ¬ Own c.la (wipeE env' own) (wipe σ2 own) p := fun o => nd3 (own_wipe o)
    rw [hσ2] at p4 nd4
    refine ⟨hlt, acc ++ y1, rest', wipeE env' own, ((pp.trans (p1.trans p2).px (hB nd')).trans p3 (hB nd3)).trans p4.px (hB nd4), fun j t hj => ?_, by rw [stands_le wipeE_le]; exact ec, md3, nd4, el', by rw [List.append_assoc]; exact ea⟩
    rw [slot_wipe] at hj
    split at hj
    · cases hj
    · rename_i nj
      obtain ⟨t', ht'⟩ := ff j t (by rw [slot_wipe, if_neg nj]; exact hj)
      obtain ⟨t1, ht1⟩ := f2 j t' ht'
      obtain ⟨t2, ht2⟩ := f3 j t1 nj ht1
      exact ⟨t2, by rw [slot_wipe, if_neg nj]; exact ht2⟩
  · have hi' : i = s.ds.length := by omega
    subst hi'
    rw [List.drop_length] at el
    cases el
    refine .inl ⟨wd.stops H hg, n H pp ff ?_ nd⟩
    rw [List.append_nil] at ea
    rw [← ea]
    exact md
/-! ### the turns -/
def tAppend (p : Addr) (te : TE) (σ : St) (H : Hp) (Nx : Hp → Prop) : Prop := te σ H fun y H4 => ∃ acc, H4 p = some (.lst acc) ∧ acc.length < sizeLine ∧ Nx (upd H4 p (.lst (acc ++ [y])))
theorem upd_lst {K : PySem.W.Frag} {la : List Addr} {env : Env} {σ : St} {H : Hp} {p : Addr} {vs ws : List V} (rel : ERel K la env σ H) (hp : H p = some (.lst vs)) (n : ¬ Own la env σ p) : ERel K la env σ (upd H p (.lst ws)) ∧ Kp H (upd H p (.lst ws)) := by
  have k : Kp H (upd H p (.lst ws)) := ⟨fun a xs h => by rw [upd_ne (ne_of h hp (fun z => by cases z))]; exact h, fun a o u h => by rw [upd_ne (ne_of h hp (fun z => by cases z))]; exact h⟩
  refine ⟨⟨rel.len, fun i s e => ?_, fun j x e => ?_, rel.ll, rel.apart, rel.out, rel.nd⟩, k⟩
  · obtain ⟨v, e1, e2⟩ := rel.at_ i s e
    refine ⟨v, e1, ?_⟩
    cases s with
    | v d => exact Pd.keep k e2
    | m x =>
      obtain ⟨q, rfl, m⟩ := e2
      refine ⟨q, rfl, m.keep k fun o ho => ?_⟩
      rw [upd_ne]
      · exact ho
      · rintro rfl
        exact n (.inl ⟨i, x, e, e1⟩)
    | l j => exact e2
    | e d => exact e2
  · obtain ⟨q, e1, m⟩ := rel.lent j x e
    refine ⟨q, e1, m.keep k fun o ho => ?_⟩
    rw [upd_ne]
    · exact ho
    · rintro rfl
      exact n (.inr (List.mem_of_getElem? e1))
theorem turn1_ok {own : List Nat} {p : Addr} {W' : WX} {tt : TT} {te : TE} {ft : Env → Out Bool} {fe : Env → Out D} (ht : ∀ σ H Q, tT c W' ft σ H Q → tt σ H Q) (he : ∀ σ H Q, tG c W' (fun _ _ _ H' _ v d => Pd c.K H' v d) fe σ H Q → te σ H Q) :
    TurnOk c own (fun σ H Nx => tt σ H fun b H3 => if b = true then tAppend p te σ H3 Nx else Nx H3) (turn1 ft fe) p := by
  refine ⟨fun env σ H acc ys env' Nx rel md nd e hz q => ?_⟩
  unfold turn1 at e
  obtain ⟨b, env1, e1, e⟩ := bind_okE e
  refine ht _ _ _ ⟨env, rel, ?_⟩
  rw [e1]
  intro b' H1 p1 f1 eb
  subst eb
  have md1 : ∀ {H : Hp} {x : M} {env env' : Env} {H' : Hp}, Post c.K c.la env σ H env' σ H' → ERel c.K c.la env σ H → ¬ Own c.la env σ p → MOk c.K H p x → MOk c.K H' p x := fun {H x env env' H'} P rel n m => m.keep (rel.kp P.ext) fun o ho => P.ext p o ho n
  cases b' with
  | false =>
    cases e
    exact q H1 p1.px f1.x (by rw [List.append_nil]; exact md1 p1 rel nd md)
  | true =>
    obtain ⟨y, env2, e2, e⟩ := bind_okE e
    cases e
    rw [if_pos rfl]
    refine he _ _ _ ⟨env1, p1.rel, ?_⟩
    rw [e2]
    intro v H2 p2 f2 hv
    have m1 := md1 p1 rel nd md
    have nd1 := not_own p1.px nd md (B := fun _ => False)
    have m2 := md1 p2 p1.rel nd1 m1
    have nd2 := not_own p2.px nd1 m1 (B := fun _ => False)
    obtain ⟨vs, h1, h2, h3⟩ := m2
    simp only [List.length_cons, List.length_nil] at hz
    rw [← h3.length, LINE_eq] at hz
    have pp := p1.trans p2
    obtain ⟨r4, k4⟩ := upd_lst (ws := vs ++ [v]) p2.rel h1 nd2
    refine ⟨vs, h1, by omega, q _ ⟨fun a o h nb n2 => ?_, r4, pp.sub⟩ (f1.trans f2).x ⟨vs ++ [v], upd_same, by rw [List.length_append]; exact hz, (h3.keep k4).append (.one (Pd.keep k4 hv))⟩⟩
    rw [upd_ne nb]
    exact pp.ext a o h n2
end
/-! ### [e for g in it if c] -/
section
variable {X : Cx} {c : Cn} {W : WX}
theorem made_ok {own : List Nat} {env1 envN : Env} {σ : St} {H1 HN : Hp} {p : Addr} {ys : List D} (r1 : ERel c.K c.la env1 σ H1) (hp : H1 p = none) (P : PX c.K c.la (· = p) (wipeE env1 own) (wipe σ own) (upd H1 p (.lst [])) envN (wipe σ own) HN)
    (fl : Fil (wipeE env1 own) envN) (md : MOk c.K HN p (.lst ys)) (nd : ¬ Own c.la envN (wipe σ own) p) :
    Post c.K c.la env1 σ H1 (unwipe env1 envN own) σ HN ∧ Fil env1 (unwipe env1 envN own) ∧ RRel c.K c.la (unwipe env1 envN own) σ HN (.ref p) (.m (.lst ys)) := by
  have rw1 := (post_wipe (own := own) r1).rel
  have g : Post c.K c.la (wipeE env1 own) (wipe σ own) H1 (wipeE env1 own) (wipe σ own) (upd H1 p (.lst [])) := .grow rw1 (ext_new hp)
  have PP : Post c.K c.la (wipeE env1 own) (wipe σ own) H1 envN (wipe σ own) HN := (g.px.trans P fun q e => .inl (e ▸ nd)).post fun a e => e ▸ hp
  obtain ⟨a1, a2, a3⟩ := unwipe_ok r1 PP fl
  refine ⟨a1, a2, p, rfl, md, fun o => ?_⟩
  rcases a3 p o with ⟨i, x, h1, h2⟩ | o
  · obtain ⟨u, hu, _⟩ := r1.mut (.inl ⟨i, x, h1, h2⟩)
    rw [hp] at hu; cases hu
  · exact nd o
theorem madeC_ok {own : List Nat} {env : Env} {o : Out (List D)} {Rl : Env → Hp → Env → Hp → St → V → R → Prop} {env0 : Env} {H0 : Hp} {σ : St} {Q : VK} (h : Fin c W Rl env0 H0 σ Q (madeC own env o)) : ∃ ys envN, o = .ok ys envN ∧ ys.length ≤ LINE ∧ Fin c W Rl env0 H0 σ Q (.ok (.m (.lst ys)) (unwipe env envN own)) := by
  unfold madeC at h
  split at h
  · rename_i ys envN
    split at h
    · rename_i hz
      exact ⟨ys, envN, rfl, hz, h⟩
    · exact h.elim
  · exact h.elim
abbrev RlD (c : Cn) : Env → Hp → Env → Hp → St → V → D → Prop := fun _ _ _ H' _ v d => Pd c.K H' v d
theorem lc_imp {own : List Nat} {tg : Tg} {fI : Env → Out Src} {ft : Env → Out Bool} {fe : Env → Out D} {W' : WX} (ht : ∀ i ∈ tgIx tg, i ∈ own) {σ : St} {H : Hp} {Q : VK}
    (h : tE c W (fun env => (fI env).bind fun src env => madeC own env (loopC tg own (stands src) (turn1 ft fe) src.ds (wipeE env own))) σ H Q) :
    tLc (tI c W fI) (gRead c.K tg) (tT c W' ft) (tG c W' (RlD c) fe) own σ H Q := by
  obtain ⟨env, p, fl, h⟩ := start_ h
  refine step p fl h fun src env1 J H1 p1 f1 ⟨_, st, G, wd, hG⟩ h1 => fun D hD => ?_
  obtain ⟨ys, envN, e, hz, h1⟩ := madeC_ok h1
  have nD : ¬ Own c.la env1 σ D := fun o => by
    obtain ⟨u, hu, _⟩ := p1.rel.mut o
    rw [hD] at hu; cases hu
  have md0 : MOk c.K (upd H1 D (.lst [])) D (.lst []) := ⟨[], upd_same, Nat.zero_le _, .nil⟩
  refine loop_ok (Nx := fun H => Q (.ref D) H) (turn1_ok (fun σ H Q h => h) (fun σ H Q h => h)) ht wd (hG (· = D) fun a ea => .inr (ea ▸ hD)) st (Post.grow p1.rel (ext_new hD)).px md0 nD e (by simpa using hz) fun H' P ff md nd => ?_
  rw [List.nil_append] at md
  obtain ⟨b1, b2, b3⟩ := made_ok p1.rel hD P ff md nd
  have pp := p.trans p1
  refine h1 (.ref D) H' (pp.trans b1) ((fl.trans f1).trans b2) ⟨b3, fun x q e1 e2 => ?_⟩
  cases e2
  by_cases n : Own c.la env σ D
  · exact .inr n
  · cases z : H D with
    | none => exact .inl rfl
    | some o => rw [pp.ext D o z n] at hD; cases hD
end
end Di
namespace Di
open PySem PySem.Spec PyProof.Rows L2
theorem unsig {K : PySem.W.Frag} {la : List Addr} {env : Env} {σ : St} {H : Hp} {own : List Nat} (rel : ERel K la env (wipe σ own) H) : ERel K la env σ H ∧ ∀ p, Own la env σ p → Own la env (wipe σ own) p := by
  have eqv : ∀ {i : Nat} {x : Sl} {v : V}, slot env i = some x → σ[i]? = some (some v) → (wipe σ own)[i]? = some (some v) := fun {i x v} h e => by
    obtain ⟨u, e1, _⟩ := rel.at_ i x h
    have e2 := (wipe_some e1).1
    rw [e] at e2
    cases e2
    exact e1
  refine ⟨⟨by rw [rel.len, wipe_length], fun i s h => ?_, rel.lent, rel.ll, fun i j x y p hx hy e1 e2 => rel.apart i j x y p hx hy (eqv hx e1) (eqv hy e2), fun i x p hx e => rel.out i x p hx (eqv hx e), rel.nd⟩, fun p o => ?_⟩
  · obtain ⟨v, e1, e2⟩ := rel.at_ i s h
    exact ⟨v, (wipe_some e1).1, e2⟩
  · rcases o with ⟨i, x, h, e⟩ | o
    · exact .inl ⟨i, x, h, eqv h e⟩
    · exact .inr o
section
variable {X : Cx} {c : Cn} {W : WX}
theorem turn2_ok {own own2 : List Nat} {tg2 : Tg} {p : Addr} {W' : WX} {f1 ft : Env → Out Bool} {fe : Env → Out D} {fI2 : Env → Out Src} (h2 : ∀ i ∈ own2, i ∈ own) (ht : ∀ i ∈ tgIx tg2, i ∈ own2) :
    TurnOk c own (fun σ H Nx => tT c W' f1 σ H fun b H3 => if b = true then tI c W' fI2 σ H3 fun J1 H4 => ∃ W1 : Nat → Nat → Hp → Prop, (∃ m, W1 0 m H4) ∧ ∀ j k H, W1 j k H →
      (J1.stop j H ∧ Nx H) ∨ (J1.go j H ∧ ∃ Nx1 : Hp → Prop, (∀ H', Nx1 H' → ∃ k', k' < k ∧ W1 (j + 1) k' H') ∧ ∀ x H', J1.yld j H x H' → gRead c.K tg2 x (wipe σ own2) H' fun σ3 H5 => wipe σ3 own2 = wipe σ own2 ∧ tT c W' ft σ3 H5 fun b H6 =>
        if b = true then tAppend p (tG c W' (fun _ _ _ H' _ v d => Pd c.K H' v d) fe) σ3 H6 Nx1 else Nx1 H6) else Nx H3)
      (fun env => (f1 env).bind fun b env => if b = true then (fI2 env).bind fun src2 env => loopC tg2 own2 (stands src2) (turn1 ft fe) src2.ds (wipeE env own2) else .ok [] env) p := by
  refine ⟨fun env σ H acc ys env' Nx rel md nd e hz q => ?_⟩
  obtain ⟨b, env1, e1, e⟩ := bind_okE e
  refine ⟨env, rel, ?_⟩
  rw [e1]
  intro b' H1 p1 g1 eb
  subst eb
  have md1 : ∀ {H : Hp} {x : M} {env env' : Env} {H' : Hp}, Post c.K c.la env σ H env' σ H' → ERel c.K c.la env σ H → ¬ Own c.la env σ p → MOk c.K H p x → MOk c.K H' p x := fun {H x env env' H'} P rel n m => m.keep (rel.kp P.ext) fun o ho => P.ext p o ho n
  have m1 := md1 p1 rel nd md
  have nd1 := not_own p1.px nd md (B := fun _ => False)
  cases b' with
  | false =>
    cases e
    exact q H1 p1.px g1.x (by rw [List.append_nil]; exact m1)
  | true =>
    rw [if_pos rfl] at e
    obtain ⟨src, env2, e2, e⟩ := bind_okE e
    rw [if_pos rfl]
    refine ⟨env1, p1.rel, ?_⟩
    rw [e2]
    intro J H2 p2 g2 ⟨_, st, G, wd, hG⟩
    have m2 := md1 p2 p1.rel nd1 m1
    have nd2 := not_own p2.px nd1 m1 (B := fun _ => False)
    refine loop_ok (turn1_ok (W' := W') (fun σ H Q h => h) (fun σ H Q h => h)) ht wd (hG (· = p) fun a ea => .inl ?_) st (Post.refl p2.rel).px m2 nd2 e hz fun H' P ff md3 nd3 => ?_
    · subst ea
      obtain ⟨vs, z1, _⟩ := m1
      obtain ⟨us, z2, _⟩ := m2
      refine ⟨⟨_, z1⟩, nd1, fun u hu => ?_⟩
      rw [z2] at hu
      cases hu
      trivial
    · have pp := p1.trans p2
      have pw := post_wipe (own := own2) p2.rel
      have PP := (pp.trans pw).px.trans P fun q e => .inl (e ▸ nd3)
      obtain ⟨r, o⟩ := unsig PP.rel
      refine q H' ⟨PP.ext, r, fun a z => PP.sub a (o a z)⟩ (fun j t nj hj => ?_) md3
      obtain ⟨t1, h1⟩ := (g1.trans g2) j t hj
      exact ff j t1 (by rw [slot_wipe, if_neg (fun m => nj (h2 j m))]; exact h1)
theorem lc2_imp {own own2 : List Nat} {tg tg2 : Tg} {fI fI2 : Env → Out Src} {f1 ft : Env → Out Bool} {fe : Env → Out D} {W' : WX} (ht : ∀ i ∈ tgIx tg, i ∈ own) (ht2 : ∀ i ∈ tgIx tg2, i ∈ own2) (h2 : ∀ i ∈ own2, i ∈ own) {σ : St} {H : Hp} {Q : VK}
    (h : tE c W (fun env => (fI env).bind fun src env => madeC own env (loopC tg own (stands src)
      (fun env => (f1 env).bind fun b env => if b = true then (fI2 env).bind fun src2 env => loopC tg2 own2 (stands src2) (turn1 ft fe) src2.ds (wipeE env own2) else .ok [] env) src.ds (wipeE env own))) σ H Q) :
    tLc2 (tI c W fI) (gRead c.K tg) (tT c W' f1) (tI c W' fI2) (gRead c.K tg2) (tT c W' ft) (tG c W' (RlD c) fe) own own2 σ H Q := by
  obtain ⟨env, p, fl, h⟩ := start_ h
  refine step p fl h fun src env1 J H1 p1 f1' ⟨_, st, G, wd, hG⟩ h1 => fun D hD => ?_
  obtain ⟨ys, envN, e, hz, h1⟩ := madeC_ok h1
  have nD : ¬ Own c.la env1 σ D := fun o => by
    obtain ⟨u, hu, _⟩ := p1.rel.mut o
    rw [hD] at hu; cases hu
  have md0 : MOk c.K (upd H1 D (.lst [])) D (.lst []) := ⟨[], upd_same, Nat.zero_le _, .nil⟩
  refine loop_ok (Nx := fun H => Q (.ref D) H) (turn2_ok h2 ht2) ht wd (hG (· = D) fun a ea => .inr (ea ▸ hD)) st (Post.grow p1.rel (ext_new hD)).px md0 nD e (by simpa using hz) fun H' P ff md nd => ?_
  rw [List.nil_append] at md
  obtain ⟨b1, b2, b3⟩ := made_ok p1.rel hD P ff md nd
  have pp := p.trans p1
  refine h1 (.ref D) H' (pp.trans b1) ((fl.trans f1').trans b2) ⟨b3, fun x q e1 e2 => ?_⟩
  cases e2
  by_cases n : Own c.la env σ D
  · exact .inr n
  · cases z : H D with
    | none => exact .inl rfl
    | some o => rw [pp.ext D o z n] at hD; cases hD
end
end Di
namespace Di
open PySem PySem.Spec PyProof.Rows L2
/-! ### statements over data -/
section
variable (c : Cn) (W : WX)
def FinS (env0 : Env) (σ0 : St) (H0 : Hp) (D : Ends) : Fl → Prop
  | .nx env' => ∀ σ' H', Post c.K c.la env0 σ0 H0 env' σ' H' → D.nx σ' H'
  | .rt r env' => ∀ v σ' H', Post c.K c.la env0 σ0 H0 env' σ' H' → RRel c.K c.la env' σ' H' v r → New c.la env0 σ0 H0 v r → D.rt v H'
  | .bk env' => ∀ σ' H', Post c.K c.la env0 σ0 H0 env' σ' H' → D.bk σ' H'
  | .ct env' => ∀ σ' H', Post c.K c.la env0 σ0 H0 env' σ' H' → D.ct σ' H'
  | .exc k d env' => ∀ cls dd σ' H', Post c.K c.la env0 σ0 H0 env' σ' H' → c.xr k d cls dd H' → W cls dd σ' H'
  | .no => False
abbrev tS (f : Env → Fl) : TS := fun D σ H => ∃ env, ERel c.K c.la env σ H ∧ FinS c W env σ H D (f env)
end
section
variable {c : Cn} {W : WX} {α β : Type} {env0 env1 : Env} {σ0 σ1 : St} {H0 H1 : Hp} {D : Ends}
/-- an expression, then the rest -/
theorem stepE {Rf : Env → Hp → Env → Hp → St → β → α → Prop} {f : Env → Out α} {k : α → Env → Fl} {Rest : β → Hp → Prop}
    (p : Post c.K c.la env0 σ0 H0 env1 σ1 H1) (h : FinS c W env0 σ0 H0 D ((f env1).go k))
    (n : ∀ a env2 b H2, f env1 = .ok a env2 → Post c.K c.la env1 σ1 H1 env2 σ1 H2 → Fil env1 env2 → Rf env1 H1 env2 H2 σ1 b a → FinS c W env0 σ0 H0 D (k a env2) → Rest b H2) : tG c W Rf f σ1 H1 Rest := by
  refine ⟨env1, p.rel, ?_⟩
  cases e : f env1 with
  | ok a env2 =>
    rw [e] at h
    exact fun b H2 p2 f2 r => n a env2 b H2 e p2 f2 r h
  | exc k d env2 =>
    rw [e] at h
    exact fun cls dd H2 p2 f2 x => h cls dd σ1 H2 (p.trans p2) x
  | no =>
    rw [e] at h
    exact h.elim
/-- a statement, then the rest -/
theorem finS_seq {k : Env → Fl} {N : St → Hp → Prop} {o : Fl} (p : Post c.K c.la env0 σ0 H0 env1 σ1 H1) (h : FinS c W env0 σ0 H0 D (o.seq k)) (hN : ∀ env' σ' H', Post c.K c.la env0 σ0 H0 env' σ' H' → FinS c W env0 σ0 H0 D (k env') → N σ' H') :
    FinS c W env1 σ1 H1 { D with nx := N } o := by
  cases o with
  | nx e => exact fun σ' H' p' => hN e σ' H' (p.trans p') h
  | rt r e => exact fun v σ' H' p' r' n => h v σ' H' (p.trans p') r' (n.before p)
  | bk e => exact fun σ' H' p' => h σ' H' (p.trans p')
  | ct e => exact fun σ' H' p' => h σ' H' (p.trans p')
  | exc k d e => exact fun cls dd σ' H' p' x => h cls dd σ' H' (p.trans p') x
  | no => exact h.elim
theorem finS_loop {k : Env → Fl} {N : St → Hp → Prop} {o : Fl} (p : Post c.K c.la env0 σ0 H0 env1 σ1 H1) (h : FinS c W env0 σ0 H0 D (o.loop k)) (hN : ∀ env' σ' H', Post c.K c.la env0 σ0 H0 env' σ' H' → Post c.K c.la env1 σ1 H1 env' σ' H' → FinS c W env0 σ0 H0 D (k env') → N σ' H') :
    FinS c W env1 σ1 H1 { D with nx := N, ct := N, bk := D.nx } o := by
  cases o with
  | nx e => exact fun σ' H' p' => hN e σ' H' (p.trans p') p' h
  | rt r e => exact fun v σ' H' p' r' n => h v σ' H' (p.trans p') r' (n.before p)
  | bk e => exact fun σ' H' p' => h σ' H' (p.trans p')
  | ct e => exact fun σ' H' p' => hN e σ' H' (p.trans p') p' h
  | exc k d e => exact fun cls dd σ' H' p' x => h cls dd σ' H' (p.trans p') x
  | no => exact h.elim
/-- the same ends, from an earlier point -/
theorem finS_from {o : Fl} (p : Post c.K c.la env0 σ0 H0 env1 σ1 H1) (h : FinS c W env0 σ0 H0 D o) : FinS c W env1 σ1 H1 D o := by
  cases o with
  | nx e => exact fun σ' H' p' => h σ' H' (p.trans p')
  | rt r e => exact fun v σ' H' p' r' n => h v σ' H' (p.trans p') r' (n.before p)
  | bk e => exact fun σ' H' p' => h σ' H' (p.trans p')
  | ct e => exact fun σ' H' p' => h σ' H' (p.trans p')
  | exc k d e => exact fun cls dd σ' H' p' x => h cls dd σ' H' (p.trans p') x
  | no => exact h.elim
theorem startS {f : Env → Fl} {σ : St} {H : Hp} (h : tS c W f D σ H) : ∃ env, Post c.K c.la env σ H env σ H ∧ FinS c W env σ H D (f env) := by
  obtain ⟨env, r, h⟩ := h
  exact ⟨env, .refl r, h⟩
end
section
variable {X : Cx} {c : Cn} {W : WX}
theorem ss_nil : PSs X [] (tS c W fun env => .nx env) := impSs pss_nil fun D σ H h => by
  obtain ⟨env, p, h⟩ := startS h
  exact h σ H p
theorem ss_cons {st : Stmt} {sts : List Stmt} {f g : Env → Fl} (h1 : PS X st (tS c W f)) (h2 : PSs X sts (tS c W g)) : PSs X (st :: sts) (tS c W fun env => (f env).seq g) := by
  refine impSs (pss_cons h1 h2) fun D σ H h => ?_
  obtain ⟨env, p, h⟩ := startS h
  exact ⟨env, p.rel, finS_seq p h fun env' σ' H' p' h' => ⟨env', p'.rel, finS_from p' h'⟩⟩
theorem st_pass {pos : Pos} : PS X (.Pass pos) (tS c W fun env => .nx env) := impS ps_pass fun D σ H h => by
  obtain ⟨env, p, h⟩ := startS h
  exact h σ H p
theorem st_break {pos : Pos} : PS X (.Break pos) (tS c W fun env => .bk env) := impS ps_break fun D σ H h => by
  obtain ⟨env, p, h⟩ := startS h
  exact h σ H p
theorem st_cont {pos : Pos} : PS X (.Continue pos) (tS c W fun env => .ct env) := impS ps_continue fun D σ H h => by
  obtain ⟨env, p, h⟩ := startS h
  exact h σ H p
theorem st_retN {pos : Pos} : PS X (.Return none pos) (tS c W fun env => .rt (.v .none) env) := impS ps_retN fun D σ H h => by
  obtain ⟨env, p, h⟩ := startS h
  exact h .non σ H p .non New.v
theorem st_ret {e : Expr} {pos : Pos} {f : Env → Out R} (he : PE X e (tE c W f)) : PS X (.Return (some e) pos) (tS c W fun env => (f env).go fun r env => .rt r env) := impS (ps_ret he) fun D σ H h => by
  obtain ⟨env, p, h⟩ := startS h
  exact stepE p h fun r env1 v H1 _ p1 f1 r1 h1 => h1 v σ H1 (p.trans p1) r1.1 (r1.2.before p)
theorem st_if {t : Expr} {a b : List Stmt} {pos : Pos} {ft : Env → Out Bool} {fa fb : Env → Fl} (ht : PT X t (tT c W ft)) (ha : PSs X a (tS c W fa)) (hb : PSs X b (tS c W fb)) :
    PS X (.If t a b pos) (tS c W fun env => (ft env).go fun b env => if b = true then fa env else fb env) := impS (ps_if ht ha hb) fun D σ H h => by
  obtain ⟨env, p, h⟩ := startS h
  refine stepE p h fun r env1 v H1 _ p1 f1 r1 h1 => ?_
  subst r1
  cases v with
  | true => exact ⟨env1, p1.rel, finS_from (p.trans p1) h1⟩
  | false => exact ⟨env1, p1.rel, finS_from (p.trans p1) h1⟩
def isComp : Expr → Bool
  | .ListComp .. => true
  | .SetComp .. => true
  | .DictComp .. => true
  | _ => false
theorem swaps_no {e : Expr} {t : Option Expr} {l : Nat} {env : PySem.Env} (h : isComp e = false) : swapsWith e t l env = pure false := by
  cases e <;> first | rfl | cases h
theorem st_exp {e : Expr} {pos : Pos} {f : Env → Out R} (he : PE X e (tE c W f)) (h0 : isComp e = false) : PS X (.Expr e pos) (tS c W fun env => (f env).go fun _ env => .nx env) := impS (ps_expr he (swaps_no h0)) fun D σ H h => by
  obtain ⟨env, p, h⟩ := startS h
  exact stepE p h fun r env1 v H1 _ p1 f1 r1 h1 => h1 σ H1 (p.trans p1)
/-! ### storing -/
theorem s_settle {e : Expr} {f : Env → Out R} (he : PE X e (tE c W f)) : PE X e (tE c W fun env => (f env).bind settle) := by
  refine imp (pe_fz he) fun σ H Q q => ?_
  obtain ⟨env, p, fl, q⟩ := start_ q
  refine step p fl q fun r env1 v H1 p1 f1 r1 h1 => ?_
  cases r with
  | v d => exact .inl (h1 v H1 (p.trans p1) (fl.trans f1) ⟨r1.1, New.v⟩)
  | m x => exact .inl (h1 v H1 (p.trans p1) (fl.trans f1) ⟨r1.1, r1.2.before p⟩)
  | a i =>
    have h1 : Fin c W (RlE c) env H σ Q ((match slot env1 i with
      | some (.v d) => Out.ok d env1
      | some (.m (.lst xs)) => .ok (.list xs) (setS env1 i (.v (.list xs)))
      | _ => .no).bind fun d env => .ok (.v d) env) := h1
    obtain ⟨⟨s, hs⟩, hv⟩ := r1.1
    rw [hs] at h1
    cases s with
    | v d =>
      obtain ⟨v', e1, e2⟩ := p1.rel.at_ i _ hs
      rw [hv] at e1
      cases e1
      exact .inl (h1 v H1 (p.trans p1) (fl.trans f1) ⟨e2, New.v⟩)
    | m x =>
      cases x with
      | lst ds =>
        obtain ⟨q, xs, e1, hp, ow, hh⟩ := p1.rel.frzS hs
        rw [hv] at e1
        cases e1
        refine .inr ⟨q, xs, rfl, hp, fun o => ?_⟩
        have pp := p.trans p1
        refine h1 (.ref q) _ ⟨fun a ob h n2 => ?_, (hh o).1, fun a o => pp.sub a (own_setv hs o)⟩ ((fl.trans f1).trans (fil_set hs)) ⟨(hh o).2, New.v⟩
        rw [upd_ne]
        · exact pp.ext a ob h n2
        · rintro rfl
          rcases pp.sub _ ow with z | z
          · exact n2 z
          · rw [h] at z; cases z
      | _ => exact h1.elim
    | l j => exact h1.elim
    | e d => exact h1.elim
theorem settle_ok {r r' : R} {env env' : Env} (h : settle r env = .ok r' env') : ∀ i, r' ≠ .a i := by
  intro i e
  subst e
  cases r with
  | v d => cases h
  | m x => cases h
  | a j =>
    obtain ⟨d, e, h1, h2⟩ := bind_okE (show (freeze (.a j) env).bind (fun d env => Out.ok (R.v d) env) = .ok (.a i) env' from h)
    cases h2
section
variable {K : PySem.W.Frag} {la : List Addr} {env0 env env' : Env} {σ0 σ : St} {H0 H : Hp}
theorem post_setm {i : Nat} {x : M} {q : Addr} (rel : ERel K la env σ H) (m : MOk K H q x) (n : ¬ Own la env σ q) :
    ERel K la (setS env i (.m x)) (σ.set i (some (.ref q))) H ∧ ∀ p, Own la (setS env i (.m x)) (σ.set i (some (.ref q))) p → Own la env σ p ∨ p = q := by
  have get : ∀ {j : Nat} {u : V}, j ≠ i → (σ.set i (some (.ref q)))[j]? = some (some u) → σ[j]? = some (some u) := fun {j u} n e => by
    rw [List.getElem?_set_ne (Ne.symm n)] at e
    exact e
  have cs : ∀ {j : Nat} {s : Sl}, slot (setS env i (.m x)) j = some s → (j = i ∧ s = .m x) ∨ (j ≠ i ∧ slot env j = some s) := fun {j s} h => by
    rw [slot_set] at h
    split at h
    · split at h
      · cases h; rename_i e _; exact .inl ⟨e, rfl⟩
      · cases h
    · rename_i e; exact .inr ⟨e, h⟩
  have at_i : ∀ {u : V}, i < env.sl.length → (σ.set i (some (.ref q)))[i]? = some (some u) → u = .ref q := fun {u} hl e => by
    rw [List.getElem?_set_self (by rw [← rel.len]; exact hl)] at e
    cases e; rfl
  have lt_i : ∀ {s : Sl}, slot (setS env i (.m x)) i = some s → i < env.sl.length := fun {s} h => by
    have := slot_lt h
    simpa [setS] using this
  refine ⟨⟨by simp [setS, rel.len], fun j s e => ?_, rel.lent, rel.ll, fun j k y z p hy hz e1 e2 => ?_, fun j y p hy e1 => ?_, rel.nd⟩, fun p o => ?_⟩
  · have e0 := e
    rcases cs e with ⟨rfl, rfl⟩ | ⟨hj, e⟩
    · exact ⟨.ref q, by rw [List.getElem?_set_self (by rw [← rel.len]; exact lt_i e0)], q, rfl, m⟩
    · obtain ⟨u, e1, e2⟩ := rel.at_ j s e
      exact ⟨u, by rw [List.getElem?_set_ne (Ne.symm hj)]; exact e1, e2⟩
  · rcases cs hy with ⟨ej, ey⟩ | ⟨hj, hy'⟩
    · rcases cs hz with ⟨ek, ez⟩ | ⟨hk, hz'⟩
      · rw [ej, ek]
      · subst ej
        have := at_i (lt_i hy) e1
        cases this
        exact absurd (.inl ⟨k, z, hz', get hk e2⟩) n
    · rcases cs hz with ⟨ek, ez⟩ | ⟨hk, hz'⟩
      · subst ek
        have := at_i (lt_i hz) e2
        cases this
        exact absurd (.inl ⟨j, y, hy', get hj e1⟩) n
      · exact rel.apart j k y z p hy' hz' (get hj e1) (get hk e2)
  · rcases cs hy with ⟨ej, ey⟩ | ⟨hj, hy'⟩
    · subst ej
      have := at_i (lt_i hy) e1
      cases this
      exact fun h => n (.inr h)
    · exact rel.out j y p hy' (get hj e1)
  · rcases o with ⟨j, y, hy, e1⟩ | o
    · rcases cs hy with ⟨ej, ey⟩ | ⟨hj, hy'⟩
      · subst ej
        have := at_i (lt_i hy) e1
        cases this
        exact .inr rfl
      · exact .inl (.inl ⟨j, y, hy', get hj e1⟩)
    · exact .inl (.inr o)
/-- a result into a slot -/
theorem post_setR {i : Nat} {r : R} {v : V} (p : Post K la env0 σ0 H0 env σ H) (h : RRel K la env σ H v r) (n : New la env0 σ0 H0 v r) (ha : ∀ i, r ≠ .a i) :
    Post K la env0 σ0 H0 (setS env i (toSl r)) (σ.set i (some v)) H ∧ ∀ q, Own la (setS env i (toSl r)) (σ.set i (some v)) q → Own la env σ q ∨ (∃ x, r = .m x) ∧ v = .ref q := by
  cases r with
  | v d =>
    have p2 := post_setv (i := i) p.rel h
    refine ⟨p.trans p2, fun q o => ?_⟩
    rcases o with ⟨j, x, hx, e1⟩ | o
    · obtain ⟨hx, n1⟩ := setv_m hx
      rw [List.getElem?_set_ne (Ne.symm n1)] at e1
      exact .inl (.inl ⟨j, x, hx, e1⟩)
    · exact .inl (.inr o)
  | m x =>
    obtain ⟨q, rfl, m, no⟩ := h
    obtain ⟨r1, r2⟩ := post_setm (i := i) p.rel m no
    refine ⟨⟨p.ext, r1, fun a o => ?_⟩, fun a o => ?_⟩
    · rcases r2 a o with o | rfl
      · exact p.sub a o
      · exact (n x a rfl rfl).symm
    · rcases r2 a o with o | rfl
      · exact .inl o
      · exact .inr ⟨⟨x, rfl⟩, rfl⟩
  | a j => exact absurd rfl (ha j)
/-- what is to be stored -/
inductive SetA (K : PySem.W.Frag) (la : List Addr) (env0 : Env) (σ0 : St) (H0 : Hp) (env : Env) (σ : St) (H : Hp) : List V → List R → Prop
  | nil : SetA K la env0 σ0 H0 env σ H [] []
  | cons {v : V} {vs : List V} {r : R} {rs : List R} : RRel K la env σ H v r → New la env0 σ0 H0 v r → (∀ i, r ≠ .a i) → (∀ x q, r = .m x → v = .ref q → ∀ z, z ∈ vs.zip rs → ∀ y, z.2 = .m y → z.1 ≠ .ref q) →
      SetA K la env0 σ0 H0 env σ H vs rs → SetA K la env0 σ0 H0 env σ H (v :: vs) (r :: rs)
theorem setA_of {envA : Env} {HA : Hp} : ∀ {vs : List V} {rs : List R}, ARel K la envA HA env H σ vs rs → (∀ r ∈ rs, ∀ i, r ≠ .a i) → SetA K la envA σ HA env σ H vs rs
  | _, _, .nil, _ => .nil
  | _, _, .cons a b d t, h => .cons a b (h _ (List.mem_cons_self ..)) d (setA_of t fun r hr => h r (List.mem_cons_of_mem _ hr))
theorem SetA.after {P : Addr → Prop} {env' : Env} {σ' : St} (h2 : ∀ p, Own la env' σ' p → Own la env σ p ∨ P p) {vs : List V} {rs : List R} (h : SetA K la env0 σ0 H0 env σ H vs rs) : (∀ z, z ∈ vs.zip rs → ∀ y, z.2 = .m y → ∀ q, P q → z.1 ≠ .ref q) → SetA K la env0 σ0 H0 env' σ' H vs rs := by
  induction h with
  | nil => exact fun _ => .nil
  | @cons v vs r rs a b n d t ih =>
    intro hq
    refine .cons ?_ b n d (ih fun z hz => hq z (List.mem_cons_of_mem _ hz))
    cases r with
    | v d => exact a
    | m x =>
      obtain ⟨p, rfl, m, no⟩ := a
      refine ⟨p, rfl, m, fun o => ?_⟩
      rcases h2 p o with o | o
      · exact no o
      · exact hq _ (List.mem_cons_self ..) x rfl p o rfl
    | a j => exact absurd rfl (n j)
/-- results into slots, one after another -/
theorem post_setRs : ∀ {is : List Nat} {rs : List R} {vs : List V} {env : Env} {σ : St}, rs.length = is.length → Post K la env0 σ0 H0 env σ H → SetA K la env0 σ0 H0 env σ H vs rs → Post K la env0 σ0 H0 (setAllS is rs env) (setAllV is vs σ) H
  | [], [], _, env, σ, _, p, .nil => p
  | i :: is, r :: rs, _, env, σ, hl, p, .cons (v := v) (vs := vs) a b n d t => by
    obtain ⟨p1, o1⟩ := post_setR (i := i) p a b n
    exact post_setRs (is := is) (by simpa using hl) p1 (SetA.after (P := fun q => (∃ x, r = .m x) ∧ v = .ref q) o1 t fun z hz y hy q ⟨⟨x, e1⟩, e2⟩ => d x q e1 e2 z hz y hy)
end
/-- names, gNames by setAllV -/
theorem gNames_of : ∀ {is : List Nat} {vs : List V} {σ : St} {H : Hp} {Q : St → Hp → Prop}, vs.length = is.length → Q (setAllV is vs σ) H → gNames is vs σ H Q
  | [], [], _, _, _, _, q => ⟨rfl, q⟩
  | i :: is, v :: vs, σ, H, Q, hl, q => ⟨v, vs, rfl, gNames_of (is := is) (by simpa using hl) q⟩
end
end Di
namespace Di
open PySem PySem.Spec PyProof.Rows L2
section
variable {X : Cx} {c : Cn} {W : WX}
theorem settle_na {f : Env → Out R} {env env' : Env} {r : R} (h : (f env).bind settle = .ok r env') : ∀ i, r ≠ .a i := by
  obtain ⟨r0, e0, _, h⟩ := bind_okE h
  exact settle_ok h
/-- a result is stored -/
theorem set_k {i : Nat} {f : Env → Out R} {D : Ends} {σ : St} {H : Hp} (na : ∀ env r env', f env = .ok r env' → ∀ i, r ≠ .a i) (h : tS c W (fun env => (f env).go fun r env => .nx (setS env i (toSl r))) D σ H) :
    tAsg (tE c W f) (gName i) D σ H := by
  obtain ⟨env, p, h⟩ := startS h
  refine stepE p h fun r env1 v H1 e p1 f1 r1 h1 => ?_
  exact h1 (σ.set i (some v)) H1 (post_setR (p.trans p1) r1.1 (r1.2.before p) (na _ _ _ e)).1
theorem st_set {i : Nat} {x : Str} {e : Expr} {pos pos' : Pos} {f : Env → Out R} (hN : X.N.Nodup) (hi : X.N[i]? = some x) (hx : Loc X.env.scope x) (hf : X.fn x = true ∨ X.env.scope.names.lookup x = some .local) (he : PE X e (tE c W f)) (h0 : isComp e = false) :
    PS X (.Assign [.Name x pos'] e pos) (tS c W fun env => ((f env).bind settle).go fun r env => .nx (setS env i (toSl r))) :=
  impS (ps_set hN hi hx (s_settle he) (swaps_no h0) hf) fun D σ H h => set_k (fun _ _ _ e => settle_na e) h
theorem bind_settle {i : Nat} {f : Env → Out R} (hm : ∀ env r env', f env = .ok r env' → ∃ x, r = .m x) : (fun env => ((f env).bind settle).go fun r env => Fl.nx (setS env i (toSl r))) = fun env => (f env).go fun r env => .nx (setS env i (toSl r)) := by
  funext env
  cases e : f env with
  | ok r env' =>
    obtain ⟨x, rfl⟩ := hm _ _ _ e
    rfl
  | exc k d e => rfl
  | no => rfl
theorem st_setC {i : Nat} {f : Env → Out R} {st : Stmt} {te : TE} (hm : ∀ env r env', f env = .ok r env' → ∃ x, r = .m x) (h : PS X st (tAsg te (gName i))) (hi : ∀ σ H Q, tE c W f σ H Q → te σ H Q) :
    PS X st (tS c W fun env => ((f env).bind settle).go fun r env => .nx (setS env i (toSl r))) := by
  rw [bind_settle hm]
  refine impS h fun D σ H h => hi _ _ _ (set_k (fun env r env' e => ?_) h)
  obtain ⟨x, rfl⟩ := hm _ _ _ e
  exact fun i z => by cases z
theorem madeC_m {own : List Nat} {fI : Env → Out Src} {g : Src → Env → Out (List D)} {env env' : Env} {r : R} (h : ((fI env).bind fun src env => madeC own env (g src env)) = .ok r env') : ∃ x, r = .m x := by
  obtain ⟨s, e1, _, h⟩ := bind_okE h
  unfold madeC at h
  split at h
  · split at h
    · cases h; exact ⟨_, rfl⟩
    · cases h
  · cases h
/-! ### a, b = e -/
theorem tupOf_k {K : PySem.W.Frag} {la : List Addr} {env env' : Env} {σ : St} {H : Hp} {v : V} {r : R} {ds : List D} (rel : ERel K la env σ H) (h : RRel K la env σ H v r) (e : tupOf r env = .ok ds env') : env' = env ∧ Pd K H v (.tuple ds) := by
  unfold tupOf at e
  split at e
  · rename_i ed
    cases e
    exact ⟨rfl, lk_of rel h ed⟩
  · cases e
theorem st_setT {is : List Nat} {es : List Expr} {e : Expr} {pos : Pos} {kk : Nat} {tpos : Pos} {f : Env → Out R} (hK : X.K = c.K) (he : PE X e (tE c W f)) (hg : PG X (.Tuple es kk tpos) (gTup c.K is.length (gNames is)))
    (hs : swapsWithSole [.Tuple es kk tpos] e pos.line X.env = pure false) (hw : swappedStores [.Tuple es kk tpos] e X.env = pure none) :
    PS X (.Assign [.Tuple es kk tpos] e pos) (tS c W fun env => ((f env).bind tupOf).go fun ds env => if ds.length = is.length then .nx (setAll is ds env) else .no) := by
  refine impS (ps_asg he hg hs hw rfl) fun D σ H h => ?_
  obtain ⟨env, p, h⟩ := startS h
  refine ⟨env, p.rel, ?_⟩
  cases ef : f env with
  | ok r env1 =>
    rw [ef] at h
    intro v H1 p1 f1 r1
    replace h : FinS c W env σ H D ((tupOf r env1).go fun ds env => if ds.length = is.length then .nx (setAll is ds env) else .no) := h
    cases et : tupOf r env1 with
    | ok ds env2 =>
      rw [et] at h
      obtain ⟨ee, hp⟩ := tupOf_k p1.rel r1.1 et
      subst ee
      replace h : FinS c W env σ H D (if ds.length = is.length then .nx (setAll is ds env2) else .no) := h
      split at h
      · rename_i hl
        cases hp with
        | tup a1 a2 a3 =>
          refine ⟨_, _, rfl, a1, by rw [a3.length]; exact hl, names_ok (by rw [a3.length]; exact hl) a3 p1.rel fun p2 f2 => h _ _ (p1.trans p2)⟩
      · exact h.elim
    | exc k d e =>
      unfold tupOf at et
      split at et <;> cases et
    | no => rw [et] at h; exact h.elim
  | exc k d e => rw [ef] at h; exact fun cls dd H2 p2 f2 x => h cls dd σ H2 p2 x
  | no => rw [ef] at h; exact h.elim
/-! ### a, b = x, y -/
abbrev tP (c : Cn) (W : WX) (f : Env → Out (List R)) : TA := tG c W (fun env H env' H' σ vs rs => ARel c.K c.la env H env' H' σ vs rs ∧ ∀ r ∈ rs, ∀ i, r ≠ .a i) f
theorem p_nil : PA X [] (tP c W fun env => .ok [] env) := impA pa_nil fun σ H Q h => by
  obtain ⟨env, p, fl, h⟩ := start_ h
  exact h [] H p fl ⟨.nil, fun r h => by simp at h⟩
theorem p_cons {e : Expr} {es : List Expr} {fe : Env → Out R} {fs : Env → Out (List R)} (he : PE X e (tE c W fe)) (hs : PA X es (tP c W fs)) (h1 : starEach (e :: es) X.env = (false, eval e X.env) :: starEach es X.env) :
    PA X (e :: es) (tP c W fun env => ((fe env).bind settle).bind fun r env => (fs env).bind fun rs env => .ok (r :: rs) env) := impA (pa_cons (s_settle he) hs h1) fun σ H Q h => by
  obtain ⟨env, p, fl, h⟩ := start_ h
  refine ⟨env, p.rel, ?_⟩
  cases ef : (fe env).bind settle with
  | ok r env1 =>
    rw [ef] at h
    show Fin c W (RlE c) env H σ _ ((fe env).bind settle)
    rw [ef]
    intro v H1 p1 f1 r1
    have h : Fin c W (fun env H env' H' σ vs rs => ARel c.K c.la env H env' H' σ vs rs ∧ ∀ r ∈ rs, ∀ i, r ≠ .a i) env H σ Q ((fs env1).bind fun rs env => .ok (r :: rs) env) := h
    refine step p1 f1 h fun rs env2 vs H2 p2 f2 r2 h2 => ?_
    refine h2 (v :: vs) H2 (p1.trans p2) (f1.trans f2) ⟨.cons (r1.1.after p1.rel p2 f2) r1.2 (fun x q e e' z hz y ey eq => ?_) (r2.1.before p1), fun r' hr => ?_⟩
    · subst e
      obtain ⟨q', eq', m, n⟩ := r1.1
      rw [e'] at eq'
      cases eq'
      rcases r2.1.news z hz y q ey eq with h | h
      · obtain ⟨u, hu, _⟩ := m.mut
        rw [h] at hu; cases hu
      · exact n h
    · rcases List.mem_cons.mp hr with rfl | hr
      · exact settle_na ef
      · exact r2.2 r' hr
  | exc k d e =>
    show Fin c W (RlE c) env H σ _ ((fe env).bind settle)
    rw [ef] at h ⊢
    exact h
  | no => rw [ef] at h; exact h.elim
theorem par_k {is : List Nat} {f : Env → Out (List R)} {D : Ends} {σ : St} {H : Hp} (h : tS c W (fun env => (f env).go fun rs env => if rs.length = is.length then .nx (setAllS is rs env) else .no) D σ H) :
    tP c W f σ H fun vs H1 => vs.length = is.length ∧ ∀ H2, (∀ a o, H1 a = some o → H2 a = some o) → D.nx (setAllV is vs σ) H2 := by
  obtain ⟨env, p, h⟩ := startS h
  refine stepE p h fun rs env1 vs H1 e p1 f1 r1 h1 => ?_
  have h1 : FinS c W env σ H D (if rs.length = is.length then .nx (setAllS is rs env1) else .no) := h1
  split at h1
  · rename_i hl
    refine ⟨by rw [r1.1.length]; exact hl, fun H2 ex => ?_⟩
    have pp := p.trans p1
    have pg : Post c.K c.la env1 σ H1 env1 σ H2 := .grow p1.rel ex
    have p3 := post_setRs hl pp (setA_of (r1.1.before p) r1.2)
    have g : Post c.K c.la (setAllS is rs env1) (setAllV is vs σ) H1 (setAllS is rs env1) (setAllV is vs σ) H2 := .grow p3.rel ex
    exact h1 _ _ (p3.trans g)
  · exact h1.elim
theorem st_par2 {i j : Nat} {x y : Str} {a b : Expr} {px py pt pos : Pos} {kt k2 pt2} {f : Env → Out (List R)} (hc : X.calm = true) (hN : X.N.Nodup) (hi : X.N[i]? = some x) (hj : X.N[j]? = some y) (hij : i ≠ j)
    (hx : X.env.scope.names.lookup x = some .local) (hy : X.env.scope.names.lookup y = some .local) (ha : PA X [a, b] (tP c W f))
    (hw : swappedStores [.Tuple [.Name x px, .Name y py] kt pt] (.Tuple [a, b] k2 pt2) X.env = pure (some [x, y])) :
    PS X (.Assign [.Tuple [.Name x px, .Name y py] kt pt] (.Tuple [a, b] k2 pt2) pos) (tS c W fun env => (f env).go fun rs env => if rs.length = [i, j].length then .nx (setAllS [i, j] rs env) else .no) := by
  refine impS (ps_par hc hN hi hj hij hx hy ha hw rfl) fun D σ H h => ?_
  obtain ⟨env, r, h⟩ := par_k h
  refine ⟨env, r, ?_⟩
  cases ef : f env with
  | ok rs env1 =>
    rw [ef] at h
    intro vs H1 p1 f1 r1
    obtain ⟨hl, h⟩ := h vs H1 p1 f1 r1
    obtain ⟨u, w, rfl⟩ : ∃ u w, vs = [u, w] := by
      match vs, hl with
      | [u, w], _ => exact ⟨u, w, rfl⟩
    exact ⟨u, w, rfl, h H1 fun _ _ h => h⟩
  | exc k d e => rw [ef] at h; exact h
  | no => rw [ef] at h; exact h
theorem st_par3 {i j l : Nat} {x y z : Str} {a b d : Expr} {px py pz pt pos : Pos} {kt k2 pt2} {f : Env → Out (List R)} (hc : X.calm = true) (hN : X.N.Nodup) (hi : X.N[i]? = some x) (hj : X.N[j]? = some y) (hl : X.N[l]? = some z) (hij : i ≠ j) (hil : i ≠ l) (hjl : j ≠ l)
    (hx : X.env.scope.names.lookup x = some .local) (hy : X.env.scope.names.lookup y = some .local) (hz : X.env.scope.names.lookup z = some .local) (ha : PA X [a, b, d] (tP c W f))
    (hw : swappedStores [.Tuple [.Name x px, .Name y py, .Name z pz] kt pt] (.Tuple [a, b, d] k2 pt2) X.env = pure (some [x, y, z])) :
    PS X (.Assign [.Tuple [.Name x px, .Name y py, .Name z pz] kt pt] (.Tuple [a, b, d] k2 pt2) pos) (tS c W fun env => (f env).go fun rs env => if rs.length = [i, j, l].length then .nx (setAllS [i, j, l] rs env) else .no) := by
  refine impS (ps_par3 hc hN hi hj hl hij hil hjl hx hy hz ha hw rfl) fun D σ H h => ?_
  obtain ⟨env, r, h⟩ := par_k h
  refine ⟨env, r, ?_⟩
  cases ef : f env with
  | ok rs env1 =>
    rw [ef] at h
    intro vs H1 p1 f1 r1
    obtain ⟨hl, h⟩ := h vs H1 p1 f1 r1
    obtain ⟨u, v, w, rfl⟩ : ∃ u v w, vs = [u, v, w] := by
      match vs, hl with
      | [u, v, w], _ => exact ⟨u, v, w, rfl⟩
    exact ⟨u, v, w, rfl, h H1 fun _ _ h => h⟩
  | exc k d e => rw [ef] at h; exact h
  | no => rw [ef] at h; exact h
theorem st_parN {is : List Nat} {es ts : List Expr} {kt k2 : Nat} {pt pt2 pos : Pos} {f : Env → Out (List R)} (hK : X.K = c.K) (ha : PA X es (tP c W f)) (hg : PG X (.Tuple ts kt pt) (gTup c.K is.length (gNames is))) (hz : is.length ≤ 100)
    (hw : swappedStores [.Tuple ts kt pt] (.Tuple es k2 pt2) X.env = pure none) :
    PS X (.Assign [.Tuple ts kt pt] (.Tuple es k2 pt2) pos) (tS c W fun env => (f env).go fun rs env => if rs.length = is.length then .nx (setAllS is rs env) else .no) := by
  refine impS (ps_asg (pe_tup ha) hg rfl hw rfl) fun D σ H h => ?_
  obtain ⟨env, r, h⟩ := par_k h
  refine ⟨env, r, ?_⟩
  cases ef : f env with
  | ok rs env1 =>
    rw [ef] at h
    intro vs H1 p1 f1 r1
    obtain ⟨hl, h⟩ := h vs H1 p1 f1 r1
    refine ⟨by rw [hl, sizeLine_eq]; omega, fun q hq => ?_⟩
    exact ⟨q, vs, rfl, SqT.of upd_same, hl, gNames_of hl (h _ (ext_new hq))⟩
  | exc k d e => rw [ef] at h; exact h
  | no => rw [ef] at h; exact h
end
end Di
namespace Di
open PySem PySem.Spec PyProof.Rows L2
section
variable {K : PySem.W.Frag} {la : List Addr} {env env' : Env} {σ : St} {H : Hp}
/-- the object of slot i -/
theorem obj_at {i : Nat} {x : M} (rel : ERel K la env σ H) (h : de env (.a i) = some (.m x)) : ∃ p, σ[i]? = some (some (.ref p)) ∧ MOk K H p x ∧ Own la env σ p ∧
    (slot env i = some (.m x) ∨ ∃ j, slot env i = some (.l j) ∧ env.le[j]? = some x ∧ la[j]? = some p) := by
  unfold de at h
  cases es : slot env i with
  | none => simp only [es] at h; cases h
  | some s =>
    simp only [es] at h
    obtain ⟨v, e1, e2⟩ := rel.at_ i s es
    cases s with
    | v d => cases h
    | m y =>
      cases h
      obtain ⟨p, rfl, m⟩ := e2
      exact ⟨p, e1, m, .inl ⟨i, x, es, e1⟩, .inl rfl⟩
    | l j =>
      unfold lookS at h
      cases ej : env.le[j]? with
      | none => simp only [ej] at h; cases h
      | some y =>
        simp only [ej] at h
        cases h
        obtain ⟨p, e3, rfl⟩ := e2
        obtain ⟨p', e4, m⟩ := rel.lent j x ej
        rw [e3] at e4
        cases e4
        exact ⟨p, e1, m, .inr (List.mem_of_getElem? e3), .inr ⟨j, rfl, ej, e3⟩⟩
    | e d => cases h
theorem chg_ok {f : M → Option M} {i : Nat} (rel : ERel K la env σ H) (h : ∀ k d e, chg f i env ≠ .exc k d e) (hn : chg f i env ≠ .no) : ∃ x y p env', de env (.a i) = some (.m x) ∧ f x = some y ∧ chg f i env = .nx env' ∧ σ[i]? = some (some (.ref p)) ∧ MOk K H p x ∧
    ∀ H', (∀ a, a ≠ p → H' a = H a) → Kp H H' → MOk K H' p y → Post K la env σ H env' σ H' := by
  unfold chg at hn
  cases es : slot env i with
  | none => simp only [es] at hn; exact absurd rfl hn
  | some s =>
    simp only [es] at hn
    cases s with
    | v d => exact absurd rfl hn
    | e d => exact absurd rfl hn
    | m x =>
      dsimp only at hn
      split at hn
      · rename_i y ey
        have hd : de env (.a i) = some (.m x) := by unfold de; simp only [es]; rfl
        obtain ⟨p, e1, m, o, _⟩ := obj_at rel hd
        refine ⟨x, y, p, setS env i (.m y), hd, ey, by unfold chg; simp only [es, ey], e1, m, fun H' same k my => ⟨fun a ob ha no => by rw [same a fun e => no (e ▸ o)]; exact ha, ?_, fun q oq => .inl ((own_setm es).mp oq)⟩⟩
        have cs : ∀ {j : Nat} {s : Sl}, slot (setS env i (.m y)) j = some s → (j = i ∧ s = .m y) ∨ (j ≠ i ∧ slot env j = some s) := fun {j s} h => by
          by_cases hj : j = i
          · subst hj; rw [slot_set_self es] at h; cases h; exact .inl ⟨rfl, rfl⟩
          · rw [slot_set_ne hj] at h; exact .inr ⟨hj, h⟩
        have ism : ∀ {j : Nat} {z : M}, slot (setS env i (.m y)) j = some (.m z) → ∃ z', slot env j = some (.m z') := fun {j z} h => by
          rcases cs h with ⟨e, _⟩ | ⟨_, h⟩
          · exact ⟨x, e ▸ es⟩
          · exact ⟨z, h⟩
        refine ⟨by simp [setS, rel.len], fun j s e => ?_, fun j z e => ?_, rel.ll, fun j l z w q hz hw f1 f2 => ?_, fun j z q hz f1 => ?_, rel.nd⟩
        · rcases cs e with ⟨ej, rfl⟩ | ⟨hj, e⟩
          · subst ej
            exact ⟨.ref p, e1, p, rfl, my⟩
          · obtain ⟨v, g1, g2⟩ := rel.at_ j s e
            refine ⟨v, g1, ?_⟩
            cases s with
            | v d => exact Pd.keep k g2
            | m z =>
              obtain ⟨q, rfl, mz⟩ := g2
              refine ⟨q, rfl, mz.keep k fun ob hb => ?_⟩
              rw [same]
              · exact hb
              · rintro rfl
                exact hj (rel.apart j i z x q e es g1 e1)
            | l j => exact g2
            | e d => exact g2
        · obtain ⟨q, g1, mz⟩ := rel.lent j z e
          refine ⟨q, g1, mz.keep k fun ob hb => ?_⟩
          rw [same]
          · exact hb
          · rintro rfl
            exact rel.out i x q es e1 (List.mem_of_getElem? g1)
        · obtain ⟨z', hz'⟩ := ism hz
          obtain ⟨w', hw'⟩ := ism hw
          exact rel.apart j l z' w' q hz' hw' f1 f2
        · obtain ⟨z', hz'⟩ := ism hz
          exact rel.out j z' q hz' f1
      · exact absurd rfl hn
    | l j =>
      dsimp only at hn
      cases ej : env.le[j]? with
      | none => simp only [ej] at hn; exact absurd rfl hn
      | some x =>
        simp only [ej] at hn
        split at hn
        · rename_i y ey
          have hd : de env (.a i) = some (.m x) := by unfold de; simp only [es]; unfold lookS; simp only [ej]
          obtain ⟨p, e1, m, o, hz⟩ := obj_at rel hd
          obtain ⟨j', h1, h2, h3⟩ : ∃ j', slot env i = some (.l j') ∧ env.le[j']? = some x ∧ la[j']? = some p := by
            rcases hz with z | z
            · rw [es] at z; cases z
            · exact z
          rw [es] at h1
          cases h1
          have lj : j < env.le.length := (List.getElem?_eq_some_iff.mp ej).1
          refine ⟨x, y, p, ⟨env.sl, env.le.set j y⟩, hd, ey, by unfold chg; simp only [es, ej, ey], e1, m, fun H' same k my => ⟨fun a ob ha no => by rw [same a fun e => no (e ▸ o)]; exact ha, ?_, fun q oq => .inl oq⟩⟩
          refine ⟨rel.len, fun l s e => ?_, fun l z e => ?_, by rw [← rel.ll]; simp, rel.apart, rel.out, rel.nd⟩
          · obtain ⟨v, g1, g2⟩ := rel.at_ l s e
            refine ⟨v, g1, ?_⟩
            cases s with
            | v d => exact Pd.keep k g2
            | m z =>
              obtain ⟨q, rfl, mz⟩ := g2
              refine ⟨q, rfl, mz.keep k fun ob hb => ?_⟩
              rw [same]
              · exact hb
              · rintro rfl
                exact rel.out l z q e g1 (List.mem_of_getElem? h3)
            | l j => exact g2
            | e d => exact g2
          · by_cases hl : l = j
            · subst hl
              have e : (env.le.set l y)[l]? = some z := e
              rw [List.getElem?_set_self lj] at e
              cases e
              exact ⟨p, h3, my⟩
            · have e : (env.le.set j y)[l]? = some z := e
              rw [List.getElem?_set_ne (Ne.symm hl)] at e
              obtain ⟨q, g1, mz⟩ := rel.lent l z e
              refine ⟨q, g1, mz.keep k fun ob hb => ?_⟩
              rw [same]
              · exact hb
              · rintro rfl
                exact hl (nodup_at rel.nd g1 h3)
        · exact absurd rfl hn
theorem chg_exc {f : M → Option M} {i k : Nat} {d : Option D} {e : Env} (h : chg f i env = .exc k d e) : False := by
  unfold chg at h
  split at h
  · split at h <;> cases h
  · split at h
    · split at h <;> cases h
    · cases h
  · cases h
theorem kp_lst {p : Addr} {vs ws : List V} (h : H p = some (.lst vs)) : Kp H (upd H p (.lst ws)) :=
  ⟨fun a xs ha => by rw [upd_ne (ne_of ha h (fun z => by cases z))]; exact ha, fun a o u ha => by rw [upd_ne (ne_of ha h (fun z => by cases z))]; exact ha⟩
end
section
variable {X : Cx} {c : Cn} {W : WX}
/-- a list in slot i changes -/
theorem chg_list {g : List D → Option (List D)} {f : M → Option M} {i : Nat} {env0 env : Env} {σ0 σ : St} {H0 H : Hp} {D : Ends} (hf : ∀ x y, f x = some y → ∃ xs ys, x = .lst xs ∧ y = .lst ys ∧ g xs = some ys) (p : Post c.K c.la env0 σ0 H0 env σ H) (h : FinS c W env0 σ0 H0 D (chg f i env)) :
    ∃ a vs xs ys, σ[i]? = some (some (.ref a)) ∧ H a = some (.lst vs) ∧ vs.length ≤ sizeLine ∧ PdA c.K H vs xs ∧ g xs = some ys ∧ ∀ ws, ws.length ≤ sizeLine → PdA c.K (upd H a (.lst ws)) ws ys → D.nx σ (upd H a (.lst ws)) := by
  obtain ⟨x, y, a, env', h1, h2, h3, h4, h5, h6⟩ := chg_ok (f := f) (i := i) p.rel (fun k d e z => chg_exc z) (fun z => by rw [z] at h; exact h)
  obtain ⟨xs, ys, rfl, rfl, hg⟩ := hf x y h2
  obtain ⟨vs, k1, k2, k3⟩ := h5
  rw [h3] at h
  exact ⟨a, vs, xs, ys, h4, k1, k2, k3, hg, fun ws z1 z2 => h σ _ (p.trans (h6 _ (fun b hb => upd_ne hb) (kp_lst k1) ⟨ws, upd_same, z1, z2⟩))⟩
theorem isLs_k {env : Env} {i : Nat} (h : isLs env i = true) : ∃ xs, de env (.a i) = some (.m (.lst xs)) := by
  unfold isLs at h
  split at h
  · rename_i xs e; exact ⟨xs, e⟩
  · cases h
theorem st_put {i : Nat} {x : Str} {k e : Expr} {px tpos pos : Pos} {fk fe : Env → Out R} (hK : X.K = c.K) (hN : X.N[i]? = some x) (hv : Vis X.env.scope x) (hd : (x == ("__debug__" : Str)) = false) (hcd : (x == ("__classdict__" : Str)) = false) (hk : PE X k (tE c W fk)) (he : PE X e (tE c W fe)) (h0 : isComp e = false)
    (ha : ∀ v, assign (.Subscript (.Name x px) k tpos) X.env v = (do
      let ov ← holding [v] (eval (.Name x px) X.env)
      let iv ← holding [v, ov] (eval k X.env)
      standAt tpos
      holding [v, ov, iv] (setItem ov iv v)
      release [v, ov, iv] [])) :
    PS X (.Assign [.Subscript (.Name x px) k tpos] e pos) (tS c W fun env => ((fe env).bind freeze).go fun d env => if isLs env i = true then ((fk env).bind intOf).go fun k env => chg (putM k d) i env else .no) := by
  have hsw : swapsWithSole [.Subscript (.Name x px) k tpos] e pos.line X.env = pure false := swaps_no (t := some (.Subscript (.Name x px) k tpos)) (l := pos.line) (env := X.env) h0
  have hst : swappedStores [.Subscript (.Name x px) k tpos] e X.env = pure none := rfl
  refine impS (ps_asg (s_fz he) (pg_sub (pe_var hN hv hd hcd) hk set_list ha) hsw hst rfl) fun D σ H h => ?_
  obtain ⟨env, p, h⟩ := startS h
  refine stepE p h fun d env1 v H1 _ p1 f1 r1 h1 => ?_
  have pp := p.trans p1
  have h1 : FinS c W env σ H D (if isLs env1 i = true then ((fk env1).bind intOf).go fun k env => chg (putM k d) i env else .no) := h1
  split at h1
  · rename_i hl
    obtain ⟨xs, hd⟩ := isLs_k hl
    obtain ⟨a, ea, _, _, _⟩ := obj_at pp.rel hd
    refine ⟨.ref a, ea, ?_⟩
    refine ⟨env1, p1.rel, ?_⟩
    cases ek : fk env1 with
    | ok r env2 =>
      rw [ek] at h1
      intro w H2 p2 f2 r2
      have h1 : FinS c W env σ H D ((intOf r env2).go fun k env => chg (putM k d) i env) := h1
      unfold intOf at h1
      split at h1
      · rename_i k _
        have e := r2.1
        cases e
        have h1 : FinS c W env σ H D (chg (putM k d) i env2) := h1
        obtain ⟨b, vs, xs, ys, g1, g2, g3, g4, g5, g6⟩ := chg_list (g := fun xs => match ixD xs.length k with
          | some j => some (xs.set j d)
          | none => none) (fun x y e => by
            unfold putM at e
            split at e
            · split at e
              · rename_i j ej
                cases e
                exact ⟨_, _, rfl, rfl, by rw [ej]⟩
              · cases e
            · cases e) (pp.trans p2) h1
        rw [ea] at g1
        cases g1
        split at g5
        · rename_i j ej
          cases g5
          have kk := kp_lst (ws := vs.set j v) g2
          exact ⟨a, vs, k, j, rfl, rfl, g2, by rw [← ixD_N, g4.length]; exact ej, g6 _ (by rw [List.length_set]; exact g3) ((g4.keep kk).set j (Pd.keep kk (Pd.keep (p1.rel.kp p2.ext) r1)))⟩
        · cases g5
      · exact h1.elim
    | exc k d e =>
      rw [ek] at h1
      exact fun cls dd H2 p2 f2 x => h1 cls dd σ H2 (pp.trans p2) x
    | no => rw [ek] at h1; exact h1.elim
  · exact h1.elim
theorem st_app {i : Nat} {x : Str} {e : Expr} {px apos cpos pos : Pos} {fe : Env → Out R} (hK : X.K = c.K) (hN : X.N[i]? = some x) (hv : Vis X.env.scope x) (hd : (x == ("__debug__" : Str)) = false) (hcd : (x == ("__classdict__" : Str)) = false) (he : PE X e (tE c W fe)) (hs : noStar e = true)
    (hl : (apos.endLine == cpos.line) = true) :
    PS X (.Expr (.Call (.Attribute (.Name x px) "append" apos) [e] [] cpos) pos) (tS c W fun env => if isLs env i = true then ((fe env).bind freeze).go fun d env => chg (appD d) i env else .no) := by
  refine impS (ps_expr (pe_bm PySem.F.plainAttrs_list PySem.F.slot_list_append PySem.F.type_list_append mt_append (pe_var hN hv hd hcd) (pa_cons (s_fz he) pa_nil (star_of hs)) (hfew := by rw [star_of hs]; rfl) (hs := star_of hs) (hline := hl)) rfl) fun D σ H h => ?_
  obtain ⟨env, p, h⟩ := startS h
  have h : FinS c W env σ H D (if isLs env i = true then ((fe env).bind freeze).go fun d env => chg (appD d) i env else .no) := h
  split at h
  · rename_i hl
    obtain ⟨xs, hd⟩ := isLs_k hl
    obtain ⟨a, ea, ⟨vs0, b1, b2, b3⟩, _, _⟩ := obj_at p.rel hd
    refine ⟨.ref a, ea, .inl ⟨rfl, vs0, SqL.of b1⟩, ?_⟩
    refine stepE p h fun d env1 v H1 _ p1 f1 r1 h1 => ?_
    have pp := p.trans p1
    obtain ⟨b, vs, xs, ys, g1, g2, g3, g4, g5, g6⟩ := chg_list (g := fun xs => if xs.length < LINE then some (xs ++ [d]) else none) (fun x y e => by
      unfold appD at e
      split at e
      · split at e
        · rename_i hz
          cases e
          exact ⟨_, _, rfl, rfl, by rw [if_pos hz]⟩
        · cases e
      · cases e) pp h1
    rw [ea] at g1
    cases g1
    split at g5
    · rename_i hz
      cases g5
      rw [← g4.length, LINE_eq] at hz
      have kk := kp_lst (ws := vs ++ [v]) g2
      exact ⟨a, vs, v, rfl, rfl, g2, hz, g6 _ (by rw [List.length_append]; exact hz) ((g4.keep kk).append (.one (Pd.keep kk r1)))⟩
    · cases g5
  · exact h.elim
def extG (y : RM) (xs : List D) : Option (List D) := match y with
  | .m (.lst zs) => if xs.length + zs.length ≤ LINE then some (xs ++ zs) else none
  | _ => none
theorem ext_of {r : RM} {x z : M} (e : extD r x = some z) : ∃ xs ys, x = .lst xs ∧ z = .lst ys ∧ extG r xs = some ys := by
  unfold extD at e
  split at e
  · split at e
    · split at e
      · rename_i hz
        cases e
        exact ⟨_, _, rfl, rfl, if_pos hz⟩
      · cases e
    · cases e
  · cases e
theorem st_ext {i : Nat} {x : Str} {e : Expr} {px apos cpos pos : Pos} {fe : Env → Out R} (hK : X.K = c.K) (hN : X.N[i]? = some x) (hv : Vis X.env.scope x) (hd : (x == ("__debug__" : Str)) = false) (hcd : (x == ("__classdict__" : Str)) = false) (he : PE X e (tE c W fe)) (hs : noStar e = true)
    (hl : (apos.endLine == cpos.line) = true) :
    PS X (.Expr (.Call (.Attribute (.Name x px) "extend" apos) [e] [] cpos) pos) (tS c W fun env => if isLs env i = true then (fe env).go fun r env => (match de env r with
      | some x => chg (extD x) i env
      | none => .no) else .no) := by
  refine impS (ps_expr (pe_bm PySem.F.plainAttrs_list PySem.F.slot_list_extend PySem.F.type_list_extend mt_extend (pe_var hN hv hd hcd) (pa_cons he pa_nil (star_of hs)) (hfew := by rw [star_of hs]; rfl) (hs := star_of hs) (hline := hl)) rfl) fun D σ H h => ?_
  obtain ⟨env, p, h⟩ := startS h
  have h : FinS c W env σ H D (if isLs env i = true then (fe env).go fun r env => (match de env r with
      | some x => chg (extD x) i env
      | none => .no) else .no) := h
  split at h
  · rename_i hl
    obtain ⟨xs, hd⟩ := isLs_k hl
    obtain ⟨a, ea, ⟨vs0, b1, b2, b3⟩, _, _⟩ := obj_at p.rel hd
    refine ⟨.ref a, ea, .inl ⟨rfl, vs0, SqL.of b1⟩, ?_⟩
    refine stepE p h fun r env1 v H1 _ p1 f1 r1 h1 => ?_
    have pp := p.trans p1
    have h1 : FinS c W env σ H D (match de env1 r with
      | some x => chg (extD x) i env1
      | none => .no) := h1
    split at h1
    · rename_i y ey
      have ly := lk_of p1.rel r1.1 ey
      obtain ⟨b, vs, xs, ys, g1, g2, g3, g4, g5, g6⟩ := chg_list (g := extG y) (fun x z e => ext_of e) pp h1
      rw [ea] at g1
      cases g1
      unfold extG at g5
      split at g5
      · rename_i zs
        split at g5
        · rename_i hz
          cases g5
          obtain ⟨q, rfl, us, u1, u2, u3⟩ := ly
          rw [← g4.length, ← u3.length, LINE_eq] at hz
          have kk := kp_lst (ws := vs ++ us) g2
          exact ⟨a, q, vs, us, rfl, rfl, g2, u1, hz, g6 _ (by rw [List.length_append]; exact hz) ((g4.keep kk).append (u3.keep kk))⟩
        · cases g5
      · cases g5
    · exact h1.elim
  · exact h.elim
/-! ### x += e -/
theorem aug_k {op : Operator} {g : Int → Int → Int} {i : Nat} {f : Env → Out R} {D : Ends} {σ : St} {H : Hp} (hg : dAug op = dInt fun i j => some (g i j)) (hK : X.K = c.K)
    (h : tS c W (fun env => match slot env i with
      | some (.v d) => ((f env).bind fun y env => op2 (dAug op) (.v d) y env).go fun r env => augR i r env
      | _ => .no) D σ H) : tAug i (tE c W f) (ipI g) D σ H := by
  obtain ⟨env, p, h⟩ := startS h
  cases es : slot env i with
  | none => rw [es] at h; exact h.elim
  | some s =>
    rw [es] at h
    cases s with
    | v d =>
      obtain ⟨x, ex, hx⟩ := p.rel.at_ i _ es
      refine ⟨x, ex, env, p.rel, ?_⟩
      replace h : FinS c W env σ H D (((f env).bind fun y env => op2 (dAug op) (.v d) y env).go fun r env => augR i r env) := h
      cases ef : f env with
      | ok r env1 =>
        rw [ef] at h
        intro v H1 p1 f1 r1
        replace h : FinS c W env σ H D ((op2 (dAug op) (.v d) r env1).go fun r env => augR i r env) := h
        unfold op2 at h
        split at h
        · rename_i dx dy e1 e2
          cases e1
          split at h
          · rename_i res er
            rw [hg] at er
            unfold dInt at er
            split at er
            · rename_i a b ea
              cases er
              cases ea
              have hx : Pd c.K H x (.int a) := hx
              cases hx
              have := pd_int (lk_of p1.rel r1.1 e2)
              subst this
              refine ⟨a, b, rfl, rfl, ?_⟩
              exact h _ _ (p1.trans (post_setv p1.rel (.int _)))
            · cases er
          · exact h.elim
        · exact h.elim
      | exc k d e => rw [ef] at h; exact fun cls dd H2 p2 f2 x => h cls dd σ H2 p2 x
      | no => rw [ef] at h; exact h.elim
    | _ => exact h.elim
theorem st_aug {i : Nat} {x : Str} {op : Operator} {e : Expr} {pos pos' : Pos} {f : Env → Out R} (hop : op = .Add ∨ op = .Sub) (hK : X.K = c.K) (hN : X.N.Nodup) (hi : X.N[i]? = some x) (hx : Loc X.env.scope x) (hf : X.fn x = true ∨ X.env.scope.names.lookup x = some .local) (he : PE X e (tE c W f)) :
    PS X (.AugAssign (.Name x pos') op e pos) (tS c W fun env => match slot env i with
      | some (.v d) => ((f env).bind fun y env => op2 (dAug op) (.v d) y env).go fun r env => augR i r env
      | _ => .no) := by
  rcases hop with rfl | rfl
  · exact impS (ps_aug hN hi hx he ip_add hf) fun D σ H h => aug_k rfl hK h
  · exact impS (ps_aug hN hi hx he ip_sub hf) fun D σ H h => aug_k rfl hK h
end
end Di
namespace Di
open PySem PySem.Spec PyProof.Rows L2
section
variable {X : Cx} {c : Cn} {W : WX}
theorem loopF_cons {g : Tg} {chk : Env → Bool} {body : Env → Fl} {d : D} {ds : List D} {env0 : Env} {σ0 : St} {H0 : Hp} {D : Ends} {env : Env} (h : FinS c W env0 σ0 H0 D (loopF g chk body (d :: ds) env)) :
    ∃ envb, bindT g d env = some envb ∧ FinS c W env0 σ0 H0 D ((body envb).loop fun env => if chk env = true then loopF g chk body ds env else .no) := by
  unfold loopF at h
  split at h
  · exact h.elim
  · rename_i envb eb
    exact ⟨envb, eb, h⟩
theorem for_k {tb : TS} {tg : Tg} {fI : Env → Out Src} {fb : Env → Fl} {D : Ends} {σ : St} {H0 : Hp} (hb : ∀ D σ H, tS c W fb D σ H → tb D σ H) (h : tS c W (fun env => (fI env).go fun src env => loopF tg (stands src) fb src.ds env) D σ H0) :
    tFor (tI c W fI) (gRead c.K tg) tb D σ H0 := by
  obtain ⟨env0, p, h⟩ := startS h
  refine stepE p h fun src env1 J H1 _ p1 f1 ⟨_, st, G, wd, hG⟩ h1 => ?_
  have pp := p.trans p1
  have hG : ∀ {env2 : Env} {σ2 : St} {H2 : Hp}, Post c.K c.la env1 σ H1 env2 σ2 H2 → stands src env2 = true → G H2 := fun {env2 σ2 H2} q s => hG (fun _ => False) (fun a z => z.elim) env2 σ2 H2 q.px s
  let P := fun (i : Nat) (σ' : St) (H : Hp) => i ≤ src.ds.length ∧ ∃ env, Post c.K c.la env1 σ H1 env σ' H ∧ stands src env = true ∧ FinS c W env0 σ H0 D (loopF tg (stands src) fb (src.ds.drop i) env)
  refine ⟨fun i m σ' H => m = src.ds.length - i ∧ P i σ' H, ⟨_, rfl, Nat.zero_le _, env1, .refl p1.rel, st, by rw [List.drop_zero]; exact h1⟩, ?_⟩
  rintro i m σ' H' ⟨rfl, hi, env, q, s, hl⟩
  have hg := hG q s
  by_cases hlt : i < src.ds.length
  · obtain ⟨d, ed⟩ : ∃ d, src.ds[i]? = some d := ⟨_, List.getElem?_eq_getElem hlt⟩
    have edr : src.ds.drop i = d :: src.ds.drop (i + 1) := by
      rw [List.drop_eq_getElem_cons hlt]
      rw [List.getElem?_eq_getElem hlt] at ed
      cases ed
      rfl
    rw [edr] at hl
    obtain ⟨envb, eb, hl⟩ := loopF_cons hl
    refine .inr ⟨wd.goes i H' hlt hg, P (i + 1), fun σ2 H2 z => ⟨src.ds.length - (i + 1), by omega, rfl, z⟩, fun x H2 hy => ?_⟩
    obtain ⟨ex, hx⟩ := wd.yields i H' x H2 d ed hg hy
    have g2 : Post c.K c.la env σ' H' env σ' H2 := .grow q.rel ex
    refine bind_ok g2.rel hx eb fun σ3 p3 f3 _ => hb _ _ _ ⟨envb, p3.rel, ?_⟩
    have q3 := (q.trans g2).trans p3
    refine finS_loop (pp.trans q3) hl fun env' σ4 H4 p4 p5 h4 => ?_
    split at h4
    · rename_i hc
      exact ⟨hlt, env', q3.trans p5, hc, h4⟩
    · exact h4.elim
  · have hi' : i = src.ds.length := by omega
    subst hi'
    rw [List.drop_length] at hl
    exact .inl ⟨wd.stops H' hg, hl σ' H' (pp.trans q)⟩
theorem st_for {tgE iter : Expr} {body : List Stmt} {pos : Pos} {tg : Tg} {fI : Env → Out Src} {fb : Env → Fl} (hp : PassesOwn (model X.prog X.w) X.A X.env X.xe) (hc : X.calm = true) (hi : PI X tgE iter (tI c W fI)) (hg : PG X tgE (gRead c.K tg)) (hb : PSs X body (tS c W fb))
    (hs : ∀ x, foldedSetIterable iter X.env x = pure x) : PS X (.For tgE iter body [] pos) (tS c W fun env => (fI env).go fun src env => loopF tg (stands src) fb src.ds env) :=
  impS (ps_for hp hc hi hg hb hs) fun D σ H h => for_k (fun _ _ _ h => h) h
theorem st_whl {t : Expr} {body : List Stmt} {pos : Pos} {n : Nat} {ft : Env → Out Bool} {fb : Env → Fl} (hp : PassesOwn (model X.prog X.w) X.A X.env X.xe) (ht : PT X t (tT c W ft)) (hb : PSs X body (tS c W fb)) :
    PS X (.While t body [] pos) (tS c W fun env => loopW ft fb n env) := by
  refine impS (ps_while hp ht hb) fun D σ H h => ?_
  obtain ⟨env0, p, h⟩ := startS h
  refine ⟨fun m σ' H' => ∃ env, Post c.K c.la env0 σ H env σ' H' ∧ FinS c W env0 σ H D (loopW ft fb m env), ⟨n, env0, p, h⟩, ?_⟩
  rintro m σ1 H1 ⟨env, q, hl⟩
  cases m with
  | zero => exact hl.elim
  | succ m =>
    have hl : FinS c W env0 σ H D ((ft env).go fun b env => if b = true then (fb env).loop (loopW ft fb m) else .nx env) := hl
    refine stepE q hl fun b env1 v H2 _ p1 f1 r1 h1 => ?_
    subst r1
    cases v with
    | true =>
      rw [if_pos rfl]
      refine ⟨fun σ' H' => ∃ env, Post c.K c.la env0 σ H env σ' H' ∧ FinS c W env0 σ H D (loopW ft fb m env), fun σ' H' z => ⟨m, Nat.lt_succ_self m, z⟩, env1, p1.rel, ?_⟩
      exact finS_loop (q.trans p1) h1 fun env' σ4 H4 p4 p5 h4 => ⟨env', p4, h4⟩
    | false => exact h1 σ1 H2 (q.trans p1)
end
end Di
namespace Di
open PySem PySem.Spec PyProof.Rows L2
/-! ### keywords -/
section
variable {K : PySem.W.Frag} {la : List Addr} {env0 env : Env} {σ : St} {H0 H : Hp}
/-- arguments, by places -/
structure AIx (K : PySem.W.Frag) (la : List Addr) (env0 : Env) (H0 : Hp) (env : Env) (H : Hp) (σ : St) (vs : List V) (rs : List R) : Prop where
  len : vs.length = rs.length
  at_ : ∀ (i : Nat) v r, vs[i]? = some v → rs[i]? = some r → RRel K la env σ H v r ∧ New la env0 σ H0 v r
  ap : ∀ (i j : Nat) x y p, i ≠ j → rs[i]? = some (.m x) → rs[j]? = some (.m y) → vs[i]? = some (.ref p) → vs[j]? ≠ some (.ref p)
theorem ARel.ix {vs : List V} {rs : List R} (h : ARel K la env0 H0 env H σ vs rs) : AIx K la env0 H0 env H σ vs rs := by
  induction h with
  | nil => exact ⟨rfl, fun i v r h => by simp at h, fun i j x y p _ h => by simp at h⟩
  | @cons v vs r rs a b d t ih =>
    refine ⟨congrArg Nat.succ ih.len, fun i w s h1 h2 => ?_, fun i j x y p n h1 h2 h3 h4 => ?_⟩
    · cases i with
      | zero => simp at h1 h2; subst h1 h2; exact ⟨a, b⟩
      | succ i => exact ih.at_ i w s (by simpa using h1) (by simpa using h2)
    · cases i with
      | zero =>
        cases j with
        | zero => exact n rfl
        | succ j =>
          simp at h1 h3 h2 h4
          subst h1 h3
          refine d x p rfl rfl (.ref p, .m y) ?_ y rfl rfl
          exact List.mem_of_getElem? (i := j) (by rw [List.getElem?_zip_eq_some]; exact ⟨h4, h2⟩)
      | succ i =>
        cases j with
        | zero =>
          simp at h1 h3 h2 h4
          subst h2 h4
          refine d y p rfl rfl (.ref p, .m x) ?_ x rfl rfl
          exact List.mem_of_getElem? (i := i) (by rw [List.getElem?_zip_eq_some]; exact ⟨h3, h1⟩)
        | succ j => exact ih.ap i j x y p (fun e => n (by rw [e])) (by simpa using h1) (by simpa using h2) (by simpa using h3) (by simpa using h4)
theorem AIx.rel : ∀ {vs : List V} {rs : List R}, AIx K la env0 H0 env H σ vs rs → ARel K la env0 H0 env H σ vs rs
  | [], [], _ => .nil
  | v :: vs, r :: rs, h => by
    obtain ⟨a, b⟩ := h.at_ 0 v r rfl rfl
    refine .cons a b (fun x p e1 e2 q hq y e3 e4 => ?_) (AIx.rel ⟨by simpa using h.len, fun i w s h1 h2 => h.at_ (i + 1) w s (by simpa using h1) (by simpa using h2), fun i j x y p n h1 h2 h3 => by
      have := h.ap (i + 1) (j + 1) x y p (fun e => n (by omega)) (by simpa using h1) (by simpa using h2) (by simpa using h3)
      simpa using this⟩)
    subst e1 e2
    obtain ⟨i, hi⟩ := List.mem_iff_getElem?.mp hq
    rw [List.getElem?_zip_eq_some] at hi
    exact h.ap 0 (i + 1) x y p (by omega) rfl (by simpa [e3] using hi.2) rfl (by simpa [e4] using hi.1)
  | [], _ :: _, h => nomatch h.len
  | _ :: _, [], h => nomatch h.len
theorem ARel.append {env1 : Env} {H1 : Hp} {vs us : List V} {rs ts : List R} (p0 : Post K la env0 σ H0 env1 σ H1) (a : ARel K la env0 H0 env1 H1 σ vs rs) (p : Post K la env1 σ H1 env σ H) (f : Fil env1 env) (b : ARel K la env1 H1 env H σ us ts) :
    ARel K la env0 H0 env H σ (vs ++ us) (rs ++ ts) := by
  induction a with
  | nil => exact b.before p0
  | @cons v vs r rs a1 a2 a3 t ih =>
    refine .cons (a1.after p0.rel p f) a2 (fun x q e e' z hz y ey eq => ?_) ih
    replace hz : z ∈ (vs ++ us).zip (rs ++ ts) := hz
    rw [List.zip_append t.length] at hz
    rcases List.mem_append.mp hz with hz | hz
    · exact a3 x q e e' z hz y ey eq
    · subst e
      obtain ⟨q', eq', m, n⟩ := a1
      rw [e'] at eq'
      cases eq'
      rcases b.news z hz y q ey eq with h | h
      · obtain ⟨u, hu, _⟩ := m.mut
        rw [h] at hu; cases hu
      · exact n h
theorem pick_at {α : Type} {xs : List α} : ∀ {perm : List Nat}, (∀ j ∈ perm, j < xs.length) → ∀ i : Nat, (pick perm xs)[i]? = (perm[i]?).bind fun j => xs[j]?
  | [], _, i => by simp [pick]
  | j :: perm, h, i => by
    have hj := h j (List.mem_cons_self ..)
    have e : pick (j :: perm) xs = xs[j] :: pick perm xs := by
      unfold pick
      rw [List.filterMap_cons, List.getElem?_eq_getElem hj]
    rw [e]
    cases i with
    | zero => simp [List.getElem?_eq_getElem hj]
    | succ i =>
      have := pick_at (xs := xs) (perm := perm) (fun k hk => h k (List.mem_cons_of_mem _ hk)) i
      simpa using this
theorem pick_len {α : Type} {xs : List α} : ∀ {perm : List Nat}, (∀ j ∈ perm, j < xs.length) → (pick perm xs).length = perm.length
  | [], _ => rfl
  | j :: perm, h => by
    have hj := h j (List.mem_cons_self ..)
    unfold pick
    rw [List.filterMap_cons, List.getElem?_eq_getElem hj]
    exact congrArg Nat.succ (pick_len fun k hk => h k (List.mem_cons_of_mem _ hk))
theorem ARel.pick {perm : List Nat} {vs : List V} {rs : List R} (h : ARel K la env0 H0 env H σ vs rs) (hn : perm.Nodup) (hb : ∀ j ∈ perm, j < rs.length) : ARel K la env0 H0 env H σ (pick perm vs) (pick perm rs) := by
  have ix := h.ix
  have hv : ∀ j ∈ perm, j < vs.length := fun j hj => by rw [ix.len]; exact hb j hj
  refine AIx.rel ⟨by rw [pick_len hv, pick_len hb], fun i v r h1 h2 => ?_, fun i j x y p n h1 h2 h3 h4 => ?_⟩
  · rw [pick_at hv] at h1
    rw [pick_at hb] at h2
    cases e : perm[i]? with
    | none => rw [e] at h1; cases h1
    | some k =>
      rw [e] at h1 h2
      exact ix.at_ k v r h1 h2
  · rw [pick_at hb] at h1 h2
    rw [pick_at hv] at h3 h4
    cases e : perm[i]? with
    | none => rw [e] at h1; cases h1
    | some k =>
      cases e2 : perm[j]? with
      | none => rw [e2] at h2; cases h2
      | some l =>
        rw [e] at h1 h3
        rw [e2] at h2 h4
        refine ix.ap k l x y p (fun z => n ?_) h1 h2 h3 h4
        subst z
        exact nodup_at hn e e2
theorem vals_pick {vs : List V} {us : List Value} (h : Vals vs us) : ∀ {perm : List Nat}, Vals (pick perm vs) (pick perm us)
  | [] => .nil
  | j :: perm => by
    unfold pick
    rw [List.filterMap_cons, List.filterMap_cons]
    have hl := h.length
    cases e : vs[j]? with
    | none =>
      have : us[j]? = none := by
        rw [List.getElem?_eq_none_iff] at e ⊢
        omega
      rw [this]
      exact vals_pick h
    | some v =>
      obtain ⟨u, e2, r⟩ := h.get e
      rw [e2]
      exact .cons r (vals_pick h)
end
section
variable {X : Cx} {CX : CXT} {k n : Nat} {f : Addr} {fd : FuncData} {ps ks : List Str} {sp : Sp} {E : St → XK} {x : Str} {p pos : Pos} {e : Expr} {es : List Expr} {kws : List Keyword} {t tk : TA} {perm : List Nat}
/-- how keywords bind: by a permutation -/
abbrev KwB (K : PySem.W.Frag) (fd : FuncData) (ps : List Str) (n : Nat) (ks : List Str) (perm : List Nat) : Prop := KBn K fd ps n ks (fun us ws => pick perm (us ++ ws)) (fun vs zs => pick perm (vs ++ zs))
theorem run_fnKS {pins : List (Addr × Obj)} {σ : St} {H : Hp} {s : Shared} {Q : VK} {us ws : List Value} {vs zs : List V} (F : FnOk X.prog X.w X.K X.mg X.base CX k f fd ps sp) (hr : Room k X.A) (hb : KwB X.K fd ps n ks perm) (hx : PassesAt CX X σ (E σ))
    (I : Inv X pins σ H s) (r : Vals vs us) (rz : Vals zs ws) (l1 : vs.length = n) (l2 : zs.length = ks.length) (h : sp (pick perm (vs ++ zs)) H Q (E σ)) : wpAny (model X.prog X.w) X.A (call (.ref f) us (ks.zip ws)) (EP X pins σ Q) X.xe s := by
  have r2 := hb.rel r rz
  refine wpAny_call (codeAny_mono (F.run X.A X.stack s H ⟨us, ks.zip ws⟩ (pick perm (us ++ ws)) (pick perm (vs ++ zs)) Q (E σ) hr I.env0 (hb.to s us ws I.kIn (r.length.symm.trans l1) (rz.length.symm.trans l2)) r2 h) fun r s' hq => ?_)
  cases r with
  | error e => exact hx pins H s e s' I hq
  | ok fl =>
    cases fl with
    | ret u => exact I.after hq
    | next => exact False.elim hq
    | brk => exact False.elim hq
    | cont => exact False.elim hq
def tCallKS (n m : Nat) (perm : List Nat) (sp : Sp) (E : St → XK) (t tk : TA) : TE := fun σ H Q => t σ H fun vs H1 => tk σ H1 fun zs H2 => vs.length = n ∧ zs.length = m ∧ sp (pick perm (vs ++ zs)) H2 Q (E σ)
def kwNames : List Keyword → List (Option Str)
  | [] => []
  | k :: ks => k.arg :: kwNames ks
theorem kw_all {env : PySem.Env} {pos : Pos} : ∀ {kws : List Keyword} {ks : List Str}, kwNames kws = ks.map some → (backToKw pos (keywordEach kws env)).all (·.1.isSome) = true ∧ (backToKw pos (keywordEach kws env)).filterMap (·.1) = ks ∧ (backToKw pos (keywordEach kws env)).any (·.1.isNone) = false
  | [], [], _ => ⟨rfl, rfl, rfl⟩
  | ⟨nm, e, kp⟩ :: kws, k :: ks, h => by
    obtain ⟨h1, h2⟩ := List.cons.inj (show nm :: kwNames kws = some k :: ks.map some from h)
    subst h1
    obtain ⟨a, b, d⟩ := kw_all h2
    refine ⟨?_, ?_, ?_⟩
    · show (true && (backToKw pos (keywordEach kws env)).all (·.1.isSome)) = true
      rw [a]; rfl
    · show k :: (backToKw pos (keywordEach kws env)).filterMap (·.1) = k :: ks
      rw [b]
    · show (false || (backToKw pos (keywordEach kws env)).any (·.1.isNone)) = false
      rw [d]; rfl
  | [], _ :: _, h => nomatch h
  | _ :: _, [], h => nomatch h
theorem pe_callKS (F : FnOk X.prog X.w X.K X.mg X.base CX k f fd ps sp) (hr : Room k X.A) (hg : Gl X x) (hm : X.mg x = some (.ref f)) (hk : PySem.W.keepIn X.K (.ref f) = true) (hb : KwB X.K fd ps n ks perm) (hx : ∀ σ, PassesAt CX X σ (E σ))
    (ha : PA X es t) (hkw : PK X kws tk) (hks : kwNames kws = ks.map some) (hs : es.all noStar = true) (h0 : es = [] → t = tNil) (hdb : (x == ("__debug__" : Str)) = false) :
    PE X (.Call (.Name x p) es kws pos) (tCallKS n ks.length perm sp E t tk) := by
  obtain ⟨a1, a2, a3⟩ := kw_all (env := X.env) (pos := pos) hks
  refine ⟨fun pins s σ H Q I h => ?_⟩
  refine wpAny_Call_Name_kw (ld_glob I hg hm ?_ hdb)
  cases es with
  | nil =>
    rw [h0 rfl] at h
    refine PySem.W.callWith_KW0 (h₀ := X.base) I.ok.mod.kin hk a1 ?_ (by rw [a3]; rfl)
    refine thn (hkw.run pos pins s σ H _ I h) fun ws s2 ⟨zs, H2, I2, rz, l1, l2, q2⟩ => ⟨I2.kIn, ?_⟩
    rw [a2]
    exact run_fnKS (us := []) (vs := []) F hr hb (hx σ) I2 .nil rz l1 l2 q2
  | cons e es =>
    have hs' := hs
    simp only [List.all_cons, Bool.and_eq_true] at hs'
    refine PySem.W.callWith_KW (h₀ := X.base) I.ok.mod.kin hk a1 (thn (ha.run pos pins s σ H _ I h) fun us s1 ⟨vs, H1, I1, r, q⟩ => ?_) (by rw [a3, star_any hs]; rfl) (star_of hs'.1)
    refine thn (hkw.run pos pins s1 σ H1 _ I1 q) fun ws s2 ⟨zs, H2, I2, rz, l1, l2, q2⟩ => ⟨I2.kIn, ?_⟩
    rw [a2]
    exact run_fnKS F hr hb (hx σ) I2 r rz l1 l2 q2
end
section
variable {X : Cx} {c : Cn} {W : WX}
theorem impK {kws : List Keyword} {t t' : TA} (h : PK X kws t) (i : ∀ σ H Q, t' σ H Q → t σ H Q) : PK X kws t' := ⟨fun pos pins s σ H Q I q => h.run pos pins s σ H Q I (i σ H Q q)⟩
theorem k_nil : PK X [] (tA c W fun env => .ok [] env) := impK pk_nil fun σ H Q h => by
  obtain ⟨env, p, fl, h⟩ := start_ h
  exact h [] H p fl .nil
theorem k_cons {e : Expr} {kws : List Keyword} {nm : Option Str} {kpos : Pos} {fe : Env → Out R} {fs : Env → Out (List R)} (he : PE X e (tE c W fe)) (hs : PK X kws (tA c W fs)) :
    PK X (⟨nm, e, kpos⟩ :: kws) (tA c W fun env => (fe env).bind fun r env => (fs env).bind fun rs env => .ok (r :: rs) env) := impK (pk_cons he hs) fun σ H Q h => by
  obtain ⟨env, p, fl, h⟩ := start_ h
  refine step p fl h fun r env1 v H1 p1 f1 r1 h1 => ?_
  refine step (p.trans p1) (fl.trans f1) h1 fun rs env2 vs H2 p2 f2 r2 h2 => ?_
  refine h2 (v :: vs) H2 ((p.trans p1).trans p2) ((fl.trans f1).trans f2) (.cons (r1.1.after p1.rel p2 f2) r1.2 (fun x q e e' z hz y ey eq => ?_) (r2.before (p.trans p1)))
  subst e
  obtain ⟨q', eq', m, n⟩ := r1.1
  rw [e'] at eq'
  cases eq'
  rcases r2.news z hz y q ey eq with h | h
  · obtain ⟨u, hu, _⟩ := m.mut
    rw [h] at hu; cases hu
  · exact n h
theorem s_callk {CX : CXT} {k n np : Nat} {f : Addr} {fd : FuncData} {ps ks : List Str} {x : Str} {p pos : Pos} {es : List Expr} {kws : List Keyword} {perm : List Nat} {fC : Calls} {i : Nat} {fa fk : Env → Out (List R)} (F : FnOk X.prog X.w X.K X.mg X.base CX k f fd ps (spF c.K c.xr (fC i) np)) (hn : ∀ as le, fC i as le ≠ .no → as.length = np)
    (hr : Room k X.A) (hg : Gl X x) (hm : X.mg x = some (.ref f)) (hk : PySem.W.keepIn X.K (.ref f) = true) (hb : KwB X.K fd ps n ks perm) (hx : ∀ σ, PassesAt CX X σ (WE W σ))
    (ha : PA X es (tA c W fa)) (hkw : PK X kws (tA c W fk)) (hks : kwNames kws = ks.map some) (h0 : es = [] → ∀ env, fa env = .ok [] env) (hs : es.all noStar = true) (hdb : (x == ("__debug__" : Str)) = false)
    (hl1 : ∀ env rs env', fa env = .ok rs env' → rs.length = n) (hl2 : ∀ env rs env', fk env = .ok rs env' → rs.length = ks.length) (hp : perm.Nodup) (hpb : ∀ j ∈ perm, j < n + ks.length) :
    PE X (.Call (.Name x p) es kws pos) (tE c W fun env => (fa env).bind fun rs env => (fk env).bind fun zs env => doCall fC i (pick perm (rs ++ zs)) env) := by
  have fin : ∀ {env0 env1 env2 : Env} {σ : L2.St} {H0 H1 H2 : Hp} {Q : VK} {rs zs : List R} {vs us : List V}, Post c.K c.la env0 σ H0 env1 σ H1 → Fil env0 env1 → ARel c.K c.la env0 H0 env1 H1 σ vs rs → rs.length = n → Post c.K c.la env1 σ H1 env2 σ H2 → Fil env1 env2 → ARel c.K c.la env1 H1 env2 H2 σ us zs → zs.length = ks.length →
      Fin c W (RlE c) env0 H0 σ Q (doCall fC i (pick perm (rs ++ zs)) env2) → vs.length = n ∧ us.length = ks.length ∧ spF c.K c.xr (fC i) np (pick perm (vs ++ us)) H2 Q (WE W σ) := fun {env0 env1 env2 σ H0 H1 H2 Q rs zs vs us} p f a l1 p2 f2 b l2 h =>
    ⟨a.length.trans l1, b.length.trans l2, call_ok hn (p.trans p2) (f.trans f2) ((ARel.append p a p2 f2 b).pick hp fun j hj => by rw [List.length_append, l1, l2]; exact hpb j hj) h⟩
  cases es with
  | nil =>
    refine imp (pe_callKS (E := WE W) F hr hg hm hk hb hx pa_nil hkw hks hs (fun _ => rfl) hdb) fun σ H Q h => ?_
    obtain ⟨env, p, fl, h⟩ := start_ h
    rw [h0 rfl] at h
    have hn0 := hl1 env [] env (h0 rfl env)
    refine ⟨env, p.rel, ?_⟩
    have h : Fin c W (RlE c) env H σ Q ((fk env).bind fun zs env => doCall fC i (pick perm ([] ++ zs)) env) := h
    cases ef : fk env with
    | ok zs env2 =>
      rw [ef] at h
      exact fun us H2 p2 f2 r2 => fin p fl .nil hn0 p2 f2 r2 (hl2 _ _ _ ef) h
    | exc k d e => rw [ef] at h; exact fun cls dd H2 p2 f2 x => h cls dd H2 p2 f2 x
    | no => rw [ef] at h; exact h.elim
  | cons e es =>
    refine imp (pe_callKS (E := WE W) F hr hg hm hk hb hx ha hkw hks hs (fun z => nomatch z) hdb) fun σ H Q h => ?_
    obtain ⟨env, p, fl, h⟩ := start_ h
    refine ⟨env, p.rel, ?_⟩
    cases ea : fa env with
    | ok rs env1 =>
      rw [ea] at h
      intro vs H1 p1 f1 r1
      refine ⟨env1, p1.rel, ?_⟩
      have h : Fin c W (RlE c) env H σ Q ((fk env1).bind fun zs env => doCall fC i (pick perm (rs ++ zs)) env) := h
      cases ef : fk env1 with
      | ok zs env2 =>
        rw [ef] at h
        exact fun us H2 p2 f2 r2 => fin p1 f1 r1 (hl1 _ _ _ ea) p2 f2 r2 (hl2 _ _ _ ef) h
      | exc k d e => rw [ef] at h; exact fun cls dd H2 p2 f2 x => h cls dd H2 (p1.trans p2) (f1.trans f2) x
      | no => rw [ef] at h; exact h.elim
    | exc k d e => rw [ea] at h; exact fun cls dd H2 p2 f2 x => h cls dd H2 p2 f2 x
    | no => rw [ea] at h; exact h.elim
end
end Di
namespace Di
open PySem PySem.Spec PyProof.Rows L2
/-! ### the text is the tree -/
/-- the defs (name, how many parameters), how keywords bind, the constants -/
structure Tb where
  fns : List (Str × Nat)
  kws : List (Nat × Nat × List Str × List Nat)
  glo : List Str
  cls : List Str
  smp : List Nat
def visB (sc : Scope) (x : Str) : Bool := match sc.names.lookup x with
  | some .local => true
  | some .cell => true
  | some .free => true
  | _ => false
def locB (sc : Scope) (x : Str) : Bool := match sc.names.lookup x with
  | some .local => true
  | some .cell => true
  | _ => false
def gloB (sc : Scope) (x : Str) : Bool := match sc.names.lookup x with
  | some .globalImplicit => true
  | _ => false
def okN (x : Str) : Bool := !(x == ("__debug__" : Str)) && !(x == ("__classdict__" : Str))
def nameB (N : List Str) (i : Nat) (x : Str) : Bool := decide (N[i]? = some x)
def varB (N : List Str) (sc : Scope) (i : Nat) : Expr → Bool
  | .Name x _ => nameB N i x && visB sc x && okN x
  | _ => false
def tgNames (N : List Str) (st : Scope) : List Nat → List Expr → Bool
  | [], [] => true
  | i :: is, .Name x _ :: es => nameB N i x && locB st x && tgNames N st is es
  | _, _ => false
def mtG (N : List Str) (st : Scope) : Tg → Expr → Bool
  | .n i, .Name x _ => nameB N i x && locB st x
  | .t is, .Tuple es _ _ => tgNames N st is es
  | _, _ => false
def biName : Bi → String
  | .len => "len" | .int => "int" | .abs => "abs" | .min => "min" | .max => "max" | .sum => "sum" | .sorted => "sorted" | .tuple => "tuple" | .list => "list" | .set => "set"
  | .repr => "repr" | .str => "str" | .all => "all" | .any => "any"
def isNoneC : Expr → Bool
  | .Constant .none _ _ => true
  | _ => false
def isBoolC (v : Bool) : Expr → Bool
  | .Constant (.bool w) _ _ => v == w
  | _ => false
def notSlice : Expr → Bool
  | .Slice .. => false
  | _ => true
def isBack : Expr → Bool
  | .Slice none none (some (.UnaryOp o (.Constant (.int i) _ _) _)) _ => decide (o = .USub) && decide (i = 1)
  | _ => false
def notSuper : Expr → Bool
  | .Call (.Name _ _) [] [] _ => false
  | _ => true
def notSet : Expr → Bool
  | .Set .. => false
  | _ => true
def isTup : Expr → Bool
  | .Tuple .. => true
  | _ => false
def plainT : Expr → Bool
  | .UnaryOp .Not _ _ => false
  | .BoolOp .. => false
  | .IfExp .. => false
  | .Compare .. => false
  | _ => true
def kwStr : List Keyword → Option (List Str)
  | [] => some []
  | ⟨some x, _, _⟩ :: ks => (match kwStr ks with
    | some xs => some (x :: xs)
    | none => none)
  | ⟨none, _, _⟩ :: _ => none
def isName (x : Str) : Expr → Bool
  | .Name y _ => y == x
  | _ => false
def isTys (ts : List Ty) : Expr → Bool
  | .Name y _ => (match ts with
    | [t] => y == (tyN t : Str)
    | _ => false)
  | .Tuple es _ _ => tyNames ts es && decide (ts.length ≤ 100)
  | _ => false
def ownP (N : List Str) (own : List Nat) : List (Str × Nat) := own.map fun i => ((N[i]?).getD "", i)
def isCmpE : E → Bool
  | .cmp .. => true
  | .chn .. => true
  | .isN .. => true
  | .isB .. => true
  | _ => false
section
variable (N : List Str) (tb : Tb)
mutual
def mtE (sc : Scope) : E → Expr → Bool
  | .lit c, x => (match x with
    | .Constant k _ _ => decide (c = k) && (litD c).isSome
    | _ => false)
  | .var i, x => varB N sc i x
  | .glo i, x => (match x with
    | .Name y _ => decide (tb.glo[i]? = some y) && gloB sc y && okN y
    | _ => false)
  | .bin op a b, x => (match x with
    | .BinOp l o r _ => decide (op = o) && mtE sc a l && mtE sc b r
    | _ => false)
  | .cmp op a b, x => (match x with
    | .Compare l [o] [r] _ => decide (op = o) && !behindInMarks op r && mtE sc a l && mtE sc b r
    | _ => false)
  | .chn op op2 a b c, x => (match x with
    | .Compare l [o, o2] [r, r2] _ => decide (op = o) && decide (op2 = o2) && !lastMarks [op, op2] [r, r2] && mtE sc a l && mtE sc b r && mtE sc c r2
    | _ => false)
  | .isN neg a, x => (match x with
    | .Compare l [o] [r] _ => decide (o = if neg = true then .IsNot else .Is) && isNoneC r && mtE sc a l
    | _ => false)
  | .isB v neg a, x => (match x with
    | .Compare l [o] [r] _ => decide (o = if neg = true then .IsNot else .Is) && isBoolC v r && mtE sc a l
    | _ => false)
  | .neg a, x => (match x with
    | .UnaryOp o r _ => decide (o = .USub) && mtE sc a r
    | _ => false)
  | .notE a, x => (match x with
    | .UnaryOp o r _ => decide (o = .Not) && mtE sc a r
    | _ => false)
  | .andE a b, x => (match x with
    | .BoolOp o (l :: r :: rest) pos => decide (o = .And) && mtE sc a l && (if rest.isEmpty = true then mtE sc b r else mtE sc b (.BoolOp .And (r :: rest) pos))
    | _ => false)
  | .orE a b, x => (match x with
    | .BoolOp o (l :: r :: rest) pos => decide (o = .Or) && mtE sc a l && (if rest.isEmpty = true then mtE sc b r else mtE sc b (.BoolOp .Or (r :: rest) pos))
    | _ => false)
  | .ife t a b, x => (match x with
    | .IfExp c l r _ => mtT sc t c && mtE sc a l && mtE sc b r
    | _ => false)
  | .tup es, x => (match x with
    | .Tuple l _ _ => l.all noStar && mtEs sc es l
    | _ => false)
  | .lst es, x => (match x with
    | .List l _ => l.all noStar && mtEs sc es l
    | _ => false)
  | .sub a b, x => (match x with
    | .Subscript l r _ => notSlice r && mtE sc a l && mtE sc b r
    | _ => false)
  | .slc a lo hi, x => (match x with
    | .Subscript l (.Slice lo' hi' none _) _ => mtE sc a l && mtO sc lo lo' && mtO sc hi hi'
    | _ => false)
  | .rvs a, x => (match x with
    | .Subscript l r _ => isBack r && mtE sc a l
    | _ => false)
  | .call f es, x => (match x with
    | .Call (.Name y _) l [] _ => (match tb.fns[f]? with
      | some (z, _) => z == y && gloB sc y && okN y && l.all noStar && mtEs sc es l
      | none => false)
    | _ => false)
  | .calk f es ks perm, x => (match x with
    | .Call (.Name y _) l kws _ => (match tb.fns[f]?, kwStr kws with
      | some (z, _), some nms => z == y && gloB sc y && okN y && l.all noStar && decide ((f, l.length, nms, perm) ∈ tb.kws) && decide perm.Nodup && perm.all (fun j => decide (j < l.length + nms.length)) && mtEs sc es l && mtKs sc ks kws
      | _, _ => false)
    | _ => false)
  | .blt b es, x => (match x with
    | .Call (.Name y _) (l :: ls) [] _ => y == (biName b : Str) && gloB sc y && (l :: ls).all noStar && mtEs sc es (l :: ls)
    | _ => false)
  | .isi a ts, x => (match x with
    | .Call (.Name y _) [l, r] [] _ => y == ("isinstance" : Str) && gloB sc y && noStar l && isTys ts r && ts.all (fun t => gloB sc (tyN t)) && mtE sc a l
    | _ => false)
  | .bits a, x => (match x with
    | .Call (.Attribute l nm apos) [] [] pos => nm == ("bit_length" : Str) && (apos.endLine == pos.line) && notSuper l && mtE sc a l
    | _ => false)
  | .lc g own it c e, x => (match x with
    | .ListComp elt [⟨tg, iter, ifs, as⟩] scope _ => decide (as = 0) && blkC N sc scope (ownP N own) && (tgIx g).all (fun i => decide (i ∈ own)) && mtG N scope g tg && notSet iter && mtI sc it iter tg && mtTs (relS scope sc) c ifs && mtE (relS scope sc) e elt
    | _ => false)
  | .lc2 g own it c1 g2 own2 it2 c e, x => (match x with
    | .ListComp elt [⟨tg, iter, ifs, as⟩, ⟨tg2, iter2, ifs2, as2⟩] scope _ => decide (as = 0) && decide (as2 = 0) && blkC N sc scope (ownP N own) && (tgIx g).all (fun i => decide (i ∈ own)) && (tgIx g2).all (fun i => decide (i ∈ own2)) && own2.all (fun i => decide (i ∈ own)) &&
        mtG N scope g tg && mtG N scope g2 tg2 && notSet iter && notSet iter2 && mtI sc it iter tg && mtTs (relS scope sc) c1 ifs && mtI (relS scope sc) it2 iter2 tg2 && mtTs (relS scope sc) c ifs2 && mtE (relS scope sc) e elt
    | _ => false)
  | .dc .., _ => false
  | .exa _, _ => false
def mtEs (sc : Scope) : Es → List Expr → Bool
  | .nil, l => (match l with
    | [] => true
    | _ => false)
  | .cons e es, l => (match l with
    | x :: xs => mtE sc e x && mtEs sc es xs
    | _ => false)
def mtKs (sc : Scope) : Es → List Keyword → Bool
  | .nil, l => (match l with
    | [] => true
    | _ => false)
  | .cons e es, l => (match l with
    | ⟨_, x, _⟩ :: xs => mtE sc e x && mtKs sc es xs
    | _ => false)
def mtO (sc : Scope) : Oe → Option Expr → Bool
  | .none, x => (match x with
    | none => true
    | _ => false)
  | .some e, x => (match x with
    | some x => mtE sc e x
    | _ => false)
def mtT (sc : Scope) : T → Expr → Bool
  | .val e, x => mtE sc e x && (isCmpE e || plainT x)
  | .tru e, x => mtE sc e x && plainT x
  | .not t, x => (match x with
    | .UnaryOp o r _ => decide (o = .Not) && mtT sc t r
    | _ => false)
  | .and t u, x => (match x with
    | .BoolOp o (l :: r :: rest) pos => decide (o = .And) && mtT sc t l && (if rest.isEmpty = true then mtT sc u r else mtT sc u (.BoolOp .And (r :: rest) pos))
    | _ => false)
  | .or t u, x => (match x with
    | .BoolOp o (l :: r :: rest) pos => decide (o = .Or) && mtT sc t l && (if rest.isEmpty = true then mtT sc u r else mtT sc u (.BoolOp .Or (r :: rest) pos))
    | _ => false)
def mtTs (sc : Scope) : Ts → List Expr → Bool
  | .nil, l => (match l with
    | [] => true
    | _ => false)
  | .one t, l => (match l with
    | [x] => mtT sc t x
    | _ => false)
def mtI (sc : Scope) : It → Expr → Expr → Bool
  | .seq e, x, _ => mtE sc e x
  | .rng1 a, x, _ => (match x with
    | .Call (.Name y _) [l] [] _ => y == ("range" : Str) && gloB sc y && noStar l && mtE sc a l
    | _ => false)
  | .rng2 a b, x, _ => (match x with
    | .Call (.Name y _) [l, r] [] _ => y == ("range" : Str) && gloB sc y && noStar l && noStar r && mtE sc a l && mtE sc b r
    | _ => false)
  | .enum e, x, tg => (match x with
    | .Call (.Name y _) [l] [] _ => y == ("enumerate" : Str) && gloB sc y && noStar l && isTup tg && mtE sc e l
    | _ => false)
  | .rng3 .., _, _ => false
  | .zip .., _, _ => false
  | .rev .., _, _ => false
end
end
end Di
namespace Di
open PySem PySem.Spec PyProof.Rows L2
/-- built-ins that the defs name -/
def bltNames : List Str := ["len", "int", "abs", "min", "max", "sum", "sorted", "tuple", "list", "set", "repr", "str", "all", "any", "bool", "isinstance", "range", "enumerate", "zip", "reversed", "dict"]
/-- the exception classes -/
structure ExOk (tb : Tb) (K : PySem.W.Frag) (xr : XR) (mg : Str → Option Value) : Prop where
  cls : ∀ (i : Nat) (x : Str), tb.cls[i]? = some x → ∃ C, mg x = some (.ref C) ∧ (i ∈ tb.smp → PySem.W.excIn K C He.veBase "ValueError.__new__" = true ∧ PySem.W.keepIn K (.ref C) = true ∧ PySem.W.subIn K (.ref C) (.type "BaseException") = some true ∧ PySem.W.typeIn K (.ref C) = some (.type "type"))
  xr_ : ∀ k d cls dd H, xr k d cls dd H → ∃ x C, tb.cls[k]? = some x ∧ mg x = some (.ref C) ∧ cls = .ref C
  mk_ : ∀ (k : Nat) x C H, tb.cls[k]? = some x → mg x = some (.ref C) → xr k none (.ref C) none H
  exm : ∀ (i j : Nat) x y C C', tb.cls[i]? = some x → tb.cls[j]? = some y → mg x = some (.ref C) → mg y = some (.ref C') → PySem.W.exmOne K (.ref C) (.ref C') = some (decide (j = i ∨ j = 0))
structure Cok (tb : Tb) (G : Nat → Option D) (F : Calls) (k : Nat) (c : Cn) (N : List Str) (sc st : Scope) (X : Cx) (W : WX) : Prop where
  eK : X.K = c.K
  eN : X.N = N
  nd : N.Nodup
  eS : X.env.scope = sc
  kind : sc.kind = .function
  calm : X.calm = true
  room : Room k X.A
  fns : ∀ i x np, tb.fns[i]? = some (x, np) → ∃ f fd ps, X.mg x = some (.ref f) ∧ PySem.W.keepIn X.K (.ref f) = true ∧ Binds X.K fd ps [] ∧
    FnOk X.prog X.w X.K X.mg X.base (L2.CX X.prog X.w) k f fd ps (spF c.K c.xr (F i) np) ∧ (∀ n ks perm, (i, n, ks, perm) ∈ tb.kws → KwB X.K fd ps n ks perm)
  ar : ∀ i x np, tb.fns[i]? = some (x, np) → ∀ as le, F i as le ≠ .no → as.length = np
  free : ∀ x ∈ bltNames, X.mg x = none
  glo : ∀ i x, tb.glo[i]? = some x → ∃ v u d, G i = some d ∧ X.mg x = some u ∧ RelV v u ∧ ∀ H, Pd c.K H v d
  tk : Takes X W
  ex : ExOk tb c.K c.xr X.mg
  st : ∀ x, locB st x = true → Loc X.env.scope x ∧ (X.fn x = true ∨ X.env.scope.names.lookup x = some .local)
theorem visB_k {sc : Scope} {x : Str} (h : visB sc x = true) : Vis sc x := by
  unfold visB at h
  split at h
  · rename_i e; exact .inl e
  · rename_i e; exact .inr (.inl e)
  · rename_i e; exact .inr (.inr e)
  · cases h
theorem locB_k {sc : Scope} {x : Str} (h : locB sc x = true) : Loc sc x := by
  unfold locB at h
  split at h
  · rename_i e; exact .inl e
  · rename_i e; exact .inr e
  · cases h
theorem gloB_k {sc : Scope} {x : Str} (h : gloB sc x = true) : sc.names.lookup x = some .globalImplicit := by
  unfold gloB at h
  split at h
  · rename_i e; exact e
  · cases h
theorem okN_k {x : Str} (h : okN x = true) : (x == ("__debug__" : Str)) = false ∧ (x == ("__classdict__" : Str)) = false := by
  unfold okN at h
  simp only [Bool.and_eq_true, Bool.not_eq_true'] at h
  exact h
theorem relS_lookup {scope sc : Scope} {x : Str} {kd : NameKind} (hk : kd ≠ .free) (h : scope.names.lookup x = some kd) : (relS scope sc).names.lookup x = some kd := by
  suffices hh : ∀ ys : List (Str × NameKind), ys.lookup x = some kd → (ys.map fun (n, k) => if (k == .free && sc.kind == .function && sc.names.lookup n == some .cell) then (n, NameKind.cell) else (n, k)).lookup x = some kd from hh _ h
  clear h
  intro ys
  induction ys with
  | nil => intro h; cases h
  | cons y ys ih =>
    intro h
    obtain ⟨n, k⟩ := y
    rw [List.map_cons]
    by_cases e : x = n
    · subst e
      rw [List.lookup_cons_self] at h
      cases h
      have : (kd == NameKind.free && sc.kind == .function && sc.names.lookup x == some .cell) = false := by
        have : (kd == NameKind.free) = false := by simpa using hk
        rw [this]; rfl
      show List.lookup x ((if (kd == NameKind.free && sc.kind == .function && sc.names.lookup x == some .cell) = true then (x, NameKind.cell) else (x, kd)) :: _) = _
      rw [this, if_neg Bool.false_ne_true, List.lookup_cons_self]
    · have e' : (x == n) = false := by simpa using e
      have h' : ys.lookup x = some kd := by
        simpa [List.lookup_cons, e'] using h
      have hx : ∀ k', List.lookup x ((n, k') :: ys.map fun (n, k) => if (k == .free && sc.kind == .function && sc.names.lookup n == some .cell) then (n, NameKind.cell) else (n, k)) = some kd := fun k' => by
        rw [List.lookup_cons, e']
        exact ih h'
      show List.lookup x ((if (k == NameKind.free && sc.kind == .function && sc.names.lookup n == some .cell) = true then (n, NameKind.cell) else (n, k)) :: _) = _
      split
      · exact hx _
      · exact hx _
theorem takesF {X : Cx} : Takes X (fun _ _ _ _ => False) := fun u s' x => by
  obtain ⟨a, B, sI, pins, σ, H, cls, d, _, _, _, _, _, _, _, _, w⟩ := x
  exact w.elim
section
variable {tb : Tb} {G : Nat → Option D} {F : Calls} {k : Nat} {c : Cn} {N : List Str} {sc st : Scope} {X : Cx} {W : WX}
theorem Cok.blk (C : Cok tb G F k c N sc st X W) {scope : Scope} {own : List (Str × Nat)} (ok : BlkOk N sc scope own) (s : Shared) (H : Hp) (Ca : Addr) (cl : List (Str × Addr)) (fp : List Addr) :
    Cok tb G F k c N (relS scope sc) scope (X.blk s H scope (compEnvC scope cl Ca X.env) fp) (fun _ _ _ _ => False) where
  eK := C.eK
  eN := C.eN
  nd := C.nd
  eS := by
    rw [← C.eS]
    rfl
  kind := ok.kind
  calm := C.calm
  room := C.room
  fns := C.fns
  ar := C.ar
  free := C.free
  glo := C.glo
  tk := takesF
  ex := C.ex
  st := fun x h => by
    have es : (X.blk s H scope (compEnvC scope cl Ca X.env) fp).env.scope = relS scope sc := by rw [← C.eS]; rfl
    have hl := locB_k h
    rw [es]
    rcases hl with hl | hl
    · exact ⟨.inl (relS_lookup (by decide) hl), .inr (relS_lookup (by decide) hl)⟩
    · exact ⟨.inr (relS_lookup (by decide) hl), .inl (by show (scope.names.lookup x == some .cell) = true; rw [hl]; rfl)⟩
theorem Cok.glo_ (C : Cok tb G F k c N sc st X W) {x : Str} (h : gloB sc x = true) : Gl X x := by
  show X.env.scope.names.lookup x = _
  rw [C.eS]
  exact gloB_k h
theorem Cok.cmp (C : Cok tb G F k c N sc st X W) (op : CmpOp) : OpD X (compareOp op) (dCmp op) := opd_cmp (by have := C.room.un; omega) op
theorem opd_bin (op : Operator) : OpD X (binaryOp op) (dBin op) := by
  cases op with
  | Mult => exact opd_mul
  | Add => exact opd_add
  | _ => exact opd_ints (by intro e; cases e) (by intro e; cases e)
end
end Di
namespace Di
open PySem PySem.Spec PyProof.Rows L2
/-! ### built-ins by name -/
def biVal : Bi → Value
  | .int => .type "int" | .tuple => .type "tuple" | .list => .type "list" | .set => .type "set" | .str => .type "str"
  | .len => .builtin "len" | .abs => .builtin "abs" | .min => .builtin "min" | .max => .builtin "max" | .sum => .builtin "sum" | .sorted => .builtin "sorted" | .repr => .builtin "repr" | .all => .builtin "all" | .any => .builtin "any"
theorem blD_no {X : Cx} {f : Value} {b : Bi} (h : ∀ ds, dBlt b ds = none) : BlD X f b := fun pins s σ H xs us Q I rx ⟨ds, res, l, e, q⟩ => by
  rw [h ds] at e; cases e
theorem blD {X : Cx} (hc : X.calm = true) (b : Bi) : BlD X (biVal b) b := by
  cases b with
  | len => exact bl_len
  | int => exact bl_int
  | abs => exact bl_abs
  | min => exact bl_min hc
  | max => exact bl_max hc
  | sum => exact bl_sum hc
  | tuple => exact bl_tuple
  | list => exact bl_list
  | all => exact bl_all hc
  | any => exact bl_any hc
  | sorted => exact blD_no fun ds => rfl
  | set => exact blD_no fun ds => rfl
  | repr => exact blD_no fun ds => rfl
  | str => exact blD_no fun ds => rfl
theorem bi_boot (b : Bi) : bootBuiltins (biName b) = some (biVal b) := by cases b <;> rfl
theorem bi_free (b : Bi) : (biName b : Str) ∈ bltNames := by cases b <;> decide +kernel
theorem s_blt {X : Cx} {c : Cn} {W : WX} {b : Bi} {y : Str} {p pos : Pos} {l : Expr} {ls : List Expr} {fs : Env → Out (List R)} (hK : X.K = c.K) (hc : X.calm = true) (hy : y = (biName b : Str)) (hg : Gl X y) (hm : X.mg y = none) (ha : PA X (l :: ls) (tA c W fs)) (hs : (l :: ls).all noStar = true) :
    PE X (.Call (.Name y p) (l :: ls) [] pos) (tE c W fun env => (fs env).bind fun rs env => bltR b rs env) := by
  subst hy
  have hs' := hs
  simp only [List.all_cons, Bool.and_eq_true] at hs'
  have hn : (biName b : Str) ≠ "__name__" := by cases b <;> decide
  have hd : ((biName b : Str) == ("__debug__" : Str)) = false := by cases b <;> decide
  have e1 := star_of (e := l) (es := ls) (env := X.env) hs'.1
  have e2 := star_any (es := ls) (env := X.env) (pos := pos) hs'.2
  have bb := bi_boot b
  have bd := blD hc b
  cases b <;> first
    | exact imp (pe_callTy bd hg hm bb ha hn hd e1 e2) fun σ H Q h => t_blt hK h
    | exact imp (pe_callB bd hg hm bb ha hn hd e1 e2) fun σ H Q h => t_blt hK h
/-! ### one operand behind and, or -/
section
variable {X : Cx} {c : Cn} {W : WX}
theorem s_and2 {a b : Expr} {pos : Pos} {fa fb : Env → Out R} (ha : PE X a (tE c W fa)) (hb : PE X b (tE c W fb)) : PE X (.BoolOp .And [a, b] pos) (tE c W fun env => (fa env).bind fun x env => andR fb x env) :=
  s_and ha ⟨fun pins s σ H Q I h => (show wpAny (model X.prog X.w) X.A (eval b X.env) _ _ _ from hb.run pins s σ H Q I h)⟩
theorem s_or2 {a b : Expr} {pos : Pos} {fa fb : Env → Out R} (ha : PE X a (tE c W fa)) (hb : PE X b (tE c W fb)) : PE X (.BoolOp .Or [a, b] pos) (tE c W fun env => (fa env).bind fun x env => orR fb x env) :=
  s_or ha ⟨fun pins s σ H Q I h => (show wpAny (model X.prog X.w) X.A (eval b X.env) _ _ _ from hb.run pins s σ H Q I h)⟩
theorem plain_k {e : Expr} (h : plainT e = true) (env : PySem.Env) : ∀ whole, isTrue e env whole = (do let v ← whole; standAt e.pos; holding [v] (truthy v)) := by
  intro whole
  cases e with
  | UnaryOp op a p => cases op <;> first | rfl | cases h
  | BoolOp => cases h
  | IfExp => cases h
  | Compare => cases h
  | _ => rfl
theorem super_k {e : Expr} (h : notSuper e = true) (nm : Str) (env : PySem.Env) (whole : Sem Value) : attributeBase e nm env whole = whole := by
  unfold notSuper at h
  split at h
  · cases h
  · rename_i n
    unfold attributeBase
    split
    · rename_i id p pos
      exact absurd rfl (n id p pos)
    · rfl
theorem slice_k {b : Expr} (h : notSlice b = true) : PlainIx b := by
  intro o i
  cases b <;> first | rfl | cases h
theorem set_k_ {e : Expr} (h : notSet e = true) (env : PySem.Env) (x : Value) : foldedSetIterable e env x = pure x := by
  cases e <;> first | rfl | cases h
theorem kw_k : ∀ {kws : List Keyword} {nms : List Str}, kwStr kws = some nms → kwNames kws = nms.map some ∧ nms.length = kws.length
  | [], _, h => by cases h; exact ⟨rfl, rfl⟩
  | ⟨some x, e, p⟩ :: ks, nms, h => by
    unfold kwStr at h
    split at h
    · rename_i xs ex
      cases h
      obtain ⟨a, b⟩ := kw_k ex
      exact ⟨congrArg (some x :: ·) a, congrArg Nat.succ b⟩
    · cases h
  | ⟨none, e, p⟩ :: ks, nms, h => by cases h
theorem names_k {N : List Str} {st : Scope} (hst : ∀ x, locB st x = true → Loc X.env.scope x ∧ (X.fn x = true ∨ X.env.scope.names.lookup x = some .local)) (eN : X.N = N) (nd : N.Nodup) : ∀ {is : List Nat} {es : List Expr}, tgNames N st is es = true →
    PGs X es (gNames is) ∧ (assignEach es X.env).length = is.length ∧ (assignEach es X.env).findIdx? (·.1) = none ∧ es.length = is.length
  | [], [], _ => ⟨pgs_nil, rfl, rfl, rfl⟩
  | i :: is, .Name x p :: es, h => by
    simp only [tgNames, Bool.and_eq_true] at h
    obtain ⟨⟨h1, h2⟩, h3⟩ := h
    obtain ⟨a, b, d, e⟩ := names_k hst eN nd h3
    obtain ⟨l, f⟩ := hst x h2
    subst eN
    refine ⟨pgs_cons (pg_name nd (of_decide_eq_true h1) l f) a, congrArg Nat.succ b, ?_, congrArg Nat.succ e⟩
    show ((false, assign (.Name x p) X.env) :: assignEach es X.env).findIdx? (·.1) = none
    rw [List.findIdx?_cons]
    simp [d]
  | [], _ :: _, h => by simp [tgNames] at h
  | _ :: _, [], h => by simp [tgNames] at h
  | i :: is, .BoolOp .. :: es, h => by simp [tgNames] at h
  | i :: is, .NamedExpr .. :: es, h => by simp [tgNames] at h
  | i :: is, .BinOp .. :: es, h => by simp [tgNames] at h
  | i :: is, .UnaryOp .. :: es, h => by simp [tgNames] at h
  | i :: is, .Lambda .. :: es, h => by simp [tgNames] at h
  | i :: is, .IfExp .. :: es, h => by simp [tgNames] at h
  | i :: is, .Dict .. :: es, h => by simp [tgNames] at h
  | i :: is, .Set .. :: es, h => by simp [tgNames] at h
  | i :: is, .ListComp .. :: es, h => by simp [tgNames] at h
  | i :: is, .SetComp .. :: es, h => by simp [tgNames] at h
  | i :: is, .DictComp .. :: es, h => by simp [tgNames] at h
  | i :: is, .GeneratorExp .. :: es, h => by simp [tgNames] at h
  | i :: is, .Await .. :: es, h => by simp [tgNames] at h
  | i :: is, .Yield .. :: es, h => by simp [tgNames] at h
  | i :: is, .YieldFrom .. :: es, h => by simp [tgNames] at h
  | i :: is, .Compare .. :: es, h => by simp [tgNames] at h
  | i :: is, .Call .. :: es, h => by simp [tgNames] at h
  | i :: is, .FormattedValue .. :: es, h => by simp [tgNames] at h
  | i :: is, .JoinedStr .. :: es, h => by simp [tgNames] at h
  | i :: is, .Constant .. :: es, h => by simp [tgNames] at h
  | i :: is, .Attribute .. :: es, h => by simp [tgNames] at h
  | i :: is, .Subscript .. :: es, h => by simp [tgNames] at h
  | i :: is, .Starred .. :: es, h => by simp [tgNames] at h
  | i :: is, .List .. :: es, h => by simp [tgNames] at h
  | i :: is, .Tuple .. :: es, h => by simp [tgNames] at h
  | i :: is, .Slice .. :: es, h => by simp [tgNames] at h
end
section
variable {tb : Tb} {G : Nat → Option D} {F : Calls} {k : Nat} {c : Cn} {N : List Str} {sc st : Scope} {X : Cx} {W : WX}
theorem s_tg (C : Cok tb G F k c N sc st X W) {tg : Tg} {x : Expr} (h : mtG N st tg x = true) : PG X x (gRead c.K tg) := by
  unfold mtG at h
  split at h
  · rename_i i y p
    simp only [Bool.and_eq_true] at h
    obtain ⟨l, f⟩ := C.st y h.2
    have e := of_decide_eq_true h.1
    rw [← C.eN] at e
    exact pg_name (by rw [C.eN]; exact C.nd) e l f
  · rename_i is es kk p
    obtain ⟨a, b, d, e⟩ := names_k C.st C.eN C.nd h
    have := pg_tup (k := kk) (pos := p) (n := is.length) C.calm a b d
    rw [C.eK] at this
    exact this
  · cases h
theorem Cok.okX (C : Cok tb G F k c N sc st X W) {scope : Scope} {own : List (Str × Nat)} (ok : BlkOk N sc scope own) : BlkOk X.N X.env.scope scope own := by
  rw [C.eN, C.eS]
  exact ok
theorem evA_len {sc : Scope} : ∀ {es : Es} {l : List Expr}, mtEs N tb sc es l = true → ∀ {env rs env'}, evA G F es env = .ok rs env' → rs.length = l.length
  | .nil, l, h, env, rs, env', e => by
    cases l with
    | nil => cases e; rfl
    | cons => simp [mtEs] at h
  | .cons x xs, l, h, env, rs, env', e => by
    cases l with
    | nil => simp [mtEs] at h
    | cons y ys =>
      simp only [mtEs, Bool.and_eq_true] at h
      have e : (evE G F x env).bind (fun r env => (evA G F xs env).bind fun rs env => .ok (r :: rs) env) = .ok rs env' := e
      obtain ⟨r, e1, _, e⟩ := bind_okE e
      obtain ⟨rs', e2, e3, e⟩ := bind_okE e
      cases e
      exact congrArg Nat.succ (evA_len h.2 e3)
theorem evK_len {sc : Scope} : ∀ {es : Es} {l : List Keyword}, mtKs N tb sc es l = true → ∀ {env rs env'}, evA G F es env = .ok rs env' → rs.length = l.length
  | .nil, l, h, env, rs, env', e => by
    cases l with
    | nil => cases e; rfl
    | cons => simp [mtKs] at h
  | .cons x xs, l, h, env, rs, env', e => by
    cases l with
    | nil => simp [mtKs] at h
    | cons y ys =>
      obtain ⟨nm, y, p⟩ := y
      simp only [mtKs, Bool.and_eq_true] at h
      have e : (evE G F x env).bind (fun r env => (evA G F xs env).bind fun rs env => .ok (r :: rs) env) = .ok rs env' := e
      obtain ⟨r, e1, _, e⟩ := bind_okE e
      obtain ⟨rs', e2, e3, e⟩ := bind_okE e
      cases e
      exact congrArg Nat.succ (evK_len h.2 e3)
theorem evA_nil {sc : Scope} {es : Es} (h : mtEs N tb sc es [] = true) : ∀ env, evA G F es env = .ok [] env := by
  cases es with
  | nil => exact fun _ => rfl
  | cons => simp [mtEs] at h
theorem ownP_ix {own : List Nat} : (ownP N own).map (·.2) = own := by
  unfold ownP
  rw [List.map_map]
  exact List.map_id' own
end
end Di
namespace Di
open PySem PySem.Spec PyProof.Rows L2
section
variable {tb : Tb} {G : Nat → Option D} {F : Calls} {k : Nat} {c : Cn} {N : List Str}
mutual
/-- THE EXPRESSIONS: what the tree gives is what the text does -/
theorem sE : ∀ (e : E) {sc st : Scope} {X : Cx} {W : WX}, Cok tb G F k c N sc st X W → ∀ {x : Expr}, mtE N tb sc e x = true → PE X x (tE c W fun env => evE G F e env)
  | .lit k', sc, st, X, W, C, x, h => by
    cases x <;> first | (simp [mtE] at h; done) | skip
    simp only [mtE, Bool.and_eq_true, decide_eq_true_eq] at h
    obtain ⟨rfl, h⟩ := h
    exact s_lit h
  | .var i, sc, st, X, W, C, x, h => by
    cases x <;> first | (simp [mtE, varB] at h; done) | skip
    simp only [mtE, varB, Bool.and_eq_true] at h
    obtain ⟨⟨h1, h2⟩, h3⟩ := h
    have e := of_decide_eq_true h1
    rw [← C.eN] at e
    exact s_var e (by rw [C.eS]; exact visB_k h2) (okN_k h3).1 (okN_k h3).2
  | .glo i, sc, st, X, W, C, x, h => by
    cases x <;> first | (simp [mtE] at h; done) | skip
    simp only [mtE, Bool.and_eq_true, decide_eq_true_eq] at h
    obtain ⟨⟨h1, h2⟩, h3⟩ := h
    obtain ⟨v, u, d, e1, e2, e3, e4⟩ := C.glo i _ h1
    have : (fun env => evE G F (.glo i) env) = fun env => gloR (some d) env := by
      funext env
      show gloR (G i) env = _
      rw [e1]
    rw [this]
    exact s_glo (C.glo_ h2) e2 e3 (okN_k h3).1 e4
  | .bin op a b, sc, st, X, W, C, x, h => by
    cases x <;> first | (simp [mtE] at h; done) | skip
    simp only [mtE, Bool.and_eq_true, decide_eq_true_eq] at h
    obtain ⟨⟨rfl, h1⟩, h2⟩ := h
    exact s_bin C.eK (opd_bin op) (sE a C h1) (sE b C h2)
  | .cmp op a b, sc, st, X, W, C, x, h => by
    unfold mtE at h
    split at h
    · simp only [Bool.and_eq_true, decide_eq_true_eq, Bool.not_eq_true'] at h
      obtain ⟨⟨⟨rfl, h0⟩, h1⟩, h2⟩ := h
      exact s_cmp C.eK (C.cmp op) (sE a C h1) (sE b C h2) h0
    · cases h
  | .chn op op2 a b d, sc, st, X, W, C, x, h => by
    unfold mtE at h
    split at h
    · simp only [Bool.and_eq_true, decide_eq_true_eq, Bool.not_eq_true'] at h
      obtain ⟨⟨⟨⟨⟨rfl, rfl⟩, h0⟩, h1⟩, h2⟩, h3⟩ := h
      exact s_chn C.eK C.cmp (sE a C h1) (sE b C h2) (sE d C h3) h0
    · cases h
  | .isN neg a, sc, st, X, W, C, x, h => by
    unfold mtE at h
    split at h
    · simp only [Bool.and_eq_true, decide_eq_true_eq] at h
      obtain ⟨⟨rfl, h0⟩, h1⟩ := h
      unfold isNoneC at h0
      split at h0
      · exact s_isN C.eK (sE a C h1)
      · cases h0
    · cases h
  | .isB v neg a, sc, st, X, W, C, x, h => by
    unfold mtE at h
    split at h
    · simp only [Bool.and_eq_true, decide_eq_true_eq] at h
      obtain ⟨⟨rfl, h0⟩, h1⟩ := h
      unfold isBoolC at h0
      split at h0
      · have := eq_of_beq h0
        subst this
        exact s_isB C.eK (sE a C h1)
      · cases h0
    · cases h
  | .neg a, sc, st, X, W, C, x, h => by
    cases x <;> first | (simp [mtE] at h; done) | skip
    simp only [mtE, Bool.and_eq_true, decide_eq_true_eq] at h
    obtain ⟨rfl, h1⟩ := h
    exact s_neg C.eK (sE a C h1)
  | .notE a, sc, st, X, W, C, x, h => by
    cases x <;> first | (simp [mtE] at h; done) | skip
    simp only [mtE, Bool.and_eq_true, decide_eq_true_eq] at h
    obtain ⟨rfl, h1⟩ := h
    exact s_not C.eK (sE a C h1)
  | .andE a b, sc, st, X, W, C, x, h => by
    unfold mtE at h
    split at h
    · rename_i o l r rest pos
      simp only [Bool.and_eq_true, decide_eq_true_eq] at h
      obtain ⟨⟨rfl, h1⟩, h2⟩ := h
      cases rest with
      | nil => exact s_and2 (sE a C h1) (sE b C (by simpa using h2))
      | cons s rest => exact s_and (sE a C h1) (sE b C (by simpa using h2))
    · cases h
  | .orE a b, sc, st, X, W, C, x, h => by
    unfold mtE at h
    split at h
    · rename_i o l r rest pos
      simp only [Bool.and_eq_true, decide_eq_true_eq] at h
      obtain ⟨⟨rfl, h1⟩, h2⟩ := h
      cases rest with
      | nil => exact s_or2 (sE a C h1) (sE b C (by simpa using h2))
      | cons s rest => exact s_or (sE a C h1) (sE b C (by simpa using h2))
    · cases h
  | .ife t a b, sc, st, X, W, C, x, h => by
    cases x <;> first | (simp [mtE] at h; done) | skip
    simp only [mtE, Bool.and_eq_true] at h
    obtain ⟨⟨h1, h2⟩, h3⟩ := h
    exact s_ife (sT t C h1).1 (sE a C h2) (sE b C h3)
  | .tup es, sc, st, X, W, C, x, h => by
    cases x <;> first | (simp [mtE] at h; done) | skip
    simp only [mtE, Bool.and_eq_true] at h
    exact s_tup (sZ es C h.2 h.1)
  | .lst es, sc, st, X, W, C, x, h => by
    cases x <;> first | (simp [mtE] at h; done) | skip
    simp only [mtE, Bool.and_eq_true] at h
    exact s_lst (sZ es C h.2 h.1)
  | .sub a b, sc, st, X, W, C, x, h => by
    cases x <;> first | (simp [mtE] at h; done) | skip
    simp only [mtE, Bool.and_eq_true] at h
    obtain ⟨⟨h0, h1⟩, h2⟩ := h
    exact s_sub C.eK (sE a C h1) (sE b C h2) (slice_k h0)
  | .slc a lo hi, sc, st, X, W, C, x, h => by
    unfold mtE at h
    split at h
    · simp only [Bool.and_eq_true] at h
      obtain ⟨⟨h1, h2⟩, h3⟩ := h
      exact s_slc C.eK (sE a C h1) (sO lo C h2) (sO hi C h3)
    · cases h
  | .rvs a, sc, st, X, W, C, x, h => by
    cases x <;> first | (simp [mtE] at h; done) | skip
    simp only [mtE, Bool.and_eq_true] at h
    obtain ⟨h0, h1⟩ := h
    unfold isBack at h0
    split at h0
    · simp only [Bool.and_eq_true, decide_eq_true_eq] at h0
      obtain ⟨rfl, rfl⟩ := h0
      exact s_rvs C.eK (sE a C h1)
    · cases h0
  | .call f es, sc, st, X, W, C, x, h => by
    unfold mtE at h
    split at h
    · split at h
      · rename_i z np ef
        simp only [Bool.and_eq_true] at h
        obtain ⟨⟨⟨⟨h0, h1⟩, h2⟩, h3⟩, h4⟩ := h
        have e := eq_of_beq h0
        subst e
        obtain ⟨fa, fd, ps, m, kp, b, FF, _⟩ := C.fns f _ _ ef
        exact s_call FF (C.ar f _ _ ef) C.room (C.glo_ h1) m kp b (passAt C.tk) (sA es C h4 h3) (fun e => by subst e; exact evA_nil h4) h3 (okN_k h2).1
      · cases h
    · cases h
  | .calk f es ks perm, sc, st, X, W, C, x, h => by
    unfold mtE at h
    split at h
    · split at h
      · rename_i z np nms ef ek
        simp only [Bool.and_eq_true] at h
        obtain ⟨⟨⟨⟨⟨⟨⟨⟨h0, h1⟩, h2⟩, h3⟩, h4⟩, h5⟩, h6⟩, h7⟩, h8⟩ := h
        have e := eq_of_beq h0
        subst e
        obtain ⟨fa, fd, ps, m, kp, b, FF, kk⟩ := C.fns f _ _ ef
        obtain ⟨k1, k2⟩ := kw_k ek
        have hb := List.all_eq_true.mp h6
        exact s_callk FF (C.ar f _ _ ef) C.room (C.glo_ h1) m kp (kk _ _ _ (of_decide_eq_true h4)) (passAt C.tk) (sA es C h7 h3) (sK ks C h8) k1 (fun e => by subst e; exact evA_nil h7) h3 (okN_k h2).1
          (fun env rs env' e => evA_len h7 e) (fun env rs env' e => by rw [k2]; exact evK_len h8 e) (of_decide_eq_true h5) fun j hj => of_decide_eq_true (hb j hj)
      · cases h
    · cases h
  | .blt b es, sc, st, X, W, C, x, h => by
    unfold mtE at h
    split at h
    · simp only [Bool.and_eq_true] at h
      obtain ⟨⟨⟨h0, h1⟩, h2⟩, h3⟩ := h
      have e := eq_of_beq h0
      exact s_blt C.eK C.calm e (C.glo_ h1) (by rw [e]; exact C.free _ (bi_free b)) (sA es C h3 (by simpa using h2)) (by simpa using h2)
    · cases h
  | .isi a ts, sc, st, X, W, C, x, h => by
    unfold mtE at h
    split at h
    · simp only [Bool.and_eq_true] at h
      obtain ⟨⟨⟨⟨⟨h0, h1⟩, h2⟩, h3⟩, h4⟩, h5⟩ := h
      have e := eq_of_beq h0
      subst e
      have ht : ∀ t ∈ ts, TyOk X t := fun t m => ⟨C.glo_ (List.all_eq_true.mp h4 t m), C.free _ (by cases t <;> decide +kernel)⟩
      have hm := C.free "isinstance" (by decide +kernel)
      unfold isTys at h3
      split at h3
      · split at h3
        · rename_i t
          have e := eq_of_beq h3
          subst e
          exact s_isi1 C.eK (C.glo_ h1) hm (ht t (List.mem_cons_self ..)) (sE a C h5) h2
        · cases h3
      · simp only [Bool.and_eq_true, decide_eq_true_eq] at h3
        exact s_isiT C.eK (C.glo_ h1) hm ht h3.1 h3.2 (sE a C h5) h2
      · cases h3
    · cases h
  | .bits a, sc, st, X, W, C, x, h => by
    unfold mtE at h
    split at h
    · simp only [Bool.and_eq_true] at h
      obtain ⟨⟨⟨h0, h1⟩, h2⟩, h3⟩ := h
      have e := eq_of_beq h0
      subst e
      exact s_bits C.eK (sE a C h3) (super_k h2 _ _ _) h1
    · cases h
  | .lc g own it cd e, sc, st, X, W, C, x, h => by
    unfold mtE at h
    split at h
    · simp only [Bool.and_eq_true, decide_eq_true_eq] at h
      obtain ⟨⟨⟨⟨⟨⟨⟨rfl, h1⟩, h2⟩, h3⟩, h4⟩, h5⟩, h6⟩, h7⟩ := h
      have ok := blkOk_by h1
      have hg : ∀ i ∈ tgIx g, i ∈ (ownP N own).map (·.2) := by rw [ownP_ix]; exact fun i hi => of_decide_eq_true (List.all_eq_true.mp h2 i hi)
      have okX := C.okX ok
      refine imp (pe_lc C.calm (by rw [C.eN]; exact C.nd) (sI it C h5) okX (fun s H Ca cl fp => s_tg (C.blk ok s H Ca cl fp) h3) (fun s H Ca cl fp => sTs cd (C.blk ok s H Ca cl fp) h6) (fun s H Ca cl fp => s_fz (sE e (C.blk ok s H Ca cl fp) h7)) (fun x => set_k_ h4 _ x)) fun σ H Q h => ?_
      rw [ownP_ix] at hg ⊢
      exact lc_imp hg h
    · cases h
  | .lc2 g own it c1 g2 own2 it2 cd e, sc, st, X, W, C, x, h => by
    unfold mtE at h
    split at h
    · simp only [Bool.and_eq_true, decide_eq_true_eq] at h
      obtain ⟨⟨⟨⟨⟨⟨⟨⟨⟨⟨⟨⟨⟨⟨rfl, rfl⟩, h1⟩, h2⟩, h3⟩, h4⟩, h5⟩, h6⟩, h7⟩, h8⟩, h9⟩, h10⟩, h11⟩, h12⟩, h13⟩ := h
      have ok := blkOk_by h1
      have hg : ∀ i ∈ tgIx g, i ∈ own := fun i hi => of_decide_eq_true (List.all_eq_true.mp h2 i hi)
      have hg2 : ∀ i ∈ tgIx g2, i ∈ own2 := fun i hi => of_decide_eq_true (List.all_eq_true.mp h3 i hi)
      have hv : ∀ i ∈ own2, i ∈ own := fun i hi => of_decide_eq_true (List.all_eq_true.mp h4 i hi)
      have okX := C.okX ok
      refine imp (pe_lc2 (vs1 := own2) C.calm (by rw [C.eN]; exact C.nd) (sI it C h9) okX (by rw [ownP_ix]; exact hv) (fun s H Ca cl fp => s_tg (C.blk ok s H Ca cl fp) h5) (fun s H Ca cl fp => sTs c1 (C.blk ok s H Ca cl fp) h10) (fun s H Ca cl fp => sI it2 (C.blk ok s H Ca cl fp) h11)
        (fun s H Ca cl fp => s_tg (C.blk ok s H Ca cl fp) h6) (fun s H Ca cl fp => sTs cd (C.blk ok s H Ca cl fp) h12) (fun s H Ca cl fp => s_fz (sE e (C.blk ok s H Ca cl fp) h13)) (fun x => set_k_ h7 _ x) (fun env x => set_k_ h8 env x)) fun σ H Q h => ?_
      rw [ownP_ix]
      exact lc2_imp hg hg2 hv h
    · cases h
  | .dc .., sc, st, X, W, C, x, h => by cases h
  | .exa _, sc, st, X, W, C, x, h => by cases h
theorem sA : ∀ (es : Es) {sc st : Scope} {X : Cx} {W : WX}, Cok tb G F k c N sc st X W → ∀ {l : List Expr}, mtEs N tb sc es l = true → l.all noStar = true → PA X l (tA c W fun env => evA G F es env)
  | .nil, sc, st, X, W, C, l, h, hs => by
    cases l with
    | nil => exact a_nil
    | cons => simp [mtEs] at h
  | .cons e es, sc, st, X, W, C, l, h, hs => by
    cases l with
    | nil => simp [mtEs] at h
    | cons x xs =>
      simp only [mtEs, Bool.and_eq_true] at h
      simp only [List.all_cons, Bool.and_eq_true] at hs
      exact a_cons (sE e C h.1) (sA es C h.2 hs.2) (star_of hs.1)
theorem sZ : ∀ (es : Es) {sc st : Scope} {X : Cx} {W : WX}, Cok tb G F k c N sc st X W → ∀ {l : List Expr}, mtEs N tb sc es l = true → l.all noStar = true → PA X l (tZ c W fun env => evZ G F es env)
  | .nil, sc, st, X, W, C, l, h, hs => by
    cases l with
    | nil => exact z_nil
    | cons => simp [mtEs] at h
  | .cons e es, sc, st, X, W, C, l, h, hs => by
    cases l with
    | nil => simp [mtEs] at h
    | cons x xs =>
      simp only [mtEs, Bool.and_eq_true] at h
      simp only [List.all_cons, Bool.and_eq_true] at hs
      exact z_cons (sE e C h.1) (sZ es C h.2 hs.2) (star_of hs.1)
theorem sK : ∀ (es : Es) {sc st : Scope} {X : Cx} {W : WX}, Cok tb G F k c N sc st X W → ∀ {l : List Keyword}, mtKs N tb sc es l = true → PK X l (tA c W fun env => evA G F es env)
  | .nil, sc, st, X, W, C, l, h => by
    cases l with
    | nil => exact k_nil
    | cons => simp [mtKs] at h
  | .cons e es, sc, st, X, W, C, l, h => by
    cases l with
    | nil => simp [mtKs] at h
    | cons x xs =>
      obtain ⟨nm, x, p⟩ := x
      simp only [mtKs, Bool.and_eq_true] at h
      exact k_cons (sE e C h.1) (sK es C h.2)
theorem sO : ∀ (o : Oe) {sc st : Scope} {X : Cx} {W : WX}, Cok tb G F k c N sc st X W → ∀ {x : Option Expr}, mtO N tb sc o x = true → PO X x (tO c W fun env => evO G F o env)
  | .none, sc, st, X, W, C, x, h => by
    cases x with
    | none => exact o_none
    | some => simp [mtO] at h
  | .some e, sc, st, X, W, C, x, h => by
    cases x with
    | none => simp [mtO] at h
    | some x => exact o_some (sE e C (by simpa [mtO] using h))
theorem sT : ∀ (t : T) {sc st : Scope} {X : Cx} {W : WX}, Cok tb G F k c N sc st X W → ∀ {x : Expr}, mtT N tb sc t x = true → PT X x (tT c W fun env => evT G F t env) ∧ ((∃ op es pos, x = .BoolOp op es pos) → PW X x (tT c W fun env => evT G F t env))
  | .val (.cmp op a b), sc, st, X, W, C, x, h => by
    simp only [mtT, Bool.and_eq_true] at h
    replace h := h.1
    unfold mtE at h
    split at h
    · simp only [Bool.and_eq_true, decide_eq_true_eq, Bool.not_eq_true'] at h
      obtain ⟨⟨⟨rfl, h0⟩, h1⟩, h2⟩ := h
      exact ⟨s_tcmp C.eK (C.cmp op) (sE a C h1) (sE b C h2) h0, fun ⟨op, es, pos, z⟩ => by cases z⟩
    · cases h
  | .val (.chn op op2 a b d), sc, st, X, W, C, x, h => by
    simp only [mtT, Bool.and_eq_true] at h
    replace h := h.1
    unfold mtE at h
    split at h
    · simp only [Bool.and_eq_true, decide_eq_true_eq, Bool.not_eq_true'] at h
      obtain ⟨⟨⟨⟨⟨rfl, rfl⟩, h0⟩, h1⟩, h2⟩, h3⟩ := h
      exact ⟨t_chn C.eK C.cmp (sE a C h1) (sE b C h2) (sE d C h3) h0, fun ⟨op, es, pos, z⟩ => by cases z⟩
    · cases h
  | .val (.isN neg a), sc, st, X, W, C, x, h => by
    simp only [mtT, Bool.and_eq_true] at h
    replace h := h.1
    unfold mtE at h
    split at h
    · simp only [Bool.and_eq_true, decide_eq_true_eq] at h
      obtain ⟨⟨rfl, h0⟩, h1⟩ := h
      unfold isNoneC at h0
      split at h0
      · exact ⟨t_isN C.eK (sE a C h1), fun ⟨op, es, pos, z⟩ => by cases z⟩
      · cases h0
    · cases h
  | .val (.isB v neg a), sc, st, X, W, C, x, h => by
    simp only [mtT, Bool.and_eq_true] at h
    replace h := h.1
    unfold mtE at h
    split at h
    · simp only [Bool.and_eq_true, decide_eq_true_eq] at h
      obtain ⟨⟨rfl, h0⟩, h1⟩ := h
      unfold isBoolC at h0
      split at h0
      · have := eq_of_beq h0
        subst this
        exact ⟨t_isB C.eK (sE a C h1), fun ⟨op, es, pos, z⟩ => by cases z⟩
      · cases h0
    · cases h
  | .val (.lit k'), sc, st, X, W, C, x, h => by
    simp only [mtT, Bool.and_eq_true] at h
    have hp : plainT x = true := h.2
    exact ⟨t_valE (sE (.lit k') C h.1) (plain_k hp _), fun ⟨op, es, pos, z⟩ => by subst z; cases hp⟩
  | .val (.var i), sc, st, X, W, C, x, h => by
    simp only [mtT, Bool.and_eq_true] at h
    have hp : plainT x = true := h.2
    exact ⟨t_valE (sE (.var i) C h.1) (plain_k hp _), fun ⟨op, es, pos, z⟩ => by subst z; cases hp⟩
  | .val (.glo i), sc, st, X, W, C, x, h => by
    simp only [mtT, Bool.and_eq_true] at h
    have hp : plainT x = true := h.2
    exact ⟨t_valE (sE (.glo i) C h.1) (plain_k hp _), fun ⟨op, es, pos, z⟩ => by subst z; cases hp⟩
  | .val (.bin op a b), sc, st, X, W, C, x, h => by
    simp only [mtT, Bool.and_eq_true] at h
    have hp : plainT x = true := h.2
    exact ⟨t_valE (sE (.bin op a b) C h.1) (plain_k hp _), fun ⟨op, es, pos, z⟩ => by subst z; cases hp⟩
  | .val (.neg a), sc, st, X, W, C, x, h => by
    simp only [mtT, Bool.and_eq_true] at h
    have hp : plainT x = true := h.2
    exact ⟨t_valE (sE (.neg a) C h.1) (plain_k hp _), fun ⟨op, es, pos, z⟩ => by subst z; cases hp⟩
  | .val (.notE a), sc, st, X, W, C, x, h => by
    simp only [mtT, Bool.and_eq_true] at h
    have hp : plainT x = true := h.2
    exact ⟨t_valE (sE (.notE a) C h.1) (plain_k hp _), fun ⟨op, es, pos, z⟩ => by subst z; cases hp⟩
  | .val (.andE a b), sc, st, X, W, C, x, h => by
    simp only [mtT, Bool.and_eq_true] at h
    have hp : plainT x = true := h.2
    exact ⟨t_valE (sE (.andE a b) C h.1) (plain_k hp _), fun ⟨op, es, pos, z⟩ => by subst z; cases hp⟩
  | .val (.orE a b), sc, st, X, W, C, x, h => by
    simp only [mtT, Bool.and_eq_true] at h
    have hp : plainT x = true := h.2
    exact ⟨t_valE (sE (.orE a b) C h.1) (plain_k hp _), fun ⟨op, es, pos, z⟩ => by subst z; cases hp⟩
  | .val (.ife t a b), sc, st, X, W, C, x, h => by
    simp only [mtT, Bool.and_eq_true] at h
    have hp : plainT x = true := h.2
    exact ⟨t_valE (sE (.ife t a b) C h.1) (plain_k hp _), fun ⟨op, es, pos, z⟩ => by subst z; cases hp⟩
  | .val (.tup es), sc, st, X, W, C, x, h => by
    simp only [mtT, Bool.and_eq_true] at h
    have hp : plainT x = true := h.2
    exact ⟨t_valE (sE (.tup es) C h.1) (plain_k hp _), fun ⟨op, es, pos, z⟩ => by subst z; cases hp⟩
  | .val (.lst es), sc, st, X, W, C, x, h => by
    simp only [mtT, Bool.and_eq_true] at h
    have hp : plainT x = true := h.2
    exact ⟨t_valE (sE (.lst es) C h.1) (plain_k hp _), fun ⟨op, es, pos, z⟩ => by subst z; cases hp⟩
  | .val (.sub a b), sc, st, X, W, C, x, h => by
    simp only [mtT, Bool.and_eq_true] at h
    have hp : plainT x = true := h.2
    exact ⟨t_valE (sE (.sub a b) C h.1) (plain_k hp _), fun ⟨op, es, pos, z⟩ => by subst z; cases hp⟩
  | .val (.slc a lo hi), sc, st, X, W, C, x, h => by
    simp only [mtT, Bool.and_eq_true] at h
    have hp : plainT x = true := h.2
    exact ⟨t_valE (sE (.slc a lo hi) C h.1) (plain_k hp _), fun ⟨op, es, pos, z⟩ => by subst z; cases hp⟩
  | .val (.rvs a), sc, st, X, W, C, x, h => by
    simp only [mtT, Bool.and_eq_true] at h
    have hp : plainT x = true := h.2
    exact ⟨t_valE (sE (.rvs a) C h.1) (plain_k hp _), fun ⟨op, es, pos, z⟩ => by subst z; cases hp⟩
  | .val (.call f es), sc, st, X, W, C, x, h => by
    simp only [mtT, Bool.and_eq_true] at h
    have hp : plainT x = true := h.2
    exact ⟨t_valE (sE (.call f es) C h.1) (plain_k hp _), fun ⟨op, es, pos, z⟩ => by subst z; cases hp⟩
  | .val (.calk f es ks perm), sc, st, X, W, C, x, h => by
    simp only [mtT, Bool.and_eq_true] at h
    have hp : plainT x = true := h.2
    exact ⟨t_valE (sE (.calk f es ks perm) C h.1) (plain_k hp _), fun ⟨op, es, pos, z⟩ => by subst z; cases hp⟩
  | .val (.blt b es), sc, st, X, W, C, x, h => by
    simp only [mtT, Bool.and_eq_true] at h
    have hp : plainT x = true := h.2
    exact ⟨t_valE (sE (.blt b es) C h.1) (plain_k hp _), fun ⟨op, es, pos, z⟩ => by subst z; cases hp⟩
  | .val (.isi a ts), sc, st, X, W, C, x, h => by
    simp only [mtT, Bool.and_eq_true] at h
    have hp : plainT x = true := h.2
    exact ⟨t_valE (sE (.isi a ts) C h.1) (plain_k hp _), fun ⟨op, es, pos, z⟩ => by subst z; cases hp⟩
  | .val (.bits a), sc, st, X, W, C, x, h => by
    simp only [mtT, Bool.and_eq_true] at h
    have hp : plainT x = true := h.2
    exact ⟨t_valE (sE (.bits a) C h.1) (plain_k hp _), fun ⟨op, es, pos, z⟩ => by subst z; cases hp⟩
  | .val (.lc g own it cd e), sc, st, X, W, C, x, h => by
    simp only [mtT, Bool.and_eq_true] at h
    have hp : plainT x = true := h.2
    exact ⟨t_valE (sE (.lc g own it cd e) C h.1) (plain_k hp _), fun ⟨op, es, pos, z⟩ => by subst z; cases hp⟩
  | .val (.lc2 g own it c1 g2 own2 it2 cd e), sc, st, X, W, C, x, h => by
    simp only [mtT, Bool.and_eq_true] at h
    have hp : plainT x = true := h.2
    exact ⟨t_valE (sE (.lc2 g own it c1 g2 own2 it2 cd e) C h.1) (plain_k hp _), fun ⟨op, es, pos, z⟩ => by subst z; cases hp⟩
  | .val (.dc g own it cd k' v'), sc, st, X, W, C, x, h => by
    simp only [mtT, Bool.and_eq_true] at h
    have hp : plainT x = true := h.2
    exact ⟨t_valE (sE (.dc g own it cd k' v') C h.1) (plain_k hp _), fun ⟨op, es, pos, z⟩ => by subst z; cases hp⟩
  | .val (.exa i), sc, st, X, W, C, x, h => by
    simp only [mtT, Bool.and_eq_true] at h
    have hp : plainT x = true := h.2
    exact ⟨t_valE (sE (.exa i) C h.1) (plain_k hp _), fun ⟨op, es, pos, z⟩ => by subst z; cases hp⟩
  | .tru e, sc, st, X, W, C, x, h => by
    simp only [mtT, Bool.and_eq_true] at h
    exact ⟨t_tru C.eK (sE e C h.1) (plain_k h.2 _), fun ⟨op, es, pos, z⟩ => by subst z; cases h.2⟩
  | .not t, sc, st, X, W, C, x, h => by
    cases x <;> first | (simp [mtT] at h; done) | skip
    simp only [mtT, Bool.and_eq_true, decide_eq_true_eq] at h
    obtain ⟨rfl, h1⟩ := h
    exact ⟨t_not (sT t C h1).1, fun ⟨op, es, pos, z⟩ => by cases z⟩
  | .and t u, sc, st, X, W, C, x, h => by
    unfold mtT at h
    split at h
    · rename_i o l r rest pos
      simp only [Bool.and_eq_true, decide_eq_true_eq] at h
      obtain ⟨⟨rfl, h1⟩, h2⟩ := h
      have w : PW X (.BoolOp .And (l :: r :: rest) pos) (tT c W fun env => evT G F (.and t u) env) := by
        cases rest with
        | nil => exact w_and (sT t C h1).1 (pw_and1 (sT u C (by simpa using h2)).1)
        | cons s rest => exact w_and (sT t C h1).1 ((sT u C (by simpa using h2)).2 ⟨_, _, _, rfl⟩)
      exact ⟨w.pt, fun _ => w⟩
    · cases h
  | .or t u, sc, st, X, W, C, x, h => by
    unfold mtT at h
    split at h
    · rename_i o l r rest pos
      simp only [Bool.and_eq_true, decide_eq_true_eq] at h
      obtain ⟨⟨rfl, h1⟩, h2⟩ := h
      have w : PW X (.BoolOp .Or (l :: r :: rest) pos) (tT c W fun env => evT G F (.or t u) env) := by
        cases rest with
        | nil => exact w_or (sT t C h1).1 (pw_or1 (sT u C (by simpa using h2)).1)
        | cons s rest => exact w_or (sT t C h1).1 ((sT u C (by simpa using h2)).2 ⟨_, _, _, rfl⟩)
      exact ⟨w.pt, fun _ => w⟩
    · cases h
theorem sTs : ∀ (t : Ts) {sc st : Scope} {X : Cx} {W : WX}, Cok tb G F k c N sc st X W → ∀ {l : List Expr}, mtTs N tb sc t l = true → PTs X l (tT c W fun env => evTs G F t env)
  | .nil, sc, st, X, W, C, l, h => by
    cases l with
    | nil =>
      refine ⟨fun pins s σ H Q I q => pts_nil.run pins s σ H Q I ?_⟩
      obtain ⟨env, p, fl, q⟩ := start_ q
      exact q true H p fl rfl
    | cons => simp [mtTs] at h
  | .one t, sc, st, X, W, C, l, h => by
    unfold mtTs at h
    split at h
    · exact pts_one (sT t C h).1
    · cases h
theorem sI : ∀ (it : It) {sc st : Scope} {X : Cx} {W : WX}, Cok tb G F k c N sc st X W → ∀ {x tg : Expr}, mtI N tb sc it x tg = true → PI X tg x (tI c W fun env => evI G F it env)
  | .seq e, sc, st, X, W, C, x, tg, h => by
    simp only [mtI] at h
    exact i_seq C.eK (sE e C h)
  | .rng1 a, sc, st, X, W, C, x, tg, h => by
    unfold mtI at h
    split at h
    · simp only [Bool.and_eq_true] at h
      obtain ⟨⟨⟨h0, h1⟩, h2⟩, h3⟩ := h
      have e := eq_of_beq h0
      subst e
      exact i_rng1 (C.glo_ h1) (C.free _ (by decide +kernel)) (sE a C h3) h2
    · cases h
  | .rng2 a b, sc, st, X, W, C, x, tg, h => by
    unfold mtI at h
    split at h
    · simp only [Bool.and_eq_true] at h
      obtain ⟨⟨⟨⟨⟨h0, h1⟩, h2⟩, h2'⟩, h3⟩, h4⟩ := h
      have e := eq_of_beq h0
      subst e
      exact i_rng2 (C.glo_ h1) (C.free _ (by decide +kernel)) (sE a C h3) (sE b C h4) h2 h2'
    · cases h
  | .enum e, sc, st, X, W, C, x, tg, h => by
    unfold mtI at h
    split at h
    · simp only [Bool.and_eq_true] at h
      obtain ⟨⟨⟨⟨h0, h1⟩, h2⟩, h3⟩, h4⟩ := h
      have e0 := eq_of_beq h0
      subst e0
      cases tg <;> first | (cases h3; done) | skip
      exact i_enum C.eK (C.glo_ h1) (C.free _ (by decide +kernel)) (sE e C h4) h2
    · cases h
  | .rng3 .., sc, st, X, W, C, x, tg, h => by cases h
  | .zip .., sc, st, X, W, C, x, tg, h => by cases h
  | .rev .., sc, st, X, W, C, x, tg, h => by cases h
end
end
end Di
namespace Di
open PySem PySem.Spec PyProof.Rows L2
/-! ### stores from the right -/
def isStar : Expr → Bool
  | .Starred .. => true
  | _ => false
def nmOf (sc : Scope) (line : Nat) : Expr → Option Str
  | .Name id pos => if (sc.names.lookup id == some .local && pos.line == line) = true then some id else none
  | _ => none
def swR (sc : Scope) (ts vs : List Expr) : Option (Option (List Str)) :=
  if (!(ts.length == 2 || ts.length == 3) || vs.length != ts.length) = true then some none
  else if vs.any isStar = true then some none
  else if ((ts.filterMap (nmOf sc ((ts.head?.map (·.pos.line)).getD 0))).length != ts.length || (ts.filterMap (nmOf sc ((ts.head?.map (·.pos.line)).getD 0))).eraseDups.length != (ts.filterMap (nmOf sc ((ts.head?.map (·.pos.line)).getD 0))).length) = true then some none
  else if vs.all (foldedForSure 8) = true then some none
  else if vs.all (constantsAlone 8) = true then none
  else some (some (ts.filterMap (nmOf sc ((ts.head?.map (·.pos.line)).getD 0))))
theorem any_ext {α : Type} {f g : α → Bool} (h : ∀ a, f a = g a) (l : List α) : l.any f = l.any g := by rw [show f = g from funext h]
theorem fm_ext {α β : Type} {f g : α → Option β} (h : ∀ a, f a = g a) (l : List α) : l.filterMap f = l.filterMap g := by rw [show f = g from funext h]
theorem swR_k {env : PySem.Env} {ts vs : List Expr} {k k2 : Nat} {p p2 : Pos} {r : Option (List Str)} (hk : env.scope.kind = .function) (h : swR env.scope ts vs = some r) : swappedStores [.Tuple ts k p] (.Tuple vs k2 p2) env = pure r := by
  have hb : env.blockKind = .function := by unfold Env.blockKind; rw [hk]; rfl
  unfold swR at h
  unfold swappedStores
  simp only [hb]
  have e0 : (ScopeKind.function != ScopeKind.function) = false := rfl
  simp only [e0, Bool.or_false]
  split at h
  · rename_i hc
    cases h
    rw [if_pos hc]
  · rename_i hc
    rw [if_neg hc]
    split at h
    · rename_i hc
      cases h
      refine (if_pos ?_).trans rfl
      exact (any_ext (fun e => by cases e <;> rfl) vs).trans hc
    · rename_i hc
      refine (if_neg ?_).trans ?_
      · intro hh
        exact hc ((any_ext (fun e => by cases e <;> rfl) vs).trans hh)
      · generalize hn : List.filterMap _ ts = nm
        have e1 : ts.filterMap (nmOf env.scope ((ts.head?.map (·.pos.line)).getD 0)) = nm := by
          rw [← hn]
          exact fm_ext (fun e => by cases e <;> rfl) ts
        rw [e1] at h
        split at h
        · rename_i hc
          cases h
          rw [if_pos hc]
        · rename_i hc
          rw [if_neg hc]
          split at h
          · rename_i hc
            cases h
            rw [if_pos hc]
          · rename_i hc
            rw [if_neg hc]
            split at h
            · cases h
            · rename_i hc
              cases h
              rw [if_neg hc]
end Di
namespace Di
open PySem PySem.Spec PyProof.Rows L2
def isLc : E → Bool
  | .lc .. => true
  | .lc2 .. => true
  | _ => false
def nodupB : List Nat → Bool
  | [] => true
  | i :: is => decide (i ∉ is) && nodupB is
/-- a, b = x, y: which store is it -/
def parB (N : List Str) (sc : Scope) (is : List Nat) (ts vs : List Expr) : Bool := match swR sc ts vs with
  | some none => decide (is.length ≤ 100)
  | some (some nms) => nodupB is && (match ts, vs with
    | [.Name x _, .Name y _], [_, _] => decide (nms = [x, y]) && decide (sc.names.lookup x = some .local) && decide (sc.names.lookup y = some .local)
    | [.Name x _, .Name y _, .Name z _], [_, _, _] => decide (nms = [x, y, z]) && decide (sc.names.lookup x = some .local) && decide (sc.names.lookup y = some .local) && decide (sc.names.lookup z = some .local)
    | _, _ => false)
  | none => false
/-- what a suite behind except may do -/
def mtU (N : List Str) (sc : Scope) : S → Stmt → Bool
  | .set i (.lit k), .Assign [.Name y _] (.Constant k' _ _) _ => nameB N i y && locB sc y && decide (k = k') && (litD k).isSome
  | .pas, .Pass _ => true
  | .brk, .Break _ => true
  | .cnt, .Continue _ => true
  | .ret (.lit k), .Return (some (.Constant k' _ _)) _ => decide (k = k') && (litD k).isSome
  | _, _ => false
def mtUs (N : List Str) (sc : Scope) : Ss → List Stmt → Bool
  | .nil, [] => true
  | .cons s ss, x :: xs => mtU N sc s x && mtUs N sc ss xs
  | _, _ => false
section
variable (N : List Str) (tb : Tb) (sc : Scope)
mutual
def mtS : S → Stmt → Bool
  | .set i e, x => (match x with
    | .Assign [.Name y _] v _ => nameB N i y && locB sc y && (isLc e || !isComp v) && mtE N tb sc e v
    | _ => false)
  | .setT is e, x => (match x with
    | .Assign [.Tuple ts _ _] v _ => tgNames N sc is ts && !isTup v && mtE N tb sc e v
    | _ => false)
  | .setP is es, x => (match x with
    | .Assign [.Tuple ts _ _] (.Tuple vs _ _) _ => tgNames N sc is ts && vs.all noStar && parB N sc is ts vs && mtEs N tb sc es vs
    | _ => false)
  | .put i k e, x => (match x with
    | .Assign [.Subscript (.Name y _) k' _] v _ => nameB N i y && visB sc y && okN y && !isComp v && notSlice k' && mtE N tb sc k k' && mtE N tb sc e v
    | _ => false)
  | .aug op i e, x => (match x with
    | .AugAssign (.Name y _) o v _ => nameB N i y && locB sc y && decide (op = o) && (decide (o = .Add) || decide (o = .Sub)) && mtE N tb sc e v
    | _ => false)
  | .exp e, x => (match x with
    | .Expr v _ => !isComp v && mtE N tb sc e v
    | _ => false)
  | .app i e, x => (match x with
    | .Expr (.Call (.Attribute (.Name y _) nm apos) [v] [] cpos) _ => nameB N i y && visB sc y && okN y && nm == ("append" : Str) && (apos.endLine == cpos.line) && noStar v && mtE N tb sc e v
    | _ => false)
  | .ext i e, x => (match x with
    | .Expr (.Call (.Attribute (.Name y _) nm apos) [v] [] cpos) _ => nameB N i y && visB sc y && okN y && nm == ("extend" : Str) && (apos.endLine == cpos.line) && noStar v && mtE N tb sc e v
    | _ => false)
  | .ret e, x => (match x with
    | .Return (some v) _ => mtE N tb sc e v
    | _ => false)
  | .retN, x => (match x with
    | .Return none _ => true
    | _ => false)
  | .ite t a b, x => (match x with
    | .If cnd xs ys _ => mtT N tb sc t cnd && mtSs a xs && mtSs b ys
    | _ => false)
  | .for g it b, x => (match x with
    | .For tg iter xs [] _ => mtG N sc g tg && notSet iter && mtI N tb sc it iter tg && mtSs b xs
    | _ => false)
  | .whl _ t b, x => (match x with
    | .While cnd xs [] _ => mtT N tb sc t cnd && mtSs b xs
    | _ => false)
  | .brk, x => (match x with
    | .Break _ => true
    | _ => false)
  | .cnt, x => (match x with
    | .Continue _ => true
    | _ => false)
  | .pas, x => (match x with
    | .Pass _ => true
    | _ => false)
  | .nev, _ => true
  | .rai k es, x => (match x with
    | .Raise (some (.Call (.Name y _) [.Constant (.str _) _ _] [] _)) none _ => (match es with
      | .nil => decide (tb.cls[k]? = some y) && decide (k ∈ tb.smp) && gloB sc y && okN y
      | _ => false)
    | _ => false)
  | .tri b hs, x => (match x with
    | .Try ys (h :: hds) [] [] _ => mtSs b ys && mtHs hs (h :: hds)
    | _ => false)
def mtSs : Ss → List Stmt → Bool
  | .nil, l => (match l with
    | [] => true
    | _ => false)
  | .cons s ss, l => (match l with
    | x :: xs => mtS s x && mtSs ss xs
    | _ => false)
def mtHs : Hs → List ExceptHandler → Bool
  | .nil, l => l.isEmpty
  | .cons c' i b hs, l => (match l with
    | .ExceptHandler (some (.Name y _)) none (y0 :: ys) _ :: hds => i.isNone && decide (tb.cls[c']? = some y) && gloB sc y && okN y && mtUs N sc b (y0 :: ys) && mtHs hs hds
    | _ => false)
end
end
structure Sok (tb : Tb) (G : Nat → Option D) (F : Calls) (k : Nat) (c : Cn) (N : List Str) (sc : Scope) (X : Cx) (W : WX) : Prop where
  C : Cok tb G F k c N sc sc X W
  hp : PassesOwn (model X.prog X.w) X.A X.env X.xe
  stk : X.stack = X.env :: X.outer
  frm : X.env.frame = some X.env.locals
theorem swaps_lc {elt : Expr} {gs : List Comprehension} {scope : Scope} {pos py : Pos} {y : Str} {l : Nat} {env : PySem.Env} (hk : env.scope.kind = .function) :
    swapsWith (.ListComp elt gs scope pos) (some (.Name y py)) l env = pure (env.scope.names.lookup y == some .local && py.line == pos.line && !(scope.names.any fun (n, k) => n == y && (k == .local || k == .cell))) := by
  have hb : env.blockKind = .function := by unfold Env.blockKind; rw [hk]; rfl
  unfold swapsWith
  simp only [hb]
  rfl
section
variable {tb : Tb} {G : Nat → Option D} {F : Calls} {k : Nat} {c : Cn} {N : List Str} {sc : Scope} {X : Cx} {W : WX}
theorem sP : ∀ (es : Es) {sc st : Scope}, Cok tb G F k c N sc st X W → ∀ {l : List Expr}, mtEs N tb sc es l = true → l.all noStar = true → PA X l (tP c W fun env => evP G F es env)
  | .nil, sc, st, C, l, h, hs => by
    cases l with
    | nil => exact p_nil
    | cons => simp [mtEs] at h
  | .cons e es, sc, st, C, l, h, hs => by
    cases l with
    | nil => simp [mtEs] at h
    | cons x xs =>
      simp only [mtEs, Bool.and_eq_true] at h
      simp only [List.all_cons, Bool.and_eq_true] at hs
      exact p_cons (sE e C h.1) (sP es C h.2 hs.2) (star_of hs.1)
theorem nodup_k : ∀ {is : List Nat}, nodupB is = true → is.Nodup
  | [], _ => List.nodup_nil
  | i :: is, h => by
    simp only [nodupB, Bool.and_eq_true, decide_eq_true_eq] at h
    exact List.nodup_cons.mpr ⟨h.1, nodup_k h.2⟩
theorem tg_at (C : Cok tb G F k c N sc sc X W) {i : Nat} {x : Str} (h : nameB N i x = true) : X.N[i]? = some x := by
  rw [C.eN]
  exact of_decide_eq_true h
theorem sPar (C : Cok tb G F k c N sc sc X W) {is : List Nat} {ts vs : List Expr} {k1 k2 : Nat} {p1 p2 pos : Pos} {f : Env → Out (List R)} (h1 : tgNames N sc is ts = true) (h2 : parB N sc is ts vs = true) (ha : PA X vs (tP c W f)) :
    PS X (.Assign [.Tuple ts k1 p1] (.Tuple vs k2 p2) pos) (tS c W fun env => (f env).go fun rs env => if rs.length = is.length then .nx (setAllS is rs env) else .no) := by
  have hk : X.env.scope.kind = .function := by rw [C.eS]; exact C.kind
  have hN : X.N.Nodup := by rw [C.eN]; exact C.nd
  unfold parB at h2
  split at h2
  · rename_i e
    rw [← C.eS] at e
    obtain ⟨a, b, d, _⟩ := names_k C.st C.eN C.nd h1
    have hg := pg_tup (k := k1) (pos := p1) (n := is.length) C.calm a b d
    rw [C.eK] at hg
    exact st_parN C.eK ha hg (of_decide_eq_true h2) (swR_k hk e)
  · rename_i nms e
    rw [← C.eS] at e
    have hw := swR_k (k := k1) (k2 := k2) (p := p1) (p2 := p2) hk e
    simp only [Bool.and_eq_true] at h2
    obtain ⟨h0, h2⟩ := h2
    have nd := nodup_k h0
    split at h2
    · rename_i x px y py u v
      simp only [Bool.and_eq_true, decide_eq_true_eq] at h2
      obtain ⟨⟨rfl, lx⟩, ly⟩ := h2
      match is, h1, nd with
      | [], h1, nd => simp [tgNames] at h1
      | [_], h1, nd => simp [tgNames] at h1
      | _ :: _ :: _ :: _, h1, nd => simp [tgNames] at h1
      | [i, j], h1, nd =>
        simp only [tgNames, Bool.and_eq_true] at h1
        obtain ⟨⟨a1, _⟩, ⟨⟨a2, _⟩, _⟩⟩ := h1
        exact st_par2 C.calm hN (tg_at C a1) (tg_at C a2) (fun e => by subst e; simp at nd) (by rw [C.eS]; exact lx) (by rw [C.eS]; exact ly) ha hw
    · rename_i x px y py z pz u v w
      simp only [Bool.and_eq_true, decide_eq_true_eq] at h2
      obtain ⟨⟨⟨rfl, lx⟩, ly⟩, lz⟩ := h2
      match is, h1, nd with
      | [], h1, nd => simp [tgNames] at h1
      | [_], h1, nd => simp [tgNames] at h1
      | [_, _], h1, nd => simp [tgNames] at h1
      | _ :: _ :: _ :: _ :: _, h1, nd => simp [tgNames] at h1
      | [i, j, l], h1, nd =>
        simp only [tgNames, Bool.and_eq_true] at h1
        obtain ⟨⟨a1, _⟩, ⟨⟨a2, _⟩, ⟨⟨a3, _⟩, _⟩⟩⟩ := h1
        exact st_par3 C.calm hN (tg_at C a1) (tg_at C a2) (tg_at C a3) (fun e => by subst e; simp at nd) (fun e => by subst e; simp at nd) (fun e => by subst e; simp at nd) (by rw [C.eS]; exact lx) (by rw [C.eS]; exact ly) (by rw [C.eS]; exact lz) ha hw
    · cases h2
  · cases h2
theorem swTup {es : List Expr} {kk : Nat} {tpos : Pos} {e : Expr} {env : PySem.Env} (h : isTup e = false) : swappedStores [.Tuple es kk tpos] e env = pure none := by
  cases e <;> first | rfl | cases h
theorem swsTup {es : List Expr} {kk : Nat} {tpos : Pos} {e : Expr} {l : Nat} {env : PySem.Env} : swapsWithSole [.Tuple es kk tpos] e l env = pure false := by
  cases e <;> rfl
theorem set_lc (O : Sok tb G F k c N sc X W) {i : Nat} {g : Tg} {own : List Nat} {it : It} {cd : Ts} {e : E} {x : Stmt} (h : mtS N tb sc (.set i (.lc g own it cd e)) x = true) : PS X x (tS c W fun env => exS G F (.set i (.lc g own it cd e)) env) := by
  have C := O.C
  unfold mtS at h
  split at h
  · rename_i y py v pos
    simp only [Bool.and_eq_true] at h
    obtain ⟨⟨⟨h1, h2⟩, h3⟩, hE⟩ := h
    have hEE := hE
    obtain ⟨l, f⟩ := C.st y h2
    have hN : X.N.Nodup := by rw [C.eN]; exact C.nd
    have hk : X.env.scope.kind = .function := by rw [C.eS]; exact C.kind
    unfold mtE at hE
    split at hE
    · rename_i elt tg iter ifs as scope vpos
      simp only [Bool.and_eq_true, decide_eq_true_eq] at hE
      obtain ⟨⟨⟨⟨⟨⟨⟨rfl, e1⟩, e2⟩, e3⟩, e4⟩, e5⟩, e6⟩, e7⟩ := hE
      have ok := blkOk_by e1
      have hg : ∀ i ∈ tgIx g, i ∈ (ownP N own).map (·.2) := by rw [ownP_ix]; exact fun i hi => of_decide_eq_true (List.all_eq_true.mp e2 i hi)
      have hsw := swaps_lc (elt := elt) (gs := [⟨tg, iter, ifs, 0⟩]) (scope := scope) (pos := vpos) (py := py) (y := y) (l := pos.line) hk
      cases hb : (X.env.scope.names.lookup y == some .local && py.line == vpos.line && !(scope.names.any fun (n, k) => n == y && (k == .local || k == .cell))) with
      | true =>
        rw [hb] at hsw
        have hyl : X.env.scope.names.lookup y = some .local := by
          simp only [Bool.and_eq_true] at hb
          exact eq_of_beq hb.1.1
        refine st_setC (fun env r env' e => madeC_m e) (ps_setLc C.calm hN (tg_at C h1) hyl hsw (sI it C e5) (C.okX ok) (fun s H Ca cl fp => s_tg (C.blk ok s H Ca cl fp) e3) (fun s H Ca cl fp => sTs cd (C.blk ok s H Ca cl fp) e6) (fun s H Ca cl fp => s_fz (sE e (C.blk ok s H Ca cl fp) e7)) (fun x => set_k_ e4 _ x)) fun σ H Q h => ?_
        rw [ownP_ix] at hg ⊢
        exact lc_imp hg h
      | false =>
        rw [hb] at hsw
        exact impS (ps_set hN (tg_at C h1) l (s_settle (sE (.lc g own it cd e) C hEE)) hsw f) fun D σ H h => set_k (fun _ _ _ e => settle_na e) h
    · cases hE
  · cases h
theorem set_lc2 (O : Sok tb G F k c N sc X W) {i : Nat} {g : Tg} {own : List Nat} {it : It} {c1 : Ts} {g2 : Tg} {own2 : List Nat} {it2 : It} {cd : Ts} {e : E} {x : Stmt} (h : mtS N tb sc (.set i (.lc2 g own it c1 g2 own2 it2 cd e)) x = true) : PS X x (tS c W fun env => exS G F (.set i (.lc2 g own it c1 g2 own2 it2 cd e)) env) := by
  have C := O.C
  unfold mtS at h
  split at h
  · rename_i y py v pos
    simp only [Bool.and_eq_true] at h
    obtain ⟨⟨⟨h1, h2⟩, h3⟩, hE⟩ := h
    have hEE := hE
    obtain ⟨l, f⟩ := C.st y h2
    have hN : X.N.Nodup := by rw [C.eN]; exact C.nd
    have hk : X.env.scope.kind = .function := by rw [C.eS]; exact C.kind
    unfold mtE at hE
    split at hE
    · rename_i elt tg iter ifs as tg2 iter2 ifs2 as2 scope vpos
      simp only [Bool.and_eq_true, decide_eq_true_eq] at hE
      obtain ⟨⟨⟨⟨⟨⟨⟨⟨⟨⟨⟨⟨⟨⟨rfl, rfl⟩, e1⟩, e2⟩, e3⟩, e4⟩, e5⟩, e6⟩, e7⟩, e8⟩, e9⟩, e10⟩, e11⟩, e12⟩, e13⟩ := hE
      have ok := blkOk_by e1
      have hg : ∀ i ∈ tgIx g, i ∈ own := fun i hi => of_decide_eq_true (List.all_eq_true.mp e2 i hi)
      have hg2 : ∀ i ∈ tgIx g2, i ∈ own2 := fun i hi => of_decide_eq_true (List.all_eq_true.mp e3 i hi)
      have hv : ∀ i ∈ own2, i ∈ own := fun i hi => of_decide_eq_true (List.all_eq_true.mp e4 i hi)
      have hsw := swaps_lc (elt := elt) (gs := [⟨tg, iter, ifs, 0⟩, ⟨tg2, iter2, ifs2, 0⟩]) (scope := scope) (pos := vpos) (py := py) (y := y) (l := pos.line) hk
      cases hb : (X.env.scope.names.lookup y == some .local && py.line == vpos.line && !(scope.names.any fun (n, k) => n == y && (k == .local || k == .cell))) with
      | true =>
        rw [hb] at hsw
        have hyl : X.env.scope.names.lookup y = some .local := by
          simp only [Bool.and_eq_true] at hb
          exact eq_of_beq hb.1.1
        refine st_setC (fun env r env' e => madeC_m e) (ps_setLc2 (vs1 := own2) C.calm hN (tg_at C h1) hyl hsw (sI it C e9) (C.okX ok) (by rw [ownP_ix]; exact hv) (fun s H Ca cl fp => s_tg (C.blk ok s H Ca cl fp) e5) (fun s H Ca cl fp => sTs c1 (C.blk ok s H Ca cl fp) e10) (fun s H Ca cl fp => sI it2 (C.blk ok s H Ca cl fp) e11)
          (fun s H Ca cl fp => s_tg (C.blk ok s H Ca cl fp) e6) (fun s H Ca cl fp => sTs cd (C.blk ok s H Ca cl fp) e12) (fun s H Ca cl fp => s_fz (sE e (C.blk ok s H Ca cl fp) e13)) (fun x => set_k_ e7 _ x) (fun env x => set_k_ e8 env x)) fun σ H Q h => ?_
        rw [ownP_ix]
        exact lc2_imp hg hg2 hv h
      | false =>
        rw [hb] at hsw
        exact impS (ps_set hN (tg_at C h1) l (s_settle (sE (.lc2 g own it c1 g2 own2 it2 cd e) C hEE)) hsw f) fun D σ H h => set_k (fun _ _ _ e => settle_na e) h
    · cases hE
  · cases h
theorem set_pl (O : Sok tb G F k c N sc X W) {i : Nat} {e : E} (hl : isLc e = false) {x : Stmt} (h : mtS N tb sc (.set i e) x = true) : PS X x (tS c W fun env => exS G F (.set i e) env) := by
  have C := O.C
  unfold mtS at h
  split at h
  · rename_i y py v pos
    simp only [Bool.and_eq_true] at h
    obtain ⟨⟨⟨h1, h2⟩, h3⟩, hE⟩ := h
    obtain ⟨l, f⟩ := C.st y h2
    have hN : X.N.Nodup := by rw [C.eN]; exact C.nd
    have h0 : isComp v = false := by simpa [hl] using h3
    exact st_set hN (tg_at C h1) l f (sE e C hE) h0
  · cases h
theorem sSet (O : Sok tb G F k c N sc X W) {i : Nat} : ∀ {e : E} {x : Stmt}, mtS N tb sc (.set i e) x = true → PS X x (tS c W fun env => exS G F (.set i e) env) := fun {e x} h => by
  cases e with
  | lc g own it cd e => exact set_lc O h
  | lc2 g own it c1 g2 own2 it2 cd e => exact set_lc2 O h
  | _ => exact set_pl O rfl h
theorem sU {Y : Cx} {W' : WX} (eN : Y.N = N) (nd : N.Nodup) (st : ∀ x, locB sc x = true → Loc Y.env.scope x ∧ (Y.fn x = true ∨ Y.env.scope.names.lookup x = some .local)) {s : S} {x : Stmt} (h : mtU N sc s x = true) : PS Y x (tS c W' fun env => exS G F s env) := by
  unfold mtU at h
  split at h
  · simp only [Bool.and_eq_true, decide_eq_true_eq] at h
    obtain ⟨⟨⟨h1, h2⟩, rfl⟩, h4⟩ := h
    obtain ⟨l, f⟩ := st _ h2
    have e := of_decide_eq_true h1
    rw [← eN] at e
    exact st_set (by rw [eN]; exact nd) e l f (s_lit h4) rfl
  · exact st_pass
  · exact st_break
  · exact st_cont
  · simp only [Bool.and_eq_true, decide_eq_true_eq] at h
    obtain ⟨rfl, h4⟩ := h
    exact st_ret (s_lit h4)
  · cases h
theorem sUs {Y : Cx} {W' : WX} (eN : Y.N = N) (nd : N.Nodup) (st : ∀ x, locB sc x = true → Loc Y.env.scope x ∧ (Y.fn x = true ∨ Y.env.scope.names.lookup x = some .local)) : ∀ {s : Ss} {l : List Stmt}, mtUs N sc s l = true → PSs Y l (tS c W' fun env => exSs G F s env)
  | .nil, [], _ => ss_nil
  | .cons s ss, x :: xs, h => by
    simp only [mtUs, Bool.and_eq_true] at h
    exact ss_cons (sU eN nd st h.1) (sUs eN nd st h.2)
  | .nil, _ :: _, h => by simp [mtUs] at h
  | .cons _ _, [], h => by simp [mtUs] at h
/-- raise X('..') -/
theorem s_rai (O : Sok tb G F k c N sc X W) {kc : Nat} {y m : Str} {j : Nat} {p p2 p3 pos : Pos} (h1 : tb.cls[kc]? = some y) (h2 : kc ∈ tb.smp) (h3 : gloB sc y = true) (h4 : okN y = true) :
    PS X (.Raise (some (.Call (.Name y p) [.Constant (.str m) j p2] [] p3)) none pos) (tS c W fun env => exS G F (.rai kc .nil) env) := by
  have C := O.C
  obtain ⟨Ca, m1, e⟩ := C.ex.cls kc y h1
  obtain ⟨e1, e2, e3, e4⟩ := e h2
  rw [← C.eK] at e1 e2 e3 e4
  refine impS (ps_raise C.calm C.tk (pmk_own PySem.F.excBase_ValueError e1 m1 e2 (raises_own e3 e4) (C.glo_ h3) (okN_k h4).1)) fun D σ H h => ?_
  obtain ⟨env, q, h⟩ := startS h
  exact h (.ref Ca) none σ H q (C.ex.mk_ kc y Ca H h1 m1)
theorem sHs (O : Sok tb G F k c N sc X W) : ∀ {hs : Hs} {hds : List ExceptHandler}, mtHs N tb sc hs hds = true → ∃ l, HdsOk X hds l ∧ ∀ {env0 env1 : Env} {σ0 σ1 : St} {H0 H1 : Hp} {D : Ends} {kx : Nat} {d : Option Di.D} {cls : Value} {dd : Option Addr}, Post c.K c.la env0 σ0 H0 env1 σ1 H1 → c.xr kx d cls dd H1 →
      FinS c W env0 σ0 H0 D (exHs G F hs kx d env1) → wMany X.K W D l cls dd σ1 H1
  | .nil, hds, h => by
    cases hds with
    | nil => exact ⟨[], .nil, fun p x h => h _ _ _ _ p x⟩
    | cons => simp [mtHs] at h
  | .cons c' i b hs, hds, h => by
    have C := O.C
    unfold mtHs at h
    split at h
    · rename_i y np y0 ys pos' hds
      simp only [Bool.and_eq_true, decide_eq_true_eq] at h
      obtain ⟨⟨⟨⟨⟨h1, h2⟩, h3⟩, h4⟩, h5⟩, h6⟩ := h
      obtain ⟨l, r, w⟩ := sHs O h6
      obtain ⟨Ca, m1, _⟩ := C.ex.cls c' y h2
      refine ⟨(.ref Ca, fun _ _ _ => tS c W fun env => exSs G F b env) :: l, .cons ⟨C.glo_ h3, (okN_k h4).1, .inl m1⟩ (fun a oe cls d pn _ _ => sUs (Y := X.suite a ((a, oe) :: pn)) C.eN C.nd C.st h5) r, fun {env0 env1 σ0 σ1 H0 H1 D kx d cls dd} p x hf => ?_⟩
      obtain ⟨z, C2, k1, k2, rfl⟩ := C.ex.xr_ _ _ _ _ _ x
      have hi : i = none := by cases i with
        | none => rfl
        | some j => simp at h1
      subst hi
      refine ⟨_, by rw [C.eK]; exact C.ex.exm kx c' z y C2 Ca k1 h2 k2 m1, fun hb a _ => ?_, fun hb => ?_⟩
      · have hc := of_decide_eq_true hb
        have e : exHs G F (.cons c' none b hs) kx d env1 = exSs G F b env1 := by
          show (if c' = kx ∨ c' = 0 then _ else _) = _
          rw [if_pos hc]
        rw [e] at hf
        exact ⟨env1, p.rel, finS_from p hf⟩
      · have hc := of_decide_eq_false hb
        have e : exHs G F (.cons c' none b hs) kx d env1 = exHs G F hs kx d env1 := by
          show (if c' = kx ∨ c' = 0 then _ else _) = _
          rw [if_neg hc]
        rw [e] at hf
        exact w p x hf
    · cases h
theorem Sok.tr (O : Sok tb G F k c N sc X W) {W' : WX} {pn : List (Addr × Obj)} {xe : Value → Shared → Prop} (tk : Takes (X.tr pn xe) W') (hp : PassesOwn (model X.prog X.w) X.A X.env xe) : Sok tb G F k c N sc (X.tr pn xe) W' :=
  ⟨⟨O.C.eK, O.C.eN, O.C.nd, O.C.eS, O.C.kind, O.C.calm, O.C.room, O.C.fns, O.C.ar, O.C.free, O.C.glo, tk, O.C.ex, O.C.st⟩, hp, O.stk, O.frm⟩
mutual
/-- THE STATEMENTS -/
theorem sS : ∀ (s : S) {X : Cx} {W : WX}, Sok tb G F k c N sc X W → ∀ {x : Stmt}, mtS N tb sc s x = true → PS X x (tS c W fun env => exS G F s env)
  | .set i e, X, W, O, x, h => sSet O h
  | .setT is e, X, W, O, x, h => by
    have C := O.C
    unfold mtS at h
    split at h
    · rename_i ts kk tpos v pos
      simp only [Bool.and_eq_true, Bool.not_eq_true'] at h
      obtain ⟨⟨h1, h2⟩, h3⟩ := h
      obtain ⟨a, b, d, _⟩ := names_k C.st C.eN C.nd h1
      have hg := pg_tup (k := kk) (pos := tpos) (n := is.length) C.calm a b d
      rw [C.eK] at hg
      exact st_setT C.eK (sE e C h3) hg swsTup (swTup h2)
    · cases h
  | .setP is es, X, W, O, x, h => by
    have C := O.C
    unfold mtS at h
    split at h
    · simp only [Bool.and_eq_true] at h
      obtain ⟨⟨⟨h1, h2⟩, h3⟩, h4⟩ := h
      exact sPar C h1 h3 (sP es C h4 h2)
    · cases h
  | .put i kx e, X, W, O, x, h => by
    have C := O.C
    unfold mtS at h
    split at h
    · simp only [Bool.and_eq_true, Bool.not_eq_true'] at h
      obtain ⟨⟨⟨⟨⟨⟨h1, h2⟩, h3⟩, h4⟩, h5⟩, h6⟩, h7⟩ := h
      refine st_put C.eK (tg_at C h1) (by rw [C.eS]; exact visB_k h2) (okN_k h3).1 (okN_k h3).2 (sE kx C h6) (sE e C h7) h4 fun v => ?_
      rename_i k' _ _ _
      cases k' <;> first | rfl | cases h5
    · cases h
  | .aug op i e, X, W, O, x, h => by
    have C := O.C
    unfold mtS at h
    split at h
    · simp only [Bool.and_eq_true, Bool.or_eq_true, decide_eq_true_eq] at h
      obtain ⟨⟨⟨⟨h1, h2⟩, rfl⟩, h4⟩, h5⟩ := h
      obtain ⟨l, f⟩ := C.st _ h2
      exact st_aug h4 C.eK (by rw [C.eN]; exact C.nd) (tg_at C h1) l f (sE e C h5)
    · cases h
  | .exp e, X, W, O, x, h => by
    unfold mtS at h
    split at h
    · simp only [Bool.and_eq_true, Bool.not_eq_true'] at h
      exact st_exp (sE e O.C h.2) h.1
    · cases h
  | .app i e, X, W, O, x, h => by
    have C := O.C
    unfold mtS at h
    split at h
    · simp only [Bool.and_eq_true] at h
      obtain ⟨⟨⟨⟨⟨⟨h1, h2⟩, h3⟩, h4⟩, h5⟩, h6⟩, h7⟩ := h
      have e0 := eq_of_beq h4
      subst e0
      exact st_app C.eK (tg_at C h1) (by rw [C.eS]; exact visB_k h2) (okN_k h3).1 (okN_k h3).2 (sE e C h7) h6 h5
    · cases h
  | .ext i e, X, W, O, x, h => by
    have C := O.C
    unfold mtS at h
    split at h
    · simp only [Bool.and_eq_true] at h
      obtain ⟨⟨⟨⟨⟨⟨h1, h2⟩, h3⟩, h4⟩, h5⟩, h6⟩, h7⟩ := h
      have e0 := eq_of_beq h4
      subst e0
      exact st_ext C.eK (tg_at C h1) (by rw [C.eS]; exact visB_k h2) (okN_k h3).1 (okN_k h3).2 (sE e C h7) h6 h5
    · cases h
  | .ret e, X, W, O, x, h => by
    unfold mtS at h
    split at h
    · exact st_ret (sE e O.C h)
    · cases h
  | .retN, X, W, O, x, h => by
    unfold mtS at h
    split at h
    · exact st_retN
    · cases h
  | .ite t a b, X, W, O, x, h => by
    unfold mtS at h
    split at h
    · simp only [Bool.and_eq_true] at h
      exact st_if (sT t O.C h.1.1).1 (sSs a O h.1.2) (sSs b O h.2)
    · cases h
  | .for g it b, X, W, O, x, h => by
    unfold mtS at h
    split at h
    · simp only [Bool.and_eq_true] at h
      obtain ⟨⟨⟨h1, h2⟩, h3⟩, h4⟩ := h
      exact st_for O.hp O.C.calm (sI it O.C h3) (s_tg O.C h1) (sSs b O h4) (fun x => set_k_ h2 _ x)
    · cases h
  | .whl n t b, X, W, O, x, h => by
    unfold mtS at h
    split at h
    · simp only [Bool.and_eq_true] at h
      exact st_whl O.hp (sT t O.C h.1).1 (sSs b O h.2)
    · cases h
  | .brk, X, W, O, x, h => by
    unfold mtS at h
    split at h
    · exact st_break
    · cases h
  | .cnt, X, W, O, x, h => by
    unfold mtS at h
    split at h
    · exact st_cont
    · cases h
  | .pas, X, W, O, x, h => by
    unfold mtS at h
    split at h
    · exact st_pass
    · cases h
  | .nev, X, W, O, x, h => impS ps_never fun D σ H q => by
    obtain ⟨env, p, q⟩ := startS q
    exact q
  | .rai kc es, X, W, O, x, h => by
    unfold mtS at h
    split at h
    · split at h
      · simp only [Bool.and_eq_true, decide_eq_true_eq] at h
        exact s_rai O h.1.1.1 h.1.1.2 h.1.2 h.2
      · cases h
    · cases h
  | .tri b hs, X, W, O, x, h => by
    unfold mtS at h
    split at h
    · simp only [Bool.and_eq_true] at h
      obtain ⟨l, r, w⟩ := sHs O h.2
      refine impS (ps_try_many (tb := fun W' => tS c W' fun env => exSs G F b env) O.stk O.frm O.C.tk (fun W' pn xe tk hp => sSs b (O.tr tk hp) h.1) r) fun D σ H q => ?_
      obtain ⟨env, p, q⟩ := startS q
      refine ⟨env, p.rel, ?_⟩
      have q : FinS c W env σ H D (match exSs G F b env with
        | .exc c d env => exHs G F hs c d env
        | o => o) := q
      show FinS c (wMany X.K W D l) env σ H D (exSs G F b env)
      cases e : exSs G F b env with
      | exc kx d env1 =>
        rw [e] at q
        exact fun cls dd σ' H' p' x => w p' x q
      | nx e1 => rw [e] at q; exact q
      | rt r e1 => rw [e] at q; exact q
      | bk e1 => rw [e] at q; exact q
      | ct e1 => rw [e] at q; exact q
      | no => rw [e] at q; exact q
    · cases h
theorem sSs : ∀ (s : Ss) {X : Cx} {W : WX}, Sok tb G F k c N sc X W → ∀ {l : List Stmt}, mtSs N tb sc s l = true → PSs X l (tS c W fun env => exSs G F s env)
  | .nil, X, W, O, l, h => by
    cases l with
    | nil => exact ss_nil
    | cons => simp [mtSs] at h
  | .cons s ss, X, W, O, l, h => by
    cases l with
    | nil => simp [mtSs] at h
    | cons x xs =>
      simp only [mtSs, Bool.and_eq_true] at h
      exact ss_cons (sS s O h.1) (sSs ss O h.2)
end
end
end Di
namespace Di
open PySem PySem.Spec PyProof.Rows L2
/-! ### defs -/
structure DI where
  name : Str
  N : List Str
  ps : List Str
  stm : Stmt
  fn : Fn
def DI.dd (d : DI) : He.DefD := ⟨(d.name, none), d.name, d.name, defArgs d.stm, defBody d.stm, defScope d.stm, [], []⟩
def scopeB (N ps : List Str) (sc : Scope) : Bool := decide (sc.kind = .function) && !sc.isCoroutine && !sc.isGenerator && decide N.Nodup && decide (N.take ps.length = ps) && ps.all (locB sc) && sc.names.all (fun y => decide (y.2 ≠ .free))
def DI.chk (tb : Tb) (d : DI) : Bool := mtSs d.N tb (defScope d.stm) d.fn.body (defBody d.stm) && scopeB d.N d.ps (defScope d.stm) && decide (d.fn.n = d.N.length) && decide (d.fn.np = d.ps.length)
def BindP (st : Stmt) (x : Str) (ps : List Str) : Prop := ∀ (kV doc pm : Value) (an : Option Addr) (cdv ct : Value) (us : List Value), us.length = ps.length → bindArgs (PySem.W.fnOf x x (defArgs st) (defBody st) (defScope st) .none kV doc pm an cdv ct) ⟨us, []⟩ = pure (ps.zip us)
def KwP (st : Stmt) (x : Str) (ps : List Str) (n : Nat) (ks : List Str) (perm : List Nat) : Prop := ∀ (kV doc pm : Value) (an : Option Addr) (cdv ct : Value) (us ws : List Value), us.length = n → ws.length = ks.length →
  bindArgs (PySem.W.fnOf x x (defArgs st) (defBody st) (defScope st) .none kV doc pm an cdv ct) ⟨us, ks.zip ws⟩ = pure (ps.zip (pick perm (us ++ ws)))
theorem scopeB_k {N ps : List Str} {sc : Scope} (h : scopeB N ps sc = true) : FnScope N ps sc := by
  unfold scopeB at h
  simp only [Bool.and_eq_true, Bool.not_eq_true', decide_eq_true_eq] at h
  obtain ⟨⟨⟨⟨⟨⟨h1, h2⟩, h3⟩, h4⟩, h5⟩, h6⟩, h7⟩ := h
  exact ⟨h1, h2, h3, h4, h5, fun x hx => locB_k (List.all_eq_true.mp h6 x hx), fun y hy => of_decide_eq_true (List.all_eq_true.mp h7 y hy)⟩
theorem kwB_of {K : PySem.W.Frag} {st : Stmt} {x : Str} {f : Addr} {fd : FuncData} {ps ks : List Str} {n : Nat} {perm : List Nat} (F : FunD K x x (defArgs st) (defBody st) (defScope st) [] [] f fd) (h : KwP st x ps n ks perm) : KwB K fd ps n ks perm := by
  obtain ⟨oc, od, dV, kV, doc, pm, an, cdv, ct, osl, rfl, lk, hcd, hD, hK⟩ := F.ex
  rcases hD with ⟨_, rfl⟩ | ⟨e, _⟩
  · exact ⟨fun s us ws _ h1 h2 => .of_eq (h kV doc pm an cdv ct us ws h1 h2), fun r1 r2 => vals_pick (r1.append r2)⟩
  · exact absurd rfl e
/-- the program's facts -/
structure Lib (tb : Tb) (ds : List DI) (G : Nat → Option D) (K : PySem.W.Frag) (xr : XR) (mg : Str → Option Value) : Prop where
  ex : ExOk tb K xr mg
  tb_ : tb.fns = ds.map fun (d : DI) => (d.name, d.ps.length)
  def_ : ∀ (i : Nat) (d : DI), ds[i]? = some d → ∃ f fd, mg d.name = some (.ref f) ∧ FunD K d.name d.name (defArgs d.stm) (defBody d.stm) (defScope d.stm) [] [] f fd
  chk : ∀ (i : Nat) (d : DI), ds[i]? = some d → d.chk tb = true
  bind : ∀ (i : Nat) (d : DI), ds[i]? = some d → BindP d.stm d.name d.ps
  kw : ∀ (i : Nat) (d : DI), ds[i]? = some d → ∀ n ks perm, (i, n, ks, perm) ∈ tb.kws → KwP d.stm d.name d.ps n ks perm
  free : ∀ x ∈ bltNames, mg x = none
  glo : ∀ i x, tb.glo[i]? = some x → ∃ v u d, G i = some d ∧ mg x = some u ∧ RelV v u ∧ ∀ H, Pd K H v d
def progOf (ds : List DI) (G : Nat → Option D) : Prog := ⟨ds.map (·.fn), G⟩
theorem rn_ar {ds : List DI} {G : Nat → Option D} {k i np : Nat} {d : DI} (hd : ds[i]? = some d) (hn : d.fn.np = np) (as : List Sl) (le : List M) (h : rn (progOf ds G) k i as le ≠ .no) : as.length = np := by
  cases k with
  | zero => exact absurd rfl h
  | succ k =>
    have e : (progOf ds G).fns[i]? = some d.fn := by
      show (ds.map (·.fn))[i]? = _
      rw [List.getElem?_map, hd]; rfl
    unfold rn at h
    rw [e] at h
    by_cases hl : as.length = d.fn.np
    · rw [hl, hn]
    · exact absurd (by simp only [hl, if_false]) h
theorem start_len {N : List Str} {vs : List V} : start N vs = vs.map some ++ List.replicate (N.length - vs.length) none := rfl
section
variable {K : PySem.W.Frag} {la : List Addr} {as : List Sl} {le : List M} {σ : St} {H : Hp} {n : Nat}
def eN (as : List Sl) (n : Nat) (le : List M) : Env := ⟨as.map some ++ List.replicate n none, le⟩
theorem slot_eN {i : Nat} : slot (eN as n le) i = slot (eC as le) i := by
  rw [slot_j, slot_j]
  show ((as.map some ++ List.replicate n none)[i]?).join = ((as.map some)[i]?).join
  by_cases h : i < (as.map some).length
  · rw [List.getElem?_append_left h]
  · have h' : (as.map some)[i]? = none := List.getElem?_eq_none (by omega)
    rw [List.getElem?_append_right (by omega), h', List.getElem?_replicate]
    split <;> rfl
theorem own_eN {vs : List V} {m : Nat} (hl : as.length = vs.length) {p : Addr} : Own la (eN as n le) (vs.map some ++ List.replicate m none) p ↔ Own la (eC as le) (vs.map some) p := by
  have at_ : ∀ {i : Nat} {s : Sl}, slot (eC as le) i = some s → (vs.map some ++ List.replicate m (none : Option V))[i]? = (vs.map some)[i]? := fun {i s} h => by
    have : i < (eC as le).sl.length := slot_lt h
    have : i < (vs.map some).length := by simpa [eC, hl] using this
    rw [List.getElem?_append_left this]
  constructor
  · rintro (⟨i, x, h, e⟩ | o)
    · rw [slot_eN] at h
      rw [at_ h] at e
      exact .inl ⟨i, x, h, e⟩
    · exact .inr o
  · rintro (⟨i, x, h, e⟩ | o)
    · exact .inl ⟨i, x, by rw [slot_eN]; exact h, by rw [at_ h]; exact e⟩
    · exact .inr o
theorem rel_eN {vs : List V} (hl : as.length = vs.length) (r : ERel K la (eC as le) (vs.map some) H) : ERel K la (eN as n le) (vs.map some ++ List.replicate n none) H := by
  have at_ : ∀ {i : Nat} {s : Sl}, slot (eC as le) i = some s → (vs.map some ++ List.replicate n (none : Option V))[i]? = (vs.map some)[i]? := fun {i s} h => by
    have : i < (eC as le).sl.length := slot_lt h
    have : i < (vs.map some).length := by simpa [eC, hl] using this
    rw [List.getElem?_append_left this]
  refine ⟨by simp [eN, hl], fun i s h => ?_, r.lent, r.ll, fun i j x y p hx hy e1 e2 => ?_, fun i x p hx e => ?_, r.nd⟩
  · rw [slot_eN] at h
    obtain ⟨v, e1, e2⟩ := r.at_ i s h
    exact ⟨v, by rw [at_ h]; exact e1, e2⟩
  · rw [slot_eN] at hx hy
    rw [at_ hx] at e1
    rw [at_ hy] at e2
    exact r.apart i j x y p hx hy e1 e2
  · rw [slot_eN] at hx
    rw [at_ hx] at e
    exact r.out i x p hx e
end
section
variable {tb : Tb} {ds : List DI} {G : Nat → Option D} {P : Program} {w : World} {K : PySem.W.Frag} {mg : Str → Option Value} {base : Heap} {xr : XR}
theorem body_ok {k : Nat} {d : DI} {f : Addr} {fd : FuncData} (i : Nat) (hd : ds[i]? = some d) (L : Lib tb ds G K xr mg) (F : FunD K d.name d.name (defArgs d.stm) (defBody d.stm) (defScope d.stm) [] [] f fd)
    (ih : ∀ i x np, tb.fns[i]? = some (x, np) → ∃ f fd ps, mg x = some (.ref f) ∧ PySem.W.keepIn K (.ref f) = true ∧ Binds K fd ps [] ∧
      FnOk P w K mg base (L2.CX P w) k f fd ps (spF K xr (rn (progOf ds G) k i) np) ∧ (∀ n ks perm, (i, n, ks, perm) ∈ tb.kws → KwB K fd ps n ks perm)) :
    FnOk P w K mg base (L2.CX P w) (k + 1) f fd d.ps (spF K xr (rn (progOf ds G) (k + 1) i) d.ps.length) := by
  have ck := L.chk i d hd
  unfold DI.chk at ck
  simp only [Bool.and_eq_true, decide_eq_true_eq] at ck
  obtain ⟨⟨⟨hm, hs⟩, hn⟩, hnp⟩ := ck
  have S := scopeB_k hs
  refine F.ok S (fun vs H Q E h => h.1) fun cdv A outer s H vs Q E hr h => ?_
  obtain ⟨hv, as, le, la, hl, rel, ne, h⟩ := h
  have e : (progOf ds G).fns[i]? = some d.fn := by
    show (ds.map (·.fn))[i]? = _
    rw [List.getElem?_map, hd]; rfl
  let c : Cn := ⟨K, xr, la⟩
  let X := cxOf (L2.CX P w) P w K mg base d.N d.name (defScope d.stm) f cdv A outer s H E
  have O : Sok tb G (rn (progOf ds G) k) k c d.N (defScope d.stm) X (fun cls d _ H => E cls d H) := by
    refine ⟨⟨rfl, rfl, S.nd, rfl, S.kind, rfl, hr, ih, fun j x np hj => ?_, L.free, L.glo, takes_of rfl rfl rfl rfl, L.ex, fun x hx => ⟨locB_k hx, .inl rfl⟩⟩, passes_of rfl, rfl, rfl⟩
    rw [L.tb_, List.getElem?_map] at hj
    cases ej : ds[j]? with
    | none => rw [ej] at hj; cases hj
    | some d' =>
      rw [ej] at hj
      cases hj
      have ck' := L.chk j d' ej
      unfold DI.chk at ck'
      simp only [Bool.and_eq_true, decide_eq_true_eq] at ck'
      exact fun as le => rn_ar ej ck'.2 as le
  refine ⟨_, sSs d.fn.body O hm, eN as (d.fn.n - d.fn.np) le, ?_, ?_⟩
  · rw [start_len, hn, hnp, ← hv]
    exact rel_eN hl rel
  · have own0 : ∀ p, Own la (eN as (d.fn.n - d.fn.np) le) (start d.N vs) p ↔ Own la (eC as le) (vs.map some) p := fun p => own_eN hl
    unfold rn at h
    rw [e] at h
    have hal : as.length = d.fn.np := by rw [hl, hv, hnp]
    simp only [hal, if_true] at h
    have ee : (⟨as.map some ++ List.replicate (d.fn.n - d.fn.np) none, le⟩ : Env) = eN as (d.fn.n - d.fn.np) le := rfl
    rw [ee] at h
    have ext : ∀ {H' : Hp} {env' : Env} {σ' : St}, Post K la (eN as (d.fn.n - d.fn.np) le) (start d.N vs) H env' σ' H' → Ext (Own la (eC as le) (vs.map some)) H H' := fun p a o ha no => p.ext a o ha fun q => no ((own0 a).mp q)
    have lent : ∀ {H' : Hp} {env' : Env} {σ' : St}, ERel K la env' σ' H' → LE K la env'.le H' := fun r => ⟨r.ll, r.lent⟩
    show FinS c (fun cls d _ H => E cls d H) (eN as (d.fn.n - d.fn.np) le) (start d.N vs) H _ (exSs G (rn (progOf ds G) k) d.fn.body (eN as (d.fn.n - d.fn.np) le))
    have hG : (progOf ds G).glo = G := rfl
    rw [hG] at h
    cases er : exSs G (rn (progOf ds G) k) d.fn.body (eN as (d.fn.n - d.fn.np) le) with
    | nx env' =>
      rw [er] at h
      exact fun σ' H' p => h .non H' (ext p) (lent p.rel) .non
    | rt r env' =>
      rw [er] at h
      intro v σ' H' p rr nw
      dsimp only at h
      cases ef : fin r env' with
      | none => rw [ef] at h; exact h.elim
      | some x =>
        rw [ef] at h
        refine h v H' (ext p) (lent p.rel) ?_
        have owned : ∀ {q : Addr}, Own la env' σ' q → H q = none ∨ Own la (eC as le) (vs.map some) q := fun {q} o => by
          rcases p.sub q o with o | o
          · exact .inr ((own0 q).mp o)
          · exact .inl o
        cases r with
        | v d => cases ef; exact rr
        | m y =>
          cases ef
          obtain ⟨q, rfl, m, no⟩ := rr
          refine ⟨q, rfl, m, fun hq => no (.inr hq), ?_⟩
          rcases nw y q rfl rfl with z | z
          · exact .inl z
          · exact .inr ((own0 q).mp z)
        | a j =>
          obtain ⟨⟨t, ht⟩, hv'⟩ := rr
          obtain ⟨v', e1, e2⟩ := p.rel.at_ j t ht
          rw [hv'] at e1
          cases e1
          unfold fin at ef
          simp only [ht] at ef
          cases t with
          | v d => cases ef; exact e2
          | m y =>
            cases ef
            obtain ⟨q, rfl, m⟩ := e2
            exact ⟨q, rfl, m, p.rel.out j y q ht hv', owned (.inl ⟨j, y, ht, hv'⟩)⟩
          | l j => cases ef
          | e d => cases ef
    | bk env' => rw [er] at h; exact h.elim
    | ct env' => rw [er] at h; exact h.elim
    | exc q d env' =>
      rw [er] at h
      exact fun cls dd σ' H' p x => h cls dd H' (ext p) (lent p.rel) x
    | no => rw [er] at h; exact h.elim
theorem defs_ok (L : Lib tb ds G K xr mg) : ∀ k i x np, tb.fns[i]? = some (x, np) → ∃ f fd ps, mg x = some (.ref f) ∧ PySem.W.keepIn K (.ref f) = true ∧ Binds K fd ps [] ∧
      FnOk P w K mg base (L2.CX P w) k f fd ps (spF K xr (rn (progOf ds G) k i) np) ∧ (∀ n ks perm, (i, n, ks, perm) ∈ tb.kws → KwB K fd ps n ks perm) := by
  intro k
  induction k with
  | zero =>
    intro i x np hi
    rw [L.tb_, List.getElem?_map] at hi
    cases ej : ds[i]? with
    | none => rw [ej] at hi; cases hi
    | some d =>
      rw [ej] at hi
      cases hi
      obtain ⟨f, fd, m, F⟩ := L.def_ i d ej
      refine ⟨f, fd, d.ps, m, F.kp, F.bindsN (L.bind i d ej), ⟨fun vs H Q E h => h.1, fun A outer s H args us vs Q E _ _ _ _ h => ?_⟩, fun n ks perm hk => kwB_of F (L.kw i d ej n ks perm hk)⟩
      obtain ⟨_, _, _, _, _, _, _, h⟩ := h
      exact h.elim
  | succ k ih =>
    intro i x np hi
    rw [L.tb_, List.getElem?_map] at hi
    cases ej : ds[i]? with
    | none => rw [ej] at hi; cases hi
    | some d =>
      rw [ej] at hi
      cases hi
      obtain ⟨f, fd, m, F⟩ := L.def_ i d ej
      exact ⟨f, fd, d.ps, m, F.kp, F.bindsN (L.bind i d ej), body_ok i ej L F ih, fun n ks perm hk => kwB_of F (L.kw i d ej n ks perm hk)⟩
/-- nothing gets out -/
theorem quiet {k : Nat} {f : Addr} {fd : FuncData} {ps : List Str} {sp : Sp} (F : FnOk P w K mg base (L2.CX P w) k f fd ps sp) : FnOk P w K mg base CX0 k f fd ps (fun vs H Q _ => sp vs H Q fun _ _ _ => False) :=
  ⟨fun vs H Q E h => F.len vs H Q _ h, fun A outer s H args us vs Q E hr e0 hb r h => codeAny_mono (F.run A outer s H args us vs Q (fun _ _ _ => False) hr e0 hb r h) fun r s' hq => by
    cases r with
    | error e =>
      obtain ⟨_, _, _, _, _, _, _, _, _, _, _, _, z⟩ := hq
      exact z.elim
    | ok fl => cases fl <;> exact hq⟩
end
end Di
namespace Di
open PySem PySem.Spec PyProof.Rows L2
inductive All {α : Type} (Q : α → Prop) : List α → Prop
  | nil : All Q []
  | cons {a : α} {l : List α} : Q a → All Q l → All Q (a :: l)
theorem All.at {α : Type} {Q : α → Prop} : ∀ {l : List α}, All Q l → ∀ {i : Nat} {a : α}, l[i]? = some a → Q a
  | _, .nil, i, a, h => by simp at h
  | _, .cons q t, 0, a, h => by simp at h; subst h; exact q
  | _, .cons q t, i + 1, a, h => t.at (i := i) (by simpa using h)
def exmsOf (tb : Tb) : List He.Fa := (tb.cls.zipIdx.map fun p => tb.cls.zipIdx.map fun q => He.Fa.exm p.1 q.1 (decide (q.2 = p.2 ∨ q.2 = 0))).flatten
def excsOf (tb : Tb) : List He.Fa := tb.smp.filterMap fun i => (tb.cls[i]?).map He.Fa.exc
def factsOf (tb : Tb) (ds : List DI) : List He.Fa := (ds.map fun d => .glo d.name) ++ (bltNames.map .free ++ (tb.cls.map .glo ++ (excsOf tb ++ exmsOf tb)))
/-- what is told of an exception: its class -/
def xrOf (tb : Tb) (mg : Str → Option Value) : XR := fun k d cls dd _ => ∃ x C, tb.cls[k]? = some x ∧ mg x = some (.ref C) ∧ cls = .ref C
theorem lib_of {tb : Tb} {ds : List DI} {G : Nat → Option D} {K : PySem.W.Frag} {mg : Str → Option Value} {h : Heap} (X : K.In h) (N : h.Ns mainGlobals mg) (c : He.SaysD (factsOf tb ds) (ds.map DI.dd) K)
    (tb_ : tb.fns = ds.map fun (d : DI) => (d.name, d.ps.length)) (chk : ds.all (DI.chk tb) = true) (bn : All (fun d => BindP d.stm d.name d.ps) ds)
    (kw : All (fun (q : Nat × Nat × List Str × List Nat) => ∀ d, ds[q.1]? = some d → KwP d.stm d.name d.ps q.2.1 q.2.2.1 q.2.2.2) tb.kws) (glo : ∀ i x, tb.glo[i]? = some x → ∃ v u d, G i = some d ∧ mg x = some u ∧ RelV v u ∧ ∀ H, Pd K H v d) : Lib tb ds G K (xrOf tb mg) mg where
  ex := by
    have glo : ∀ x ∈ tb.cls, mg x = some (.ref (He.ga K x)) := fun x hx => He.glo_ok X N (c.facts (f := .glo x) (List.mem_append_right _ (List.mem_append_right _ (List.mem_append_left _ (List.mem_map_of_mem (f := He.Fa.glo) hx)))))
    have at_ : ∀ {x : Str} {C : Addr}, x ∈ tb.cls → mg x = some (.ref C) → C = He.ga K x := fun {x C} hx e => by
      rw [glo x hx] at e
      cases e
      rfl
    refine ⟨fun i x hi => ⟨He.ga K x, glo x (List.mem_of_getElem? hi), fun hs => He.exc_ok (c.facts (f := .exc x) (List.mem_append_right _ (List.mem_append_right _ (List.mem_append_right _ (List.mem_append_left _ ?_)))))⟩, fun k d cls dd H h => h, fun k x C H h1 h2 => ⟨x, C, h1, h2, rfl⟩, fun i j x y C C' hi hj e1 e2 => ?_⟩
    · exact List.mem_filterMap.mpr ⟨i, hs, by rw [hi]; rfl⟩
    · rw [at_ (List.mem_of_getElem? hi) e1, at_ (List.mem_of_getElem? hj) e2]
      refine He.exm_ok (c.facts (f := .exm x y (decide (j = i ∨ j = 0))) (List.mem_append_right _ (List.mem_append_right _ (List.mem_append_right _ (List.mem_append_right _ ?_)))))
      have mz : ∀ {l : List Str} {i : Nat} {x : Str}, l[i]? = some x → (x, i) ∈ l.zipIdx := fun {l i x} h => List.mem_zipIdx_iff_getElem?.mpr h
      exact List.mem_flatten.mpr ⟨_, List.mem_map_of_mem (mz hi), List.mem_map_of_mem (f := fun q => He.Fa.exm x q.1 (decide (q.2 = i ∨ q.2 = 0))) (mz hj)⟩
  tb_ := tb_
  def_ := fun i d e => by
    obtain ⟨fd, F⟩ := c.def_ i (d := d.dd) (by rw [List.getElem?_map, e]; rfl)
    refine ⟨He.ga K d.name, fd, He.glo_ok X N (c.facts (f := .glo d.name) ?_), F⟩
    exact List.mem_append_left _ (List.mem_map_of_mem (f := fun (d : DI) => He.Fa.glo d.name) (List.mem_of_getElem? e))
  chk := fun i d e => List.all_eq_true.mp chk d (List.mem_of_getElem? e)
  bind := fun i d e => bn.at e
  kw := fun i d e n ks perm hm => by
    obtain ⟨j, hj⟩ := List.mem_iff_getElem?.mp hm
    exact kw.at hj d e
  free := fun x hx => He.free_ok X N (c.facts (f := .free x) (List.mem_append_right _ (List.mem_append_left _ (List.mem_map_of_mem (f := He.Fa.free) hx))))
  glo := glo
/-- the law's wish, from the plain law -/
theorem law_sp {K : PySem.W.Frag} {xr : XR} {F : List Sl → List M → CO} (ns : List Int) (hz : ns.length ≤ 1000) (h : F [.v (.list (ns.map .int))] [] = .ok (.v (.bool true)) []) (H : Hp) (a : Addr) (hO : Only H) (hS : SqL K H a (ns.map V.int)) :
    spF K xr F 1 [.ref a] H (fun v _ => v = .bl true) fun _ _ _ => False := by
  have pa : ∀ ns : List Int, PdA K H (ns.map V.int) (ns.map PyData.int) := fun ns => by
    induction ns with
    | nil => exact .nil
    | cons n ns ih => exact .cons (.int n) ih
  have sf : SqF K H a (ns.map V.int) := by
    rcases hS with (hS | ⟨o, hS⟩) | hS
    · rcases hO a with z | ⟨o, xs, z⟩
      · rw [z] at hS; cases hS
      · rw [z] at hS; cases hS
    · exact .inl ⟨o, hS⟩
    · exact .inr hS
  have pd : Pd K H (.ref a) (.list (ns.map .int)) := .lst sf (by rw [List.length_map, sizeLine_eq]; omega) (pa ns)
  refine ⟨rfl, [.v (.list (ns.map .int))], [], [], rfl, ⟨rfl, fun i s e => ?_, fun j x e => by simp [eC] at e, rfl, fun i j x y p hx hy _ _ => ?_, fun i x p hx _ => ?_, List.nodup_nil⟩, fun x hx d e => ?_, ?_⟩
  · rw [slot_eC] at e
    cases i with
    | zero => simp at e; subst e; exact ⟨.ref a, rfl, pd⟩
    | succ i => simp at e
  · rw [slot_eC] at hx
    cases i with
    | zero => simp at hx
    | succ i => simp at hx
  · rw [slot_eC] at hx
    cases i with
    | zero => simp at hx
    | succ i => simp at hx
  · simp at hx
    subst hx
    cases e
  · rw [h]
    intro v H' _ _ vr
    cases vr
    rfl
end Di
namespace Di
open PySem
/-! ### tools for the plain laws -/
def endFn : Fl → CO
  | .rt r env => (match fin r env with
    | some x => .ok x env.le
    | none => .no)
  | .nx env => .ok (.v .none) env.le
  | .exc c d env => .exc c d env.le
  | _ => .no
noncomputable def runFn (G : Nat → Option D) (F : Calls) (fn : Fn) (as : List Sl) (le : List M) : CO :=
  if as.length = fn.np then endFn (exSs G F fn.body ⟨as.map some ++ List.replicate (fn.n - fn.np) none, le⟩) else .no
theorem rn_succ {ds : List DI} {G : Nat → Option D} {k i : Nat} {fn : Fn} (h : (ds.map (·.fn))[i]? = some fn) (as : List Sl) (le : List M) : rn (progOf ds G) (k + 1) i as le = runFn G (rn (progOf ds G) k) fn as le := by
  have h : (progOf ds G).fns[i]? = some fn := h
  unfold runFn
  have e : rn (progOf ds G) (k + 1) i as le = (match (progOf ds G).fns[i]? with
    | some fn => if as.length = fn.np then endFn (exSs (progOf ds G).glo (rn (progOf ds G) k) fn.body ⟨as.map some ++ List.replicate (fn.n - fn.np) none, le⟩) else .no
    | none => .no) := by
    unfold rn
    cases (progOf ds G).fns[i]? with
    | none => rfl
    | some fn =>
      dsimp only
      split
      · generalize exSs (progOf ds G).glo (rn (progOf ds G) k) fn.body _ = o
        cases o <;> rfl
      · rfl
  rw [e, h]
  rfl
end Di
namespace Di
open PySem
section
variable {α β : Type}
@[simp] theorem bind_ok_ (a : α) (e : Env) (f : α → Env → Out β) : (Out.ok a e).bind f = f a e := rfl
@[simp] theorem bind_exc_ (c : Nat) (d : Option D) (e : Env) (f : α → Env → Out β) : (Out.exc c d e : Out α).bind f = .exc c d e := rfl
@[simp] theorem go_ok_ (a : α) (e : Env) (f : α → Env → Fl) : (Out.ok a e).go f = f a e := rfl
@[simp] theorem go_exc_ (c : Nat) (d : Option D) (e : Env) (f : α → Env → Fl) : (Out.exc c d e : Out α).go f = .exc c d e := rfl
@[simp] theorem seq_nx_ (e : Env) (f : Env → Fl) : (Fl.nx e).seq f = f e := rfl
@[simp] theorem seq_rt_ (r : R) (e : Env) (f : Env → Fl) : (Fl.rt r e).seq f = .rt r e := rfl
@[simp] theorem seq_bk_ (e : Env) (f : Env → Fl) : (Fl.bk e).seq f = .bk e := rfl
@[simp] theorem seq_ct_ (e : Env) (f : Env → Fl) : (Fl.ct e).seq f = .ct e := rfl
@[simp] theorem seq_exc_ (c : Nat) (d : Option D) (e : Env) (f : Env → Fl) : (Fl.exc c d e).seq f = .exc c d e := rfl
@[simp] theorem loop_nx_ (e : Env) (f : Env → Fl) : (Fl.nx e).loop f = f e := rfl
@[simp] theorem loop_ct_ (e : Env) (f : Env → Fl) : (Fl.ct e).loop f = f e := rfl
@[simp] theorem loop_bk_ (e : Env) (f : Env → Fl) : (Fl.bk e).loop f = .nx e := rfl
@[simp] theorem loop_rt_ (r : R) (e : Env) (f : Env → Fl) : (Fl.rt r e).loop f = .rt r e := rfl
@[simp] theorem loop_exc_ (c : Nat) (d : Option D) (e : Env) (f : Env → Fl) : (Fl.exc c d e).loop f = .exc c d e := rfl
@[simp] theorem stands_none (ds : List D) (env : Env) : stands ⟨ds, none⟩ env = true := rfl
theorem stands_lent (ds xs : List D) (j : Nat) (env : Env) : stands ⟨ds, some (j, xs)⟩ env = true ↔ isLst xs env.le[j]? := stands_l
@[simp] theorem loopF_nil (g : Tg) (chk : Env → Bool) (body : Env → Fl) (env : Env) : loopF g chk body [] env = .nx env := rfl
@[simp] theorem loopC_nil (g : Tg) (own : List Nat) (chk : Env → Bool) (turn : Env → Out (List D)) (env : Env) : loopC g own chk turn [] env = .ok [] env := rfl
end
/-- a loop's body, a comprehension's turn, a loop's test: not unfolded by themselves -/
noncomputable def bodyOf (G : Nat → Option D) (F : Calls) (b : Ss) (env : Env) : Fl := exSs G F b env
noncomputable def testOf (G : Nat → Option D) (F : Calls) (t : T) (env : Env) : Out Bool := evT G F t env
/-! what follows a part, by name: simp does not look into it before its time -/
def kOne (y : D) (env : Env) : Out (List D) := .ok [y] env
noncomputable def kTurn (G : Nat → Option D) (F : Calls) (e : E) (b : Bool) (env : Env) : Out (List D) := if b = true then ((evE G F e env).bind freeze).bind kOne else .ok [] env
noncomputable def turnOf (G : Nat → Option D) (F : Calls) (c : Ts) (e : E) (env : Env) : Out (List D) := (evTs G F c env).bind (kTurn G F e)
noncomputable def kTurn2 (G : Nat → Option D) (F : Calls) (g2 : Tg) (own2 : List Nat) (c : Ts) (e : E) (src2 : Src) (env : Env) : Out (List D) := loopC g2 own2 (stands src2) (turnOf G F c e) src2.ds (wipeE env own2)
noncomputable def kTurn3 (G : Nat → Option D) (F : Calls) (g2 : Tg) (own2 : List Nat) (it2 : It) (c : Ts) (e : E) (b : Bool) (env : Env) : Out (List D) := if b = true then (evI G F it2 env).bind (kTurn2 G F g2 own2 c e) else .ok [] env
noncomputable def turnOf2 (G : Nat → Option D) (F : Calls) (c1 : Ts) (g2 : Tg) (own2 : List Nat) (it2 : It) (c : Ts) (e : E) (env : Env) : Out (List D) := (evTs G F c1 env).bind (kTurn3 G F g2 own2 it2 c e)
section
variable (G : Nat → Option D) (F : Calls) (env : Env)
noncomputable def kBin (op : Operator) (b : E) (x : R) (env : Env) : Out R := (evE G F b env).bind (op2 (dBin op) x)
noncomputable def kCmp (op : CmpOp) (b : E) (x : R) (env : Env) : Out R := (evE G F b env).bind (op2 (dCmp op) x)
noncomputable def kChn (op op2 : CmpOp) (b d : E) (x : R) (env : Env) : Out R := (evE G F b env).bind (chnR op op2 (evE G F d) x)
noncomputable def kIfe (a b : E) (c : Bool) (env : Env) : Out R := if c = true then evE G F a env else evE G F b env
noncomputable def kSub (b : E) (x : R) (env : Env) : Out R := (evE G F b env).bind (op2 dSub x)
noncomputable def kSlc3 (x : R) (l h : Option Int) (env : Env) : Out R := op1 (dSlc l h) x env
noncomputable def kSlc2 (hi : Oe) (x : R) (l : Option Int) (env : Env) : Out R := (evO G F hi env).bind (kSlc3 x l)
noncomputable def kSlc (lo hi : Oe) (x : R) (env : Env) : Out R := (evO G F lo env).bind (kSlc2 G F hi x)
noncomputable def kCalk2 (f : Nat) (p : List Nat) (rs zs : List R) (env : Env) : Out R := doCall F f (pick p (rs ++ zs)) env
noncomputable def kCalk (f : Nat) (ks : Es) (p : List Nat) (rs : List R) (env : Env) : Out R := (evA G F ks env).bind (kCalk2 F f p rs)
noncomputable def kLc (g : Tg) (own : List Nat) (c : Ts) (e : E) (src : Src) (env : Env) : Out R := madeC own env (loopC g own (stands src) (turnOf G F c e) src.ds (wipeE env own))
noncomputable def kLc2 (g : Tg) (own : List Nat) (c1 : Ts) (g2 : Tg) (own2 : List Nat) (it2 : It) (c : Ts) (e : E) (src : Src) (env : Env) : Out R := madeC own env (loopC g own (stands src) (turnOf2 G F c1 g2 own2 it2 c e) src.ds (wipeE env own))
def kA2 (r : R) (rs : List R) (env : Env) : Out (List R) := .ok (r :: rs) env
noncomputable def kA (es : Es) (r : R) (env : Env) : Out (List R) := (evA G F es env).bind (kA2 r)
def kZ2 (d : D) (ds : List D) (env : Env) : Out (List D) := .ok (d :: ds) env
noncomputable def kZ (es : Es) (d : D) (env : Env) : Out (List D) := (evZ G F es env).bind (kZ2 d)
noncomputable def kP (es : Es) (d : R) (env : Env) : Out (List R) := (evP G F es env).bind (kA2 d)
def kNotT (b : Bool) (env : Env) : Out Bool := .ok (!b) env
noncomputable def kAndT (u : T) (b : Bool) (env : Env) : Out Bool := if b = true then evT G F u env else .ok false env
noncomputable def kOrT (u : T) (b : Bool) (env : Env) : Out Bool := if b = true then .ok true env else evT G F u env
noncomputable def kEnum (r : R) (env : Env) : Out Src := (srcLst r env).bind enumI
noncomputable def kRng2 (b : E) (r : R) (env : Env) : Out Src := (evE G F b env).bind (rng2D r)
def kVal (d : D) (env : Env) : Out R := .ok (.v d) env
def kSet (i : Nat) (r : R) (env : Env) : Fl := .nx (setS env i (toSl r))
def kSetT (is : List Nat) (ds : List D) (env : Env) : Fl := if ds.length = is.length then .nx (setAll is ds env) else .no
def kSetP (is : List Nat) (rs : List R) (env : Env) : Fl := if rs.length = is.length then .nx (setAllS is rs env) else .no
def kPut2 (i : Nat) (d : D) (k : Int) (env : Env) : Fl := chg (putM k d) i env
noncomputable def kPut (i : Nat) (k : E) (d : D) (env : Env) : Fl := if isLs env i = true then ((evE G F k env).bind intOf).go (kPut2 i d) else .no
def kExp (_ : R) (env : Env) : Fl := .nx env
def kApp (i : Nat) (d : D) (env : Env) : Fl := chg (appD d) i env
def kExt (i : Nat) (r : R) (env : Env) : Fl := (match de env r with
  | some x => chg (extD x) i env
  | none => .no)
def kRet (r : R) (env : Env) : Fl := .rt r env
noncomputable def kIte (a b : Ss) (c : Bool) (env : Env) : Fl := if c = true then exSs G F a env else exSs G F b env
noncomputable def kFor (g : Tg) (b : Ss) (src : Src) (env : Env) : Fl := loopF g (stands src) (bodyOf G F b) src.ds env
@[simp] theorem kOne_ (y : D) : kOne y env = .ok [y] env := rfl
@[simp] theorem kTurn_ (e : E) (b : Bool) : kTurn G F e b env = if b = true then ((evE G F e env).bind freeze).bind kOne else .ok [] env := rfl
theorem turnOf_ (c : Ts) (e : E) : turnOf G F c e env = (evTs G F c env).bind (kTurn G F e) := rfl
@[simp] theorem kTurn2_ (g2 : Tg) (own2 : List Nat) (c : Ts) (e : E) (src2 : Src) : kTurn2 G F g2 own2 c e src2 env = loopC g2 own2 (stands src2) (turnOf G F c e) src2.ds (wipeE env own2) := rfl
@[simp] theorem kTurn3_ (g2 : Tg) (own2 : List Nat) (it2 : It) (c : Ts) (e : E) (b : Bool) : kTurn3 G F g2 own2 it2 c e b env = if b = true then (evI G F it2 env).bind (kTurn2 G F g2 own2 c e) else .ok [] env := rfl
theorem turnOf2_ (c1 : Ts) (g2 : Tg) (own2 : List Nat) (it2 : It) (c : Ts) (e : E) : turnOf2 G F c1 g2 own2 it2 c e env = (evTs G F c1 env).bind (kTurn3 G F g2 own2 it2 c e) := rfl
@[simp] theorem kBin_ (op : Operator) (b : E) (x : R) : kBin G F op b x env = (evE G F b env).bind (op2 (dBin op) x) := rfl
@[simp] theorem kCmp_ (op : CmpOp) (b : E) (x : R) : kCmp G F op b x env = (evE G F b env).bind (op2 (dCmp op) x) := rfl
@[simp] theorem kChn_ (op op2 : CmpOp) (b d : E) (x : R) : kChn G F op op2 b d x env = (evE G F b env).bind (chnR op op2 (evE G F d) x) := rfl
@[simp] theorem kIfe_ (a b : E) (c : Bool) : kIfe G F a b c env = if c = true then evE G F a env else evE G F b env := rfl
@[simp] theorem kSub_ (b : E) (x : R) : kSub G F b x env = (evE G F b env).bind (op2 dSub x) := rfl
@[simp] theorem kSlc3_ (x : R) (l h : Option Int) : kSlc3 x l h env = op1 (dSlc l h) x env := rfl
@[simp] theorem kSlc2_ (hi : Oe) (x : R) (l : Option Int) : kSlc2 G F hi x l env = (evO G F hi env).bind (kSlc3 x l) := rfl
@[simp] theorem kSlc_ (lo hi : Oe) (x : R) : kSlc G F lo hi x env = (evO G F lo env).bind (kSlc2 G F hi x) := rfl
@[simp] theorem kCalk2_ (f : Nat) (p : List Nat) (rs zs : List R) : kCalk2 F f p rs zs env = doCall F f (pick p (rs ++ zs)) env := rfl
@[simp] theorem kCalk_ (f : Nat) (ks : Es) (p : List Nat) (rs : List R) : kCalk G F f ks p rs env = (evA G F ks env).bind (kCalk2 F f p rs) := rfl
@[simp] theorem kLc_ (g : Tg) (own : List Nat) (c : Ts) (e : E) (src : Src) : kLc G F g own c e src env = madeC own env (loopC g own (stands src) (turnOf G F c e) src.ds (wipeE env own)) := rfl
@[simp] theorem kLc2_ (g : Tg) (own : List Nat) (c1 : Ts) (g2 : Tg) (own2 : List Nat) (it2 : It) (c : Ts) (e : E) (src : Src) : kLc2 G F g own c1 g2 own2 it2 c e src env = madeC own env (loopC g own (stands src) (turnOf2 G F c1 g2 own2 it2 c e) src.ds (wipeE env own)) := rfl
@[simp] theorem kA2_ (r : R) (rs : List R) : kA2 r rs env = .ok (r :: rs) env := rfl
@[simp] theorem kA_ (es : Es) (r : R) : kA G F es r env = (evA G F es env).bind (kA2 r) := rfl
@[simp] theorem kZ2_ (d : D) (ds : List D) : kZ2 d ds env = .ok (d :: ds) env := rfl
@[simp] theorem kZ_ (es : Es) (d : D) : kZ G F es d env = (evZ G F es env).bind (kZ2 d) := rfl
@[simp] theorem kP_ (es : Es) (d : R) : kP G F es d env = (evP G F es env).bind (kA2 d) := rfl
@[simp] theorem kNotT_ (b : Bool) : kNotT b env = .ok (!b) env := rfl
@[simp] theorem kAndT_ (u : T) (b : Bool) : kAndT G F u b env = if b = true then evT G F u env else .ok false env := rfl
@[simp] theorem kOrT_ (u : T) (b : Bool) : kOrT G F u b env = if b = true then .ok true env else evT G F u env := rfl
@[simp] theorem kEnum_ (r : R) : kEnum r env = (srcLst r env).bind enumI := rfl
@[simp] theorem kRng2_ (b : E) (r : R) : kRng2 G F b r env = (evE G F b env).bind (rng2D r) := rfl
@[simp] theorem kVal_ (d : D) : kVal d env = .ok (.v d) env := rfl
@[simp] theorem kSet_ (i : Nat) (r : R) : kSet i r env = .nx (setS env i (toSl r)) := rfl
@[simp] theorem kSetT_ (is : List Nat) (ds : List D) : kSetT is ds env = if ds.length = is.length then .nx (setAll is ds env) else .no := rfl
@[simp] theorem kSetP_ (is : List Nat) (rs : List R) : kSetP is rs env = if rs.length = is.length then .nx (setAllS is rs env) else .no := rfl
@[simp] theorem kPut2_ (i : Nat) (d : D) (k : Int) : kPut2 i d k env = chg (putM k d) i env := rfl
@[simp] theorem kPut_ (i : Nat) (k : E) (d : D) : kPut G F i k d env = if isLs env i = true then ((evE G F k env).bind intOf).go (kPut2 i d) else .no := rfl
@[simp] theorem kExp_ (r : R) : kExp r env = .nx env := rfl
@[simp] theorem kApp_ (i : Nat) (d : D) : kApp i d env = chg (appD d) i env := rfl
@[simp] theorem kExt_ (i : Nat) (r : R) : kExt i r env = (match de env r with
  | some x => chg (extD x) i env
  | none => .no) := rfl
@[simp] theorem kRet_ (r : R) : kRet r env = .rt r env := rfl
@[simp] theorem kIte_ (a b : Ss) (c : Bool) : kIte G F a b c env = if c = true then exSs G F a env else exSs G F b env := rfl
@[simp] theorem kFor_ (g : Tg) (b : Ss) (src : Src) : kFor G F g b src env = loopF g (stands src) (bodyOf G F b) src.ds env := rfl
@[simp] theorem ev_lit (k : PySem.Const) : evE G F (.lit k) env = (litR k env) := rfl
@[simp] theorem ev_var (i : Nat) : evE G F (.var i) env = (varR i env) := rfl
@[simp] theorem ev_glo (i : Nat) : evE G F (.glo i) env = (gloR (G i) env) := rfl
@[simp] theorem ev_bin (op : Operator) (a b : E) : evE G F (.bin op a b) env = (evE G F a env).bind (kBin G F op b) := rfl
@[simp] theorem ev_cmp (op : CmpOp) (a b : E) : evE G F (.cmp op a b) env = (evE G F a env).bind (kCmp G F op b) := rfl
@[simp] theorem ev_chn (op op2 : CmpOp) (a b d : E) : evE G F (.chn op op2 a b d) env = (evE G F a env).bind (kChn G F op op2 b d) := rfl
@[simp] theorem ev_isN (n : Bool) (a : E) : evE G F (.isN n a) env = (evE G F a env).bind (op1 (isnG n)) := rfl
@[simp] theorem ev_isB (v n : Bool) (a : E) : evE G F (.isB v n a) env = (evE G F a env).bind (op1 (dIsB v n)) := rfl
@[simp] theorem ev_neg (a : E) : evE G F (.neg a) env = (evE G F a env).bind (op1 dNeg) := rfl
@[simp] theorem ev_notE (a : E) : evE G F (.notE a) env = (evE G F a env).bind (op1 dNot) := rfl
@[simp] theorem ev_andE (a b : E) : evE G F (.andE a b) env = (evE G F a env).bind (andR (evE G F b)) := rfl
@[simp] theorem ev_orE (a b : E) : evE G F (.orE a b) env = (evE G F a env).bind (orR (evE G F b)) := rfl
@[simp] theorem ev_ife (t : T) (a b : E) : evE G F (.ife t a b) env = (evT G F t env).bind (kIfe G F a b) := rfl
@[simp] theorem ev_tup (es : Es) : evE G F (.tup es) env = ((evZ G F es env).bind tupR) := rfl
@[simp] theorem ev_lst (es : Es) : evE G F (.lst es) env = ((evZ G F es env).bind lstR) := rfl
@[simp] theorem ev_sub (a b : E) : evE G F (.sub a b) env = (evE G F a env).bind (kSub G F b) := rfl
@[simp] theorem ev_slc (a : E) (lo hi : Oe) : evE G F (.slc a lo hi) env = (evE G F a env).bind (kSlc G F lo hi) := rfl
@[simp] theorem ev_rvs (a : E) : evE G F (.rvs a) env = (evE G F a env).bind (op1 dRvs) := rfl
@[simp] theorem ev_call (f : Nat) (es : Es) : evE G F (.call f es) env = (evA G F es env).bind (doCall F f) := rfl
@[simp] theorem ev_calk (f : Nat) (es ks : Es) (p : List Nat) : evE G F (.calk f es ks p) env = (evA G F es env).bind (kCalk G F f ks p) := rfl
@[simp] theorem ev_blt (b : Bi) (es : Es) : evE G F (.blt b es) env = (evA G F es env).bind (bltR b) := rfl
@[simp] theorem ev_isi (a : E) (ts : List Ty) : evE G F (.isi a ts) env = (evE G F a env).bind (op1 (isiG ts)) := rfl
@[simp] theorem ev_bits (a : E) : evE G F (.bits a) env = (evE G F a env).bind (op1 bitG) := rfl
@[simp] theorem ev_lc (g : Tg) (own : List Nat) (it : It) (c : Ts) (e : E) : evE G F (.lc g own it c e) env = (evI G F it env).bind (kLc G F g own c e) := rfl
@[simp] theorem ev_lc2 (g : Tg) (own : List Nat) (it : It) (c1 : Ts) (g2 : Tg) (own2 : List Nat) (it2 : It) (c : Ts) (e : E) : evE G F (.lc2 g own it c1 g2 own2 it2 c e) env = (evI G F it env).bind (kLc2 G F g own c1 g2 own2 it2 c e) := rfl
@[simp] theorem evA_nil_ : evA G F .nil env = .ok [] env := rfl
@[simp] theorem evA_cons_ (e : E) (es : Es) : evA G F (.cons e es) env = (evE G F e env).bind (kA G F es) := rfl
@[simp] theorem evZ_nil_ : evZ G F .nil env = .ok [] env := rfl
@[simp] theorem evZ_cons_ (e : E) (es : Es) : evZ G F (.cons e es) env = ((evE G F e env).bind freeze).bind (kZ G F es) := rfl
@[simp] theorem evP_nil_ : evP G F .nil env = .ok [] env := rfl
@[simp] theorem evP_cons_ (e : E) (es : Es) : evP G F (.cons e es) env = ((evE G F e env).bind settle).bind (kP G F es) := rfl
@[simp] theorem evO_none_ : evO G F .none env = .ok none env := rfl
@[simp] theorem evO_some_ (e : E) : evO G F (.some e) env = (evE G F e env).bind partR := rfl
@[simp] theorem evT_val_ (e : E) : evT G F (.val e) env = (evE G F e env).bind valT := rfl
@[simp] theorem evT_tru_ (e : E) : evT G F (.tru e) env = (evE G F e env).bind truT := rfl
@[simp] theorem evT_not_ (t : T) : evT G F (.not t) env = (evT G F t env).bind kNotT := rfl
@[simp] theorem evT_and_ (t u : T) : evT G F (.and t u) env = (evT G F t env).bind (kAndT G F u) := rfl
@[simp] theorem evT_or_ (t u : T) : evT G F (.or t u) env = (evT G F t env).bind (kOrT G F u) := rfl
@[simp] theorem evTs_nil_ : evTs G F .nil env = .ok true env := rfl
@[simp] theorem evTs_one_ (t : T) : evTs G F (.one t) env = evT G F t env := rfl
@[simp] theorem evI_seq_ (e : E) : evI G F (.seq e) env = (evE G F e env).bind srcOf := rfl
@[simp] theorem evI_enum_ (e : E) : evI G F (.enum e) env = (evE G F e env).bind kEnum := rfl
@[simp] theorem evI_rng1_ (a : E) : evI G F (.rng1 a) env = (evE G F a env).bind rng1D := rfl
@[simp] theorem evI_rng2_ (a b : E) : evI G F (.rng2 a b) env = (evE G F a env).bind (kRng2 G F b) := rfl
@[simp] theorem ex_set (i : Nat) (e : E) : exS G F (.set i e) env = ((evE G F e env).bind settle).go (kSet i) := rfl
@[simp] theorem ex_setT (is : List Nat) (e : E) : exS G F (.setT is e) env = ((evE G F e env).bind tupOf).go (kSetT is) := rfl
@[simp] theorem ex_setP (is : List Nat) (es : Es) : exS G F (.setP is es) env = (evP G F es env).go (kSetP is) := rfl
@[simp] theorem ex_put (i : Nat) (k e : E) : exS G F (.put i k e) env = ((evE G F e env).bind freeze).go (kPut G F i k) := rfl
@[simp] theorem ex_exp (e : E) : exS G F (.exp e) env = (evE G F e env).go kExp := rfl
@[simp] theorem ex_app (i : Nat) (e : E) : exS G F (.app i e) env = (if isLs env i = true then ((evE G F e env).bind freeze).go (kApp i) else .no) := rfl
@[simp] theorem ex_ext (i : Nat) (e : E) : exS G F (.ext i e) env = (if isLs env i = true then (evE G F e env).go (kExt i) else .no) := rfl
@[simp] theorem ex_ret (e : E) : exS G F (.ret e) env = (evE G F e env).go kRet := rfl
@[simp] theorem ex_retN : exS G F .retN env = .rt (.v .none) env := rfl
@[simp] theorem ex_ite (t : T) (a b : Ss) : exS G F (.ite t a b) env = (evT G F t env).go (kIte G F a b) := rfl
@[simp] theorem ex_for (g : Tg) (it : It) (b : Ss) : exS G F (.for g it b) env = (evI G F it env).go (kFor G F g b) := rfl
@[simp] theorem ex_whl (n : Nat) (t : T) (b : Ss) : exS G F (.whl n t b) env = loopW (testOf G F t) (bodyOf G F b) n env := rfl
@[simp] theorem ex_brk : exS G F .brk env = .bk env := rfl
@[simp] theorem ex_cnt : exS G F .cnt env = .ct env := rfl
@[simp] theorem ex_pas : exS G F .pas env = .nx env := rfl
@[simp] theorem ex_nev : exS G F .nev env = .no := rfl
@[simp] theorem ex_rai (c : Nat) (es : Es) : exS G F (.rai c es) env = (evZ G F es env).go (raiD c) := rfl
@[simp] theorem exs_nil : exSs G F .nil env = .nx env := rfl
@[simp] theorem exs_cons (s : S) (ss : Ss) : exSs G F (.cons s ss) env = (exS G F s env).seq (exSs G F ss) := rfl
end
theorem ex_aug (G : Nat → Option D) (F : Calls) (env : Env) (op : Operator) (i : Nat) (e : E) {d : D} (h : slot env i = some (.v d)) : exS G F (.aug op i e) env = ((evE G F e env).bind (op2 (dAug op) (.v d))).go (augR i) := by
  show (match slot env i with
    | some (.v d) => ((evE G F e env).bind fun y env => op2 (dAug op) (.v d) y env).go fun r env => augR i r env
    | _ => .no) = _
  rw [h]
section
variable {α β : Type}
theorem loopF_congr_ {g : Tg} {chk : Env → Bool} {body : Env → Fl} {ds ds' : List D} {env env' : Env} (h : ds = ds') (h2 : env = env') : loopF g chk body ds env = loopF g chk body ds' env' := by rw [h, h2]
end
/-! ### environments as lists -/
@[simp] theorem slot_mk (sl : List (Option Sl)) (le : List M) (i : Nat) : slot ⟨sl, le⟩ i = (sl[i]?).join := by
  unfold slot
  cases sl[i]? with
  | none => rfl
  | some s => cases s <;> rfl
@[simp] theorem setS_mk (sl : List (Option Sl)) (le : List M) (i : Nat) (s : Sl) : setS ⟨sl, le⟩ i s = ⟨sl.set i (some s), le⟩ := rfl
@[simp] theorem wipeE_nil (env : Env) : wipeE env [] = env := rfl
@[simp] theorem wipeE_mk (sl : List (Option Sl)) (le : List M) (i : Nat) (is : List Nat) : wipeE ⟨sl, le⟩ (i :: is) = ⟨(wipeE ⟨sl, le⟩ is).sl.set i none, le⟩ := rfl
@[simp] theorem madeC_ok_ (own : List Nat) (env env' : Env) (ys : List D) : madeC own env (.ok ys env') = if ys.length ≤ LINE then .ok (.m (.lst ys)) (unwipe env env' own) else .no := rfl
@[simp] theorem varR_mk (sl : List (Option Sl)) (le : List M) (i : Nat) : varR i ⟨sl, le⟩ = (match (sl[i]?).join with
    | some (.v d) => .ok (.v d) ⟨sl, le⟩
    | some (.m _) => .ok (.a i) ⟨sl, le⟩
    | some (.l _) => .ok (.a i) ⟨sl, le⟩
    | _ => .no) := by
  unfold varR
  rw [slot_mk] <;> (generalize (sl[i]?).join = o; cases o with
    | none => rfl
    | some s => cases s <;> rfl)
section
variable (env : Env)
@[simp] theorem litR_int (i : Int) : litR (.int i) env = .ok (.v (.int i)) env := rfl
@[simp] theorem litR_bool (i : Bool) : litR (.bool i) env = .ok (.v (.bool i)) env := rfl
@[simp] theorem litR_str (i : Str) : litR (.str i) env = .ok (.v (.str i)) env := rfl
@[simp] theorem litR_none : litR .none env = .ok (.v .none) env := rfl
@[simp] theorem de_v (d : D) : de env (.v d) = some (.v d) := rfl
@[simp] theorem de_m (x : M) : de env (.m x) = some (.m x) := rfl
@[simp] theorem de_a (i : Nat) : de env (.a i) = (match slot env i with
    | some s => lookS env s
    | none => none) := rfl
@[simp] theorem lookS_v (d : D) : lookS env (.v d) = some (.v d) := rfl
@[simp] theorem lookS_m (x : M) : lookS env (.m x) = some (.m x) := rfl
@[simp] theorem lookS_l (j : Nat) : lookS env (.l j) = (match env.le[j]? with
    | some x => some (.m x)
    | none => none) := rfl
@[simp] theorem deAll_nil : deAll env [] = some [] := rfl
@[simp] theorem deAll_cons (r : R) (rs : List R) : deAll env (r :: rs) = (match de env r with
    | some x => (match deAll env rs with
      | some xs => some (x :: xs)
      | none => none)
    | none => none) := rfl
@[simp] theorem op1_ (f : RM → Option R) (x : R) : op1 f x env = (match de env x with
    | some x => (match f x with
      | some r => .ok r env
      | none => .no)
    | none => .no) := rfl
@[simp] theorem op2_ (f : RM → RM → Option R) (x y : R) : op2 f x y env = (match de env x, de env y with
    | some x, some y => (match f x y with
      | some r => .ok r env
      | none => .no)
    | _, _ => .no) := rfl
@[simp] theorem freeze_v (d : D) : freeze (.v d) env = .ok d env := rfl
@[simp] theorem freeze_m (xs : List D) : freeze (.m (.lst xs)) env = .ok (.list xs) env := rfl
@[simp] theorem freeze_a (i : Nat) : freeze (.a i) env = (match slot env i with
    | some (.v d) => .ok d env
    | some (.m (.lst xs)) => .ok (.list xs) (setS env i (.v (.list xs)))
    | _ => .no) := rfl
@[simp] theorem settle_v (d : D) : settle (.v d) env = .ok (.v d) env := rfl
@[simp] theorem settle_m (x : M) : settle (.m x) env = .ok (.m x) env := rfl
@[simp] theorem settle_a (i : Nat) : settle (.a i) env = (freeze (.a i) env).bind kVal := rfl
@[simp] theorem toSl_v (d : D) : toSl (.v d) = .v d := rfl
@[simp] theorem toSl_m (d : M) : toSl (.m d) = .m d := rfl
@[simp] theorem setAllS_nil (rs : List R) : setAllS [] rs env = env := by cases rs <;> rfl
@[simp] theorem setAllS_cons (i : Nat) (is : List Nat) (r : R) (rs : List R) : setAllS (i :: is) (r :: rs) env = setAllS is rs (setS env i (toSl r)) := rfl
@[simp] theorem setAll_nil (rs : List D) : setAll [] rs env = env := by cases rs <;> rfl
@[simp] theorem setAll_cons (i : Nat) (is : List Nat) (r : D) (rs : List D) : setAll (i :: is) (r :: rs) env = setAll is rs (setS env i (.v r)) := rfl
@[simp] theorem fin_v (d : D) : fin (.v d) env = some (.v d) := rfl
@[simp] theorem fin_m (d : M) : fin (.m d) env = some (.m d) := rfl
@[simp] theorem fin_a (i : Nat) : fin (.a i) env = (match slot env i with
    | some (.v d) => some (.v d)
    | some (.m x) => some (.m x)
    | _ => none) := rfl
@[simp] theorem endFn_rt (r : R) : endFn (.rt r env) = (match fin r env with
    | some x => .ok x env.le
    | none => .no) := rfl
@[simp] theorem endFn_nx : endFn (.nx env) = .ok (.v .none) env.le := rfl
@[simp] theorem endFn_exc (c : Nat) (d : Option D) : endFn (.exc c d env) = .exc c d env.le := rfl
@[simp] theorem doCall_ (F : Calls) (f : Nat) (rs : List R) : doCall F f rs env = (match prep env rs 0 with
  | some (a, b, c) => if c.Nodup then (match F f a b with
    | .ok (.v d) le => .ok (.v d) (back env c le)
    | .ok (.m x) le => .ok (.m x) (back env c le)
    | .exc k d le => .exc k d (back env c le)
    | .no => .no) else .no
  | none => .no) := rfl
@[simp] theorem prep_nil (k : Nat) : prep env [] k = some ([], [], []) := rfl
@[simp] theorem prep_v (d : D) (rs : List R) (k : Nat) : prep env (.v d :: rs) k = (match prep env rs k with
    | some (a, b, c) => some (.v d :: a, b, c)
    | none => none) := rfl
@[simp] theorem prep_m (d : M) (rs : List R) (k : Nat) : prep env (.m d :: rs) k = (match prep env rs k with
    | some (a, b, c) => some (.m d :: a, b, c)
    | none => none) := rfl
@[simp] theorem prep_a (i : Nat) (rs : List R) (k : Nat) : prep env (.a i :: rs) k = (match slot env i with
    | some (.v d) => (match prep env rs k with
      | some (a, b, c) => some (.v d :: a, b, c)
      | none => none)
    | some (.m x) => (match prep env rs (k + 1) with
      | some (a, b, c) => some (.l k :: a, x :: b, .s i :: c)
      | none => none)
    | some (.l j) => (match env.le[j]?, prep env rs (k + 1) with
      | some x, some (a, b, c) => some (.l k :: a, x :: b, .l j :: c)
      | _, _ => none)
    | _ => none) := rfl
@[simp] theorem back_nil (xs : List M) : back env [] xs = env := by cases xs <;> rfl
@[simp] theorem back_s (i : Nat) (os : List Org) (x : M) (xs : List M) : back env (.s i :: os) (x :: xs) = back (setS env i (.m x)) os xs := rfl
@[simp] theorem back_l (i : Nat) (os : List Org) (x : M) (xs : List M) : back env (.l i :: os) (x :: xs) = back ⟨env.sl, env.le.set i x⟩ os xs := rfl
@[simp] theorem bindT_n (i : Nat) (d : D) : bindT (.n i) d env = some (setS env i (.v d)) := rfl
@[simp] theorem bindT_t (is : List Nat) (ds : List D) : bindT (.t is) (.tuple ds) env = if ds.length = is.length then some (setAll is ds env) else none := rfl
@[simp] theorem tupR_ (ds : List D) : tupR ds env = if ds.length ≤ LINE then .ok (.v (.tuple ds)) env else .no := rfl
@[simp] theorem lstR_ (ds : List D) : lstR ds env = if ds.length ≤ LINE then .ok (.m (.lst ds)) env else .no := rfl
@[simp] theorem bltR_ (b : Bi) (rs : List R) : bltR b rs env = (match deAll env rs with
    | some xs => (match dBlt b xs with
      | some r => .ok r env
      | none => .no)
    | none => .no) := rfl
@[simp] theorem partR_ (i : Int) : partR (.v (.int i)) env = .ok (some i) env := rfl
@[simp] theorem valT_ (b : Bool) : valT (.v (.bool b)) env = .ok b env := rfl
@[simp] theorem truT_ (r : R) : truT r env = (match de env r with
    | some x => (match truD x with
      | some b => .ok b env
      | none => .no)
    | none => .no) := rfl
@[simp] theorem tupOf_ (r : R) : tupOf r env = (match de env r with
  | some (.v (.tuple ds)) => .ok ds env
  | _ => .no) := rfl
@[simp] theorem intOf_ (i : Int) : intOf (.v (.int i)) env = .ok i env := rfl
@[simp] theorem chg_ (f : M → Option M) (i : Nat) : chg f i env = (match slot env i with
  | some (.m x) => (match f x with
    | some y => .nx (setS env i (.m y))
    | none => .no)
  | some (.l j) => (match env.le[j]? with
    | some x => (match f x with
      | some y => .nx ⟨env.sl, env.le.set j y⟩
      | none => .no)
    | none => .no)
  | _ => .no) := rfl
@[simp] theorem isLs_ (i : Nat) : isLs env i = (match de env (.a i) with
  | some (.m (.lst _)) => true
  | _ => false) := rfl
@[simp] theorem augR_ (i : Nat) (z : D) : augR i (.v z) env = .nx (setS env i (.v z)) := rfl
@[simp] theorem andR_t (f : Env → Out R) : andR f (.v (.bool true)) env = f env := rfl
@[simp] theorem andR_f (f : Env → Out R) : andR f (.v (.bool false)) env = .ok (.v (.bool false)) env := rfl
@[simp] theorem orR_t (f : Env → Out R) : orR f (.v (.bool true)) env = .ok (.v (.bool true)) env := rfl
@[simp] theorem orR_f (f : Env → Out R) : orR f (.v (.bool false)) env = f env := rfl
@[simp] theorem andR_b (f : Env → Out R) (b : Bool) : andR f (.v (.bool b)) env = if b = true then f env else .ok (.v (.bool false)) env := by cases b <;> rfl
@[simp] theorem orR_b (f : Env → Out R) (b : Bool) : orR f (.v (.bool b)) env = if b = true then .ok (.v (.bool true)) env else f env := by cases b <;> rfl
@[simp] theorem raiD_nil (c : Nat) : raiD c [] env = .exc c none env := rfl
@[simp] theorem srcOf_tup (ds : List D) : srcOf (.v (.tuple ds)) env = .ok ⟨ds, none⟩ env := rfl
@[simp] theorem srcOf_lst (ds : List D) : srcOf (.v (.list ds)) env = .ok ⟨ds, none⟩ env := rfl
@[simp] theorem srcOf_m (ds : List D) : srcOf (.m (.lst ds)) env = .ok ⟨ds, none⟩ env := rfl
@[simp] theorem srcOf_a (i : Nat) : srcOf (.a i) env = (match slot env i with
    | some (.m (.lst ds)) => .ok ⟨ds, none⟩ (setS env i (.v (.list ds)))
    | some (.l j) => (match env.le[j]? with
      | some (.lst ds) => .ok ⟨ds, some (j, ds)⟩ env
      | _ => .no)
    | _ => .no) := rfl
end
section
variable (i j : Int)
@[simp] theorem dBin_add : dBin .Add = dAdd := rfl
@[simp] theorem dAdd_ii : dAdd (.v (.int i)) (.v (.int j)) = some (.v (.int (i + j))) := rfl
@[simp] theorem dAdd_tt (xs ys : List D) : dAdd (.v (.tuple xs)) (.v (.tuple ys)) = if xs.length + ys.length ≤ LINE then some (.v (.tuple (xs ++ ys))) else none := rfl
@[simp] theorem dAdd_mm (xs ys : List D) : dAdd (.m (.lst xs)) (.m (.lst ys)) = if xs.length + ys.length ≤ LINE then some (.m (.lst (xs ++ ys))) else none := rfl
@[simp] theorem dSub_ii : dBin .Sub (.v (.int i)) (.v (.int j)) = some (.v (.int (i - j))) := rfl
@[simp] theorem dMul_ : dBin .Mult = dMul := rfl
@[simp] theorem dFd_ii : dBin .FloorDiv (.v (.int i)) (.v (.int j)) = if 0 < j ∧ j.natAbs < 2 ^ 8000 then some (.v (.int (i / j))) else none := by
  show (match (if 0 < j ∧ j.natAbs < 2 ^ 8000 then some (i / j) else none) with
    | some k => some (R.v (.int k))
    | none => none) = _
  by_cases h : 0 < j ∧ j.natAbs < 2 ^ 8000
  · rw [if_pos h, if_pos h]
  · rw [if_neg h, if_neg h]
@[simp] theorem dMod_ii : dBin .Mod (.v (.int i)) (.v (.int j)) = if 0 < j then some (.v (.int (i % j))) else none := by
  show (match (if 0 < j then some (i % j) else none) with
    | some k => some (R.v (.int k))
    | none => none) = _
  by_cases h : 0 < j
  · rw [if_pos h, if_pos h]
  · rw [if_neg h, if_neg h]
@[simp] theorem dPow_ii : dBin .Pow (.v (.int i)) (.v (.int j)) = if 0 ≤ j ∧ j ≤ 64 ∧ i.natAbs < 2 ^ 200 then some (.v (.int (i ^ j.toNat))) else none := by
  show (match (if 0 ≤ j ∧ j ≤ 64 ∧ i.natAbs < 2 ^ 200 then some (i ^ j.toNat) else none) with
    | some k => some (R.v (.int k))
    | none => none) = _
  by_cases h : 0 ≤ j ∧ j ≤ 64 ∧ i.natAbs < 2 ^ 200
  · rw [if_pos h, if_pos h]
  · rw [if_neg h, if_neg h]
@[simp] theorem dShl_ii : dBin .LShift (.v (.int i)) (.v (.int j)) = if 0 ≤ j ∧ j ≤ 100000 ∧ i.natAbs < 2 ^ 20000 then some (.v (.int (i * 2 ^ j.toNat))) else none := by
  show (match (if 0 ≤ j ∧ j ≤ 100000 ∧ i.natAbs < 2 ^ 20000 then some (i * 2 ^ j.toNat) else none) with
    | some k => some (R.v (.int k))
    | none => none) = _
  by_cases h : 0 ≤ j ∧ j ≤ 100000 ∧ i.natAbs < 2 ^ 20000
  · rw [if_pos h, if_pos h]
  · rw [if_neg h, if_neg h]
@[simp] theorem dShr_ii : dBin .RShift (.v (.int i)) (.v (.int j)) = if 0 ≤ j then some (.v (.int (i / 2 ^ j.toNat))) else none := by
  show (match (if 0 ≤ j then some (i / 2 ^ j.toNat) else none) with
    | some k => some (R.v (.int k))
    | none => none) = _
  by_cases h : 0 ≤ j
  · rw [if_pos h, if_pos h]
  · rw [if_neg h, if_neg h]
@[simp] theorem dAnd_ii : dBin .BitAnd (.v (.int i)) (.v (.int j)) = some (.v (.int (Builtin.bitAnd i j))) := rfl
@[simp] theorem dAug_add : dAug .Add (.v (.int i)) (.v (.int j)) = some (.v (.int (i + j))) := rfl
@[simp] theorem dAug_sub : dAug .Sub (.v (.int i)) (.v (.int j)) = some (.v (.int (i - j))) := rfl
@[simp] theorem dNeg_i : dNeg (.v (.int i)) = some (.v (.int (-i))) := rfl
@[simp] theorem dNot_b (b : Bool) : dNot (.v (.bool b)) = some (.v (.bool (!b))) := rfl
@[simp] theorem dCmp_lt : dCmp .Lt (.v (.int i)) (.v (.int j)) = some (.v (.bool (decide (i < j)))) := rfl
@[simp] theorem dCmp_gt : dCmp .Gt (.v (.int i)) (.v (.int j)) = some (.v (.bool (decide (j < i)))) := rfl
@[simp] theorem dCmp_le : dCmp .LtE (.v (.int i)) (.v (.int j)) = some (.v (.bool (decide (i ≤ j)))) := by
  show some (R.v (.bool (!decide (j < i)))) = _
  rw [← decide_not, decide_eq_decide.mpr Int.not_lt]
@[simp] theorem dCmp_ge : dCmp .GtE (.v (.int i)) (.v (.int j)) = some (.v (.bool (decide (j ≤ i)))) := by
  show some (R.v (.bool (!decide (i < j)))) = _
  rw [← decide_not, decide_eq_decide.mpr Int.not_lt]
theorem eqv_int : PyData.eqv (.int i) (.int j) = decide (i = j) := by
  unfold PyData.eqv
  rfl
@[simp] theorem dEq_ii : dEq (.v (.int i)) (.v (.int j)) = some (decide (i = j)) := by
  show (if (nice 20 (.int i) && nice 20 (.int j)) = true then some (PyData.eqv (.int i) (.int j)) else none) = _
  rw [eqv_int]
  rfl
end
end Di
namespace Di
theorem loopF_cons_ (g : Tg) (chk : Env → Bool) (body : Env → Fl) (d : D) (ds : List D) (env : Env) : loopF g chk body (d :: ds) env = (match bindT g d env with
    | none => .no
    | some env => (body env).loop fun env => if chk env = true then loopF g chk body ds env else .no) := rfl
theorem loopC_cons_ (g : Tg) (own : List Nat) (chk : Env → Bool) (turn : Env → Out (List D)) (d : D) (ds : List D) (env : Env) : loopC g own chk turn (d :: ds) env = (match bindT g d env with
    | none => .no
    | some env => (turn env).bind fun ys env => if chk env = true then (loopC g own chk turn ds (wipeE env own)).bind fun yss env => .ok (ys ++ yss) env else .no) := rfl
/-- a loop that goes on to the end -/
theorem loopF_all {g : Tg} {chk : Env → Bool} {body : Env → Fl} : ∀ {ds : List D} {env : Env} (P : Nat → Env → Prop), P 0 env →
    (∀ (i : Nat) (d : D) (env : Env), ds[i]? = some d → P i env → ∃ envb env', bindT g d env = some envb ∧ (body envb = .nx env' ∨ body envb = .ct env') ∧ chk env' = true ∧ P (i + 1) env') →
    ∃ env', loopF g chk body ds env = .nx env' ∧ P ds.length env' := by
  intro ds
  induction ds with
  | nil => intro env P h0 _; exact ⟨env, rfl, h0⟩
  | cons d ds ih =>
    intro env P h0 hs
    obtain ⟨envb, env', h1, h2, h3, h4⟩ := hs 0 d env rfl h0
    obtain ⟨e, h5, h6⟩ := ih (fun i => P (i + 1)) h4 fun i d env hd hp => hs (i + 1) d env (by simpa using hd) hp
    refine ⟨e, ?_, h6⟩
    rw [← h5, loopF_cons_, h1]
    rcases h2 with h2 | h2 <;> simp [h2, h3]
/-- a loop that may hand back at a turn: it does at the first turn that c tells -/
theorem loopF_find {g : Tg} {chk : Env → Bool} {body : Env → Fl} {r : R} (c : D → Bool) : ∀ {ds : List D} {env : Env} (P : Nat → Env → Prop) (Q : Env → Prop), P 0 env →
    (∀ (i : Nat) (d : D) (env : Env), ds[i]? = some d → P i env → ∃ envb env', bindT g d env = some envb ∧ (if c d = true then body envb = .rt r env' ∧ Q env' else body envb = .nx env' ∧ chk env' = true ∧ P (i + 1) env')) →
    ∃ env', if ds.any c = true then loopF g chk body ds env = .rt r env' ∧ Q env' else loopF g chk body ds env = .nx env' ∧ P ds.length env' := by
  intro ds
  induction ds with
  | nil => intro env P Q h0 _; exact ⟨env, by simp; exact h0⟩
  | cons d ds ih =>
    intro env P Q h0 hs
    obtain ⟨envb, env', h1, h2⟩ := hs 0 d env rfl h0
    by_cases hc : c d = true
    · rw [if_pos hc] at h2
      refine ⟨env', ?_⟩
      simp [List.any_cons, hc, loopF_cons_, h1, h2.1, h2.2]
    · rw [if_neg hc] at h2
      obtain ⟨e, h5⟩ := ih (fun i => P (i + 1)) Q h2.2.2 fun i d env hd hp => hs (i + 1) d env (by simpa using hd) hp
      refine ⟨e, ?_⟩
      have hl : loopF g chk body (d :: ds) env = loopF g chk body ds env' := by
        simp [loopF_cons_, h1, h2.1, h2.2.1]
      rw [hl]
      simpa [List.any_cons, hc] using h5
/-- a comprehension: turn by turn -/
theorem loopC_map {g : Tg} {own : List Nat} {chk : Env → Bool} {turn : Env → Out (List D)} : ∀ {ds : List D} {env : Env} (P : Nat → Env → Prop) (f : Nat → D → List D), P 0 env →
    (∀ (i : Nat) (d : D) (env : Env), ds[i]? = some d → P i env → ∃ envb env', bindT g d env = some envb ∧ turn envb = .ok (f i d) env' ∧ chk env' = true ∧ P (i + 1) (wipeE env' own)) →
    ∃ env', loopC g own chk turn ds env = .ok ((ds.zipIdx.map fun p => f p.2 p.1).flatten) env' ∧ P ds.length env' := by
  intro ds
  induction ds with
  | nil => intro env P f h0 _; exact ⟨env, rfl, h0⟩
  | cons d ds ih =>
    intro env P f h0 hs
    obtain ⟨envb, env', h1, h2, h3, h4⟩ := hs 0 d env rfl h0
    obtain ⟨e, h5, h6⟩ := ih (fun i => P (i + 1)) (fun i => f (i + 1)) h4 fun i d env hd hp => hs (i + 1) d env (by simpa using hd) hp
    refine ⟨e, ?_, h6⟩
    have : ((d :: ds).zipIdx.map fun p => f p.2 p.1).flatten = f 0 d ++ (ds.zipIdx.map fun p => f (p.2 + 1) p.1).flatten := by
      rw [List.zipIdx_cons, List.map_cons, List.flatten_cons]
      congr 2
      rw [show (0 + 1) = 1 from rfl, List.zipIdx_succ]
      simp [Function.comp_def]
    rw [this]
    simp [loopC_cons_, h1, h2, h3, h5]
/-- a comprehension without effects -/
theorem loopC_pure {g : Tg} {own : List Nat} {chk : Env → Bool} {turn : Env → Out (List D)} {env : Env} (f : D → List D) : ∀ {ds : List D},
    (∀ d ∈ ds, ∃ envb env', bindT g d env = some envb ∧ turn envb = .ok (f d) env' ∧ chk env' = true ∧ wipeE env' own = env) → loopC g own chk turn ds env = .ok ((ds.map f).flatten) env := by
  intro ds
  induction ds with
  | nil => intro _; rfl
  | cons d ds ih =>
    intro hs
    obtain ⟨envb, env', h1, h2, h3, h4⟩ := hs d (List.mem_cons_self ..)
    have := ih fun d hd => hs d (List.mem_cons_of_mem _ hd)
    simp [loopC_cons_, h1, h2, h3, h4, this]
end Di
namespace Di
open PySem
@[simp] theorem dCmp_eq (x y : RM) : dCmp .Eq x y = (dEq x y).map fun b => .v (.bool b) := rfl
@[simp] theorem dCmp_ne (x y : RM) : dCmp .NotEq x y = ((dEq x y).map (!·)).map fun b => .v (.bool b) := rfl
@[simp] theorem dCmp_in (x y : RM) : dCmp .In x y = (dMem x y).map fun b => .v (.bool b) := rfl
@[simp] theorem dCmp_nin (x y : RM) : dCmp .NotIn x y = ((dMem x y).map (!·)).map fun b => .v (.bool b) := rfl
@[simp] theorem ixD_nat {n j : Nat} (h : j < n) : ixD n (j : Int) = some j := by
  unfold ixD
  rw [if_pos (by omega), if_pos (by omega)]
  simp
theorem ixD_pos {n : Nat} {i : Int} (h : 0 ≤ i) (h2 : i < n) : ixD n i = some i.toNat := by
  unfold ixD
  rw [if_pos h, if_pos h2]
theorem dSub_tup {ds : List D} {i : Int} {j : Nat} {d : D} (h : ixD ds.length i = some j) (h2 : ds[j]? = some d) : dSub (.v (.tuple ds)) (.v (.int i)) = some (.v d) := by
  unfold dSub
  simp [RM.seq, h, h2]
theorem dSub_lst {ds : List D} {i : Int} {j : Nat} {d : D} (h : ixD ds.length i = some j) (h2 : ds[j]? = some d) : dSub (.v (.list ds)) (.v (.int i)) = some (.v d) := by
  unfold dSub
  simp [RM.seq, h, h2]
theorem dSub_m {ds : List D} {i : Int} {j : Nat} {d : D} (h : ixD ds.length i = some j) (h2 : ds[j]? = some d) : dSub (.m (.lst ds)) (.v (.int i)) = some (.v d) := by
  unfold dSub
  simp [RM.seq, h, h2]
@[simp] theorem len_tup (ds : List D) : dBlt .len [.v (.tuple ds)] = some (.v (.int ds.length)) := rfl
@[simp] theorem len_lst (ds : List D) : dBlt .len [.v (.list ds)] = some (.v (.int ds.length)) := rfl
@[simp] theorem len_m (ds : List D) : dBlt .len [.m (.lst ds)] = some (.v (.int ds.length)) := rfl
@[simp] theorem int_int (i : Int) : dBlt .int [.v (.int i)] = some (.v (.int i)) := rfl
@[simp] theorem int_bool (i : Bool) : dBlt .int [.v (.bool i)] = some (.v (.int (b2i i))) := rfl
@[simp] theorem tup_m (ds : List D) : dBlt .tuple [.m (.lst ds)] = some (.v (.tuple ds)) := rfl
@[simp] theorem tup_l (ds : List D) : dBlt .tuple [.v (.list ds)] = some (.v (.tuple ds)) := rfl
@[simp] theorem abs_i (i : Int) : dBlt .abs [.v (.int i)] = some (.v (.int (if i < 0 then -i else i))) := rfl
@[simp] theorem min_ii (i j : Int) : dBlt .min [.v (.int i), .v (.int j)] = some (.v (.int (if j < i then j else i))) := rfl
@[simp] theorem max_ii (i j : Int) : dBlt .max [.v (.int i), .v (.int j)] = some (.v (.int (if j > i then j else i))) := rfl
theorem rangeD_get {lo : Int} {n i : Nat} {d : D} (h : (rangeD lo n)[i]? = some d) : d = .int (lo + i) ∧ i < n := by
  refine ⟨rangeD_at h, ?_⟩
  have := (List.getElem?_eq_some_iff.mp h).1
  rwa [rangeD_len] at this
end Di
namespace Di
open PySem
theorem cut_nat {α : Type} {xs : List α} {f g : Int} (h : 0 ≤ f) (h2 : f ≤ g) (h3 : g ≤ xs.length) : cut xs (some f) (some g) = (xs.drop f.toNat).take (g.toNat - f.toNat) := by
  have e1 : sIx xs.length 0 (some f) = f.toNat := by
    show (if f < 0 then _ else min f.toNat xs.length) = _
    rw [if_neg (by omega)]
    omega
  have e2 : sIx xs.length xs.length (some g) = g.toNat := by
    show (if g < 0 then _ else min g.toNat xs.length) = _
    rw [if_neg (by omega)]
    omega
  unfold cut
  rw [e1, e2]
theorem cut_map {α β : Type} (f : α → β) (xs : List α) (lo hi : Option Int) : cut (xs.map f) lo hi = (cut xs lo hi).map f := by
  unfold cut
  rw [List.length_map, List.map_take, List.map_drop]
@[simp] theorem dSlc_tup (lo hi : Option Int) (xs : List D) : dSlc lo hi (.v (.tuple xs)) = some (.v (.tuple (cut xs lo hi))) := rfl
theorem any_rangeD {n : Nat} {c : D → Bool} : (rangeD 0 n).any c = (List.range n).any fun i => c (.int (i : Nat)) := by
  unfold rangeD
  rw [List.any_map]
  congr 1
  funext i
  simp
end Di
namespace Di
open PySem
theorem niceAll_ints (n : Nat) : ∀ w : List Int, niceAll n (w.map .int) = true
  | [] => by cases n <;> rfl
  | i :: w => by
    rw [List.map_cons]
    unfold niceAll
    rw [niceAll_ints n w]
    cases n <;> rfl
theorem eqvAll_ints : ∀ w v : List Int, PyData.eqvAll (w.map .int) (v.map .int) = decide (w = v)
  | [], [] => rfl
  | [], _ :: _ => rfl
  | _ :: _, [] => rfl
  | i :: w, j :: v => by
    rw [List.map_cons, List.map_cons]
    unfold PyData.eqvAll
    rw [eqv_int, eqvAll_ints w v, ← Bool.decide_and]
    simp
theorem dEq_ints (w v : List Int) : dEq (.v (.tuple (w.map .int))) (.v (.tuple (v.map .int))) = some (decide (w = v)) := by
  show (if (nice 20 (.tuple (w.map .int)) && nice 20 (.tuple (v.map .int))) = true then some (PyData.eqv (.tuple (w.map .int)) (.tuple (v.map .int))) else none) = _
  have e : ∀ w : List Int, nice 20 (.tuple (w.map .int)) = true := fun w => niceAll_ints 19 w
  rw [e, e]
  have e2 : PyData.eqv (.tuple (w.map .int)) (.tuple (v.map .int)) = decide (w = v) := eqvAll_ints w v
  rw [e2]
  rfl
theorem dEq_ints0 (w : List Int) : dEq (.v (.tuple (w.map .int))) (.v (.tuple [])) = some (decide (w = [])) := dEq_ints w []
end Di
namespace Di
theorem loopC_range {g : Tg} {own : List Nat} {chk : Env → Bool} {turn : Env → Out (List D)} {env : Env} (p : Nat → Bool) (f : Nat → D) {n : Nat}
    (hs : ∀ j < n, ∃ envb env', bindT g (.int (j : Nat)) env = some envb ∧ turn envb = .ok (if p j = true then [f j] else []) env' ∧ chk env' = true ∧ wipeE env' own = env) : loopC g own chk turn (rangeD 0 n) env = .ok (((List.range n).filter p).map f) env := by
  have h := loopC_pure (g := g) (own := own) (chk := chk) (turn := turn) (env := env) (fun d => match d with | .int j => (if p j.toNat = true then [f j.toNat] else []) | _ => []) (ds := rangeD 0 n) (by
    intro d hd
    obtain ⟨q, hq⟩ := List.mem_iff_getElem?.mp hd
    obtain ⟨e, hl⟩ := rangeD_get hq
    rw [Int.zero_add] at e
    subst e
    exact hs q hl)
  rw [h]
  congr 1
  unfold rangeD
  induction List.range n with
  | nil => rfl
  | cons a l ih =>
    rw [List.map_cons, List.map_cons, List.flatten_cons, ih, Int.zero_add]
    show (if p (a : Int).toNat = true then [f (a : Int).toNat] else []) ++ _ = _
    rw [Int.toNat_natCast, List.filter_cons]
    split <;> simp
theorem filter_true {α : Type} (l : List α) : l.filter (fun _ => true) = l := by simp
end Di
namespace Di
open PySem
theorem dMul_l {i j : Int} (h : small i = true) : dMul (.v (.int i)) (.v (.int j)) = some (.v (.int (i * j))) := by
  show (if (small i || small j || (big i && big j)) = true then some (R.v (.int (i * j))) else none) = _
  rw [h]
  rfl
theorem dMul_r {i j : Int} (h : small j = true) : dMul (.v (.int i)) (.v (.int j)) = some (.v (.int (i * j))) := by
  show (if (small i || small j || (big i && big j)) = true then some (R.v (.int (i * j))) else none) = _
  rw [h, Bool.or_true]
  rfl
theorem dMul_b {i j : Int} (h : big i = true) (h2 : big j = true) : dMul (.v (.int i)) (.v (.int j)) = some (.v (.int (i * j))) := by
  show (if (small i || small j || (big i && big j)) = true then some (R.v (.int (i * j))) else none) = _
  rw [h, h2, Bool.and_true, Bool.or_true]
  rfl
theorem small_of {i : Int} (h : i.natAbs < 2 ^ 64) : small i = true := decide_eq_true h
theorem big_of {i : Int} {n : Nat} (h : i.natAbs < 2 ^ n) (hn : n ≤ 20000) : big i = true := decide_eq_true (Nat.lt_of_lt_of_le h (Nat.pow_le_pow_right (by decide) hn))
@[simp] theorem dRvs_t (xs : List D) : dRvs (.v (.tuple xs)) = some (.v (.tuple xs.reverse)) := rfl
@[simp] theorem dRvs_l (xs : List D) : dRvs (.v (.list xs)) = some (.m (.lst xs.reverse)) := rfl
@[simp] theorem dRvs_m (xs : List D) : dRvs (.m (.lst xs)) = some (.m (.lst xs.reverse)) := rfl
end Di
namespace Di
open PySem
/-! ### loops over encoded lists -/
section
variable {α : Type} {g : Tg} {own : List Nat} {chk : Env → Bool} {turn : Env → Out (List D)} {body : Env → Fl}
/-- a comprehension without effects over encoded items -/
theorem loopC_enc {env : Env} (enc : α → D) (p : α → Bool) (f : α → D) {xs : List α}
    (hs : ∀ x ∈ xs, ∃ envb env', bindT g (enc x) env = some envb ∧ turn envb = .ok (if p x = true then [f x] else []) env' ∧ chk env' = true ∧ wipeE env' own = env) :
    loopC g own chk turn (xs.map enc) env = .ok ((xs.filter p).map f) env := by
  induction xs with
  | nil => rfl
  | cons x xs ih =>
    obtain ⟨envb, env', h1, h2, h3, h4⟩ := hs x (List.mem_cons_self ..)
    have := ih fun d hd => hs d (List.mem_cons_of_mem _ hd)
    rw [List.map_cons, loopC_cons_, h1]
    simp only [h2, bind_ok_, h3, h4, this, if_true]
    by_cases hp : p x = true <;> simp [hp, List.filter_cons]
theorem loopC_encs {env : Env} (enc : α → D) (f : α → List D) {xs : List α}
    (hs : ∀ x ∈ xs, ∃ envb env', bindT g (enc x) env = some envb ∧ turn envb = .ok (f x) env' ∧ chk env' = true ∧ wipeE env' own = env) :
    loopC g own chk turn (xs.map enc) env = .ok (xs.flatMap f) env := by
  induction xs with
  | nil => rfl
  | cons x xs ih =>
    obtain ⟨envb, env', h1, h2, h3, h4⟩ := hs x (List.mem_cons_self ..)
    have := ih fun d hd => hs d (List.mem_cons_of_mem _ hd)
    rw [List.map_cons, loopC_cons_, h1]
    simp only [h2, bind_ok_, h3, h4, this, if_true]
    simp
theorem loopC_encM {env : Env} (enc : α → D) (f : α → D) {xs : List α}
    (hs : ∀ x ∈ xs, ∃ envb env', bindT g (enc x) env = some envb ∧ turn envb = .ok [f x] env' ∧ chk env' = true ∧ wipeE env' own = env) :
    loopC g own chk turn (xs.map enc) env = .ok (xs.map f) env := by
  have := loopC_enc (g := g) (own := own) (chk := chk) (turn := turn) (env := env) enc (fun _ => true) f (xs := xs) (by simpa using hs)
  rwa [List.filter_eq_self.mpr (fun _ _ => rfl)] at this
/-- a comprehension with effects: the items are only described -/
theorem loopC_ex (Q : D → Prop) : ∀ {ds : List D} {env : Env} (P : Nat → Env → Prop), P 0 env →
    (∀ (i : Nat) (d : D) (env : Env), ds[i]? = some d → P i env → ∃ envb env' y, bindT g d env = some envb ∧ turn envb = .ok [y] env' ∧ chk env' = true ∧ P (i + 1) (wipeE env' own) ∧ Q y) →
    ∃ ys env', loopC g own chk turn ds env = .ok ys env' ∧ P ds.length env' ∧ ys.length = ds.length ∧ ∀ y ∈ ys, Q y := by
  intro ds
  induction ds with
  | nil => intro env P h0 _; exact ⟨[], env, rfl, h0, rfl, by simp⟩
  | cons d ds ih =>
    intro env P h0 hs
    obtain ⟨envb, env', y, h1, h2, h3, h4, h5⟩ := hs 0 d env rfl h0
    obtain ⟨ys, e, h6, h7, h8, h9⟩ := ih (fun i => P (i + 1)) h4 fun i d env hd hp => hs (i + 1) d env (by simpa using hd) hp
    refine ⟨y :: ys, e, ?_, h7, by simp [h8], ?_⟩
    · rw [loopC_cons_, h1]
      simp [h2, h3, h6]
    · intro z hz
      rcases List.mem_cons.mp hz with rfl | hz
      · exact h5
      · exact h9 z hz
/-- a loop that goes on to the end, told by what was taken -/
theorem loopF_pre (enc : α → D) : ∀ {xs : List α} {env : Env} (P : List α → Env → Prop), P [] env →
    (∀ (pre : List α) (x : α) (post : List α) (env : Env), xs = pre ++ x :: post → P pre env → ∃ envb env', bindT g (enc x) env = some envb ∧ (body envb = .nx env' ∨ body envb = .ct env') ∧ chk env' = true ∧ P (pre ++ [x]) env') →
    ∃ env', loopF g chk body (xs.map enc) env = .nx env' ∧ P xs env' := by
  intro xs
  induction xs with
  | nil => intro env P h0 _; exact ⟨env, rfl, h0⟩
  | cons x xs ih =>
    intro env P h0 hs
    obtain ⟨envb, env', h1, h2, h3, h4⟩ := hs [] x xs env rfl h0
    obtain ⟨e, h5, h6⟩ := ih (fun pre => P (x :: pre)) h4 fun pre y post env he hp => hs (x :: pre) y post env (by rw [he]; rfl) hp
    refine ⟨e, ?_, h6⟩
    rw [← h5, List.map_cons, loopF_cons_, h1]
    rcases h2 with h2 | h2 <;> simp [h2, h3]
/-- a loop that hands back at the first item of which c is true -/
theorem loopF_first (enc : α → D) (c : α → Bool) (r : α → R) : ∀ {xs : List α} {env : Env} (P : List α → Env → Prop) (Q : α → Env → Prop), P [] env →
    (∀ (pre : List α) (x : α) (post : List α) (env : Env), xs = pre ++ x :: post → P pre env → ∃ envb env', bindT g (enc x) env = some envb ∧ (if c x = true then body envb = .rt (r x) env' ∧ Q x env' else (body envb = .nx env' ∨ body envb = .ct env') ∧ chk env' = true ∧ P (pre ++ [x]) env')) →
    ∃ env', match xs.find? c with
      | some x => loopF g chk body (xs.map enc) env = .rt (r x) env' ∧ Q x env'
      | none => loopF g chk body (xs.map enc) env = .nx env' ∧ P xs env' := by
  intro xs
  induction xs with
  | nil => intro env P Q h0 _; exact ⟨env, rfl, h0⟩
  | cons x xs ih =>
    intro env P Q h0 hs
    obtain ⟨envb, env', h1, h2⟩ := hs [] x xs env rfl h0
    by_cases hc : c x = true
    · rw [if_pos hc] at h2
      refine ⟨env', ?_⟩
      rw [List.find?_cons_of_pos hc]
      refine ⟨?_, h2.2⟩
      rw [List.map_cons, loopF_cons_, h1]
      simp [h2.1]
    · rw [if_neg hc] at h2
      obtain ⟨e, h5⟩ := ih (fun pre => P (x :: pre)) Q h2.2.2 fun pre y post env he hp => hs (x :: pre) y post env (by rw [he]; rfl) hp
      refine ⟨e, ?_⟩
      rw [List.find?_cons_of_neg hc]
      have hl : loopF g chk body ((x :: xs).map enc) env = loopF g chk body (xs.map enc) env' := by
        rw [List.map_cons, loopF_cons_, h1]
        rcases h2.1 with h | h <;> simp [h, h2.2.1]
      rw [hl]
      exact h5
end
theorem rangeD_map (lo : Int) (n : Nat) : rangeD lo n = (List.range n).map fun k => .int (lo + (k : Nat)) := rfl
theorem rangeD_map0 (n : Nat) : rangeD 0 n = (List.range n).map fun k => .int (k : Nat) := by
  unfold rangeD
  congr 1
  funext k
  simp
@[simp] theorem dEq_bb (a b : Bool) : dEq (.v (.bool a)) (.v (.bool b)) = some (a == b) := by cases a <;> cases b <;> rfl
@[simp] theorem dEq_nn : dEq (.v .none) (.v .none) = some true := rfl
theorem nice_int (n : Nat) (i : Int) : nice n (.int i) = true := by cases n <;> rfl
theorem dEq_li (w v : List Int) : dEq (.m (.lst (w.map .int))) (.m (.lst (v.map .int))) = some (decide (w = v)) := by
  show (if (nice 20 (.list (w.map .int)) && nice 20 (.list (v.map .int))) = true then some (PyData.eqv (.list (w.map .int)) (.list (v.map .int))) else none) = _
  have e : ∀ w : List Int, nice 20 (.list (w.map .int)) = true := fun w => niceAll_ints 19 w
  rw [e, e]
  have e2 : PyData.eqv (.list (w.map .int)) (.list (v.map .int)) = decide (w = v) := eqvAll_ints w v
  rw [e2]
  rfl
section
variable {g : Tg} {own : List Nat} {chk : Env → Bool} {turn : Env → Out (List D)} {body : Env → Fl}
/-- for i in range(n): to the end -/
theorem loopF_rng {n : Nat} {env : Env} (P : Nat → Env → Prop) (h0 : P 0 env)
    (hs : ∀ (i : Nat) (env : Env), i < n → P i env → ∃ envb env', bindT g (.int (i : Nat)) env = some envb ∧ (body envb = .nx env' ∨ body envb = .ct env') ∧ chk env' = true ∧ P (i + 1) env') :
    ∃ env', loopF g chk body (rangeD 0 n) env = .nx env' ∧ P n env' := by
  have := loopF_all (g := g) (chk := chk) (body := body) (ds := rangeD 0 n) (env := env) P h0 (by
    intro i d env hd hp
    obtain ⟨rfl, hi⟩ := rangeD_get hd
    rw [Int.zero_add]
    exact hs i env hi hp)
  rwa [rangeD_len] at this
/-- for i in range(n): hands back at the first i of which c is true -/
theorem loopF_rngF {n : Nat} {env : Env} (c : Nat → Bool) (r : Nat → R) (P : Nat → Env → Prop) (Q : Nat → Env → Prop) (h0 : P 0 env)
    (hs : ∀ (i : Nat) (env : Env), i < n → P i env → ∃ envb env', bindT g (.int (i : Nat)) env = some envb ∧ (if c i = true then body envb = .rt (r i) env' ∧ Q i env' else (body envb = .nx env' ∨ body envb = .ct env') ∧ chk env' = true ∧ P (i + 1) env')) :
    ∃ env', match (List.range n).find? c with
      | some x => loopF g chk body (rangeD 0 n) env = .rt (r x) env' ∧ Q x env'
      | none => loopF g chk body (rangeD 0 n) env = .nx env' ∧ P n env' := by
  have := loopF_first (g := g) (chk := chk) (body := body) (fun i : Nat => .int i) c r (xs := List.range n) (env := env) (fun pre env => P pre.length env) Q h0 (by
    intro pre i post env he hp
    have hlen : pre.length < n := by
      have := congrArg List.length he
      simp at this
      omega
    have hi : i = pre.length := by
      have : (List.range n)[pre.length]? = some i := by rw [he]; simp
      simp [hlen] at this
      exact this.symm
    subst hi
    have := hs pre.length env hlen hp
    simpa using this)
  obtain ⟨e, h⟩ := this
  refine ⟨e, ?_⟩
  rw [← rangeD_map0] at h
  revert h
  cases (List.range n).find? c with
  | none => intro h; refine ⟨h.1, ?_⟩; have := h.2; rwa [List.length_range] at this
  | some x => exact id
theorem loopC_rng {n : Nat} {env : Env} (p : Nat → Bool) (f : Nat → D)
    (hs : ∀ i < n, ∃ envb env', bindT g (.int (i : Nat)) env = some envb ∧ turn envb = .ok (if p i = true then [f i] else []) env' ∧ chk env' = true ∧ wipeE env' own = env) :
    loopC g own chk turn (rangeD 0 n) env = .ok (((List.range n).filter p).map f) env := by
  rw [rangeD_map0]
  exact loopC_enc (fun i : Nat => .int i) p f fun i hi => hs i (List.mem_range.mp hi)
theorem loopC_rngM {n : Nat} {env : Env} (f : Nat → D)
    (hs : ∀ i < n, ∃ envb env', bindT g (.int (i : Nat)) env = some envb ∧ turn envb = .ok [f i] env' ∧ chk env' = true ∧ wipeE env' own = env) :
    loopC g own chk turn (rangeD 0 n) env = .ok ((List.range n).map f) env := by
  rw [rangeD_map0]
  exact loopC_encM (fun i : Nat => .int i) f fun i hi => hs i (List.mem_range.mp hi)
end
@[simp] theorem LINE_1 : 1 ≤ LINE := by decide
@[simp] theorem LINE_2 : 2 ≤ LINE := by decide
@[simp] theorem LINE_3 : 3 ≤ LINE := by decide
@[simp] theorem LINE_4 : 4 ≤ LINE := by decide
@[simp] theorem LINE_5 : 5 ≤ LINE := by decide
@[simp] theorem LINE_6 : 6 ≤ LINE := by decide
@[simp] theorem LINE_7 : 7 ≤ LINE := by decide
@[simp] theorem LINE_8 : 8 ≤ LINE := by decide
@[simp] theorem LINE_9 : 9 ≤ LINE := by decide
@[simp] theorem LINE_10 : 10 ≤ LINE := by decide
@[simp] theorem LINE_11 : 11 ≤ LINE := by decide
@[simp] theorem LINE_12 : 12 ≤ LINE := by decide
@[simp] theorem LINE_13 : 13 ≤ LINE := by decide
@[simp] theorem LINE_14 : 14 ≤ LINE := by decide
@[simp] theorem LINE_15 : 15 ≤ LINE := by decide
@[simp] theorem LINE_16 : 16 ≤ LINE := by decide
@[simp] theorem LINE_17 : 17 ≤ LINE := by decide
@[simp] theorem LINE_18 : 18 ≤ LINE := by decide
@[simp] theorem LINE_19 : 19 ≤ LINE := by decide
@[simp] theorem LINE_20 : 20 ≤ LINE := by decide
@[simp] theorem LINE_21 : 21 ≤ LINE := by decide
@[simp] theorem LINE_22 : 22 ≤ LINE := by decide
@[simp] theorem LINE_23 : 23 ≤ LINE := by decide
@[simp] theorem LINE_24 : 24 ≤ LINE := by decide
@[simp] theorem LINE_25 : 25 ≤ LINE := by decide
@[simp] theorem LINE_26 : 26 ≤ LINE := by decide
@[simp] theorem LINE_27 : 27 ≤ LINE := by decide
@[simp] theorem LINE_28 : 28 ≤ LINE := by decide
@[simp] theorem LINE_29 : 29 ≤ LINE := by decide
@[simp] theorem LINE_30 : 30 ≤ LINE := by decide
@[simp] theorem LINE_31 : 31 ≤ LINE := by decide
@[simp] theorem LINE_32 : 32 ≤ LINE := by decide
@[simp] theorem dEq_nil_mm : dEq (.m (.lst [])) (.m (.lst [])) = some true := rfl
@[simp] theorem dEq_nil_tt : dEq (.v (.tuple [])) (.v (.tuple [])) = some true := rfl
/-- for i in range(n): goes on to the end, or hands back something -/
theorem loopF_rngA {g : Tg} {chk : Env → Bool} {body : Env → Fl} {n : Nat} {env : Env} (P : Nat → Env → Prop) (Q : R → Env → Prop) (h0 : P 0 env)
    (hs : ∀ (i : Nat) (env : Env), i < n → P i env → ∃ envb env', bindT g (.int (i : Nat)) env = some envb ∧ ((∃ r, body envb = .rt r env' ∧ Q r env') ∨ (body envb = .nx env' ∨ body envb = .ct env') ∧ chk env' = true ∧ P (i + 1) env')) :
    ∃ env', (∃ r, loopF g chk body (rangeD 0 n) env = .rt r env' ∧ Q r env') ∨ (loopF g chk body (rangeD 0 n) env = .nx env' ∧ P n env') := by
  rw [rangeD_map0]
  suffices h : ∀ m a, a + m = n → ∀ env, P a env → ∃ env', (∃ r, loopF g chk body ((List.range' a m).map fun k : Nat => PyData.int k) env = .rt r env' ∧ Q r env') ∨ (loopF g chk body ((List.range' a m).map fun k : Nat => PyData.int k) env = .nx env' ∧ P n env') by
    have := h n 0 (by omega) env h0
    rwa [← List.range_eq_range'] at this
  intro m
  induction m with
  | zero => intro a ha env hp; exact ⟨env, .inr ⟨rfl, by rw [← ha]; exact hp⟩⟩
  | succ m ih =>
    intro a ha env hp
    obtain ⟨envb, env', h1, h2⟩ := hs a env (by omega) hp
    rw [List.range'_succ, List.map_cons]
    rcases h2 with ⟨r, h2, h3⟩ | ⟨h2, h3, h4⟩
    · refine ⟨env', .inl ⟨r, ?_, h3⟩⟩
      rw [loopF_cons_, h1]
      simp [h2]
    · obtain ⟨e, h5⟩ := ih (a + 1) (by omega) env' h4
      refine ⟨e, ?_⟩
      have hl : loopF g chk body (PyData.int (a : Nat) :: (List.range' (a + 1) m).map fun k : Nat => PyData.int k) env = loopF g chk body ((List.range' (a + 1) m).map fun k : Nat => PyData.int k) env' := by
        rw [loopF_cons_, h1]
        rcases h2 with h | h <;> simp [h, h3]
      rw [hl]
      exact h5
theorem sIx_nat (n d a : Nat) : sIx n d (some (a : Int)) = min a n := by
  show (if (a : Int) < 0 then ((a : Int) + n).toNat else min (a : Int).toNat n) = _
  rw [if_neg (by omega), Int.toNat_natCast]
theorem sIx_none (n d : Nat) : sIx n d none = d := rfl
theorem cut_fn {α : Type} (xs : List α) (a : Nat) : cut xs (some (a : Int)) none = xs.drop a := by
  unfold cut
  rw [sIx_nat, sIx_none]
  by_cases h : a ≤ xs.length
  · rw [Nat.min_eq_left h, List.take_of_length_le (by simp)]
  · rw [List.drop_of_length_le (by omega), List.drop_of_length_le (by omega)]; simp
theorem cut_nt {α : Type} (xs : List α) (a : Nat) : cut xs none (some (a : Int)) = xs.take a := by
  unfold cut
  rw [sIx_nat, sIx_none]
  by_cases h : a ≤ xs.length
  · rw [Nat.min_eq_left h]; simp
  · rw [Nat.min_eq_right (by omega), List.take_of_length_le (by simp), List.take_of_length_le (by omega)]; simp
theorem cut_ff {α : Type} (xs : List α) (a b : Nat) : cut xs (some (a : Int)) (some (b : Int)) = (xs.drop a).take (b - a) := by
  unfold cut
  rw [sIx_nat, sIx_nat]
  by_cases h : a ≤ xs.length
  · rw [Nat.min_eq_left h]
    by_cases h2 : b ≤ xs.length
    · rw [Nat.min_eq_left h2]
    · rw [Nat.min_eq_right (by omega), List.take_of_length_le (by simp), List.take_of_length_le (by simp; omega)]
  · rw [List.drop_of_length_le (by omega), List.drop_of_length_le (by omega)]; simp
theorem dMul_m {xs : List D} {j : Nat} (h : xs.length * j ≤ 16777216) (h2 : j < 2 ^ 59) : dMul (.m (.lst xs)) (.v (.int (j : Int))) = some (.m (.lst (List.replicate j xs).flatten)) := by
  show (if xs.length * (j : Int).toNat ≤ LINE ∧ (j : Int) < 2 ^ 60 ∧ - 2 ^ 60 < (j : Int) then some (R.m (.lst (List.replicate (j : Int).toNat xs).flatten)) else none) = _
  rw [Int.toNat_natCast, if_pos ⟨h, by omega, by omega⟩]
end Di
namespace Di
/-- for i in range(lo, ..): to the end -/
theorem loopF_rngL {g : Tg} {chk : Env → Bool} {body : Env → Fl} {lo : Int} {n : Nat} {env : Env} (P : Nat → Env → Prop) (h0 : P 0 env)
    (hs : ∀ (i : Nat) (env : Env), i < n → P i env → ∃ envb env', bindT g (.int (lo + (i : Nat))) env = some envb ∧ (body envb = .nx env' ∨ body envb = .ct env') ∧ chk env' = true ∧ P (i + 1) env') :
    ∃ env', loopF g chk body (rangeD lo n) env = .nx env' ∧ P n env' := by
  have := loopF_all (g := g) (chk := chk) (body := body) (ds := rangeD lo n) (env := env) P h0 (by
    intro i d env hd hp
    obtain ⟨rfl, hi⟩ := rangeD_get hd
    exact hs i env hi hp)
  rwa [rangeD_len] at this
end Di
namespace Di
noncomputable def kW (t : Env → Out Bool) (body : Env → Fl) (n : Nat) (b : Bool) (env : Env) : Fl := if b = true then (body env).loop (loopW t body n) else .nx env
@[simp] theorem kW_ (t : Env → Out Bool) (body : Env → Fl) (n : Nat) (b : Bool) (env : Env) : kW t body n b env = if b = true then (body env).loop (loopW t body n) else .nx env := rfl
theorem loopW_s (t : Env → Out Bool) (body : Env → Fl) (n : Nat) (env : Env) : loopW t body (n + 1) env = (t env).go (kW t body n) := rfl
end Di
namespace Di
@[simp] theorem list_t (ds : List D) : dBlt .list [.v (.tuple ds)] = some (.m (.lst ds)) := rfl
@[simp] theorem list_l (ds : List D) : dBlt .list [.v (.list ds)] = some (.m (.lst ds)) := rfl
@[simp] theorem list_m (ds : List D) : dBlt .list [.m (.lst ds)] = some (.m (.lst ds)) := rfl
theorem putM_ok {xs : List D} {j : Nat} {i : Int} {d : D} (h : j < xs.length) (hi : i = j) : putM i d (.lst xs) = some (.lst (xs.set j d)) := by
  subst hi
  show (match ixD xs.length (j : Int) with
    | some j => some (M.lst (xs.set j d))
    | none => none) = _
  rw [ixD_nat h]
/-- range(lo, hi) as far as it can be walked -/
theorem rng2D_ok {lo hi : Int} {n : Nat} (hn : hi - lo = n) (h1 : n ≤ 1000000) (h2 : -1000000000 < lo) (h3 : hi < 1000000000) (env : Env) : rng2D (.v (.int lo)) (.v (.int hi)) env = .ok ⟨rangeD lo n, none⟩ env := by
  have e : (LINE : Int) = 16777216 := rfl
  unfold rng2D
  dsimp only
  rw [if_pos ⟨by omega, by omega, by omega, by omega, by omega⟩, hn]
  rfl
theorem rng1D_ok {hi : Int} {n : Nat} (hn : hi = n) (h1 : n ≤ 1000000) (env : Env) : rng1D (.v (.int hi)) env = .ok ⟨rangeD 0 n, none⟩ env := by
  subst hn
  have e : (LINE : Int) = 16777216 := rfl
  unfold rng1D
  dsimp only
  rw [if_pos ⟨by omega, by omega⟩]
  rfl
end Di
namespace Di
theorem dSub_last {L : List D} {x : D} : dSub (.m (.lst (L ++ [x]))) (.v (.int (-1))) = some (.v x) := by
  refine dSub_m (j := L.length) ?_ (by simp)
  unfold ixD
  simp
  omega
theorem putM_last {L : List D} {x d : D} : putM (-1) d (.lst (L ++ [x])) = some (.lst (L ++ [d])) := by
  show (match ixD (L ++ [x]).length (-1) with
    | some j => some (M.lst ((L ++ [x]).set j d))
    | none => none) = _
  have e : ixD (L ++ [x]).length (-1) = some L.length := by
    unfold ixD
    simp
    omega
  rw [e]
  simp
end Di
namespace Di
/-- an error caught -/
def Fl.hand (o : Fl) (f : Nat → Option D → Env → Fl) : Fl := match o with
  | .exc c d env => f c d env
  | o => o
@[simp] theorem hand_nx (e : Env) (f : Nat → Option D → Env → Fl) : (Fl.nx e).hand f = .nx e := rfl
@[simp] theorem hand_rt (r : R) (e : Env) (f : Nat → Option D → Env → Fl) : (Fl.rt r e).hand f = .rt r e := rfl
@[simp] theorem hand_bk (e : Env) (f : Nat → Option D → Env → Fl) : (Fl.bk e).hand f = .bk e := rfl
@[simp] theorem hand_ct (e : Env) (f : Nat → Option D → Env → Fl) : (Fl.ct e).hand f = .ct e := rfl
@[simp] theorem hand_exc (c : Nat) (d : Option D) (e : Env) (f : Nat → Option D → Env → Fl) : (Fl.exc c d e).hand f = f c d e := rfl
@[simp] theorem ex_tri (G : Nat → Option D) (F : Calls) (env : Env) (b : Ss) (hs : Hs) : exS G F (.tri b hs) env = (exSs G F b env).hand (exHs G F hs) := by
  show (match exSs G F b env with
    | .exc c d env => exHs G F hs c d env
    | o => o) = _
  cases exSs G F b env <;> rfl
@[simp] theorem exHs_nil (G : Nat → Option D) (F : Calls) (env : Env) (c : Nat) (d : Option D) : exHs G F .nil c d env = .exc c d env := rfl
@[simp] theorem exHs_none (G : Nat → Option D) (F : Calls) (env : Env) (c c' : Nat) (d : Option D) (b : Ss) (hs : Hs) : exHs G F (.cons c' none b hs) c d env = if c' = c ∨ c' = 0 then exSs G F b env else exHs G F hs c d env := rfl
@[simp] theorem exHs_some (G : Nat → Option D) (F : Calls) (env : Env) (c c' i : Nat) (d : Option D) (b : Ss) (hs : Hs) : exHs G F (.cons c' (some i) b hs) c d env = if c' = c ∨ c' = 0 then exSs G F b (setS env i (.e d)) else exHs G F hs c d env := rfl
end Di
namespace Law
open PySem PySem.Spec PyProof.Rows L2 Di
def top (i : Nat) : Stmt := PySem.Challenge.pw_everypicture_k58_median_passes.main.body.getD i (.Pass ⟨0, 0, 0, 0⟩)
/-- integer_stands -/
def b_integer_stands : Ss := (.cons (.ret (.andE (.isi (.var 0) [.int]) (.notE (.isi (.var 0) [.bool])))) .nil)
def f_integer_stands : Fn := ⟨1, 1, b_integer_stands⟩
def d_integer_stands : DI := ⟨"integer_stands", ["value"], ["value"], top 5, f_integer_stands⟩
/-- bit_stands -/
def b_bit_stands : Ss := (.cons (.ret (.andE (.call 0 (.cons (.var 0) .nil)) (.chn .LtE .LtE (.lit (.int 0)) (.var 0) (.lit (.int 1))))) .nil)
def f_bit_stands : Fn := ⟨1, 1, b_bit_stands⟩
def d_bit_stands : DI := ⟨"bit_stands", ["value"], ["value"], top 6, f_bit_stands⟩
/-- need_number -/
def b_need_number : Ss := (.cons (.ite (.or (.not (.tru (.call 0 (.cons (.var 0) .nil)))) (.val (.cmp .Lt (.var 0) (.lit (.int 0))))) (.cons (.rai 1 .nil) .nil) .nil) .nil)
def f_need_number : Fn := ⟨1, 1, b_need_number⟩
def d_need_number : DI := ⟨"need_number", ["number"], ["number"], top 7, f_need_number⟩
/-- word_stands -/
def l1_word_stands : Ss := (.cons (.ite (.not (.tru (.call 1 (.cons (.var 1) .nil)))) (.cons (.ret (.lit (.bool false))) .nil) .nil) .nil)
def b_word_stands : Ss := (.cons (.ite (.not (.tru (.isi (.var 0) [.tup]))) (.cons (.ret (.lit (.bool false))) .nil) .nil) (.cons (.for (.n 1) (.seq (.var 0)) l1_word_stands) (.cons (.ret (.lit (.bool true))) .nil)))
def f_word_stands : Fn := ⟨1, 2, b_word_stands⟩
def d_word_stands : DI := ⟨"word_stands", ["value", "one"], ["value"], top 9, f_word_stands⟩
/-- need_full_word -/
def b_need_full_word : Ss := (.cons (.ite (.or (.not (.tru (.call 3 (.cons (.var 0) .nil)))) (.val (.cmp .Eq (.var 0) (.tup .nil)))) (.cons (.rai 2 .nil) .nil) .nil) .nil)
def f_need_full_word : Fn := ⟨1, 1, b_need_full_word⟩
def d_need_full_word : DI := ⟨"need_full_word", ["word"], ["word"], top 10, f_need_full_word⟩
/-- passed -/
def l1_passed : Ss := (.cons (.aug .Add 5 (.sub (.var 0) (.blt .min (.cons (.blt .max (.cons (.var 6) (.cons (.lit (.int 0)) .nil))) (.cons (.var 2) .nil))))) .nil)
def l2_passed : Ss := (.cons (.set 5 (.lit (.int 0))) (.cons (.for (.n 6) (.rng2 (.bin .Sub (.var 4) (.var 1)) (.bin .Add (.bin .Add (.var 4) (.var 1)) (.lit (.int 1)))) l1_passed) (.cons (.app 3 (.blt .int (.cons (.cmp .Gt (.var 5) (.var 1)) .nil))) .nil)))
def b_passed : Ss := (.cons (.set 2 (.bin .Sub (.blt .len (.cons (.var 0) .nil)) (.lit (.int 1)))) (.cons (.set 3 (.lst .nil)) (.cons (.for (.n 4) (.rng1 (.blt .len (.cons (.var 0) .nil))) l2_passed) (.cons (.ret (.blt .tuple (.cons (.var 3) .nil))) .nil))))
def f_passed : Fn := ⟨2, 7, b_passed⟩
def d_passed : DI := ⟨"passed", ["word", "number", "last", "found", "i", "many", "j"], ["word", "number"], top 12, f_passed⟩
/-- median_pass -/
def b_median_pass : Ss := (.cons (.exp (.call 4 (.cons (.var 0) .nil))) (.cons (.exp (.call 2 (.cons (.var 1) .nil))) (.cons (.ret (.call 5 (.cons (.var 0) (.cons (.var 1) .nil)))) .nil)))
def f_median_pass : Fn := ⟨2, 2, b_median_pass⟩
def d_median_pass : DI := ⟨"median_pass", ["word", "number"], ["word", "number"], top 13, f_median_pass⟩
/-- settling -/
def t1_settling : T := (.val (.cmp .NotEq (.var 3) (.var 0)))
def l1_settling : Ss := (.cons (.setP [2, 0] (.cons (.bin .Add (.var 2) (.lit (.int 1))) (.cons (.var 3) .nil))) (.cons (.set 3 (.call 5 (.cons (.var 0) (.cons (.var 1) .nil)))) .nil))
def b_settling : Ss := (.cons (.setP [2, 3] (.cons (.lit (.int 0)) (.cons (.call 5 (.cons (.var 0) (.cons (.var 1) .nil))) .nil))) (.cons (.whl 1000000 t1_settling l1_settling) (.cons (.ret (.tup (.cons (.var 2) (.cons (.var 0) .nil)))) .nil)))
def f_settling : Fn := ⟨2, 4, b_settling⟩
def d_settling : DI := ⟨"settling", ["word", "number", "many", "later"], ["word", "number"], top 14, f_settling⟩
/-- passes -/
def b_passes : Ss := (.cons (.exp (.call 4 (.cons (.var 0) .nil))) (.cons (.exp (.call 2 (.cons (.var 1) .nil))) (.cons (.ret (.sub (.call 7 (.cons (.var 0) (.cons (.var 1) .nil))) (.lit (.int 0)))) .nil)))
def f_passes : Fn := ⟨2, 2, b_passes⟩
def d_passes : DI := ⟨"passes", ["word", "number"], ["word", "number"], top 15, f_passes⟩
/-- settled -/
def b_settled : Ss := (.cons (.exp (.call 4 (.cons (.var 0) .nil))) (.cons (.exp (.call 2 (.cons (.var 1) .nil))) (.cons (.ret (.sub (.call 7 (.cons (.var 0) (.cons (.var 1) .nil))) (.lit (.int 1)))) .nil)))
def f_settled : Fn := ⟨2, 2, b_settled⟩
def d_settled : DI := ⟨"settled", ["word", "number"], ["word", "number"], top 16, f_settled⟩
/-- runs_of -/
def l1_runs_of : Ss := (.cons (.ite (.or (.val (.cmp .Eq (.var 3) (.blt .len (.cons (.var 0) .nil)))) (.val (.cmp .NotEq (.sub (.var 0) (.var 3)) (.sub (.var 0) (.var 2))))) (.cons (.app 1 (.tup (.cons (.var 2) (.cons (.var 3) .nil)))) (.cons (.set 2 (.var 3)) .nil)) .nil) .nil)
def b_runs_of : Ss := (.cons (.setP [1, 2] (.cons (.lst .nil) (.cons (.lit (.int 0)) .nil))) (.cons (.for (.n 3) (.rng2 (.lit (.int 1)) (.bin .Add (.blt .len (.cons (.var 0) .nil)) (.lit (.int 1)))) l1_runs_of) (.cons (.ret (.var 1)) .nil)))
def f_runs_of : Fn := ⟨1, 4, b_runs_of⟩
def d_runs_of : DI := ⟨"runs_of", ["word", "found", "first", "i"], ["word"], top 17, f_runs_of⟩
/-- short_runs -/
def c1_short_runs : Ts := (.one (.val (.cmp .LtE (.bin .Sub (.var 3) (.var 2)) (.var 1))))
def e1_short_runs : E := .tup (.cons (.var 2) (.cons (.var 3) .nil))
def b_short_runs : Ss := (.cons (.ret (.lc (.t [2, 3]) [2, 3] (.seq (.slc (.call 10 (.cons (.var 0) .nil)) (.some (.lit (.int 1))) (.some (.neg (.lit (.int 1)))))) c1_short_runs e1_short_runs)) .nil)
def f_short_runs : Fn := ⟨2, 4, b_short_runs⟩
def d_short_runs : DI := ⟨"short_runs", ["word", "number", "first", "end"], ["word", "number"], top 18, f_short_runs⟩
/-- short_run -/
def l1_short_run : Ss := (.cons (.ret (.var 2)) .nil)
def b_short_run : Ss := (.cons (.exp (.call 4 (.cons (.var 0) .nil))) (.cons (.exp (.call 2 (.cons (.var 1) .nil))) (.cons (.for (.t [2, 3]) (.seq (.call 11 (.cons (.var 0) (.cons (.var 1) .nil)))) l1_short_run) (.cons (.ret (.lit .none)) .nil))))
def f_short_run : Fn := ⟨2, 4, b_short_run⟩
def d_short_run : DI := ⟨"short_run", ["word", "number", "first", "end"], ["word", "number"], top 19, f_short_run⟩
/-- without_short -/
def l1_without_short : Ss := (.cons (.put 3 (.var 6) (.bin .Sub (.lit (.int 1)) (.var 2))) .nil)
def l2_without_short : Ss := (.cons (.ite (.val (.cmp .Eq (.sub (.var 0) (.var 4)) (.var 2))) (.cons (.for (.n 6) (.rng2 (.var 4) (.var 5)) l1_without_short) .nil) .nil) .nil)
def b_without_short : Ss := (.cons (.set 3 (.blt .list (.cons (.var 0) .nil))) (.cons (.for (.t [4, 5]) (.seq (.call 11 (.cons (.var 0) (.cons (.var 1) .nil)))) l2_without_short) (.cons (.ret (.blt .tuple (.cons (.var 3) .nil))) .nil)))
def f_without_short : Fn := ⟨3, 7, b_without_short⟩
def d_without_short : DI := ⟨"without_short", ["word", "number", "bit", "found", "first", "end", "i"], ["word", "number", "bit"], top 20, f_without_short⟩
/-- opened_word -/
def b_opened_word : Ss := (.cons (.exp (.call 4 (.cons (.var 0) .nil))) (.cons (.exp (.call 2 (.cons (.var 1) .nil))) (.cons (.ret (.call 13 (.cons (.var 0) (.cons (.var 1) (.cons (.lit (.int 1)) .nil))))) .nil)))
def f_opened_word : Fn := ⟨2, 2, b_opened_word⟩
def d_opened_word : DI := ⟨"opened_word", ["word", "number"], ["word", "number"], top 21, f_opened_word⟩
/-- closed_word -/
def b_closed_word : Ss := (.cons (.exp (.call 4 (.cons (.var 0) .nil))) (.cons (.exp (.call 2 (.cons (.var 1) .nil))) (.cons (.ret (.call 13 (.cons (.var 0) (.cons (.var 1) (.cons (.lit (.int 0)) .nil))))) .nil)))
def f_closed_word : Fn := ⟨2, 2, b_closed_word⟩
def d_closed_word : DI := ⟨"closed_word", ["word", "number"], ["word", "number"], top 22, f_closed_word⟩
/-- _law_spring -/
def l1_law_spring : Ss := (.cons (.set 2 (.bin .Mod (.blt .int (.cons (.bin .Add (.bin .Add (.bin .Mult (.var 2) (.lit (.int 1000003))) (.bin .Mult (.blt .int (.cons (.var 3) .nil)) (.lit (.int 69069)))) (.lit (.int 12345))) .nil)) (.bin .Add (.bin .Pow (.lit (.int 10)) (.lit (.int 30))) (.lit (.int 57))))) .nil)
def b_law_spring : Ss := (.cons (.set 2 (.bin .Add (.bin .Add (.lit (.int 905969)) (.bin .Mult (.lit (.int 7001)) (.blt .len (.cons (.slc (.var 0) .none (.some (.lit (.int 63)))) .nil)))) (.bin .Mult (.lit (.int 15731)) (.var 1)))) (.cons (.for (.n 3) (.seq (.slc (.var 0) .none (.some (.lit (.int 63))))) l1_law_spring) (.cons (.set 4 (.ife (.val (.cmp .Lt (.var 1) (.blt .len (.cons (.var 0) .nil)))) (.blt .abs (.cons (.blt .int (.cons (.sub (.var 0) (.var 1)) .nil)) .nil)) (.lit (.int 0)))) (.cons (.ret (.lst (.cons (.blt .max (.cons (.lit (.int 0)) (.cons (.bin .Sub (.var 4) (.bin .Pow (.lit (.int 10)) (.lit (.int 18)))) .nil))) (.cons (.var 2) (.cons (.lit (.int 0)) .nil))))) .nil))))
def f_law_spring : Fn := ⟨2, 5, b_law_spring⟩
def d_law_spring : DI := ⟨"_law_spring", ["script", "at", "mixed", "cell", "own"], ["script", "at"], top 24, f_law_spring⟩
/-- _law_take -/
def b_law_take : Ss := (.cons (.ite (.val (.cmp .Gt (.sub (.var 0) (.lit (.int 0))) (.lit (.int 0)))) (.cons (.set 2 (.bin .Mod (.blt .int (.cons (.sub (.var 0) (.lit (.int 0))) .nil)) (.var 1))) (.cons (.put 0 (.lit (.int 0)) (.bin .FloorDiv (.sub (.var 0) (.lit (.int 0))) (.var 1))) (.cons (.ret (.var 2)) .nil))) .nil) (.cons (.put 0 (.lit (.int 2)) (.bin .Add (.sub (.var 0) (.lit (.int 2))) (.lit (.int 1)))) (.cons (.set 3 (.bin .Mod (.blt .int (.cons (.bin .Add (.bin .Pow (.bin .Add (.sub (.var 0) (.lit (.int 1))) (.bin .Mult (.lit (.int 6364136223)) (.sub (.var 0) (.lit (.int 2))))) (.lit (.int 2))) (.bin .Mult (.lit (.int 1442695041)) (.sub (.var 0) (.lit (.int 2))))) .nil)) (.bin .Add (.bin .Pow (.lit (.int 10)) (.lit (.int 28))) (.lit (.int 331))))) (.cons (.set 4 (.bin .Mod (.blt .int (.cons (.bin .Add (.bin .Mult (.var 3) (.var 3)) (.bin .Mult (.lit (.int 4050300157)) (.sub (.var 0) (.lit (.int 2))))) .nil)) (.bin .Add (.bin .Pow (.lit (.int 10)) (.lit (.int 26))) (.lit (.int 67))))) (.cons (.ret (.bin .Mod (.blt .int (.cons (.bin .FloorDiv (.var 4) (.bin .Pow (.lit (.int 10)) (.lit (.int 7)))) .nil)) (.var 1))) .nil)))))
def f_law_take : Fn := ⟨2, 5, b_law_take⟩
def d_law_take : DI := ⟨"_law_take", ["spring", "many", "digit", "one", "two"], ["spring", "many"], top 25, f_law_take⟩
/-- _law_pick -/
def b_law_pick : Ss := (.cons (.ret (.sub (.var 1) (.call 17 (.cons (.var 0) (.cons (.blt .len (.cons (.var 1) .nil)) .nil))))) .nil)
def f_law_pick : Fn := ⟨2, 2, b_law_pick⟩
def d_law_pick : DI := ⟨"_law_pick", ["spring", "things"], ["spring", "things"], top 26, f_law_pick⟩
/-- _law_same -/
def c1_law_same : Ts := (.one (.not (.tru (.call 19 (.cons (.sub (.var 0) (.var 2)) (.cons (.sub (.var 1) (.var 2)) .nil))))))
def e1_law_same : E := .var 2
def b_law_same : Ss := (.cons (.ite (.tru (.isi (.var 1) [.tup, .lst])) (.cons (.ite (.or (.val (.cmp .NotEq (.isi (.var 0) [.tup]) (.isi (.var 1) [.tup]))) (.or (.val (.cmp .NotEq (.isi (.var 0) [.lst]) (.isi (.var 1) [.lst]))) (.val (.cmp .NotEq (.blt .len (.cons (.var 0) .nil)) (.blt .len (.cons (.var 1) .nil)))))) (.cons (.ret (.lit (.bool false))) .nil) .nil) (.cons (.ret (.cmp .Eq (.lc (.n 2) [2] (.rng1 (.blt .len (.cons (.var 1) .nil))) c1_law_same e1_law_same) (.lst .nil))) .nil)) .nil) (.cons (.ite (.val (.isN false (.var 1))) (.cons (.ret (.isN false (.var 0))) .nil) .nil) (.cons (.ite (.or (.tru (.isi (.var 1) [.bool])) (.tru (.isi (.var 0) [.bool]))) (.cons (.ret (.andE (.isi (.var 1) [.bool]) (.andE (.isi (.var 0) [.bool]) (.cmp .Eq (.var 0) (.var 1))))) .nil) .nil) (.cons (.ite (.tru (.isi (.var 1) [.str])) (.cons (.ret (.andE (.isi (.var 0) [.str]) (.cmp .Eq (.var 0) (.var 1)))) .nil) .nil) (.cons (.ret (.andE (.isi (.var 0) [.int]) (.cmp .Eq (.var 0) (.var 1)))) .nil)))))
def f_law_same : Fn := ⟨2, 3, b_law_same⟩
def d_law_same : DI := ⟨"_law_same", ["found", "due", "k"], ["found", "due"], top 27, f_law_same⟩
/-- _law_word -/
def l1_law_word : Ss := (.cons (.ite (.or (.val (.cmp .Eq (.var 2) (.lst .nil))) (.val (.cmp .Eq (.call 17 (.cons (.var 0) (.cons (.var 3) .nil))) (.lit (.int 0))))) (.cons (.app 2 (.call 17 (.cons (.var 0) (.cons (.lit (.int 2)) .nil)))) .nil) (.cons (.app 2 (.sub (.var 2) (.neg (.lit (.int 1))))) .nil)) .nil)
def b_law_word : Ss := (.cons (.setP [2, 3] (.cons (.lst .nil) (.cons (.bin .Add (.lit (.int 2)) (.call 17 (.cons (.var 0) (.cons (.lit (.int 3)) .nil)))) .nil))) (.cons (.for (.n 4) (.rng1 (.var 1)) l1_law_word) (.cons (.ret (.blt .tuple (.cons (.var 2) .nil))) .nil)))
def f_law_word : Fn := ⟨2, 5, b_law_word⟩
def d_law_word : DI := ⟨"_law_word", ["spring", "many", "found", "odds", "turn"], ["spring", "many"], top 28, f_law_word⟩
/-- _law_pass -/
def e1_law_pass : E := .blt .int (.cons (.cmp .Gt (.blt .sum (.cons (.slc (.var 2) (.some (.var 3)) (.some (.bin .Add (.bin .Add (.var 3) (.bin .Mult (.lit (.int 2)) (.var 1))) (.lit (.int 1))))) .nil)) (.var 1)) .nil)
def b_law_pass : Ss := (.cons (.set 2 (.bin .Add (.bin .Add (.bin .Mult (.slc (.var 0) .none (.some (.lit (.int 1)))) (.var 1)) (.var 0)) (.bin .Mult (.slc (.var 0) (.some (.neg (.lit (.int 1)))) .none) (.var 1)))) (.cons (.ret (.blt .tuple (.cons (.lc (.n 3) [3] (.rng1 (.blt .len (.cons (.var 0) .nil))) .nil e1_law_pass) .nil))) .nil))
def f_law_pass : Fn := ⟨2, 4, b_law_pass⟩
def d_law_pass : DI := ⟨"_law_pass", ["word", "number", "wide", "k"], ["word", "number"], top 29, f_law_pass⟩
/-- _law_runs -/
def l1_law_runs : Ss := (.cons (.ite (.and (.val (.cmp .Gt (.var 2) (.lit (.int 0)))) (.val (.cmp .Eq (.sub (.var 0) (.var 2)) (.sub (.var 0) (.bin .Sub (.var 2) (.lit (.int 1))))))) (.cons (.put 1 (.neg (.lit (.int 1))) (.tup (.cons (.sub (.sub (.var 1) (.neg (.lit (.int 1)))) (.lit (.int 0))) (.cons (.bin .Add (.sub (.sub (.var 1) (.neg (.lit (.int 1)))) (.lit (.int 1))) (.lit (.int 1))) .nil)))) .nil) (.cons (.app 1 (.tup (.cons (.var 2) (.cons (.lit (.int 1)) .nil)))) .nil)) .nil)
def b_law_runs : Ss := (.cons (.set 1 (.lst .nil)) (.cons (.for (.n 2) (.rng1 (.blt .len (.cons (.var 0) .nil))) l1_law_runs) (.cons (.ret (.var 1)) .nil)))
def f_law_runs : Fn := ⟨1, 3, b_law_runs⟩
def d_law_runs : DI := ⟨"_law_runs", ["word", "found", "k"], ["word"], top 30, f_law_runs⟩
/-- _law_settled -/
def l1_law_settled : Ss := (.cons (.set 3 (.call 21 (.cons (.var 0) (.cons (.var 1) .nil)))) (.cons (.ite (.val (.cmp .Eq (.var 3) (.var 0))) (.cons (.ret (.tup (.cons (.var 2) (.cons (.var 0) .nil)))) .nil) .nil) (.cons (.set 0 (.var 3)) .nil)))
def b_law_settled : Ss := (.cons (.for (.n 2) (.rng1 (.bin .Add (.blt .len (.cons (.var 0) .nil)) (.lit (.int 1)))) l1_law_settled) (.cons (.ret (.tup (.cons (.neg (.lit (.int 1))) (.cons (.var 0) .nil)))) .nil))
def f_law_settled : Fn := ⟨2, 4, b_law_settled⟩
def d_law_settled : DI := ⟨"_law_settled", ["word", "number", "turn", "later"], ["word", "number"], top 31, f_law_settled⟩
/-- _law_short -/
def c1_law_short : Ts := (.one (.val (.cmp .LtE (.sub (.var 2) (.lit (.int 1))) (.var 1))))
def e1_law_short : E := .var 2
def b_law_short : Ss := (.cons (.ret (.lc (.n 2) [2] (.seq (.slc (.call 22 (.cons (.var 0) .nil)) (.some (.lit (.int 1))) (.some (.neg (.lit (.int 1)))))) c1_law_short e1_law_short)) .nil)
def f_law_short : Fn := ⟨2, 3, b_law_short⟩
def d_law_short : DI := ⟨"_law_short", ["word", "number", "run"], ["word", "number"], top 32, f_law_short⟩
/-- _law_without -/
def l1_law_without : Ss := (.cons (.put 3 (.var 6) (.ife (.val (.cmp .Eq (.sub (.var 0) (.var 4)) (.var 2))) (.bin .Sub (.lit (.int 1)) (.var 2)) (.sub (.var 3) (.var 6)))) .nil)
def l2_law_without : Ss := (.cons (.for (.n 6) (.rng2 (.var 4) (.bin .Add (.var 4) (.var 5))) l1_law_without) .nil)
def b_law_without : Ss := (.cons (.set 3 (.blt .list (.cons (.var 0) .nil))) (.cons (.for (.t [4, 5]) (.seq (.call 24 (.cons (.var 0) (.cons (.var 1) .nil)))) l2_law_without) (.cons (.ret (.blt .tuple (.cons (.var 3) .nil))) .nil)))
def f_law_without : Fn := ⟨3, 7, b_law_without⟩
def d_law_without : DI := ⟨"_law_without", ["word", "number", "bit", "found", "first", "many", "k"], ["word", "number", "bit"], top 33, f_law_without⟩
/-- _law_word_right -/
def e1_law_word_right : E := .bin .Sub (.lit (.int 1)) (.var 9)
def e2_law_word_right : E := .bin .Sub (.lit (.int 1)) (.var 9)
def e3_law_word_right : E := .bin .Sub (.lit (.int 1)) (.var 9)
def b_law_word_right : Ss := (.cons (.setT [2, 3] (.call 23 (.cons (.var 0) (.cons (.var 1) .nil)))) (.cons (.set 4 (.call 24 (.cons (.var 0) (.cons (.var 1) .nil)))) (.cons (.set 5 (.ife (.val (.cmp .Eq (.var 4) (.lst .nil))) (.lit .none) (.sub (.sub (.var 4) (.lit (.int 0))) (.lit (.int 0))))) (.cons (.set 6 (.lst (.cons (.call 21 (.cons (.var 0) (.cons (.var 1) .nil))) (.cons (.var 2) (.cons (.var 3) (.cons (.var 5) (.cons (.call 25 (.cons (.var 0) (.cons (.var 1) (.cons (.lit (.int 1)) .nil)))) (.cons (.call 25 (.cons (.var 0) (.cons (.var 1) (.cons (.lit (.int 0)) .nil)))) .nil)))))))) (.cons (.set 7 (.lst (.cons (.call 6 (.cons (.var 0) (.cons (.var 1) .nil))) (.cons (.call 8 (.cons (.var 0) (.cons (.var 1) .nil))) (.cons (.call 9 (.cons (.var 0) (.cons (.var 1) .nil))) (.cons (.call 12 (.cons (.var 0) (.cons (.var 1) .nil))) (.cons (.call 14 (.cons (.var 0) (.cons (.var 1) .nil))) (.cons (.call 15 (.cons (.var 0) (.cons (.var 1) .nil))) .nil)))))))) (.cons (.ite (.not (.tru (.call 19 (.cons (.var 7) (.cons (.var 6) .nil))))) (.cons (.ret (.lit (.bool false))) .nil) .nil) (.cons (.set 7 (.lst (.cons (.calk 6 .nil (.cons (.var 1) (.cons (.var 0) .nil)) [1, 0]) (.cons (.calk 8 .nil (.cons (.var 1) (.cons (.var 0) .nil)) [1, 0]) (.cons (.calk 9 .nil (.cons (.var 1) (.cons (.var 0) .nil)) [1, 0]) (.cons (.calk 12 .nil (.cons (.var 1) (.cons (.var 0) .nil)) [1, 0]) .nil)))))) (.cons (.ite (.not (.tru (.call 19 (.cons (.bin .Add (.var 7) (.lst (.cons (.calk 14 .nil (.cons (.var 1) (.cons (.var 0) .nil)) [1, 0]) (.cons (.calk 15 .nil (.cons (.var 1) (.cons (.var 0) .nil)) [1, 0]) .nil)))) (.cons (.var 6) .nil))))) (.cons (.ret (.lit (.bool false))) .nil) .nil) (.cons (.set 8 (.blt .tuple (.cons (.lc (.n 9) [9] (.seq (.var 0)) .nil e3_law_word_right) .nil))) (.cons (.ret (.call 19 (.cons (.lst (.cons (.call 6 (.cons (.var 8) (.cons (.var 1) .nil))) (.cons (.call 14 (.cons (.var 8) (.cons (.var 1) .nil))) .nil))) (.cons (.lst (.cons (.blt .tuple (.cons (.lc (.n 9) [9] (.seq (.sub (.var 6) (.lit (.int 0)))) .nil e2_law_word_right) .nil)) (.cons (.blt .tuple (.cons (.lc (.n 9) [9] (.seq (.sub (.var 6) (.lit (.int 5)))) .nil e1_law_word_right) .nil)) .nil))) .nil)))) .nil))))))))))
def f_law_word_right : Fn := ⟨2, 10, b_law_word_right⟩
def d_law_word_right : DI := ⟨"_law_word_right", ["word", "number", "many", "last", "short", "first", "due", "told", "turned", "bit"], ["word", "number"], top 34, f_law_word_right⟩
/-- _law_error -/
def b_law_error : Ss := (.cons (.set 3 (.lit (.str ""))) (.cons (.tri (.cons (.ite (.val (.cmp .Eq (.var 0) (.lit (.int 0)))) (.cons (.exp (.call 6 (.cons (.var 1) (.cons (.var 2) .nil)))) .nil) (.cons (.ite (.val (.cmp .Eq (.var 0) (.lit (.int 1)))) (.cons (.exp (.call 8 (.cons (.var 1) (.cons (.var 2) .nil)))) .nil) (.cons (.ite (.val (.cmp .Eq (.var 0) (.lit (.int 2)))) (.cons (.exp (.call 9 (.cons (.var 1) (.cons (.var 2) .nil)))) .nil) (.cons (.ite (.val (.cmp .Eq (.var 0) (.lit (.int 3)))) (.cons (.exp (.call 12 (.cons (.var 1) (.cons (.var 2) .nil)))) .nil) (.cons (.ite (.val (.cmp .Eq (.var 0) (.lit (.int 4)))) (.cons (.exp (.call 14 (.cons (.var 1) (.cons (.var 2) .nil)))) .nil) (.cons (.exp (.call 15 (.cons (.var 1) (.cons (.var 2) .nil)))) .nil)) .nil)) .nil)) .nil)) .nil)) .nil) (.cons 2 none (.cons (.set 3 (.lit (.str "word"))) .nil) (.cons 1 none (.cons (.set 3 (.lit (.str "number"))) .nil) .nil))) (.cons (.ret (.var 3)) .nil)))
def f_law_error : Fn := ⟨3, 4, b_law_error⟩
def d_law_error : DI := ⟨"_law_error", ["which", "word", "number", "error"], ["which", "word", "number"], top 35, f_law_error⟩
/-- law -/
def l1_law : Ss := (.cons (.ite (.val (.cmp .NotEq (.lst (.cons (.call 27 (.cons (.var 11) (.cons (.var 9) (.cons (.var 10) .nil)))) (.cons (.call 27 (.cons (.var 11) (.cons (.var 9) (.cons (.lit (.int 1)) .nil)))) (.cons (.call 27 (.cons (.var 11) (.cons (.var 3) (.cons (.var 10) .nil)))) (.cons (.call 27 (.cons (.var 11) (.cons (.var 3) (.cons (.var 4) .nil)))) .nil))))) (.lst (.cons (.lit (.str "word")) (.cons (.lit (.str "word")) (.cons (.lit (.str "number")) (.cons (.lit (.str "")) .nil))))))) (.cons (.ret (.lit (.bool false))) .nil) .nil) .nil)
def l2_law : Ss := (.cons (.ite (.or (.not (.tru (.call 26 (.cons (.var 8) (.cons (.var 4) .nil))))) (.or (.not (.tru (.call 26 (.cons (.var 8) (.cons (.call 17 (.cons (.var 2) (.cons (.lit (.int 13)) .nil))) .nil))))) (.not (.tru (.call 19 (.cons (.call 6 (.cons (.var 8) (.cons (.lit (.int 0)) .nil))) (.cons (.var 8) .nil))))))) (.cons (.ret (.lit (.bool false))) .nil) .nil) .nil)
def e1_law : E := .bin .Mod (.blt .int (.cons (.bin .Add (.var 5) (.var 7)) .nil)) (.lit (.int 2))
def l3_law : Ss := (.cons (.set 2 (.call 16 (.cons (.var 0) (.cons (.var 1) .nil)))) (.cons (.setP [3, 4] (.cons (.call 20 (.cons (.var 2) (.cons (.bin .Add (.lit (.int 1)) (.call 17 (.cons (.var 2) (.cons (.lit (.int 24)) .nil)))) .nil))) (.cons (.call 17 (.cons (.var 2) (.cons (.lit (.int 5)) .nil))) .nil))) (.cons (.set 5 (.call 17 (.cons (.var 2) (.cons (.lit (.int 2)) .nil)))) (.cons (.set 6 (.bin .Add (.blt .tuple (.cons (.lc (.n 7) [7] (.rng1 (.bin .Add (.lit (.int 1)) (.call 17 (.cons (.var 2) (.cons (.lit (.int 12)) .nil))))) .nil e1_law) .nil)) (.slc (.var 3) .none (.some (.lit (.int 12)))))) (.cons (.for (.n 8) (.seq (.tup (.cons (.var 3) (.cons (.var 6) (.cons (.slc (.var 3) .none (.some (.bin .Add (.lit (.int 1)) (.call 17 (.cons (.var 2) (.cons (.lit (.int 3)) .nil)))))) .nil))))) l2_law) (.cons (.set 9 (.call 18 (.cons (.var 2) (.cons (.lst (.cons (.lit .none) (.cons (.tup .nil) (.cons (.lst (.cons (.lit (.int 0)) (.cons (.lit (.int 1)) .nil))) (.cons (.tup (.cons (.lit (.int 0)) (.cons (.lit (.int 2)) .nil))) (.cons (.tup (.cons (.lit (.bool true)) .nil)) (.cons (.lit (.str "01")) (.cons (.lit (.int 0)) (.cons (.tup (.cons (.lit .none) .nil)) .nil))))))))) .nil)))) (.cons (.set 10 (.call 18 (.cons (.var 2) (.cons (.lst (.cons (.lit .none) (.cons (.neg (.lit (.int 1))) (.cons (.lit (.bool true)) (.cons (.lit (.str "1")) (.cons (.tup (.cons (.lit (.int 1)) .nil)) .nil)))))) .nil)))) (.cons (.for (.n 11) (.rng1 (.lit (.int 6))) l1_law) .nil))))))))
def b_law : Ss := (.cons (.for (.n 1) (.rng1 (.blt .max (.cons (.lit (.int 2)) (.cons (.blt .min (.cons (.lit (.int 8)) (.cons (.blt .len (.cons (.var 0) .nil)) .nil))) .nil)))) l3_law) (.cons (.set 12 (.lst (.cons (.call 6 (.cons (.tup (.cons (.lit (.int 0)) (.cons (.lit (.int 1)) (.cons (.lit (.int 0)) (.cons (.lit (.int 1)) (.cons (.lit (.int 1)) (.cons (.lit (.int 0)) (.cons (.lit (.int 0)) .nil)))))))) (.cons (.lit (.int 1)) .nil))) (.cons (.call 8 (.cons (.tup (.cons (.lit (.int 0)) (.cons (.lit (.int 1)) (.cons (.lit (.int 0)) (.cons (.lit (.int 1)) (.cons (.lit (.int 1)) (.cons (.lit (.int 0)) (.cons (.lit (.int 0)) .nil)))))))) (.cons (.lit (.int 1)) .nil))) (.cons (.call 12 (.cons (.tup (.cons (.lit (.int 0)) (.cons (.lit (.int 1)) (.cons (.lit (.int 0)) (.cons (.lit (.int 1)) (.cons (.lit (.int 1)) (.cons (.lit (.int 0)) (.cons (.lit (.int 0)) .nil)))))))) (.cons (.lit (.int 1)) .nil))) (.cons (.call 9 (.cons (.tup (.cons (.lit (.int 0)) (.cons (.lit (.int 1)) (.cons (.lit (.int 0)) .nil)))) (.cons (.lit (.int 1)) .nil))) (.cons (.call 15 (.cons (.tup (.cons (.lit (.int 0)) (.cons (.lit (.int 1)) (.cons (.lit (.int 0)) (.cons (.lit (.int 1)) (.cons (.lit (.int 1)) (.cons (.lit (.int 0)) (.cons (.lit (.int 0)) .nil)))))))) (.cons (.lit (.int 1)) .nil))) .nil))))))) (.cons (.ret (.call 19 (.cons (.var 12) (.cons (.lst (.cons (.tup (.cons (.lit (.int 0)) (.cons (.lit (.int 0)) (.cons (.lit (.int 1)) (.cons (.lit (.int 1)) (.cons (.lit (.int 1)) (.cons (.lit (.int 0)) (.cons (.lit (.int 0)) .nil)))))))) (.cons (.lit (.int 1)) (.cons (.lit (.int 1)) (.cons (.tup (.cons (.lit (.int 0)) (.cons (.lit (.int 0)) (.cons (.lit (.int 0)) .nil)))) (.cons (.tup (.cons (.lit (.int 0)) (.cons (.lit (.int 1)) (.cons (.lit (.int 1)) (.cons (.lit (.int 1)) (.cons (.lit (.int 1)) (.cons (.lit (.int 0)) (.cons (.lit (.int 0)) .nil)))))))) .nil)))))) .nil)))) .nil)))
def f_law : Fn := ⟨1, 13, b_law⟩
def d_law : DI := ⟨"law", ["script", "at", "spring", "word", "number", "first", "woven", "k", "one", "bad", "odd", "which", "told"], ["script"], top 36, f_law⟩
def ds : List DI := [d_integer_stands, d_bit_stands, d_need_number, d_word_stands, d_need_full_word, d_passed, d_median_pass, d_settling, d_passes, d_settled, d_runs_of, d_short_runs, d_short_run, d_without_short, d_opened_word, d_closed_word, d_law_spring, d_law_take, d_law_pick, d_law_same, d_law_word, d_law_pass, d_law_runs, d_law_settled, d_law_short, d_law_without, d_law_word_right, d_law_error, d_law]
def tb : Tb := ⟨[("integer_stands", 1), ("bit_stands", 1), ("need_number", 1), ("word_stands", 1), ("need_full_word", 1), ("passed", 2), ("median_pass", 2), ("settling", 2), ("passes", 2), ("settled", 2), ("runs_of", 1), ("short_runs", 2), ("short_run", 2), ("without_short", 3), ("opened_word", 2), ("closed_word", 2), ("_law_spring", 2), ("_law_take", 2), ("_law_pick", 2), ("_law_same", 2), ("_law_word", 2), ("_law_pass", 2), ("_law_runs", 1), ("_law_settled", 2), ("_law_short", 2), ("_law_without", 3), ("_law_word_right", 2), ("_law_error", 3), ("law", 1)], [(15, 0, ["number", "word"], [1, 0]), (14, 0, ["number", "word"], [1, 0]), (12, 0, ["number", "word"], [1, 0]), (9, 0, ["number", "word"], [1, 0]), (8, 0, ["number", "word"], [1, 0]), (6, 0, ["number", "word"], [1, 0])], [], ["PictureError", "InvalidNumber", "InvalidWord"], [0, 1, 2]⟩
theorem bn_integer_stands : BindP (top 5) "integer_stands" ["value"] := fun _ _ _ _ _ _ us hl => match us, hl with | [_], _ => rfl
theorem bn_bit_stands : BindP (top 6) "bit_stands" ["value"] := fun _ _ _ _ _ _ us hl => match us, hl with | [_], _ => rfl
theorem bn_need_number : BindP (top 7) "need_number" ["number"] := fun _ _ _ _ _ _ us hl => match us, hl with | [_], _ => rfl
theorem bn_word_stands : BindP (top 9) "word_stands" ["value"] := fun _ _ _ _ _ _ us hl => match us, hl with | [_], _ => rfl
theorem bn_need_full_word : BindP (top 10) "need_full_word" ["word"] := fun _ _ _ _ _ _ us hl => match us, hl with | [_], _ => rfl
theorem bn_passed : BindP (top 12) "passed" ["word", "number"] := fun _ _ _ _ _ _ us hl => match us, hl with | [_, _], _ => rfl
theorem bn_median_pass : BindP (top 13) "median_pass" ["word", "number"] := fun _ _ _ _ _ _ us hl => match us, hl with | [_, _], _ => rfl
theorem bn_settling : BindP (top 14) "settling" ["word", "number"] := fun _ _ _ _ _ _ us hl => match us, hl with | [_, _], _ => rfl
theorem bn_passes : BindP (top 15) "passes" ["word", "number"] := fun _ _ _ _ _ _ us hl => match us, hl with | [_, _], _ => rfl
theorem bn_settled : BindP (top 16) "settled" ["word", "number"] := fun _ _ _ _ _ _ us hl => match us, hl with | [_, _], _ => rfl
theorem bn_runs_of : BindP (top 17) "runs_of" ["word"] := fun _ _ _ _ _ _ us hl => match us, hl with | [_], _ => rfl
theorem bn_short_runs : BindP (top 18) "short_runs" ["word", "number"] := fun _ _ _ _ _ _ us hl => match us, hl with | [_, _], _ => rfl
theorem bn_short_run : BindP (top 19) "short_run" ["word", "number"] := fun _ _ _ _ _ _ us hl => match us, hl with | [_, _], _ => rfl
theorem bn_without_short : BindP (top 20) "without_short" ["word", "number", "bit"] := fun _ _ _ _ _ _ us hl => match us, hl with | [_, _, _], _ => rfl
theorem bn_opened_word : BindP (top 21) "opened_word" ["word", "number"] := fun _ _ _ _ _ _ us hl => match us, hl with | [_, _], _ => rfl
theorem bn_closed_word : BindP (top 22) "closed_word" ["word", "number"] := fun _ _ _ _ _ _ us hl => match us, hl with | [_, _], _ => rfl
theorem bn_law_spring : BindP (top 24) "_law_spring" ["script", "at"] := fun _ _ _ _ _ _ us hl => match us, hl with | [_, _], _ => rfl
theorem bn_law_take : BindP (top 25) "_law_take" ["spring", "many"] := fun _ _ _ _ _ _ us hl => match us, hl with | [_, _], _ => rfl
theorem bn_law_pick : BindP (top 26) "_law_pick" ["spring", "things"] := fun _ _ _ _ _ _ us hl => match us, hl with | [_, _], _ => rfl
theorem bn_law_same : BindP (top 27) "_law_same" ["found", "due"] := fun _ _ _ _ _ _ us hl => match us, hl with | [_, _], _ => rfl
theorem bn_law_word : BindP (top 28) "_law_word" ["spring", "many"] := fun _ _ _ _ _ _ us hl => match us, hl with | [_, _], _ => rfl
theorem bn_law_pass : BindP (top 29) "_law_pass" ["word", "number"] := fun _ _ _ _ _ _ us hl => match us, hl with | [_, _], _ => rfl
theorem bn_law_runs : BindP (top 30) "_law_runs" ["word"] := fun _ _ _ _ _ _ us hl => match us, hl with | [_], _ => rfl
theorem bn_law_settled : BindP (top 31) "_law_settled" ["word", "number"] := fun _ _ _ _ _ _ us hl => match us, hl with | [_, _], _ => rfl
theorem bn_law_short : BindP (top 32) "_law_short" ["word", "number"] := fun _ _ _ _ _ _ us hl => match us, hl with | [_, _], _ => rfl
theorem bn_law_without : BindP (top 33) "_law_without" ["word", "number", "bit"] := fun _ _ _ _ _ _ us hl => match us, hl with | [_, _, _], _ => rfl
theorem bn_law_word_right : BindP (top 34) "_law_word_right" ["word", "number"] := fun _ _ _ _ _ _ us hl => match us, hl with | [_, _], _ => rfl
theorem bn_law_error : BindP (top 35) "_law_error" ["which", "word", "number"] := fun _ _ _ _ _ _ us hl => match us, hl with | [_, _, _], _ => rfl
theorem bn_law : BindP (top 36) "law" ["script"] := fun _ _ _ _ _ _ us hl => match us, hl with | [_], _ => rfl
theorem kw_0 : KwP (top 22) "closed_word" ["word", "number"] 0 ["number", "word"] [1, 0] := fun _ _ _ _ _ _ us ws h1 h2 => match us, ws, h1, h2 with | [], [_, _], _, _ => rfl
theorem kw_1 : KwP (top 21) "opened_word" ["word", "number"] 0 ["number", "word"] [1, 0] := fun _ _ _ _ _ _ us ws h1 h2 => match us, ws, h1, h2 with | [], [_, _], _, _ => rfl
theorem kw_2 : KwP (top 19) "short_run" ["word", "number"] 0 ["number", "word"] [1, 0] := fun _ _ _ _ _ _ us ws h1 h2 => match us, ws, h1, h2 with | [], [_, _], _, _ => rfl
theorem kw_3 : KwP (top 16) "settled" ["word", "number"] 0 ["number", "word"] [1, 0] := fun _ _ _ _ _ _ us ws h1 h2 => match us, ws, h1, h2 with | [], [_, _], _, _ => rfl
theorem kw_4 : KwP (top 15) "passes" ["word", "number"] 0 ["number", "word"] [1, 0] := fun _ _ _ _ _ _ us ws h1 h2 => match us, ws, h1, h2 with | [], [_, _], _, _ => rfl
theorem kw_5 : KwP (top 13) "median_pass" ["word", "number"] 0 ["number", "word"] [1, 0] := fun _ _ _ _ _ _ us ws h1 h2 => match us, ws, h1, h2 with | [], [_, _], _, _ => rfl
def binds : All (fun d => BindP d.stm d.name d.ps) ds := .cons bn_integer_stands <| .cons bn_bit_stands <| .cons bn_need_number <| .cons bn_word_stands <| .cons bn_need_full_word <| .cons bn_passed <| .cons bn_median_pass <| .cons bn_settling <| .cons bn_passes <| .cons bn_settled <| .cons bn_runs_of <| .cons bn_short_runs <| .cons bn_short_run <| .cons bn_without_short <| .cons bn_opened_word <| .cons bn_closed_word <| .cons bn_law_spring <| .cons bn_law_take <| .cons bn_law_pick <| .cons bn_law_same <| .cons bn_law_word <| .cons bn_law_pass <| .cons bn_law_runs <| .cons bn_law_settled <| .cons bn_law_short <| .cons bn_law_without <| .cons bn_law_word_right <| .cons bn_law_error <| .cons bn_law <| .nil
theorem kwok : All (fun (q : Nat × Nat × List Str × List Nat) => ∀ d, ds[q.1]? = some d → KwP d.stm d.name d.ps q.2.1 q.2.2.1 q.2.2.2) tb.kws := .cons (fun d h => by cases h; exact kw_0) <| .cons (fun d h => by cases h; exact kw_1) <| .cons (fun d h => by cases h; exact kw_2) <| .cons (fun d h => by cases h; exact kw_3) <| .cons (fun d h => by cases h; exact kw_4) <| .cons (fun d h => by cases h; exact kw_5) <| .nil
/-- what each def does, by the next lower calls -/
structure Sem (G : Nat → Option Di.D) (F : Nat → Calls) : Prop where
  integer_stands : ∀ k as le, F (k+1) 0 as le = runFn G (F k) f_integer_stands as le
  bit_stands : ∀ k as le, F (k+1) 1 as le = runFn G (F k) f_bit_stands as le
  need_number : ∀ k as le, F (k+1) 2 as le = runFn G (F k) f_need_number as le
  word_stands : ∀ k as le, F (k+1) 3 as le = runFn G (F k) f_word_stands as le
  need_full_word : ∀ k as le, F (k+1) 4 as le = runFn G (F k) f_need_full_word as le
  passed : ∀ k as le, F (k+1) 5 as le = runFn G (F k) f_passed as le
  median_pass : ∀ k as le, F (k+1) 6 as le = runFn G (F k) f_median_pass as le
  settling : ∀ k as le, F (k+1) 7 as le = runFn G (F k) f_settling as le
  passes : ∀ k as le, F (k+1) 8 as le = runFn G (F k) f_passes as le
  settled : ∀ k as le, F (k+1) 9 as le = runFn G (F k) f_settled as le
  runs_of : ∀ k as le, F (k+1) 10 as le = runFn G (F k) f_runs_of as le
  short_runs : ∀ k as le, F (k+1) 11 as le = runFn G (F k) f_short_runs as le
  short_run : ∀ k as le, F (k+1) 12 as le = runFn G (F k) f_short_run as le
  without_short : ∀ k as le, F (k+1) 13 as le = runFn G (F k) f_without_short as le
  opened_word : ∀ k as le, F (k+1) 14 as le = runFn G (F k) f_opened_word as le
  closed_word : ∀ k as le, F (k+1) 15 as le = runFn G (F k) f_closed_word as le
  law_spring : ∀ k as le, F (k+1) 16 as le = runFn G (F k) f_law_spring as le
  law_take : ∀ k as le, F (k+1) 17 as le = runFn G (F k) f_law_take as le
  law_pick : ∀ k as le, F (k+1) 18 as le = runFn G (F k) f_law_pick as le
  law_same : ∀ k as le, F (k+1) 19 as le = runFn G (F k) f_law_same as le
  law_word : ∀ k as le, F (k+1) 20 as le = runFn G (F k) f_law_word as le
  law_pass : ∀ k as le, F (k+1) 21 as le = runFn G (F k) f_law_pass as le
  law_runs : ∀ k as le, F (k+1) 22 as le = runFn G (F k) f_law_runs as le
  law_settled : ∀ k as le, F (k+1) 23 as le = runFn G (F k) f_law_settled as le
  law_short : ∀ k as le, F (k+1) 24 as le = runFn G (F k) f_law_short as le
  law_without : ∀ k as le, F (k+1) 25 as le = runFn G (F k) f_law_without as le
  law_word_right : ∀ k as le, F (k+1) 26 as le = runFn G (F k) f_law_word_right as le
  law_error : ∀ k as le, F (k+1) 27 as le = runFn G (F k) f_law_error as le
  law : ∀ k as le, F (k+1) 28 as le = runFn G (F k) f_law as le
theorem sem (G : Nat → Option Di.D) : Sem G (rn (progOf ds G)) := ⟨fun _ as le => rn_succ rfl as le, fun _ as le => rn_succ rfl as le, fun _ as le => rn_succ rfl as le, fun _ as le => rn_succ rfl as le, fun _ as le => rn_succ rfl as le, fun _ as le => rn_succ rfl as le, fun _ as le => rn_succ rfl as le, fun _ as le => rn_succ rfl as le, fun _ as le => rn_succ rfl as le, fun _ as le => rn_succ rfl as le, fun _ as le => rn_succ rfl as le, fun _ as le => rn_succ rfl as le, fun _ as le => rn_succ rfl as le, fun _ as le => rn_succ rfl as le, fun _ as le => rn_succ rfl as le, fun _ as le => rn_succ rfl as le, fun _ as le => rn_succ rfl as le, fun _ as le => rn_succ rfl as le, fun _ as le => rn_succ rfl as le, fun _ as le => rn_succ rfl as le, fun _ as le => rn_succ rfl as le, fun _ as le => rn_succ rfl as le, fun _ as le => rn_succ rfl as le, fun _ as le => rn_succ rfl as le, fun _ as le => rn_succ rfl as le, fun _ as le => rn_succ rfl as le, fun _ as le => rn_succ rfl as le, fun _ as le => rn_succ rfl as le, fun _ as le => rn_succ rfl as le⟩
end Law
namespace Law
open PySem PySem.Spec PyProof.Rows L2 Di
theorem chk : ds.all (DI.chk tb) = true := by decide +kernel
theorem tb_ok : tb.fns = ds.map fun (d : DI) => (d.name, d.ps.length) := by decide +kernel
end Law
namespace Law
open PySem Di
def glo : Nat → Option Di.D := fun _ => none
end Law
namespace Law
open PySem Di
def bits (w : List Int) : Prop := ∀ b ∈ w, 0 ≤ b ∧ b ≤ 1
abbrev tupI (w : List Int) : Di.D := .tuple (w.map .int)
abbrev rrD (o s c : Int) : Di.D := .tuple [.int o, .int s, .int c]
structure RR (o s c : Int) : Prop where
  s1 : 1 ≤ s
  s4 : s ≤ 4
  c0 : 0 ≤ c
  cl : bitLen c ≤ 2 ^ s.toNat
def nob : List Int → Int
  | [] => 0
  | b :: w => b + 2 * nob w
theorem nob_snoc : ∀ (w : List Int) (b : Int), nob (w ++ [b]) = nob w + b * 2 ^ w.length
  | [], b => by simp [nob]
  | a :: w, b => by
    rw [List.cons_append, nob, nob, nob_snoc w b, List.length_cons, Int.pow_succ, Int.mul_add, Int.mul_left_comm 2 b, Int.mul_comm (2 ^ w.length) 2, Int.add_assoc]
def told (c : Int) (w : List Int) : Int := (c / 2 ^ (nob w).toNat) % 2
theorem nob_nn : ∀ (w : List Int), bits w → 0 ≤ nob w ∧ nob w < 2 ^ w.length
  | [], _ => by simp [nob]
  | b :: w, h => by
    have hb := h b (List.mem_cons_self ..)
    obtain ⟨h1, h2⟩ := nob_nn w fun c hc => h c (List.mem_cons_of_mem _ hc)
    rw [nob, List.length_cons, Int.pow_succ]
    omega
theorem and1 (i : Int) : Builtin.bitAnd i 1 = i % 2 := PySem.W.kbt_mask i 1
theorem appD_ok (xs : List Di.D) (d : Di.D) (h : xs.length < 16777216) : appD d (.lst xs) = some (.lst (xs ++ [d])) := if_pos h
def tabl (c : Int) (n : Nat) : List Int := (List.range n).map fun t => (c / 2 ^ t) % 2
theorem sub3_0 (a b c : Di.D) : dSub (.m (.lst [a, b, c])) (.v (.int 0)) = some (R.v a) := by rfl
theorem sub3_1 (a b c : Di.D) : dSub (.m (.lst [a, b, c])) (.v (.int 1)) = some (R.v b) := by rfl
theorem sub3_2 (a b c : Di.D) : dSub (.m (.lst [a, b, c])) (.v (.int 2)) = some (R.v c) := by rfl
theorem put3_0 (a b c d : Di.D) : putM 0 d (.lst [a, b, c]) = some (.lst [d, b, c]) := by rfl
theorem put3_2 (a b c d : Di.D) : putM 2 d (.lst [a, b, c]) = some (.lst [a, b, d]) := by rfl
structure Spr (C : Nat) (m : M) (a b c : Int) : Prop where
  eq : m = .lst [.int a, .int b, .int c]
  a0 : 0 ≤ a
  b0 : 0 ≤ b
  b1 : b < 10 ^ 30 + 57
  c0 : 0 ≤ c
  c1 : c ≤ C
theorem tabl_told (c : Int) (w : List Int) (h : bits w) (hw : w.length ≤ 4) :
    dSub (.m (.lst ((tabl c 16).map .int))) (.v (.int (nob w))) = some (.v (.int (told c w))) := by
  obtain ⟨h1, h2⟩ := nob_nn w h
  have h3 : (2:Int) ^ w.length ≤ 2 ^ 4 := by exact_mod_cast Nat.pow_le_pow_right (by decide : 2 > 0) hw
  have h4 : (nob w).toNat < 16 := by omega
  have e : nob w = ((nob w).toNat : Int) := by omega
  rw [e]
  refine dSub_m (j := (nob w).toNat) (ixD_nat (by simp [tabl]; omega)) ?_
  simp [tabl, told, h4, h1]
/-- an argument that is the data d -/
inductive Arg (le : List M) : Sl → Di.D → Prop
  | v (d : Di.D) : Arg le (.v d) d
  | m (xs : List Di.D) : Arg le (.m (.lst xs)) (.list xs)
  | l (j : Nat) (xs : List Di.D) : le[j]? = some (.lst xs) → Arg le (.l j) (.list xs)
mutual
def flat : Nat → Di.D → Bool
  | _, .none => true
  | _, .bool _ => true
  | _, .int _ => true
  | _, .str x => PyData.canLay0 (.str x)
  | 0, .list _ => false
  | 0, .tuple _ => false
  | n + 1, .list xs => decide (xs.length ≤ LINE) && flatAll n xs
  | n + 1, .tuple xs => decide (xs.length ≤ LINE) && flatAll n xs
  | _, .dict _ => false
def flatAll : Nat → List Di.D → Bool
  | _, [] => true
  | n, x :: xs => flat n x && flatAll n xs
end
theorem flatAll_at {n : Nat} : ∀ {xs : List Di.D} {i : Nat} {x : Di.D}, flatAll n xs = true → xs[i]? = some x → flat n x = true
  | [], i, x, _, h => by simp at h
  | y :: ys, 0, x, h, e => by
    unfold flatAll at h
    simp only [Bool.and_eq_true] at h
    simp at e
    rw [← e]; exact h.1
  | y :: ys, i + 1, x, h, e => by
    unfold flatAll at h
    simp only [Bool.and_eq_true] at h
    exact flatAll_at h.2 (by simpa using e)
def seqD : Di.D → Option (List Di.D)
  | .list xs => some xs
  | .tuple xs => some xs
  | _ => none
theorem sub_arg {G : Nat → Option Di.D} {F : Calls} {a : Sl} {le : List M} {d : Di.D} {xs : List Di.D} {i : Nat} {x : Di.D} (h : Arg le a d) (hs : seqD d = some xs) (hx : xs[i]? = some x) (j : Nat) {env : Di.Env} (hj : slot env j = some a) (hi : slot env 2 = some (.v (.int i))) (hle : env.le = le) :
    evE G F (.sub (.var j) (.var 2)) env = .ok (.v x) env := by
  subst hle
  have hl : i < xs.length := (List.getElem?_eq_some_iff.mp hx).1
  obtain ⟨sl, le⟩ := env
  rw [slot_mk] at hj hi
  cases h with
  | v d =>
    have e : dSub (.v d) (.v (.int (i : Int))) = some (.v x) := by
      cases d <;> simp [seqD] at hs
      · subst hs; exact dSub_lst (ixD_nat hl) hx
      · subst hs; exact dSub_tup (ixD_nat hl) hx
    simp [hj, hi, e]
  | m ys =>
    simp [seqD] at hs
    subst hs
    have e : dSub (.m (.lst ys)) (.v (.int (i : Int))) = some (.v x) := dSub_m (ixD_nat hl) hx
    simp [hj, hi, e]
  | l k ys hk =>
    simp [seqD] at hs
    subst hs
    have e : dSub (.m (.lst ys)) (.v (.int (i : Int))) = some (.v x) := dSub_m (ixD_nat hl) hx
    simp at hk
    simp [hj, hi, e, hk]
theorem dEq_nats (xs : List Nat) : dEq (.m (.lst (xs.map fun i : Nat => .int i))) (.m (.lst [])) = some (decide (xs = [])) := by
  have := dEq_li (xs.map fun i : Nat => (i : Int)) []
  rw [List.map_map] at this
  rw [show (fun i : Nat => PyData.int (i : Int)) = PyData.int ∘ (fun i : Nat => (i : Int)) from rfl]
  rw [List.map_nil] at this
  rw [this]
  simp
/-- a spring after at most C draws of its own -/
def SpOk (C : Nat) (m : M) : Prop := ∃ a b c, Spr C m a b c
theorem SpOk.mono {C C' : Nat} {m : M} (h : SpOk C m) (hc : C ≤ C') : SpOk C' m := by
  obtain ⟨a, b, c, h⟩ := h
  exact ⟨a, b, c, h.eq, h.a0, h.b0, h.b1, h.c0, by have := h.c1; omega⟩
theorem ints_map : ∀ w : List Int, ints? (w.map .int) = some w
  | [] => rfl
  | i :: w => by simp [ints?, ints_map w]
theorem sum_m (w : List Int) : dBlt .sum [.m (.lst (w.map .int))] = some (.v (.int w.sum)) := by
  show (match ints? (w.map .int) with
      | some is => some (R.v (.int is.sum))
      | none => none) = _
  rw [ints_map]
def trB : Option Di.D → Bool
  | some (.bool b) => b
  | _ => false
theorem bitLen_nob (w : List Int) (h : bits w) : bitLen (nob w) ≤ w.length := by
  obtain ⟨h1, h2⟩ := nob_nn w h
  unfold bitLen
  split
  · omega
  · rename_i h0
    have h3 : (nob w).natAbs < 2 ^ w.length := by
      have : ((nob w).natAbs : Int) < ((2 ^ w.length : Nat) : Int) := by
        rw [Int.natAbs_of_nonneg h1]; push_cast; exact h2
      exact_mod_cast this
    have := (Nat.log2_lt (by omega)).mpr h3
    omega
theorem tabl_bits (c : Int) (n : Nat) : bits (tabl c n) := by
  intro b hb
  unfold tabl at hb
  obtain ⟨t, _, rfl⟩ := List.mem_map.mp hb
  omega
theorem tabl_len (c : Int) (n : Nat) : (tabl c n).length = n := by simp [tabl]
theorem mem_cut {α : Type} {xs : List α} {lo hi : Option Int} {x : α} (h : x ∈ cut xs lo hi) : x ∈ xs := List.mem_of_mem_drop (List.mem_of_mem_take h)
theorem cut_len {α : Type} {xs : List α} {lo hi : Option Int} : (cut xs lo hi).length ≤ xs.length := by
  unfold cut
  simp
  omega
theorem nice_tupI (n : Nat) (w : List Int) : nice (n + 1) (tupI w) = true := niceAll_ints n w
theorem niceAll_tupI (n : Nat) : ∀ ws : List (List Int), niceAll (n + 1) (ws.map tupI) = true
  | [] => rfl
  | w :: ws => by
    rw [List.map_cons]
    unfold niceAll
    rw [nice_tupI, niceAll_tupI n ws]
    rfl
theorem dEq_tups0 (ws : List (List Int)) : dEq (.m (.lst (ws.map tupI))) (.m (.lst [])) = some (decide (ws = [])) := by
  show (if (nice 20 (.list (ws.map tupI)) && nice 20 (.list [])) = true then some (PyData.eqv (.list (ws.map tupI)) (.list [])) else none) = _
  have e : nice 20 (.list (ws.map tupI)) = true := niceAll_tupI 18 ws
  rw [e]
  cases ws <;> rfl
section
variable {F : Nat → Calls} (S : Sem glo F)
include S
theorem integer_stands_int (k : Nat) (i : Int) : F (k+1) 0 [.v (.int i)] [] = .ok (.v (.bool true)) [] := by
  rw [S.integer_stands]; rfl
theorem bit_stands_int (k : Nat) (i : Int) : F (k+2) 1 [.v (.int i)] [] = .ok (.v (.bool (decide (0 ≤ i ∧ i ≤ 1)))) [] := by
  rw [S.bit_stands]
  simp [runFn, f_bit_stands, b_bit_stands, integer_stands_int S, chnR, dCmpB, dLt]
  by_cases h : i < 0
  · simp [h]; omega
  · simp [h]; omega
theorem word_stands_bits (k : Nat) (w : List Int) (h : bits w) : F (k+3) 3 [.v (tupI w)] [] = .ok (.v (.bool true)) [] := by
  rw [S.word_stands]
  simp [runFn, f_word_stands, b_word_stands, isiG, dTy, truD]
  obtain ⟨env', e, x, rfl⟩ := loopF_all (g := .n 1) (chk := stands ⟨w.map .int, none⟩) (body := bodyOf glo (F (k+2)) l1_word_stands) (ds := w.map .int) (env := ⟨[some (.v (tupI w)), none], []⟩)
    (fun _ env => ∃ x, env = ⟨[some (.v (tupI w)), x], []⟩) ⟨none, rfl⟩ (by
      rintro i d env hd ⟨x, rfl⟩
      simp only [List.getElem?_map, Option.map_eq_some_iff] at hd
      obtain ⟨b, hb, rfl⟩ := hd
      have hb := h b (List.mem_of_getElem? hb)
      refine ⟨_, ⟨[some (.v (tupI w)), some (.v (.int b))], []⟩, rfl, .inl ?_, rfl, _, rfl⟩
      simp [bodyOf, l1_word_stands, bit_stands_int S, hb, truD])
  rw [e]
  simp
theorem need_full_word_ok (k : Nat) (w : List Int) (h : bits w) (h0 : w ≠ []) : F (k+4) 4 [.v (tupI w)] [] = .ok (.v .none) [] := by
  rw [S.need_full_word]
  simp [runFn, f_need_full_word, b_need_full_word, word_stands_bits S k w h, truD, dEq_ints0, h0]
theorem law_take_ok (k : Nat) (C : Nat) (hC : C < 2 ^ 40) (m : M) (a b c : Int) (h : Spr C m a b c) (n : Int) (hn : 1 ≤ n) (hn2 : n ≤ 1000) :
    ∃ v m' a' c', F (k+1) 17 [.l 0, .v (.int n)] [m] = .ok (.v (.int v)) [m'] ∧ 0 ≤ v ∧ v < n ∧ Spr (C+1) m' a' b c' := by
  obtain ⟨rfl, a0, b0, b1, c0, c1⟩ := h
  rw [S.law_take]
  have n0 : 0 < n := by omega
  by_cases ha : 0 < a
  · refine ⟨a % n, .lst [.int (a / n), .int b, .int c], a / n, c, ?_, Int.emod_nonneg _ (by omega), Int.emod_lt_of_pos _ n0, rfl, Int.ediv_nonneg a0 (by omega), b0, b1, c0, by omega⟩
    have p8 : n.natAbs < 2 ^ 8000 := Nat.lt_of_lt_of_le (by omega : n.natAbs < 2 ^ 10) (Nat.pow_le_pow_right (by decide) (by decide))
    simp [runFn, f_law_take, b_law_take, sub3_0, sub3_1, sub3_2, put3_0, put3_2, ha, n0, p8]
  · have c3 : 0 ≤ c + 1 := by omega
    have c4 : c + 1 < 2 ^ 41 := by omega
    have p0 : (b + 6364136223 * (c + 1)).natAbs < 2 ^ 200 := by omega
    have p7 : 10000000 < 2 ^ 8000 := Nat.lt_of_lt_of_le (by decide : 10000000 < 2 ^ 30) (Nat.pow_le_pow_right (by decide) (by decide))
    have m1 := dMul_l (i := 6364136223) (j := c + 1) (by decide)
    have m2 := dMul_l (i := 1442695041) (j := c + 1) (by decide)
    have m3 := dMul_l (i := 4050300157) (j := c + 1) (by decide)
    have m4 : ∀ x : Int, 0 ≤ x → x < 10000000000000000000000000331 → dMul (.v (.int x)) (.v (.int x)) = some (.v (.int (x * x))) := fun x h1 h2 => dMul_b (big_of (n := 100) (by omega) (by decide)) (big_of (n := 100) (by omega) (by decide))
    have m5 := m4 (((b + 6364136223 * (c + 1)) ^ 2 + 1442695041 * (c + 1)) % 10000000000000000000000000331) (Int.emod_nonneg _ (by decide)) (Int.emod_lt_of_pos _ (by decide))
    refine ⟨(((((b + 6364136223 * (c + 1)) ^ 2 + 1442695041 * (c + 1)) % 10000000000000000000000000331 * (((b + 6364136223 * (c + 1)) ^ 2 + 1442695041 * (c + 1)) % 10000000000000000000000000331) + 4050300157 * (c + 1)) % 100000000000000000000000067) / 10000000) % n, .lst [.int a, .int b, .int (c + 1)], a, c + 1, ?_, Int.emod_nonneg _ (by omega), Int.emod_lt_of_pos _ n0, rfl, a0, b0, b1, c3, by omega⟩
    simp [runFn, f_law_take, b_law_take, sub3_0, sub3_1, sub3_2, put3_0, put3_2, ha, n0, p0, m1, m2, m3, m5, p7]
theorem take_ok (k : Nat) (C : Nat) (hC : C < 2 ^ 40) (m : M) (h : SpOk C m) (n : Int) (hn : 1 ≤ n) (hn2 : n ≤ 1000) :
    ∃ v m', F (k+1) 17 [.l 0, .v (.int n)] [m] = .ok (.v (.int v)) [m'] ∧ 0 ≤ v ∧ v < n ∧ SpOk (C+1) m' := by
  obtain ⟨a, b, c, h⟩ := h
  obtain ⟨v, m', a', c', e, h1, h2, h3⟩ := law_take_ok S k C hC m a b c h n hn hn2
  exact ⟨v, m', e, h1, h2, a', b, c', h3⟩
theorem law_spring_ok (k : Nat) (ns : List Int) (h : ns.length ≤ 63) (t : Nat) (ht : t ≤ 10) :
    ∃ m a b c, F (k+1) 16 [.v (.list (ns.map .int)), .v (.int t)] [] = .ok (.m m) [] ∧ Spr 0 m a b c := by
  rw [S.law_spring]
  have z : (ns.length : Int) ≤ LINE := by show (ns.length : Int) ≤ ((16777216 : Nat) : Int); omega
  have hs : dSlc none (some 63) (.v (.list (ns.map .int))) = some (.m (.lst (ns.map .int))) := by
    have e1 : sIx (ns.map PyData.int).length (ns.map PyData.int).length (some 63) = ns.length := by
      simp [sIx]; omega
    simp only [dSlc, RM.lst, cut, e1]
    simp [sIx, List.take_of_length_le]
  have e63 : ns.take 63 = ns := List.take_of_length_le h
  have n1 : ((ns.length : Int) + 0).natAbs < 2 ^ 64 := by omega
  have m1 := dMul_l (i := 7001) (j := ns.length) (by decide)
  have m2 := dMul_l (i := 15731) (j := t) (by decide)
  simp [runFn, f_law_spring, b_law_spring, hs, m1, m2, e63, z, h, cut_map]
  obtain ⟨env', e, b, x, rfl, b0, b1⟩ := loopF_all (g := .n 3) (chk := stands ⟨ns.map .int, none⟩) (body := bodyOf glo (F k) l1_law_spring) (ds := ns.map .int) (env := ⟨[some (.v (.list (ns.map .int))), some (.v (.int t)), some (.v (.int (905969 + 7001 * ns.length + 15731 * t))), none, none], []⟩)
    (fun _ env => ∃ b x, env = ⟨[some (.v (.list (ns.map .int))), some (.v (.int t)), some (.v (.int b)), x, none], []⟩ ∧ 0 ≤ b ∧ b < 1000000000000000000000000000057) ⟨_, none, rfl, by omega, by omega⟩ (by
      rintro i d env hd ⟨b, x, rfl, b0, b1⟩
      simp only [List.getElem?_map, Option.map_eq_some_iff] at hd
      obtain ⟨y, hy, rfl⟩ := hd
      have r1 := dMul_r (i := b) (j := 1000003) (by decide)
      have r2 := dMul_r (i := y) (j := 69069) (by decide)
      refine ⟨_, ⟨[some (.v (.list (ns.map .int))), some (.v (.int t)), some (.v (.int ((b * 1000003 + y * 69069 + 12345) % 1000000000000000000000000000057))), some (.v (.int y)), none], []⟩, rfl, .inl ?_, rfl, _, _, rfl, Int.emod_nonneg _ (by decide), Int.emod_lt_of_pos _ (by decide)⟩
      simp [bodyOf, l1_law_spring, r1, r2])
  rw [e]
  have l3 : 3 ≤ LINE := by decide
  by_cases hl : t < ns.length
  · have hs2 : dSub (.v (.list (ns.map .int))) (.v (.int (t : Int))) = some (.v (.int ns[t])) := dSub_lst (ixD_nat (by simpa using hl)) (by simp [hl])
    simp [hl, z, hs2, l3]
    exact ⟨_, b, 0, rfl, by split <;> omega, b0, by omega, by decide, by decide⟩
  · simp [hl, z, l3]
    exact ⟨_, b, 0, rfl, by decide, b0, by omega, by decide, by decide⟩
theorem same_refl0 (k : Nat) (d : Di.D) (a b : Sl) (le : List M) (hf : flat 0 d = true) (ha : Arg le a d) (hb : Arg le b d) : F (k+1) 19 [a, b] le = .ok (.v (.bool true)) le := by
  rw [S.law_same]
  cases d with
  | none => cases ha; cases hb; simp [runFn, f_law_same, b_law_same, isiG, dTy, truD, isnG, isNone]
  | bool x =>
    cases ha; cases hb
    have e : dEq (.v (.bool x)) (.v (.bool x)) = some true := by cases x <;> rfl
    simp [runFn, f_law_same, b_law_same, isiG, dTy, truD, isnG, isNone, e]
  | int x =>
    cases ha; cases hb
    simp [runFn, f_law_same, b_law_same, isiG, dTy, truD, isnG, isNone]
  | str x =>
    cases ha; cases hb
    have e : dEq (.v (.str x)) (.v (.str x)) = some true := by
      have hn : nice 20 (.str x) = true := hf
      show (if (nice 20 (.str x) && nice 20 (.str x)) = true then some (PyData.eqv (.str x) (.str x)) else none) = _
      rw [hn]
      simp [PyData.eqv]
    simp [runFn, f_law_same, b_law_same, isiG, dTy, truD, isnG, isNone, e]
  | list xs => simp [flat] at hf
  | tuple xs => simp [flat] at hf
  | dict xs => simp [flat] at hf
theorem same_refl : ∀ (n k : Nat) (d : Di.D) (a b : Sl) (le : List M), flat n d = true → Arg le a d → Arg le b d → F (k+n+1) 19 [a, b] le = .ok (.v (.bool true)) le := by
  intro n
  induction n with
  | zero => exact fun k d a b le hf ha hb => same_refl0 S k d a b le hf ha hb
  | succ n ih =>
    intro k d a b le hf ha hb
    by_cases h0 : flat 0 d = true
    · exact same_refl0 S _ d a b le h0 ha hb
    have hq : ∃ xs, seqD d = some xs ∧ xs.length ≤ LINE ∧ flatAll n xs = true ∧ (d = .list xs ∨ d = .tuple xs) := by
      cases d <;> simp [flat] at h0 hf
      · rename_i x; rw [hf] at h0; cases h0
      · exact ⟨_, rfl, hf.1, hf.2, .inl rfl⟩
      · exact ⟨_, rfl, hf.1, hf.2, .inr rfl⟩
    obtain ⟨xs, hs, hz, hn, hd⟩ := hq
    have hc : loopC (.n 2) [2] (stands ⟨rangeD 0 xs.length, none⟩) (turnOf glo (F (k+(n+1))) c1_law_same e1_law_same) (rangeD 0 xs.length) ⟨[some a, some b, none], le⟩ = .ok [] ⟨[some a, some b, none], le⟩ := by
      rw [rangeD_map0, loopC_enc (fun i : Nat => .int i) (fun _ => false) (fun i : Nat => .int i)]
      · simp
      · intro i hi
        have hi : i < xs.length := List.mem_range.mp hi
        have hx : xs[i]? = some xs[i] := List.getElem?_eq_getElem hi
        refine ⟨_, ⟨[some a, some b, some (.v (.int i))], le⟩, rfl, ?_, rfl, rfl⟩
        have e0 := sub_arg (G := glo) (F := F (k+(n+1))) ha hs hx 0 (env := ⟨[some a, some b, some (.v (.int (i : Nat)))], le⟩) (by simp) (by simp) rfl
        have e1 := sub_arg (G := glo) (F := F (k+(n+1))) hb hs hx 1 (env := ⟨[some a, some b, some (.v (.int (i : Nat)))], le⟩) (by simp) (by simp) rfl
        have er := ih k xs[i] (.v xs[i]) (.v xs[i]) [] (flatAll_at hn hx) (.v _) (.v _)
        rw [Nat.add_assoc] at er
        simp only [turnOf_, c1_law_same, e1_law_same, evTs_one_, evT_not_, evT_tru_, ev_call, evA_cons_, setS_mk, List.set]
        simp only [e0, e1, bind_ok_, evA_nil_, evA_cons_, kA_, kA2_]
        simp [er, truD]
    have en : dEq (.m (.lst [])) (.m (.lst [])) = some true := by rfl
    have hz' : (xs.length : Int) ≤ LINE := by exact_mod_cast hz
    have z2 : -1152921504606846976 < (xs.length : Int) := by omega
    rw [S.law_same]
    rcases hd with rfl | rfl
    · clear hs
      clear ih hf hn h0 hz
      cases ha <;> cases hb <;> simp [runFn, f_law_same, b_law_same, isiG, dTy, truD, rng1D, unwipe, hc, en, *]
    · clear hs
      clear ih hf hn h0 hz
      cases ha; cases hb; simp [runFn, f_law_same, b_law_same, isiG, dTy, truD, rng1D, unwipe, hc, en, *]
theorem law_word_ok (k : Nat) (C : Nat) (m : M) (h : SpOk C m) (many : Nat) (hm : many ≤ 1000) (hC : C + 1 + 2 * many < 2 ^ 40) :
    ∃ w m', F (k+2) 20 [.l 0, .v (.int many)] [m] = .ok (.v (tupI w)) [m'] ∧ bits w ∧ w.length = many ∧ SpOk (C + 1 + 2 * many) m' := by
  rw [S.law_word]
  have z : (many : Int) ≤ LINE := by show (many : Int) ≤ ((16777216 : Nat) : Int); omega
  have z2 : -1152921504606846976 < (many : Int) := by omega
  obtain ⟨v0, m0, e0, h1, h2, h3⟩ := take_ok S k C (by omega) m h 3 (by decide) (by decide)
  simp [runFn, f_law_word, b_law_word, e0, rng1D, z, z2]
  obtain ⟨env', e, w, x, m', rfl, hw, hl, hs⟩ := loopF_rng (g := .n 4) (chk := stands ⟨rangeD 0 many, none⟩) (body := bodyOf glo (F (k+1)) l1_law_word) (n := many) (env := ⟨[some (.l 0), some (.v (.int many)), some (.m (.lst [])), some (.v (.int (2 + v0))), none], [m0]⟩)
    (fun i env => ∃ w x m', env = ⟨[some (.l 0), some (.v (.int many)), some (.m (.lst (w.map .int))), some (.v (.int (2 + v0))), x], [m']⟩ ∧ bits w ∧ w.length = i ∧ SpOk (C + 1 + 2 * i) m') ⟨[], none, m0, by simp, (by intro b hb; cases hb), rfl, h3⟩ (by
      rintro i env hlen ⟨w, x, m', rfl, hw, hl, hs⟩
      have ea : ∀ b : Int, appD (.int b) (.lst (w.map .int)) = some (.lst ((w ++ [b]).map .int)) := fun b => by
        rw [appD_ok _ _ (by simp; omega)]
        simp
      by_cases hw0 : w = []
      · subst hw0
        obtain ⟨v1, m1, e1, g1, g2, g3⟩ := take_ok S k _ (by omega) m' hs 2 (by decide) (by decide)
        refine ⟨_, ⟨[some (.l 0), some (.v (.int many)), some (.m (.lst (([v1] : List Int).map .int))), some (.v (.int (2 + v0))), some (.v (.int i))], [m1]⟩, rfl, .inl ?_, rfl, [v1], _, m1, rfl, ?_, ?_, g3.mono (by omega)⟩
        · have en : dEq (.m (.lst [])) (.m (.lst [])) = some true := by rfl
          have ea := ea v1
          simp at ea
          simp [bodyOf, l1_law_word, en, e1, ea]
        · intro b hb; simp at hb; subst hb; omega
        · simp at hl; simp [← hl]
      · have en : dEq (.m (.lst (w.map .int))) (.m (.lst [])) = some false := by
          have := dEq_li w []
          rw [List.map_nil] at this
          rw [this]
          simp [hw0]
        obtain ⟨v1, m1, e1, g1, g2, g3⟩ := take_ok S k _ (by omega) m' hs (2 + v0) (by omega) (by omega)
        by_cases hv : v1 = 0
        · obtain ⟨v2, m2, e2, g4, g5, g6⟩ := take_ok S k _ (by omega) m1 g3 2 (by decide) (by decide)
          refine ⟨_, ⟨[some (.l 0), some (.v (.int many)), some (.m (.lst ((w ++ [v2]).map .int))), some (.v (.int (2 + v0))), some (.v (.int i))], [m2]⟩, rfl, .inl ?_, rfl, w ++ [v2], _, m2, rfl, ?_, ?_, g6.mono (by omega)⟩
          · have ea := ea v2
            simp [bodyOf, l1_law_word, en, e1, hv, e2, ea]
          · intro b hb
            rcases List.mem_append.mp hb with hb | hb
            · exact hw b hb
            · simp at hb; subst hb; omega
          · simp [hl]
        · have hlast : dSub (.m (.lst (w.map .int))) (.v (.int (-1))) = some (.v (.int (w.getLast hw0))) := by
            have hp := List.length_pos_iff.mpr hw0
            refine dSub_m (j := w.length - 1) ?_ ?_
            · unfold ixD
              simp
              omega
            · simp [List.getLast_eq_getElem]
          refine ⟨_, ⟨[some (.l 0), some (.v (.int many)), some (.m (.lst ((w ++ [w.getLast hw0]).map .int))), some (.v (.int (2 + v0))), some (.v (.int i))], [m1]⟩, rfl, .inl ?_, rfl, w ++ [w.getLast hw0], _, m1, rfl, ?_, ?_, g3.mono (by omega)⟩
          · have ea := ea (w.getLast hw0)
            simp [bodyOf, l1_law_word, en, e1, hv, hlast, ea]
          · intro b hb
            rcases List.mem_append.mp hb with hb | hb
            · exact hw b hb
            · simp at hb; subst hb; exact hw _ (List.getLast_mem hw0)
          · simp [hl])
  rw [e]
  refine ⟨w, m', ?_, hw, hl, hs⟩
  simp
end
end Law
namespace Law
open PySem Di
/-! medians: the plain part -/
def clampI (n : Nat) (j : Int) : Int := if (n : Int) - 1 < (if j < 0 then 0 else j) then (n : Int) - 1 else (if j < 0 then 0 else j)
def ext (w : List Int) (j : Int) : Int := w[(clampI w.length j).toNat]?.getD 0
def SS (g : Nat → Int) : Nat → Int
  | 0 => 0
  | n + 1 => SS g n + g n
theorem SS_map (g : Nat → Int) (n : Nat) : ((List.range n).map g).sum = SS g n := by
  induction n with
  | zero => rfl
  | succ n ih => rw [List.range_succ, List.map_append, List.sum_append, ih]; simp [SS]
def wsum (w : List Int) (k i : Nat) : Int := SS (fun t => ext w ((i : Int) - k + t)) (2 * k + 1)
def pass (k : Nat) (w : List Int) : List Int := (List.range w.length).map fun i => b2i (decide ((k : Int) < wsum w k i))
theorem pass_len (k : Nat) (w : List Int) : (pass k w).length = w.length := by simp [pass]
theorem b2i_01 (b : Bool) : 0 ≤ b2i b ∧ b2i b ≤ 1 := by cases b <;> decide
theorem pass_bits (k : Nat) (w : List Int) : bits (pass k w) := fun b hb => by
  unfold pass at hb
  obtain ⟨i, _, rfl⟩ := List.mem_map.mp hb
  exact b2i_01 _
theorem pass_at (k : Nat) (w : List Int) {i : Nat} (h : i < w.length) : (pass k w)[i]? = some (b2i (decide ((k : Int) < wsum w k i))) := by
  unfold pass
  simp [h]
theorem clamp_rng {n : Nat} (h : 0 < n) (j : Int) : 0 ≤ clampI n j ∧ clampI n j < n := by
  unfold clampI
  split <;> split <;> omega
theorem ext_nat {w : List Int} {i : Nat} (h : i < w.length) : ext w i = w[i]?.getD 0 := by
  unfold ext
  have : clampI w.length i = i := by unfold clampI; split <;> split <;> omega
  rw [this]; rfl
theorem ext_low {w : List Int} {j : Int} (h0 : 0 < w.length) (h : j ≤ 0) : ext w j = ext w 0 := by
  unfold ext
  have : clampI w.length j = clampI w.length 0 := by unfold clampI; split <;> split <;> (try split) <;> omega
  rw [this]
theorem ext_high {w : List Int} {j : Int} (h : (w.length : Int) - 1 ≤ j) (h0 : 0 < w.length) : ext w j = ext w ((w.length : Int) - 1) := by
  unfold ext
  have : clampI w.length j = clampI w.length ((w.length : Int) - 1) := by unfold clampI; split <;> split <;> (try split) <;> omega
  rw [this]
theorem ext_bit {w : List Int} (hw : bits w) (h0 : 0 < w.length) (j : Int) : 0 ≤ ext w j ∧ ext w j ≤ 1 := by
  obtain ⟨a, b⟩ := clamp_rng h0 j
  unfold ext
  rw [List.getElem?_eq_getElem (by omega)]
  exact hw _ (List.getElem_mem _)
theorem SS_nn {g : Nat → Int} (hg : ∀ t, 0 ≤ g t) : ∀ n, 0 ≤ SS g n
  | 0 => by simp [SS]
  | n + 1 => by have := SS_nn hg n; have := hg n; simp only [SS]; omega
theorem SS_block {g : Nat → Int} (hg : ∀ t, 0 ≤ g t) {a m : Nat} : ∀ {n : Nat}, a + m ≤ n → (∀ t, a ≤ t → t < a + m → g t = 1) → (m : Int) ≤ SS g n := by
  intro n
  induction n generalizing m with
  | zero => intro h _; have : m = 0 := by omega
            subst this; simp [SS]
  | succ n ih =>
    intro h hb
    by_cases h1 : a + m ≤ n
    · have := ih h1 hb; have := hg n; simp only [SS]; omega
    · cases m with
      | zero => have := SS_nn hg (n + 1); simpa using this
      | succ m =>
        have := ih (m := m) (by omega) fun t h2 h3 => hb t h2 (by omega)
        have e := hb n (by omega) (by omega)
        simp only [SS]; omega
theorem SS_two {g : Nat → Int} (hg : ∀ t, 0 ≤ g t) {m q : Nat} : ∀ {n : Nat}, m ≤ q → q < n → (∀ t, t < m → g t = 1) → g q = 1 → (m : Int) + 1 ≤ SS g n := by
  intro n
  induction n with
  | zero => intro _ h; omega
  | succ n ih =>
    intro h1 h2 hb hq
    by_cases h3 : q < n
    · have := ih h1 h3 hb hq; have := hg n; simp only [SS]; omega
    · have : q = n := by omega
      subst this
      have := SS_block (g := g) hg (a := 0) (m := m) (n := q) (by omega) fun t _ h => hb t (by omega)
      simp only [SS]; omega
theorem SS_compl (g : Nat → Int) : ∀ n : Nat, SS (fun t => 1 - g t) n = n - SS g n
  | 0 => by simp [SS]
  | n + 1 => by rw [SS, SS_compl g n, SS]; push_cast; omega
theorem SS_congr {g g' : Nat → Int} : ∀ {n : Nat}, (∀ t, t < n → g t = g' t) → SS g n = SS g' n
  | 0, _ => rfl
  | n + 1, h => by rw [SS, SS, SS_congr fun t ht => h t (by omega), h n (by omega)]
/-- where a block of k + 1 equal bits lies around a place, a pass keeps its bit -/
theorem keep_block {w : List Int} {k i : Nat} (hw : bits w) (hi : i < w.length) {a : Int} (h1 : a ≤ i) (h2 : (i : Int) ≤ a + k) (hc : ∀ j, a ≤ j → j ≤ a + k → ext w j = ext w i) : (pass k w)[i]?.getD 0 = ext w i := by
  have h0 : 0 < w.length := by omega
  rw [pass_at k w hi]
  show b2i _ = _
  have hb := ext_bit hw h0
  obtain ⟨o, ho⟩ : ∃ o : Nat, a - ((i : Int) - k) = o := ⟨(a - ((i : Int) - k)).toNat, by omega⟩
  have hone : ext w i = 1 → (k : Int) + 1 ≤ wsum w k i := fun e => by
    have := SS_block (g := fun t => ext w ((i : Int) - k + t)) (fun t => (hb _).1) (a := o) (m := k + 1) (n := 2 * k + 1) (by omega) fun t ht1 ht2 => by
      show ext w _ = 1
      rw [hc _ (by omega) (by omega), e]
    unfold wsum; push_cast at this; omega
  have hzero : ext w i = 0 → wsum w k i ≤ k := fun e => by
    have := SS_block (g := fun t => 1 - ext w ((i : Int) - k + t)) (fun t => by have := (hb ((i : Int) - k + t)).2; show 0 ≤ 1 - ext w _; omega) (a := o) (m := k + 1) (n := 2 * k + 1) (by omega) fun t ht1 ht2 => by
      show 1 - ext w _ = 1
      rw [hc _ (by omega) (by omega), e]; rfl
    rw [SS_compl] at this
    unfold wsum; push_cast at this ⊢; omega
  have := hb i
  by_cases e : ext w i = 1
  · have := hone e
    rw [e, decide_eq_true (by omega)]; rfl
  · have e : ext w i = 0 := by omega
    have := hzero e
    rw [e, decide_eq_false (by omega)]; rfl
/-- settled up to p -/
def Set_ (k : Nat) (w : List Int) (p : Nat) : Prop := ∀ j : Int, j < p → ∃ a : Int, a ≤ j ∧ j ≤ a + k ∧ a + k < p ∧ ∀ x, a ≤ x → x ≤ a + k → ext w x = ext w j
theorem set_one (k : Nat) {w : List Int} (h0 : 0 < w.length) : Set_ k w 1 := fun j hj =>
  ⟨j - k, by omega, by omega, by omega, fun x h1 h2 => by rw [ext_low h0 (by omega : x ≤ 0), ext_low h0 (by omega : j ≤ 0)]⟩
theorem set_keep {k p : Nat} {w : List Int} (hw : bits w) (h : Set_ k w p) {i : Nat} (hi : i < w.length) (hp : i < p) : (pass k w)[i]?.getD 0 = ext w i := by
  obtain ⟨a, h1, h2, _, h3⟩ := h i (by omega)
  exact keep_block hw hi h1 h2 h3
/-- the extended word of a pass, as far as it is settled -/
theorem ext_pass {k p : Nat} {w : List Int} (hw : bits w) (hp1 : 1 ≤ p) (h : Set_ k w p) (h0 : 0 < w.length) (j : Int) (hj : j < p) : ext (pass k w) j = ext w j := by
  have hl := pass_len k w
  by_cases hn : j ≤ 0
  · rw [ext_low (by omega) hn, ext_low h0 hn]
    have := set_keep hw h (i := 0) h0 (by omega)
    rw [← ext_nat (by omega)] at this
    simpa using this
  · by_cases hm : j < w.length
    · obtain ⟨i, rfl⟩ := Int.eq_ofNat_of_zero_le (show 0 ≤ j by omega)
      rw [ext_nat (by rw [hl]; omega)]
      exact set_keep hw h (by omega) (by omega)
    · rw [ext_high (by rw [hl]; omega) (by omega), ext_high (w := w) (j := j) (by omega) h0, hl]
      obtain ⟨i, hi⟩ : ∃ i : Nat, (w.length : Int) - 1 = i := ⟨w.length - 1, by omega⟩
      rw [hi, ext_nat (by rw [hl]; omega)]
      exact set_keep hw h (by omega) (by omega)
theorem set_pass {k p : Nat} {w : List Int} (hw : bits w) (hp1 : 1 ≤ p) (h : Set_ k w p) (h0 : 0 < w.length) : Set_ k (pass k w) p := fun j hj => by
  obtain ⟨a, h1, h2, h3, h4⟩ := h j hj
  refine ⟨a, h1, h2, h3, fun x hx1 hx2 => ?_⟩
  rw [ext_pass hw hp1 h h0 x (by omega), ext_pass hw hp1 h h0 j hj]
  exact h4 x hx1 hx2
/-- with one block more -/
theorem set_more {k p q : Nat} {w : List Int} (h : Set_ k w p) (hq : p ≤ q) {c : Int → Int} (hb : ∀ j : Int, p ≤ j → j < q → ∃ a : Int, a ≤ j ∧ j ≤ a + k ∧ a + k < q ∧ ∀ x, a ≤ x → x ≤ a + k → ext w x = ext w j) : Set_ k w q := fun j hj => by
  by_cases hp : j < p
  · obtain ⟨a, h1, h2, h3, h4⟩ := h j hp
    exact ⟨a, h1, h2, by omega, h4⟩
  · exact hb j (by omega) hj
/-- each pass settles a place more -/
theorem set_step {k p : Nat} {w : List Int} (hw : bits w) (hp1 : 1 ≤ p) (h : Set_ k w p) (hpn : p < w.length) : ∃ q, p + 1 ≤ q ∧ Set_ k (pass k w) q := by
  have h0 : 0 < w.length := by omega
  have hb := ext_bit hw h0
  obtain ⟨a, h1, h2, h3, h4⟩ := h ((p : Int) - 1) (by omega)
  have ha : a = (p : Int) - 1 - k := by omega
  subst ha
  by_cases e : ext w p = ext w ((p : Int) - 1)
  · have : Set_ k w (p + 1) := set_more (c := id) h (by omega) fun j hj1 hj2 => by
      have : j = p := by omega
      subst this
      refine ⟨(p : Int) - k, by omega, by omega, by omega, fun x hx1 hx2 => ?_⟩
      by_cases hx : x = p
      · rw [hx]
      · rw [h4 x (by omega) (by omega), e]
    exact ⟨p + 1, Nat.le_refl _, set_pass hw (by omega) this h0⟩
  · by_cases hall : ∀ x : Int, (p : Int) ≤ x → x ≤ p + k → ext w x = ext w p
    · have : Set_ k w (p + k + 1) := set_more (c := id) h (by omega) fun j hj1 hj2 => by
        refine ⟨p, by omega, by omega, by push_cast; omega, fun x hx1 hx2 => ?_⟩
        rw [hall x hx1 hx2, hall j hj1 (by omega)]
      exact ⟨p + k + 1, by omega, set_pass hw (by omega) this h0⟩
    · -- some bit behind p is that ahead of p: the pass changes p
      have hex : ∃ x : Int, (p : Int) ≤ x ∧ x ≤ p + k ∧ ext w x ≠ ext w p := by
        rcases Classical.em (∃ x : Int, (p : Int) ≤ x ∧ x ≤ p + k ∧ ext w x ≠ ext w p) with c | c
        · exact c
        · exact absurd (fun x h1 h2 => Classical.byContradiction fun h3 => c ⟨x, h1, h2, h3⟩) hall
      obtain ⟨x, hx1, hx2, hx3⟩ := hex
      have b1 := hb p
      have b2 := hb ((p : Int) - 1)
      have b3 := hb x
      have ex : ext w x = ext w ((p : Int) - 1) := by omega
      have hxp : x ≠ p := fun e => hx3 (by rw [e])
      obtain ⟨q, hq⟩ : ∃ q : Nat, x = (p : Int) - k + q := ⟨(x - ((p : Int) - k)).toNat, by omega⟩
      have hpass : ext (pass k w) p = ext w ((p : Int) - 1) := by
        rw [ext_nat (by rw [pass_len]; exact hpn), pass_at k w hpn]
        show b2i _ = _
        by_cases v : ext w ((p : Int) - 1) = 1
        · have := SS_two (g := fun t => ext w ((p : Int) - k + t)) (fun t => (hb _).1) (m := k) (q := q) (n := 2 * k + 1) (by omega) (by omega) (fun t ht => by
            show ext w _ = 1
            rw [h4 _ (by omega) (by omega), v]) (by show ext w _ = 1; rw [← hq, ex, v])
          have : (k : Int) < wsum w k p := by unfold wsum; omega
          rw [v, decide_eq_true this]; rfl
        · have v : ext w ((p : Int) - 1) = 0 := by omega
          have := SS_two (g := fun t => 1 - ext w ((p : Int) - k + t)) (fun t => by have := (hb ((p : Int) - k + t)).2; show 0 ≤ 1 - ext w _; omega) (m := k) (q := q) (n := 2 * k + 1) (by omega) (by omega) (fun t ht => by
            show 1 - ext w _ = 1
            rw [h4 _ (by omega) (by omega), v]; rfl) (by show 1 - ext w _ = 1; rw [← hq, ex, v]; rfl)
          rw [SS_compl] at this
          have : ¬ (k : Int) < wsum w k p := by unfold wsum; push_cast at this ⊢; omega
          rw [v, decide_eq_false this]; rfl
      refine ⟨p + 1, Nat.le_refl _, set_more (c := id) (set_pass hw hp1 h h0) (by omega) fun j hj1 hj2 => ?_⟩
      have : j = p := by omega
      subst this
      refine ⟨(p : Int) - k, by omega, by omega, by omega, fun y hy1 hy2 => ?_⟩
      by_cases hy : y = p
      · rw [hy]
      · rw [ext_pass hw hp1 h h0 y (by omega), h4 y (by omega) (by omega), hpass]
theorem set_all {k p : Nat} {w : List Int} (hw : bits w) (h : Set_ k w p) (hp : w.length ≤ p) : pass k w = w := by
  apply List.ext_getElem?
  intro i
  by_cases hi : i < w.length
  · have h1 := set_keep hw h hi (by omega)
    rw [pass_at k w hi] at h1 ⊢
    rw [ext_nat hi, List.getElem?_eq_getElem hi] at h1
    rw [List.getElem?_eq_getElem hi]
    exact congrArg some h1
  · rw [List.getElem?_eq_none (by rw [pass_len]; omega), List.getElem?_eq_none (by omega)]
def it (k : Nat) (w : List Int) : Nat → List Int
  | 0 => w
  | t + 1 => pass k (it k w t)
theorem it_len (k : Nat) (w : List Int) : ∀ t, (it k w t).length = w.length
  | 0 => rfl
  | t + 1 => by rw [it, pass_len, it_len k w t]
theorem it_bits {k : Nat} {w : List Int} (hw : bits w) : ∀ t, bits (it k w t)
  | 0 => hw
  | t + 1 => pass_bits k _
theorem it_set {k : Nat} {w : List Int} (hw : bits w) (h0 : 0 < w.length) : ∀ t, (∃ q, t + 1 ≤ q ∧ Set_ k (it k w t) q) 
  | 0 => ⟨1, by omega, set_one k h0⟩
  | t + 1 => by
    obtain ⟨q, h1, h2⟩ := it_set hw h0 t
    by_cases hq : q < w.length
    · obtain ⟨q', h3, h4⟩ := set_step (it_bits hw t) (by omega) h2 (by rw [it_len]; exact hq)
      exact ⟨q', by omega, h4⟩
    · have e := set_all (it_bits hw t) h2 (by rw [it_len]; omega)
      by_cases ht : t + 2 ≤ q
      · exact ⟨q, ht, by rw [it, e]; exact h2⟩
      · refine ⟨t + 2, Nat.le_refl _, ?_⟩
        rw [it, e]
        -- beyond the end each place lies in a block
        intro j hj
        by_cases hjq : j < q
        · obtain ⟨a, a1, a2, a3, a4⟩ := h2 j hjq
          exact ⟨a, a1, a2, by push_cast; omega, a4⟩
        · obtain ⟨a, a1, a2, a3, a4⟩ := h2 ((q : Int) - 1) (by omega)
          have ha : a = (q : Int) - 1 - k := by omega
          have hl := it_len k w t
          have eh : ∀ x : Int, (q : Int) - 1 ≤ x → ext (it k w t) x = ext (it k w t) ((q : Int) - 1) := fun x hx => by
            rw [ext_high (by rw [hl]; omega) (by omega), ext_high (j := (q : Int) - 1) (by rw [hl]; omega) (by omega)]
          refine ⟨j - k, by omega, by omega, by push_cast; omega, fun x hx1 hx2 => ?_⟩
          rw [eh j (by omega)]
          by_cases hxq : x ≤ (q : Int) - 1
          · rw [a4 x (by omega) (by omega)]
          · exact eh x (by omega)
/-- a word settles in so many passes -/
theorem it_fix {k : Nat} {w : List Int} (hw : bits w) (h0 : 0 < w.length) : ∃ T, T < w.length ∧ pass k (it k w T) = it k w T ∧ ∀ t, t < T → pass k (it k w t) ≠ it k w t := by
  have hx : pass k (it k w (w.length - 1)) = it k w (w.length - 1) := by
    obtain ⟨q, h1, h2⟩ := it_set hw h0 (k := k) (w.length - 1)
    exact set_all (it_bits hw _) h2 (by rw [it_len]; omega)
  have key : ∀ n, (∃ T, T < n ∧ pass k (it k w T) = it k w T ∧ ∀ t, t < T → pass k (it k w t) ≠ it k w t) ∨ ∀ t, t < n → pass k (it k w t) ≠ it k w t := by
    intro n
    induction n with
    | zero => exact .inr fun t h => by omega
    | succ n ih =>
      rcases ih with ⟨T, h1, h2, h3⟩ | h
      · exact .inl ⟨T, by omega, h2, h3⟩
      · by_cases e : pass k (it k w n) = it k w n
        · exact .inl ⟨n, by omega, e, h⟩
        · exact .inr fun t ht => by
            by_cases hn : t = n
            · rw [hn]; exact e
            · exact h t (by omega)
  rcases key w.length with h | h
  · exact h
  · exact absurd hx (h _ (by omega))
end Law
namespace Law
open PySem Di
section
variable {F : Nat → Calls} (S : Sem glo F)
include S
theorem need_number_ok (k : Nat) (i : Nat) : F (k+2) 2 [.v (.int i)] [] = .ok (.v .none) [] := by
  rw [S.need_number]
  have := integer_stands_int S k i
  have h : ¬ ((i : Int) < 0) := by omega
  simp [runFn, f_need_number, b_need_number, this, truD, h]
theorem passed_ok (k : Nat) (w : List Int) (number : Nat) (hw : bits w) (h0 : 0 < w.length) (hz : w.length ≤ 1000) (hk : number ≤ 1000) : F (k+1) 5 [.v (tupI w), .v (.int number)] [] = .ok (.v (tupI (pass number w))) [] := by
  rw [S.passed]
  have z : (w.length : Int) ≤ LINE := by show (w.length : Int) ≤ ((16777216 : Nat) : Int); omega
  have z2 : -1152921504606846976 < (w.length : Int) := by omega
  obtain ⟨env', e, x, y, z', rfl⟩ := loopF_rng (g := .n 4) (chk := stands ⟨rangeD 0 w.length, none⟩) (body := bodyOf glo (F k) l2_passed) (n := w.length) (env := ⟨[some (.v (tupI w)), some (.v (.int number)), some (.v (.int ((w.length : Int) - 1))), some (.m (.lst [])), none, none, none], []⟩)
    (fun i env => ∃ x y z, env = ⟨[some (.v (tupI w)), some (.v (.int number)), some (.v (.int ((w.length : Int) - 1))), some (.m (.lst (((pass number w).take i).map .int))), x, y, z], []⟩) ⟨none, none, none, by simp⟩ (by
      rintro i env hi ⟨x, y, z', rfl⟩
      have r1 : ((i : Int) + number + 1 - ((i : Int) - number)).toNat = 2 * number + 1 := by omega
      have r2 : (i : Int) + number + 1 - ((i : Int) - number) ≤ LINE := by show _ ≤ ((16777216 : Nat) : Int); omega
      have r3 : -1152921504606846976 < (i : Int) - number ∧ (i : Int) - number < 1152921504606846976 ∧ (i : Int) + number + 1 < 1152921504606846976 ∧ -1152921504606846976 < (i : Int) + number + 1 := by omega
      obtain ⟨env'', e2, y2, rfl⟩ := loopF_rngL (g := .n 6) (chk := stands ⟨rangeD ((i : Int) - number) (2 * number + 1), none⟩) (body := bodyOf glo (F k) l1_passed) (lo := (i : Int) - number) (n := 2 * number + 1)
        (env := ⟨[some (.v (tupI w)), some (.v (.int number)), some (.v (.int ((w.length : Int) - 1))), some (.m (.lst (((pass number w).take i).map .int))), some (.v (.int i)), some (.v (.int 0)), z'], []⟩)
        (fun t env => ∃ y, env = ⟨[some (.v (tupI w)), some (.v (.int number)), some (.v (.int ((w.length : Int) - 1))), some (.m (.lst (((pass number w).take i).map .int))), some (.v (.int i)), some (.v (.int (SS (fun t => ext w ((i : Int) - number + t)) t))), y], []⟩) ⟨z', rfl⟩ (by
          rintro t env ht ⟨y, rfl⟩
          obtain ⟨c1, c2⟩ := clamp_rng h0 ((i : Int) - number + t)
          have hs : dSub (.v (tupI w)) (.v (.int (clampI w.length ((i : Int) - number + t)))) = some (.v (.int (ext w ((i : Int) - number + t)))) := by
            refine dSub_tup (ixD_pos c1 (by simpa using c2)) ?_
            unfold ext
            rw [List.getElem?_map, List.getElem?_eq_getElem (by omega)]
            rfl
          unfold clampI at hs
          refine ⟨_, ⟨[some (.v (tupI w)), some (.v (.int number)), some (.v (.int ((w.length : Int) - 1))), some (.m (.lst (((pass number w).take i).map .int))), some (.v (.int i)), some (.v (.int (SS (fun t => ext w ((i : Int) - number + t)) (t + 1)))), some (.v (.int ((i : Int) - number + t)))], []⟩, rfl, .inl ?_, rfl, _, rfl⟩
          simp only [bodyOf, l1_passed]
          simp [ex_aug (d := .int (SS (fun t => ext w ((i : Int) - number + t)) t)), hs, SS, -List.map_take])
      have ea : appD (.int (b2i (decide ((number : Int) < wsum w number i)))) (.lst (((pass number w).take i).map .int)) = some (.lst (((pass number w).take (i + 1)).map .int)) := by
        rw [appD_ok _ _ (by simp; omega)]
        have hi' : i < (pass number w).length := by rw [pass_len]; exact hi
        have hg := pass_at number w hi
        rw [List.getElem?_eq_getElem hi'] at hg
        rw [List.take_succ_eq_append_getElem hi', Option.some.inj hg]
        simp
      refine ⟨_, ⟨[some (.v (tupI w)), some (.v (.int number)), some (.v (.int ((w.length : Int) - 1))), some (.m (.lst (((pass number w).take (i + 1)).map .int))), some (.v (.int i)), some (.v (.int (wsum w number i))), y2], []⟩, rfl, .inl ?_, rfl, _, _, _, rfl⟩
      simp only [bodyOf, l2_passed]
      unfold wsum at ea ⊢
      simp [rng2D, r1, r2, r3, e2, ea, -List.map_take])
  simp [runFn, f_passed, b_passed, rng1D, z, z2, e, -List.map_take]
  rw [List.take_of_length_le (by simp [pass_len])]
theorem need_full_word_ok' (k : Nat) (w : List Int) (h : bits w) (h0 : 0 < w.length) : F (k+4) 4 [.v (tupI w)] [] = .ok (.v .none) [] :=
  need_full_word_ok S k w h (List.length_pos_iff.mp h0)
theorem median_pass_ok (k : Nat) (w : List Int) (number : Nat) (hw : bits w) (h0 : 0 < w.length) (hz : w.length ≤ 1000) (hk : number ≤ 1000) : F (k+5) 6 [.v (tupI w), .v (.int number)] [] = .ok (.v (tupI (pass number w))) [] := by
  rw [S.median_pass]
  simp [runFn, f_median_pass, b_median_pass, need_full_word_ok' S k w hw h0, need_number_ok S (k+2) number, passed_ok S (k+3) w number hw h0 hz hk]
theorem settling_ok (k : Nat) (w : List Int) (number T : Nat) (hw : bits w) (h0 : 0 < w.length) (hz : w.length ≤ 1000) (hk : number ≤ 1000) (hT : T < w.length) (h1 : pass number (it number w T) = it number w T) (h2 : ∀ t, t < T → pass number (it number w t) ≠ it number w t) :
    F (k+2) 7 [.v (tupI w), .v (.int number)] [] = .ok (.v (.tuple [.int T, tupI (it number w T)])) [] := by
  rw [S.settling]
  have ep := passed_ok S k w number hw h0 hz hk
  have hl : ∀ (m t : Nat) (f : Nat), t + m = T → m < f → ∃ x, loopW (testOf glo (F (k+1)) t1_settling) (bodyOf glo (F (k+1)) l1_settling) f ⟨[some (.v (tupI (it number w t))), some (.v (.int number)), some (.v (.int t)), some (.v (tupI (pass number (it number w t))))], []⟩ = .nx ⟨[some (.v (tupI (it number w T))), some (.v (.int number)), some (.v (.int T)), some (.v x)], []⟩ := by
    intro m
    induction m with
    | zero =>
      intro t f ht hf
      cases f with
      | zero => omega
      | succ f =>
        have : t = T := by omega
        subst this
        refine ⟨tupI (pass number (it number w t)), ?_⟩
        have ed := dEq_ints (pass number (it number w t)) (it number w t)
        rw [h1] at ed ⊢
        rw [loopW_s]
        simp only [testOf, t1_settling]
        simp [ed]
    | succ m ih =>
      intro t f ht hf
      cases f with
      | zero => omega
      | succ f =>
        obtain ⟨x, e⟩ := ih (t + 1) f (by omega) (by omega)
        refine ⟨x, ?_⟩
        rw [← e]
        have ed := dEq_ints (pass number (it number w t)) (it number w t)
        rw [decide_eq_false (h2 t (by omega))] at ed
        have ep := passed_ok S k (it number w (t + 1)) number (it_bits hw _) (by rw [it_len]; exact h0) (by rw [it_len]; exact hz) hk
        have ei : it number w (t + 1) = pass number (it number w t) := rfl
        rw [ei] at ep ⊢
        have ht : testOf glo (F (k+1)) t1_settling ⟨[some (.v (tupI (it number w t))), some (.v (.int number)), some (.v (.int t)), some (.v (tupI (pass number (it number w t))))], []⟩ = .ok true ⟨[some (.v (tupI (it number w t))), some (.v (.int number)), some (.v (.int t)), some (.v (tupI (pass number (it number w t))))], []⟩ := by
          simp only [testOf, t1_settling]
          simp [ed]
        have hb : bodyOf glo (F (k+1)) l1_settling ⟨[some (.v (tupI (it number w t))), some (.v (.int number)), some (.v (.int t)), some (.v (tupI (pass number (it number w t))))], []⟩ = .nx ⟨[some (.v (tupI (pass number (it number w t)))), some (.v (.int number)), some (.v (.int (t + 1 : Nat))), some (.v (tupI (pass number (pass number (it number w t)))))], []⟩ := by
          simp only [bodyOf, l1_settling]
          simp [ep]
        rw [loopW_s, ht]
        simp [hb]
  obtain ⟨x, e⟩ := hl T 0 1000000 (by omega) (by omega)
  simp only [it] at e
  have e : loopW (testOf glo (F (k+1)) t1_settling) (bodyOf glo (F (k+1)) l1_settling) 1000000 ⟨[some (.v (tupI w)), some (.v (.int number)), some (.v (.int 0)), some (.v (tupI (pass number w)))], []⟩ = .nx ⟨[some (.v (tupI (it number w T))), some (.v (.int number)), some (.v (.int T)), some (.v x)], []⟩ := e
  simp [runFn, f_settling, b_settling, ep, e]
theorem passes_ok (k : Nat) (w : List Int) (number T : Nat) (hw : bits w) (h0 : 0 < w.length) (hz : w.length ≤ 1000) (hk : number ≤ 1000) (hT : T < w.length) (h1 : pass number (it number w T) = it number w T) (h2 : ∀ t, t < T → pass number (it number w t) ≠ it number w t) :
    F (k+5) 8 [.v (tupI w), .v (.int number)] [] = .ok (.v (.int T)) [] := by
  rw [S.passes]
  have es : ∀ a b : Di.D, dSub (.v (.tuple [a, b])) (.v (.int 0)) = some (.v a) := fun a b => rfl
  simp [runFn, f_passes, b_passes, need_full_word_ok' S k w hw h0, need_number_ok S (k+2) number, settling_ok S (k+2) w number T hw h0 hz hk hT h1 h2, es]
theorem settled_ok (k : Nat) (w : List Int) (number T : Nat) (hw : bits w) (h0 : 0 < w.length) (hz : w.length ≤ 1000) (hk : number ≤ 1000) (hT : T < w.length) (h1 : pass number (it number w T) = it number w T) (h2 : ∀ t, t < T → pass number (it number w t) ≠ it number w t) :
    F (k+5) 9 [.v (tupI w), .v (.int number)] [] = .ok (.v (tupI (it number w T))) [] := by
  rw [S.settled]
  have es : ∀ a b : Di.D, dSub (.v (.tuple [a, b])) (.v (.int 1)) = some (.v b) := fun a b => rfl
  simp [runFn, f_settled, b_settled, need_full_word_ok' S k w hw h0, need_number_ok S (k+2) number, settling_ok S (k+2) w number T hw h0 hz hk hT h1 h2, es]
end
/-! runs -/
def st (w : List Int) : Nat → List (Nat × Nat) × Nat
  | 0 => ([], 0)
  | i + 1 => if i = 0 ∨ w[i]? = w[i - 1]? then st w i else ((st w i).1 ++ [((st w i).2, i - (st w i).2)], i)
def runs (w : List Int) : List (Nat × Nat) := (st w w.length).1 ++ [((st w w.length).2, w.length - (st w w.length).2)]
theorem st_lt (w : List Int) : ∀ i, 1 ≤ i → (st w i).2 < i
  | 0, h => by omega
  | 1, _ => by simp [st]
  | i + 2, _ => by
    have := st_lt w (i + 1) (by omega)
    unfold st
    split
    · omega
    · show i + 1 < i + 2; omega
theorem st_same (w : List Int) : ∀ i, 1 ≤ i → w[(st w i).2]? = w[i - 1]?
  | 0, h => by omega
  | 1, _ => by simp [st]
  | i + 2, _ => by
    have := st_same w (i + 1) (by omega)
    unfold st
    split
    · rename_i h
      rcases h with h | h
      · omega
      · rw [this]; exact h.symm
    · rfl
theorem st_rng (w : List Int) : ∀ i, ∀ r ∈ (st w i).1, r.1 + r.2 ≤ i ∧ r.1 < i
  | 0, r, h => by simp [st] at h
  | i + 1, r, h => by
    unfold st at h
    split at h
    · have := st_rng w i r h; omega
    · rcases List.mem_append.mp h with h | h
      · have := st_rng w i r h; omega
      · rename_i hi
        simp at h; subst h
        have := st_lt w i (by omega)
        show (st w i).2 + (i - (st w i).2) ≤ i + 1 ∧ (st w i).2 < i + 1; omega
theorem runs_rng {w : List Int} (h0 : 0 < w.length) : ∀ r ∈ runs w, r.1 + r.2 ≤ w.length ∧ r.1 < w.length := fun r h => by
  unfold runs at h
  rcases List.mem_append.mp h with h | h
  · exact st_rng w _ r h
  · simp at h; subst h
    have := st_lt w w.length h0
    show (st w w.length).2 + (w.length - (st w w.length).2) ≤ _ ∧ (st w w.length).2 < _; omega
def cmpl (w : List Int) : List Int := w.map fun b => 1 - b
theorem st_cmpl (w : List Int) : ∀ i, st (cmpl w) i = st w i
  | 0 => rfl
  | i + 1 => by
    have hh : ((cmpl w)[i]? = (cmpl w)[i - 1]?) ↔ (w[i]? = w[i - 1]?) := by
      unfold cmpl
      rw [List.getElem?_map, List.getElem?_map]
      cases w[i]? <;> cases w[i - 1]? <;> simp
    unfold st
    rw [st_cmpl w i]
    simp only [hh]
theorem runs_cmpl (w : List Int) : runs (cmpl w) = runs w := by
  unfold runs
  rw [st_cmpl]
  simp [cmpl]
def short (w : List Int) (k : Nat) : List (Nat × Nat) := (cut (runs w) (some 1) (some (-1))).filter fun r => decide (r.2 ≤ k)
theorem short_rng {w : List Int} {k : Nat} (h0 : 0 < w.length) : ∀ r ∈ short w k, r.1 + r.2 ≤ w.length ∧ r.1 < w.length := fun r h => runs_rng h0 r (mem_cut (List.mem_filter.mp h).1)
def sr (v : List Int) (f m : Nat) (b : Int) : List Int := (List.range m).foldl (fun v t => v.set (f + t) b) v
theorem sr_succ (v : List Int) (f m : Nat) (b : Int) : sr v f (m + 1) b = (sr v f m b).set (f + m) b := by
  unfold sr; rw [List.range_succ, List.foldl_append]; rfl
theorem sr_len (v : List Int) (f : Nat) (b : Int) : ∀ m, (sr v f m b).length = v.length
  | 0 => rfl
  | m + 1 => by rw [sr_succ, List.length_set, sr_len v f b m]
theorem sr_cmpl (v : List Int) (f : Nat) (b : Int) : ∀ m, sr (cmpl v) f m (1 - b) = cmpl (sr v f m b)
  | 0 => rfl
  | m + 1 => by rw [sr_succ, sr_succ, sr_cmpl v f b m]; unfold cmpl; rw [List.map_set]
def wstep (w : List Int) (b : Int) (v : List Int) (r : Nat × Nat) : List Int := if w[r.1]? = some b then sr v r.1 r.2 (1 - b) else v
def wo (w : List Int) (k : Nat) (b : Int) : List Int := (short w k).foldl (wstep w b) w
theorem wo_len_aux (w : List Int) (b : Int) : ∀ (rs : List (Nat × Nat)) (v : List Int), (rs.foldl (wstep w b) v).length = v.length
  | [], v => rfl
  | r :: rs, v => by
    rw [List.foldl_cons, wo_len_aux w b rs]
    unfold wstep
    split
    · exact sr_len ..
    · rfl
theorem wo_len (w : List Int) (k : Nat) (b : Int) : (wo w k b).length = w.length := wo_len_aux w b _ _
theorem wo_cmpl {w : List Int} (hw : bits w) (k : Nat) (h0 : 0 < w.length) : wo (cmpl w) k 1 = cmpl (wo w k 0) := by
  unfold wo
  have es : short (cmpl w) k = short w k := by unfold short; rw [runs_cmpl]
  rw [es]
  have key : ∀ (rs : List (Nat × Nat)) (v : List Int), rs.foldl (wstep (cmpl w) 1) (cmpl v) = cmpl (rs.foldl (wstep w 0) v) := by
    intro rs
    induction rs with
    | nil => intro v; rfl
    | cons r rs ih =>
      intro v
      rw [List.foldl_cons, List.foldl_cons, ← ih]
      congr 1
      have hh : (cmpl w)[r.1]? = some 1 ↔ w[r.1]? = some 0 := by
        unfold cmpl
        rw [List.getElem?_map]
        cases w[r.1]? with
        | none => simp
        | some x => simp; omega
      unfold wstep
      by_cases h : w[r.1]? = some 0
      · rw [if_pos h, if_pos (hh.mpr h)]
        exact sr_cmpl v r.1 (1 - 0) r.2
      · rw [if_neg h, if_neg (fun c => h (hh.mp c))]
  exact key _ _
theorem pass_cmpl {w : List Int} (hw : bits w) (k : Nat) (h0 : 0 < w.length) : pass k (cmpl w) = cmpl (pass k w) := by
  have hl : (cmpl w).length = w.length := by simp [cmpl]
  have he : ∀ j, ext (cmpl w) j = 1 - ext w j := fun j => by
    obtain ⟨a, b⟩ := clamp_rng h0 j
    unfold ext
    rw [hl]
    unfold cmpl
    rw [List.getElem?_map, List.getElem?_eq_getElem (by omega)]
    rfl
  unfold pass
  rw [hl]
  unfold cmpl
  rw [List.map_map]
  apply List.map_congr_left
  intro i hi
  have e : wsum (List.map (fun b => 1 - b) w) k i = (2 * k + 1 : Nat) - wsum w k i := by
    unfold wsum
    rw [← SS_compl]
    apply SS_congr
    intro t _
    exact he _
  show b2i _ = 1 - b2i _
  rw [e]
  by_cases h : (k : Int) < wsum w k i
  · rw [decide_eq_true h, decide_eq_false (by push_cast; omega)]; rfl
  · rw [decide_eq_false h, decide_eq_true (by push_cast; omega)]; rfl
theorem pass_zero {w : List Int} (hw : bits w) (h0 : 0 < w.length) : pass 0 w = w := by
  apply List.ext_getElem?
  intro i
  by_cases hi : i < w.length
  · have hb := hw w[i] (List.getElem_mem hi)
    rw [pass_at 0 w hi, List.getElem?_eq_getElem hi]
    have e : wsum w 0 i = w[i] := by
      unfold wsum
      simp [SS, ext_nat hi, hi]
    rw [e]
    by_cases h : w[i] = 1
    · rw [h]; rfl
    · have h : w[i] = 0 := by omega
      rw [h]; rfl
  · rw [List.getElem?_eq_none (by rw [pass_len]; omega), List.getElem?_eq_none (by omega)]
end Law
namespace Law
open PySem Di
abbrev prD (a b : Nat) : Di.D := .tuple [.int a, .int b]
abbrev encP (r : Nat × Nat) : Di.D := prD r.1 (r.1 + r.2)
def fstD (l : List (Nat × Nat)) : Di.D := match l with
  | [] => .none
  | r :: _ => .int r.1
abbrev encL (r : Nat × Nat) : Di.D := prD r.1 r.2
section
variable {F : Nat → Calls} (S : Sem glo F)
include S
omit S in
theorem sub_w {w : List Int} {i : Nat} (h : i < w.length) : dSub (.v (tupI w)) (.v (.int i)) = some (.v (.int w[i])) := dSub_tup (ixD_nat (by simpa using h)) (by simp [h])
theorem runs_of_ok (k : Nat) (w : List Int) (h0 : 0 < w.length) (hz : w.length ≤ 1000) : F (k+1) 10 [.v (tupI w)] [] = .ok (.m (.lst ((runs w).map encP))) [] := by
  rw [S.runs_of]
  have z : (w.length : Int) ≤ LINE := by show (w.length : Int) ≤ ((16777216 : Nat) : Int); omega
  obtain ⟨env', e, x, y, hx, rfl⟩ := loopF_rngL (g := .n 3) (chk := stands ⟨rangeD 1 w.length, none⟩) (body := bodyOf glo (F k) l1_runs_of) (lo := 1) (n := w.length) (env := ⟨[some (.v (tupI w)), some (.m (.lst [])), some (.v (.int 0)), none], []⟩)
    (fun i env => ∃ x y, (if i < w.length then x = (st w (i + 1)).2 else True) ∧ env = ⟨[some (.v (tupI w)), some (.m (.lst ((if i < w.length then (st w (i + 1)).1 else runs w).map encP))), some (.v (.int (x : Nat))), y], []⟩) ⟨0, none, by simp [h0, st], by simp [h0, st]⟩ (by
      rintro i env hi ⟨x, y, hx, rfl⟩
      rw [if_pos hi] at hx
      subst hx
      rw [if_pos hi]
      have hf := st_lt w (i + 1) (by omega)
      have hsame := st_same w (i + 1) (by omega)
      have ea : ∀ l : List (Nat × Nat), l.length ≤ 5000 → ∀ r : Nat × Nat, appD (encP r) (.lst (l.map encP)) = some (.lst ((l ++ [r]).map encP)) := fun l hl r => by
        rw [appD_ok _ _ (by simp; omega)]
        simp
      have hlen : (st w (i + 1)).1.length ≤ i + 1 := by
        have : ∀ j, (st w j).1.length ≤ j := fun j => by
          induction j with
          | zero => simp [st]
          | succ j ih =>
            unfold st
            split
            · omega
            · simp; omega
        exact this _
      by_cases hl : i + 1 = w.length
      · have hnl : ¬ (i + 1 < w.length) := by omega
        have hil : (1 : Int) + i = w.length := by omega
        have e1 := ea (st w (i + 1)).1 (by omega) ((st w (i + 1)).2, w.length - (st w (i + 1)).2)
        have e2 : (st w (i + 1)).1 ++ [((st w (i + 1)).2, w.length - (st w (i + 1)).2)] = runs w := by rw [hl]; rfl
        rw [e2] at e1
        have e0 : encP ((st w (i + 1)).2, w.length - (st w (i + 1)).2) = .tuple [.int (st w (i + 1)).2, .int w.length] := by
          show prD (st w (i + 1)).2 ((st w (i + 1)).2 + (w.length - (st w (i + 1)).2)) = _
          rw [show (st w (i + 1)).2 + (w.length - (st w (i + 1)).2) = w.length by omega]
        rw [e0] at e1
        refine ⟨_, ⟨[some (.v (tupI w)), some (.m (.lst ((runs w).map encP))), some (.v (.int (w.length : Nat))), some (.v (.int (1 + (i : Nat))))], []⟩, rfl, .inl ?_, rfl, w.length, _, by rw [if_neg hnl]; trivial, by rw [if_neg hnl]⟩
        simp only [bodyOf, l1_runs_of]
        simp [hil, e1]
      · have hlt : i + 1 < w.length := by omega
        have hil : ¬ ((1 : Int) + i = w.length) := by omega
        have s1 := sub_w hlt
        have s2 := sub_w (w := w) (i := (st w (i + 1)).2) (by omega)
        rw [show ((i + 1 : Nat) : Int) = 1 + (i : Int) by omega] at s1
        have hw2 : w[(st w (i + 1)).2]'(by omega) = w[i] := by
          rw [List.getElem?_eq_getElem (by omega), List.getElem?_eq_getElem (by omega)] at hsame
          exact Option.some.inj hsame
        rw [hw2] at s2
        have est : st w (i + 1 + 1) = if i + 1 = 0 ∨ w[i + 1]? = w[i]? then st w (i + 1) else ((st w (i + 1)).1 ++ [((st w (i + 1)).2, i + 1 - (st w (i + 1)).2)], i + 1) := rfl
        by_cases hb : w[i + 1] = w[i]
        · have : w[i + 1]? = w[i]? := by rw [List.getElem?_eq_getElem hlt, List.getElem?_eq_getElem (by omega), hb]
          rw [if_pos (.inr this)] at est
          refine ⟨_, ⟨[some (.v (tupI w)), some (.m (.lst ((st w (i + 1)).1.map encP))), some (.v (.int ((st w (i + 1)).2 : Nat))), some (.v (.int (1 + (i : Nat))))], []⟩, rfl, .inl ?_, rfl, (st w (i + 1)).2, _, by rw [if_pos hlt, est], by rw [if_pos hlt, est]⟩
          simp only [bodyOf, l1_runs_of]
          simp [hil, s1, s2, hb]
        · have : ¬ (i + 1 = 0 ∨ w[i + 1]? = w[i]?) := by
            rw [List.getElem?_eq_getElem hlt, List.getElem?_eq_getElem (by omega)]
            rintro (h | h)
            · omega
            · exact hb (Option.some.inj h)
          rw [if_neg this] at est
          have e1 := ea (st w (i + 1)).1 (by omega) ((st w (i + 1)).2, i + 1 - (st w (i + 1)).2)
          have e0 : encP ((st w (i + 1)).2, i + 1 - (st w (i + 1)).2) = .tuple [.int (st w (i + 1)).2, .int (1 + (i : Int))] := by
            show prD (st w (i + 1)).2 ((st w (i + 1)).2 + (i + 1 - (st w (i + 1)).2)) = _
            rw [show (st w (i + 1)).2 + (i + 1 - (st w (i + 1)).2) = i + 1 by omega]
            show PyData.tuple [.int (st w (i + 1)).2, .int ((i + 1 : Nat) : Int)] = _
            rw [show ((i + 1 : Nat) : Int) = 1 + (i : Int) by omega]
          rw [e0] at e1
          refine ⟨_, ⟨[some (.v (tupI w)), some (.m (.lst (((st w (i + 1)).1 ++ [((st w (i + 1)).2, i + 1 - (st w (i + 1)).2)]).map encP))), some (.v (.int ((i + 1 : Nat) : Int))), some (.v (.int (1 + (i : Nat))))], []⟩, rfl, .inl ?_, rfl, i + 1, _, by rw [if_pos hlt, est], by rw [if_pos hlt, est]⟩
          simp only [bodyOf, l1_runs_of]
          have e4 : (1 : Int) + i = (i : Int) + 1 := by omega
          rw [show ((i + 1 : Nat) : Int) = 1 + (i : Int) by omega]
          simp [hil, s1, s2, hb, e1, -List.map_append])
  have r1 : ((w.length : Int) + 1 - 1).toNat = w.length := by omega
  have r2 : (w.length : Int) + 1 < 1152921504606846976 := by omega
  have r3 : -1152921504606846976 < (w.length : Int) + 1 := by omega
  have r4 : (w.length : Int) + 1 - 1 ≤ LINE := by show _ ≤ ((16777216 : Nat) : Int); omega
  rw [if_neg (Nat.lt_irrefl _)] at e
  simp [runFn, f_runs_of, b_runs_of, rng2D, r1, r2, r3, z, e]
omit S in
theorem runs_len {w : List Int} (h0 : 0 < w.length) : (runs w).length ≤ w.length + 1 := by
  have : ∀ j, (st w j).1.length ≤ j := fun j => by
    induction j with
    | zero => simp [st]
    | succ j ih =>
      unfold st
      split
      · omega
      · simp; omega
  have := this w.length
  unfold runs
  simp; omega
omit S in
theorem short_len {w : List Int} {n : Nat} (h0 : 0 < w.length) : (short w n).length ≤ w.length + 1 := by
  unfold short
  refine Nat.le_trans (List.length_filter_le ..) (Nat.le_trans cut_len (runs_len h0))
theorem short_runs_ok (k : Nat) (w : List Int) (number : Nat) (h0 : 0 < w.length) (hz : w.length ≤ 1000) : F (k+2) 11 [.v (tupI w), .v (.int number)] [] = .ok (.m (.lst ((short w number).map encP))) [] := by
  rw [S.short_runs]
  have er := runs_of_ok S k w h0 hz
  have hc : loopC (.t [2, 3]) [2, 3] (stands ⟨(cut (runs w) (some 1) (some (-1))).map encP, none⟩) (turnOf glo (F (k+1)) c1_short_runs e1_short_runs) ((cut (runs w) (some 1) (some (-1))).map encP) ⟨[some (.v (tupI w)), some (.v (.int number)), none, none], []⟩ =
      .ok ((short w number).map encP) ⟨[some (.v (tupI w)), some (.v (.int number)), none, none], []⟩ := by
    unfold short
    refine loopC_enc _ _ _ fun r _ => ?_
    refine ⟨_, ⟨[some (.v (tupI w)), some (.v (.int number)), some (.v (.int r.1)), some (.v (.int (r.1 + r.2 : Nat)))], []⟩, rfl, ?_, rfl, rfl⟩
    have e : ((r.1 + r.2 : Nat) : Int) - r.1 = r.2 := by omega
    by_cases h : r.2 ≤ number
    · have h' : (r.2 : Int) ≤ number := by omega
      simp only [turnOf_, c1_short_runs, e1_short_runs]
      simp [h, Int.add_comm (r.1 : Int) r.2, Int.add_sub_cancel]
    · have h' : ¬ (r.2 : Int) ≤ number := by omega
      simp only [turnOf_, c1_short_runs, e1_short_runs]
      simp [h, Int.add_comm (r.1 : Int) r.2, Int.add_sub_cancel]
  have hl : (short w number).length ≤ LINE := by have := short_len (n := number) h0; show _ ≤ 16777216; omega
  have ec := cut_map encP (runs w) (some 1) (some (-1))
  have es : dSlc (some 1) (some (-1)) (.m (.lst ((runs w).map encP))) = some (.m (.lst ((cut (runs w) (some 1) (some (-1))).map encP))) := by
    show some (R.m (.lst (cut ((runs w).map encP) (some 1) (some (-1))))) = _
    rw [ec]
  simp [runFn, f_short_runs, b_short_runs, er, es, hc, hl, unwipe]
theorem short_run_ok (k : Nat) (w : List Int) (number : Nat) (hw : bits w) (h0 : 0 < w.length) (hz : w.length ≤ 1000) : F (k+5) 12 [.v (tupI w), .v (.int number)] [] = .ok (.v (fstD (short w number))) [] := by
  rw [S.short_run]
  have e1 := need_full_word_ok' S k w hw h0
  have e2 := need_number_ok S (k+2) number
  have e3 := short_runs_ok S (k+2) w number h0 hz
  cases hs : short w number with
  | nil =>
    rw [hs] at e3
    simp [runFn, f_short_run, b_short_run, e1, e2, e3, fstD]
  | cons r rs =>
    rw [hs] at e3
    simp only [List.map_cons] at e3
    simp [runFn, f_short_run, b_short_run, e1, e2, e3, loopF_cons_, bodyOf, l1_short_run, fstD]
theorem without_short_ok (k : Nat) (w : List Int) (number : Nat) (b : Int) (hb : 0 ≤ b ∧ b ≤ 1) (h0 : 0 < w.length) (hz : w.length ≤ 1000) : F (k+3) 13 [.v (tupI w), .v (.int number), .v (.int b)] [] = .ok (.v (tupI (wo w number b))) [] := by
  rw [S.without_short]
  have e3 := short_runs_ok S k w number h0 hz
  have hrng := short_rng (k := number) h0
  obtain ⟨env', e, x, y, z, rfl⟩ := loopF_pre (g := .t [4, 5]) (chk := stands ⟨(short w number).map encP, none⟩) (body := bodyOf glo (F (k+2)) l2_without_short) encP (xs := short w number) (env := ⟨[some (.v (tupI w)), some (.v (.int number)), some (.v (.int b)), some (.m (.lst (w.map .int))), none, none, none], []⟩)
    (fun pre env => ∃ x y z, env = ⟨[some (.v (tupI w)), some (.v (.int number)), some (.v (.int b)), some (.m (.lst ((pre.foldl (wstep w b) w).map .int))), x, y, z], []⟩) ⟨none, none, none, rfl⟩ (by
      rintro pre r post env hd ⟨x, y, z, rfl⟩
      have hr := hrng r (by rw [hd]; simp)
      have hvl := wo_len_aux w b pre w
      rw [List.foldl_append]
      generalize pre.foldl (wstep w b) w = v at hvl
      simp only [List.foldl_cons, List.foldl_nil]
      have h1 : r.1 < w.length := hr.2
      have hp := sub_w h1
      by_cases h2 : w[r.1] = b
      · rw [h2] at hp
        have e1 : wstep w b v r = sr v r.1 r.2 (1 - b) := by unfold wstep; rw [if_pos (by rw [List.getElem?_eq_getElem h1, h2])]
        obtain ⟨env'', e2, z2, rfl⟩ := loopF_rngL (g := .n 6) (chk := stands ⟨rangeD (r.1 : Int) r.2, none⟩) (body := bodyOf glo (F (k+2)) l1_without_short) (lo := (r.1 : Int)) (n := r.2)
          (env := ⟨[some (.v (tupI w)), some (.v (.int number)), some (.v (.int b)), some (.m (.lst (v.map .int))), some (.v (.int r.1)), some (.v (.int (r.1 + r.2 : Nat))), z], []⟩)
          (fun t env => ∃ z, env = ⟨[some (.v (tupI w)), some (.v (.int number)), some (.v (.int b)), some (.m (.lst ((sr v r.1 t (1 - b)).map .int))), some (.v (.int r.1)), some (.v (.int (r.1 + r.2 : Nat))), z], []⟩) ⟨z, rfl⟩ (by
            rintro t env ht ⟨z, rfl⟩
            have ep : putM ((r.1 : Int) + t) (.int (1 - b)) (.lst ((sr v r.1 t (1 - b)).map .int)) = some (.lst ((sr v r.1 (t + 1) (1 - b)).map .int)) := by
              rw [putM_ok (j := r.1 + t) (by rw [List.length_map, sr_len]; omega) (by omega), sr_succ, List.map_set]
            refine ⟨_, ⟨[some (.v (tupI w)), some (.v (.int number)), some (.v (.int b)), some (.m (.lst ((sr v r.1 (t + 1) (1 - b)).map .int))), some (.v (.int r.1)), some (.v (.int (r.1 + r.2 : Nat))), some (.v (.int ((r.1 : Int) + t)))], []⟩, rfl, .inl ?_, rfl, _, rfl⟩
            simp only [bodyOf, l1_without_short]
            simp [ep])
        have er := rng2D_ok (lo := (r.1 : Int)) (hi := ((r.1 + r.2 : Nat) : Int)) (n := r.2) (by omega) (by omega) (by omega) (by omega)
        rw [e1]
        refine ⟨_, ⟨[some (.v (tupI w)), some (.v (.int number)), some (.v (.int b)), some (.m (.lst ((sr v r.1 r.2 (1 - b)).map .int))), some (.v (.int r.1)), some (.v (.int (r.1 + r.2 : Nat))), z2], []⟩, rfl, .inl ?_, rfl, _, _, _, rfl⟩
        push_cast at er e2 ⊢
        simp only [bodyOf, l2_without_short]
        simp [hp, er, e2]
      · have e1 : wstep w b v r = v := by
          unfold wstep
          rw [if_neg (by rw [List.getElem?_eq_getElem h1]; simpa using h2)]
        rw [e1]
        refine ⟨_, ⟨[some (.v (tupI w)), some (.v (.int number)), some (.v (.int b)), some (.m (.lst (v.map .int))), some (.v (.int r.1)), some (.v (.int (r.1 + r.2 : Nat))), z], []⟩, rfl, .inl ?_, rfl, _, _, _, rfl⟩
        simp only [bodyOf, l2_without_short]
        simp [hp, h2])
  simp [runFn, f_without_short, b_without_short, e3, e]
  rfl
end
end Law
namespace Law
open PySem Di
theorem wide_at {w : List Int} {n : Nat} (h0 : 0 < w.length) {i t : Nat} (hi : i < w.length) (ht : t < 2 * n + 1) :
    (List.replicate n (w[0]'h0) ++ w ++ List.replicate n (w[w.length - 1]'(by omega)))[i + t]? = some (ext w ((i : Int) - n + t)) := by
  by_cases h1 : i + t < n
  · rw [List.append_assoc, List.getElem?_append_left (by simpa using h1), List.getElem?_replicate, if_pos h1, ext_low h0 (by omega), show ((0 : Int)) = ((0 : Nat) : Int) from rfl, ext_nat h0]
    simp [h0]
  · by_cases h2 : i + t < n + w.length
    · rw [List.getElem?_append_left (by simp; omega), List.getElem?_append_right (by simp; omega)]
      simp only [List.length_replicate]
      have e : (i : Int) - n + t = ((i + t - n : Nat) : Int) := by omega
      rw [e, ext_nat (by omega), List.getElem?_eq_getElem (by omega)]
      rfl
    · rw [List.getElem?_append_right (by simp; omega), List.getElem?_replicate]
      simp only [List.length_append, List.length_replicate]
      rw [if_pos (by omega), ext_high (by omega) h0]
      have e : (w.length : Int) - 1 = ((w.length - 1 : Nat) : Int) := by omega
      rw [e, ext_nat (by omega), List.getElem?_eq_getElem (by omega)]
      rfl
theorem wide_sum {w : List Int} {n : Nat} (h0 : 0 < w.length) {i : Nat} (hi : i < w.length) :
    (((List.replicate n (w[0]'h0) ++ w ++ List.replicate n (w[w.length - 1]'(by omega))).drop i).take (2 * n + 1)).sum = wsum w n i := by
  unfold wsum
  rw [← SS_map]
  congr 1
  apply List.ext_getElem?
  intro t
  by_cases ht : t < 2 * n + 1
  · rw [List.getElem?_take, if_pos ht, List.getElem?_drop, wide_at h0 hi ht]
    simp [ht]
  · rw [List.getElem?_eq_none (by simp; omega), List.getElem?_eq_none (by simp; omega)]
section
variable {F : Nat → Calls} (S : Sem glo F)
include S
theorem opened_word_ok (k : Nat) (w : List Int) (number : Nat) (hw : bits w) (h0 : 0 < w.length) (hz : w.length ≤ 1000) : F (k+5) 14 [.v (tupI w), .v (.int number)] [] = .ok (.v (tupI (wo w number 1))) [] := by
  rw [S.opened_word]
  simp [runFn, f_opened_word, b_opened_word, need_full_word_ok' S k w hw h0, need_number_ok S (k+2) number, without_short_ok S (k+1) w number 1 (by decide) h0 hz]
theorem closed_word_ok (k : Nat) (w : List Int) (number : Nat) (hw : bits w) (h0 : 0 < w.length) (hz : w.length ≤ 1000) : F (k+5) 15 [.v (tupI w), .v (.int number)] [] = .ok (.v (tupI (wo w number 0))) [] := by
  rw [S.closed_word]
  simp [runFn, f_closed_word, b_closed_word, need_full_word_ok' S k w hw h0, need_number_ok S (k+2) number, without_short_ok S (k+1) w number 0 (by decide) h0 hz]
omit S in
theorem sum_t (w : List Int) : dBlt .sum [.v (tupI w)] = some (.v (.int w.sum)) := by
  show (match ints? (w.map .int) with
      | some is => some (R.v (.int is.sum))
      | none => none) = _
  rw [ints_map]
omit S in
theorem dMul_t1 (x : Di.D) (n : Nat) (hn : n ≤ 1000) : dMul (.v (.tuple [x])) (.v (.int n)) = some (.v (.tuple (List.replicate n x))) := by
  show (if [x].length ≤ 1000 ∧ (n : Int) ≤ 1000 ∧ -1000 ≤ (n : Int) then some (R.v (.tuple (List.replicate (n : Int).toNat [x]).flatten)) else none) = _
  rw [if_pos ⟨by simp, by omega, by omega⟩, Int.toNat_natCast]
  simp
theorem law_pass_ok (k : Nat) (w : List Int) (number : Nat) (h0 : 0 < w.length) (hz : w.length ≤ 1000) (hk : number ≤ 100) : F (k+1) 21 [.v (tupI w), .v (.int number)] [] = .ok (.v (tupI (pass number w))) [] := by
  rw [S.law_pass]
  have c1 : cut (w.map PyData.int) none (some 1) = [.int w[0]] := by
    have := cut_nt w 1
    rw [cut_map, show (1 : Int) = ((1 : Nat) : Int) from rfl, this, List.take_one, List.head?_eq_getElem?, List.getElem?_eq_getElem h0]
    rfl
  have c2 : cut (w.map PyData.int) (some (-1)) none = [.int (w[w.length - 1]'(by omega))] := by
    rw [cut_map]
    have : cut w (some (-1)) none = w.drop (w.length - 1) := by
      unfold cut
      have e : sIx w.length 0 (some (-1)) = w.length - 1 := by
        show (if (-1 : Int) < 0 then ((-1 : Int) + (w.length : Nat)).toNat else min (-1 : Int).toNat w.length) = _
        rw [if_pos (by decide)]; omega
      rw [e, sIx_none, List.take_of_length_le (by simp)]
    rw [this, List.drop_eq_getElem_cons (by omega), List.drop_of_length_le (by omega)]
    rfl
  obtain ⟨wide, hwide⟩ : ∃ wide, wide = List.replicate number (w[0]'h0) ++ w ++ List.replicate number (w[w.length - 1]'(by omega)) := ⟨_, rfl⟩
  have m1 := dMul_t1 (.int w[0]) number (by omega)
  have m2 := dMul_t1 (.int (w[w.length - 1]'(by omega))) number (by omega)
  have ew : List.replicate number (PyData.int w[0]) ++ w.map .int ++ List.replicate number (PyData.int (w[w.length - 1]'(by omega))) = wide.map .int := by
    rw [hwide]; simp
  have l1 : (List.replicate number (PyData.int w[0])).length + (w.map PyData.int).length ≤ LINE := by simp; show _ ≤ 16777216; omega
  have l2 : (List.replicate number (PyData.int w[0]) ++ w.map PyData.int).length + (List.replicate number (PyData.int (w[w.length - 1]'(by omega)))).length ≤ LINE := by simp; show _ ≤ 16777216; omega
  have hc : loopC (.n 3) [3] (stands ⟨rangeD 0 w.length, none⟩) (turnOf glo (F k) .nil e1_law_pass) (rangeD 0 w.length) ⟨[some (.v (tupI w)), some (.v (.int number)), some (.v (tupI wide)), none], []⟩ =
      .ok ((pass number w).map .int) ⟨[some (.v (tupI w)), some (.v (.int number)), some (.v (tupI wide)), none], []⟩ := by
    unfold pass
    rw [List.map_map]
    refine loopC_rngM _ fun i hi => ?_
    have e1 : (i : Int) + 2 * (number : Int) + 1 = ((i + (2 * number + 1) : Nat) : Int) := by omega
    have e2 : dSlc (some (i : Int)) (some ((i : Int) + 2 * (number : Int) + 1)) (.v (tupI wide)) = some (.v (tupI ((wide.drop i).take (2 * number + 1)))) := by
      rw [e1]
      show some (R.v (.tuple (cut (wide.map .int) (some (i : Int)) (some ((i + (2 * number + 1) : Nat) : Int))))) = _
      rw [cut_map, cut_ff]
      congr 5
      omega
    have e3 := sum_t ((wide.drop i).take (2 * number + 1))
    rw [hwide] at e2 e3
    rw [wide_sum h0 hi] at e3
    rw [← hwide] at e2 e3
    refine ⟨_, ⟨[some (.v (tupI w)), some (.v (.int number)), some (.v (tupI wide)), some (.v (.int i))], []⟩, rfl, ?_, rfl, rfl⟩
    simp only [turnOf_, e1_law_pass]
    have m := dMul_l (i := 2) (j := number) (by decide)
    simp only [Law.tupI] at e2 e3
    simp [m, e2, e3, -dSlc_tup, -List.map_take, -List.map_drop]
  have lp : (pass number w).length ≤ LINE := by rw [pass_len]; show _ ≤ 16777216; omega
  have z := rng1D_ok (hi := (w.length : Int)) (n := w.length) rfl (by omega)
  simp only [runFn, f_law_pass, b_law_pass]
  simp only [List.length_append, List.length_replicate, List.length_map] at l1 l2
  simp [c1, c2, m1, m2, l1, l2, ew, z, hc, lp, unwipe]
end
end Law
namespace Law
open PySem Di
def runsTo (w : List Int) (i : Nat) : List (Nat × Nat) := if i = 0 then [] else (st w i).1 ++ [((st w i).2, i - (st w i).2)]
theorem rng1D_s {m : Nat} (h : m ≤ 1000) (env : Di.Env) : rng1D (.v (.int ((m : Int) + 1))) env = .ok ⟨rangeD 0 (m + 1), none⟩ env := by
  have h2 : m + 1 ≤ 1000000 := Nat.le_trans (Nat.succ_le_succ h) (by decide)
  exact rng1D_ok (n := m + 1) rfl h2 env
section
variable {F : Nat → Calls} (S : Sem glo F)
include S
theorem law_runs_ok (k : Nat) (w : List Int) (h0 : 0 < w.length) (hz : w.length ≤ 1000) : F (k+1) 22 [.v (tupI w)] [] = .ok (.m (.lst ((runs w).map encL))) [] := by
  rw [S.law_runs]
  obtain ⟨env', e, y, rfl⟩ := loopF_rng (g := .n 2) (chk := stands ⟨rangeD 0 w.length, none⟩) (body := bodyOf glo (F k) l1_law_runs) (n := w.length) (env := ⟨[some (.v (tupI w)), some (.m (.lst [])), none], []⟩)
    (fun i env => ∃ y, env = ⟨[some (.v (tupI w)), some (.m (.lst ((runsTo w i).map encL))), y], []⟩) ⟨none, rfl⟩ (by
      rintro i env hi ⟨y, rfl⟩
      have s1 := sub_w hi
      by_cases hi0 : i = 0
      · subst hi0
        refine ⟨_, ⟨[some (.v (tupI w)), some (.m (.lst ((runsTo w 1).map encL))), some (.v (.int (0 : Nat)))], []⟩, rfl, .inl ?_, rfl, _, rfl⟩
        have ea : appD (.tuple [.int 0, .int 1]) (.lst []) = some (.lst [.tuple [.int 0, .int 1]]) := rfl
        simp only [bodyOf, l1_law_runs]
        simp [runsTo, st, ea]
      · obtain ⟨j, rfl⟩ : ∃ j, i = j + 1 := ⟨i - 1, by omega⟩
        have s2 := sub_w (w := w) (i := j) (by omega)
        have hjj : ((j + 1 : Nat) : Int) - 1 = j := by omega
        have hpos : (0 : Int) < ((j + 1 : Nat) : Int) := by omega
        have est : st w (j + 1 + 1) = if j + 1 = 0 ∨ w[j + 1]? = w[j]? then st w (j + 1) else ((st w (j + 1)).1 ++ [((st w (j + 1)).2, j + 1 - (st w (j + 1)).2)], j + 1) := rfl
        have hf := st_lt w (j + 1) (by omega)
        have er : runsTo w (j + 1) = (st w (j + 1)).1 ++ [((st w (j + 1)).2, j + 1 - (st w (j + 1)).2)] := rfl
        have er2 : runsTo w (j + 1 + 1) = (st w (j + 1 + 1)).1 ++ [((st w (j + 1 + 1)).2, j + 1 + 1 - (st w (j + 1 + 1)).2)] := rfl
        by_cases hb : w[j + 1] = w[j]
        · have : w[j + 1]? = w[j]? := by rw [List.getElem?_eq_getElem hi, List.getElem?_eq_getElem (by omega), hb]
          rw [if_pos (.inr this)] at est
          rw [er2, est, er]
          generalize (st w (j + 1)).1 = L at *
          generalize (st w (j + 1)).2 = f at *
          have em : (L ++ [(f, j + 1 - f)]).map encL = L.map encL ++ [PyData.tuple [.int f, .int ((j + 1 - f : Nat) : Int)]] := by simp
          have em2 : (L ++ [(f, j + 1 + 1 - f)]).map encL = L.map encL ++ [.tuple [.int f, .int (((j + 1 - f : Nat) : Int) + 1)]] := by
            rw [List.map_append]
            show _ ++ [PyData.tuple [.int f, .int ((j + 1 + 1 - f : Nat) : Int)]] = _
            rw [show ((j + 1 + 1 - f : Nat) : Int) = ((j + 1 - f : Nat) : Int) + 1 by omega]
          rw [em, em2]
          have g1 := dSub_last (L := L.map encL) (x := .tuple [.int f, .int ((j + 1 - f : Nat) : Int)])
          have g2 : ∀ a b : Di.D, dSub (.v (.tuple [a, b])) (.v (.int 0)) = some (.v a) := fun _ _ => rfl
          have g3 : ∀ a b : Di.D, dSub (.v (.tuple [a, b])) (.v (.int 1)) = some (.v b) := fun _ _ => rfl
          have g4 := putM_last (L := L.map encL) (x := .tuple [.int f, .int ((j + 1 - f : Nat) : Int)]) (d := .tuple [.int f, .int (((j + 1 - f : Nat) : Int) + 1)])
          refine ⟨_, ⟨[some (.v (tupI w)), some (.m (.lst (L.map encL ++ [.tuple [.int f, .int (((j + 1 - f : Nat) : Int) + 1)]]))), some (.v (.int ((j + 1 : Nat) : Int)))], []⟩, rfl, .inl ?_, rfl, _, rfl⟩
          generalize ((j + 1 - f : Nat) : Int) = d at *
          generalize ((j + 1 : Nat) : Int) = jj at *
          simp only [bodyOf, l1_law_runs]
          simp [hpos, s1, hjj, s2, hb, g1, g2, g3, g4]
        · have : ¬ (j + 1 = 0 ∨ w[j + 1]? = w[j]?) := by
            rw [List.getElem?_eq_getElem hi, List.getElem?_eq_getElem (by omega)]
            rintro (h | h)
            · omega
            · exact hb (Option.some.inj h)
          rw [if_neg this] at est
          have hlen : (runsTo w (j + 1)).length ≤ 5000 := by
            have : ∀ j, (st w j).1.length ≤ j := fun j => by
              induction j with
              | zero => simp [st]
              | succ j ih =>
                unfold st
                split
                · omega
                · simp; omega
            have := this (j + 1)
            rw [er]; simp; omega
          rw [er2, est]
          rw [← er]
          have e1 : j + 1 + 1 - (j + 1) = 1 := by omega
          rw [e1]
          have ea : appD (prD (j + 1) 1) (.lst ((runsTo w (j + 1)).map encL)) = some (.lst ((runsTo w (j + 1) ++ [(j + 1, 1)]).map encL)) := by
            rw [appD_ok _ _ (by simp; omega)]
            simp
          refine ⟨_, ⟨[some (.v (tupI w)), some (.m (.lst ((runsTo w (j + 1) ++ [(j + 1, 1)]).map encL))), some (.v (.int ((j + 1 : Nat) : Int)))], []⟩, rfl, .inl ?_, rfl, _, rfl⟩
          have ea : appD (.tuple [.int ((j + 1 : Nat) : Int), .int 1]) (.lst ((runsTo w (j + 1)).map encL)) = some (.lst ((runsTo w (j + 1) ++ [(j + 1, 1)]).map encL)) := ea
          generalize ((j + 1 : Nat) : Int) = jj at *
          simp only [bodyOf, l1_law_runs]
          simp [hpos, s1, hjj, s2, hb, ea, -List.map_append])
  have z := rng1D_ok (hi := (w.length : Int)) (n := w.length) rfl (by omega)
  have er : runsTo w w.length = runs w := if_neg (by omega)
  rw [er] at e
  simp [runFn, f_law_runs, b_law_runs, z, e]
theorem law_short_ok (k : Nat) (w : List Int) (number : Nat) (h0 : 0 < w.length) (hz : w.length ≤ 1000) : F (k+2) 24 [.v (tupI w), .v (.int number)] [] = .ok (.m (.lst ((short w number).map encL))) [] := by
  rw [S.law_short]
  have er := law_runs_ok S k w h0 hz
  have hc : loopC (.n 2) [2] (stands ⟨(cut (runs w) (some 1) (some (-1))).map encL, none⟩) (turnOf glo (F (k+1)) c1_law_short e1_law_short) ((cut (runs w) (some 1) (some (-1))).map encL) ⟨[some (.v (tupI w)), some (.v (.int number)), none], []⟩ =
      .ok ((short w number).map encL) ⟨[some (.v (tupI w)), some (.v (.int number)), none], []⟩ := by
    unfold short
    refine loopC_enc _ _ _ fun r _ => ?_
    refine ⟨_, ⟨[some (.v (tupI w)), some (.v (.int number)), some (.v (encL r))], []⟩, rfl, ?_, rfl, rfl⟩
    have g3 : ∀ a b : Di.D, dSub (.v (.tuple [a, b])) (.v (.int 1)) = some (.v b) := fun _ _ => rfl
    by_cases h : r.2 ≤ number
    · have h' : (r.2 : Int) ≤ number := by omega
      simp only [turnOf_, c1_law_short, e1_law_short]
      simp [h, g3]
    · have h' : ¬ (r.2 : Int) ≤ number := by omega
      simp only [turnOf_, c1_law_short, e1_law_short]
      simp [h, g3]
  have hl : (short w number).length ≤ LINE := by have := short_len (n := number) h0; show _ ≤ 16777216; omega
  have ec := cut_map encL (runs w) (some 1) (some (-1))
  have es : dSlc (some 1) (some (-1)) (.m (.lst ((runs w).map encL))) = some (.m (.lst ((cut (runs w) (some 1) (some (-1))).map encL))) := by
    show some (R.m (.lst (cut ((runs w).map encL) (some 1) (some (-1))))) = _
    rw [ec]
  simp [runFn, f_law_short, b_law_short, er, es, hc, hl, unwipe]
theorem law_settled_ok (k : Nat) (w : List Int) (number T : Nat) (h0 : 0 < w.length) (hz : w.length ≤ 1000) (hk : number ≤ 100) (hT : T < w.length) (h1 : pass number (it number w T) = it number w T) (h2 : ∀ t, t < T → pass number (it number w t) ≠ it number w t) :
    F (k+2) 23 [.v (tupI w), .v (.int number)] [] = .ok (.v (.tuple [.int T, tupI (it number w T)])) [] := by
  rw [S.law_settled]
  obtain ⟨N, hN⟩ : ∃ N, N = w.length + 1 := ⟨_, rfl⟩
  obtain ⟨env', e⟩ := loopF_rngA (g := .n 2) (chk := stands ⟨rangeD 0 N, none⟩) (body := bodyOf glo (F (k+1)) l1_law_settled) (n := N) (env := ⟨[some (.v (tupI w)), some (.v (.int number)), none, none], []⟩)
    (fun i env => i ≤ T ∧ ∃ x y, env = ⟨[some (.v (tupI (it number w i))), some (.v (.int number)), x, y], []⟩) (fun r env => r = .v (.tuple [.int T, tupI (it number w T)]) ∧ env.le = []) ⟨by omega, none, none, rfl⟩ (by
      rintro i env hi ⟨hiT, x, y, rfl⟩
      have ep := law_pass_ok S k (it number w i) number (by rw [it_len]; exact h0) (by rw [it_len]; exact hz) hk
      by_cases hT' : i = T
      · subst hT'
        have ed := dEq_ints (pass number (it number w i)) (it number w i)
        rw [h1] at ed ep
        refine ⟨_, ⟨[some (.v (tupI (it number w i))), some (.v (.int number)), some (.v (.int i)), some (.v (tupI (it number w i)))], []⟩, rfl, .inl ⟨_, ?_, rfl, rfl⟩⟩
        simp only [bodyOf, l1_law_settled]
        simp [ep, ed]
      · have ed := dEq_ints (pass number (it number w i)) (it number w i)
        rw [decide_eq_false (h2 i (by omega))] at ed
        refine ⟨_, ⟨[some (.v (tupI (it number w (i + 1)))), some (.v (.int number)), some (.v (.int i)), some (.v (tupI (it number w (i + 1))))], []⟩, rfl, .inr ⟨.inl ?_, rfl, by omega, _, _, rfl⟩⟩
        have ei : it number w (i + 1) = pass number (it number w i) := rfl
        rw [ei]
        simp only [bodyOf, l1_law_settled]
        simp [ep, ed])
  have z := rng1D_s hz
  rw [← hN] at z
  rcases e with ⟨r, e, rfl, hle⟩ | ⟨e, hh, _⟩
  · simp [runFn, f_law_settled, b_law_settled, z, e, hle]
  · omega
theorem law_without_ok (k : Nat) (w : List Int) (number : Nat) (b : Int) (hb : 0 ≤ b ∧ b ≤ 1) (h0 : 0 < w.length) (hz : w.length ≤ 1000) : F (k+3) 25 [.v (tupI w), .v (.int number), .v (.int b)] [] = .ok (.v (tupI (wo w number b))) [] := by
  rw [S.law_without]
  have e3 := law_short_ok S k w number h0 hz
  have hrng := short_rng (k := number) h0
  obtain ⟨env', e, x, y, z, rfl⟩ := loopF_pre (g := .t [4, 5]) (chk := stands ⟨(short w number).map encL, none⟩) (body := bodyOf glo (F (k+2)) l2_law_without) encL (xs := short w number) (env := ⟨[some (.v (tupI w)), some (.v (.int number)), some (.v (.int b)), some (.m (.lst (w.map .int))), none, none, none], []⟩)
    (fun pre env => ∃ x y z, env = ⟨[some (.v (tupI w)), some (.v (.int number)), some (.v (.int b)), some (.m (.lst ((pre.foldl (wstep w b) w).map .int))), x, y, z], []⟩) ⟨none, none, none, rfl⟩ (by
      rintro pre r post env hd ⟨x, y, z, rfl⟩
      have hr := hrng r (by rw [hd]; simp)
      have hvl := wo_len_aux w b pre w
      rw [List.foldl_append]
      generalize pre.foldl (wstep w b) w = v at hvl
      simp only [List.foldl_cons, List.foldl_nil]
      have h1 : r.1 < w.length := hr.2
      have hp := sub_w h1
      have e1 : wstep w b v r = if w[r.1] = b then sr v r.1 r.2 (1 - b) else v := by
        unfold wstep
        rw [List.getElem?_eq_getElem h1]
        simp
      obtain ⟨env'', e2, z2, rfl⟩ := loopF_rngL (g := .n 6) (chk := stands ⟨rangeD (r.1 : Int) r.2, none⟩) (body := bodyOf glo (F (k+2)) l1_law_without) (lo := (r.1 : Int)) (n := r.2)
          (env := ⟨[some (.v (tupI w)), some (.v (.int number)), some (.v (.int b)), some (.m (.lst (v.map .int))), some (.v (.int r.1)), some (.v (.int r.2)), z], []⟩)
          (fun t env => ∃ z, env = ⟨[some (.v (tupI w)), some (.v (.int number)), some (.v (.int b)), some (.m (.lst ((if w[r.1] = b then sr v r.1 t (1 - b) else v).map .int))), some (.v (.int r.1)), some (.v (.int r.2)), z], []⟩) ⟨z, by simp [sr]⟩ (by
            rintro t env ht ⟨z, rfl⟩
            have hix : (r.1 : Int) + t = ((r.1 + t : Nat) : Int) := by omega
            by_cases h2 : w[r.1] = b
            · rw [if_pos h2, if_pos h2]
              have ep : putM ((r.1 : Int) + t) (.int (1 - b)) (.lst ((sr v r.1 t (1 - b)).map .int)) = some (.lst ((sr v r.1 (t + 1) (1 - b)).map .int)) := by
                rw [putM_ok (j := r.1 + t) (by rw [List.length_map, sr_len]; omega) (by omega), sr_succ, List.map_set]
              refine ⟨_, ⟨[some (.v (tupI w)), some (.v (.int number)), some (.v (.int b)), some (.m (.lst ((sr v r.1 (t + 1) (1 - b)).map .int))), some (.v (.int r.1)), some (.v (.int r.2)), some (.v (.int ((r.1 : Int) + t)))], []⟩, rfl, .inl ?_, rfl, _, rfl⟩
              simp only [bodyOf, l1_law_without]
              simp [hp, h2, ep]
            · rw [if_neg h2, if_neg h2]
              have hvv : r.1 + t < v.length := by omega
              have eg : dSub (.m (.lst (v.map .int))) (.v (.int ((r.1 : Int) + t))) = some (.v (.int v[r.1 + t])) := by
                rw [hix]
                exact dSub_m (ixD_nat (by simpa using hvv)) (by simp [hvv])
              have ep : putM ((r.1 : Int) + t) (.int v[r.1 + t]) (.lst (v.map .int)) = some (.lst (v.map .int)) := by
                rw [putM_ok (j := r.1 + t) (by simpa using hvv) (by omega), ← List.map_set, List.set_getElem_self]
              refine ⟨_, ⟨[some (.v (tupI w)), some (.v (.int number)), some (.v (.int b)), some (.m (.lst (v.map .int))), some (.v (.int r.1)), some (.v (.int r.2)), some (.v (.int ((r.1 : Int) + t)))], []⟩, rfl, .inl ?_, rfl, _, rfl⟩
              simp only [bodyOf, l1_law_without]
              simp [hp, h2, eg, ep])
      have er := rng2D_ok (lo := (r.1 : Int)) (hi := (r.1 : Int) + r.2) (n := r.2) (by omega) (by omega) (by omega) (by omega)
      rw [e1]
      refine ⟨_, ⟨[some (.v (tupI w)), some (.v (.int number)), some (.v (.int b)), some (.m (.lst ((if w[r.1] = b then sr v r.1 r.2 (1 - b) else v).map .int))), some (.v (.int r.1)), some (.v (.int r.2)), z2], []⟩, rfl, .inl ?_, rfl, _, _, _, rfl⟩
      simp only [bodyOf, l2_law_without]
      simp [er, e2])
  simp [runFn, f_law_without, b_law_without, e3, e]
  rfl
end
end Law
namespace Law
open PySem Di
theorem flat_tupI (n : Nat) (w : List Int) (h : w.length ≤ 1000) : flat (n + 1) (tupI w) = true := by
  unfold flat
  have h1 : (w.map PyData.int).length ≤ LINE := by rw [List.length_map]; exact Nat.le_trans h (by decide)
  have h2 : flatAll n (w.map .int) = true := by
    clear h1 h
    induction w with
    | nil => cases n <;> rfl
    | cons x xs ih =>
      rw [List.map_cons]
      unfold flatAll
      rw [ih]
      cases n <;> rfl
  simp only [h1, decide_true, h2, Bool.and_self]
section
variable {F : Nat → Calls} (S : Sem glo F)
include S
theorem law_word_right_ok (k : Nat) (w : List Int) (number : Nat) (hw : bits w) (h0 : 0 < w.length) (hz : w.length ≤ 1000) (hk : number ≤ 100) :
    F (k+6) 26 [.v (tupI w), .v (.int number)] [] = .ok (.v (.bool true)) [] := by
  rw [S.law_word_right]
  obtain ⟨T, hT, h1, h2⟩ := it_fix (k := number) hw h0
  have e23 := law_settled_ok S (k+3) w number T h0 hz hk hT h1 h2
  have e24 := law_short_ok S (k+3) w number h0 hz
  have e21 := law_pass_ok S (k+4) w number h0 hz hk
  have e251 := law_without_ok S (k+2) w number 1 (by decide) h0 hz
  have e250 := law_without_ok S (k+2) w number 0 (by decide) h0 hz
  have e6 := median_pass_ok S k w number hw h0 hz (by omega)
  have e8 := passes_ok S k w number T hw h0 hz (by omega) hT h1 h2
  have e9 := settled_ok S k w number T hw h0 hz (by omega) hT h1 h2
  have e12 := short_run_ok S k w number hw h0 hz
  have e14 := opened_word_ok S k w number hw h0 hz
  have e15 := closed_word_ok S k w number hw h0 hz
  have cb : bits (cmpl w) := fun b hb => by
    obtain ⟨x, hx, rfl⟩ := List.mem_map.mp hb
    have := hw x hx; omega
  have cl : (cmpl w).length = w.length := by simp [cmpl]
  have f6 := median_pass_ok S k (cmpl w) number cb (by omega) (by omega) (by omega)
  have f14 := opened_word_ok S k (cmpl w) number cb (by omega) (by omega)
  rw [pass_cmpl hw number h0] at f6
  rw [wo_cmpl hw number h0] at f14
  obtain ⟨fst, hfst⟩ : ∃ fst : Di.D, fst = fstD (short w number) := ⟨_, rfl⟩
  rw [← hfst] at e12
  have hfl : flat 1 fst = true := by
    rw [hfst]
    cases short w number <;> rfl
  have efst : ∀ env : Di.Env, env = ⟨[some (.v (tupI w)), some (.v (.int number)), some (.v (.int T)), some (.v (tupI (it number w T))), some (.m (.lst ((short w number).map encL))), none, none, none, none, none], []⟩ →
      evE glo (F (k+5)) (.ife (.val (.cmp .Eq (.var 4) (.lst .nil))) (.lit .none) (.sub (.sub (.var 4) (.lit (.int 0))) (.lit (.int 0)))) env = .ok (.v fst) env := by
    rintro env rfl
    rw [hfst]
    cases hs : short w number with
    | nil => simp [fstD]
    | cons r rs =>
      have en : dEq (.m (.lst ((r :: rs).map encL))) (.m (.lst [])) = some false := by
        have hn : niceAll 19 ((r :: rs).map encL) = true := by
          generalize r :: rs = l
          induction l with
          | nil => rfl
          | cons a l ih =>
            rw [List.map_cons]
            unfold niceAll
            rw [ih]
            rfl
        show (if (nice 20 (.list ((r :: rs).map encL)) && nice 20 (.list [])) = true then some (PyData.eqv (.list ((r :: rs).map encL)) (.list [])) else none) = _
        rw [show nice 20 (.list ((r :: rs).map encL)) = true from hn]
        rfl
      have g1 : ∀ x (l : List Di.D), dSub (.m (.lst (x :: l))) (.v (.int 0)) = some (.v x) := fun _ l => dSub_m (j := 0) (by unfold ixD; simp) rfl
      have g2 : ∀ a b : Di.D, dSub (.v (.tuple [a, b])) (.v (.int 0)) = some (.v a) := fun _ _ => rfl
      rw [List.map_cons] at en
      simp [en, g1, g2, fstD]
  have efst := efst _ rfl
  have lp := pass_len number w
  have li := it_len number w T
  have l1 := wo_len w number 1
  have l2 := wo_len w number 0
  obtain ⟨due, hdue⟩ : ∃ due : List Di.D, due = [tupI (pass number w), .int T, tupI (it number w T), fst, tupI (wo w number 1), tupI (wo w number 0)] := ⟨_, rfl⟩
  have hfd : flat 2 (.list due) = true := by
    rw [hdue]
    unfold flat
    simp [flatAll, flat_tupI 0 _ (show (pass number w).length ≤ 1000 by omega), flat_tupI 0 _ (show (it number w T).length ≤ 1000 by omega), flat_tupI 0 _ (show (wo w number 1).length ≤ 1000 by omega), flat_tupI 0 _ (show (wo w number 0).length ≤ 1000 by omega), hfl]
    rfl
  have es1 := same_refl S 2 (k+2) (.list due) (.l 0) (.l 1) [.lst due, .lst due] hfd (.l 0 _ rfl) (.l 1 _ rfl)
  have es2 := same_refl S 2 (k+2) (.list due) (.m (.lst due)) (.l 0) [.lst due] hfd (.m _) (.l 0 _ rfl)
  have es3 := same_refl S 2 (k+2) (.list [tupI (cmpl (pass number w)), tupI (cmpl (wo w number 0))]) (.m (.lst _)) (.m (.lst _)) [] (by
    unfold flat
    simp [flatAll, flat_tupI 0 _ (show (cmpl (pass number w)).length ≤ 1000 by simp [cmpl]; omega), flat_tupI 0 _ (show (cmpl (wo w number 0)).length ≤ 1000 by simp [cmpl]; omega)]) (.m _) (.m _)
  have hcomp : ∀ (e : E) (he : e = e1_law_word_right ∨ e = e2_law_word_right ∨ e = e3_law_word_right) (v : List Int) (a b c d e4 e5 e6 e7 : Option Sl) (y : Option Sl), loopC (.n 9) [9] (stands ⟨v.map .int, none⟩) (turnOf glo (F (k+5)) .nil e) (v.map .int) ⟨[a, b, c, d, e4, e5, e6, e7, y, none], []⟩ =
      .ok ((cmpl v).map .int) ⟨[a, b, c, d, e4, e5, e6, e7, y, none], []⟩ := by
    intro e he v a b c d e4 e5 e6 e7 y
    unfold cmpl
    rw [List.map_map]
    refine loopC_encM _ _ fun x _ => ?_
    refine ⟨_, ⟨[a, b, c, d, e4, e5, e6, e7, y, some (.v (.int x))], []⟩, rfl, ?_, rfl, rfl⟩
    rcases he with rfl | rfl | rfl <;> simp [turnOf_, e1_law_word_right, e2_law_word_right, e3_law_word_right]
  have c1 := hcomp e1_law_word_right (.inl rfl)
  have c2 := hcomp e2_law_word_right (.inr (.inl rfl))
  have c3 := hcomp e3_law_word_right (.inr (.inr rfl))
  have ll : ∀ v : List Int, v.length = w.length → (cmpl v).length ≤ LINE := fun v hv => by rw [show (cmpl v).length = v.length by simp [cmpl], hv]; exact Nat.le_trans hz (by decide)
  have q1 := ll w rfl
  have q2 := ll _ lp
  have q3 := ll _ l2
  have d0 : dSub (.m (.lst due)) (.v (.int 0)) = some (.v (tupI (pass number w))) := by rw [hdue]; rfl
  have d5 : dSub (.m (.lst due)) (.v (.int 5)) = some (.v (tupI (wo w number 0))) := by rw [hdue]; rfl
  have lst2 : ∀ a b : Di.D, dSub (.v (.tuple [a, b])) (.v (.int 0)) = some (.v a) := fun _ _ => rfl
  have dl : due.length ≤ LINE := by rw [hdue]; exact LINE_6
  have dl2 : dAdd (.m (.lst [tupI (pass number w), .int T, tupI (it number w T), fst])) (.m (.lst [tupI (wo w number 1), tupI (wo w number 0)])) = some (.m (.lst due)) := by rw [hdue]; rfl
  simp only [runFn, f_law_word_right, b_law_word_right]
  simp [e23, e24, efst, e21, e251, e250, e6, e8, e9, e12, e14, e15, pick, ← hdue, es1, truD, dl, dl2, es2, c1, c2, c3, q1, q2, q3, d0, d5, f6, f14, es3, unwipe, -ev_ife, -dAdd_mm]
end
end Law
namespace Law
open PySem Di
section
variable {F : Nat → Calls} (S : Sem glo F)
include S
def sixf : List Nat := [6, 8, 9, 12, 14, 15]
theorem six_word (k : Nat) (d e : Di.D) (h : F (k+4) 4 [.v d] [] = .exc 2 none []) : ∀ j ∈ sixf, F (k+5) j [.v d, .v e] [] = .exc 2 none [] := by
  intro j hj
  simp [sixf] at hj
  rcases hj with rfl | rfl | rfl | rfl | rfl | rfl
  · rw [S.median_pass]; simp [runFn, f_median_pass, b_median_pass, h]
  · rw [S.passes]; simp [runFn, f_passes, b_passes, h]
  · rw [S.settled]; simp [runFn, f_settled, b_settled, h]
  · rw [S.short_run]; simp [runFn, f_short_run, b_short_run, h]
  · rw [S.opened_word]; simp [runFn, f_opened_word, b_opened_word, h]
  · rw [S.closed_word]; simp [runFn, f_closed_word, b_closed_word, h]
theorem six_num (k : Nat) (d e : Di.D) (h : F (k+4) 4 [.v d] [] = .ok (.v .none) []) (h2 : F (k+4) 2 [.v e] [] = .exc 1 none []) : ∀ j ∈ sixf, F (k+5) j [.v d, .v e] [] = .exc 1 none [] := by
  intro j hj
  simp [sixf] at hj
  rcases hj with rfl | rfl | rfl | rfl | rfl | rfl
  · rw [S.median_pass]; simp [runFn, f_median_pass, b_median_pass, h, h2]
  · rw [S.passes]; simp [runFn, f_passes, b_passes, h, h2]
  · rw [S.settled]; simp [runFn, f_settled, b_settled, h, h2]
  · rw [S.short_run]; simp [runFn, f_short_run, b_short_run, h, h2]
  · rw [S.opened_word]; simp [runFn, f_opened_word, b_opened_word, h, h2]
  · rw [S.closed_word]; simp [runFn, f_closed_word, b_closed_word, h, h2]
theorem six_ok (k : Nat) (w : List Int) (number : Nat) (hw : bits w) (h0 : 0 < w.length) (hz : w.length ≤ 1000) (hk : number ≤ 100) : ∀ j ∈ sixf, ∃ r, F (k+5) j [.v (tupI w), .v (.int number)] [] = .ok (.v r) [] := by
  intro j hj
  obtain ⟨T, hT, h1, h2⟩ := it_fix (k := number) hw h0
  simp [sixf] at hj
  rcases hj with rfl | rfl | rfl | rfl | rfl | rfl
  · exact ⟨_, median_pass_ok S k w number hw h0 hz (by omega)⟩
  · exact ⟨_, passes_ok S k w number T hw h0 hz (by omega) hT h1 h2⟩
  · exact ⟨_, settled_ok S k w number T hw h0 hz (by omega) hT h1 h2⟩
  · exact ⟨_, short_run_ok S k w number hw h0 hz⟩
  · exact ⟨_, opened_word_ok S k w number hw h0 hz⟩
  · exact ⟨_, closed_word_ok S k w number hw h0 hz⟩
def errS (c : Nat) : Str := if c = 2 then "word" else "number"
theorem law_error_exc (k i c : Nat) (hi : i < 6) (hc : c = 1 ∨ c = 2) (d e : Di.D) (h : ∀ j ∈ sixf, F (k+5) j [.v d, .v e] [] = .exc c none []) : F (k+6) 27 [.v (.int i), .v d, .v e] [] = .ok (.v (.str (errS c))) [] := by
  rw [S.law_error]
  have h6 := h 6 (by decide)
  have h8 := h 8 (by decide)
  have h9 := h 9 (by decide)
  have h12 := h 12 (by decide)
  have h14 := h 14 (by decide)
  have h15 := h 15 (by decide)
  have : i = 0 ∨ i = 1 ∨ i = 2 ∨ i = 3 ∨ i = 4 ∨ i = 5 := by omega
  rcases hc with rfl | rfl <;> rcases this with rfl | rfl | rfl | rfl | rfl | rfl <;>
    simp [runFn, f_law_error, b_law_error, h6, h8, h9, h12, h14, h15, errS]
theorem law_error_ok (k i : Nat) (hi : i < 6) (d e : Di.D) (h : ∀ j ∈ sixf, ∃ r, F (k+5) j [.v d, .v e] [] = .ok (.v r) []) : F (k+6) 27 [.v (.int i), .v d, .v e] [] = .ok (.v (.str "")) [] := by
  rw [S.law_error]
  obtain ⟨r1, h6⟩ := h 6 (by decide)
  obtain ⟨r2, h8⟩ := h 8 (by decide)
  obtain ⟨r3, h9⟩ := h 9 (by decide)
  obtain ⟨r4, h12⟩ := h 12 (by decide)
  obtain ⟨r5, h14⟩ := h 14 (by decide)
  obtain ⟨r6, h15⟩ := h 15 (by decide)
  have : i = 0 ∨ i = 1 ∨ i = 2 ∨ i = 3 ∨ i = 4 ∨ i = 5 := by omega
  rcases this with rfl | rfl | rfl | rfl | rfl | rfl <;>
    simp [runFn, f_law_error, b_law_error, h6, h8, h9, h12, h14, h15]
/-- the values that are no words, no numbers -/
def bads : List Di.D := [.none, .tuple [], .list [.int 0, .int 1], .tuple [.int 0, .int 2], .tuple [.bool true], .str "01", .int 0, .tuple [.none]]
def odds : List Di.D := [.none, .int (-1), .bool true, .str "1", .tuple [.int 1]]
theorem bads_bad (k : Nat) : ∀ d ∈ bads, F (k+4) 4 [.v d] [] = .exc 2 none [] := by
  intro d hd
  rw [S.need_full_word]
  have hi : ∀ v : Di.D, F (k+1) 0 [.v v] [] = .ok (.v (.bool (match v with | .int _ => true | _ => false))) [] := fun v => by
    rw [S.integer_stands]
    cases v <;> rfl
  have hb : ∀ v : Di.D, (match v with | .int i => False | _ => True) → F (k+2) 1 [.v v] [] = .ok (.v (.bool false)) [] := fun v hv => by
    rw [S.bit_stands]
    cases v <;> first | (exact hv.elim) | simp [runFn, f_bit_stands, b_bit_stands, hi]
  have hb2 := bit_stands_int S k 2
  have hb0 := bit_stands_int S k 0
  have ht := hb (.bool true) trivial
  have hn := hb .none trivial
  have e0 : dEq (.v (.tuple [])) (.v (.tuple [])) = some true := rfl
  simp [bads] at hd
  have ws : ∀ v, d = v → (∃ b, F (k+3) 3 [.v v] [] = .ok (.v (.bool b)) [] ∧ (b = false ∨ v = .tuple [])) := by
    intro v hv
    subst hv
    rw [S.word_stands]
    rcases hd with rfl | rfl | rfl | rfl | rfl | rfl | rfl | rfl
    · exact ⟨false, by simp [runFn, f_word_stands, b_word_stands, isiG, dTy, truD], .inl rfl⟩
    · exact ⟨true, by simp [runFn, f_word_stands, b_word_stands, isiG, dTy, truD], .inr rfl⟩
    · exact ⟨false, by simp [runFn, f_word_stands, b_word_stands, isiG, dTy, truD], .inl rfl⟩
    · exact ⟨false, by simp [runFn, f_word_stands, b_word_stands, isiG, dTy, truD, loopF_cons_, bodyOf, l1_word_stands, hb0, hb2], .inl rfl⟩
    · exact ⟨false, by simp [runFn, f_word_stands, b_word_stands, isiG, dTy, truD, loopF_cons_, bodyOf, l1_word_stands, ht], .inl rfl⟩
    · exact ⟨false, by simp [runFn, f_word_stands, b_word_stands, isiG, dTy, truD], .inl rfl⟩
    · exact ⟨false, by simp [runFn, f_word_stands, b_word_stands, isiG, dTy, truD], .inl rfl⟩
    · exact ⟨false, by simp [runFn, f_word_stands, b_word_stands, isiG, dTy, truD, loopF_cons_, bodyOf, l1_word_stands, hn], .inl rfl⟩
  obtain ⟨b, hw, hb⟩ := ws d rfl
  rcases hb with rfl | rfl
  · simp [runFn, f_need_full_word, b_need_full_word, hw, truD]
  · cases b <;> simp [runFn, f_need_full_word, b_need_full_word, hw, truD, e0]
theorem odds_odd (k : Nat) : ∀ d ∈ odds, F (k+2) 2 [.v d] [] = .exc 1 none [] := by
  intro d hd
  rw [S.need_number]
  have hi : ∀ v : Di.D, F (k+1) 0 [.v v] [] = .ok (.v (.bool (match v with | .int _ => true | _ => false))) [] := fun v => by
    rw [S.integer_stands]
    cases v <;> rfl
  simp [odds] at hd
  rcases hd with rfl | rfl | rfl | rfl | rfl <;> simp [runFn, f_need_number, b_need_number, hi, truD]
end
end Law
namespace Law
open PySem Di
section
variable {F : Nat → Calls} (S : Sem glo F)
include S
theorem law_pick_ok (k : Nat) (C : Nat) (hC : C < 2 ^ 40) (m : M) (h : SpOk C m) (things : List Di.D) (h1 : 1 ≤ things.length) (h2 : things.length ≤ 1000) :
    ∃ x m', F (k+2) 18 [.l 0, .m (.lst things)] [m] = .ok (.v x) [m'] ∧ x ∈ things ∧ SpOk (C+1) m' := by
  rw [S.law_pick]
  obtain ⟨v, m', e, a, b, s⟩ := take_ok S k C hC m h things.length (by omega) (by omega)
  have hv : v.toNat < things.length := by omega
  have es : dSub (.m (.lst things)) (.v (.int v)) = some (.v things[v.toNat]) := dSub_m (ixD_pos a b) (List.getElem?_eq_getElem hv)
  refine ⟨things[v.toNat], m', ?_, List.getElem_mem _, s⟩
  simp [runFn, f_law_pick, b_law_pick, e, es]
theorem law_ones (k : Nat) (C : Nat) (m : M) (h : SpOk C m) (hC : C + 10 < 2 ^ 40) (number : Nat) (hn : number ≤ 100) (ws : List (List Int)) (hws : ws.length ≤ 3) (hw : ∀ w ∈ ws, bits w ∧ 0 < w.length ∧ w.length ≤ 1000) (a0 a1 a3 a5 a6 a7 a8 a9 a10 a11 a12 : Option Sl) :
    ∃ env', loopF (.n 8) (stands ⟨ws.map tupI, none⟩) (bodyOf glo (F (k+7)) l2_law) (ws.map tupI) ⟨[a0, a1, some (.m m), a3, some (.v (.int number)), a5, a6, a7, a8, a9, a10, a11, a12], []⟩ = .nx env' ∧
      ∃ x m', env' = ⟨[a0, a1, some (.m m'), a3, some (.v (.int number)), a5, a6, a7, x, a9, a10, a11, a12], []⟩ ∧ SpOk (C + 3) m' := by
  obtain ⟨env', e, x, m', rfl, hs⟩ := loopF_pre (g := .n 8) (chk := stands ⟨ws.map tupI, none⟩) (body := bodyOf glo (F (k+7)) l2_law) tupI (xs := ws) (env := ⟨[a0, a1, some (.m m), a3, some (.v (.int number)), a5, a6, a7, a8, a9, a10, a11, a12], []⟩)
    (fun pre env => ∃ x m', env = ⟨[a0, a1, some (.m m'), a3, some (.v (.int number)), a5, a6, a7, x, a9, a10, a11, a12], []⟩ ∧ SpOk (C + pre.length) m') ⟨a8, m, rfl, h⟩ (by
      rintro pre w post env hd ⟨x, m', rfl, hs⟩
      obtain ⟨hb, h0, hz⟩ := hw w (by rw [hd]; simp)
      have hl := congrArg List.length hd
      simp at hl
      obtain ⟨v, m2, e1, a, b, s2⟩ := take_ok S (k+6) _ (by omega) m' hs 13 (by decide) (by decide)
      obtain ⟨v, rfl⟩ := Int.eq_ofNat_of_zero_le a
      have r1 := law_word_right_ok S (k+1) w number hb h0 hz hn
      have r2 := law_word_right_ok S (k+1) w v hb h0 hz (by omega)
      have r3 := median_pass_ok S (k+2) w 0 hb h0 hz (by omega)
      rw [pass_zero hb h0] at r3
      have r4 := same_refl S 1 (k+5) (tupI w) _ _ [] (flat_tupI 0 w hz) (.v _) (.v _)
      refine ⟨_, ⟨[a0, a1, some (.m m2), a3, some (.v (.int number)), a5, a6, a7, some (.v (tupI w)), a9, a10, a11, a12], []⟩, rfl, .inl ?_, rfl, _, m2, rfl, by rw [List.length_append]; exact s2⟩
      simp only [bodyOf, l2_law]
      simp at r3
      simp [r1, e1, r2, r3, r4, truD])
  exact ⟨_, e, x, m', rfl, hs.mono (by omega)⟩
omit S in
theorem dEq_errs : dEq (.m (.lst [.str "word", .str "word", .str "number", .str ""])) (.m (.lst [.str "word", .str "word", .str "number", .str ""])) = some true := by decide +kernel
theorem law_errs (k : Nat) (w : List Int) (number : Nat) (hb : bits w) (h0 : 0 < w.length) (hz : w.length ≤ 1000) (hn : number ≤ 100) (bad odd : Di.D) (hbad : bad ∈ bads) (hodd : odd ∈ odds) (a0 a1 a2 a5 a6 a7 a8 a11 a12 : Option Sl) :
    ∃ env', loopF (.n 11) (stands ⟨rangeD 0 6, none⟩) (bodyOf glo (F (k+7)) l1_law) (rangeD 0 6) ⟨[a0, a1, a2, some (.v (tupI w)), some (.v (.int number)), a5, a6, a7, a8, some (.v bad), some (.v odd), a11, a12], []⟩ = .nx env' ∧
      ∃ x, env' = ⟨[a0, a1, a2, some (.v (tupI w)), some (.v (.int number)), a5, a6, a7, a8, some (.v bad), some (.v odd), x, a12], []⟩ := by
  obtain ⟨env', e, x, rfl⟩ := loopF_rng (g := .n 11) (chk := stands ⟨rangeD 0 6, none⟩) (body := bodyOf glo (F (k+7)) l1_law) (n := 6) (env := ⟨[a0, a1, a2, some (.v (tupI w)), some (.v (.int number)), a5, a6, a7, a8, some (.v bad), some (.v odd), a11, a12], []⟩)
    (fun i env => ∃ x, env = ⟨[a0, a1, a2, some (.v (tupI w)), some (.v (.int number)), a5, a6, a7, a8, some (.v bad), some (.v odd), x, a12], []⟩) ⟨a11, rfl⟩ (by
      rintro i env hi ⟨x, rfl⟩
      have hbw := bads_bad S (k+1) bad hbad
      have ho := odds_odd S (k+3) odd hodd
      have hw := need_full_word_ok' S (k+1) w hb h0
      have g1 := law_error_exc S (k+1) i 2 hi (.inr rfl) bad odd (six_word S (k+1) bad odd hbw)
      have g2 := law_error_exc S (k+1) i 2 hi (.inr rfl) bad (.int 1) (six_word S (k+1) bad (.int 1) hbw)
      have g3 := law_error_exc S (k+1) i 1 hi (.inl rfl) (tupI w) odd (six_num S (k+1) (tupI w) odd hw ho)
      have g4 := law_error_ok S (k+1) i hi (tupI w) (.int number) (six_ok S (k+1) w number hb h0 hz hn)
      refine ⟨_, ⟨[a0, a1, a2, some (.v (tupI w)), some (.v (.int number)), a5, a6, a7, a8, some (.v bad), some (.v odd), some (.v (.int i)), a12], []⟩, rfl, .inl ?_, rfl, _, rfl⟩
      simp only [bodyOf, l1_law]
      simp [g1, g2, g3, g4, errS, dEq_errs])
  exact ⟨_, e, x, rfl⟩
end
end Law
namespace Law
open PySem Di
section
variable {F : Nat → Calls} (S : Sem glo F)
include S
theorem law_at (k : Nat) (ns : List Int) (hns : ns.length ≤ 63) (i : Nat) (hi : i ≤ 10) (y2 y3 y4 y5 y6 y8 y9 y10 y11 : Option Sl) :
    ∃ env', bodyOf glo (F (k+7)) l3_law ⟨[some (.v (.list (ns.map .int))), some (.v (.int i)), y2, y3, y4, y5, y6, none, y8, y9, y10, y11, none], []⟩ = .nx env' ∧
      ∃ y2 y3 y4 y5 y6 y8 y9 y10 y11, env' = ⟨[some (.v (.list (ns.map .int))), some (.v (.int i)), y2, y3, y4, y5, y6, none, y8, y9, y10, y11, none], []⟩ := by
  obtain ⟨m, a, b, c, e1, hs⟩ := law_spring_ok S (k+6) ns hns i hi
  have hs : SpOk 0 m := ⟨a, b, c, hs⟩
  obtain ⟨v1, m1, e2, a1, b1, s1⟩ := take_ok S (k+6) 0 (by decide) m hs 24 (by decide) (by decide)
  obtain ⟨n1, hn1⟩ : ∃ n1 : Nat, 1 + v1 = n1 := ⟨(1 + v1).toNat, by omega⟩
  obtain ⟨w, m2, e3, hw, hl, s2⟩ := law_word_ok S (k+5) _ m1 s1 n1 (by omega) (by omega)
  have h0 : 0 < w.length := by omega
  have s2 : SpOk 100 m2 := s2.mono (by omega)
  obtain ⟨v2, m3, e4, a2, b2, s3⟩ := take_ok S (k+6) _ (by decide) m2 s2 5 (by decide) (by decide)
  obtain ⟨number, rfl⟩ := Int.eq_ofNat_of_zero_le a2
  obtain ⟨v3, m4, e5, a3, b3, s4⟩ := take_ok S (k+6) _ (by decide) m3 s3 2 (by decide) (by decide)
  obtain ⟨v4, m5, e6, a4, b4, s5⟩ := take_ok S (k+6) _ (by decide) m4 s4 12 (by decide) (by decide)
  obtain ⟨n4, hn4⟩ : ∃ n4 : Nat, 1 + v4 = n4 := ⟨(1 + v4).toNat, by omega⟩
  obtain ⟨wv, hwv⟩ : ∃ wv : List Int, wv = (List.range n4).map fun j : Nat => (v3 + ((j : Nat) : Int)) % 2 := ⟨_, rfl⟩
  have hc : loopC (.n 7) [7] (stands ⟨rangeD 0 n4, none⟩) (turnOf glo (F (k+7)) .nil e1_law) (rangeD 0 n4) ⟨[some (.v (.list (ns.map .int))), some (.v (.int i)), some (.m m5), some (.v (tupI w)), some (.v (.int number)), some (.v (.int v3)), y6, none, y8, y9, y10, y11, none], []⟩ =
      .ok (wv.map .int) ⟨[some (.v (.list (ns.map .int))), some (.v (.int i)), some (.m m5), some (.v (tupI w)), some (.v (.int number)), some (.v (.int v3)), y6, none, y8, y9, y10, y11, none], []⟩ := by
    rw [hwv, List.map_map]
    refine loopC_rngM _ fun j _ => ?_
    refine ⟨_, ⟨[some (.v (.list (ns.map .int))), some (.v (.int i)), some (.m m5), some (.v (tupI w)), some (.v (.int number)), some (.v (.int v3)), y6, some (.v (.int j)), y8, y9, y10, y11, none], []⟩, rfl, ?_, rfl, rfl⟩
    simp [turnOf_, e1_law]
  have hz4 := rng1D_ok (hi := (n4 : Int)) (n := n4) rfl (show n4 ≤ 1000000 by omega)
  have hwvl : wv.length = n4 := by rw [hwv]; simp
  have lw : wv.length ≤ LINE := by rw [hwvl]; show _ ≤ 16777216; omega
  have c12 : cut (w.map PyData.int) none (some 12) = (w.take 12).map .int := by rw [cut_map]; exact congrArg _ (cut_nt w 12)
  obtain ⟨woven, hwoven⟩ : ∃ woven, woven = wv ++ w.take 12 := ⟨_, rfl⟩
  have ew : wv.map PyData.int ++ (w.take 12).map .int = woven.map .int := by rw [hwoven]; simp
  have lw2 : (wv.map PyData.int).length + ((w.take 12).map PyData.int).length ≤ LINE := by simp; show _ ≤ 16777216; omega
  have hbv : bits wv := fun x hx => by
    rw [hwv] at hx
    obtain ⟨j, _, rfl⟩ := List.mem_map.mp hx
    omega
  have hbw : bits woven := fun x hx => by
    rw [hwoven] at hx
    rcases List.mem_append.mp hx with hx | hx
    · exact hbv x hx
    · exact hw x (List.mem_of_mem_take hx)
  have hwl : 0 < woven.length ∧ woven.length ≤ 1000 := by rw [hwoven]; simp; omega
  obtain ⟨v5, m6, e7, a5, b5, s6⟩ := take_ok S (k+6) _ (by decide) m5 s5 3 (by decide) (by decide)
  obtain ⟨n5, hn5⟩ : ∃ n5 : Nat, 1 + v5 = n5 := ⟨(1 + v5).toNat, by omega⟩
  have c5 : cut (w.map PyData.int) none (some (n5 : Int)) = (w.take n5).map .int := by rw [cut_map]; exact congrArg _ (cut_nt w n5)
  obtain ⟨env', e8, x8, m7, rfl, s7⟩ := law_ones S k _ m6 s6 (by decide) number (by omega) [w, woven, w.take n5] (by simp) (by
    intro u hu
    simp at hu
    rcases hu with rfl | rfl | rfl
    · exact ⟨hw, h0, by omega⟩
    · exact ⟨hbw, hwl.1, hwl.2⟩
    · exact ⟨fun x hx => hw x (List.mem_of_mem_take hx), by simp; omega, by simp; omega⟩) (some (.v (.list (ns.map .int)))) (some (.v (.int i))) (some (.v (tupI w))) (some (.v (.int v3))) (some (.v (tupI woven))) none y8 y9 y10 y11 none
  obtain ⟨bad, m8, e9, hbad, s8⟩ := law_pick_ok S (k+5) _ (by decide) m7 s7 bads (by decide) (by decide)
  obtain ⟨odd, m9, e10, hodd, s9⟩ := law_pick_ok S (k+5) _ (by decide) m8 s8 odds (by decide) (by decide)
  obtain ⟨env', e11, x11, rfl⟩ := law_errs S k w number hw h0 (by omega) (by omega) bad odd hbad hodd (some (.v (.list (ns.map .int)))) (some (.v (.int i))) (some (.m m9)) (some (.v (.int v3))) (some (.v (tupI woven))) none x8 y11 none
  refine ⟨⟨[some (.v (.list (ns.map .int))), some (.v (.int i)), some (.m m9), some (.v (tupI w)), some (.v (.int number)), some (.v (.int v3)), some (.v (tupI woven)), none, x8, some (.v bad), some (.v odd), x11, none], []⟩, ?_, _, _, _, _, _, _, _, _, _, rfl⟩
  have z6 := rng1D_ok (hi := (6 : Int)) (n := 6) rfl (by decide)
  simp only [bads] at e9
  simp only [odds] at e10
  simp only [List.map_cons, List.map_nil] at e8
  have l8 : (8 : Nat) ≤ LINE := by decide
  generalize (w.take 12).map PyData.int = w12 at *
  generalize hq5 : (w.take n5).map PyData.int = w5 at *
  have hq : tupI (w.take n5) = .tuple w5 := by rw [← hq5]
  rw [hq] at e8
  simp only [bodyOf, l3_law]
  simp only [List.length_map] at lw2
  simp [e1, e2, hn1, e3, e4, e5, e6, hn4, hz4, hc, lw, unwipe, c12, lw2, ew, e7, hn5, c5, e8, e9, e10, z6, e11]
theorem law_ok (k : Nat) (ns : List Int) (hns : ns.length ≤ 63) : F (k+8) 28 [.v (.list (ns.map .int))] [] = .ok (.v (.bool true)) [] := by
  rw [S.law]
  have zz : ∃ n : Nat, (if (if (ns.length : Int) < 8 then (ns.length : Int) else 8) > 2 then (if (ns.length : Int) < 8 then (ns.length : Int) else 8) else 2) = n ∧ n ≤ 10 := by
    refine ⟨(if (if (ns.length : Int) < 8 then (ns.length : Int) else 8) > 2 then (if (ns.length : Int) < 8 then (ns.length : Int) else 8) else 2).toNat, ?_⟩
    constructor <;> (split <;> split <;> omega)
  obtain ⟨n, hn, hn2⟩ := zz
  have z := rng1D_ok (hi := (n : Int)) (n := n) rfl (by omega)
  obtain ⟨env', e, y1, y2, y3, y4, y5, y6, y8, y9, y10, y11, rfl⟩ := loopF_rng (g := .n 1) (chk := stands ⟨rangeD 0 n, none⟩) (body := bodyOf glo (F (k+7)) l3_law) (n := n) (env := ⟨[some (.v (.list (ns.map .int))), none, none, none, none, none, none, none, none, none, none, none, none], []⟩)
    (fun i env => ∃ y1 y2 y3 y4 y5 y6 y8 y9 y10 y11, env = ⟨[some (.v (.list (ns.map .int))), y1, y2, y3, y4, y5, y6, none, y8, y9, y10, y11, none], []⟩) ⟨_, _, _, _, _, _, _, _, _, _, rfl⟩ (by
      rintro i env hi ⟨y1, y2, y3, y4, y5, y6, y8, y9, y10, y11, rfl⟩
      obtain ⟨env', e, z2, z3, z4, z5, z6, z8, z9, z10, z11, rfl⟩ := law_at S k ns hns i (by omega) y2 y3 y4 y5 y6 y8 y9 y10 y11
      exact ⟨_, _, rfl, .inl e, rfl, _, _, _, _, _, _, _, _, _, _, rfl⟩)
  have hb : ∀ w : List Int, (w.all fun b => decide (0 ≤ b) && decide (b ≤ 1)) = true → bits w := fun w h b hm => by
    have := List.all_eq_true.mp h b hm
    simpa using this
  have b1 := hb [0, 1, 0, 1, 1, 0, 0] rfl
  have b2 := hb [0, 1, 0] rfl
  have t1 := median_pass_ok S (k+2) [0, 1, 0, 1, 1, 0, 0] 1 b1 (by decide) (by decide) (by decide)
  have t2 := passes_ok S (k+2) [0, 1, 0, 1, 1, 0, 0] 1 1 b1 (by decide) (by decide) (by decide) (by decide) (by decide) (fun t ht => by
    have h : t = 0 := by omega
    rw [h]; decide)
  have t3 := short_run_ok S (k+2) [0, 1, 0, 1, 1, 0, 0] 1 b1 (by decide) (by decide)
  have t4 := settled_ok S (k+2) [0, 1, 0] 1 1 b2 (by decide) (by decide) (by decide) (by decide) (by decide) (fun t ht => by
    have h : t = 0 := by omega
    rw [h]; decide)
  have t5 := closed_word_ok S (k+2) [0, 1, 0, 1, 1, 0, 0] 1 b1 (by decide) (by decide)
  rw [show pass 1 [0, 1, 0, 1, 1, 0, 0] = [0, 0, 1, 1, 1, 0, 0] by decide] at t1
  rw [show fstD (short [0, 1, 0, 1, 1, 0, 0] 1) = .int 1 by rfl] at t3
  rw [show it 1 [0, 1, 0] 1 = [0, 0, 0] by decide] at t4
  rw [show wo [0, 1, 0, 1, 1, 0, 0] 1 0 = [0, 1, 1, 1, 1, 0, 0] by decide] at t5
  simp only [tupI, List.map_cons, List.map_nil] at t1 t2 t3 t4 t5
  have es := same_refl S 2 (k+4) (.list [.tuple [.int 0, .int 0, .int 1, .int 1, .int 1, .int 0, .int 0], .int 1, .int 1, .tuple [.int 0, .int 0, .int 0], .tuple [.int 0, .int 1, .int 1, .int 1, .int 1, .int 0, .int 0]]) (.l 0) (.m (.lst _)) [.lst _] rfl (.l 0 _ rfl) (.m _)
  simp at t1 t2 t3 t4 t5
  simp at hn
  simp [runFn, f_law, b_law, hn, z, e, t1, t2, t3, t4, t5, es]
end
theorem plain (ns : List Int) (h : ns.length ≤ 63) : rn (progOf ds glo) 16 28 [.v (.list (ns.map .int))] [] = .ok (.v (.bool true)) [] :=
  law_ok (sem glo) 8 ns h
end Law
namespace Law
open PySem PySem.Spec PyProof.Rows L2 Di
def loose0 : List Str := ["PictureError", "InvalidNumber", "InvalidWord", "integer_stands", "bit_stands", "need_number", "word_stands", "need_full_word", "passed", "median_pass", "settling", "passes", "settled", "runs_of", "short_runs", "short_run"]
def loose1 : List Str := ["without_short", "opened_word", "closed_word", "_law_spring", "_law_take", "_law_pick", "_law_same", "_law_word", "_law_pass", "_law_runs", "_law_settled", "_law_short", "_law_without", "_law_word_right", "_law_error"]
def loose : List Str := loose0 ++ loose1
abbrev R : PySem.W.OpenRow := PySem.W.OpenLaw.row PySem.Challenge.rw_everypicture_k58_median_passes
abbrev hk : PySem.W.Hook := He.hookD 4 (factsOf tb ds) (ds.map DI.dd)
def ob (s : PySem.W.SharedT) : He.AlD := He.obsDG 4 (factsOf tb ds) (ds.map DI.dd) (HandSHeadRun.getT s)
theorem ob_eq (s : PySem.W.SharedT) : ob s = hk.obs s.abs := He.obsDG_eq (HandSHeadRun.getT_eq s)
theorem run (w : World) : HandSHeadRun.RunEq R (PySem.W.view R.prog [36]) hk ob 2000 loose w := by
  intro os
  kernel_rfl
end Law
namespace Law
open PySem PySem.Spec PyProof.Rows L2 Di
theorem glo_ok {K : PySem.W.Frag} {mg : Str → Option Value} : ∀ i x, tb.glo[i]? = some x → ∃ v u d, glo i = some d ∧ mg x = some u ∧ RelV v u ∧ ∀ H, Pd K H v d := fun i x h => by cases h
end Law
namespace Law
open PySem PySem.Spec PyProof.Rows L2 Di
theorem facts {P : Program} {w : World} {K : PySem.W.Frag} {h : Heap} {mg : Str → Option Value} {fa : Addr} (X : K.In h) (N : h.Ns mainGlobals mg) (hfa : mg ("law" : Str) = some (.ref fa)) (c : He.SaysD (factsOf tb ds) (ds.map DI.dd) K) :
    ∃ (fd : FuncData) (sp : Sp), (∀ (s : Shared) (v : Value), BindsTo s fd ⟨[v], []⟩ [("script", v)]) ∧
      (∀ (H : Hp) (a : Addr) (ns : List Int), ns.length ≤ 63 → Only H → SqL K H a (ns.map V.int) → sp [.ref a] H (fun v _ => v = .bl true) fun _ _ _ => False) ∧
      ∀ base : Heap, K.In base → base.Ns mainGlobals mg → FnOk P w K mg base CX0 16 fa fd ["script"] sp := by
  have L := lib_of (G := glo) X N c tb_ok chk binds kwok glo_ok
  obtain ⟨f, fd, m, F⟩ := L.def_ 28 d_law rfl
  have e := hfa.symm.trans m
  cases e
  refine ⟨fd, fun vs H Q _ => spF K (xrOf tb mg) (rn (progOf ds glo) 16 28) 1 vs H Q fun _ _ _ => False, fun s v => F.bindsA (ps := ["script"]) bn_law s [v] rfl, fun H a ns hl hO hS => law_sp ns (by omega) (plain ns hl) H a hO hS, fun base Kb Nb => ?_⟩
  exact quiet (body_ok (P := P) (w := w) (base := base) 28 rfl L F (defs_ok L 15))
end Law
open PySem PySem.W PySem.Calls PyProof.Rows
theorem PySem.Challenge.cw_everypicture_k58_median_passes_holds : PySem.Challenge.rw_everypicture_k58_median_passes.Holds := by
  w_on; o_law
  refine HandSHeadRun.head_any (r := OpenLaw.row PySem.Challenge.rw_everypicture_k58_median_passes) (q := view (OpenLaw.row PySem.Challenge.rw_everypicture_k58_median_passes).prog [36]) (H := Law.hk) (ob := Law.ob) (M := 2000) (loose := Law.loose) (d := HandSHeadRun.topDef (OpenLaw.row PySem.Challenge.rw_everypicture_k58_median_passes).prog 36) (kwd := []) Law.ob_eq
    (by kernel_rfl) (fun s => by kernel_rfl) Law.run (by kernel_rfl) (by kernel_rfl) (by kernel_rfl) (by rfl) (by first | assumption | decide +kernel) (by decide +kernel) ⟨rfl, rfl, rfl, rfl, rfl, by decide +kernel⟩ ?hw ?hc
  case hw => w_witness2
  case hc =>
    refine L2.walk_ofE (l := PySem.Challenge.rw_everypicture_k58_median_passes) (n := 63) (k := 16) (x := "script") (CX := L2.CX0) rfl (by decide) (by kernel_rfl) ⟨rfl, by decide, by decide⟩ ?F (fun _ _ _ _ z => z)
    intro w mg fa h Y G hmg0
    obtain ⟨K, KX, c⟩ := Y
    have hmg : mg ("law" : PySem.Str) = some (.ref fa) := by
      have e : (HandSHeadRun.topDef (OpenLaw.row PySem.Challenge.rw_everypicture_k58_median_passes).prog 36).name = ("law" : PySem.Str) := by kernel_rfl
      rw [← e]
      exact hmg0
    obtain ⟨fd, sp, hb, hsp, hF⟩ := Law.facts (P := (PySem.Challenge.rw_everypicture_k58_median_passes).prog) (w := w) KX G hmg c
    exact ⟨K, fd, sp, KX, hb, hsp, hF⟩
