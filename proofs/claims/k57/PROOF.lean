import PyProof.Rows.All
import Wide.All
import OpenK.AllK
import Wide.FinOn
import HandS.ForMost
import HandS.ForExc
import HandS.IsInst
import HandS.Wide
import HandS.TupAny
import HandS.TupMul
import HandS.TupLe
import HandS.Zip
import HandS.Rev
import HandS.Walk
import KE.KTupSum
import HandS.Style
import PyProof.AutoSeq1
import PyProof.FitsReplace
import HandS.Flow
import HandS.Text
import PySem.Challenge.RW_manyleast_k57_texts_written_and_read
set_option Elab.async false
set_option linter.all false
set_option maxRecDepth 100000
set_option maxHeartbeats 4000000
/-! plain values, a plain program, what it does -/
namespace PL
open PySem

/-- a plain value: frozen lists are values, what changes is an object of the store -/
inductive D where
  | non | bl (b : Bool) | int (i : Int) | str (x : Str) | tup (ds : List D) | lst (ds : List D) | dic (kvs : List (D × D)) | obj (k : Nat)
  | fn (f : Nat) (caps : List D) | exc (c : Nat) (fld : Option D)
  | scr (ns : List Int)
  deriving Inhabited

/-- a raised thing: its class, its field -/
structure Exc where
  c : Nat
  fld : Option D
  deriving Inhabited

/-- an expression's value: a frozen one, or a new list that nobody else holds -/
inductive Rv where
  | val (d : D) | own (ds : List D)
  deriving Inhabited
def Rv.d : Rv → D
  | .val d => d
  | .own ds => .lst ds

/-- a name's slot -/
inductive Sl where
  | no | val (d : D) | own (ds : List D)
  deriving Inhabited
def Sl.of : Rv → Sl
  | .val d => .val d
  | .own ds => .own ds

/-- an object of the store -/
inductive SO where
  | lst (ds : List D) | ins (c : Nat) (fs : List (Str × D))
  deriving Inhabited

structure S where
  env : List Sl
  st : List SO
  deriving Inhabited

inductive Out (α : Type) where
  | ok (a : α) (s : S) | err (x : Exc) (s : S) | bad
  deriving Inhabited
@[inline] def Out.bind {α β : Type} (o : Out α) (f : α → S → Out β) : Out β := match o with
  | .ok a s => f a s
  | .err x s => .err x s
  | .bad => .bad
@[inline] def Out.of {α : Type} (o : Option α) (s : S) : Out α := match o with
  | some a => .ok a s
  | none => .bad

/-- a call's end -/
inductive FO where
  | ok (r : Rv) (st : List SO) | err (x : Exc) (st : List SO) | bad
  deriving Inhabited

inductive Flow where
  | nx | ret (r : Rv) | brk | ct
  deriving Inhabited

/-- the longest list -/
def LIM : Nat := 16777216

inductive Ty where
  | int | bool | str | list | tuple | none | dict | cls (c : Nat)
  deriving DecidableEq, Inhabited

inductive Mth where
  | append | extend | pop | reverse | join | split | count | index | replace | strip | get
  deriving DecidableEq, Inhabited
inductive Blt where
  | len | sum | tuple | list | sorted | min2 | max2 | max1 | minD | maxD | int | str | all | dict | lenset
  deriving DecidableEq, Inhabited

inductive Tgt where
  | v (i : Nat) | t (is : List Nat)
  deriving Inhabited

mutual
inductive IE where
  | var (i : Nat) | c (d : D) | g (x : Str) (d : D)
  | bin (op : Operator) (a b : IE) | neg (a : IE)
  | cmp (op : CmpOp) (a b : IE) | chain (op op' : CmpOp) (a b c : IE)
  | and (a b : IE) | or (a b : IE) | not (a : IE)
  | ite (t a b : IE)
  | tup (es : IEs) | lst (es : IEs) | lstM (es : IEs) | dic (ks vs : IEs)
  | idx (a b : IE) | slc (a : IE) (lo hi : OE) | srev (a : IE)
  | call (f : Nat) (es : IEs) | callV (e : IE) (es : IEs) | blt (b : Blt) (es : IEs) | isin (a : IE) (ts : List Ty)
  | meth (m : Mth) (o : IE) (es : IEs) | fld (o : IE) (f : Str) | mcall (f : Nat) (o : IE) (es : IEs) | make (c f : Nat) (es : IEs)
  | comp (elt : IE) (tg : Tgt) (it : IT) (cond : OE) (vs : List Nat)
  | clos (f : Nat) (caps : List Nat)
inductive IEs where
  | nil | cons (e : IE) (es : IEs)
inductive OE where
  | no | some (e : IE)
inductive IT where
  | e (a : IE) | rng (es : IEs) | enum (a : IE) | zip (a b : IE) | rev (a : IE)
end
instance : Inhabited IE := ⟨.var 0⟩
/-- what is stored to: a name, an item -/
inductive Tst where
  | v (i : Nat) | x (o : IE) (i : IE)

mutual
inductive IS where
  | set (i : Nat) (e : IE) | setT (ts : List Tst) (e : IE) | setI (o i e : IE) | setF (o : IE) (f : Str) (e : IE)
  | ex (e : IE) | ite (t : IE) (a b : ISs) | loop (tg : Tgt) (it : IT) (b : ISs) | wh (t : IE) (b : ISs)
  | ret (e : IE) | raise (c : Nat) (es : IEs) | tr (b : ISs) (c : Nat) (n : Option Nat) (h : ISs) | pass | never
inductive ISs where
  | nil | cons (s : IS) (ss : ISs)
end
instance : Inhabited ISs := ⟨.nil⟩

/-! ### values -/
mutual
def D.eqv : D → D → Bool
  | .non, .non => true
  | .bl a, .bl b => a == b
  | .bl a, .int j => (if a then 1 else 0) == j
  | .int i, .bl b => i == (if b then 1 else 0)
  | .int i, .int j => i == j
  | .str x, .str y => x == y
  | .lst xs, .lst ys => D.eqvs xs ys
  | .tup xs, .tup ys => D.eqvs xs ys
  | _, _ => false
def D.eqvs : List D → List D → Bool
  | [], [] => true
  | x :: xs, y :: ys => D.eqv x y && D.eqvs xs ys
  | _, _ => false
end
mutual
/-- data: no dict, object, function within -/
def D.data : D → Bool
  | .non | .bl _ | .int _ | .str _ => true
  | .tup ds | .lst ds => D.datas ds
  | _ => false
def D.datas : List D → Bool
  | [] => true
  | d :: ds => d.data && D.datas ds
end
mutual
def D.depth : D → Nat
  | .tup ds | .lst ds => D.depths ds + 1
  | _ => 0
def D.depths : List D → Nat
  | [] => 0
  | d :: ds => max d.depth (D.depths ds)
end
def D.truth (st : List SO) : D → Option Bool
  | .non => some false
  | .bl b => some b
  | .int i => some (i != 0)
  | .str x => some (x.length != 0)
  | .tup ds => some (!ds.isEmpty)
  | .lst ds => some (!ds.isEmpty)
  | .obj k => match st[k]? with
    | some (.lst ds) => some (!ds.isEmpty)
    | _ => none
  | _ => none
def D.ints : List D → Option (List Int)
  | [] => some []
  | .int i :: r => (D.ints r).map (i :: ·)
  | _ :: _ => none
def D.strs : List D → Option (List Str)
  | [] => some []
  | .str x :: r => (D.strs r).map (x :: ·)
  | _ :: _ => none
def D.bls : List D → Option (List Bool)
  | [] => some []
  | .bl x :: r => (D.bls r).map (x :: ·)
  | _ :: _ => none
def D.tupInts : List D → Option (List (List Int))
  | [] => some []
  | .tup ds :: r => match D.ints ds with
    | some ns => (D.tupInts r).map (ns :: ·)
    | none => none
  | _ :: _ => none

open L2 (ixN atI)
def cut {α : Type} (xs : List α) (lo hi : Option Int) : List α := (xs.drop (HT.sIx xs.length 0 lo)).take (HT.sIx xs.length xs.length hi - HT.sIx xs.length 0 lo)
def cutStr (x : Str) (lo hi : Option Int) : Str := ⟨(cut x.cps.toList lo hi).toArray⟩

def mulOk (i j : Int) : Bool := (decide (-(2 ^ 64) < i) && decide (i < 2 ^ 64)) || (decide (-(2 ^ 64) < j) && decide (j < 2 ^ 64))
def binD : Operator → D → D → Option Rv
  | .Add, .int i, .int j => some (.val (.int (i + j)))
  | .Add, .str x, .str y => if x.length + y.length ≤ LIM then some (.val (.str (x ++ y))) else none
  | .Add, .tup x, .tup y => if x.length + y.length ≤ LIM then some (.val (.tup (x ++ y))) else none
  | .Add, .lst x, .lst y => if x.length + y.length ≤ LIM then some (.own (x ++ y)) else none
  | .Sub, .int i, .int j => some (.val (.int (i - j)))
  | .Mult, .int i, .int j => if mulOk i j then some (.val (.int (i * j))) else none
  | .Mult, .lst x, .int k => if x.length * k.toNat ≤ LIM ∧ -(2 ^ 63) ≤ k ∧ k < 2 ^ 63 then some (.own (List.replicate k.toNat x).flatten) else none
  | .FloorDiv, .int i, .int j => if 0 < j ∧ j < 2 ^ 200 then some (.val (.int (i / j))) else none
  | .Mod, .int i, .int j => if 0 < j then some (.val (.int (i % j))) else none
  | .Pow, .int i, .int j => if 0 ≤ j ∧ j ≤ 1000000 ∧ i.natAbs < 2 ^ 64 then some (.val (.int (i ^ j.toNat))) else none
  | .LShift, .int i, .int j => if 0 ≤ j ∧ j ≤ 1000000 ∧ i.natAbs < 2 ^ 64 then some (.val (.int (i * 2 ^ j.toNat))) else none
  | .RShift, .int i, .int j => if 0 ≤ j then some (.val (.int (i / 2 ^ j.toNat))) else none
  | .BitAnd, .int i, .int j => some (.val (.int (Builtin.bitAnd i j)))
  | _, _, _ => none

def lexLt : List Int → List Int → Bool
  | [], [] => false
  | [], _ :: _ => true
  | _ :: _, [] => false
  | x :: xs, y :: ys => if x = y then lexLt xs ys else decide (x < y)
/-- a depth to which two things may be compared -/
def EQD : Nat := 200
def flatD : D → Bool
  | .non | .bl _ | .int _ | .str _ => true
  | _ => false
def D.isN : D → Bool
  | .non => true
  | _ => false
def cmpD : CmpOp → D → D → Option Bool
  | .Eq, a, b => if a.data ∧ b.data ∧ min a.depth b.depth ≤ EQD then some (a.eqv b) else none
  | .NotEq, a, b => if a.data ∧ b.data ∧ min a.depth b.depth ≤ EQD then some (!a.eqv b) else none
  | .Lt, .int i, .int j => some (decide (i < j))
  | .LtE, .int i, .int j => some (decide (i ≤ j))
  | .Gt, .int i, .int j => some (decide (j < i))
  | .GtE, .int i, .int j => some (decide (j ≤ i))
  | .Lt, .tup a, .tup b => match D.ints a, D.ints b with
    | some x, some y => some (lexLt x y)
    | _, _ => none
  | .Is, a, .non => some a.isN
  | .IsNot, a, .non => some (!a.isN)
  | .In, .str x, .str y => some (!(Builtin.Str.occurrences y x 0 y.length 1).isEmpty)
  | .NotIn, .str x, .str y => some ((Builtin.Str.occurrences y x 0 y.length 1).isEmpty)
  | .In, a, .lst ds => if flatD a ∧ ds.all flatD then some (ds.any fun d => D.eqv d a) else none
  | .NotIn, a, .lst ds => if flatD a ∧ ds.all flatD then some (!ds.any fun d => D.eqv d a) else none
  | .In, a, .tup ds => if flatD a ∧ ds.all flatD then some (ds.any fun d => D.eqv d a) else none
  | .NotIn, a, .tup ds => if flatD a ∧ ds.all flatD then some (!ds.any fun d => D.eqv d a) else none
  | .In, a, .dic kvs => some (kvs.any fun d => D.eqv d.1 a)
  | .NotIn, a, .dic kvs => some (!kvs.any fun d => D.eqv d.1 a)
  | _, _, _ => none

def idxD (st : List SO) : D → D → Option D
  | .tup ds, .int i => atI ds i
  | .lst ds, .int i => atI ds i
  | .str x, .int i => (atI x.cps.toList i).map fun c => .str ⟨#[c]⟩
  | .dic kvs, k => (kvs.find? fun p => D.eqv p.1 k).map (·.2)
  | .scr ns, .int i => (atI ns i).map .int
  | .obj k, .int i => match st[k]? with
    | some (.lst ds) => atI ds i
    | _ => none
  | _, _ => none
def slcD (st : List SO) (a : D) (lo hi : Option Int) : Option Rv := match a with
  | .tup ds => some (.val (.tup (cut ds lo hi)))
  | .lst ds => some (.own (cut ds lo hi))
  | .str x => some (.val (.str (cutStr x lo hi)))
  | .obj k => match st[k]? with
    | some (.lst ds) => some (.own (cut ds lo hi))
    | _ => none
  | _ => none
def srevD : D → Option Rv
  | .lst ds => some (.own ds.reverse)
  | _ => none

def insI (x : Int) : List Int → List Int
  | [] => [x]
  | y :: r => if x ≤ y then x :: y :: r else y :: insI x r
def sortI : List Int → List Int
  | [] => []
  | x :: r => insI x (sortI r)
def insL (x : List Int) : List (List Int) → List (List Int)
  | [] => [x]
  | y :: r => if lexLt y x then y :: insL x r else x :: y :: r
def sortL : List (List Int) → List (List Int)
  | [] => []
  | x :: r => insL x (sortL r)
def tI (ns : List Int) : D := .tup (ns.map .int)
def minI : List Int → Option Int
  | [] => none
  | x :: r => some (r.foldl (fun m y => if y < m then y else m) x)
def maxI : List Int → Option Int
  | [] => none
  | x :: r => some (r.foldl (fun m y => if m < y then y else m) x)
def dicOf : List D → Option (List (D × D))
  | [] => some []
  | .tup [k, v] :: r => (dicOf r).map fun m => if m.any (fun p => D.eqv p.1 k) then m else (k, v) :: m
  | _ => none

def lenD (st : List SO) : D → Option Nat
  | .tup ds => some ds.length
  | .lst ds => some ds.length
  | .str x => some x.length
  | .dic kvs => some kvs.length
  | .scr ns => some ns.length
  | .obj k => match st[k]? with
    | some (.lst ds) => some ds.length
    | _ => none
  | _ => none
def items? (st : List SO) : D → Option (List D)
  | .tup ds => some ds
  | .lst ds => some ds
  | .obj k => match st[k]? with
    | some (.lst ds) => some ds
    | _ => none
  | _ => none
/-- what a for goes over -/
def iter? (st : List SO) : D → Option (List D)
  | .str x => some (x.cps.toList.map fun c => .str ⟨#[c]⟩)
  | .tup ds => some ds
  | .lst ds => some ds
  | _ => none
def enumD : D → Option (List D)
  | .lst ds => some ((ds.zipIdx).map fun p => .tup [.int (p.2 : Nat), p.1])
  | _ => none
def zipD : D → D → Option (List D)
  | .lst ds, .lst es => some ((ds.zip es).map fun p => .tup [p.1, p.2])
  | .tup ds, .tup es => some ((ds.zip es).map fun p => .tup [p.1, p.2])
  | _, _ => none
def revD : D → Option (List D)
  | .lst ds => some ds.reverse
  | .tup ds => some ds.reverse
  | _ => none
def bltD (st : List SO) : Blt → List D → Option Rv
  | .len, [a] => (lenD st a).map fun (n : Nat) => .val (.int (n : Int))
  | .sum, [a] => (items? st a).bind fun ds => (D.ints ds).map fun ns => .val (.int ns.sum)
  | .tuple, [a] => (items? st a).map fun ds => .val (.tup ds)
  | .list, [a] => (items? st a).map fun ds => .own ds
  | .sorted, [.dic kvs] => (D.tupInts (kvs.map (·.1))).map fun ns => .own ((sortL ns).map tI)
  | .sorted, [a] => (items? st a).bind fun ds => match D.ints ds with
    | some ns => some (.own ((sortI ns).map .int))
    | none => (D.tupInts ds).map fun ns => .own ((sortL ns).map tI)
  | .min2, [.int i, .int j] => some (.val (.int (if j < i then j else i)))
  | .max2, [.int i, .int j] => some (.val (.int (if j > i then j else i)))
  | .minD, [a] => (items? st a).bind fun ds => (D.ints ds).map fun ns => .val ((minI ns).elim .non .int)
  | .maxD, [a] => (items? st a).bind fun ds => (D.ints ds).map fun ns => .val ((maxI ns).elim .non .int)
  | .max1, [a] => (items? st a).bind fun ds => (D.ints ds).bind fun ns => (maxI ns).map fun n => .val (.int n)
  | .int, [.int i] => some (.val (.int i))
  | .int, [.bl b] => some (.val (.int (if b then 1 else 0)))
  | .int, [.str x] => if x.length ≤ 640 then (PySem.intText? x).map fun n => .val (.int n) else none
  | .str, [.int i] => if i.natAbs.log2 < 1920 then some (.val (.str (Str.ofString (toString i)))) else none
  | .all, [.lst ds] => (D.bls ds).map fun bs => .val (.bl (bs.all id))
  | .dict, [.lst ds] => (dicOf ds).map fun m => .val (.dic m)
  | _, _ => none
def D.tyO (st : List SO) : D → Option Ty
  | .non => some .none
  | .int _ => some .int
  | .bl _ => some .bool
  | .str _ => some .str
  | .tup _ => some .tuple
  | .lst _ => some .list
  | .scr _ => some .list
  | .obj k => match st[k]? with
    | some (.lst _) => some .list
    | _ => none
  | _ => none
/-- is it of that type -/
def Ty.sub (t u : Ty) : Bool := decide (t = u) || (decide (t = .bool) && decide (u = .int))
/-- methods that change nothing -/
def methD (m : Mth) (o : D) (as : List D) : Option Rv := match m, o, as with
  | .join, .str x, [.lst ds] => (D.strs ds).bind fun xs => if (xs.map (·.length)).sum + x.length * xs.length ≤ LIM then some (.val (.str (PySem.Txt.join x xs))) else none
  | .split, .str x, [.str y] => if y.length ≠ 0 ∧ x.length + 2 ≤ LIM then some (.own ((PySem.Txt.split x y).map .str)) else none
  | .get, .dic kvs, [k] => some (.val (((kvs.find? fun p => D.eqv p.1 k).map (·.2)).getD .non))
  | .get, .dic kvs, [k, d] => some (.val (((kvs.find? fun p => D.eqv p.1 k).map (·.2)).getD d))
  | .count, .lst ds, [k] => if flatD k ∧ ds.all flatD then some (.val (.int ((ds.filter fun d => D.eqv d k).length))) else none
  | _, _, _ => none
/-- methods that change a list: the value, the list behind -/
def methL (m : Mth) (ds : List D) (as : List D) : Option (D × List D) := match m, as with
  | .append, [d] => if ds.length < LIM then some (.non, ds ++ [d]) else none
  | .extend, [.lst es] => if ds.length + es.length ≤ LIM then some (.non, ds ++ es) else none
  | .extend, [.tup es] => if ds.length + es.length ≤ LIM then some (.non, ds ++ es) else none
  | .pop, [] => ds.getLast?.map fun d => (d, ds.dropLast)
  | .reverse, [] => some (.non, ds.reverse)
  | _, _ => none

/-! ### running -/
def rangeD (lo : Int) (n : Nat) : List D := (List.range n).map fun (i : Nat) => .int (lo + (i : Int))
def rangeDn (hi : Int) (n : Nat) : List D := (List.range n).map fun (i : Nat) => .int (hi + (i : Int) * -1)
def rangeOf : List D → Option (List D)
  | [.int j] => if -(2 ^ 62) ≤ j ∧ j < LIM then some (rangeD 0 j.toNat) else none
  | [.int i, .int j] => if -(2 ^ 62) ≤ i ∧ i < 2 ^ 62 ∧ -(2 ^ 62) ≤ j ∧ j < 2 ^ 62 ∧ j - i < LIM then some (rangeD i (j - i).toNat) else none
  | [.int i, .int j, .int (-1)] => if -(2 ^ 61) ≤ i ∧ i < 2 ^ 61 ∧ -(2 ^ 61) ≤ j ∧ j < 2 ^ 61 ∧ i - j < LIM then some (rangeDn i (i - j).toNat) else none
  | _ => none

def putF (f : Str) (d : D) : List (Str × D) → List (Str × D)
  | [] => [(f, d)]
  | (g, e) :: r => if g = f then (f, d) :: r else (g, e) :: putF f d r

/-- an expression's value: a frozen one, a new list that nobody else holds, the list that a name has (it is read where the operation is done) -/
inductive Rx where
  | val (d : D) | own (ds : List D) | ref (i : Nat)
  deriving Inhabited
def Rv.x : Rv → Rx
  | .val d => .val d
  | .own ds => .own ds
def Rx.res : Rx → S → Option D
  | .val d, _ => some d
  | .own ds, _ => some (.lst ds)
  | .ref i, s => match s.env[i]? with
    | some (.val d) => some d
    | some (.own ds) => some (.lst ds)
    | _ => none

/-- reading a name: its list is frozen -/
def readV (i : Nat) (s : S) : Out D := match s.env[i]? with
  | some (.val d) => .ok d s
  | some (.own ds) => .ok (.lst ds) { s with env := s.env.set i (.val (.lst ds)) }
  | _ => .bad
/-- a value that is kept: its list is frozen -/
def Rx.frz (r : Rx) (s : S) : Out D := match r with
  | .val d => .ok d s
  | .own ds => .ok (.lst ds) s
  | .ref i => readV i s
/-- a value's truth -/
def Rx.tru (r : Rx) (s : S) : Out Bool := match r.res s with
  | some d => .of (d.truth s.st) s
  | none => .bad
def asgT (tg : Tgt) (d : D) (s : S) : Option S := match tg with
  | .v i => if i < s.env.length then some { s with env := s.env.set i (.val d) } else none
  | .t is => match d with
    | .tup ds => if ds.length = is.length ∧ is.all (fun i => decide (i < s.env.length)) then some { s with env := (is.zip ds).foldl (fun e p => e.set p.1 (.val p.2)) s.env } else none
    | _ => none
def wipe (env : List Sl) : List Nat → List Sl
  | [] => env
  | i :: r => wipe (env.set i .no) r
def back (env old : List Sl) : List Nat → List Sl
  | [] => env
  | i :: r => back (match old[i]? with | some x => env.set i x | none => env) old r
def plainAt (env : List Sl) (i : Nat) : Bool := match env[i]? with
  | some (.own _) => false
  | some _ => true
  | none => false

/-- where no exception may leave -/
def Out.nox {α : Type} (o : Out α) : Out α := match o with
  | .err _ _ => .bad
  | o => o
def compL (f : D → S → Out (Option D)) : List D → List D → S → Out (List D)
  | [], acc, s => .ok acc s
  | d :: r, acc, s => (f d s).bind fun x s => match x with
    | some y => compL f r (acc ++ [y]) s
    | none => compL f r acc s
def loopL (f : D → S → Out Flow) : List D → S → Out Flow
  | [], s => .ok .nx s
  | d :: r, s => (f d s).bind fun x s => match x with
    | .nx => loopL f r s
    | .ct => loopL f r s
    | .brk => .ok .nx s
    | .ret v => .ok (.ret v) s
def whL (c : S → Out Bool) (b : S → Out Flow) : Nat → S → Out Flow
  | 0, _ => .bad
  | n + 1, s => (c s).bind fun t s => if t then (b s).bind fun x s => match x with
      | .nx => whL c b n s
      | .ct => whL c b n s
      | .brk => .ok .nx s
      | .ret v => .ok (.ret v) s
    else .ok .nx s
/-- the most turns of a while -/
def FUEL : Nat := 1000000

abbrev FS := Nat → List D → List SO → FO

section
variable (φ : FS)
def callF (f : Nat) (as : List D) (s : S) : Out Rx := match φ f as s.st with
  | .ok r st => .ok r.x { s with st := st }
  | .err x st => .err x { s with st := st }
  | .bad => .bad
def ofV (o : Option Rv) (s : S) : Out Rx := match o with
  | some r => .ok r.x s
  | none => .bad
/-- whose method it is -/
def Mth.ty : Mth → Ty
  | .append | .extend | .pop | .reverse | .count | .index => .list
  | .join | .split | .replace | .strip => .str
  | .get => .dict
def recv (m : Mth) (o : Rx) (s : S) : Out Unit := match o.res s with
  | some d => if d.tyO s.st = some m.ty then .ok () s else .bad
  | none => .bad
/-- a method: on a name's list, on a list of the store, on a value -/
def methR (m : Mth) (o : Rx) (ds : List D) (s : S) : Out Rx := match o with
  | .ref i => match s.env[i]? with
    | some (.own xs) => match methL m xs ds with
      | some (d, ys) => .ok (.val d) { s with env := s.env.set i (.own ys) }
      | none => .bad
    | some (.val d) => ofV (methD m d ds) s
    | _ => .bad
  | .val (.obj k) => match s.st[k]? with
    | some (.lst xs) => match methL m xs ds with
      | some (d, ys) => .ok (.val d) { s with st := s.st.set k (.lst ys) }
      | none => .bad
    | _ => .bad
  | .val d => ofV (methD m d ds) s
  | .own xs => ofV (methD m (.lst xs) ds) s
/-- an operation on two values, read where it is done -/
def op2 (f : D → D → Option Rv) (x y : Rx) (s : S) : Out Rx := match x.res s, y.res s with
  | some a, some b => ofV (f a b) s
  | _, _ => .bad
def op1 (f : D → Option Rv) (x : Rx) (s : S) : Out Rx := match x.res s with
  | some a => ofV (f a) s
  | none => .bad
def resAll : List Rx → S → Option (List D)
  | [], _ => some []
  | r :: rs, s => match r.res s, resAll rs s with
    | some d, some ds => some (d :: ds)
    | _, _ => none
def opN (f : List D → Option Rv) (xs : List Rx) (s : S) : Out Rx := match resAll xs s with
  | some ds => ofV (f ds) s
  | none => .bad
def negD : D → Option Rv
  | .int i => some (.val (.int (-i)))
  | _ => none
def capAll (env : List Sl) : List Nat → Option (List D)
  | [] => some []
  | i :: r => match env[i]?, capAll env r with
    | some (.val d), some ds => some (d :: ds)
    | _, _ => none
def fldD (st : List SO) (f : Str) : D → Option Rv
  | .obj k => match st[k]? with
    | some (.ins _ fs) => (fs.lookup f).map .val
    | _ => none
  | _ => none

mutual
def evalE : IE → S → Out Rx
  | .var i, s => match s.env[i]? with
    | some (.val d) => .ok (.val d) s
    | some (.own _) => .ok (.ref i) s
    | _ => .bad
  | .c d, s => .ok (.val d) s
  | .g _ d, s => .ok (.val d) s
  | .bin op a b, s => (evalE a s).bind fun x s => (evalE b s).bind fun y s => op2 (binD op) x y s
  | .neg a, s => (evalE a s).bind fun x s => op1 negD x s
  | .cmp op a b, s => (evalE a s).bind fun x s => (evalE b s).bind fun y s => op2 (fun a b => (cmpD op a b).map fun k => .val (.bl k)) x y s
  | .chain op op' a b c, s => (evalE a s).bind fun x s => (evalE b s).bind fun y s => y.frz s |>.bind fun y s => match x.res s with
    | some x => match cmpD op x y with
      | some true => (evalE c s).bind fun z s => op2 (fun a b => (cmpD op' a b).map fun k => .val (.bl k)) (.val y) z s
      | some false => .ok (.val (.bl false)) s
      | none => .bad
    | none => .bad
  | .and a b, s => (evalE a s).bind fun x s => (x.tru s).bind fun k s => if k then evalE b s else .ok x s
  | .or a b, s => (evalE a s).bind fun x s => (x.tru s).bind fun k s => if k then .ok x s else evalE b s
  | .not a, s => (evalE a s).bind fun x s => (x.tru s).bind fun k s => .ok (.val (.bl (!k))) s
  | .ite t a b, s => (evalE t s).bind fun x s => (x.tru s).bind fun k s => if k then evalE a s else evalE b s
  | .tup es, s => (evalEs es s).bind fun ds s => .ok (.val (.tup ds)) s
  | .lst es, s => (evalEs es s).bind fun ds s => .ok (.own ds) s
  | .lstM es, s => (evalEs es s).bind fun ds s => .ok (.val (.obj s.st.length)) { s with st := s.st ++ [.lst ds] }
  | .dic ks vs, s => (evalEs ks s).bind fun ks s => (evalEs vs s).bind fun vs s => .ok (.val (.dic (ks.zip vs))) s
  | .idx a b, s => (evalE a s).bind fun x s => (evalE b s).bind fun y s => op2 (fun x y => (idxD s.st x y).map .val) x y s
  | .slc a lo hi, s => (evalE a s).bind fun x s => (evalOE lo s).bind fun l s => (evalOE hi s).bind fun h s => op1 (fun x => slcD s.st x l h) x s
  | .srev a, s => (evalE a s).bind fun x s => op1 srevD x s
  | .call f es, s => (evalEs es s).bind fun ds s => callF φ f ds s
  | .callV e es, s => (evalE e s).bind fun x s => match x with
    | .val (.fn f caps) => (evalEs es s).bind fun ds s => callF φ f (caps ++ ds) s
    | _ => .bad
  | .blt b es, s => (evalOs es s).bind fun os s => opN (bltD s.st b) os s
  | .isin a ts, s => (evalE a s).bind fun x s => op1 (fun x => (x.tyO s.st).map fun t => .val (.bl (ts.any fun u => t.sub u))) x s
  | .meth m o es, s => (evalE o s).bind fun o s => (recv m o s).bind fun _ s => (evalEs es s).bind fun ds s => methR m o ds s
  | .fld o f, s => (evalE o s).bind fun x s => op1 (fldD s.st f) x s
  | .mcall f o es, s => (evalE o s).bind fun x s => (x.frz s).bind fun x s => (evalEs es s).bind fun ds s => callF φ f (x :: ds) s
  | .make c f es, s => (evalEs es s).bind fun ds s =>
      (callF φ f (.obj s.st.length :: ds) { s with st := s.st ++ [.ins c []] }).bind fun r s' => match r with
        | .val .non => .ok (.val (.obj s.st.length)) s'
        | _ => .bad
  | .comp elt tg it cond vs, s => (evalIT it s).bind fun ds s =>
      if vs.all (plainAt s.env) then
        (compL (fun d s => match asgT tg d { s with env := wipe s.env vs } with
          | some s => (evalOC cond s).bind fun k s => if k then (evalE elt s).bind fun x s => (x.frz s).bind fun x s => .ok (some x) s else .ok none s
          | none => .bad) ds [] s).nox.bind fun ys s' => .ok (.own ys) { s' with env := back s'.env s.env vs }
      else .bad
  | .clos f caps, s => match capAll s.env caps with
    | some ds => .ok (.val (.fn f ds)) s
    | none => .bad
def evalEs : IEs → S → Out (List D)
  | .nil, s => .ok [] s
  | .cons e es, s => (evalE e s).bind fun x s => (x.frz s).bind fun d s => (evalEs es s).bind fun ds s => .ok (d :: ds) s
def evalOs : IEs → S → Out (List Rx)
  | .nil, s => .ok [] s
  | .cons e es, s => (evalE e s).bind fun d s => (evalOs es s).bind fun ds s => .ok (d :: ds) s
def evalOE : OE → S → Out (Option Int)
  | .no, s => .ok none s
  | .some e, s => (evalE e s).bind fun x s => match x with
    | .val (.int i) => .ok (some i) s
    | _ => .bad
def evalOC : OE → S → Out Bool
  | .no, s => .ok true s
  | .some e, s => (evalE e s).bind fun x s => x.tru s
def evalIT : IT → S → Out (List D)
  | .e a, s => (evalE a s).bind fun x s => (x.frz s).bind fun x s => .of (iter? s.st x) s
  | .rng es, s => (evalEs es s).bind fun ds s => .of (rangeOf ds) s
  | .enum a, s => (evalE a s).bind fun x s => (x.frz s).bind fun x s => .of (enumD x) s
  | .zip a b, s => (evalE a s).bind fun x s => (x.frz s).bind fun x s => (evalE b s).bind fun y s => (y.frz s).bind fun y s => .of (zipD x y) s
  | .rev a, s => (evalE a s).bind fun x s => (x.frz s).bind fun x s => .of (revD x) s
end

/-- a value is stored at a name -/
def setR (i : Nat) (r : Rx) (s : S) : Out Flow := if i < s.env.length then match r with
    | .val d => .ok .nx { s with env := s.env.set i (.val d) }
    | .own ds => .ok .nx { s with env := s.env.set i (.own ds) }
    | .ref j => (readV j s).bind fun d s => .ok .nx { s with env := s.env.set i (.val d) }
  else .bad
/-- o[i] = d -/
def setItem (o : Rx) (i d : D) (s : S) : Out Flow := match o, i with
  | .ref j, .int i => match s.env[j]? with
    | some (.own xs) => match ixN xs.length i with
      | some k => .ok .nx { s with env := s.env.set j (.own (xs.set k d)) }
      | none => .bad
    | _ => .bad
  | .val (.obj j), .int i => match s.st[j]? with
    | some (.lst xs) => match ixN xs.length i with
      | some k => .ok .nx { s with st := s.st.set j (.lst (xs.set k d)) }
      | none => .bad
    | _ => .bad
  | _, _ => .bad
def setTS (t : Tst) (d : D) (s : S) : Out Flow := match t with
  | .v i => setR i (.val d) s
  | .x o i => (evalE φ o s).bind fun o s => (evalE φ i s).bind fun i s => match i with
    | .val i => setItem o i d s
    | _ => .bad
def setAll : List Tst → List D → S → Out Flow
  | [], [], s => .ok .nx s
  | t :: ts, d :: ds, s => (setTS φ t d s).bind fun _ s => setAll ts ds s
  | _, _, _ => .bad

mutual
def run : IS → S → Out Flow
  | .set i e, s => (evalE φ e s).bind fun r s => setR i r s
  | .setT ts e, s => (evalE φ e s).bind fun r s => match r with
    | .val (.tup ds) => if ds.length = ts.length then setAll φ ts ds s else .bad
    | _ => .bad
  | .setI o i e, s => (evalE φ e s).bind fun r s => (r.frz s).bind fun d s => (evalE φ o s).bind fun o s => (evalE φ i s).bind fun i s => match i with
    | .val i => setItem o i d s
    | _ => .bad
  | .setF o f e, s => (evalE φ e s).bind fun r s => (r.frz s).bind fun d s => (evalE φ o s).bind fun o s => match o with
    | .val (.obj k) => match s.st[k]? with
      | some (.ins c fs) => if fs.length < 100 then .ok .nx { s with st := s.st.set k (.ins c (putF f d fs)) } else .bad
      | _ => .bad
    | _ => .bad
  | .ex e, s => (evalE φ e s).bind fun _ s => .ok .nx s
  | .ite t a b, s => (evalE φ t s).bind fun x s => (x.tru s).bind fun k s => if k then runs a s else runs b s
  | .loop tg it b, s => (evalIT φ it s).bind fun ds s => loopL (fun d s => match asgT tg d s with
      | some s => runs b s
      | none => .bad) ds s
  | .wh t b, s => whL (fun s => (evalE φ t s).bind fun x s => x.tru s) (runs b) FUEL s
  | .ret e, s => (evalE φ e s).bind fun r s => match r with
    | .val d => .ok (.ret (.val d)) s
    | .own ds => .ok (.ret (.own ds)) s
    | .ref i => match s.env[i]? with
      | some (.own ds) => .ok (.ret (.own ds)) s
      | _ => .bad
  | .raise c es, s => (evalEs φ es s).bind fun ds s => match ds with
    | [] => .err ⟨c, none⟩ s
    | [d] => .err ⟨c, some d⟩ s
    | _ => .bad
  | .tr b c n h, s => match runs b s with
    | .err x s => if x.c = c then match n with
        | none => runs h s
        | some i => (runs h { s with env := s.env.set i (.val (.exc x.c x.fld)) }).bind fun f s => .ok f { s with env := s.env.set i .no }
      else .err x s
    | o => o
  | .pass, s => .ok .nx s
  | .never, _ => .bad
def runs : ISs → S → Out Flow
  | .nil, s => .ok .nx s
  | .cons a r, s => (run a s).bind fun f s => match f with
    | .nx => runs r s
    | f => .ok f s
end
/-- a def: how many parameters, how many names, its body -/
structure Def where
  np : Nat
  nn : Nat
  body : ISs
  deriving Inhabited
def runDef (d : Def) (as : List D) (st : List SO) : FO :=
  if as.length = d.np then match runs φ d.body ⟨as.map .val ++ List.replicate (d.nn - d.np) .no, st⟩ with
    | .ok .nx s => .ok (.val .non) s.st
    | .ok (.ret r) s => .ok r s.st
    | .ok _ _ => .bad
    | .err x s => .err x s.st
    | .bad => .bad
  else .bad
end
/-- what the defs do, to a depth of calls -/
def Phi (T : Nat → Option Def) : Nat → FS
  | 0 => fun _ _ _ => .bad
  | n + 1 => fun f as st => match T f with
    | some d => runDef (Phi T n) d as st
    | none => .bad
/-- a turn of a comprehension -/
def turnC (φ : FS) (elt : IE) (tg : Tgt) (cond : OE) (vs : List Nat) (d : D) (s : S) : Out (Option D) := match asgT tg d { s with env := wipe s.env vs } with
  | some s => (evalOC φ cond s).bind fun k s => if k then (evalE φ elt s).bind fun x s => (x.frz s).bind fun x s => .ok (some x) s else .ok none s
  | none => .bad
theorem evalE_comp {φ : FS} {elt : IE} {tg : Tgt} {it : IT} {cond : OE} {vs : List Nat} {s : S} : evalE φ (.comp elt tg it cond vs) s = (evalIT φ it s).bind fun ds s => if vs.all (plainAt s.env) then
    (compL (turnC φ elt tg cond vs) ds [] s).nox.bind fun ys s' => .ok (.own ys) { s' with env := back s'.env s.env vs } else .bad := rfl
/-- a turn of a for -/
def turnL (φ : FS) (tg : Tgt) (b : ISs) (d : D) (s : S) : Out Flow := match asgT tg d s with
  | some s => runs φ b s
  | none => .bad
theorem run_loop {φ : FS} {tg : Tgt} {it : IT} {b : ISs} {s : S} : run φ (.loop tg it b) s = (evalIT φ it s).bind fun ds s => loopL (turnL φ tg b) ds s := by rw [run]; rfl
end PL

/-! how plain values stand in the machine's heap -/
namespace PL
open PySem PySem.Spec PyProof.Rows L2

/-- the written part, where the own classes stand, where the exceptions' classes stand -/
structure Wd where
  K : PySem.W.Frag
  im : Nat → Addr
  cm : Nat → Addr
/-- where the store's objects stand; the lists that are frozen -/
structure Gh where
  mu : List Addr
  Z : Addr → Prop
def okS (x : Str) : Prop := x.cps.all (· < 0x110000) = true ∧ x.length ≤ 16777216

mutual
inductive Rep (w : Wd) (g : Gh) (H : Hp) : V → D → Prop
  | non : Rep w g H .non .non
  | bl (b : Bool) : Rep w g H (.bl b) (.bl b)
  | int (i : Int) : Rep w g H (.int i) (.int i)
  | str (x : Str) : okS x → Rep w g H (.str x) (.str x)
  | tup {a : Addr} {xs : List V} {ds : List D} : SqT w.K H a xs → xs.length ≤ sizeLine → Reps w g H xs ds → Rep w g H (.ref a) (.tup ds)
  | lst {a : Addr} {xs : List V} {ds : List D} : g.Z a → H a = some (.lst xs) → xs.length ≤ sizeLine → Reps w g H xs ds → Rep w g H (.ref a) (.lst ds)
  | obj {a : Addr} {k : Nat} : g.mu[k]? = some a → Rep w g H (.ref a) (.obj k)
  | scr {a : Addr} {ns : List Int} : (∀ H' : Hp, (∀ b o u, H b = some (.frz o u) → H' b = some (.frz o u)) → SqL w.K H' a (ns.map V.int)) → Rep w g H (.ref a) (.scr ns)
inductive Reps (w : Wd) (g : Gh) (H : Hp) : List V → List D → Prop
  | nil : Reps w g H [] []
  | cons {v : V} {vs : List V} {d : D} {ds : List D} : Rep w g H v d → Reps w g H vs ds → Reps w g H (v :: vs) (d :: ds)
end

/-- what stands of values and of the frozen stays -/
structure Step (g : Gh) (H : Hp) (g' : Gh) (H' : Hp) : Prop where
  mu : ∀ (k : Nat) a, g.mu[k]? = some a → g'.mu[k]? = some a
  z : ∀ a, g.Z a → g'.Z a
  zk : ∀ a xs, g.Z a → H a = some (.lst xs) → H' a = some (.lst xs)
  tup : ∀ a xs, H a = some (.tup xs) → H' a = some (.tup xs)
  frz : ∀ a o u, H a = some (.frz o u) → H' a = some (.frz o u)
theorem Step.refl (g : Gh) (H : Hp) : Step g H g H := ⟨fun _ _ h => h, fun _ h => h, fun _ _ _ h => h, fun _ _ h => h, fun _ _ _ h => h⟩
theorem Step.trans {g g1 g2 : Gh} {H H1 H2 : Hp} (a : Step g H g1 H1) (b : Step g1 H1 g2 H2) : Step g H g2 H2 :=
  ⟨fun k x h => b.mu k x (a.mu k x h), fun x h => b.z x (a.z x h), fun x xs h1 h2 => b.zk x xs (a.z x h1) (a.zk x xs h1 h2), fun x xs h => b.tup x xs (a.tup x xs h), fun x o u h => b.frz x o u (a.frz x o u h)⟩

theorem sqT_step {K : PySem.W.Frag} {g g' : Gh} {H H' : Hp} {a : Addr} {xs : List V} (k : Step g H g' H') (h : SqT K H a xs) : SqT K H' a xs := by
  rcases h with (h | ⟨o, h⟩) | h
  · exact .inl (.inl (k.tup _ _ h))
  · exact .inl (.inr ⟨o, k.frz _ _ _ h⟩)
  · exact .inr h
mutual
theorem Rep.step {w : Wd} {g g' : Gh} {H H' : Hp} (k : Step g H g' H') : ∀ {v : V} {d : D}, Rep w g H v d → Rep w g' H' v d
  | _, _, .non => .non
  | _, _, .bl b => .bl b
  | _, _, .int i => .int i
  | _, _, .str x h => .str x h
  | _, _, .tup h z r => .tup (sqT_step k h) z (Reps.step k r)
  | _, _, .lst hz h z r => .lst (k.z _ hz) (k.zk _ _ hz h) z (Reps.step k r)
  | _, _, .obj h => .obj (k.mu _ _ h)
  | _, _, .scr h => .scr fun H2 h2 => h H2 fun b o u e => h2 b o u (k.frz b o u e)
theorem Reps.step {w : Wd} {g g' : Gh} {H H' : Hp} (k : Step g H g' H') : ∀ {v : List V} {d : List D}, Reps w g H v d → Reps w g' H' v d
  | _, _, .nil => .nil
  | _, _, .cons h r => .cons (Rep.step k h) (Reps.step k r)
end
section
variable {w : Wd} {g : Gh} {H : Hp}
theorem Reps.length : ∀ {vs : List V} {ds : List D}, Reps w g H vs ds → vs.length = ds.length
  | _, _, .nil => rfl
  | _, _, .cons _ r => by simp [Reps.length r]
theorem Reps.get : ∀ {vs : List V} {ds : List D} {i : Nat} {d : D}, Reps w g H vs ds → ds[i]? = some d → ∃ v, vs[i]? = some v ∧ Rep w g H v d
  | _, _, _, _, .nil, h => by simp at h
  | _, _, 0, _, .cons h r, e => by simp at e; subst e; exact ⟨_, rfl, h⟩
  | _, _, i + 1, _, .cons h r, e => by
    obtain ⟨v, h1, h2⟩ := Reps.get (i := i) r (by simpa using e)
    exact ⟨v, by simpa using h1, h2⟩
theorem Reps.getV : ∀ {vs : List V} {ds : List D} {i : Nat} {v : V}, Reps w g H vs ds → vs[i]? = some v → ∃ d, ds[i]? = some d ∧ Rep w g H v d
  | _, _, _, _, .nil, h => by simp at h
  | _, _, 0, _, .cons h r, e => by simp at e; subst e; exact ⟨_, rfl, h⟩
  | _, _, i + 1, _, .cons h r, e => by
    obtain ⟨v, h1, h2⟩ := Reps.getV (i := i) r (by simpa using e)
    exact ⟨v, by simpa using h1, h2⟩
theorem Reps.append : ∀ {vs us : List V} {ds es : List D}, Reps w g H vs ds → Reps w g H us es → Reps w g H (vs ++ us) (ds ++ es)
  | _, _, _, _, .nil, h => h
  | _, _, _, _, .cons h r, q => .cons h (Reps.append r q)
theorem Reps.one {v : V} {d : D} (h : Rep w g H v d) : Reps w g H [v] [d] := .cons h .nil
theorem Reps.take : ∀ {vs : List V} {ds : List D} (n : Nat), Reps w g H vs ds → Reps w g H (vs.take n) (ds.take n)
  | _, _, 0, _ => .nil
  | _, _, _ + 1, .nil => .nil
  | _, _, n + 1, .cons h r => .cons h (Reps.take n r)
theorem Reps.drop : ∀ {vs : List V} {ds : List D} (n : Nat), Reps w g H vs ds → Reps w g H (vs.drop n) (ds.drop n)
  | _, _, 0, r => r
  | _, _, _ + 1, .nil => .nil
  | _, _, n + 1, .cons _ r => Reps.drop n r
theorem Reps.set : ∀ {vs : List V} {ds : List D} {v : V} {d : D} (i : Nat), Reps w g H vs ds → Rep w g H v d → Reps w g H (vs.set i v) (ds.set i d)
  | _, _, _, _, _, .nil, _ => .nil
  | _, _, _, _, 0, .cons _ r, h => .cons h r
  | _, _, _, _, i + 1, .cons q r, h => .cons q (Reps.set i r h)
theorem Reps.reverse : ∀ {vs : List V} {ds : List D}, Reps w g H vs ds → Reps w g H vs.reverse ds.reverse
  | _, _, .nil => .nil
  | _, _, .cons h r => by simpa using Reps.append (Reps.reverse r) (Reps.one h)
theorem Reps.dropLast {vs : List V} {ds : List D} (h : Reps w g H vs ds) : Reps w g H vs.dropLast ds.dropLast := by
  rw [List.dropLast_eq_take, List.dropLast_eq_take, h.length]
  exact h.take _
theorem Reps.flatRep {vs : List V} {ds : List D} (h : Reps w g H vs ds) : ∀ n, Reps w g H (List.replicate n vs).flatten (List.replicate n ds).flatten
  | 0 => .nil
  | n + 1 => by
    rw [List.replicate_succ, List.replicate_succ, List.flatten_cons, List.flatten_cons]
    exact h.append (Reps.flatRep h n)
theorem Reps.ints : ∀ {ds : List D} {vs : List V} {ns : List Int}, Reps w g H vs ds → D.ints ds = some ns → vs = ns.map V.int
  | _, _, _, .nil, e => by simp [D.ints] at e; subst e; rfl
  | _, _, _, .cons (d := d) h r, e => by
    cases d <;> simp [D.ints] at e
    obtain ⟨ms, e1, rfl⟩ := e
    cases h
    simp [Reps.ints r e1]
theorem Reps.of_ints : ∀ ns : List Int, Reps w g H (ns.map V.int) (ns.map D.int)
  | [] => .nil
  | n :: r => .cons (.int n) (Reps.of_ints r)
theorem Reps.bls : ∀ {ds : List D} {vs : List V} {ns : List Bool}, Reps w g H vs ds → D.bls ds = some ns → vs = ns.map V.bl
  | _, _, _, .nil, e => by simp [D.bls] at e; subst e; rfl
  | _, _, _, .cons (d := d) h r, e => by
    cases d <;> simp [D.bls] at e
    obtain ⟨ms, e1, rfl⟩ := e
    cases h
    simp [Reps.bls r e1]
theorem Reps.strs : ∀ {ds : List D} {vs : List V} {ns : List Str}, Reps w g H vs ds → D.strs ds = some ns → vs = ns.map V.str ∧ ∀ x ∈ ns, okS x
  | _, _, _, .nil, e => by simp [D.strs] at e; subst e; simp
  | _, _, _, .cons (d := d) h r, e => by
    cases d <;> simp [D.strs] at e
    obtain ⟨ms, e1, rfl⟩ := e
    cases h
    rename_i hx
    obtain ⟨a, b⟩ := Reps.strs r e1
    refine ⟨by simp [a], fun x hx' => ?_⟩
    rcases List.mem_cons.mp hx' with rfl | hx'
    · exact hx
    · exact b x hx'
theorem Reps.of_strs : ∀ ns : List Str, (∀ x ∈ ns, okS x) → Reps w g H (ns.map V.str) (ns.map D.str)
  | [], _ => .nil
  | n :: r, h => .cons (.str n (h n List.mem_cons_self)) (Reps.of_strs r fun x hx => h x (List.mem_cons_of_mem _ hx))
end

/-! ### the store, the names -/
/-- the frame of a call: what was tracked, but for the store's objects, stays -/
structure StepF (g : Gh) (H : Hp) (g' : Gh) (H' : Hp) : Prop where
  mu : ∀ (k : Nat) a, g.mu[k]? = some a → g'.mu[k]? = some a
  keep : ∀ b o, H b = some o → b ∉ g.mu → H' b = some o
  there : ∀ b o, H b = some o → ∃ o', H' b = some o'
  new : ∀ b o, H b = some o → b ∉ g.mu → b ∉ g'.mu
  z : ∀ a, g.Z a → g'.Z a
  zn : ∀ b o, H b = some o → ¬ g.Z b → ¬ g'.Z b
def ObjR (w : Wd) (g : Gh) (H : Hp) (a : Addr) : SO → Prop
  | .lst ds => ∃ xs, H a = some (.lst xs) ∧ xs.length ≤ sizeLine ∧ Reps w g H xs ds
  | .ins c fs => ∃ dx fv, H a = some (.ins (w.im c) dx fv) ∧ fv.map (·.1) = fs.map (·.1) ∧ Reps w g H (fv.map (·.2)) (fs.map (·.2))
structure StOk (w : Wd) (g : Gh) (H : Hp) (st : List SO) : Prop where
  len : st.length = g.mu.length
  nd : g.mu.Nodup
  nz : ∀ a ∈ g.mu, ¬ g.Z a
  zl : ∀ b, g.Z b → ∃ xs, H b = some (.lst xs)
  ob : ∀ (k : Nat) a o, g.mu[k]? = some a → st[k]? = some o → ObjR w g H a o
/-- a list that nobody else holds -/
def Own (w : Wd) (H0 : Hp) (g : Gh) (H : Hp) (a : Addr) (ds : List D) : Prop :=
  H0 a = none ∧ ¬ g.Z a ∧ a ∉ g.mu ∧ ∃ xs, H a = some (.lst xs) ∧ xs.length ≤ sizeLine ∧ Reps w g H xs ds
def SlotR (w : Wd) (H0 : Hp) (g : Gh) (H : Hp) (v : Option (Option V)) : Sl → Prop
  | .no => True
  | .val d => ∃ x, v = some (some x) ∧ Rep w g H x d
  | .own ds => ∃ a, v = some (some (.ref a)) ∧ Own w H0 g H a ds
/-- the state: g0, H0 at the def's entry -/
structure SR (w : Wd) (g0 : Gh) (H0 : Hp) (g : Gh) (s : S) (σ : L2.St) (H : Hp) : Prop where
  len : σ.length = s.env.length
  slot : ∀ (i : Nat) x, s.env[i]? = some x → SlotR w H0 g H σ[i]? x
  sep : ∀ (i j : Nat) ds es, s.env[i]? = some (.own ds) → s.env[j]? = some (.own es) → σ[i]? = σ[j]? → i = j
  st : StOk w g H s.st
  fr : StepF g0 H0 g H

section
variable {w : Wd} {g0 g g' g1 g2 : Gh} {H0 H H' H1 H2 : Hp} {s : S} {σ : L2.St} {st : List SO}
theorem StOk.at (h : StOk w g H st) {a : Addr} (ha : a ∈ g.mu) : (∃ xs, H a = some (.lst xs)) ∨ ∃ C dx fs, H a = some (.ins C dx fs) := by
  obtain ⟨k, hk⟩ := List.getElem?_of_mem ha
  have hlt : k < st.length := by
    rw [h.len]; exact (List.getElem?_eq_some_iff.mp hk).1
  have q := h.ob k a _ hk (List.getElem?_eq_getElem hlt)
  cases e : st[k] with
  | lst ds => rw [e] at q; obtain ⟨xs, q, _⟩ := q; exact .inl ⟨xs, q⟩
  | ins c fs => rw [e] at q; obtain ⟨dx, fv, q, _⟩ := q; exact .inr ⟨_, _, _, q⟩
theorem StOk.there (h : StOk w g H st) {a : Addr} (ha : a ∈ g.mu) : ∃ o, H a = some o := by
  rcases h.at ha with ⟨_, q⟩ | ⟨_, _, _, q⟩ <;> exact ⟨_, q⟩
theorem StepF.refl : StepF g H g H := ⟨fun _ _ h => h, fun _ _ h _ => h, fun _ o h => ⟨o, h⟩, fun _ _ _ h => h, fun _ h => h, fun _ _ _ h => h⟩
theorem mem_mu (k : ∀ (k : Nat) a, g.mu[k]? = some a → g'.mu[k]? = some a) {a : Addr} (h : a ∈ g.mu) : a ∈ g'.mu := by
  obtain ⟨i, hi⟩ := List.getElem?_of_mem h
  exact List.mem_of_getElem? (k i a hi)
theorem StepF.trans (a : StepF g H g1 H1) (b : StepF g1 H1 g2 H2) : StepF g H g2 H2 where
  mu := fun k x h => b.mu k x (a.mu k x h)
  keep := fun x o h n => b.keep x o (a.keep x o h n) (a.new x o h n)
  there := fun x o h => let ⟨o1, h1⟩ := a.there x o h; b.there x o1 h1
  new := fun x o h n => b.new x o (a.keep x o h n) (a.new x o h n)
  z := fun x h => b.z x (a.z x h)
  zn := fun x o h n => let ⟨o1, h1⟩ := a.there x o h; b.zn x o1 h1 (a.zn x o h n)
theorem StepF.step (a : StepF g H g' H') (h : StOk w g H st) : Step g H g' H' where
  mu := a.mu
  z := a.z
  zk := fun x xs hz e => a.keep x _ e fun hm => h.nz x hm hz
  tup := fun x xs e => a.keep x _ e fun hm => by
    rcases h.at hm with ⟨_, q⟩ | ⟨_, _, _, q⟩ <;> rw [e] at q <;> cases q
  frz := fun x o u e => a.keep x _ e fun hm => by
    rcases h.at hm with ⟨_, q⟩ | ⟨_, _, _, q⟩ <;> rw [e] at q <;> cases q
/-- behind a call: what it left -/
theorem SlotR.call {v : Option (Option V)} {x : Sl} (a : StepF g H g' H') (h : StOk w g H st) (r : SlotR w H0 g H v x) : SlotR w H0 g' H' v x := by
  have k := a.step h
  cases x with
  | no => trivial
  | val d => obtain ⟨y, e, q⟩ := r; exact ⟨y, e, q.step k⟩
  | own ds =>
    obtain ⟨p, e, h0, nz, nm, xs, hp, z, q⟩ := r
    exact ⟨p, e, h0, a.zn p _ hp nz, a.new p _ hp nm, xs, a.keep p _ hp nm, z, q.step k⟩
theorem SR.call {st' : List SO} (h : SR w g0 H0 g s σ H) (a : StepF g H g' H') (q : StOk w g' H' st') : SR w g0 H0 g' { s with st := st' } σ H' :=
  ⟨h.len, fun i x e => (h.slot i x e).call a h.st, h.sep, q, h.fr.trans a⟩

/-! ### a new object -/
theorem upd_keep {H : Hp} {p b : Addr} {o u : HO} (hp : H p = none) (h : H b = some u) : upd H p o b = some u := by
  rw [upd_ne (ne_of_none h hp)]; exact h
theorem stepF_new {p : Addr} {o : HO} (hp : H p = none) (hz : ¬ g.Z p) : StepF g H g (upd H p o) :=
  ⟨fun _ _ h => h, fun _ _ h _ => upd_keep hp h, fun _ u h => ⟨u, upd_keep hp h⟩, fun _ _ _ h => h, fun _ h => h, fun _ _ _ h => h⟩
theorem StOk.notZ (h : StOk w g H st) {p : Addr} (hp : H p = none) : ¬ g.Z p := fun z => by
  obtain ⟨xs, e⟩ := h.zl p z
  rw [hp] at e; cases e
theorem StOk.notMu (h : StOk w g H st) {p : Addr} (hp : H p = none) : p ∉ g.mu := fun z => by
  obtain ⟨o, e⟩ := h.there z
  rw [hp] at e; cases e
theorem StOk.new {p : Addr} {o : HO} (h : StOk w g H st) (hp : H p = none) : StOk w g (upd H p o) st := by
  have k := (stepF_new (o := o) hp (h.notZ hp)).step h
  refine ⟨h.len, h.nd, h.nz, fun b z => ?_, fun i a u e1 e2 => ?_⟩
  · obtain ⟨xs, e⟩ := h.zl b z
    exact ⟨xs, upd_keep hp e⟩
  · have q := h.ob i a u e1 e2
    cases u with
    | lst ds => obtain ⟨xs, e, z, r⟩ := q; exact ⟨xs, upd_keep hp e, z, r.step k⟩
    | ins c fs => obtain ⟨dx, fv, e, z, r⟩ := q; exact ⟨dx, fv, upd_keep hp e, z, r.step k⟩
theorem SR.new {p : Addr} {o : HO} (h : SR w g0 H0 g s σ H) (hp : H p = none) : SR w g0 H0 g s σ (upd H p o) :=
  h.call (stepF_new (o := o) hp (h.st.notZ hp)) (h.st.new hp)
theorem SR.stepN {p : Addr} {o : HO} (h : SR w g0 H0 g s σ H) (hp : H p = none) : Step g H g (upd H p o) := (stepF_new (o := o) hp (h.st.notZ hp)).step h.st
theorem SR.at0 (h : SR w g0 H0 g s σ H) {p : Addr} (hp : H p = none) : H0 p = none := by
  cases q : H0 p with
  | none => rfl
  | some o =>
    obtain ⟨o', e⟩ := h.fr.there p o q
    rw [hp] at e; cases e
theorem SR.ownN {p : Addr} {xs : List V} {ds : List D} (h : SR w g0 H0 g s σ H) (hp : H p = none) (z : xs.length ≤ sizeLine) (r : Reps w g H xs ds) : Own w H0 g (upd H p (.lst xs)) p ds :=
  ⟨h.at0 hp, h.st.notZ hp, h.st.notMu hp, xs, upd_same, z, r.step (h.stepN hp)⟩
/-- a list is owned by no name -/
def Free (s : S) (σ : L2.St) (a : Addr) : Prop := ∀ (i : Nat) es, s.env[i]? = some (.own es) → σ[i]? ≠ some (some (.ref a))
theorem SR.freeN {p : Addr} (h : SR w g0 H0 g s σ H) (hp : H p = none) : Free s σ p := fun i es e q => by
  obtain ⟨a, e1, _, _, _, xs, e2, _⟩ := h.slot i _ e
  rw [q] at e1; cases e1
  rw [hp] at e2; cases e2

/-! ### a list is frozen -/
def Gh.add (g : Gh) (a : Addr) : Gh := ⟨g.mu, fun b => g.Z b ∨ b = a⟩
theorem step_add (a : Addr) : Step g H (g.add a) H := ⟨fun _ _ h => h, fun _ h => .inl h, fun _ _ _ h => h, fun _ _ h => h, fun _ _ _ h => h⟩
theorem StOk.add {a : Addr} {xs : List V} (h : StOk w g H st) (e : H a = some (.lst xs)) (n : a ∉ g.mu) : StOk w (g.add a) H st := by
  refine ⟨h.len, h.nd, fun b hb z => ?_, fun b z => ?_, fun i b u e1 e2 => ?_⟩
  · rcases z with z | rfl
    · exact h.nz b hb z
    · exact n hb
  · rcases z with z | rfl
    · exact h.zl b z
    · exact ⟨_, e⟩
  · have q := h.ob i b u e1 e2
    cases u with
    | lst ds => obtain ⟨xs, e, z, r⟩ := q; exact ⟨xs, e, z, r.step (step_add a)⟩
    | ins c fs => obtain ⟨dx, fv, e, z, r⟩ := q; exact ⟨dx, fv, e, z, r.step (step_add a)⟩
theorem fr_add {a : Addr} (h : StepF g0 H0 g H) (e : H0 a = none) : StepF g0 H0 (g.add a) H :=
  ⟨h.mu, h.keep, h.there, h.new, fun b z => .inl (h.z b z), fun b o e2 n z => by
    rcases z with z | rfl
    · exact h.zn b o e2 n z
    · rw [e] at e2; cases e2⟩
theorem Rep.ofOwn {a : Addr} {ds : List D} (o : Own w H0 g H a ds) : Rep w (g.add a) H (.ref a) (.lst ds) := by
  obtain ⟨_, _, _, xs, e, z, r⟩ := o
  exact .lst (.inr rfl) e z (r.step (step_add a))
theorem SR.add {a : Addr} {ds : List D} (h : SR w g0 H0 g s σ H) (o : Own w H0 g H a ds) (f : Free s σ a) : SR w g0 H0 (g.add a) s σ H := by
  obtain ⟨e0, nz, nm, xs, e, z, r⟩ := id o
  refine ⟨h.len, fun i x ex => ?_, h.sep, h.st.add e nm, fr_add h.fr e0⟩
  have q := h.slot i x ex
  cases x with
  | no => trivial
  | val d => obtain ⟨y, e1, q⟩ := q; exact ⟨y, e1, q.step (step_add a)⟩
  | own es =>
    obtain ⟨p, e1, h0, nz', nm', ys, hp, z', q⟩ := q
    refine ⟨p, e1, h0, fun zz => ?_, nm', ys, hp, z', q.step (step_add a)⟩
    rcases zz with zz | rfl
    · exact nz' zz
    · exact f i es ex e1
theorem getElem?_set {α : Type} (l : List α) (i j : Nat) (x : α) : (l.set i x)[j]? = if i = j then (if i < l.length then some x else none) else l[j]? := by
  rw [List.getElem?_set]
/-- a name's list is frozen -/
theorem SR.addAt {i : Nat} {ds : List D} (h : SR w g0 H0 g s σ H) (ei : s.env[i]? = some (.own ds)) :
    ∃ a, σ[i]? = some (some (.ref a)) ∧ SR w g0 H0 (g.add a) { s with env := s.env.set i (.val (.lst ds)) } σ H ∧ Step g H (g.add a) H ∧ Rep w (g.add a) H (.ref a) (.lst ds) := by
  obtain ⟨a, e1, o⟩ := h.slot i _ ei
  obtain ⟨e0, nz, nm, xs, e, z, r⟩ := id o
  have hi : i < s.env.length := (List.getElem?_eq_some_iff.mp ei).1
  refine ⟨a, e1, ⟨by simpa using h.len, fun j x ex => ?_, fun j k ds' es' ej ek q => ?_, h.st.add e nm, fr_add h.fr e0⟩, step_add a, .ofOwn o⟩
  · rw [getElem?_set] at ex
    by_cases hj : i = j
    · subst hj
      simp [hi] at ex
      subst ex
      exact ⟨_, e1, .ofOwn o⟩
    · rw [if_neg hj] at ex
      have q := h.slot j x ex
      cases x with
      | no => trivial
      | val d => obtain ⟨y, e1, q⟩ := q; exact ⟨y, e1, q.step (step_add a)⟩
      | own es =>
        obtain ⟨p, e2, h0, nz', nm', ys, hp, z', q⟩ := q
        refine ⟨p, e2, h0, fun zz => ?_, nm', ys, hp, z', q.step (step_add a)⟩
        rcases zz with zz | rfl
        · exact nz' zz
        · exact hj (h.sep i j _ _ ei ex (e1.trans e2.symm))
  · rw [getElem?_set] at ej ek
    by_cases h1 : i = j
    · rw [if_pos h1, if_pos hi] at ej; cases ej
    · rw [if_neg h1] at ej
      by_cases h2 : i = k
      · rw [if_pos h2, if_pos hi] at ek; cases ek
      · rw [if_neg h2] at ek
        exact h.sep j k _ _ ej ek q

/-! ### a name's list is changed -/
theorem stepF_own {a : Addr} {xs : List V} {o : HO} (e : H a = some (.lst xs)) : (∀ b u, H b = some u → b ≠ a → upd H a o b = some u) := fun b u h n => by rw [upd_ne n]; exact h
theorem step_chg {a : Addr} {xs : List V} {o : HO} (e : H a = some (.lst xs)) (nz : ¬ g.Z a) : Step g H g (upd H a o) where
  mu := fun _ _ h => h
  z := fun _ h => h
  zk := fun b ys hz h => by rw [upd_ne (fun q => nz (by rw [← q]; exact hz))]; exact h
  tup := fun b ys h => by rw [upd_ne (ne_of h e (fun q => by cases q))]; exact h
  frz := fun b o' u h => by rw [upd_ne (ne_of h e (fun q => by cases q))]; exact h
theorem StOk.chg {a : Addr} {xs ys : List V} (h : StOk w g H st) (e : H a = some (.lst xs)) (nz : ¬ g.Z a) (nm : a ∉ g.mu) : StOk w g (upd H a (.lst ys)) st := by
  have k := step_chg (o := .lst ys) e nz
  refine ⟨h.len, h.nd, h.nz, fun b z => ?_, fun i b u e1 e2 => ?_⟩
  · obtain ⟨zs, e3⟩ := h.zl b z
    exact ⟨zs, k.zk b zs z e3⟩
  · have nb : b ≠ a := fun q => nm (q ▸ List.mem_of_getElem? e1)
    have q := h.ob i b u e1 e2
    cases u with
    | lst ds => obtain ⟨xs, e, z, r⟩ := q; exact ⟨xs, by rw [upd_ne nb]; exact e, z, r.step k⟩
    | ins c fs => obtain ⟨dx, fv, e, z, r⟩ := q; exact ⟨dx, fv, by rw [upd_ne nb]; exact e, z, r.step k⟩
theorem fr_chg {a : Addr} {xs : List V} {o : HO} (h : StepF g0 H0 g H) (e0 : H0 a = none) : StepF g0 H0 g (upd H a o) :=
  ⟨h.mu, fun b u hb n => by rw [upd_ne (ne_of_none hb e0)]; exact h.keep b u hb n, fun b u hb => by rw [upd_ne (ne_of_none hb e0)]; exact h.there b u hb, h.new, h.z, h.zn⟩
theorem SR.chg {i : Nat} {ds es : List D} {a : Addr} {ys : List V} (h : SR w g0 H0 g s σ H) (ei : s.env[i]? = some (.own ds)) (e1 : σ[i]? = some (some (.ref a))) (z : ys.length ≤ sizeLine) (r : Reps w g H ys es) :
    SR w g0 H0 g { s with env := s.env.set i (.own es) } σ (upd H a (.lst ys)) ∧ Step g H g (upd H a (.lst ys)) := by
  obtain ⟨a', e1', o⟩ := h.slot i _ ei
  rw [e1] at e1'; cases e1'
  obtain ⟨e0, nz, nm, xs, e, z', r'⟩ := o
  have k := step_chg (o := .lst ys) e nz
  have hi : i < s.env.length := (List.getElem?_eq_some_iff.mp ei).1
  refine ⟨⟨by simpa using h.len, fun j x ex => ?_, fun j k ds' es' ej ek q => ?_, h.st.chg e nz nm, fr_chg (xs := xs) h.fr e0⟩, k⟩
  · rw [getElem?_set] at ex
    by_cases hj : i = j
    · subst hj
      simp [hi] at ex
      subst ex
      exact ⟨a, e1, e0, nz, nm, ys, upd_same, z, r.step k⟩
    · rw [if_neg hj] at ex
      have q := h.slot j x ex
      cases x with
      | no => trivial
      | val d => obtain ⟨y, e1, q⟩ := q; exact ⟨y, e1, q.step k⟩
      | own us =>
        obtain ⟨p, e2, h0, nz', nm', zs, hp, z', q⟩ := q
        have np : p ≠ a := fun qq => hj (h.sep i j _ _ ei ex (by rw [e1, e2, qq]))
        exact ⟨p, e2, h0, nz', nm', zs, by rw [upd_ne np]; exact hp, z', q.step k⟩
  · rw [getElem?_set] at ej ek
    by_cases h1 : i = j
    · by_cases h2 : i = k
      · exact h1.symm.trans h2
      · rw [if_neg h2] at ek
        subst h1
        exact h.sep i k _ _ ei ek q
    · rw [if_neg h1] at ej
      by_cases h2 : i = k
      · subst h2
        exact h.sep j i _ _ ej ei q
      · rw [if_neg h2] at ek
        exact h.sep j k _ _ ej ek q

/-! ### the store is changed -/
theorem stepF_mu {a : Addr} {o : HO} {u : HO} (hm : a ∈ g.mu) (e : H a = some u) : StepF g H g (upd H a o) where
  mu := fun _ _ h => h
  keep := fun b x h n => by rw [upd_ne (fun q => n (by rw [q]; exact hm))]; exact h
  there := fun b x h => by
    by_cases q : b = a
    · subst q; exact ⟨o, upd_same⟩
    · exact ⟨x, by rw [upd_ne q]; exact h⟩
  new := fun _ _ _ h => h
  z := fun _ h => h
  zn := fun _ _ _ h => h
theorem StOk.put {k : Nat} {a : Addr} {o : SO} {u : HO} (h : StOk w g H st) (ek : g.mu[k]? = some a) (q : Step g H g (upd H a u) → ObjR w g (upd H a u) a o) : StOk w g (upd H a u) (st.set k o) := by
  have hm : a ∈ g.mu := List.mem_of_getElem? ek
  obtain ⟨u0, e0⟩ := h.there hm
  have k1 := (stepF_mu (o := u) hm e0).step h
  have hk : k < st.length := by rw [h.len]; exact (List.getElem?_eq_some_iff.mp ek).1
  refine ⟨by simpa using h.len, h.nd, h.nz, fun b z => ?_, fun i b x e1 e2 => ?_⟩
  · obtain ⟨zs, e3⟩ := h.zl b z
    exact ⟨zs, k1.zk b zs z e3⟩
  · rw [getElem?_set] at e2
    by_cases hi : k = i
    · subst hi
      simp [hk] at e2
      subst e2
      rw [ek] at e1; cases e1
      exact q k1
    · rw [if_neg hi] at e2
      have nb : b ≠ a := fun qq => by
        subst qq
        obtain ⟨l1, q1⟩ := List.getElem?_eq_some_iff.mp ek
        obtain ⟨l2, q2⟩ := List.getElem?_eq_some_iff.mp e1
        exact hi ((List.getElem_inj h.nd).mp (q1.trans q2.symm))
      have q := h.ob i b x e1 e2
      cases x with
      | lst ds => obtain ⟨xs, e, z, r⟩ := q; exact ⟨xs, by rw [upd_ne nb]; exact e, z, r.step k1⟩
      | ins c fs => obtain ⟨dx, fv, e, z, r⟩ := q; exact ⟨dx, fv, by rw [upd_ne nb]; exact e, z, r.step k1⟩
theorem SR.put {k : Nat} {a : Addr} {o : SO} {u : HO} (h : SR w g0 H0 g s σ H) (ek : g.mu[k]? = some a) (q : Step g H g (upd H a u) → ObjR w g (upd H a u) a o) :
    SR w g0 H0 g { s with st := s.st.set k o } σ (upd H a u) ∧ Step g H g (upd H a u) := by
  have hm : a ∈ g.mu := List.mem_of_getElem? ek
  obtain ⟨u0, e0⟩ := h.st.there hm
  have k1 := stepF_mu (o := u) hm e0
  exact ⟨h.call k1 (h.st.put ek q), k1.step h.st⟩
/-- a new object of the store -/
def Gh.push (g : Gh) (a : Addr) : Gh := ⟨g.mu ++ [a], g.Z⟩
theorem push_mu (a : Addr) : ∀ (k : Nat) b, g.mu[k]? = some b → (g.push a).mu[k]? = some b := fun k b h => by
  show (g.mu ++ [a])[k]? = some b
  rw [List.getElem?_append_left (List.getElem?_eq_some_iff.mp h).1]; exact h
theorem stepF_push {p : Addr} {o : HO} (hp : H p = none) : StepF g H (g.push p) (upd H p o) where
  mu := push_mu p
  keep := fun _ _ h _ => upd_keep hp h
  there := fun _ u h => ⟨u, upd_keep hp h⟩
  new := fun b o h n hm => by
    rcases List.mem_append.mp (show b ∈ g.mu ++ [p] from hm) with q | q
    · exact n q
    · exact ne_of_none h hp (by simpa using q)
  z := fun _ h => h
  zn := fun _ _ _ h => h
theorem StOk.push {p : Addr} {o : SO} {u : HO} (h : StOk w g H st) (hp : H p = none) (q : Step g H (g.push p) (upd H p u) → ObjR w (g.push p) (upd H p u) p o) : StOk w (g.push p) (upd H p u) (st ++ [o]) := by
  have k := (stepF_push (g := g) (o := u) hp).step h
  have np := h.notMu hp
  refine ⟨by show (st ++ [o]).length = (g.mu ++ [p]).length; simp [h.len], ?_, fun a ha => ?_, fun b z => ?_, fun i a x e1 e2 => ?_⟩
  · show (g.mu ++ [p]).Nodup
    refine List.nodup_append.mpr ⟨h.nd, by simp, fun a ha b hb => ?_⟩
    rw [List.mem_singleton] at hb
    subst hb
    exact fun q => np (q ▸ ha)
  · rcases List.mem_append.mp (show a ∈ g.mu ++ [p] from ha) with q | q
    · exact h.nz a q
    · rw [List.mem_singleton] at q; subst q
      exact h.notZ hp
  · obtain ⟨xs, e⟩ := h.zl b z
    exact ⟨xs, upd_keep hp e⟩
  · have e1 : (g.mu ++ [p])[i]? = some a := e1
    by_cases hi : i < g.mu.length
    · rw [List.getElem?_append_left hi] at e1
      rw [List.getElem?_append_left (by rw [h.len]; exact hi)] at e2
      have q := h.ob i a x e1 e2
      cases x with
      | lst ds => obtain ⟨xs, e, z, r⟩ := q; exact ⟨xs, upd_keep hp e, z, r.step k⟩
      | ins c fs => obtain ⟨dx, fv, e, z, r⟩ := q; exact ⟨dx, fv, upd_keep hp e, z, r.step k⟩
    · have hi' : g.mu.length ≤ i := Nat.le_of_not_lt hi
      rw [List.getElem?_append_right hi'] at e1
      rw [List.getElem?_append_right (by rw [h.len]; exact hi')] at e2
      rw [h.len] at e2
      cases hd : i - g.mu.length with
      | zero =>
        rw [hd] at e1 e2
        simp at e1 e2
        subst e1; subst e2
        exact q k
      | succ m => rw [hd] at e1; simp at e1
theorem SR.push {p : Addr} {o : SO} {u : HO} (h : SR w g0 H0 g s σ H) (hp : H p = none) (q : Step g H (g.push p) (upd H p u) → ObjR w (g.push p) (upd H p u) p o) :
    SR w g0 H0 (g.push p) { s with st := s.st ++ [o] } σ (upd H p u) ∧ Step g H (g.push p) (upd H p u) ∧ Rep w (g.push p) (upd H p u) (.ref p) (.obj s.st.length) := by
  have k := stepF_push (g := g) (o := u) hp
  refine ⟨h.call k (h.st.push hp q), k.step h.st, .obj ?_⟩
  show (g.mu ++ [p])[s.st.length]? = some p
  rw [h.st.len]
  simp

/-! ### a name is set -/
theorem SR.set {i : Nat} {v : V} {d : D} (h : SR w g0 H0 g s σ H) (hi : i < s.env.length) (r : Rep w g H v d) : SR w g0 H0 g { s with env := s.env.set i (.val d) } (σ.set i (some v)) H := by
  refine ⟨by simpa using h.len, fun j x ex => ?_, fun j k ds' es' ej ek q => ?_, h.st, h.fr⟩
  · rw [getElem?_set] at ex ⊢
    by_cases hj : i = j
    · subst hj
      simp [hi] at ex
      subst ex
      exact ⟨v, by simp [h.len, hi], r⟩
    · rw [if_neg hj] at ex ⊢
      exact h.slot j x ex
  · rw [getElem?_set] at ej ek
    by_cases h1 : i = j
    · rw [if_pos h1] at ej
      split at ej <;> simp at ej
    · rw [if_neg h1] at ej
      by_cases h2 : i = k
      · rw [if_pos h2] at ek
        split at ek <;> simp at ek
      · rw [if_neg h2] at ek
        rw [getElem?_set, getElem?_set, if_neg h1, if_neg h2] at q
        exact h.sep j k _ _ ej ek q
theorem SR.setOwn {i : Nat} {a : Addr} {ds : List D} (h : SR w g0 H0 g s σ H) (hi : i < s.env.length) (o : Own w H0 g H a ds) (f : Free s σ a) : SR w g0 H0 g { s with env := s.env.set i (.own ds) } (σ.set i (some (.ref a))) H := by
  refine ⟨by simpa using h.len, fun j x ex => ?_, fun j k ds' es' ej ek q => ?_, h.st, h.fr⟩
  · rw [getElem?_set] at ex ⊢
    by_cases hj : i = j
    · subst hj
      simp [hi] at ex
      subst ex
      exact ⟨a, by simp [h.len, hi], o⟩
    · rw [if_neg hj] at ex ⊢
      exact h.slot j x ex
  · rw [getElem?_set] at ej ek
    rw [getElem?_set, getElem?_set] at q
    have hl : i < σ.length := by rw [h.len]; exact hi
    by_cases h1 : i = j
    · by_cases h2 : i = k
      · exact h1.symm.trans h2
      · rw [if_neg h2] at ek
        rw [if_pos h1, if_pos hl, if_neg h2] at q
        exact absurd (q.symm) (f k _ ek)
    · rw [if_neg h1] at ej
      by_cases h2 : i = k
      · subst h2
        rw [if_neg h1, if_pos rfl, if_pos hl] at q
        exact absurd q (f j _ ej)
      · rw [if_neg h2] at ek
        rw [if_neg h1, if_neg h2] at q
        exact h.sep j k _ _ ej ek q
/-- a name is forgotten -/
theorem SR.forget {i : Nat} {v : Option V} (h : SR w g0 H0 g s σ H) : SR w g0 H0 g { s with env := s.env.set i .no } (σ.set i v) H := by
  refine ⟨by simpa using h.len, fun j x ex => ?_, fun j k ds' es' ej ek q => ?_, h.st, h.fr⟩
  · rw [getElem?_set] at ex ⊢
    by_cases hj : i = j
    · subst hj
      rw [if_pos rfl] at ex
      split at ex
      · cases ex; trivial
      · cases ex
    · rw [if_neg hj] at ex ⊢
      exact h.slot j x ex
  · rw [getElem?_set] at ej ek
    by_cases h1 : i = j
    · rw [if_pos h1] at ej
      split at ej <;> simp at ej
    · rw [if_neg h1] at ej
      by_cases h2 : i = k
      · rw [if_pos h2] at ek
        split at ek <;> simp at ek
      · rw [if_neg h2] at ek
        rw [getElem?_set, getElem?_set, if_neg h1, if_neg h2] at q
        exact h.sep j k _ _ ej ek q
end
end PL

/-! readings by plain runs -/
namespace PL
open PySem PySem.Spec PyProof.Rows L2

def ExcR (w : Wd) (g : Gh) (H : Hp) (cls : Value) (d : Option Addr) (x : Exc) : Prop :=
  cls = .ref (w.cm x.c) ∧ match x.fld with
    | none => d = none
    | some f => ∃ dx v, d = some dx ∧ H dx = some (.xd [("number", v)]) ∧ Rep w g H v f
abbrev RR (β α : Type) := Hp → Gh → S → L2.St → Hp → β → α → Prop
def post {α β : Type} (w : Wd) (W : WX) (R : RR β α) (g0 : Gh) (H0 : Hp) (g : Gh) (H : Hp) (σ : L2.St) (Q : β → Hp → Prop) : Out α → Prop
  | .ok a s' => ∀ g' H' x, SR w g0 H0 g' s' σ H' → Step g H g' H' → R H0 g' s' σ H' x a → Q x H'
  | .err x s' => ∀ g' H' cls d, SR w g0 H0 g' s' σ H' → Step g H g' H' → ExcR w g' H' cls d x → W cls d σ H'
  | .bad => False
def rd {α β : Type} (w : Wd) (W : WX) (R : RR β α) (f : S → Out α) : L2.St → Hp → (β → Hp → Prop) → Prop := fun σ H Q =>
  ∃ g0 H0 g s, SR w g0 H0 g s σ H ∧ post w W R g0 H0 g H σ Q (f s)
/-- an expression's value -/
def RxR (w : Wd) : RR V Rx := fun H0 g s σ H v r => match r with
  | .val d => Rep w g H v d
  | .own ds => ∃ a, v = .ref a ∧ Own w H0 g H a ds ∧ Free s σ a
  | .ref i => σ[i]? = some (some v) ∧ ∃ x, s.env[i]? = some x ∧ x ≠ .no
def RsR (w : Wd) : RR (List V) (List D) := fun _ g _ _ H vs ds => Reps w g H vs ds
def RbR : RR Bool Bool := fun _ _ _ _ _ b k => b = k
def RiR : RR (Option Int) (Option Int) := fun _ _ _ _ _ b k => b = k
def RdR (w : Wd) : RR V D := fun _ g _ _ H v d => Rep w g H v d

section
variable {α β γ δ : Type} {w : Wd} {W : WX} {R : RR β α} {R' : RR δ γ} {g0 g g1 g' : Gh} {H0 H H1 H' : Hp} {s : S} {σ : L2.St} {Q : δ → Hp → Prop} {Q1 : β → Hp → Prop}
theorem post_from {o : Out α} (k : Step g H g1 H1) (h : post w W R g0 H0 g H σ Q1 o) : post w W R g0 H0 g1 H1 σ Q1 o := by
  cases o with
  | ok a s' => exact fun g' H' x h1 k1 r => h g' H' x h1 (k.trans k1) r
  | err x s' => exact fun g' H' cls d h1 k1 r => h g' H' cls d h1 (k.trans k1) r
  | bad => exact h
theorem post_bind {o : Out α} {k : α → S → Out γ} (h : post w W R' g0 H0 g H σ Q (o.bind k))
    (hk : ∀ a s1 g1 H1 x, SR w g0 H0 g1 s1 σ H1 → Step g H g1 H1 → R H0 g1 s1 σ H1 x a → post w W R' g0 H0 g1 H1 σ Q (k a s1) → Q1 x H1) : post w W R g0 H0 g H σ Q1 o := by
  cases o with
  | ok a s' => exact fun g' H' x h1 k1 r => hk a s' g' H' x h1 k1 r (post_from k1 h)
  | err x s' => exact h
  | bad => exact h
theorem post_imp {o : Out α} {Q2 : β → Hp → Prop} (h : post w W R g0 H0 g H σ Q1 o) (hk : ∀ x H', Q1 x H' → Q2 x H') : post w W R g0 H0 g H σ Q2 o := by
  cases o with
  | ok a s' => exact fun g' H' x h1 k1 r => hk _ _ (h g' H' x h1 k1 r)
  | err x s' => exact h
  | bad => exact h
end

/-- a pending operand -/
def RxP (w : Wd) (g : Gh) (σ : L2.St) (H : Hp) (v : V) : Rx → Prop
  | .val d => Rep w g H v d
  | .own ds => Rep w g H v (.lst ds)
  | .ref i => σ[i]? = some (some v)
/-- what it holds just now -/
def RepC (w : Wd) (g : Gh) (H : Hp) (v : V) (d : D) : Prop :=
  Rep w g H v d ∨ ∃ a xs ds, v = .ref a ∧ d = .lst ds ∧ H a = some (.lst xs) ∧ xs.length ≤ sizeLine ∧ Reps w g H xs ds
section
variable {w : Wd} {W : WX} {g0 g g1 g' : Gh} {H0 H H1 H' : Hp} {s : S} {σ : L2.St} {Q : V → Hp → Prop} {v u : V}
theorem RepC.lst {ds : List D} (h : RepC w g H v (.lst ds)) : ∃ a xs, v = .ref a ∧ H a = some (.lst xs) ∧ xs.length ≤ sizeLine ∧ Reps w g H xs ds := by
  rcases h with h | ⟨a, xs, ds', rfl, e, h1, h2, h3⟩
  · cases h with
    | lst _ h1 h2 h3 => exact ⟨_, _, rfl, h1, h2, h3⟩
  · cases e; exact ⟨a, xs, rfl, h1, h2, h3⟩
theorem RepC.rep {d : D} (h : RepC w g H v d) (n : ∀ ds, d ≠ .lst ds) : Rep w g H v d := by
  rcases h with h | ⟨a, xs, ds', rfl, rfl, _⟩
  · exact h
  · exact absurd rfl (n ds')
theorem RepC.int {i : Int} (h : RepC w g H v (.int i)) : v = .int i := by
  have q := h.rep (fun _ e => by cases e); cases q; rfl
theorem RepC.bl {i : Bool} (h : RepC w g H v (.bl i)) : v = .bl i := by
  have q := h.rep (fun _ e => by cases e); cases q; rfl
theorem RepC.non (h : RepC w g H v .non) : v = .non := by
  have q := h.rep (fun _ e => by cases e); cases q; rfl
theorem RepC.str {x : Str} (h : RepC w g H v (.str x)) : v = .str x ∧ okS x := by
  have q := h.rep (fun _ e => by cases e); cases q; exact ⟨rfl, by assumption⟩
theorem RepC.tup {ds : List D} (h : RepC w g H v (.tup ds)) : ∃ a xs, v = .ref a ∧ SqT w.K H a xs ∧ xs.length ≤ sizeLine ∧ Reps w g H xs ds := by
  have q := h.rep (fun _ e => by cases e)
  cases q with
  | tup h1 h2 h3 => exact ⟨_, _, rfl, h1, h2, h3⟩
theorem RepC.obj {k : Nat} (h : RepC w g H v (.obj k)) : ∃ a, v = .ref a ∧ g.mu[k]? = some a := by
  have q := h.rep (fun _ e => by cases e)
  cases q with
  | obj h1 => exact ⟨_, rfl, h1⟩
theorem RxP.step {r : Rx} (k : Step g H g1 H1) (h : RxP w g σ H v r) : RxP w g1 σ H1 v r := by
  cases r with
  | val d => exact Rep.step k h
  | own ds => exact Rep.step k h
  | ref i => exact h
/-- an operand is kept: a new list is frozen -/
theorem pend {r : Rx} (h : SR w g0 H0 g s σ H) (hr : RxR w H0 g s σ H v r) : ∃ g', SR w g0 H0 g' s σ H ∧ Step g H g' H ∧ RxP w g' σ H v r := by
  cases r with
  | val d => exact ⟨g, h, Step.refl _ _, hr⟩
  | own ds =>
    obtain ⟨a, rfl, o, f⟩ := hr
    exact ⟨g.add a, h.add o f, step_add a, .ofOwn o⟩
  | ref i => exact ⟨g, h, Step.refl _ _, hr.1⟩
theorem RxP.res {r : Rx} {d : D} (h : SR w g0 H0 g s σ H) (hr : RxP w g σ H v r) (e : r.res s = some d) : RepC w g H v d := by
  cases r with
  | val d' => cases e; exact .inl hr
  | own ds => cases e; exact .inl hr
  | ref i =>
    have hr : σ[i]? = some (some v) := hr
    simp only [Rx.res] at e
    split at e
    · rename_i d' ei
      cases e
      obtain ⟨x, e1, q⟩ := h.slot i _ ei
      rw [hr] at e1; cases e1
      exact .inl q
    · rename_i ds ei
      cases e
      obtain ⟨a, e1, _, _, _, xs, e2, z, q⟩ := h.slot i _ ei
      rw [hr] at e1; cases e1
      exact .inr ⟨a, xs, ds, rfl, rfl, e2, z, q⟩
    · cases e
/-- a value is kept for good -/
theorem frz_post {r : Rx} {γ δ : Type} {R' : RR δ γ} {Q : δ → Hp → Prop} {k : D → S → Out γ} (h : SR w g0 H0 g s σ H) (hr : RxR w H0 g s σ H v r) (hp : post w W R' g0 H0 g H σ Q ((r.frz s).bind k)) :
    ∃ d s' g', SR w g0 H0 g' s' σ H ∧ Step g H g' H ∧ Rep w g' H v d ∧ post w W R' g0 H0 g' H σ Q (k d s') := by
  cases r with
  | val d => exact ⟨d, s, g, h, Step.refl _ _, hr, hp⟩
  | own ds =>
    obtain ⟨a, rfl, o, f⟩ := hr
    exact ⟨.lst ds, s, g.add a, h.add o f, step_add a, .ofOwn o, post_from (step_add a) hp⟩
  | ref i =>
    obtain ⟨hv, x, ex, nx⟩ := hr
    simp only [Rx.frz, readV, ex] at hp
    cases x with
    | no => exact absurd rfl nx
    | val d =>
      obtain ⟨y, e1, q⟩ := h.slot i _ ex
      rw [hv] at e1; cases e1
      exact ⟨d, s, g, h, Step.refl _ _, q, hp⟩
    | own ds =>
      obtain ⟨a, e1, h1, k1, q⟩ := h.addAt ex
      rw [hv] at e1; cases e1
      exact ⟨.lst ds, _, g.add a, h1, k1, q, post_from k1 hp⟩
theorem frz_post' {r : Rx} {s' : S} {d : D} (h : SR w g0 H0 g s σ H) (hr : RxR w H0 g s σ H v r) (e : r.frz s = .ok d s') : ∃ g', SR w g0 H0 g' s' σ H ∧ Step g H g' H ∧ Rep w g' H v d := by
  cases r with
  | val d' => cases e; exact ⟨g, h, Step.refl _ _, hr⟩
  | own ds =>
    cases e
    obtain ⟨a, rfl, o, f⟩ := hr
    exact ⟨g.add a, h.add o f, step_add a, .ofOwn o⟩
  | ref i =>
    obtain ⟨hv, x, ex, nx⟩ := hr
    simp only [Rx.frz, readV, ex] at e
    cases x with
    | no => exact absurd rfl nx
    | val d' =>
      cases e
      obtain ⟨y, e1, q⟩ := h.slot i _ ex
      rw [hv] at e1; cases e1
      exact ⟨g, h, Step.refl _ _, q⟩
    | own ds =>
      cases e
      obtain ⟨a, e1, h1, k1, q⟩ := h.addAt ex
      rw [hv] at e1; cases e1
      exact ⟨g.add a, h1, k1, q⟩

/-! ### the ends of an operation -/
theorem fin_val {d : D} (h : SR w g0 H0 g s σ H) (hp : post w W (RxR w) g0 H0 g H σ Q (.ok (.val d) s)) (r : Rep w g H v d) : Q v H := hp g H v h (Step.refl _ _) r
theorem fin_tup {ds : List D} {xs : List V} {p : Addr} (h : SR w g0 H0 g s σ H) (hp : post w W (RxR w) g0 H0 g H σ Q (.ok (.val (.tup ds)) s)) (z : xs.length ≤ sizeLine) (r : Reps w g H xs ds) (e : H p = none) :
    Q (.ref p) (upd H p (.tup xs)) :=
  hp g _ _ (h.new e) (h.stepN e) (.tup (SqT.of upd_same) z (r.step (h.stepN e)))
theorem fin_own {ds : List D} {xs : List V} {p : Addr} (h : SR w g0 H0 g s σ H) (hp : post w W (RxR w) g0 H0 g H σ Q (.ok (.own ds) s)) (z : xs.length ≤ sizeLine) (r : Reps w g H xs ds) (e : H p = none) :
    Q (.ref p) (upd H p (.lst xs)) :=
  hp g _ _ (h.new e) (h.stepN e) ⟨p, rfl, h.ownN e z r, fun i es e1 e2 => h.freeN e i es e1 e2⟩
/-- an operation's end -/
def Fin (w : Wd) (W : WX) (Q : V → Hp → Prop) (H : Hp) (f : Gh → S → Option Rv → Prop) : Prop := True
theorem op2_post {f : D → D → Option Rv} {x y : Rx} (h : SR w g0 H0 g s σ H) (hx : RxP w g σ H v x) (hy : RxP w g σ H u y) (hp : post w W (RxR w) g0 H0 g H σ Q (op2 f x y s)) :
    ∃ a b, RepC w g H v a ∧ RepC w g H u b ∧ post w W (RxR w) g0 H0 g H σ Q (ofV (f a b) s) := by
  unfold op2 at hp
  split at hp
  · rename_i a b e1 e2
    exact ⟨a, b, hx.res h e1, hy.res h e2, hp⟩
  · exact hp.elim
theorem op1_post {f : D → Option Rv} {x : Rx} (h : SR w g0 H0 g s σ H) (hx : RxP w g σ H v x) (hp : post w W (RxR w) g0 H0 g H σ Q (op1 f x s)) :
    ∃ a, RepC w g H v a ∧ post w W (RxR w) g0 H0 g H σ Q (ofV (f a) s) := by
  unfold op1 at hp
  split at hp
  · rename_i a e1
    exact ⟨a, hx.res h e1, hp⟩
  · exact hp.elim
theorem ofV_some {o : Option Rv} (hp : post w W (RxR w) g0 H0 g H σ Q (ofV o s)) : ∃ r, o = some r ∧ post w W (RxR w) g0 H0 g H σ Q (.ok r.x s) := by
  unfold ofV at hp
  split at hp
  · exact ⟨_, rfl, hp⟩
  · exact hp.elim
end

/-! ### two-place operations by values -/
abbrev R2P := D → D → Option Rv
def rOp (w : Wd) (W : WX) (f : R2P) : R2 := fun x y H Q => ∃ g0 H0 g s σ a b, SR w g0 H0 g s σ H ∧ RepC w g H x a ∧ RepC w g H y b ∧ post w W (RxR w) g0 H0 g H σ Q (ofV (f a b) s)
theorem okS_append {x y : Str} (a : okS x) (b : okS y) (z : x.length + y.length ≤ LIM) : okS (x ++ y) := by
  refine ⟨?_, ?_⟩
  · show (x.cps ++ y.cps).all _ = true
    rw [Array.all_append, a.1, b.1]; rfl
  · show (x.cps ++ y.cps).size ≤ _
    rw [Array.size_append]
    exact z
theorem lim_eq : LIM = sizeLine := sizeLine_eq.symm
theorem reps_nil {w : Wd} {g : Gh} {H : Hp} {xs : List V} {ds : List D} (r : Reps w g H xs ds) : xs = [] ↔ ds = [] := by
  have := r.length
  constructor
  · intro e; subst e; cases ds with
    | nil => rfl
    | cons _ _ => simp at this
  · intro e; subst e; cases xs with
    | nil => rfl
    | cons _ _ => simp at this
/-- a tuple again: the same things at another address -/
theorem fin_tupC {w : Wd} {W : WX} {g0 g : Gh} {H0 H : Hp} {s : S} {σ : L2.St} {Q : V → Hp → Prop} {ds : List D} {xs : List V} {a : Addr} (h : SR w g0 H0 g s σ H)
    (hp : post w W (RxR w) g0 H0 g H σ Q (.ok (.val (.tup ds)) s)) (z : xs.length ≤ sizeLine) (r : Reps w g H xs ds) (e : SqT w.K H a xs) : Q (.ref a) H :=
  fin_val h hp (.tup e z r)
section
variable {X : Cx} {w : Wd} {W : WX}
theorem bin_ok (hK : X.K = w.K) (op : Operator) : OpR X (binaryOp op) (rOp w W (binD op)) := by
  intro pins s σ H x y v u Q I rx ry h
  obtain ⟨g0, H0, g, st, σ', a, b, hs, hx, hy, hp⟩ := h
  obtain ⟨r, e, hp⟩ := ofV_some hp
  unfold binD at e
  split at e
  · cases e
    rw [hx.int] at rx; rw [hy.int] at ry
    exact op_add pins s σ H _ _ v u Q I rx ry ⟨_, _, rfl, rfl, fin_val hs hp (.int _)⟩
  · split at e
    · rename_i z
      cases e
      obtain ⟨rfl, o1⟩ := hx.str
      obtain ⟨rfl, o2⟩ := hy.str
      exact op_add_str pins s σ H _ _ v u Q I rx ry ⟨_, _, rfl, rfl, by rw [← lim_eq]; exact z, fin_val hs hp (.str _ (okS_append o1 o2 z))⟩
    · cases e
  · split at e
    · rename_i z
      cases e
      obtain ⟨p, xs, rfl, h1, z1, r1⟩ := hx.tup
      obtain ⟨q, ys, rfl, h2, z2, r2⟩ := hy.tup
      have z' : xs.length + ys.length ≤ sizeLine := by rw [r1.length, r2.length, ← lim_eq]; exact z
      refine op_catA pins s σ H _ _ v u Q I rx ry ?_
      rw [hK]
      refine ⟨p, q, xs, ys, rfl, rfl, h1, h2, z', fun e => ?_, fun _ e => ?_, fun _ _ p' hp' => ?_⟩
      · have e' := (reps_nil r1).mp e
        subst e'
        exact fin_tupC hs hp z2 (by simpa using r2) h2
      · have e' := (reps_nil r2).mp e
        subst e'
        exact fin_tupC hs hp z1 (by simpa using r1) h1
      · exact fin_tup hs hp (by rw [List.length_append]; exact z') (r1.append r2) hp'
    · cases e
  · split at e
    · rename_i z
      cases e
      obtain ⟨p, xs, rfl, h1, z1, r1⟩ := hx.lst
      obtain ⟨q, ys, rfl, h2, z2, r2⟩ := hy.lst
      have z' : xs.length + ys.length ≤ sizeLine := by rw [r1.length, r2.length, ← lim_eq]; exact z
      exact op_cat pins s σ H _ _ v u Q I rx ry ⟨p, q, xs, ys, rfl, rfl, h1, h2, z', fun p' hp' => fin_own hs hp (by rw [List.length_append]; exact z') (r1.append r2) hp'⟩
    · cases e
  · cases e
    rw [hx.int] at rx; rw [hy.int] at ry
    exact op_sub pins s σ H _ _ v u Q I rx ry ⟨_, _, rfl, rfl, fin_val hs hp (.int _)⟩
  · split at e
    · rename_i z
      cases e
      rw [hx.int] at rx; rw [hy.int] at ry
      refine op_mul pins s σ H _ _ v u Q I rx ry ⟨_, _, rfl, rfl, ?_, fin_val hs hp (.int _)⟩
      unfold mulOk at z
      simp only [Bool.or_eq_true, Bool.and_eq_true, decide_eq_true_eq] at z
      exact z
    · cases e
  · rename_i ds0 k0
    split at e
    · rename_i z
      cases e
      obtain ⟨p, xs, rfl, h1, z1, r1⟩ := hx.lst
      rw [hy.int] at ry
      obtain ⟨za, zb, zc⟩ := z
      have z' : xs.length * k0.toNat ≤ sizeLine := by rw [r1.length, ← lim_eq]; exact za
      refine op_rep pins s σ H _ _ v u Q I rx ry ⟨p, _, xs, rfl, rfl, h1, zb, zc, z', fun p' hp' => fin_own hs hp ?_ (r1.flatRep _) hp'⟩
      rw [PyProof.Rows.lm_len_rep_flat, Nat.mul_comm]; exact z'
    · cases e
  · split at e
    · rename_i z
      cases e
      rw [hx.int] at rx; rw [hy.int] at ry
      refine op_fdivW pins s σ H _ _ v u Q I rx ry ⟨_, _, rfl, rfl, wide_div (b := 200) z.1 ?_ (by decide) (by decide), fin_val hs hp (.int _)⟩
      have h1 := z.1
      have h2 := z.2
      have h3 : ((2 ^ 200 : Nat) : Int) = (2 : Int) ^ 200 := by decide +kernel
      omega
    · cases e
  · split at e
    · rename_i z
      cases e
      rw [hx.int] at rx; rw [hy.int] at ry
      exact op_mod pins s σ H _ _ v u Q I rx ry ⟨_, _, rfl, rfl, z, fin_val hs hp (.int _)⟩
    · cases e
  · split at e
    · rename_i z
      cases e
      rw [hx.int] at rx; rw [hy.int] at ry
      exact op_pow pins s σ H _ _ v u Q I rx ry ⟨_, _, rfl, rfl, z, fin_val hs hp (.int _)⟩
    · cases e
  · split at e
    · rename_i z
      cases e
      rw [hx.int] at rx; rw [hy.int] at ry
      exact op_shl pins s σ H _ _ v u Q I rx ry ⟨_, _, rfl, rfl, z, fin_val hs hp (.int _)⟩
    · cases e
  · split at e
    · rename_i z
      cases e
      rw [hx.int] at rx; rw [hy.int] at ry
      exact op_shr pins s σ H _ _ v u Q I rx ry ⟨_, _, rfl, rfl, z, fin_val hs hp (.int _)⟩
    · cases e
  · cases e
    rw [hx.int] at rx; rw [hy.int] at ry
    exact op_and pins s σ H _ _ v u Q I rx ry ⟨_, _, rfl, rfl, fin_val hs hp (.int _)⟩
  · cases e

/-! ### comparisons -/
mutual
def toPy : D → PyData
  | .bl b => .bool b
  | .int i => .int i
  | .str x => .str x
  | .tup ds => .tuple (toPys ds)
  | .lst ds => .list (toPys ds)
  | _ => .none
def toPys : List D → List PyData
  | [] => []
  | d :: ds => toPy d :: toPys ds
end
mutual
theorem dp_of {w : Wd} {g : Gh} {H : Hp} : ∀ {v : V} {d : D}, Rep w g H v d → d.data = true → Dp w.K H v (toPy d)
  | _, _, .non, _ => .non
  | _, _, .bl b, _ => .bl b
  | _, _, .int i, _ => .int i
  | _, _, .str x _, _ => .str x
  | _, _, .tup h _ r, e => .tup h (dps_of r (by simpa [D.data] using e))
  | _, _, .lst _ h _ r, e => .lst (SqL.of h) (dps_of r (by simpa [D.data] using e))
  | _, _, .obj _, e => by simp [D.data] at e
  | _, _, .scr _, e => by simp [D.data] at e
theorem dps_of {w : Wd} {g : Gh} {H : Hp} : ∀ {v : List V} {d : List D}, Reps w g H v d → D.datas d = true → DpAll w.K H v (toPys d)
  | _, _, .nil, _ => .nil
  | _, _, .cons h r, e => by
    simp [D.datas] at e
    exact .cons (dp_of h e.1) (dps_of r e.2)
end
mutual
theorem lay_of {w : Wd} {g : Gh} {H : Hp} : ∀ {v : V} {d : D}, Rep w g H v d → d.data = true → (toPy d).canLay0 = true
  | _, _, .non, _ => rfl
  | _, _, .bl b, _ => rfl
  | _, _, .int i, _ => rfl
  | _, _, .str x h, _ => h.1
  | _, _, .tup _ _ r, e => by simpa [toPy, PyData.canLay0] using lays_of r (by simpa [D.data] using e)
  | _, _, .lst _ _ _ r, e => by simpa [toPy, PyData.canLay0] using lays_of r (by simpa [D.data] using e)
  | _, _, .obj _, e => by simp [D.data] at e
  | _, _, .scr _, e => by simp [D.data] at e
theorem lays_of {w : Wd} {g : Gh} {H : Hp} : ∀ {v : List V} {d : List D}, Reps w g H v d → D.datas d = true → PyData.canLayAll0 (toPys d) = true
  | _, _, .nil, _ => rfl
  | _, _, .cons h r, e => by
    simp [D.datas] at e
    simp [toPys, PyData.canLayAll0, lay_of h e.1, lays_of r e.2]
end
mutual
theorem depth_of : ∀ d : D, d.data = true → (toPy d).depth = d.depth
  | .non, _ => rfl
  | .bl _, _ => rfl
  | .int _, _ => rfl
  | .str _, _ => rfl
  | .tup ds, e => by simp [toPy, PyData.depth, D.depth, depths_of ds (by simpa [D.data] using e)]
  | .lst ds, e => by simp [toPy, PyData.depth, D.depth, depths_of ds (by simpa [D.data] using e)]
  | .dic _, e => by simp [D.data] at e
  | .obj _, e => by simp [D.data] at e
  | .fn _ _, e => by simp [D.data] at e
  | .exc _ _, e => by simp [D.data] at e
  | .scr _, e => by simp [D.data] at e
theorem depths_of : ∀ d : List D, D.datas d = true → PyData.depthAll (toPys d) = D.depths d
  | [], _ => rfl
  | d :: ds, e => by
    simp [D.datas] at e
    simp [toPys, PyData.depthAll, D.depths, depth_of d e.1, depths_of ds e.2]
end
mutual
theorem eqv_of : ∀ a b : D, a.data = true → b.data = true → PyData.eqv (toPy a) (toPy b) = a.eqv b
  | .tup xs, .tup ys, e1, e2 => by simp only [toPy, PyData.eqv, D.eqv]; exact eqvs_of xs ys (by simpa [D.data] using e1) (by simpa [D.data] using e2)
  | .lst xs, .lst ys, e1, e2 => by simp only [toPy, PyData.eqv, D.eqv]; exact eqvs_of xs ys (by simpa [D.data] using e1) (by simpa [D.data] using e2)
  | .non, b, _, e2 => by cases b <;> first | rfl | (simp [D.data] at e2)
  | .bl _, b, _, e2 => by cases b <;> first | rfl | (simp [D.data] at e2)
  | .int _, b, _, e2 => by cases b <;> first | rfl | (simp [D.data] at e2)
  | .str _, b, _, e2 => by cases b <;> first | rfl | (simp [D.data] at e2)
  | .tup _, .non, _, _ => rfl
  | .tup _, .bl _, _, _ => rfl
  | .tup _, .int _, _, _ => rfl
  | .tup _, .str _, _, _ => rfl
  | .tup _, .lst _, _, _ => rfl
  | .lst _, .non, _, _ => rfl
  | .lst _, .bl _, _, _ => rfl
  | .lst _, .int _, _, _ => rfl
  | .lst _, .str _, _, _ => rfl
  | .lst _, .tup _, _, _ => rfl
  | .tup _, .dic _, _, e | .tup _, .obj _, _, e | .tup _, .fn _ _, _, e | .tup _, .exc _ _, _, e | .tup _, .scr _, _, e => by simp [D.data] at e
  | .lst _, .dic _, _, e | .lst _, .obj _, _, e | .lst _, .fn _ _, _, e | .lst _, .exc _ _, _, e | .lst _, .scr _, _, e => by simp [D.data] at e
  | .dic _, _, e, _ | .obj _, _, e, _ | .fn _ _, _, e, _ | .exc _ _, _, e, _ | .scr _, _, e, _ => by simp [D.data] at e
theorem eqvs_of : ∀ a b : List D, D.datas a = true → D.datas b = true → PyData.eqvAll (toPys a) (toPys b) = D.eqvs a b
  | [], [], _, _ => rfl
  | [], _ :: _, _, _ => rfl
  | _ :: _, [], _, _ => rfl
  | a :: as, b :: bs, e1, e2 => by
    simp [D.datas] at e1 e2
    simp [toPys, PyData.eqvAll, D.eqvs, eqv_of a b e1.1 e2.1, eqvs_of as bs e1.2 e2.2]
end
theorem dpC_of {w : Wd} {g : Gh} {H : Hp} {v : V} {d : D} (h : RepC w g H v d) (e : d.data = true) : Dp w.K H v (toPy d) ∧ (toPy d).canLay0 = true := by
  rcases h with h | ⟨a, xs, ds, rfl, rfl, h1, h2, h3⟩
  · exact ⟨dp_of h e, lay_of h e⟩
  · have e' : D.datas ds = true := by simpa [D.data] using e
    exact ⟨.lst (SqL.of h1) (dps_of h3 e'), by simpa [toPy, PyData.canLay0] using lays_of h3 e'⟩
theorem flat_rep {w : Wd} {g : Gh} {H : Hp} {v : V} {d : D} (h : Rep w g H v d) (f : flatD d = true) : flatV v = true := by
  cases h <;> first | rfl | (simp [flatD] at f)
theorem flats_rep {w : Wd} {g : Gh} {H : Hp} : ∀ {v : List V} {d : List D}, Reps w g H v d → d.all flatD = true → v.all flatV = true
  | _, _, .nil, _ => rfl
  | _, _, .cons h r, f => by
    rw [List.all_cons, Bool.and_eq_true] at f
    rw [List.all_cons, flat_rep h f.1, flats_rep r f.2]; rfl
theorem eqV_rep {w : Wd} {g : Gh} {H : Hp} {v u : V} {a b : D} (h : Rep w g H v a) (h' : Rep w g H u b) (f : flatD a = true) (f' : flatD b = true) : eqV v u = a.eqv b := by
  cases h <;> first | (simp [flatD] at f; done) | skip
  all_goals (cases h' <;> first | (simp [flatD] at f'; done) | rfl)
theorem inV_rep {w : Wd} {g : Gh} {H : Hp} {x : V} {a : D} (h : Rep w g H x a) (f : flatD a = true) : ∀ {v : List V} {d : List D}, Reps w g H v d → d.all flatD = true → inV x v = d.any fun y => D.eqv y a
  | _, _, .nil, _ => rfl
  | _, _, .cons h1 r, f1 => by
    rw [List.all_cons, Bool.and_eq_true] at f1
    have e := inV_rep h f r f1.2
    unfold inV at e ⊢
    rw [List.any_cons, List.any_cons, e, eqV_rep h1 h f1.1 f]
theorem tyT {w : Wd} {g : Gh} {H : Hp} {v : V} {d : D} (h : RepC w g H v d) : d = .non ↔ v = .non := by
  rcases h with h | ⟨a, xs, ds, rfl, rfl, _⟩
  · cases h <;> simp
  · simp
theorem isN_dec {w : Wd} {g : Gh} {H : Hp} {v : V} {d : D} (h : RepC w g H v d) : d.isN = decide (v = V.non) := by
  rcases h with h | ⟨a, xs, ds, rfl, rfl, _⟩
  · cases h <;> simp [D.isN]
  · simp [D.isN]
theorem lexLt_eq : ∀ a b : List Int, lexLt a b = HT.lexLt a b
  | [], [] => rfl
  | [], _ :: _ => rfl
  | _ :: _, [] => rfl
  | x :: xs, y :: ys => by rw [lexLt, HT.lexLt_cons, lexLt_eq xs ys]
theorem cmp_ok (hK : X.K = w.K) (hu : X.A.units + EQD < cLine) (op : CmpOp) : OpR X (compareOp op) (rOp w W fun a b => (cmpD op a b).map fun k => .val (.bl k)) := by
  intro pins s σ H x y v u Q I rx ry h
  obtain ⟨g0, H0, g, st, σ', a, b, hs, hx, hy, hp⟩ := h
  obtain ⟨r, e0, hp⟩ := ofV_some hp
  obtain ⟨k, e, rfl⟩ := Option.map_eq_some_iff.mp e0
  clear e0
  have q : Q (.bl k) H := fin_val hs hp (.bl k)
  clear hp
  have end_ : EP X pins σ Q (.bool k) s := ⟨.bl k, H, I, rfl, q⟩
  have h0 : X.A.units < cLine := Nat.lt_of_le_of_lt (Nat.le_add_right _ _) hu
  unfold cmpD at e
  split at e
  · split at e
    · rename_i z
      cases e
      obtain ⟨d1, l1⟩ := dpC_of hx z.1
      obtain ⟨d2, l2⟩ := dpC_of hy z.2.1
      rw [← hK] at d1 d2
      obtain ⟨as, q1⟩ := Dp.reads I _ _ _ d1 rx
      obtain ⟨bs, q2⟩ := Dp.reads I _ _ _ d2 ry
      refine SeqAt.compareEq_reads q1 q2 l1 l2 ?_ ?_
      · rw [depth_of _ z.1, depth_of _ z.2.1]; have := z.2.2; omega
      · rw [eqv_of _ _ z.1 z.2.1]; exact end_
    · cases e
  · split at e
    · rename_i z
      cases e
      obtain ⟨d1, l1⟩ := dpC_of hx z.1
      obtain ⟨d2, l2⟩ := dpC_of hy z.2.1
      rw [← hK] at d1 d2
      obtain ⟨as, q1⟩ := Dp.reads I _ _ _ d1 rx
      obtain ⟨bs, q2⟩ := Dp.reads I _ _ _ d2 ry
      refine SeqAt.compareNe_reads q1 q2 l1 l2 ?_ ?_
      · rw [depth_of _ z.1, depth_of _ z.2.1]; have := z.2.2; omega
      · rw [eqv_of _ _ z.1 z.2.1]; exact end_
    · cases e
  · cases e
    rw [hx.int] at rx; rw [hy.int] at ry
    exact op_lt pins s σ H _ _ v u Q I rx ry ⟨_, _, rfl, rfl, q⟩
  · cases e
    rw [hx.int] at rx; rw [hy.int] at ry
    exact op_le pins s σ H _ _ v u Q I rx ry ⟨_, _, rfl, rfl, q⟩
  · cases e
    rw [hx.int] at rx; rw [hy.int] at ry
    exact op_gt pins s σ H _ _ v u Q I rx ry ⟨_, _, rfl, rfl, q⟩
  · cases e
    rw [hx.int] at rx; rw [hy.int] at ry
    exact op_ge pins s σ H _ _ v u Q I rx ry ⟨_, _, rfl, rfl, q⟩
  · -- tuples of ints, <
    split at e
    · rename_i ns ms e1 e2
      cases e
      obtain ⟨p, xs, rfl, h1, z1, r1⟩ := hx.tup
      obtain ⟨p2, ys, rfl, h2, z2, r2⟩ := hy.tup
      have a1 := r1.ints e1
      have a2 := r2.ints e2
      subst a1; subst a2
      refine op_ltT h0 pins s σ H _ _ v u Q I rx ry ?_
      rw [hK]
      exact ⟨p, p2, ns, ms, rfl, rfl, h1, h2, by rw [lexLt_eq] at q; exact q⟩
    · cases e
  · rw [hy.non] at ry
    refine op_isN pins s σ H _ _ v u Q I rx ry ⟨rfl, ?_⟩
    cases e
    rw [isN_dec hx] at q
    exact q
  · rw [hy.non] at ry
    refine op_notN pins s σ H _ _ v u Q I rx ry ⟨rfl, ?_⟩
    cases e
    rw [isN_dec hx] at q
    exact q
  · cases e
    obtain ⟨rfl, o1⟩ := hx.str
    obtain ⟨rfl, o2⟩ := hy.str
    exact op_in_str pins s σ H _ _ v u Q I rx ry ⟨_, _, rfl, rfl, q⟩
  · cases e
    obtain ⟨rfl, o1⟩ := hx.str
    obtain ⟨rfl, o2⟩ := hy.str
    exact op_notin_str pins s σ H _ _ v u Q I rx ry ⟨_, _, rfl, rfl, by rw [Bool.not_not]; exact q⟩
  · split at e
    · rename_i z
      cases e
      obtain ⟨p, ys, rfl, h1, z1, r1⟩ := hy.lst
      have hx' := hx.rep (fun ds ee => by subst ee; simp [flatD] at z)
      exact op_in_seq pins s σ H _ _ v u Q I rx ry ⟨p, ys, rfl, .inl (SqL.of h1), flat_rep hx' z.1, flats_rep r1 z.2, by rw [inV_rep hx' z.1 r1 z.2]; exact q⟩
    · cases e
  · split at e
    · rename_i z
      cases e
      obtain ⟨p, ys, rfl, h1, z1, r1⟩ := hy.lst
      have hx' := hx.rep (fun ds ee => by subst ee; simp [flatD] at z)
      exact op_notIn_seq pins s σ H _ _ v u Q I rx ry ⟨p, ys, rfl, .inl (SqL.of h1), flat_rep hx' z.1, flats_rep r1 z.2, by rw [inV_rep hx' z.1 r1 z.2]; exact q⟩
    · cases e
  · split at e
    · rename_i z
      cases e
      obtain ⟨p, ys, rfl, h1, z1, r1⟩ := hy.tup
      have hx' := hx.rep (fun ds ee => by subst ee; simp [flatD] at z)
      exact op_in_seq pins s σ H _ _ v u Q I rx ry ⟨p, ys, rfl, .inr (by rw [hK]; exact h1), flat_rep hx' z.1, flats_rep r1 z.2, by rw [inV_rep hx' z.1 r1 z.2]; exact q⟩
    · cases e
  · split at e
    · rename_i z
      cases e
      obtain ⟨p, ys, rfl, h1, z1, r1⟩ := hy.tup
      have hx' := hx.rep (fun ds ee => by subst ee; simp [flatD] at z)
      exact op_notIn_seq pins s σ H _ _ v u Q I rx ry ⟨p, ys, rfl, .inr (by rw [hK]; exact h1), flat_rep hx' z.1, flats_rep r1 z.2, by rw [inV_rep hx' z.1 r1 z.2]; exact q⟩
    · cases e
  · rcases hy with hy | ⟨_, _, _, _, e3, _⟩
    · cases hy
    · cases e3
  · rcases hy with hy | ⟨_, _, _, _, e3, _⟩
    · cases hy
    · cases e3
  · cases e
end
end PL

/-! items, slices, built-ins, methods by values -/
namespace PL.AX
open PySem PySem.Spec PyProof.Rows L2 MeetsSeq AutoSeq1
set_option maxRecDepth 8000 in
theorem list_extend_tup (l : Addr) (items : Array Value) (n : Nat) (b : Addr) (items2 : Array Value) (n2 : Nat) (dd : Option Addr) (sl : Array (Option Value)) (hs0 : ¬(!items.isEmpty && Builtin.List.listTooLong (items.size + items2.size)) = true) (hs1 : items.size ≤ sizeLine) (hs2 : items.size + items2.size ≤ sizeLine + 1) :
    Meets (Builtin.«list.extend» ⟨[.ref l, .ref b], []⟩) (fun _ R s => s.heap.get? l = some { cls := .type "list", dict := none, data := .seq items n, slots := #[] } ∧ s.heap.get? b = some { cls := .type "tuple", dict := dd, data := .seq items2 n2, slots := sl } ∧ R (.ok (.ret Value.none)) { s with heap := s.heap.update l (Obj.mapSeq fun x => x ++ items2), toks := s.toks }) :=
  .of_wp fun prog w A R s h => by
    obtain ⟨hp, g, d, tk, os⟩ := s; obtain ⟨hl, hb, h⟩ := h; have f1 := idx_int; have f2 := AutoSeq1.sub_tuple_tuple; have f3 := AutoSeq1.sub_list_list; have f4 := AutoSeq1.sub_tuple_list; have f5 := AutoSeq1.sub_list_tuple;
    have hz' : (items ++ items2).size ≤ sizeLine + 1 := by rw [Array.size_append]; exact hs2
    wp_walk using (wpAny_updateSeq hl rfl (hz := hs1) (_hz' := hz')), wpAny_loadPart' hl, wpAny_loadPart' hb; exact ⟨_, rfl, h⟩
end PL.AX
namespace PL
open PySem PySem.Spec PyProof.Rows L2

section
variable {w : Wd} {g : Gh} {H : Hp}
theorem reps_at {xs : List V} {ds : List D} {i : Int} {d : D} (r : Reps w g H xs ds) (e : atI ds i = some d) : ∃ v, atI xs i = some v ∧ Rep w g H v d := by
  unfold atI at e ⊢
  rw [r.length]
  cases q : ixN ds.length i with
  | none => rw [q] at e; cases e
  | some j =>
    rw [q] at e
    obtain ⟨v, h1, h2⟩ := r.get (i := j) (by simpa using e)
    exact ⟨v, by simpa using h1, h2⟩
theorem reps_cut {xs : List V} {ds : List D} (lo hi : Option Int) (r : Reps w g H xs ds) : Reps w g H (cutV xs lo hi) (cut ds lo hi) := by
  unfold cutV cut
  rw [r.length]
  exact (r.drop _).take _
theorem okS_sub {x : Str} {l : List Nat} (o : okS x) (h : ∀ c ∈ l, c ∈ x.cps.toList) (z : l.length ≤ x.length) : okS ⟨l.toArray⟩ := by
  refine ⟨?_, ?_⟩
  · show l.toArray.all (· < 0x110000) = true
    rw [Array.all_eq_true]
    intro i hi
    have h1 : l.toArray[i] ∈ x.cps.toList := h _ (by simp)
    have h2 := o.1
    rw [Array.all_eq_true'] at h2
    exact h2 _ (by simpa using h1)
  · show l.toArray.size ≤ _
    rw [List.size_toArray]
    exact Nat.le_trans z o.2
theorem okS_one {x : Str} {c : Nat} (o : okS x) (h : c ∈ x.cps.toList) : okS ⟨#[c]⟩ := by
  refine okS_sub (l := [c]) o (by simpa using h) ?_
  show 1 ≤ x.cps.size
  have : 0 < x.cps.toList.length := List.length_pos_of_mem h
  have e : x.cps.toList.length = x.cps.size := by simp
  omega
theorem atI_mem {α : Type} {xs : List α} {i : Int} {v : α} (h : atI xs i = some v) : v ∈ xs := by
  unfold atI at h
  cases q : L2.ixN xs.length i with
  | none => rw [q] at h; cases h
  | some j => rw [q] at h; exact List.mem_of_getElem? (by simpa using h)
theorem okS_cut {x : Str} (lo hi : Option Int) (o : okS x) : okS (cutStr x lo hi) := by
  refine okS_sub o (fun c hc => ?_) ?_
  · exact List.mem_of_mem_drop (List.mem_of_mem_take hc)
  · unfold cut
    rw [List.length_take, List.length_drop]
    show _ ≤ x.cps.size
    rw [Array.length_toList]
    omega
theorem okS_size {x : Str} (o : okS x) : x.length ≤ sizeLine := by rw [sizeLine_eq]; exact o.2
/-- a list of the store -/
theorem stObj {g0 : Gh} {H0 : Hp} {s : S} {σ : L2.St} {k : Nat} {a : Addr} {ds : List D} (h : SR w g0 H0 g s σ H) (ea : g.mu[k]? = some a) (e : s.st[k]? = some (.lst ds)) : ∃ xs, H a = some (.lst xs) ∧ xs.length ≤ sizeLine ∧ Reps w g H xs ds :=
  h.st.ob k a _ ea e
end
section
variable {X : Cx} {w : Wd} {W : WX}
def rOp1 (w : Wd) (W : WX) (f : S → D → Option Rv) : V → Hp → VK → Prop := fun x H Q => ∃ g0 H0 g s σ a, SR w g0 H0 g s σ H ∧ RepC w g H x a ∧ post w W (RxR w) g0 H0 g H σ Q (ofV (f s a) s)
def rOp2 (w : Wd) (W : WX) (f : S → D → D → Option Rv) : R2 := fun x y H Q => ∃ g0 H0 g s σ a b, SR w g0 H0 g s σ H ∧ RepC w g H x a ∧ RepC w g H y b ∧ post w W (RxR w) g0 H0 g H σ Q (ofV (f s a b) s)

theorem neg_ok : UnR X (unaryOp .USub) (rOp1 w W fun _ => negD) := by
  intro pins s σ H x v Q I rx h
  obtain ⟨g0, H0, g, st, σ', a, hs, hx, hp⟩ := h
  obtain ⟨r, e, hp⟩ := ofV_some hp
  have e : negD a = some r := e
  unfold negD at e
  split at e
  · cases e
    rw [hx.int] at rx
    exact un_neg pins s σ H _ v Q I rx ⟨_, rfl, fin_val hs hp (.int _)⟩
  · cases e

theorem idx_ok (hK : X.K = w.K) : IxR X (rOp2 w W fun s x y => (idxD s.st x y).map .val) := by
  intro ve se pins s σ H x y v u Q I rx ry h hsub
  obtain ⟨g0, H0, g, st, σ', a, b, hs, hx, hy, hp⟩ := h
  obtain ⟨r, e0, hq⟩ := ofV_some hp
  obtain ⟨d, e, rfl⟩ := Option.map_eq_some_iff.mp e0
  clear e0
  unfold idxD at e
  split at e
  · obtain ⟨p, xs, rfl, h1, z, r1⟩ := hx.tup
    rw [hy.int] at ry
    obtain ⟨v', e1, r'⟩ := reps_at r1 e
    refine ix_tup ve se pins s σ H _ _ v u Q I rx ry ?_ hsub
    rw [hK]
    exact ⟨p, xs, _, v', rfl, rfl, h1, e1, fin_val hs hq r'⟩
  · obtain ⟨p, xs, rfl, h1, z, r1⟩ := hx.lst
    rw [hy.int] at ry
    obtain ⟨v', e1, r'⟩ := reps_at r1 e
    exact ix_list ve se pins s σ H _ _ v u Q I rx ry ⟨p, xs, _, v', rfl, rfl, SqL.of h1, e1, fin_val hs hq r'⟩ hsub
  · obtain ⟨rfl, o⟩ := hx.str
    rw [hy.int] at ry
    obtain ⟨c, e1, rfl⟩ := Option.map_eq_some_iff.mp e
    exact ix_str ve se pins s σ H _ _ v u Q I rx ry ⟨_, _, c, rfl, rfl, okS_size o, e1, fin_val hs hq (.str _ (okS_one o (atI_mem e1)))⟩ hsub
  · rcases hx with hx | ⟨_, _, _, _, e3, _⟩
    · cases hx
    · cases e3
  · have hx' := hx.rep (fun _ e => by cases e)
    cases hx' with
    | scr h1 =>
      rw [hy.int] at ry
      obtain ⟨n, e1, rfl⟩ := Option.map_eq_some_iff.mp e
      refine ix_list ve se pins s σ H _ _ v u Q I rx ry ?_ hsub
      rw [hK]
      refine ⟨_, _, _, .int n, rfl, rfl, h1 H (fun _ _ _ h => h), ?_, fin_val hs hq (.int n)⟩
      unfold atI at e1 ⊢
      rw [List.length_map]
      cases q : L2.ixN _ _ with
      | none => rw [q] at e1; cases e1
      | some j => rw [q] at e1; simp at e1 ⊢; exact e1
  · split at e
    · rename_i ds e2
      obtain ⟨p, rfl, ea⟩ := hx.obj
      obtain ⟨xs, h1, z, r1⟩ := stObj hs ea e2
      rw [hy.int] at ry
      obtain ⟨v', e1, r'⟩ := reps_at r1 e
      exact ix_list ve se pins s σ H _ _ v u Q I rx ry ⟨p, xs, _, v', rfl, rfl, SqL.of h1, e1, fin_val hs hq r'⟩ hsub
    · cases e
  · cases e
theorem slc_ok (hK : X.K = w.K) : SlR X (fun x lo hi => rOp1 w W (fun s x => slcD s.st x lo hi) x) := by
  intro pins s σ H x v vl vu lo hi sl Q I rx hs pl pu h
  obtain ⟨g0, H0, g, st, σ', a, hs', hx, hp⟩ := h
  obtain ⟨r, e, hp⟩ := ofV_some hp
  have e : slcD st.st a lo hi = some r := e
  unfold slcD at e
  split at e
  · cases e
    obtain ⟨p, xs, rfl, h1, z, r1⟩ := hx.tup
    refine sl_tupA pins s σ H _ v vl vu lo hi sl Q I rx hs pl pu ?_
    rw [hK]
    refine ⟨p, xs, rfl, h1, fun ⟨e1, e2⟩ => ?_, fun _ p' hp' => ?_⟩
    · refine fin_tupC hs' hp z ?_ h1
      have e3 := reps_cut lo hi r1
      unfold cutV at e3
      rw [e1, e2] at e3
      simpa using e3
    · exact fin_tup hs' hp (Nat.le_trans (cutV_length _ _ _) z) (reps_cut lo hi r1) hp'
  · cases e
    obtain ⟨p, xs, rfl, h1, z, r1⟩ := hx.lst
    exact sl_list pins s σ H _ v vl vu lo hi sl Q I rx hs pl pu ⟨p, xs, rfl, SqL.of h1, fun p' hp' => fin_own hs' hp (Nat.le_trans (cutV_length _ _ _) z) (reps_cut lo hi r1) hp'⟩
  · cases e
    obtain ⟨rfl, o⟩ := hx.str
    refine sl_str pins s σ H _ v vl vu lo hi sl Q I rx hs pl pu ⟨_, rfl, okS_size o, ?_⟩
    exact fin_val hs' hp (.str _ (okS_cut lo hi o))
  · split at e
    · rename_i ds e2
      cases e
      obtain ⟨p, rfl, ea⟩ := hx.obj
      obtain ⟨xs, h1, z, r1⟩ := stObj hs' ea e2
      exact sl_list pins s σ H _ v vl vu lo hi sl Q I rx hs pl pu ⟨p, xs, rfl, SqL.of h1, fun p' hp' => fin_own hs' hp (Nat.le_trans (cutV_length _ _ _) z) (reps_cut lo hi r1) hp'⟩
    · cases e
  · cases e
/-- a value's truth -/
theorem tru_rep {g0 g : Gh} {H0 H : Hp} {s : S} {σ : L2.St} {v : V} {d : D} {k : Bool} (hs : SR w g0 H0 g s σ H) (hx : RepC w g H v d) (e : d.truth s.st = some k) : TruV w.K v H k := by
  unfold D.truth at e
  split at e
  · cases e; rw [hx.non]; rfl
  · cases e; rw [hx.bl]; rfl
  · cases e; rw [hx.int]; rfl
  · cases e
    obtain ⟨rfl, o⟩ := hx.str
    refine ⟨okS_size o, ?_⟩
    rename_i x
    cases q : x.length with
    | zero => simp
    | succ n => simp; omega
  · cases e
    obtain ⟨p, xs, rfl, h1, z, r1⟩ := hx.tup
    refine .inr (.inl ⟨xs, h1, ?_⟩)
    have := r1.length
    cases xs <;> cases r1 <;> rfl
  · cases e
    obtain ⟨p, xs, rfl, h1, z, r1⟩ := hx.lst
    refine .inl ⟨xs, SqL.of h1, ?_⟩
    cases xs <;> cases r1 <;> rfl
  · split at e
    · rename_i ds e2
      cases e
      obtain ⟨p, rfl, ea⟩ := hx.obj
      obtain ⟨xs, h1, z, r1⟩ := stObj hs ea e2
      refine .inl ⟨xs, SqL.of h1, ?_⟩
      cases xs <;> cases r1 <;> rfl
    · cases e
  · cases e

/-! ### built-ins -/
def RepCs (w : Wd) (g : Gh) (H : Hp) : List V → List D → Prop
  | [], [] => True
  | v :: vs, d :: ds => RepC w g H v d ∧ RepCs w g H vs ds
  | _, _ => False
def rBlt (w : Wd) (W : WX) (f : S → List D → Option Rv) : List V → Hp → VK → Prop := fun xs H Q => ∃ g0 H0 g s σ ds, SR w g0 H0 g s σ H ∧ RepCs w g H xs ds ∧ post w W (RxR w) g0 H0 g H σ Q (ofV (f s ds) s)
theorem RepCs.one {g : Gh} {H : Hp} {xs : List V} {d : D} (h : RepCs w g H xs [d]) : ∃ v, xs = [v] ∧ RepC w g H v d := by
  cases xs with
  | nil => exact h.elim
  | cons v r => cases r with
    | nil => exact ⟨v, rfl, h.1⟩
    | cons _ _ => exact h.2.elim
theorem RepCs.two {g : Gh} {H : Hp} {xs : List V} {d e : D} (h : RepCs w g H xs [d, e]) : ∃ v u, xs = [v, u] ∧ RepC w g H v d ∧ RepC w g H u e := by
  cases xs with
  | nil => exact h.elim
  | cons v r => cases r with
    | nil => exact h.2.elim
    | cons u r => cases r with
      | nil => exact ⟨v, u, rfl, h.1, h.2.1⟩
      | cons _ _ => exact h.2.2.elim
theorem call_sumT (hc : X.calm = true) : CallR X (.builtin "sum") (fun vs H Q => ∃ (a : Addr) (ns : List Int), vs = [V.ref a] ∧ SqT X.K H a (ns.map V.int) ∧ Q (.int ns.sum) H) := by
  intro pins s σ H vs us Q I r h
  obtain ⟨a, ns, rfl, hs, q⟩ := h
  obtain ⟨its, rv, ht, _⟩ := I.tuple hs
  rw [Vals.ref1 r]
  obtain ⟨xs, e⟩ := rv.ints.allInts.items
  have hn : numsOf (intItems xs).toList = ns := by rw [← e]; exact rv.ints.numsOf
  rw [nums_intItems] at hn
  rw [e] at ht
  refine PySem.W.ktm_sumG (I.ok.hd hc) ht fun h' tk t' hk => ?_
  rw [preSum_eq, List.take_of_length_le (by simp), hn]
  exact ⟨.int _, H, I.kept hk, ⟨_, rfl⟩, q⟩
/-- a list or a tuple that is walked or copied -/
theorem items_rep {g0 g : Gh} {H0 H : Hp} {s : S} {σ : L2.St} {v : V} {d : D} {ds : List D} (hs : SR w g0 H0 g s σ H) (hx : RepC w g H v d) (e : items? s.st d = some ds) :
    ∃ a xs, v = .ref a ∧ (SqL w.K H a xs ∨ (SqT w.K H a xs ∧ d = .tup ds)) ∧ xs.length ≤ sizeLine ∧ Reps w g H xs ds := by
  unfold items? at e
  split at e
  · cases e
    obtain ⟨p, xs, rfl, h1, z, r1⟩ := hx.tup
    exact ⟨p, xs, rfl, .inr ⟨h1, rfl⟩, z, r1⟩
  · cases e
    obtain ⟨p, xs, rfl, h1, z, r1⟩ := hx.lst
    exact ⟨p, xs, rfl, .inl (SqL.of h1), z, r1⟩
  · split at e
    · rename_i ds e2
      cases e
      obtain ⟨p, rfl, ea⟩ := hx.obj
      obtain ⟨xs, h1, z, r1⟩ := stObj hs ea e2
      exact ⟨p, xs, rfl, .inl (SqL.of h1), z, r1⟩
    · cases e
  · cases e
theorem len_ok (hK : X.K = w.K) : CallR X (.builtin "len") (rBlt w W fun s => bltD s.st .len) := by
  intro pins s σ H xs us Q I r h
  obtain ⟨g0, H0, g, st, σ', ds, hs, hx, hp⟩ := h
  obtain ⟨rr, e0, hp⟩ := ofV_some hp
  have e0 : bltD st.st .len ds = some rr := e0
  unfold bltD at e0
  split at e0 <;> first | (cases e0; done) | skip
  all_goals first | contradiction | skip
  obtain ⟨n, e, rfl⟩ := Option.map_eq_some_iff.mp e0
  obtain ⟨v, rfl, hv⟩ := hx.one
  have q : Q (.int n) H := fin_val hs hp (.int _)
  unfold lenD at e
  split at e
  · cases e
    obtain ⟨p, ys, rfl, h1, z, r1⟩ := hv.tup
    rw [← r1.length] at q
    exact call_len_seq pins s σ H _ us Q I r ⟨p, ys, rfl, .inr (by rw [hK]; exact h1), q⟩
  · cases e
    obtain ⟨p, ys, rfl, h1, z, r1⟩ := hv.lst
    rw [← r1.length] at q
    exact call_len_seq pins s σ H _ us Q I r ⟨p, ys, rfl, .inl (SqL.of h1), q⟩
  · cases e
    obtain ⟨rfl, o⟩ := hv.str
    exact call_len_str pins s σ H _ us Q I r ⟨_, rfl, okS_size o, q⟩
  · rcases hv with hv | ⟨_, _, _, _, e3, _⟩
    · cases hv
    · cases e3
  · cases e
    have hv' := hv.rep (fun _ e => by cases e)
    cases hv' with
    | scr h1 => exact call_len_seq pins s σ H _ us Q I r ⟨_, _, rfl, .inl (by rw [hK]; exact h1 H fun _ _ _ h => h), by rw [List.length_map]; exact q⟩
  · split at e
    · rename_i ds e2
      cases e
      obtain ⟨p, rfl, ea⟩ := hv.obj
      obtain ⟨ys, h1, z, r1⟩ := stObj hs ea e2
      rw [← r1.length] at q
      exact call_len_seq pins s σ H _ us Q I r ⟨p, ys, rfl, .inl (SqL.of h1), q⟩
    · cases e
  · cases e
theorem sum_ok (hK : X.K = w.K) (hc : X.calm = true) : CallR X (.builtin "sum") (rBlt w W fun s => bltD s.st .sum) := by
  intro pins s σ H xs us Q I r h
  obtain ⟨g0, H0, g, st, σ', ds, hs, hx, hp⟩ := h
  obtain ⟨rr, e0, hp⟩ := ofV_some hp
  have e0 : bltD st.st .sum ds = some rr := e0
  unfold bltD at e0
  split at e0 <;> first | (cases e0; done) | skip
  all_goals first | contradiction | skip
  obtain ⟨es, e, e1⟩ := Option.bind_eq_some_iff.mp e0
  obtain ⟨ns, e2, rfl⟩ := Option.map_eq_some_iff.mp e1
  obtain ⟨v, rfl, hv⟩ := hx.one
  have q : Q (.int ns.sum) H := fin_val hs hp (.int _)
  obtain ⟨a, ys, rfl, hh, z, r1⟩ := items_rep hs hv e
  have ey := r1.ints e2
  subst ey
  rcases hh with hh | ⟨hh, _⟩
  · exact cr_sum hc pins s σ H _ us Q I r ⟨a, ns, rfl, by rw [hK]; exact hh, q⟩
  · exact call_sumT hc pins s σ H _ us Q I r ⟨a, ns, rfl, by rw [hK]; exact hh, q⟩
theorem tuple_ok (hK : X.K = w.K) : CallR X (.type "tuple") (rBlt w W fun s => bltD s.st .tuple) := by
  intro pins s σ H xs us Q I r h
  obtain ⟨g0, H0, g, st, σ', ds, hs, hx, hp⟩ := h
  obtain ⟨rr, e0, hp⟩ := ofV_some hp
  have e0 : bltD st.st .tuple ds = some rr := e0
  unfold bltD at e0
  split at e0 <;> first | (cases e0; done) | skip
  all_goals first | contradiction | skip
  obtain ⟨es, e, rfl⟩ := Option.map_eq_some_iff.mp e0
  obtain ⟨v, rfl, hv⟩ := hx.one
  obtain ⟨a, ys, rfl, hh, z, r1⟩ := items_rep hs hv e
  refine call_tuple_of pins s σ H _ us Q I r ⟨a, ys, rfl, ?_⟩
  rw [hK]
  rcases hh with hh | ⟨hh, _⟩
  · exact .inl ⟨hh, fun p hp' => fin_tup hs hp z r1 hp'⟩
  · exact .inr ⟨hh, fin_tupC hs hp z r1 hh⟩
theorem list_ok (hK : X.K = w.K) : CallR X (.type "list") (rBlt w W fun s => bltD s.st .list) := by
  intro pins s σ H xs us Q I r h
  obtain ⟨g0, H0, g, st, σ', ds, hs, hx, hp⟩ := h
  obtain ⟨rr, e0, hp⟩ := ofV_some hp
  have e0 : bltD st.st .list ds = some rr := e0
  unfold bltD at e0
  split at e0 <;> first | (cases e0; done) | skip
  all_goals first | contradiction | skip
  obtain ⟨es, e, rfl⟩ := Option.map_eq_some_iff.mp e0
  obtain ⟨v, rfl, hv⟩ := hx.one
  obtain ⟨a, ys, rfl, hh, z, r1⟩ := items_rep hs hv e
  refine call_list_of pins s σ H _ us Q I r ⟨a, ys, rfl, ?_, fun p hp' => fin_own hs hp z r1 hp'⟩
  rw [hK]
  exact hh.imp id And.left
theorem min2_ok (hc : X.calm = true) : CallR X (.builtin "min") (rBlt w W fun s => bltD s.st .min2) := by
  intro pins s σ H xs us Q I r h
  obtain ⟨g0, H0, g, st, σ', ds, hs, hx, hp⟩ := h
  obtain ⟨rr, e0, hp⟩ := ofV_some hp
  have e0 : bltD st.st .min2 ds = some rr := e0
  unfold bltD at e0
  split at e0 <;> first | (cases e0; done) | skip
  all_goals first | contradiction | skip
  cases e0
  obtain ⟨v, u, rfl, h1, h2⟩ := hx.two
  rw [h1.int, h2.int] at r
  exact call_min2 hc pins s σ H _ us Q I r ⟨_, _, rfl, fin_val hs hp (.int _)⟩
theorem max2_ok (hc : X.calm = true) : CallR X (.builtin "max") (rBlt w W fun s => bltD s.st .max2) := by
  intro pins s σ H xs us Q I r h
  obtain ⟨g0, H0, g, st, σ', ds, hs, hx, hp⟩ := h
  obtain ⟨rr, e0, hp⟩ := ofV_some hp
  have e0 : bltD st.st .max2 ds = some rr := e0
  unfold bltD at e0
  split at e0 <;> first | (cases e0; done) | skip
  all_goals first | contradiction | skip
  cases e0
  obtain ⟨v, u, rfl, h1, h2⟩ := hx.two
  rw [h1.int, h2.int] at r
  exact call_max2 hc pins s σ H _ us Q I r ⟨_, _, rfl, fin_val hs hp (.int _)⟩
theorem int_ok : CallR X (.type "int") (rBlt w W fun s => bltD s.st .int) := by
  intro pins s σ H xs us Q I r h
  obtain ⟨g0, H0, g, st, σ', ds, hs, hx, hp⟩ := h
  obtain ⟨rr, e0, hp⟩ := ofV_some hp
  have e0 : bltD st.st .int ds = some rr := e0
  unfold bltD at e0
  split at e0 <;> first | (cases e0; done) | skip
  all_goals first | contradiction | skip
  · cases e0
    obtain ⟨v, rfl, h1⟩ := hx.one
    rw [h1.int] at r
    exact call_int1 pins s σ H _ us Q I r (.inl ⟨_, rfl, fin_val hs hp (.int _)⟩)
  · cases e0
    obtain ⟨v, rfl, h1⟩ := hx.one
    rw [h1.bl] at r
    exact call_int1 pins s σ H _ us Q I r (.inr ⟨_, rfl, fin_val hs hp (.int _)⟩)
  · split at e0
    · rename_i z
      obtain ⟨n, e, rfl⟩ := Option.map_eq_some_iff.mp e0
      obtain ⟨v, rfl, h1⟩ := hx.one
      obtain ⟨rfl, o⟩ := h1.str
      exact call_int_str pins s σ H _ us Q I r ⟨_, n, rfl, e, z, fin_val hs hp (.int _)⟩
    · cases e0
set_option exponentiation.threshold 3000 in
theorem num_len (n : Nat) (z : n.log2 < 1920) : (TL.numL n).length ≤ 1920 := by
  refine TL.numL_len (by decide) ?_
  have h1 : n < 2 ^ (n.log2 + 1) := Nat.lt_log2_self
  have h2 : 2 ^ (n.log2 + 1) ≤ 2 ^ 1920 := Nat.pow_le_pow_right (by decide) (by omega)
  have h3 : 2 ^ 1920 ≤ 10 ^ 1920 := Nat.pow_le_pow_left (by decide) 1920
  exact Nat.lt_of_lt_of_le h1 (Nat.le_trans h2 h3)
theorem okS_of (s : String) (h : s.toList.length ≤ 16777216) : okS (Str.ofString s) := by
  rw [Str.ofString_eq_toList]
  refine ⟨?_, ?_⟩
  · show (s.toList.map Char.toNat).toArray.all _ = true
    rw [List.all_toArray, List.all_eq_true]
    intro c hc
    obtain ⟨d, _, rfl⟩ := List.mem_map.mp hc
    have := d.valid
    have h2 : d.toNat < 0x110000 := by
      rcases this with h | ⟨_, h⟩
      · exact Nat.lt_trans h (by decide)
      · exact h
    simpa using h2
  · show (s.toList.map Char.toNat).toArray.size ≤ _
    rw [List.size_toArray, List.length_map]; exact h
theorem okS_num (i : Int) (z : i.natAbs.log2 < 1920) : okS (Str.ofString (toString i)) := by
  refine okS_of _ ?_
  cases i with
  | ofNat n =>
    have h := num_len n z
    have e : TL.tl (Str.ofString (toString ((n : Nat) : Int))) = TL.numL n := TL.tl_num n
    rw [Str.ofString_eq_toList] at e
    have e2 : ((toString ((n : Nat) : Int)).toList.map Char.toNat) = TL.numL n := by simpa [TL.tl] using e
    have e3 := congrArg List.length e2
    rw [List.length_map] at e3
    show (toString ((n : Nat) : Int)).toList.length ≤ _
    omega
  | negSucc n =>
    have h := num_len (n + 1) z
    have e : TL.tl (Str.ofString (toString (((n + 1) : Nat) : Int))) = TL.numL (n + 1) := TL.tl_num (n + 1)
    rw [Str.ofString_eq_toList] at e
    have e2 : ((toString (((n + 1) : Nat) : Int)).toList.map Char.toNat) = TL.numL (n + 1) := by simpa [TL.tl] using e
    have e3 := congrArg List.length e2
    rw [List.length_map] at e3
    have e4 : toString (Int.negSucc n) = "-" ++ toString (n + 1) := rfl
    have e5 : toString (((n + 1) : Nat) : Int) = toString (n + 1) := rfl
    rw [e4]
    rw [e5] at e3
    have e6 : ("-" ++ toString (n + 1)).toList.length = 1 + (toString (n + 1)).toList.length := by simp; omega
    omega
theorem str_ok : CallR X (.type "str") (rBlt w W fun s => bltD s.st .str) := by
  intro pins s σ H xs us Q I r h
  obtain ⟨g0, H0, g, st, σ', ds, hs, hx, hp⟩ := h
  obtain ⟨rr, e0, hp⟩ := ofV_some hp
  have e0 : bltD st.st .str ds = some rr := e0
  unfold bltD at e0
  split at e0 <;> first | (cases e0; done) | skip
  all_goals first | contradiction | skip
  split at e0
  · rename_i z
    cases e0
    obtain ⟨v, rfl, h1⟩ := hx.one
    rw [h1.int] at r
    exact call_str_int pins s σ H _ us Q I r ⟨_, rfl, z, fin_val hs hp (.str _ (okS_num _ z))⟩
  · cases e0
theorem all_ok (hK : X.K = w.K) (hc : X.calm = true) : CallR X (.builtin "all") (rBlt w W fun s => bltD s.st .all) := by
  intro pins s σ H xs us Q I r h
  obtain ⟨g0, H0, g, st, σ', ds, hs, hx, hp⟩ := h
  obtain ⟨rr, e0, hp⟩ := ofV_some hp
  have e0 : bltD st.st .all ds = some rr := e0
  unfold bltD at e0
  split at e0 <;> first | (cases e0; done) | skip
  all_goals first | contradiction | skip
  obtain ⟨bs, e, rfl⟩ := Option.map_eq_some_iff.mp e0
  obtain ⟨v, rfl, hv⟩ := hx.one
  obtain ⟨p, ys, rfl, h1, z, r1⟩ := hv.lst
  have ey := r1.bls e
  subst ey
  exact cr_all hc pins s σ H _ us Q I r ⟨p, bs, rfl, SqL.of h1, fin_val hs hp (.bl _)⟩

/-! ### methods -/
def rMth (w : Wd) (W : WX) (m : Mth) : V → List V → Hp → VK → Prop := fun x xs H Q => ∃ g0 H0 g s σ o ds, SR w g0 H0 g s σ H ∧ RxP w g σ H x o ∧ Reps w g H xs ds ∧ post w W (RxR w) g0 H0 g H σ Q (methR m o ds s)
/-- a list that changes: a name's or the store's -/
theorem chg_list {g0 g : Gh} {H0 H : Hp} {s : S} {σ : L2.St} {Q : VK} {m : Mth} {x : V} {o : Rx} {ds : List D} (h : SR w g0 H0 g s σ H) (hx : RxP w g σ H x o)
    (nv : ∀ d es, methD m d es = none) (hp : post w W (RxR w) g0 H0 g H σ Q (methR m o ds s)) :
    ∃ a xs es d ys, x = .ref a ∧ H a = some (.lst xs) ∧ xs.length ≤ sizeLine ∧ Reps w g H xs es ∧ methL m es ds = some (d, ys) ∧
      ∀ v us, us.length ≤ sizeLine → Reps w g H us ys → Rep w g H v d → Q v (upd H a (.lst us)) := by
  have hbad : ∀ d, ¬ post w W (RxR w) g0 H0 g H σ Q (ofV (methD m d ds) s) := fun d hh => by
    rw [nv] at hh; exact hh
  unfold methR at hp
  split at hp
  · rename_i i
    split at hp
    · rename_i es ei
      split at hp
      · rename_i d ys em
        obtain ⟨a, e1, _, _, _, xs, e2, z, r⟩ := h.slot i _ ei
        have hx : σ[i]? = some (some x) := hx
        rw [hx] at e1; cases e1
        refine ⟨a, xs, es, d, ys, rfl, e2, z, r, em, fun v us zu ru rv => ?_⟩
        obtain ⟨h2, k2⟩ := h.chg ei hx zu ru
        exact hp g _ v h2 k2 (rv.step k2)
      · exact hp.elim
    · exact (hbad _ hp).elim
    · exact hp.elim
  · rename_i k
    split at hp
    · rename_i es ek
      split at hp
      · rename_i d ys em
        have hx : Rep w g H x (.obj k) := hx
        cases hx with
        | obj ea =>
          obtain ⟨xs, e2, z, r⟩ := stObj h ea ek
          refine ⟨_, xs, es, d, ys, rfl, e2, z, r, em, fun v us zu ru rv => ?_⟩
          obtain ⟨h2, k2⟩ := h.put (o := .lst ys) (u := .lst us) ea (fun k2 => ⟨us, upd_same, zu, ru.step k2⟩)
          exact hp g _ v h2 k2 (rv.step k2)
      · exact hp.elim
    · exact hp.elim
  · exact (hbad _ hp).elim
  · exact (hbad _ hp).elim
theorem append_ok : MtR X "list.append" (rMth w W .append) := by
  intro pins s σ H x xs v us Q I rx rv h
  obtain ⟨g0, H0, g, st, σ', o, ds, hs, hx, r, hp⟩ := h
  obtain ⟨a, ys, es, d, zs, rfl, e, z, r1, em, fin⟩ := chg_list hs hx (fun d es => by cases d <;> rfl) hp
  unfold methL at em
  split at em <;> first | (cases em; done) | skip
  all_goals first | contradiction | skip
  split at em
  · rename_i hl
    cases em
    cases r with
    | cons r0 rr =>
      cases rr
      refine mt_append pins s σ H _ _ v us Q I rx rv ⟨a, ys, _, rfl, rfl, e, by rw [r1.length, ← lim_eq]; exact hl, ?_⟩
      refine fin _ _ ?_ (r1.append (.one r0)) .non
      rw [List.length_append, r1.length]
      show _ + 1 ≤ _
      rw [← lim_eq]; exact hl
  · cases em
theorem reads_tup {b : Addr} {items : Array Value} {s : Shared} (h : IsTup s.heap b items) : ∃ n dd sl, s.heap.get? b = some { cls := .type "tuple", dict := dd, data := .seq items n, slots := sl } := by
  obtain ⟨⟨c, dd, dt, sl⟩, h1, h2, n, h3⟩ := h
  simp only at h2 h3
  subst h2; subst h3
  exact ⟨n, dd, sl, h1⟩
theorem mt_extendT (hK : X.K = w.K) : MtR X "list.extend" (fun x vs H Q => ∃ l b xs zs, x = .ref l ∧ vs = [.ref b] ∧ H l = some (.lst xs) ∧ SqT w.K H b zs ∧ xs.length + zs.length ≤ sizeLine ∧ Q .non (upd H l (.lst (xs ++ zs)))) := by
  intro pins s σ H x vs v us Q I rx rv h
  obtain ⟨l, b, xs, zs, rfl, rfl, hH, hB, hz, q⟩ := h
  cases rx
  obtain ⟨u, rfl, ru⟩ := rv.one
  cases ru
  obtain ⟨z, its, n, r, hl, e⟩ := I.lstM hH
  obtain ⟨its2, r2, ht, z2⟩ := I.tuple (by rw [hK]; exact hB)
  obtain ⟨n2, dd, sl, e2⟩ := reads_tup ht
  have hl2 := r2.length
  have hsz : its.toArray.size + its2.toArray.size ≤ sizeLine := by rw [List.size_toArray, List.size_toArray]; omega
  have hlong : ¬ (!its.toArray.isEmpty && Builtin.List.listTooLong (its.toArray.size + its2.toArray.size)) = true := by
    rw [notLongL hsz, Bool.and_false]
    exact Bool.false_ne_true
  refine call_meets F.slot_list_extend ⟨_, e, rfl⟩ F.entry_list_extend (F.args_list_extend_2 _ _)
    (AX.list_extend_tup l its.toArray n b its2.toArray n2 dd sl hlong (by rw [List.size_toArray]; omega) (by omega)) ⟨e, e2, ?_⟩
  refine ⟨.non, _, I.lset (its' := its ++ its2) hH e (by simp) (r.append r2) ?_, rfl, q⟩
  rw [List.length_append]
  omega
theorem extend_ok (hK : X.K = w.K) : MtR X "list.extend" (rMth w W .extend) := by
  intro pins s σ H x xs v us Q I rx rv h
  obtain ⟨g0, H0, g, st, σ', o, ds, hs, hx, r, hp⟩ := h
  obtain ⟨a, ys, es, d, zs, rfl, e, z, r1, em, fin⟩ := chg_list hs hx (fun d es => by cases d <;> rfl) hp
  unfold methL at em
  split at em <;> first | (cases em; done) | skip
  all_goals first | contradiction | skip
  · split at em
    · rename_i hl
      cases em
      cases r with
      | cons r0 rr =>
        cases rr
        cases r0 with
        | lst _ hb _ rb =>
          have hz := hl
          rw [← r1.length, ← rb.length, lim_eq] at hz
          refine mt_extend pins s σ H _ _ v us Q I rx rv ⟨a, _, ys, _, rfl, rfl, e, hb, hz, ?_⟩
          exact fin _ _ (by rw [List.length_append]; exact hz) (r1.append rb) .non
    · cases em
  · split at em
    · rename_i hl
      cases em
      cases r with
      | cons r0 rr =>
        cases rr
        cases r0 with
        | tup hb _ rb =>
          have hz := hl
          rw [← r1.length, ← rb.length, lim_eq] at hz
          refine mt_extendT hK pins s σ H _ _ v us Q I rx rv ⟨a, _, ys, _, rfl, rfl, e, hb, hz, ?_⟩
          exact fin _ _ (by rw [List.length_append]; exact hz) (r1.append rb) .non
    · cases em
theorem pop_ok : MtR X "list.pop" (rMth w W .pop) := by
  intro pins s σ H x xs v us Q I rx rv h
  obtain ⟨g0, H0, g, st, σ', o, ds, hs, hx, r, hp⟩ := h
  obtain ⟨a, ys, es, d, zs, rfl, e, z, r1, em, fin⟩ := chg_list hs hx (fun d es => by cases d <;> rfl) hp
  unfold methL at em
  split at em <;> first | (cases em; done) | skip
  all_goals first | contradiction | skip
  obtain ⟨d', e1, e2⟩ := Option.map_eq_some_iff.mp em
  cases e2
  cases r
  rw [List.getLast?_eq_getElem?] at e1
  obtain ⟨y, h1, h2⟩ := r1.get e1
  rw [← r1.length] at h1
  refine mt_pop pins s σ H _ _ v us Q I rx rv ⟨a, ys, y, rfl, rfl, e, h1, ?_⟩
  exact fin _ _ (by rw [List.length_dropLast]; omega) r1.dropLast h2
theorem reverse_ok : MtR X "list.reverse" (rMth w W .reverse) := by
  intro pins s σ H x xs v us Q I rx rv h
  obtain ⟨g0, H0, g, st, σ', o, ds, hs, hx, r, hp⟩ := h
  obtain ⟨a, ys, es, d, zs, rfl, e, z, r1, em, fin⟩ := chg_list hs hx (fun d es => by cases d <;> rfl) hp
  unfold methL at em
  split at em <;> first | (cases em; done) | skip
  all_goals first | contradiction | skip
  cases em
  cases r
  refine mt_reverse pins s σ H _ _ v us Q I rx rv ⟨a, ys, rfl, rfl, e, ?_⟩
  exact fin _ _ (by rw [List.length_reverse]; exact z) r1.reverse .non
/-- a method of a text -/
theorem str_meth {g0 g : Gh} {H0 H : Hp} {s : S} {σ : L2.St} {Q : VK} {m : Mth} {x : V} {o : Rx} {ds : List D} (h : SR w g0 H0 g s σ H) (hx : RxP w g σ H x o)
    (nl : ∀ d es, methL m d es = none) (hp : post w W (RxR w) g0 H0 g H σ Q (methR m o ds s)) :
    ∃ d r, RepC w g H x d ∧ methD m d ds = some r ∧ post w W (RxR w) g0 H0 g H σ Q (.ok r.x s) := by
  unfold methR at hp
  split at hp
  · rename_i i
    split at hp
    · rw [nl] at hp; exact hp.elim
    · rename_i d ed
      obtain ⟨r, e, hp⟩ := ofV_some hp
      exact ⟨d, r, RxP.res (r := .ref i) h hx (by simp [Rx.res, ed]), e, hp⟩
    · exact hp.elim
  · split at hp
    · rw [nl] at hp; exact hp.elim
    · exact hp.elim
  · rename_i d _
    obtain ⟨r, e, hp⟩ := ofV_some hp
    exact ⟨d, r, .inl hx, e, hp⟩
  · rename_i xs
    obtain ⟨r, e, hp⟩ := ofV_some hp
    exact ⟨.lst xs, r, .inl hx, e, hp⟩
theorem spl_mem (T : List Nat) : ∀ (l : List Nat) (k : Nat) (acc : List Nat), ∀ p ∈ TL.spl T k acc l, (∀ c ∈ p, c ∈ acc ∨ c ∈ l) ∧ p.length ≤ acc.length + l.length := by
  intro l
  induction l with
  | nil => intro k acc p hp; rw [TL.spl_nil] at hp; simp at hp; subst hp; simp
  | cons c r ih =>
    intro k acc p hp
    cases k with
    | succ k =>
      have hp : p ∈ TL.spl T k acc r := hp
      obtain ⟨h1, h2⟩ := ih k acc p hp
      refine ⟨fun x hx => (h1 x hx).imp id (List.mem_cons_of_mem _), by simp; omega⟩
    | zero =>
      cases q : TL.pre T (c :: r) with
      | true =>
        rw [TL.spl_hit q] at hp
        rcases List.mem_cons.mp hp with rfl | hp
        · exact ⟨fun x hx => .inl hx, by simp⟩
        · obtain ⟨h1, h2⟩ := ih _ [] p hp
          refine ⟨fun x hx => (h1 x hx).elim (fun z => by simp at z) (fun z => .inr (List.mem_cons_of_mem _ z)), by simp at h2 ⊢; omega⟩
      | false =>
        rw [TL.spl_miss q] at hp
        obtain ⟨h1, h2⟩ := ih _ _ p hp
        refine ⟨fun x hx => ?_, by simp at h2 ⊢; omega⟩
        rcases h1 x hx with z | z
        · rcases List.mem_append.mp z with z | z
          · exact .inl z
          · exact .inr (by simp at z; simp [z])
        · exact .inr (List.mem_cons_of_mem _ z)
theorem okS_split {x y : Str} (o : okS x) (hy : y.length ≠ 0) : ∀ z ∈ Txt.split x y, okS z := by
  intro z hz
  by_cases hk : Builtin.Str.strKind x < Builtin.Str.strKind y
  · unfold Txt.split at hz
    rw [if_pos (by simp [hk])] at hz
    simp at hz; subst hz; exact o
  · have hy' : TL.tl y ≠ [] := fun e => hy (by
      have : y.cps.toList.length = 0 := by rw [show y.cps.toList = [] from e]; rfl
      show y.cps.size = 0
      simpa using this)
    have e := TL.split_spl x y hy' hk
    have h1 : TL.tl z ∈ TL.spl (TL.tl y) 0 [] (TL.tl x) := by rw [← e]; exact List.mem_map_of_mem hz
    obtain ⟨h2, h3⟩ := spl_mem _ _ _ _ _ h1
    have e2 : z = ⟨(TL.tl z).toArray⟩ := by cases z; simp [TL.tl]
    rw [e2]
    refine okS_sub o (fun c hc => (h2 c hc).elim (fun z => by simp at z) id) ?_
    show _ ≤ x.cps.size
    simpa using h3
theorem joinL_mem {sep : List Nat} : ∀ {ps : List (List Nat)} {c : Nat}, c ∈ TL.joinL sep ps → c ∈ sep ∨ ∃ p ∈ ps, c ∈ p := by
  intro ps
  induction ps with
  | nil => intro c h; simp [TL.joinL] at h
  | cons p r ih =>
    intro c h
    cases r with
    | nil => exact .inr ⟨p, by simp, by simpa [TL.joinL] using h⟩
    | cons q r =>
      simp only [TL.joinL, List.mem_append] at h
      rcases h with h | h | h
      · exact .inr ⟨p, by simp, h⟩
      · exact .inl h
      · rcases ih h with z | ⟨p', h1, h2⟩
        · exact .inl z
        · exact .inr ⟨p', List.mem_cons_of_mem _ h1, h2⟩
theorem okS_join {x : Str} {xs : List Str} (o : okS x) (os : ∀ y ∈ xs, okS y) (z : (xs.map (·.length)).sum + x.length * xs.length ≤ LIM) : okS (Txt.join x xs) := by
  refine ⟨?_, ?_⟩
  · rw [Array.all_eq_true']
    intro c hc
    have hc : c ∈ TL.tl (Txt.join x xs) := by simpa [TL.tl] using hc
    rw [TL.join_eq, TL.tl_join] at hc
    rcases joinL_mem hc with h | ⟨p, hp, h⟩
    · have := o.1
      rw [Array.all_eq_true'] at this
      exact this c (by simpa [TL.tl] using h)
    · obtain ⟨y, hy, rfl⟩ := List.mem_map.mp hp
      have := (os y hy).1
      rw [Array.all_eq_true'] at this
      exact this c (by simpa [TL.tl] using h)
  · show (Builtin.Str.glued x xs).length ≤ _
    rw [PySem.size_glued]
    have : (xs.length - 1) * x.length ≤ x.length * xs.length := by rw [Nat.mul_comm]; exact Nat.mul_le_mul_left _ (Nat.sub_le _ _)
    unfold LIM at z
    omega
theorem join_ok (hK : X.K = w.K) : MtR X "str.join" (rMth w W .join) := by
  intro pins s σ H x xs v us Q I rx rv h
  obtain ⟨g0, H0, g, st, σ', o, ds, hs, hx, r, hp⟩ := h
  obtain ⟨d, rr, hd, e, hp⟩ := str_meth hs hx (fun d es => by rfl) hp
  unfold methD at e
  split at e <;> first | (cases e; done) | skip
  all_goals first | contradiction | skip
  obtain ⟨zs, e1, e2⟩ := Option.bind_eq_some_iff.mp e
  split at e2
  · rename_i hl
    cases e2
    obtain ⟨rfl, ok⟩ := hd.str
    cases r with
    | cons r0 rr =>
      cases rr
      cases r0 with
      | lst _ hb _ rb =>
        obtain ⟨ez, oz⟩ := rb.strs e1
        subst ez
        refine mt_join pins s σ H _ _ v us Q I rx rv ⟨_, _, zs, rfl, rfl, .inl (SqL.of hb), ?_, ?_⟩
        · rw [Nat.mul_comm zs.length]; exact hl
        · exact fin_val hs hp (.str _ (okS_join ok oz hl))
  · cases e2
theorem split_ok : MtR X "str.split" (rMth w W .split) := by
  intro pins s σ H x xs v us Q I rx rv h
  obtain ⟨g0, H0, g, st, σ', o, ds, hs, hx, r, hp⟩ := h
  obtain ⟨d, rr, hd, e, hp⟩ := str_meth hs hx (fun d es => by rfl) hp
  unfold methD at e
  split at e <;> first | (cases e; done) | skip
  all_goals first | contradiction | skip
  split at e
  · rename_i hl
    cases e
    obtain ⟨rfl, ok⟩ := hd.str
    cases r with
    | cons r0 rr =>
      cases rr
      cases r0
      refine mt_split pins s σ H _ _ v us Q I rx rv ⟨_, _, rfl, rfl, by simpa using hl.1, by rw [← lim_eq]; exact hl.2, fun p hp' => ?_⟩
      refine fin_own hs hp ?_ (Reps.of_strs _ (okS_split ok hl.1)) hp'
      rw [List.length_map, ← lim_eq]
      exact Nat.le_trans (PyProof.Rows.split_le _ _) hl.2
  · cases e
end
end PL

/-! what is gone over; calls -/
namespace PL
open PySem PySem.Spec PyProof.Rows L2

/-- what an iterator gives: ds -/
structure IterOk (w : Wd) (J : It) (G : Gh → Hp → Prop) (ds : List D) : Prop where
  mono : ∀ g H g' H', G g H → Step g H g' H' → G g' H'
  go : ∀ i g H, i < ds.length → G g H → J.go i H
  stop : ∀ g H, G g H → J.stop ds.length H
  yld : ∀ i g H x H' d g0 H0 s σ, G g H → ds[i]? = some d → J.yld i H x H' → SR w g0 H0 g s σ H → SR w g0 H0 g s σ H' ∧ Step g H g H' ∧ Rep w g H' x d
def RitR (w : Wd) : RR It (List D) := fun _ g _ _ H J ds => ∃ G, IterOk w J G ds ∧ G g H ∧ ds.length ≤ sizeLine

section
variable {w : Wd}
theorem iter_list {a : Addr} {ds : List D} : IterOk w (Itl w.K a) (fun g H => g.Z a ∧ ∃ xs, H a = some (.lst xs) ∧ Reps w g H xs ds) ds where
  mono := fun g H g' H' ⟨z, xs, e, r⟩ k => ⟨k.z _ z, xs, k.zk _ _ z e, r.step k⟩
  go := fun i g H hi ⟨z, xs, e, r⟩ => by
    have hl := r.length
    exact ⟨xs, xs[i]'(by omega), SqL.of e, by simp [hl, hi]⟩
  stop := fun g H ⟨z, xs, e, r⟩ => ⟨xs, SqL.of e, by rw [r.length]; exact Nat.le_refl _⟩
  yld := fun i g H x H' d g0 H0 s σ ⟨z, xs, e, r⟩ ed y h => by
    obtain ⟨rfl, y⟩ := y
    have e1 := y xs (SqL.of e)
    obtain ⟨d', h1, h2⟩ := r.getV e1
    rw [ed] at h1; cases h1
    exact ⟨h, Step.refl _ _, h2⟩
theorem iter_tup {a : Addr} {ds : List D} : IterOk w (Itt w.K a) (fun g H => ∃ xs, SqT w.K H a xs ∧ Reps w g H xs ds) ds where
  mono := fun g H g' H' ⟨xs, e, r⟩ k => ⟨xs, sqT_step k e, r.step k⟩
  go := fun i g H hi ⟨xs, e, r⟩ => by
    have hl := r.length
    exact ⟨xs, xs[i]'(by omega), e, by simp [hl, hi]⟩
  stop := fun g H ⟨xs, e, r⟩ => ⟨xs, e, by rw [r.length]; exact Nat.le_refl _⟩
  yld := fun i g H x H' d g0 H0 s σ ⟨xs, e, r⟩ ed y h => by
    obtain ⟨rfl, y⟩ := y
    have e1 := y xs e
    obtain ⟨d', h1, h2⟩ := r.getV e1
    rw [ed] at h1; cases h1
    exact ⟨h, Step.refl _ _, h2⟩
theorem iter_str {x : Str} (o : okS x) : IterOk w (Its x) (fun _ _ => True) (x.cps.toList.map fun c => .str ⟨#[c]⟩) where
  mono := fun _ _ _ _ _ _ => trivial
  go := fun i g H hi _ => by show i < x.cps.size; simpa using hi
  stop := fun g H _ => by show x.cps.size ≤ _; simp
  yld := fun i g H v H' d g0 H0 s σ _ ed y h => by
    obtain ⟨rfl, c, e1, rfl⟩ := y
    rw [List.getElem?_map] at ed
    have e2 : x.cps.toList[i]? = some c := by simpa using e1
    rw [e2] at ed
    cases ed
    exact ⟨h, Step.refl _ _, .str _ (okS_one o (List.mem_of_getElem? e2))⟩
theorem iter_range {lo : Int} {n : Nat} : IterOk w (Itr lo n) (fun _ _ => True) (rangeD lo n) where
  mono := fun _ _ _ _ _ _ => trivial
  go := fun i g H hi _ => by show i < n; simpa [rangeD] using hi
  stop := fun g H _ => by show n ≤ _; simp [rangeD]
  yld := fun i g H v H' d g0 H0 s σ _ ed y h => by
    obtain ⟨rfl, rfl⟩ := y
    unfold rangeD at ed
    rw [List.getElem?_map] at ed
    cases q : (List.range n)[i]? with
    | none => rw [q] at ed; cases ed
    | some j =>
      rw [q] at ed
      rw [List.getElem?_range] at q
      · cases q; cases ed; exact ⟨h, Step.refl _ _, .int _⟩
      · obtain ⟨hh, _⟩ := List.getElem?_eq_some_iff.mp q; simpa using hh
theorem iter_down {hi : Int} {n : Nat} : IterOk w (Itc hi (-1) n) (fun _ _ => True) (rangeDn hi n) where
  mono := fun _ _ _ _ _ _ => trivial
  go := fun i g H hi _ => by show i < n; simpa [rangeDn] using hi
  stop := fun g H _ => by show n ≤ _; simp [rangeDn]
  yld := fun i g H v H' d g0 H0 s σ _ ed y h => by
    obtain ⟨rfl, rfl⟩ := y
    unfold rangeDn at ed
    rw [List.getElem?_map] at ed
    cases q : (List.range n)[i]? with
    | none => rw [q] at ed; cases ed
    | some j =>
      rw [q] at ed
      rw [List.getElem?_range] at q
      · cases q; cases ed; exact ⟨h, Step.refl _ _, .int _⟩
      · obtain ⟨hh, _⟩ := List.getElem?_eq_some_iff.mp q; simpa using hh
theorem iter_rev {a : Addr} {ds : List D} : IterOk w (Itv w.K a ds.length) (fun g H => g.Z a ∧ ∃ xs, H a = some (.lst xs) ∧ Reps w g H xs ds) ds.reverse where
  mono := fun g H g' H' ⟨z, xs, e, r⟩ k => ⟨k.z _ z, xs, k.zk _ _ z e, r.step k⟩
  go := fun i g H hi ⟨z, xs, e, r⟩ => by
    have hl := r.length
    rw [List.length_reverse] at hi
    exact ⟨hi, xs, xs[ds.length - 1 - i]'(by omega), SqL.of e, by simp [hl]⟩
  stop := fun g H ⟨z, xs, e, r⟩ => by show ds.length ≤ ds.reverse.length; simp
  yld := fun i g H x H' d g0 H0 s σ ⟨z, xs, e, r⟩ ed y h => by
    obtain ⟨rfl, y⟩ := y
    have e1 := y xs (SqL.of e)
    obtain ⟨d', h1, h2⟩ := r.getV e1
    have hi : i < ds.length := by
      obtain ⟨hh, _⟩ := List.getElem?_eq_some_iff.mp ed; simpa using hh
    rw [List.getElem?_reverse hi, h1] at ed; cases ed
    exact ⟨h, Step.refl _ _, h2⟩
theorem iter_revT {a : Addr} {ds : List D} : IterOk w (RT.ItvT w.K a ds.length) (fun g H => ∃ xs, SqT w.K H a xs ∧ Reps w g H xs ds) ds.reverse where
  mono := fun g H g' H' ⟨xs, e, r⟩ k => ⟨xs, sqT_step k e, r.step k⟩
  go := fun i g H hi ⟨xs, e, r⟩ => by
    have hl := r.length
    rw [List.length_reverse] at hi
    exact ⟨hi, xs, xs[ds.length - 1 - i]'(by omega), e, by simp [hl]⟩
  stop := fun g H ⟨xs, e, r⟩ => by show ds.length ≤ ds.reverse.length; simp
  yld := fun i g H x H' d g0 H0 s σ ⟨xs, e, r⟩ ed y h => by
    obtain ⟨rfl, y⟩ := y
    have e1 := y xs e
    obtain ⟨d', h1, h2⟩ := r.getV e1
    have hi : i < ds.length := by
      obtain ⟨hh, _⟩ := List.getElem?_eq_some_iff.mp ed; simpa using hh
    rw [List.getElem?_reverse hi, h1] at ed; cases ed
    exact ⟨h, Step.refl _ _, h2⟩
end

/-! ### a list, a tuple or a text gone over -/
def iAny (K : PySem.W.Frag) (te : TE) : TI := fun σ H R => te σ H fun v H1 =>
  (∃ a xs, v = .ref a ∧ SqL K H1 a xs ∧ R (Itl K a) H1) ∨ (∃ a xs, v = .ref a ∧ SqT K H1 a xs ∧ R (Itt K a) H1) ∨ ∃ x, v = .str x ∧ R (Its x) H1
theorem pi_any {X : Cx} {tg e : Expr} {te : TE} (he : PE X e te) : PI X tg e (iAny X.K te) := by
  refine ⟨fun pins s σ H R I h => ?_⟩
  refine thn (he.run pins s σ H _ I h) fun v s1 ⟨y, H1, I1, r1, q⟩ => ?_
  rcases q with ⟨a, xs, rfl, hq, q⟩ | ⟨a, xs, rfl, hq, q⟩ | ⟨x, rfl, q⟩
  · cases r1
    obtain ⟨its, rv, p, hz⟩ := I1.list hq
    refine wpAny_pyIter_list p.isList ?_
    refine ⟨s1.heap.objs.size, [s1.heap.objs.size], _, _, H1, rfl, I1.kept (t' := s1.toks) fun b o e => Heap.get?_push_of_some _ e, turn_list a _, ⟨_, Heap.get?_push_size _ rfl, rfl, rfl⟩, fun b hb => ?_, q⟩
    have e : b = s1.heap.objs.size := by simpa using hb
    subst e
    exact I1.fpOk (Nat.le_refl _) (I1.hok.fresh (Nat.le_refl _))
  · cases r1
    obtain ⟨its, rv, p, hz⟩ := I1.tuple hq
    refine wpAny_pyIter_tuple (show s1.heap.IsTuple a its.toArray from p) ?_
    refine ⟨s1.heap.objs.size, [s1.heap.objs.size], _, _, H1, rfl, I1.kept (t' := s1.toks) fun b o e => Heap.get?_push_of_some _ e, turn_tuple a _, ⟨_, Heap.get?_push_size _ rfl, rfl, rfl⟩, fun b hb => ?_, q⟩
    have e : b = s1.heap.objs.size := by simpa using hb
    subst e
    exact I1.fpOk (Nat.le_refl _) (I1.hok.fresh (Nat.le_refl _))
  · obtain ⟨t, rfl⟩ := r1
    cases ha : x.cps.all (· < 128)
    · exact wpAny_pyIter_wide ha (pi_one (tk := s1.toks) I1 _ (turn_str _ x t "str_iterator" (.inr rfl)) ⟨_, Heap.get?_push_size _ rfl, rfl, rfl⟩ q)
    · exact wpAny_pyIter_ascii ha (pi_one (tk := s1.toks) I1 _ (turn_str _ x t "str_ascii_iterator" (.inl rfl)) ⟨_, Heap.get?_push_size _ rfl, rfl, rfl⟩ q)

/-! ### calls -/
def RvR (w : Wd) (H0 : Hp) (g : Gh) (H : Hp) (v : V) : Rv → Prop
  | .val d => Rep w g H v d
  | .own ds => ∃ a, v = .ref a ∧ Own w H0 g H a ds
def postF (w : Wd) (g : Gh) (H : Hp) (Q : VK) (E : XK) : FO → Prop
  | .ok r st => ∀ g' H' v, StepF g H g' H' → StOk w g' H' st → RvR w H g' H' v r → Q v H'
  | .err x st => ∀ g' H' cls d, StepF g H g' H' → StOk w g' H' st → ExcR w g' H' cls d x → E cls d H'
  | .bad => False
/-- what a def promises: what its plain run does -/
def spOf (w : Wd) (F : List D → List SO → FO) : Sp := fun vs H Q E => ∃ g st ds, StOk w g H st ∧ Reps w g H vs ds ∧ postF w g H Q E (F ds st)
section
variable {w : Wd} {W : WX} {g0 g : Gh} {H0 H : Hp} {s : S} {σ : L2.St} {Q : VK} {vs : List V} {ds : List D} {φ : FS} {f : Nat}
theorem call_post (h : SR w g0 H0 g s σ H) (r : Reps w g H vs ds) (hp : post w W (RxR w) g0 H0 g H σ Q (callF φ f ds s)) : spOf w (φ f) vs H Q (WE W σ) := by
  refine ⟨g, s.st, ds, h.st, r, ?_⟩
  unfold callF at hp
  cases e : φ f ds s.st with
  | ok rr st =>
    rw [e] at hp
    intro g' H' v k st' rv
    have h2 := h.call k st'
    refine hp g' H' v h2 (k.step h.st) ?_
    cases rr with
    | val d => exact rv
    | own es =>
      obtain ⟨a, rfl, ha, nz, nm, xs, e1, z, rr⟩ := rv
      refine ⟨a, rfl, ⟨h.at0 ha, nz, nm, xs, e1, z, rr⟩, fun i us e2 e3 => ?_⟩
      exact h.freeN ha i us e2 e3
  | err x st =>
    rw [e] at hp
    intro g' H' cls d k st' rv
    exact hp g' H' cls d (h.call k st') (k.step h.st) rv
  | bad => rw [e] at hp; exact hp
end
/-- a def that may be called by a name -/
structure CallOk (P : Program) (wd : World) (K : PySem.W.Frag) (mg : Str → Option Value) (base : Heap) (w : Wd) (k : Nat) (x : Str) (F : List D → List SO → FO) : Prop where
  ex : ∃ (a : Addr) (fd : FuncData) (ps : List Str), mg x = some (.ref a) ∧ PySem.W.keepIn K (.ref a) = true ∧ Binds K fd ps [] ∧ FnOk P wd K mg base (L2.CX P wd) k a fd ps (spOf w F)
def noStar (es : List Expr) : Bool := es.all fun e => match e with
  | .Starred _ _ => false
  | _ => true
theorem noStar_cons {e : Expr} {r : List Expr} {env : Env} (h : noStar (e :: r) = true) : starEach (e :: r) env = (false, eval e env) :: starEach r env ∧ noStar r = true := by
  unfold noStar at h
  rw [List.all_cons, Bool.and_eq_true] at h
  refine ⟨?_, h.2⟩
  cases e <;> first | (exact absurd h.1 Bool.false_ne_true) | rfl
theorem noStar_any {pos : Pos} {env : Env} : ∀ {es : List Expr}, noStar es = true → (backTo pos (starEach es env)).any (·.1) = false
  | [], _ => rfl
  | e :: r, h => by
    obtain ⟨e1, e2⟩ := noStar_cons (env := env) h
    rw [e1]
    have := noStar_any (pos := pos) (env := env) e2
    exact this
section
variable {X : Cx} {w : Wd} {W : WX} {k : Nat} {x : Str} {F : List D → List SO → FO} {es : List Expr} {e : Expr} {t : TA} {p pos : Pos}
theorem pe_callG (c : CallOk X.prog X.w X.K X.mg X.base w k x F) (hr : Room k X.A) (hg : Gl X x) (tk : Takes X W) (ha : PA X (e :: es) t)
    (hdb : (x == ("__debug__" : Str)) = false) (hst : noStar (e :: es) = true) : PE X (.Call (.Name x p) (e :: es) [] pos) (fun σ H Q => t σ H fun vs H1 => spOf w F vs H1 Q (WE W σ)) := by
  obtain ⟨a, fd, ps, hm, hk, hb, FF⟩ := c.ex
  obtain ⟨e1, e2⟩ := noStar_cons (env := X.env) hst
  exact pe_callS FF hr hg hm hk hb (fun σ => passAt tk σ) ha hdb e1 (noStar_any e2)
theorem pe_callG0 (c : CallOk X.prog X.w X.K X.mg X.base w k x F) (hr : Room k X.A) (hg : Gl X x) (tk : Takes X W)
    (hdb : (x == ("__debug__" : Str)) = false) : PE X (.Call (.Name x p) [] [] pos) (fun σ H Q => spOf w F [] H Q (WE W σ)) := by
  obtain ⟨a, fd, ps, hm, hk, hb, FF⟩ := c.ex
  refine ⟨fun pins s σ H Q I h => ?_⟩
  refine wpAny_Call_Name_kw (ld_glob I hg hm ?_ hdb)
  exact PySem.W.callWith_K0 I.kIn hk (run_fnS (E := WE W) (us := []) FF hr hb (passAt tk σ) I .nil h)
end
end PL

/-! a program's expressions against plain ones -/
namespace PL
open PySem PySem.Spec PyProof.Rows L2

/-! ### weaker readings -/
section
variable {X : Cx} {e : Expr} {es : List Expr}
theorem _root_.L2.PE.imp {t t' : TE} (h : PE X e t) (k : ∀ σ H Q, t' σ H Q → t σ H Q) : PE X e t' := ⟨fun pins s σ H Q I q => h.run pins s σ H Q I (k σ H Q q)⟩
theorem _root_.L2.PT.imp {t t' : TT} (h : PT X e t) (k : ∀ σ H Q, t' σ H Q → t σ H Q) : PT X e t' := ⟨fun pins s σ H Q I q => h.run pins s σ H Q I (k σ H Q q)⟩
theorem _root_.L2.PA.imp {t t' : TA} (h : PA X es t) (k : ∀ σ H Q, t' σ H Q → t σ H Q) : PA X es t' := ⟨fun pos pins s σ H Q I q => h.run pos pins s σ H Q I (k σ H Q q)⟩
theorem _root_.L2.PI.imp {tg : Expr} {t t' : TI} (h : PI X tg e t) (k : ∀ σ H R, t' σ H R → t σ H R) : PI X tg e t' := ⟨fun pins s σ H Q I q => h.run pins s σ H Q I (k σ H Q q)⟩
theorem _root_.L2.PO.imp {o : Option Expr} {t t' : TO} (h : PO X o t) (k : ∀ σ H Q, t' σ H Q → t σ H Q) : PO X o t' := ⟨fun pins s σ H Q I q => h.run pins s σ H Q I (k σ H Q q)⟩
theorem _root_.L2.PG.imp {t t' : TG} (h : PG X e t) (k : ∀ v σ H Q, t' v σ H Q → t v σ H Q) : PG X e t' := ⟨fun pins s σ H v u Q I r q => h.run pins s σ H v u Q I r (k v σ H Q q)⟩
theorem _root_.L2.PGs.imp {t t' : TGs} (h : PGs X es t) (k : ∀ v σ H Q, t' v σ H Q → t v σ H Q) : PGs X es t' := ⟨fun pins s σ H v u Q I r q => h.run pins s σ H v u Q I r (k v σ H Q q)⟩
theorem _root_.L2.PS.imp {st : Stmt} {t t' : TS} (h : PS X st t) (k : ∀ D σ H, t' D σ H → t D σ H) : PS X st t' := ⟨fun pins s σ H D I q => h.run pins s σ H D I (k D σ H q)⟩
theorem _root_.L2.PSs.imp {st : List Stmt} {t t' : TS} (h : PSs X st t) (k : ∀ D σ H, t' D σ H → t D σ H) : PSs X st t' := ⟨fun pins s σ H D I q => h.run pins s σ H D I (k D σ H q)⟩
end

/-! ### what a check looks at -/
structure SC where
  N : List Str
  sc : List (Str × NameKind)
  fn : List Str
  gl : List (Str × D)
  bt : List Str
  ct : List (Str × Nat)
def SC.vis (c : SC) (x : Str) : Bool := match c.sc.lookup x with
  | some .local => true
  | some .cell => true
  | some .free => true
  | _ => false
def SC.loc (c : SC) (x : Str) : Bool := match c.sc.lookup x with
  | some .local => true
  | some .cell => c.fn.contains x
  | _ => false
def SC.glo (c : SC) (x : Str) : Bool := (match c.sc.lookup x with
  | some .globalImplicit => true
  | _ => false) && !(x == ("__debug__" : Str))
def SC.at (c : SC) (i : Nat) (x : Str) : Bool := match c.N[i]? with
  | some y => decide (y = x)
  | none => false
def SC.blt (c : SC) (x : Str) : Bool := c.glo x && c.bt.contains x && !(x == ("__name__" : Str))
def relNames (sc : List (Str × NameKind)) (l : List (Str × NameKind)) : List (Str × NameKind) := l.map fun (n, k) => if (k == .free && sc.lookup n == some .cell) then (n, .cell) else (n, k)
def SC.blk (c : SC) (scope : Scope) : SC := { c with sc := relNames c.sc scope.names, fn := (scope.names.filter fun y => scope.names.lookup y.1 == some .cell).map (·.1) }
def scopeOf (l : List (Str × NameKind)) : Scope := { kind := .function, names := l, isGenerator := false, isCoroutine := false }
def conB : D → Const → Bool
  | .non, .none => true
  | .bl a, .bool b => a == b
  | .int i, .int j => decide (i = j)
  | .str x, .str y => decide (x = y) && x.cps.all (· < 0x110000) && decide (x.length ≤ 16777216)
  | _, _ => false
def scalEq : D → D → Bool
  | .int i, .int j => decide (i = j)
  | .str x, .str y => decide (x = y)
  | _, _ => false
def GlR (d : D) (u : Value) : Prop := match d with
  | .int i => ∃ t, u = .int i t
  | .str x => (∃ t, u = .str x t) ∧ okS x
  | _ => False

structure Fits (w : Wd) (φ : FS) (k : Nat) (c : SC) (X : Cx) : Prop where
  K : X.K = w.K
  calm : X.calm = true
  N : X.N = c.N
  nd : X.N.Nodup
  kind : X.env.scope.kind = .function
  sc : X.env.scope.names = c.sc
  fn : ∀ x ∈ c.fn, X.fn x = true
  gl : ∀ p ∈ c.gl, ∃ u, X.mg p.1 = some u ∧ GlR p.2 u
  bt : ∀ x ∈ c.bt, X.mg x = none
  ct : ∀ p ∈ c.ct, CallOk X.prog X.w X.K X.mg X.base w k p.1 (φ p.2)
  room : Room k X.A

section
variable {w : Wd} {φ : FS} {k : Nat} {c : SC} {X : Cx}
theorem Fits.vis (F : Fits w φ k c X) {x : Str} (h : c.vis x = true) : Vis X.env.scope x := by
  unfold SC.vis at h
  unfold Vis
  rw [F.sc]
  split at h <;> first | (exact absurd h Bool.false_ne_true) | skip
  · rename_i e; exact .inl e
  · rename_i e; exact .inr (.inl e)
  · rename_i e; exact .inr (.inr e)
theorem Fits.glo (F : Fits w φ k c X) {x : Str} (h : c.glo x = true) : Gl X x ∧ (x == ("__debug__" : Str)) = false := by
  unfold SC.glo at h
  rw [Bool.and_eq_true] at h
  refine ⟨?_, by simpa using h.2⟩
  unfold Gl Env.kindOf
  rw [F.sc]
  have h1 := h.1
  split at h1
  · assumption
  · exact absurd h1 Bool.false_ne_true
theorem Fits.loc (F : Fits w φ k c X) {x : Str} (h : c.loc x = true) : L2.Loc X.env.scope x ∧ (X.fn x = true ∨ X.env.scope.names.lookup x = some .local) := by
  unfold SC.loc at h
  unfold L2.Loc
  rw [F.sc]
  split at h
  · rename_i e; exact ⟨.inl e, .inr e⟩
  · rename_i e; exact ⟨.inr e, .inl (F.fn x (by simpa using h))⟩
  · exact absurd h Bool.false_ne_true
theorem Fits.at (F : Fits w φ k c X) {i : Nat} {x : Str} (h : c.at i x = true) : X.N[i]? = some x := by
  unfold SC.at at h
  rw [F.N]
  split at h
  · rename_i y e
    rw [e, of_decide_eq_true h]
  · exact absurd h Bool.false_ne_true
theorem Fits.blt (F : Fits w φ k c X) {x : Str} (h : c.blt x = true) : Gl X x ∧ X.mg x = none ∧ (x == ("__debug__" : Str)) = false ∧ x ≠ "__name__" := by
  unfold SC.blt at h
  rw [Bool.and_eq_true, Bool.and_eq_true] at h
  obtain ⟨⟨h1, h2⟩, h3⟩ := h
  obtain ⟨a, b⟩ := F.glo h1
  exact ⟨a, F.bt x (by simpa using h2), b, by simpa using h3⟩
theorem Fits.units (F : Fits w φ k c X) : X.A.units + EQD < cLine := by
  have := F.room.un
  unfold EQD
  omega
theorem relabel_names {X : Cx} (hk : X.env.scope.kind = .function) (scope : Scope) : (relabel scope X.env).names = relNames X.env.scope.names scope.names := by
  unfold relabel relNames Env.kindOf
  simp only [hk]
  refine List.map_congr_left fun ⟨n, kk⟩ _ => ?_
  simp
theorem Fits.blk (F : Fits w φ k c X) {scope : Scope} {s : Shared} {H : Hp} {C : Addr} {cl : List (Str × Addr)} {fp : List Addr} (hk : scope.kind = .function) : Fits w φ k (c.blk scope) (X.blk s H scope (compEnvC scope cl C X.env) fp) where
  K := F.K
  calm := F.calm
  N := F.N
  nd := F.nd
  kind := hk
  sc := by
    show (relabel scope X.env).names = _
    rw [relabel_names F.kind, F.sc]; rfl
  fn := fun x hx => by
    obtain ⟨y, hy, rfl⟩ := List.mem_map.mp hx
    obtain ⟨h1, h2⟩ := List.mem_filter.mp hy
    exact h2
  gl := F.gl
  bt := F.bt
  ct := F.ct
  room := F.room
end
end PL

/-! each form of an expression -/
namespace PL
open PySem PySem.Spec PyProof.Rows L2

abbrev rdE (w : Wd) (W : WX) (f : S → Out Rx) : TE := rd w W (RxR w) f
abbrev rdT (w : Wd) (W : WX) (f : S → Out Bool) : TT := rd w W RbR f
abbrev rdEs (w : Wd) (W : WX) (f : S → Out (List D)) : TA := rd w W (RsR w) f
abbrev rdI (w : Wd) (W : WX) (f : S → Out (List D)) : TI := rd w W (RitR w) f
/-- operands one after the other -/
def RosR (w : Wd) : RR (List V) (List Rx) := fun _ g s σ H vs rs => Paired (fun v r => RxP w g σ H v r) vs rs
abbrev rdOs (w : Wd) (W : WX) (f : S → Out (List Rx)) : TA := rd w W (RosR w) f
abbrev rdO (w : Wd) (W : WX) (f : S → Out (Option Int)) : TO := rd w W RiR f
abbrev tru1 (f : S → Out Rx) : S → Out Bool := fun s => (f s).bind fun x s => x.tru s

section
variable {w : Wd} {W : WX} {g0 g : Gh} {H0 H : Hp} {s : S} {σ : L2.St} {v u : V}
theorem bind_assoc {α β γ : Type} (o : Out α) (f : α → S → Out β) (g : β → S → Out γ) : (o.bind f).bind g = o.bind fun a s => (f a s).bind g := by cases o <;> rfl
/-- from a value kept to the next expression -/
theorem pend' {r : Rx} {α β : Type} {R : RR β α} {Q : β → Hp → Prop} {o : Out α} (h : SR w g0 H0 g s σ H) (hr : RxR w H0 g s σ H v r) (hp : post w W R g0 H0 g H σ Q o) :
    ∃ g', SR w g0 H0 g' s σ H ∧ RxP w g' σ H v r ∧ post w W R g0 H0 g' H σ Q o := by
  obtain ⟨g', h1, k1, r1⟩ := pend h hr
  exact ⟨g', h1, r1, post_from k1 hp⟩
theorem RxR.toC {r : Rx} {d : D} (h : SR w g0 H0 g s σ H) (hr : RxR w H0 g s σ H v r) (e : r.res s = some d) : RepC w g H v d := by
  cases r with
  | val d' => cases e; exact .inl hr
  | own ds =>
    cases e
    obtain ⟨a, rfl, ⟨_, _, _, xs, e1, z, r1⟩, _⟩ := hr
    exact .inr ⟨a, xs, ds, rfl, rfl, e1, z, r1⟩
  | ref i => exact RxP.res (r := .ref i) h hr.1 e
theorem tru_bind {r : Rx} {γ δ : Type} {R' : RR δ γ} {Q : δ → Hp → Prop} {kk : Bool → S → Out γ} (h : SR w g0 H0 g s σ H) (hr : RxR w H0 g s σ H v r) (hp : post w W R' g0 H0 g H σ Q ((r.tru s).bind kk)) :
    ∃ b, TruV w.K v H b ∧ post w W R' g0 H0 g H σ Q (kk b s) := by
  unfold Rx.tru at hp
  split at hp
  · rename_i d e
    cases q : d.truth s.st with
    | none => rw [q] at hp; exact hp.elim
    | some b =>
      rw [q] at hp
      exact ⟨b, tru_rep h (RxR.toC h hr e) q, hp⟩
  · exact hp.elim
theorem tru_post {r : Rx} {Q : Bool → Hp → Prop} (h : SR w g0 H0 g s σ H) (hr : RxR w H0 g s σ H v r) (hp : post w W RbR g0 H0 g H σ Q (r.tru s)) : ∃ k, TruV w.K v H k ∧ Q k H := by
  have e : r.tru s = (r.tru s).bind fun b s => .ok b s := by cases r.tru s <;> rfl
  rw [e] at hp
  obtain ⟨b, t, hp⟩ := tru_bind h hr hp
  exact ⟨b, t, hp g H b h (Step.refl _ _) rfl⟩
theorem Paired.stepP {g' : Gh} {H' : Hp} (k : Step g H g' H') : ∀ {vs : List V} {rs : List Rx}, Paired (fun v r => RxP w g σ H v r) vs rs → Paired (fun v r => RxP w g' σ H' v r) vs rs
  | _, _, .nil => .nil
  | _, _, .cons h r => .cons (h.step k) (Paired.stepP k r)
theorem resAll_rep (h : SR w g0 H0 g s σ H) : ∀ {vs : List V} {rs : List Rx} {ds : List D}, Paired (fun v r => RxP w g σ H v r) vs rs → resAll rs s = some ds → RepCs w g H vs ds
  | _, _, _, .nil, e => by cases e; trivial
  | _, _, _, .cons (l₁ := vs) (l₂ := rs) (b := r) q t, e => by
    simp only [resAll] at e
    split at e
    · rename_i d ds e1 e2
      cases e
      exact ⟨q.res h e1, resAll_rep h t e2⟩
    · cases e
end

section
variable {X : Cx} {w : Wd} {W : WX} {φ : FS} {k : Nat} {c : SC} {a b d : IE} {es : IEs} {l r m e : Expr} {xs : List Expr} {pos : Pos}
theorem L_bin (F : Fits w φ k c X) {op : Operator} (ha : PE X l (rdE w W (evalE φ a))) (hb : PE X r (rdE w W (evalE φ b))) : PE X (.BinOp l op r pos) (rdE w W (evalE φ (.bin op a b))) := by
  refine (pe_op (bin_ok (W := W) F.K op) ha hb).imp fun σ H Q ⟨g0, H0, g, s, h, hp⟩ => ?_
  refine ⟨g0, H0, g, s, h, post_bind hp fun ra s1 g1 H1 x h1 k1 r1 hp1 => ?_⟩
  obtain ⟨g1, h1, r1, hp1⟩ := pend' h1 r1 hp1
  refine ⟨g0, H0, g1, s1, h1, post_bind hp1 fun rb s2 g2 H2 y h2 k2 r2 hp2 => ?_⟩
  obtain ⟨g3, h3, k3, r3⟩ := pend h2 r2
  obtain ⟨da, db, q1, q2, q3⟩ := op2_post h3 ((r1.step k2).step k3) r3 (post_from k3 hp2)
  exact ⟨g0, H0, g3, s2, σ, da, db, h3, q1, q2, q3⟩
theorem L_cmp (F : Fits w φ k c X) {op : CmpOp} (ha : PE X l (rdE w W (evalE φ a))) (hb : PE X r (rdE w W (evalE φ b))) (hm : behindInMarks op r = false) :
    PE X (.Compare l [op] [r] pos) (rdE w W (evalE φ (.cmp op a b))) ∧ PT X (.Compare l [op] [r] pos) (rdT w W (tru1 (evalE φ (.cmp op a b)))) := by
  constructor
  · refine (pe_cmpR (cmp_ok (W := W) F.K F.units op) ha hb hm).imp fun σ H Q ⟨g0, H0, g, s, h, hp⟩ => ?_
    refine ⟨g0, H0, g, s, h, post_bind hp fun ra s1 g1 H1 x h1 k1 r1 hp1 => ?_⟩
    obtain ⟨g1, h1, r1, hp1⟩ := pend' h1 r1 hp1
    refine ⟨g0, H0, g1, s1, h1, post_bind hp1 fun rb s2 g2 H2 y h2 k2 r2 hp2 => ?_⟩
    obtain ⟨g3, h3, k3, r3⟩ := pend h2 r2
    obtain ⟨da, db, q1, q2, q3⟩ := op2_post h3 ((r1.step k2).step k3) r3 (post_from k3 hp2)
    exact ⟨g0, H0, g3, s2, σ, da, db, h3, q1, q2, q3⟩
  · refine (pt_cmpR (cmp_ok (W := W) F.K F.units op) ha hb hm).imp fun σ H Q ⟨g0, H0, g, s, h, hp⟩ => ?_
    have hp : post w W RbR g0 H0 g H σ Q ((evalE φ a s).bind fun x s => (evalE φ b s).bind fun y s => (op2 (fun a b => (cmpD op a b).map fun k => .val (.bl k)) x y s).bind fun x s => x.tru s) := by
      have e : ∀ {α β γ : Type} (o : Out α) (f : α → S → Out β) (g : β → S → Out γ), (o.bind f).bind g = o.bind fun a s => (f a s).bind g := by
        intro α β γ o f g; cases o <;> rfl
      simp only [tru1, evalE, e] at hp
      exact hp
    refine ⟨g0, H0, g, s, h, post_bind hp fun ra s1 g1 H1 x h1 k1 r1 hp1 => ?_⟩
    obtain ⟨g1, h1, r1, hp1⟩ := pend' h1 r1 hp1
    refine ⟨g0, H0, g1, s1, h1, post_bind hp1 fun rb s2 g2 H2 y h2 k2 r2 hp2 => ?_⟩
    obtain ⟨g3, h3, k3, r3⟩ := pend h2 r2
    have hp3 := post_from k3 hp2
    unfold op2 at hp3
    split at hp3
    · rename_i da db e1 e2
      refine ⟨g0, H0, g3, s2, σ, da, db, h3, RxP.res h3 ((r1.step k2).step k3) e1, r3.res h3 e2, ?_⟩
      cases q : cmpD op da db with
      | none => simp only [q, Option.map_none, ofV] at hp3; exact hp3.elim
      | some kk =>
        simp only [q, Option.map_some, ofV] at hp3 ⊢
        intro g' H' x' h' k' r'
        cases r'
        exact ⟨kk, rfl, hp3 g' H' kk h' k' rfl⟩
    · exact hp3.elim
theorem L_neg (ha : PE X l (rdE w W (evalE φ a))) : PE X (.UnaryOp .USub l pos) (rdE w W (evalE φ (.neg a))) := by
  refine (pe_un (neg_ok (W := W) (w := w)) ha).imp fun σ H Q ⟨g0, H0, g, s, h, hp⟩ => ?_
  refine ⟨g0, H0, g, s, h, post_bind hp fun ra s1 g1 H1 x h1 k1 r1 hp1 => ?_⟩
  obtain ⟨g1, h1, r1, hp1⟩ := pend' h1 r1 hp1
  obtain ⟨da, q1, q2⟩ := op1_post h1 r1 hp1
  exact ⟨g0, H0, g1, s1, σ, da, h1, q1, q2⟩
theorem L_not (F : Fits w φ k c X) (ha : PE X l (rdE w W (evalE φ a))) (ht : PT X l (rdT w W (tru1 (evalE φ a)))) :
    PE X (.UnaryOp .Not l pos) (rdE w W (evalE φ (.not a))) ∧ PT X (.UnaryOp .Not l pos) (rdT w W (tru1 (evalE φ (.not a)))) := by
  constructor
  · refine (pe_notT ha).imp fun σ H Q ⟨g0, H0, g, s, h, hp⟩ => ?_
    rw [F.K]
    refine ⟨g0, H0, g, s, h, post_bind hp fun ra s1 g1 H1 x h1 k1 r1 hp1 => ?_⟩
    have hp2 : post w W RbR g0 H0 g1 H1 σ (fun k H2 => Q (.bl (!k)) H2) (ra.tru s1) := by
      refine post_bind hp1 fun kk s2 g2 H2 b' h2 k2 r2 hp3 => ?_
      cases r2
      exact hp3 g2 H2 _ h2 (Step.refl _ _) (.bl _)
    exact tru_post h1 r1 hp2
  · refine (pt_not ht).imp fun σ H Q ⟨g0, H0, g, s, h, hp⟩ => ?_
    refine ⟨g0, H0, g, s, h, ?_⟩
    have e : ∀ {α β γ : Type} (o : Out α) (f : α → S → Out β) (g : β → S → Out γ), (o.bind f).bind g = o.bind fun a s => (f a s).bind g := by
      intro α β γ o f g; cases o <;> rfl
    have hp : post w W RbR g0 H0 g H σ Q ((tru1 (evalE φ a) s).bind fun k s => Rx.tru (.val (.bl (!k))) s) := by
      simp only [tru1, evalE, e] at hp ⊢
      exact hp
    refine post_bind hp fun kk s2 g2 H2 b' h2 k2 r2 hp3 => ?_
    cases r2
    exact hp3 g2 H2 _ h2 (Step.refl _ _) rfl
/-- a value's test where it has no test of its own -/
theorem L_tru (F : Fits w φ k c X) {f : S → Out Rx} (ha : PE X l (rdE w W f)) (he : ∀ whole, isTrue l X.env whole = (do let v ← whole; standAt l.pos; holding [v] (truthy v))) : PT X l (rdT w W (tru1 f)) := by
  refine (pt_truth ha he).imp fun σ H Q ⟨g0, H0, g, s, h, hp⟩ => ?_
  rw [F.K]
  refine ⟨g0, H0, g, s, h, post_bind hp fun ra s1 g1 H1 x h1 k1 r1 hp1 => ?_⟩
  exact tru_post h1 r1 hp1
theorem L_and (F : Fits w φ k c X) {y : Expr} {rest : List Expr} (ha : PE X l (rdE w W (evalE φ a))) (hb : PE X (.BoolOp .And (y :: rest) pos) (rdE w W (evalE φ b))) :
    PE X (.BoolOp .And (l :: y :: rest) pos) (rdE w W (evalE φ (.and a b))) := by
  refine (pe_andT ha hb).imp fun σ H Q ⟨g0, H0, g, s, h, hp⟩ => ?_
  rw [F.K]
  refine ⟨g0, H0, g, s, h, post_bind hp fun ra s1 g1 H1 x h1 k1 r1 hp1 => ?_⟩
  obtain ⟨b', t3, hp3⟩ := tru_bind h1 r1 hp1
  refine ⟨b', t3, ?_⟩
  cases b' with
  | true => exact ⟨g0, H0, g1, s1, h1, hp3⟩
  | false => exact hp3 g1 H1 x h1 (Step.refl _ _) r1
theorem L_or (F : Fits w φ k c X) {y : Expr} {rest : List Expr} (ha : PE X l (rdE w W (evalE φ a))) (hb : PE X (.BoolOp .Or (y :: rest) pos) (rdE w W (evalE φ b))) :
    PE X (.BoolOp .Or (l :: y :: rest) pos) (rdE w W (evalE φ (.or a b))) := by
  refine (pe_orT ha hb).imp fun σ H Q ⟨g0, H0, g, s, h, hp⟩ => ?_
  rw [F.K]
  refine ⟨g0, H0, g, s, h, post_bind hp fun ra s1 g1 H1 x h1 k1 r1 hp1 => ?_⟩
  obtain ⟨b', t3, hp3⟩ := tru_bind h1 r1 hp1
  refine ⟨b', t3, ?_⟩
  cases b' with
  | false => exact ⟨g0, H0, g1, s1, h1, hp3⟩
  | true => exact hp3 g1 H1 x h1 (Step.refl _ _) r1
theorem tru_st {r : Rx} {s s' : S} {b : Bool} (h : r.tru s = .ok b s') : s' = s := by
  unfold Rx.tru at h
  split at h
  · rename_i d _
    cases q : d.truth s.st with
    | none => rw [q] at h; cases h
    | some k => rw [q] at h; cases h; rfl
  · cases h
theorem tru_and (s : S) : tru1 (evalE φ (.and a b)) s = (tru1 (evalE φ a) s).bind fun k s => if k then tru1 (evalE φ b) s else .ok false s := by
  simp only [tru1, evalE, bind_assoc]
  cases evalE φ a s with
  | err => rfl
  | bad => rfl
  | ok x s1 =>
    show ((x.tru s1).bind fun k s => (if k = true then evalE φ b s else .ok x s).bind fun x s => x.tru s) = (x.tru s1).bind fun k s => if k = true then (evalE φ b s).bind (fun x s => x.tru s) else .ok false s
    cases q : x.tru s1 with
    | err => rfl
    | bad => rfl
    | ok k s2 =>
      have e := tru_st q
      subst e
      cases k with
      | true => rfl
      | false => exact q
theorem tru_or (s : S) : tru1 (evalE φ (.or a b)) s = (tru1 (evalE φ a) s).bind fun k s => if k then .ok true s else tru1 (evalE φ b) s := by
  simp only [tru1, evalE, bind_assoc]
  cases evalE φ a s with
  | err => rfl
  | bad => rfl
  | ok x s1 =>
    show ((x.tru s1).bind fun k s => (if k = true then .ok x s else evalE φ b s).bind fun x s => x.tru s) = (x.tru s1).bind fun k s => if k = true then .ok true s else (evalE φ b s).bind (fun x s => x.tru s)
    cases q : x.tru s1 with
    | err => rfl
    | bad => rfl
    | ok k s2 =>
      have e := tru_st q
      subst e
      cases k with
      | false => rfl
      | true => exact q
theorem L_andT {y : Expr} {rest : List Expr} (ha : PT X l (rdT w W (tru1 (evalE φ a)))) (hb : PW X (.BoolOp .And (y :: rest) pos) (rdT w W (tru1 (evalE φ b)))) :
    PT X (.BoolOp .And (l :: y :: rest) pos) (rdT w W (tru1 (evalE φ (.and a b)))) := by
  refine (PW.pt (pw_and ha hb)).imp fun σ H Q ⟨g0, H0, g, s, h, hp⟩ => ?_
  rw [tru_and] at hp
  refine ⟨g0, H0, g, s, h, post_bind hp fun kk s1 g1 H1 x h1 k1 r1 hp1 => ?_⟩
  cases r1
  cases kk with
  | true => exact ⟨g0, H0, g1, s1, h1, hp1⟩
  | false => exact hp1 g1 H1 false h1 (Step.refl _ _) rfl
theorem L_orT {y : Expr} {rest : List Expr} (ha : PT X l (rdT w W (tru1 (evalE φ a)))) (hb : PW X (.BoolOp .Or (y :: rest) pos) (rdT w W (tru1 (evalE φ b)))) :
    PT X (.BoolOp .Or (l :: y :: rest) pos) (rdT w W (tru1 (evalE φ (.or a b)))) := by
  refine (PW.pt (pw_or ha hb)).imp fun σ H Q ⟨g0, H0, g, s, h, hp⟩ => ?_
  rw [tru_or] at hp
  refine ⟨g0, H0, g, s, h, post_bind hp fun kk s1 g1 H1 x h1 k1 r1 hp1 => ?_⟩
  cases r1
  cases kk with
  | false => exact ⟨g0, H0, g1, s1, h1, hp1⟩
  | true => exact hp1 g1 H1 true h1 (Step.refl _ _) rfl
/-- a test of and, or is one whatever its whole -/
theorem PW.of {op : BoolOp} {es : List Expr} {t : TT} (h : PT X (.BoolOp op es pos) t) : PW X (.BoolOp op es pos) t := ⟨fun _ => h.run⟩
/-- a comparison's value as a test -/
theorem L_chain (F : Fits w φ k c X) {op op' : CmpOp} (ha : PE X l (rdE w W (evalE φ a))) (hb : PE X m (rdE w W (evalE φ b))) (hd : PE X r (rdE w W (evalE φ d))) (hm : lastMarks [op, op'] [m, r] = false) :
    PE X (.Compare l [op, op'] [m, r] pos) (rdE w W (evalE φ (.chain op op' a b d))) ∧ PT X (.Compare l [op, op'] [m, r] pos) (rdT w W (tru1 (evalE φ (.chain op op' a b d)))) := by
  have core : ∀ {γ δ : Type} {R : RR δ γ} {Q : δ → Hp → Prop} {Q' : V → Hp → Prop} {kf : Rx → S → Out γ} {σ : L2.St} {H : Hp} {g0 : Gh} {H0 : Hp} {g : Gh} {s : S}, SR w g0 H0 g s σ H →
      post w W R g0 H0 g H σ Q ((evalE φ (.chain op op' a b d) s).bind kf) →
      (∀ kk s1 g1 H1, SR w g0 H0 g1 s1 σ H1 → Step g H g1 H1 → post w W R g0 H0 g1 H1 σ Q (kf (.val (.bl kk)) s1) → Q' (.bl kk) H1) →
      tChain (rOp w W fun a b => (cmpD op a b).map fun k => .val (.bl k)) (rOp w W fun a b => (cmpD op' a b).map fun k => .val (.bl k)) (rdE w W (evalE φ a)) (rdE w W (evalE φ b)) (rdE w W (evalE φ d)) σ H Q' := by
    intro γ δ R Q Q' kf σ H g0 H0 g s h hp hk
    simp only [evalE, bind_assoc] at hp
    refine ⟨g0, H0, g, s, h, post_bind hp fun ra s1 g1 H1 x h1 k1 r1 hp1 => ?_⟩
    obtain ⟨g1', h1', k1', r1'⟩ := pend h1 r1
    refine ⟨g0, H0, g1', s1, h1', post_bind (post_from k1' hp1) fun rb s2 g2 H2 y h2 k2 r2 hp2 => ?_⟩
    obtain ⟨db, s3, g3, h3, k3, r3, hp3⟩ := frz_post h2 r2 hp2
    have k13 : Step g H g3 H2 := ((k1.trans k1').trans k2).trans k3
    split at hp3
    · rename_i da e1
      have ca : RepC w g3 H2 x da := RxP.res h3 ((r1'.step k2).step k3) e1
      refine ⟨g0, H0, g3, s3, σ, da, db, h3, ca, .inl r3, ?_⟩
      split at hp3
      · rename_i e2
        simp only [e2, Option.map_some, ofV]
        intro g4 H4 z h4 k4 r4
        cases r4
        refine ⟨true, rfl, ?_⟩
        rw [if_pos rfl]
        rw [bind_assoc] at hp3
        refine ⟨g0, H0, g4, s3, h4, post_bind (post_from k4 hp3) fun rd' s5 g5 H5 z h5 k5 r5 hp5 => ?_⟩
        obtain ⟨g6, h6, k6, r6⟩ := pend h5 r5
        have hp6 := post_from k6 hp5
        unfold op2 at hp6
        split at hp6
        · rename_i db' dd e3 e4
          cases e3
          refine ⟨g0, H0, g6, s5, σ, db, dd, h6, .inl (((r3.step k4).step k5).step k6), r6.res h6 e4, ?_⟩
          cases q : cmpD op' db dd with
          | none => simp only [q, Option.map_none, ofV] at hp6; exact hp6.elim
          | some kk =>
            simp only [q, Option.map_some, ofV] at hp6 ⊢
            intro g' H' x' h' k' r'
            cases r'
            exact hk kk s5 g' H' h' ((((k13.trans k4).trans k5).trans k6).trans k') (post_from k' hp6)
        · exact hp6.elim
      · rename_i e2
        simp only [e2, Option.map_some, ofV]
        intro g4 H4 z h4 k4 r4
        cases r4
        refine ⟨false, rfl, ?_⟩
        rw [if_neg Bool.false_ne_true]
        exact hk false s3 g4 H4 h4 (k13.trans k4) (post_from k4 hp3)
      · exact hp3.elim
    · exact hp3.elim
  constructor
  · refine (pe_chain (cmp_ok (W := W) F.K F.units op) (cmp_ok (W := W) F.K F.units op') ha hb hd hm).imp fun σ H Q ⟨g0, H0, g, s, h, hp⟩ => ?_
    refine core (R := RxR w) (Q := Q) (kf := fun x s => .ok x s) h ?_ fun kk s1 g1 H1 h1 k1 hp1 => hp1 g1 H1 _ h1 (Step.refl _ _) (.bl kk)
    have e : (evalE φ (.chain op op' a b d) s).bind (fun x s => .ok x s) = evalE φ (.chain op op' a b d) s := by cases evalE φ (.chain op op' a b d) s <;> rfl
    rw [e]; exact hp
  · refine (pt_chain (cmp_ok (W := W) F.K F.units op) (cmp_ok (W := W) F.K F.units op') ha hb hd hm).imp fun σ H Q ⟨g0, H0, g, s, h, hp⟩ => ?_
    exact core (R := RbR) (Q := Q) (kf := fun x s => x.tru s) h hp fun kk s1 g1 H1 h1 k1 hp1 => ⟨kk, rfl, hp1 g1 H1 kk h1 (Step.refl _ _) rfl⟩
theorem L_ite (F : Fits w φ k c X) (ha : PT X l (rdT w W (tru1 (evalE φ a)))) (hb : PE X m (rdE w W (evalE φ b))) (hd : PE X r (rdE w W (evalE φ d))) : PE X (.IfExp l m r pos) (rdE w W (evalE φ (.ite a b d))) := by
  refine (pe_ifExp ha hb hd).imp fun σ H Q ⟨g0, H0, g, s, h, hp⟩ => ?_
  have hp : post w W (RxR w) g0 H0 g H σ Q ((tru1 (evalE φ a) s).bind fun k s => if k then evalE φ b s else evalE φ d s) := by
    simp only [tru1, bind_assoc]; exact hp
  refine ⟨g0, H0, g, s, h, post_bind hp fun kk s1 g1 H1 x h1 k1 r1 hp1 => ?_⟩
  cases r1
  cases kk with
  | true => exact ⟨g0, H0, g1, s1, h1, hp1⟩
  | false => exact ⟨g0, H0, g1, s1, h1, hp1⟩

/-! ### argument lists, displays -/
theorem L_nil : PA X [] (rdEs w W (evalEs φ .nil)) := pa_nil.imp fun σ H Q ⟨g0, H0, g, s, h, hp⟩ => hp g H [] h (Step.refl _ _) .nil
theorem L_cons (ha : PE X l (rdE w W (evalE φ a))) (hr : PA X xs (rdEs w W (evalEs φ es))) (hs : starEach (l :: xs) X.env = (false, eval l X.env) :: starEach xs X.env) : PA X (l :: xs) (rdEs w W (evalEs φ (.cons a es))) := by
  refine (pa_cons ha hr hs).imp fun σ H Q ⟨g0, H0, g, s, h, hp⟩ => ?_
  refine ⟨g0, H0, g, s, h, post_bind hp fun ra s1 g1 H1 x h1 k1 r1 hp1 => ?_⟩
  obtain ⟨da, s2, g2, h2, k2, r2, hp2⟩ := frz_post h1 r1 hp1
  refine ⟨g0, H0, g2, s2, h2, post_bind hp2 fun ds s3 g3 H3 vs h3 k3 r3 hp3 => ?_⟩
  exact hp3 g3 H3 (x :: vs) h3 (Step.refl _ _) (.cons (r2.step k3) r3)
theorem L_nilO : PA X [] (rdOs w W (evalOs φ .nil)) := pa_nil.imp fun σ H Q ⟨g0, H0, g, s, h, hp⟩ => hp g H [] h (Step.refl _ _) .nil
theorem L_consO (ha : PE X l (rdE w W (evalE φ a))) (hr : PA X xs (rdOs w W (evalOs φ es))) (hs : starEach (l :: xs) X.env = (false, eval l X.env) :: starEach xs X.env) : PA X (l :: xs) (rdOs w W (evalOs φ (.cons a es))) := by
  refine (pa_cons ha hr hs).imp fun σ H Q ⟨g0, H0, g, s, h, hp⟩ => ?_
  refine ⟨g0, H0, g, s, h, post_bind hp fun ra s1 g1 H1 x h1 k1 r1 hp1 => ?_⟩
  obtain ⟨g2, h2, r2, hp2⟩ := pend' h1 r1 hp1
  refine ⟨g0, H0, g2, s1, h2, post_bind hp2 fun ds s3 g3 H3 vs h3 k3 r3 hp3 => ?_⟩
  exact hp3 g3 H3 (x :: vs) h3 (Step.refl _ _) (.cons (r2.step k3) r3)
def IEs.len : IEs → Nat
  | .nil => 0
  | .cons _ r => r.len + 1
theorem evalEs_len : ∀ (es : IEs) (s s' : S) (ds : List D), evalEs φ es s = .ok ds s' → ds.length = es.len
  | .nil, s, s', ds, e => by cases e; rfl
  | .cons a r, s, s', ds, e => by
    simp only [evalEs] at e
    cases q : evalE φ a s with
    | err => rw [q] at e; cases e
    | bad => rw [q] at e; cases e
    | ok x s1 =>
      rw [q] at e
      change (x.frz s1).bind _ = _ at e
      cases q2 : x.frz s1 with
      | err => rw [q2] at e; cases e
      | bad => rw [q2] at e; cases e
      | ok y s2 =>
        rw [q2] at e
        change (evalEs φ r s2).bind _ = _ at e
        cases q3 : evalEs φ r s2 with
        | err => rw [q3] at e; cases e
        | bad => rw [q3] at e; cases e
        | ok zs s3 =>
          rw [q3] at e
          cases e
          rw [List.length_cons, evalEs_len r s2 _ zs q3, IEs.len]
theorem post_eq {α β γ δ : Type} {R : RR β α} {R' : RR δ γ} {g0 g : Gh} {H0 H : Hp} {σ : L2.St} {Q : δ → Hp → Prop} {Q1 : β → Hp → Prop} {o : Out α} {kf : α → S → Out γ} (h : post w W R' g0 H0 g H σ Q (o.bind kf))
    (hk : ∀ a s1 g1 H1 x, o = .ok a s1 → SR w g0 H0 g1 s1 σ H1 → Step g H g1 H1 → R H0 g1 s1 σ H1 x a → post w W R' g0 H0 g1 H1 σ Q (kf a s1) → Q1 x H1) : post w W R g0 H0 g H σ Q1 o := by
  cases o with
  | ok a s' => exact fun g' H' x h1 k1 r => hk a s' g' H' x rfl h1 k1 r (post_from k1 h)
  | err x s' => exact h
  | bad => exact h
theorem L_tup {j : Nat} (ha : PA X xs (rdEs w W (evalEs φ es))) (hz : es.len ≤ 1000) : PE X (.Tuple xs j pos) (rdE w W (evalE φ (.tup es))) := by
  refine (pe_tup ha).imp fun σ H Q ⟨g0, H0, g, s, h, hp⟩ => ?_
  refine ⟨g0, H0, g, s, h, post_eq hp fun ds s1 g1 H1 vs e h1 k1 r1 hp1 => ?_⟩
  have z : vs.length ≤ sizeLine := by rw [r1.length, evalEs_len es s s1 ds e, sizeLine_eq]; omega
  exact ⟨z, fun p hp' => fin_tup h1 hp1 z r1 hp'⟩
theorem L_lst (ha : PA X xs (rdEs w W (evalEs φ es))) (hz : es.len ≤ 1000) : PE X (.List xs pos) (rdE w W (evalE φ (.lst es))) := by
  refine (pe_lst ha).imp fun σ H Q ⟨g0, H0, g, s, h, hp⟩ => ?_
  refine ⟨g0, H0, g, s, h, post_eq hp fun ds s1 g1 H1 vs e h1 k1 r1 hp1 => ?_⟩
  have z : vs.length ≤ sizeLine := by rw [r1.length, evalEs_len es s s1 ds e, sizeLine_eq]; omega
  exact ⟨z, fun p hp' => fin_own h1 hp1 z r1 hp'⟩
theorem L_lstM (ha : PA X xs (rdEs w W (evalEs φ es))) (hz : es.len ≤ 1000) : PE X (.List xs pos) (rdE w W (evalE φ (.lstM es))) := by
  refine (pe_lst ha).imp fun σ H Q ⟨g0, H0, g, s, h, hp⟩ => ?_
  refine ⟨g0, H0, g, s, h, post_eq hp fun ds s1 g1 H1 vs e h1 k1 r1 hp1 => ?_⟩
  have z : vs.length ≤ sizeLine := by rw [r1.length, evalEs_len es s s1 ds e, sizeLine_eq]; omega
  refine ⟨z, fun p hp' => ?_⟩
  obtain ⟨h2, k2, r2⟩ := h1.push (o := .lst ds) (u := .lst vs) hp' (fun k2 => ⟨vs, upd_same, z, r1.step k2⟩)
  exact hp1 _ _ _ h2 k2 r2

/-! ### items, slices -/
theorem L_idx (F : Fits w φ k c X) (ha : PE X l (rdE w W (evalE φ a))) (hb : PE X r (rdE w W (evalE φ b))) (hs : PlainIx r) : PE X (.Subscript l r pos) (rdE w W (evalE φ (.idx a b))) := by
  refine (pe_ix (idx_ok (W := W) F.K) ha hb hs).imp fun σ H Q ⟨g0, H0, g, s, h, hp⟩ => ?_
  refine ⟨g0, H0, g, s, h, post_bind hp fun ra s1 g1 H1 x h1 k1 r1 hp1 => ?_⟩
  obtain ⟨g1, h1, r1, hp1⟩ := pend' h1 r1 hp1
  refine ⟨g0, H0, g1, s1, h1, post_bind hp1 fun rb s2 g2 H2 y h2 k2 r2 hp2 => ?_⟩
  obtain ⟨g3, h3, k3, r3⟩ := pend h2 r2
  obtain ⟨da, db, q1, q2, q3⟩ := op2_post h3 ((r1.step k2).step k3) r3 (post_from k3 hp2)
  exact ⟨g0, H0, g3, s2, σ, da, db, h3, q1, q2, q3⟩
theorem L_slc (F : Fits w φ k c X) {lo hi : OE} {el eh : Option Expr} {p2 : Pos} (ha : PE X l (rdE w W (evalE φ a))) (hl : PO X el (rdO w W (evalOE φ lo))) (hh : PO X eh (rdO w W (evalOE φ hi))) :
    PE X (.Subscript l (.Slice el eh none p2) pos) (rdE w W (evalE φ (.slc a lo hi))) := by
  refine (pe_slice (slc_ok (W := W) F.K) ha hl hh).imp fun σ H Q ⟨g0, H0, g, s, h, hp⟩ => ?_
  refine ⟨g0, H0, g, s, h, post_bind hp fun ra s1 g1 H1 x h1 k1 r1 hp1 => ?_⟩
  obtain ⟨g1, h1, r1, hp1⟩ := pend' h1 r1 hp1
  refine ⟨g0, H0, g1, s1, h1, post_bind hp1 fun ol s2 g2 H2 ll h2 k2 r2 hp2 => ?_⟩
  cases r2
  refine ⟨g0, H0, g2, s2, h2, post_bind hp2 fun oh s3 g3 H3 uu h3 k3 r3 hp3 => ?_⟩
  cases r3
  obtain ⟨da, q1, q2⟩ := op1_post h3 ((r1.step k2).step k3) hp3
  exact ⟨g0, H0, g3, s3, σ, da, h3, q1, q2⟩
theorem L_no : PO X none (rdO w W (evalOE φ .no)) := po_none.imp fun σ H Q ⟨g0, H0, g, s, h, hp⟩ => hp g H none h (Step.refl _ _) rfl
theorem L_some (ha : PE X l (rdE w W (evalE φ a))) : PO X (some l) (rdO w W (evalOE φ (.some a))) := by
  refine (po_some ha).imp fun σ H Q ⟨g0, H0, g, s, h, hp⟩ => ?_
  refine ⟨g0, H0, g, s, h, post_bind hp fun ra s1 g1 H1 x h1 k1 r1 hp1 => ?_⟩
  split at hp1
  · cases r1
    exact ⟨_, rfl, hp1 g1 H1 _ h1 (Step.refl _ _) rfl⟩
  · exact hp1.elim

/-! ### built-ins by their names, methods -/
theorem L_bltB (F : Fits w φ k c X) {x : Str} {id : String} {bl : Blt} {p : Pos} (hc : CallR X (.builtin id) (rBlt w W fun s => bltD s.st bl)) (hx : c.blt x = true) (hv : bootBuiltins x = some (.builtin id))
    (ha : PA X (l :: xs) (rdOs w W (evalOs φ es))) (hst : noStar (l :: xs) = true) : PE X (.Call (.Name x p) (l :: xs) [] pos) (rdE w W (evalE φ (.blt bl es))) := by
  obtain ⟨h1, h2, h3, h4⟩ := F.blt hx
  obtain ⟨e1, e2⟩ := noStar_cons (env := X.env) hst
  refine (pe_callB hc h1 h2 hv ha h4 h3 e1 (noStar_any e2)).imp fun σ H Q ⟨g0, H0, g, s, h, hp⟩ => ?_
  refine ⟨g0, H0, g, s, h, post_bind hp fun rs s1 g1 H1 vs h1 k1 r1 hp1 => ?_⟩
  unfold opN at hp1
  split at hp1
  · rename_i ds e
    exact ⟨g0, H0, g1, s1, σ, ds, h1, resAll_rep h1 r1 e, hp1⟩
  · exact hp1.elim
theorem L_bltT (F : Fits w φ k c X) {x : Str} {id : String} {bl : Blt} {p : Pos} (hc : CallR X (.type id) (rBlt w W fun s => bltD s.st bl)) (hx : c.blt x = true) (hv : bootBuiltins x = some (.type id))
    (ha : PA X (l :: xs) (rdOs w W (evalOs φ es))) (hst : noStar (l :: xs) = true) : PE X (.Call (.Name x p) (l :: xs) [] pos) (rdE w W (evalE φ (.blt bl es))) := by
  obtain ⟨h1, h2, h3, h4⟩ := F.blt hx
  obtain ⟨e1, e2⟩ := noStar_cons (env := X.env) hst
  refine (pe_callTy hc h1 h2 hv ha h4 h3 e1 (noStar_any e2)).imp fun σ H Q ⟨g0, H0, g, s, h, hp⟩ => ?_
  refine ⟨g0, H0, g, s, h, post_bind hp fun rs s1 g1 H1 vs h1 k1 r1 hp1 => ?_⟩
  unfold opN at hp1
  split at hp1
  · rename_i ds e
    exact ⟨g0, H0, g1, s1, σ, ds, h1, resAll_rep h1 r1 e, hp1⟩
  · exact hp1.elim
theorem L_call (F : Fits w φ k c X) (tk : Takes X W) {x : Str} {f : Nat} {p : Pos} (hx : (x, f) ∈ c.ct) (hg : c.glo x = true) (ha : PA X xs (rdEs w W (evalEs φ es))) (hst : noStar xs = true) (hnil : xs = [] → es = .nil) :
    PE X (.Call (.Name x p) xs [] pos) (rdE w W (evalE φ (.call f es))) := by
  obtain ⟨h1, h3⟩ := F.glo hg
  have cf := F.ct _ hx
  cases xs with
  | nil =>
    rw [hnil rfl]
    refine (pe_callG0 cf F.room h1 tk h3).imp fun σ H Q ⟨g0, H0, g, s, h, hp⟩ => ?_
    exact call_post h .nil hp
  | cons e r =>
    refine (pe_callG cf F.room h1 tk ha h3 hst).imp fun σ H Q ⟨g0, H0, g, s, h, hp⟩ => ?_
    refine ⟨g0, H0, g, s, h, post_bind hp fun ds s1 g1 H1 vs h1 k1 r1 hp1 => ?_⟩
    exact call_post h1 r1 hp1
end
end PL

/-! names, constants, classes, methods, what is gone over -/
namespace PL
open PySem PySem.Spec PyProof.Rows L2

section
variable {X : Cx} {w : Wd} {W : WX} {φ : FS} {k : Nat} {c : SC} {a b d : IE} {es : IEs} {l r m e : Expr} {xs : List Expr} {pos p p2 : Pos}
def plainName (x : Str) : Bool := !(x == ("__debug__" : Str)) && !(x == ("__classdict__" : Str))
theorem L_var (F : Fits w φ k c X) {i : Nat} {x : Str} (hi : c.at i x = true) (hv : c.vis x = true) (hd : plainName x = true) : PE X (.Name x pos) (rdE w W (evalE φ (.var i))) := by
  unfold plainName at hd
  simp only [Bool.and_eq_true, Bool.not_eq_true'] at hd
  refine (pe_var (F.at hi) (F.vis hv) hd.1 hd.2).imp fun σ H Q ⟨g0, H0, g, s, h, hp⟩ => ?_
  simp only [evalE] at hp
  split at hp
  · rename_i d e
    obtain ⟨v, e1, q⟩ := h.slot i _ e
    exact ⟨v, e1, hp g H v h (Step.refl _ _) q⟩
  · rename_i ds e
    obtain ⟨v, e1, q⟩ := h.slot i _ e
    exact ⟨_, e1, hp g H _ h (Step.refl _ _) ⟨e1, _, e, fun z => nomatch z⟩⟩
  · exact hp.elim
theorem L_c {d : D} {cc : Const} {j : Nat} (hc : conB d cc = true) : PE X (.Constant cc j pos) (rdE w W (evalE φ (.c d))) := by
  have fin : ∀ {v : V}, (∀ g H, Rep w g H v d) → ∀ σ H Q, rdE w W (evalE φ (.c d)) σ H Q → tC v σ H Q := fun r σ H Q ⟨g0, H0, g, s, h, hp⟩ => hp g H _ h (Step.refl _ _) (r g H)
  unfold conB at hc
  split at hc
  · exact pe_non.imp (fin fun _ _ => .non)
  · cases eq_of_beq hc; exact pe_bl.imp (fin fun _ _ => .bl _)
  · cases of_decide_eq_true hc; exact pe_int.imp (fin fun _ _ => .int _)
  · simp only [Bool.and_eq_true] at hc
    cases of_decide_eq_true hc.1.1
    exact pe_str.imp (fin fun _ _ => .str _ ⟨hc.1.2, of_decide_eq_true hc.2⟩)
  · exact absurd hc Bool.false_ne_true
def glB (c : SC) (x : Str) (d : D) : Bool := c.glo x && c.gl.any fun p => decide (p.1 = x) && scalEq p.2 d
theorem L_g (F : Fits w φ k c X) {x : Str} {d : D} (hg : glB c x d = true) : PE X (.Name x pos) (rdE w W (evalE φ (.g x d))) := by
  have fin : ∀ {v : V}, (∀ g H, Rep w g H v d) → ∀ σ H Q, rdE w W (evalE φ (.g x d)) σ H Q → tC v σ H Q := fun r σ H Q ⟨g0, H0, g, s, h, hp⟩ => hp g H _ h (Step.refl _ _) (r g H)
  unfold glB at hg
  simp only [Bool.and_eq_true, List.any_eq_true, decide_eq_true_eq] at hg
  obtain ⟨h1, ⟨y, dd⟩, hm, e, hs⟩ := hg
  obtain ⟨hgl, hdb⟩ := F.glo h1
  obtain ⟨u, h2, h3⟩ := F.gl _ hm
  simp only at e h2 h3 hs
  rw [e] at h2
  unfold scalEq at hs
  split at hs
  · cases of_decide_eq_true hs
    obtain ⟨t, rfl⟩ := h3
    exact (pe_glob hgl h2 (v := .int _) ⟨t, rfl⟩ hdb).imp (fin fun _ _ => .int _)
  · cases of_decide_eq_true hs
    obtain ⟨⟨t, rfl⟩, o⟩ := h3
    exact (pe_glob hgl h2 (v := .str _) ⟨t, rfl⟩ hdb).imp (fin fun _ _ => .str _ o)
  · exact absurd hs Bool.false_ne_true

/-! ### xs[::-1] -/
theorem L_srev (F : Fits w φ k c X) {kk : Nat} {p1 p2 p3 : Pos} (ha : PE X l (rdE w W (evalE φ a))) : PE X (.Subscript l (.Slice none none (some (.UnaryOp .USub (.Constant (.int 1) kk p1) p2)) p3) pos) (rdE w W (evalE φ (.srev a))) := by
  refine (pe_revL ha).imp fun σ H Q ⟨g0, H0, g, s, h, hp⟩ => ?_
  refine ⟨g0, H0, g, s, h, post_bind hp fun ra s1 g1 H1 x h1 k1 r1 hp1 => ?_⟩
  obtain ⟨g1, h1, r1, hp1⟩ := pend' h1 r1 hp1
  obtain ⟨da, q1, q2⟩ := op1_post h1 r1 hp1
  obtain ⟨rr, e, q2⟩ := ofV_some q2
  unfold srevD at e
  split at e
  · cases e
    obtain ⟨a, xs, rfl, e1, z, rr⟩ := q1.lst
    exact ⟨a, xs, rfl, SqL.of e1, fun p hp' => fin_own h1 q2 (by rw [List.length_reverse]; exact z) rr.reverse hp'⟩
  · cases e

/-! ### isinstance -/
def Ty.nm : Ty → String
  | .int => "int"
  | .bool => "bool"
  | .str => "str"
  | .list => "list"
  | .tuple => "tuple"
  | .none => "NoneType"
  | .dict => "dict"
  | .cls _ => ""
/-- a class that has a name -/
def Ty.named : Ty → Bool
  | .int | .bool | .str | .list | .tuple | .dict => true
  | _ => false
theorem ty_kit {K : PySem.W.Frag} (t u : Ty) (ht : ∀ c, t ≠ .cls c) (hu : u.named = true) : PySem.W.kitOne K (.type t.nm) (.type u.nm) = some (t.sub u) := by
  cases u <;> first | (exact absurd hu Bool.false_ne_true) | skip
  all_goals (cases t <;> first | (exact absurd rfl (ht _)) | (exact kit_ty (by decide +kernel)))
theorem sqL_ty {K : PySem.W.Frag} {H : Hp} {a : Addr} {xs : List V} (h : SqL K H a xs) : TyX K H (.ref a) (.type "list") := by
  rcases h with (h | ⟨o, h⟩) | ⟨o, its, n, h1, h2, _⟩
  · exact .base (.lst h)
  · exact .base (.frz h)
  · exact .kList h1 h2
theorem ty_rep {g0 g : Gh} {H0 H : Hp} {s : S} {σ : L2.St} {v : V} {d : D} {t : Ty} (h : SR w g0 H0 g s σ H) (r : RepC w g H v d) (e : d.tyO s.st = some t) : TyX w.K H v (.type t.nm) ∧ ∀ c, t ≠ .cls c := by
  rcases r with r | ⟨a, xs, ds, rfl, rfl, e1, _⟩
  · cases r with
    | non => cases e; exact ⟨.base .non, fun _ z => nomatch z⟩
    | bl b => cases e; exact ⟨.base (.bl b), fun _ z => nomatch z⟩
    | int i => cases e; exact ⟨.base (.int i), fun _ z => nomatch z⟩
    | str x _ => cases e; exact ⟨.base (.str x), fun _ z => nomatch z⟩
    | tup q _ _ =>
      cases e
      refine ⟨?_, fun _ z => nomatch z⟩
      rcases q with (q | ⟨o, q⟩) | ⟨o, its, n, h1, h2, _⟩
      · exact .base (.tup q)
      · exact .fTuple q
      · exact .kTuple h1 h2
    | lst _ q _ _ => cases e; exact ⟨.base (.lst q), fun _ z => nomatch z⟩
    | scr q => cases e; exact ⟨sqL_ty (q H fun _ _ _ z => z), fun _ z => nomatch z⟩
    | @obj a k q =>
      simp only [D.tyO] at e
      split at e
      · rename_i ds e2
        cases e
        obtain ⟨xs, e3, _⟩ := h.st.ob k a _ q e2
        exact ⟨.base (.lst e3), fun _ z => nomatch z⟩
      · cases e
  · cases e; exact ⟨.base (.lst e1), fun _ z => nomatch z⟩
def tyName (c : SC) (x : Str) (t : Ty) : Bool := c.blt x && t.named && decide (x = Str.ofString t.nm)
theorem boot_ty {t : Ty} (h : t.named = true) : bootBuiltins (Str.ofString t.nm) = some (.type t.nm) := by
  cases t <;> first | (exact absurd h Bool.false_ne_true) | (exact by decide +kernel)
theorem pe_tyName (F : Fits w φ k c X) {x : Str} {t : Ty} (h : tyName c x t = true) : PE X (.Name x p) (tC (.ty t.nm)) := by
  unfold tyName at h
  simp only [Bool.and_eq_true, decide_eq_true_eq] at h
  obtain ⟨⟨h1, h2⟩, rfl⟩ := h
  obtain ⟨a1, a2, a3, a4⟩ := F.blt h1
  exact pe_bltn a1 a2 (boot_ty h2) rfl a4 a3
theorem L_isin1 (F : Fits w φ k c X) {x y : Str} {t : Ty} (hx : (c.blt x && decide (x = "isinstance")) = true) (ht : tyName c y t = true) (ha : PE X l (rdE w W (evalE φ a))) (hst : noStar [l] = true) :
    PE X (.Call (.Name x p) [l, .Name y p2] [] pos) (rdE w W (evalE φ (.isin a [t]))) := by
  simp only [Bool.and_eq_true, decide_eq_true_eq] at hx
  obtain ⟨hx, rfl⟩ := hx
  obtain ⟨h1, h2, h3, h4⟩ := F.blt hx
  have hn : noStar [l, .Name y p2] = true := by
    unfold noStar at hst ⊢
    rw [List.all_cons] at hst ⊢
    simp only [Bool.and_eq_true] at hst ⊢
    exact ⟨hst.1, rfl⟩
  obtain ⟨e1, e2⟩ := noStar_cons (env := X.env) hn
  refine (pe_callB call_isi h1 h2 (by decide +kernel) (pa_cons ha (pa_cons (pe_tyName F ht) pa_nil rfl) e1) h4 h3 e1 (noStar_any e2)).imp fun σ H Q ⟨g0, H0, g, s, h, hp⟩ => ?_
  refine ⟨g0, H0, g, s, h, post_bind hp fun ra s1 g1 H1 v h1 k1 r1 hp1 => ?_⟩
  obtain ⟨g1, h1, r1, hp1⟩ := pend' h1 r1 hp1
  obtain ⟨da, q1, q2⟩ := op1_post h1 r1 hp1
  obtain ⟨rr, e, q2⟩ := ofV_some q2
  cases q : da.tyO s1.st with
  | none => rw [q] at e; cases e
  | some u =>
    rw [q] at e
    cases e
    obtain ⟨z1, z2⟩ := ty_rep h1 q1 q
    unfold tyName at ht
    simp only [Bool.and_eq_true, decide_eq_true_eq] at ht
    rw [F.K]
    refine ⟨v, .ty t.nm, _, _, u.sub t, rfl, .ty _, z1, ty_kit u t z2 ht.1.2, ?_⟩
    simp only [List.any_cons, List.any_nil, Bool.or_false] at q2
    exact fin_val h1 q2 (.bl _)
theorem L_isin2 (F : Fits w φ k c X) {x y y2 : Str} {t t2 : Ty} {j : Nat} {p3 p4 : Pos} (hx : (c.blt x && decide (x = "isinstance")) = true) (ht : tyName c y t = true) (ht2 : tyName c y2 t2 = true) (ha : PE X l (rdE w W (evalE φ a))) (hst : noStar [l] = true) :
    PE X (.Call (.Name x p) [l, .Tuple [.Name y p2, .Name y2 p3] j p4] [] pos) (rdE w W (evalE φ (.isin a [t, t2]))) := by
  simp only [Bool.and_eq_true, decide_eq_true_eq] at hx
  obtain ⟨hx, rfl⟩ := hx
  obtain ⟨h1, h2, h3, h4⟩ := F.blt hx
  have hn : noStar [l, .Tuple [.Name y p2, .Name y2 p3] j p4] = true := by
    unfold noStar at hst ⊢
    rw [List.all_cons] at hst ⊢
    simp only [Bool.and_eq_true] at hst ⊢
    exact ⟨hst.1, rfl⟩
  obtain ⟨e1, e2⟩ := noStar_cons (env := X.env) hn
  refine (pe_callB call_isiT h1 h2 (by decide +kernel) (pa_cons ha (pa_cons (pe_tup (pa_cons (pe_tyName F ht) (pa_cons (pe_tyName F ht2) pa_nil rfl) rfl)) pa_nil rfl) e1) h4 h3 e1 (noStar_any e2)).imp fun σ H Q ⟨g0, H0, g, s, h, hp⟩ => ?_
  refine ⟨g0, H0, g, s, h, post_bind hp fun ra s1 g1 H1 v h1 k1 r1 hp1 => ?_⟩
  obtain ⟨g1, h1, r1, hp1⟩ := pend' h1 r1 hp1
  refine ⟨by show 2 ≤ sizeLine; decide, fun tp htp => ?_⟩
  have h2 := h1.new (o := .tup [.ty t.nm, .ty t2.nm]) htp
  have k2 := h1.stepN (o := .tup [.ty t.nm, .ty t2.nm]) htp
  obtain ⟨da, q1, q2⟩ := op1_post h2 (r1.step k2) (post_from k2 hp1)
  obtain ⟨rr, e, q2⟩ := ofV_some q2
  cases q : da.tyO s1.st with
  | none => rw [q] at e; cases e
  | some u =>
    rw [q] at e
    cases e
    obtain ⟨z1, z2⟩ := ty_rep h2 q1 q
    unfold tyName at ht ht2
    simp only [Bool.and_eq_true, decide_eq_true_eq] at ht ht2
    rw [F.K]
    refine ⟨v, tp, _, _, [.type t.nm, .type t2.nm], u.sub t || u.sub t2, rfl, upd_same, .cons (.ty _) (.cons (.ty _) .nil), z1, ?_, ?_⟩
    · refine kitAny_cons (ty_kit u t z2 ht.1.2) (fun e => ?_) (fun e => by rw [e]; rfl)
      rw [e, Bool.false_or]
      refine kitAny_cons (ty_kit u t2 z2 ht2.1.2) (fun e => ?_) (fun e => e)
      rw [e]; exact kitAny_nil
    · simp only [List.any_cons, List.any_nil, Bool.or_false] at q2
      exact fin_val h2 q2 (.bl _)

/-! ### methods -/
def notBare (o : Expr) : Bool := match o with
  | .Call _ [] [] _ => false
  | _ => true
theorem notBare_ok {o : Expr} (h : notBare o = true) {name : Str} {env : Env} {t : Sem Value} : attributeBase o name env t = t := by
  unfold attributeBase
  split
  · exact absurd h Bool.false_ne_true
  · rfl
theorem few_ok {env : Env} {cpos : Pos} {xs : List Expr} (h : noStar xs = true) (z : xs.length < 30) : ((backTo cpos (starEach xs env)).all (fun x => !x.1) && (backToKw cpos (keywordEach [] env)).all (fun x => x.1.isSome)
      && decide (xs.length + ([] : List Keyword).length + (if ([] : List Keyword).isEmpty then 0 else 1) < 30)) = true := by
  have q : (backTo cpos (starEach xs env)).all (fun x => !x.1) = true := by
    have e := noStar_any (pos := cpos) (env := env) h
    rw [List.all_eq_not_any_not]
    simpa using e
  rw [q]
  simp [backToKw, keywordEach, z]
theorem tyV_rep {g0 g : Gh} {H0 H : Hp} {s : S} {σ : L2.St} {v : V} {d : D} (h : SR w g0 H0 g s σ H) (r : RepC w g H v d) :
    (d.tyO s.st = some .list → tyV w.K "list" v H) ∧ (d.tyO s.st = some .str → tyV w.K "str" v H) := by
  rcases r with r | ⟨a, xs, ds, rfl, rfl, e1, _⟩
  · cases r with
    | non => exact ⟨fun e => (by cases e), fun e => (by cases e)⟩
    | bl b => exact ⟨fun e => (by cases e), fun e => (by cases e)⟩
    | int i => exact ⟨fun e => (by cases e), fun e => (by cases e)⟩
    | str x _ => exact ⟨fun e => (by cases e), fun e => rfl⟩
    | tup q _ _ => exact ⟨fun e => (by cases e), fun e => (by cases e)⟩
    | lst _ q _ _ => exact ⟨fun e => .inl ⟨rfl, _, SqL.of q⟩, fun e => by cases e⟩
    | scr q => exact ⟨fun e => .inl ⟨rfl, _, q H fun _ _ _ z => z⟩, fun e => by cases e⟩
    | @obj a k q =>
      constructor <;> intro e
      · simp only [D.tyO] at e
        split at e
        · rename_i ds e2
          obtain ⟨xs, e3, _⟩ := h.st.ob k a _ q e2
          exact .inl ⟨rfl, _, SqL.of e3⟩
        · cases e
      · simp only [D.tyO] at e
        split at e <;> cases e
  · exact ⟨fun e => .inl ⟨rfl, _, SqL.of e1⟩, fun e => by cases e⟩
theorem recv_post {m : Mth} {T : String} {g0 g : Gh} {H0 H : Hp} {s : S} {σ : L2.St} {v : V} {o : Rx} {γ δ : Type} {R' : RR δ γ} {Q : δ → Hp → Prop} {kk : Unit → S → Out γ} (hT : (m.ty = .list ∧ T = "list") ∨ (m.ty = .str ∧ T = "str"))
    (h : SR w g0 H0 g s σ H) (r : RxP w g σ H v o) (hp : post w W R' g0 H0 g H σ Q ((recv m o s).bind kk)) : tyV w.K T v H ∧ post w W R' g0 H0 g H σ Q (kk () s) := by
  unfold recv at hp
  split at hp
  · rename_i d e
    split at hp
    · rename_i e2
      have q := tyV_rep h (r.res h e)
      refine ⟨?_, hp⟩
      rcases hT with ⟨e3, rfl⟩ | ⟨e3, rfl⟩
      · exact q.1 (by rw [e2, e3])
      · exact q.2 (by rw [e2, e3])
    · exact hp.elim
  · exact hp.elim
theorem L_meth (F : Fits w φ k c X) {m : Mth} {T id : String} {name : Str} {apos : Pos} {o : IE} (pa : PlainAttrs T) (slot : Slot T name id) (hty : typeOf (.builtin id) = pure (.type "method_descriptor")) (hm : MtR X id (rMth w W m))
    (hT : (m.ty = .list ∧ T = "list") ∨ (m.ty = .str ∧ T = "str")) (ho : PE X l (rdE w W (evalE φ o))) (ha : PA X (e :: xs) (rdEs w W (evalEs φ es))) (hb : notBare l = true) (hst : noStar (e :: xs) = true) (hz : (e :: xs).length < 30) (hl : (apos.endLine == pos.line) = true) :
    PE X (.Call (.Attribute l name apos) (e :: xs) [] pos) (rdE w W (evalE φ (.meth m o es))) := by
  obtain ⟨e1, e2⟩ := noStar_cons (env := X.env) hst
  refine (pe_bm pa slot hty hm ho ha (notBare_ok hb) (few_ok hst hz) hl e1 (noStar_any e2)).imp fun σ H Q ⟨g0, H0, g, s, h, hp⟩ => ?_
  refine ⟨g0, H0, g, s, h, post_bind hp fun ra s1 g1 H1 x h1 k1 r1 hp1 => ?_⟩
  obtain ⟨g1, h1, r1, hp1⟩ := pend' h1 r1 hp1
  obtain ⟨q1, hp1⟩ := recv_post hT h1 r1 hp1
  rw [F.K]
  refine ⟨q1, g0, H0, g1, s1, h1, post_bind hp1 fun ds s2 g2 H2 vs h2 k2 r2 hp2 => ?_⟩
  exact ⟨g0, H0, g2, s2, σ, ra, ds, h2, r1.step k2, r2, hp2⟩
theorem L_meth0 (F : Fits w φ k c X) {m : Mth} {T id : String} {name : Str} {apos : Pos} {o : IE} (pa : PlainAttrs T) (slot : Slot T name id) (hty : typeOf (.builtin id) = pure (.type "method_descriptor")) (hm : MtR X id (rMth w W m))
    (hT : (m.ty = .list ∧ T = "list") ∨ (m.ty = .str ∧ T = "str")) (ho : PE X l (rdE w W (evalE φ o))) (hb : notBare l = true) (hl : (apos.endLine == pos.line) = true) :
    PE X (.Call (.Attribute l name apos) [] [] pos) (rdE w W (evalE φ (.meth m o .nil))) := by
  refine (pe_bm0 pa slot hty hm ho (notBare_ok hb) hl).imp fun σ H Q ⟨g0, H0, g, s, h, hp⟩ => ?_
  refine ⟨g0, H0, g, s, h, post_bind hp fun ra s1 g1 H1 x h1 k1 r1 hp1 => ?_⟩
  obtain ⟨g1, h1, r1, hp1⟩ := pend' h1 r1 hp1
  obtain ⟨q1, hp1⟩ := recv_post hT h1 r1 hp1
  rw [F.K]
  exact ⟨q1, g0, H0, g1, s1, σ, ra, [], h1, r1, .nil, hp1⟩
/-- a method by its name: its type, its place, its reading -/
structure MthOk (w : Wd) (W : WX) (X : Cx) (m : Mth) (name : Str) : Prop where
  ex : ∃ T id, PlainAttrs T ∧ Slot T name id ∧ typeOf (.builtin id) = pure (.type "method_descriptor") ∧ MtR X id (rMth w W m) ∧ ((m.ty = .list ∧ T = "list") ∨ (m.ty = .str ∧ T = "str"))
def mthName : Mth → Option String
  | .append => some "append"
  | .extend => some "extend"
  | .pop => some "pop"
  | .reverse => some "reverse"
  | .join => some "join"
  | .split => some "split"
  | _ => none
theorem mth_ok (FF : Fits w φ k c X) {m : Mth} {n : String} {name : Str} (h : mthName m = some n) (e : name = Str.ofString n) : MthOk w W X m name := by
  cases m <;> first | (cases h; done) | skip
  all_goals (cases h; subst e)
  · exact ⟨"list", _, PySem.F.plainAttrs_list, PySem.F.slot_list_append, PySem.F.type_list_append, append_ok, .inl ⟨rfl, rfl⟩⟩
  · exact ⟨"list", _, PySem.F.plainAttrs_list, PySem.F.slot_list_extend, PySem.F.type_list_extend, extend_ok FF.K, .inl ⟨rfl, rfl⟩⟩
  · exact ⟨"list", _, PySem.F.plainAttrs_list, PySem.F.slot_list_pop, PySem.F.type_list_pop, pop_ok, .inl ⟨rfl, rfl⟩⟩
  · exact ⟨"list", _, PySem.F.plainAttrs_list, PySem.F.slot_list_reverse, PySem.F.type_list_reverse, reverse_ok, .inl ⟨rfl, rfl⟩⟩
  · exact ⟨"str", _, PySem.F.plainAttrs_str, PySem.F.slot_str_join, PySem.F.type_str_join, join_ok FF.K, .inr ⟨rfl, rfl⟩⟩
  · exact ⟨"str", _, PySem.F.plainAttrs_str, PySem.F.slot_str_split, PySem.F.type_str_split, split_ok, .inr ⟨rfl, rfl⟩⟩
end
end PL

/-! what is gone over; targets; comprehensions -/
namespace PL
open PySem PySem.Spec PyProof.Rows L2

section
variable {X : Cx} {w : Wd} {W : WX} {φ : FS} {k : Nat} {c : SC} {a b d : IE} {es : IEs} {l r m e tg : Expr} {xs : List Expr} {pos p p2 : Pos}
theorem of_post {α γ δ : Type} {R' : RR δ γ} {g0 g : Gh} {H0 H : Hp} {s : S} {σ : L2.St} {Q : δ → Hp → Prop} {o : Option α} {kk : α → S → Out γ} (hp : post w W R' g0 H0 g H σ Q (Out.bind (.of o s) kk)) : ∃ x, o = some x ∧ post w W R' g0 H0 g H σ Q (kk x s) := by
  cases o with
  | none => exact hp.elim
  | some x => exact ⟨x, rfl, hp⟩
theorem of_post' {α : Type} {β : Type} {R' : RR β α} {g0 g : Gh} {H0 H : Hp} {s : S} {σ : L2.St} {Q : β → Hp → Prop} {o : Option α} (hp : post w W R' g0 H0 g H σ Q (.of o s)) : ∃ x, o = some x ∧ post w W R' g0 H0 g H σ Q (.ok x s) := by
  cases o with
  | none => exact hp.elim
  | some x => exact ⟨x, rfl, hp⟩
theorem L_ite_e (F : Fits w φ k c X) (ha : PE X l (rdE w W (evalE φ a))) : PI X tg l (rdI w W (evalIT φ (.e a))) := by
  refine (pi_any ha).imp fun σ H R ⟨g0, H0, g, s, h, hp⟩ => ?_
  refine ⟨g0, H0, g, s, h, post_bind hp fun ra s1 g1 H1 x h1 k1 r1 hp1 => ?_⟩
  obtain ⟨dd, s2, g2, h2, k2, r2, hp2⟩ := frz_post h1 r1 hp1
  obtain ⟨ds, e, hp3⟩ := of_post' hp2
  rw [F.K]
  unfold iter? at e
  split at e
  · cases e
    cases r2 with
    | str _ o => exact .inr (.inr ⟨_, rfl, hp3 g2 H1 _ h2 (Step.refl _ _) ⟨_, iter_str o, trivial, by rw [List.length_map]; exact okS_size o⟩⟩)
  · cases e
    cases r2 with
    | tup q z rr => exact .inr (.inl ⟨_, _, rfl, q, hp3 g2 H1 _ h2 (Step.refl _ _) ⟨_, iter_tup, ⟨_, q, rr⟩, by rw [← rr.length]; exact z⟩⟩)
  · cases e
    cases r2 with
    | lst z q y rr => exact .inl ⟨_, _, rfl, SqL.of q, hp3 g2 H1 _ h2 (Step.refl _ _) ⟨_, iter_list, ⟨z, _, q, rr⟩, by rw [← rr.length]; exact y⟩⟩
  · cases e
theorem range_len {lo : Int} {n : Nat} (h : n ≤ LIM) : (rangeD lo n).length ≤ sizeLine := by
  unfold rangeD
  rw [← lim_eq]
  simpa using h
theorem rangeDn_len {lo : Int} {n : Nat} (h : n ≤ LIM) : (rangeDn lo n).length ≤ sizeLine := by
  unfold rangeDn
  rw [← lim_eq]
  simpa using h
theorem Reps.one' {g : Gh} {H : Hp} {vs : List V} {i : Int} (h : Reps w g H vs [.int i]) : vs = [.int i] := by
  cases h with
  | cons h t => cases t; cases h; rfl
theorem Reps.two' {g : Gh} {H : Hp} {vs : List V} {i j : Int} (h : Reps w g H vs [.int i, .int j]) : vs = [.int i, .int j] := by
  cases h with
  | cons h t => cases h; rw [Reps.one' t]
theorem Reps.three' {g : Gh} {H : Hp} {vs : List V} {i j n : Int} (h : Reps w g H vs [.int i, .int j, .int n]) : vs = [.int i, .int j, .int n] := by
  cases h with
  | cons h t => cases h; rw [Reps.two' t]
theorem noStar_full {env : Env} : ∀ {es : List Expr}, noStar es = true → starEach es env = es.map fun e => (false, eval e env)
  | [], _ => rfl
  | e :: r, h => by
    obtain ⟨e1, e2⟩ := noStar_cons (env := env) h
    rw [e1, noStar_full e2]; rfl
theorem L_rng (F : Fits w φ k c X) {x : Str} (hx : (c.blt x && decide (x = "range")) = true) (ha : PA X xs (rdEs w W (evalEs φ es))) (hst : noStar xs = true) (hz : (decide (xs.length = es.len) && (decide (xs.length = 1) || decide (xs.length = 2) || decide (xs.length = 3))) = true) :
    PI X tg (.Call (.Name x p) xs [] pos) (rdI w W (evalIT φ (.rng es))) := by
  simp only [Bool.and_eq_true, Bool.or_eq_true, decide_eq_true_eq] at hx hz
  obtain ⟨hx, rfl⟩ := hx
  obtain ⟨h1, h2, h3, h4⟩ := F.blt hx
  obtain ⟨hl, hz⟩ := hz
  have len : ∀ {ds : List D} {s s' : S}, evalEs φ es s = .ok ds s' → ds.length = xs.length := fun e => by rw [hl]; exact evalEs_len es _ _ _ e
  rcases hz with (hz | hz) | hz
  · match xs, hz with
    | [e1], _ =>
      refine (pi_range1 h1 h2 ha (noStar_full hst)).imp fun σ H R ⟨g0, H0, g, s, h, hp⟩ => ?_
      refine ⟨g0, H0, g, s, h, post_eq hp fun ds s1 g1 H1 vs e h1 k1 r1 hp1 => ?_⟩
      obtain ⟨rs, e, hp2⟩ := of_post' hp1
      have := len ‹_›
      match ds, this with
      | [d0], _ =>
        unfold rangeOf at e
        split at e <;> first | (cases e; done) | skip
        · rename_i j e3
          cases e3
          split at e
          · rename_i hb
            cases e
            have hL : LIM = 16777216 := rfl
            refine ⟨j, Reps.one' r1, hb.1, by omega, hp2 g1 H1 _ h1 (Step.refl _ _) ⟨_, iter_range, trivial, range_len (by omega)⟩⟩
          · cases e
        · rename_i e3; cases e3
        · rename_i e3; cases e3
  · match xs, hz with
    | [e1, e2], _ =>
      refine (pi_range2 h1 h2 ha (noStar_full hst) (noStar_full (noStar_cons (env := X.env) hst).2)).imp fun σ H R ⟨g0, H0, g, s, h, hp⟩ => ?_
      refine ⟨g0, H0, g, s, h, post_eq hp fun ds s1 g1 H1 vs e h1 k1 r1 hp1 => ?_⟩
      obtain ⟨rs, e, hp2⟩ := of_post' hp1
      have := len ‹_›
      match ds, this with
      | [d0, d1], _ =>
        unfold rangeOf at e
        split at e <;> first | (cases e; done) | skip
        · rename_i e3; cases e3
        · rename_i i j e3
          cases e3
          split at e
          · rename_i hb
            cases e
            have hL : LIM = 16777216 := rfl
            refine ⟨i, j, Reps.two' r1, ⟨hb.1, hb.2.1, hb.2.2.1, hb.2.2.2.1⟩, hp2 g1 H1 _ h1 (Step.refl _ _) ⟨_, iter_range, trivial, range_len (by omega)⟩⟩
          · cases e
        · rename_i e3; cases e3
  · match xs, hz with
    | [e1, e2, e3], _ =>
      refine (pi_range3 h1 h2 ha (noStar_cons (env := X.env) hst).1 (noStar_any (noStar_cons (env := X.env) hst).2)).imp fun σ H R ⟨g0, H0, g, s, h, hp⟩ => ?_
      refine ⟨g0, H0, g, s, h, post_eq hp fun ds s1 g1 H1 vs e h1 k1 r1 hp1 => ?_⟩
      obtain ⟨rs, e, hp2⟩ := of_post' hp1
      have := len ‹_›
      match ds, this with
      | [d0, d1, d2], _ =>
        unfold rangeOf at e
        split at e <;> first | (cases e; done) | skip
        · rename_i e3; cases e3
        · rename_i e3; cases e3
        · rename_i i j e3
          cases e3
          split at e
          · rename_i hb
            cases e
            have hL : LIM = 16777216 := rfl
            exact ⟨i, j, -1, (i - j).toNat, Reps.three' r1, RgC.neg (by omega) (by omega) (by omega) (by omega), hp2 g1 H1 _ h1 (Step.refl _ _) ⟨_, iter_down, trivial, rangeDn_len (by omega)⟩⟩
          · cases e

/-! ### targets -/
def gIs : List Nat → TGs
  | [] => gNil
  | i :: r => gCons (gName i) (gIs r)
def tgG (K : PySem.W.Frag) : Tgt → TG
  | .v i => gName i
  | .t is => gTup K is.length (gIs is)
def Tgt.slots : Tgt → List Nat
  | .v i => [i]
  | .t is => is
section
variable {g0 g : Gh} {H0 H : Hp} {s : S} {σ : L2.St} {v : V} {Q : L2.St → Hp → Prop}
theorem asgs_ok : ∀ {is : List Nat} {vs : List V} {ds : List D} {s : S} {σ : L2.St}, SR w g0 H0 g s σ H → Reps w g H vs ds → ds.length = is.length → (∀ i ∈ is, i < s.env.length) →
    (∀ σ2, SR w g0 H0 g { s with env := (is.zip ds).foldl (fun e p => e.set p.1 (.val p.2)) s.env } σ2 H → σ2.length = σ.length → (∀ i, i ∉ is → σ2[i]? = σ[i]?) → Q σ2 H) → gIs is vs σ H Q
  | [], vs, ds, s, σ, h, r, hl, hi, q => by
    cases ds with
    | cons d r => cases hl
    | nil =>
      cases r
      exact ⟨rfl, q σ h rfl fun _ _ => rfl⟩
  | i :: is, vs, ds, s, σ, h, r, hl, hi, q => by
    cases ds with
    | nil => cases hl
    | cons d ds =>
      cases r with
      | cons r0 rr =>
        refine ⟨_, _, rfl, asgs_ok (h.set (hi i List.mem_cons_self) r0) rr (by simpa using hl) (fun j hj => by simpa using hi j (List.mem_cons_of_mem _ hj)) fun σ2 h2 z2 o2 => ?_⟩
        refine q σ2 h2 (by simpa using z2) fun j hj => ?_
        rw [o2 j fun z => hj (List.mem_cons_of_mem _ z), List.getElem?_set_ne fun e => hj (by rw [e]; exact List.mem_cons_self)]
theorem asg_ok {tg : Tgt} {d : D} {s' : S} (h : SR w g0 H0 g s σ H) (r : Rep w g H v d) (e : asgT tg d s = some s')
    (q : ∀ σ2, SR w g0 H0 g s' σ2 H → σ2.length = σ.length → (∀ i, i ∉ tg.slots → σ2[i]? = σ[i]?) → Q σ2 H) : tgG w.K tg v σ H Q := by
  unfold asgT at e
  cases tg with
  | v i =>
    simp only at e
    split at e
    · rename_i hi
      cases e
      refine q _ (h.set hi r) (by simp) fun j hj => ?_
      rw [List.getElem?_set_ne fun e => hj (by rw [e]; exact List.mem_cons_self)]
    · cases e
  | t is =>
    simp only at e
    split at e
    · rename_i ds
      split at e
      · rename_i hi
        cases e
        cases r with
        | tup e1 z rr =>
          refine ⟨_, _, rfl, e1, by rw [rr.length]; exact hi.1, asgs_ok h rr hi.1 (fun i hm => of_decide_eq_true (List.all_eq_true.mp hi.2 i hm)) q⟩
      · cases e
    · cases e
end
def tgsB (c : SC) : List Nat → List Expr → Bool
  | [], [] => true
  | i :: is, .Name x _ :: es => c.at i x && c.loc x && tgsB c is es
  | _, _ => false
def tgB (c : SC) : Tgt → Expr → Bool
  | .v i, .Name x _ => c.at i x && c.loc x
  | .t is, .Tuple es _ _ => tgsB c is es
  | _, _ => false
theorem pgs_ok (F : Fits w φ k c X) : ∀ {is : List Nat} {es : List Expr}, tgsB c is es = true → PGs X es (gIs is) ∧ (assignEach es X.env).length = is.length ∧ (assignEach es X.env).findIdx? (·.1) = none
  | [], [], _ => ⟨pgs_nil, rfl, rfl⟩
  | [], _ :: _, h => absurd h Bool.false_ne_true
  | i :: is, [], h => absurd h Bool.false_ne_true
  | i :: is, e :: es, h => by
    cases e <;> first | (exact absurd h Bool.false_ne_true) | skip
    rename_i x p
    unfold tgsB at h
    simp only [Bool.and_eq_true] at h
    obtain ⟨h1, h2, h3⟩ := pgs_ok F h.2
    obtain ⟨h4, h5⟩ := F.loc h.1.2
    refine ⟨pgs_cons (pg_name F.nd (F.at h.1.1) h4 h5) h1 rfl, ?_, ?_⟩
    · show (assignEach es X.env).length + 1 = _
      rw [h2]; rfl
    · show List.findIdx? _ ((false, _) :: assignEach es X.env) = none
      rw [List.findIdx?_cons]
      simp [h3]
theorem pg_ok (F : Fits w φ k c X) {t : Tgt} {e : Expr} (h : tgB c t e = true) : PG X e (tgG w.K t) := by
  cases t with
  | v i =>
    cases e <;> first | (exact absurd h Bool.false_ne_true) | skip
    unfold tgB at h
    simp only [Bool.and_eq_true] at h
    obtain ⟨h4, h5⟩ := F.loc h.2
    exact pg_name F.nd (F.at h.1) h4 h5
  | t is =>
    cases e <;> first | (exact absurd h Bool.false_ne_true) | skip
    obtain ⟨h1, h2, h3⟩ := pgs_ok F h
    have q := pg_tup (k := ‹_›) (pos := ‹_›) F.calm h1 h2 h3
    rw [F.K] at q
    exact q
end
end PL

/-! comprehensions -/
namespace PL
open PySem PySem.Spec PyProof.Rows L2

theorem wipe_get : ∀ {vs : List Nat} {env : List Sl} {i : Nat}, (wipe env vs)[i]? = if i ∈ vs then (if i < env.length then some .no else none) else env[i]?
  | [], env, i => by simp [wipe]
  | v :: vs, env, i => by
    rw [wipe, wipe_get, getElem?_set, List.length_set]
    by_cases h1 : i ∈ vs
    · rw [if_pos h1, if_pos (List.mem_cons_of_mem _ h1)]
    · rw [if_neg h1]
      by_cases h2 : v = i
      · subst h2; simp
      · rw [if_neg h2, if_neg]
        intro z
        rcases List.mem_cons.mp z with z | z
        · exact h2 z.symm
        · exact h1 z
theorem wipe_len {vs : List Nat} : ∀ {env : List Sl}, (wipe env vs).length = env.length := by
  induction vs with
  | nil => intro env; rfl
  | cons v vs ih => intro env; rw [wipe, ih, List.length_set]
theorem back_len {vs : List Nat} {old : List Sl} : ∀ {env : List Sl}, (back env old vs).length = env.length := by
  induction vs with
  | nil => intro env; rfl
  | cons v vs ih =>
    intro env
    rw [back, ih]
    cases old[v]? with
    | none => rfl
    | some x => exact List.length_set
theorem back_get : ∀ {vs : List Nat} {env old : List Sl} {i : Nat}, old.length = env.length → (back env old vs)[i]? = if i ∈ vs then old[i]? else env[i]?
  | [], env, old, i, _ => by simp [back]
  | v :: vs, env, old, i, hl => by
    rw [back]
    have step : (back (match old[v]? with | some x => env.set v x | none => env) old vs)[i]? = if i ∈ vs then old[i]? else (match old[v]? with | some x => env.set v x | none => env)[i]? :=
      back_get (by cases old[v]? with
        | none => exact hl
        | some x => rw [hl]; exact List.length_set.symm)
    refine Eq.trans step ?_
    by_cases h1 : i ∈ vs
    · rw [if_pos h1, if_pos (List.mem_cons_of_mem _ h1)]
    · rw [if_neg h1]
      by_cases h2 : v = i
      · subst h2
        rw [if_pos List.mem_cons_self]
        cases e : old[v]? with
        | none =>
          simp only
          rw [List.getElem?_eq_none_iff] at e ⊢
          omega
        | some x =>
          simp only
          have := (List.getElem?_eq_some_iff.mp e).1
          rw [List.getElem?_set_self (by omega)]
      · rw [if_neg]
        · cases old[v]? with
          | none => rfl
          | some x => exact List.getElem?_set_ne h2
        · intro z
          rcases List.mem_cons.mp z with z | z
          · exact h2 z.symm
          · exact h1 z
theorem wipe2_in {σ : L2.St} : ∀ {vs : List Nat} {i : Nat}, i ∈ vs → (L2.wipe σ vs)[i]? = if i < σ.length then some none else none
  | v :: vs, i, h => by
    show ((L2.wipe σ vs).set v none)[i]? = _
    rw [getElem?_set, wipe_length]
    by_cases h2 : v = i
    · subst h2; rw [if_pos rfl]
    · rw [if_neg h2]
      rcases List.mem_cons.mp h with z | z
      · exact absurd z.symm h2
      · exact wipe2_in z
theorem wipe2_eq {σ σ2 : L2.St} {vs : List Nat} (hl : σ2.length = σ.length) (h : ∀ i, i ∉ vs → σ2[i]? = σ[i]?) : L2.wipe σ2 vs = L2.wipe σ vs := by
  refine List.ext_getElem? fun i => ?_
  by_cases hi : i ∈ vs
  · rw [wipe2_in hi, wipe2_in hi, hl]
  · rw [wipe_out hi, wipe_out hi, h i hi]

section
variable {w : Wd} {W : WX} {g0 g g1 : Gh} {H0 H H1 : Hp} {s s1 : S} {σ : L2.St} {vs : List Nat}
theorem SR.wipe (h : SR w g0 H0 g s σ H) : SR w g0 H0 g { s with env := PL.wipe s.env vs } (L2.wipe σ vs) H := by
  refine ⟨by rw [wipe_length, h.len]; exact wipe_len.symm, fun i x e => ?_, fun i j ds es e1 e2 q => ?_, h.st, h.fr⟩
  · have e : (PL.wipe s.env vs)[i]? = some x := e
    rw [wipe_get] at e
    by_cases hi : i ∈ vs
    · rw [if_pos hi] at e
      split at e
      · cases e; trivial
      · cases e
    · rw [if_neg hi] at e
      rw [wipe_out hi]
      exact h.slot i x e
  · have e1 : (PL.wipe s.env vs)[i]? = some (.own ds) := e1
    have e2 : (PL.wipe s.env vs)[j]? = some (.own es) := e2
    rw [wipe_get] at e1 e2
    by_cases hi : i ∈ vs
    · rw [if_pos hi] at e1
      split at e1 <;> cases e1
    · rw [if_neg hi] at e1
      by_cases hj : j ∈ vs
      · rw [if_pos hj] at e2
        split at e2 <;> cases e2
      · rw [if_neg hj] at e2
        rw [wipe_out hi, wipe_out hj] at q
        exact h.sep i j _ _ e1 e2 q
theorem Free.wipe {a : Addr} (h : Free s σ a) : Free { s with env := PL.wipe s.env vs } (L2.wipe σ vs) a := by
  intro i es e
  have e : (PL.wipe s.env vs)[i]? = some (.own es) := e
  rw [wipe_get] at e
  by_cases hi : i ∈ vs
  · rw [if_pos hi] at e
    split at e <;> cases e
  · rw [if_neg hi] at e
    rw [wipe_out hi]
    exact h i es e
theorem plainAt_slot {env : List Sl} {i : Nat} (h : plainAt env i = true) : (∃ x, env[i]? = some x ∧ ∀ ds, x ≠ .own ds) := by
  unfold plainAt at h
  split at h
  · exact absurd h Bool.false_ne_true
  · rename_i x hx e
    exact ⟨x, e, fun ds z => hx ds z⟩
  · exact absurd h Bool.false_ne_true
theorem SR.back (h : SR w g0 H0 g s σ H) (hp : vs.all (plainAt s.env) = true) (k : Step g H g1 H1) (h1 : SR w g0 H0 g1 { s1 with env := PL.wipe s1.env vs } (L2.wipe σ vs) H1) : SR w g0 H0 g1 { s1 with env := PL.back s1.env s.env vs } σ H1 := by
  have hl : s.env.length = s1.env.length := by
    have := h1.len
    rw [wipe_length, h.len] at this
    rw [this]; exact wipe_len
  have get : ∀ i, (PL.back s1.env s.env vs)[i]? = if i ∈ vs then s.env[i]? else s1.env[i]? := fun i => back_get hl
  have own : ∀ {i : Nat} {ds : List D}, (PL.back s1.env s.env vs)[i]? = some (.own ds) → i ∉ vs ∧ (PL.wipe s1.env vs)[i]? = some (.own ds) := fun {i ds} e => by
    rw [get] at e
    by_cases hi : i ∈ vs
    · rw [if_pos hi] at e
      obtain ⟨x, e2, n⟩ := plainAt_slot (List.all_eq_true.mp hp i hi)
      rw [e] at e2; cases e2
      exact absurd rfl (n _)
    · rw [if_neg hi] at e
      exact ⟨hi, by rw [wipe_get, if_neg hi]; exact e⟩
  refine ⟨?_, fun i x e => ?_, fun i j ds es e1 e2 q => ?_, h1.st, h1.fr⟩
  · rw [h.len, hl]; exact back_len.symm
  · have e : (PL.back s1.env s.env vs)[i]? = some x := e
    by_cases hi : i ∈ vs
    · obtain ⟨y, e2, n⟩ := plainAt_slot (List.all_eq_true.mp hp i hi)
      rw [get, if_pos hi, e2] at e
      cases e
      have q := h.slot i _ e2
      cases x with
      | no => trivial
      | val d => obtain ⟨v, e3, q⟩ := q; exact ⟨v, e3, q.step k⟩
      | own ds => exact absurd rfl (n ds)
    · rw [get, if_neg hi] at e
      have q := h1.slot i x (by show (PL.wipe s1.env vs)[i]? = _; rw [wipe_get, if_neg hi]; exact e)
      rw [wipe_out hi] at q
      exact q
  · obtain ⟨n1, f1⟩ := own e1
    obtain ⟨n2, f2⟩ := own e2
    exact h1.sep i j _ _ f1 f2 (by rw [wipe_out n1, wipe_out n2]; exact q)
theorem Free.back {a : Addr} (hp : vs.all (plainAt s.env) = true) (hl : s.env.length = s1.env.length) (h : Free { s1 with env := PL.wipe s1.env vs } (L2.wipe σ vs) a) : Free { s1 with env := PL.back s1.env s.env vs } σ a := by
  intro i es e
  have e : (PL.back s1.env s.env vs)[i]? = some (.own es) := e
  rw [back_get hl] at e
  by_cases hi : i ∈ vs
  · rw [if_pos hi] at e
    obtain ⟨x, e2, n⟩ := plainAt_slot (List.all_eq_true.mp hp i hi)
    rw [e] at e2; cases e2
    exact absurd rfl (n _)
  · rw [if_neg hi] at e
    have q := h i es (by show (PL.wipe s1.env vs)[i]? = _; rw [wipe_get, if_neg hi]; exact e)
    rw [wipe_out hi] at q
    exact q

/-! ### a list kept aside -/
structure Aside (g : Gh) (H0 H : Hp) (s : S) (σ : L2.St) (D : Addr) (xs : List V) : Prop where
  at' : H D = some (.lst xs)
  base : H0 D = none
  nz : ¬ g.Z D
  nm : D ∉ g.mu
  free : Free s σ D
theorem SR.aside {D : Addr} {xs : List V} (h : SR w g0 H0 g s σ H) (a : Aside g H0 H s σ D xs) : SR w g0 (upd H0 D (.lst xs)) g s σ H := by
  have hd : ∀ {b : Addr} {o : HO}, upd H0 D (.lst xs) b = some o → (b = D ∧ o = .lst xs) ∨ H0 b = some o := fun {b o} e => by
    by_cases hb : b = D
    · subst hb; rw [upd_same] at e; cases e; exact .inl ⟨rfl, rfl⟩
    · rw [upd_ne hb] at e; exact .inr e
  refine ⟨h.len, fun i x e => ?_, h.sep, h.st, ⟨h.fr.mu, fun b o e n => ?_, fun b o e => ?_, fun b o e n => ?_, h.fr.z, fun b o e n => ?_⟩⟩
  · have q := h.slot i x e
    cases x with
    | no => trivial
    | val d => exact q
    | own ds =>
      obtain ⟨p, e1, h0, r⟩ := q
      refine ⟨p, e1, ?_, r⟩
      rw [upd_ne]
      · exact h0
      · intro z; rw [z] at e1; exact a.free i ds e e1
  · rcases hd e with ⟨rfl, rfl⟩ | e
    · exact a.at'
    · exact h.fr.keep b o e n
  · rcases hd e with ⟨rfl, rfl⟩ | e
    · exact ⟨_, a.at'⟩
    · exact h.fr.there b o e
  · rcases hd e with ⟨rfl, rfl⟩ | e
    · exact a.nm
    · exact h.fr.new b o e n
  · rcases hd e with ⟨rfl, rfl⟩ | e
    · exact a.nz
    · exact h.fr.zn b o e n
theorem Aside.wipe {D : Addr} {xs : List V} {vs : List Nat} (a : Aside g H0 H s σ D xs) : Aside g H0 H { s with env := PL.wipe s.env vs } (L2.wipe σ vs) D xs := ⟨a.at', a.base, a.nz, a.nm, a.free.wipe⟩
theorem SR.unaside {D : Addr} {xs : List V} (h : SR w g0 (upd H0 D (.lst xs)) g s σ H) (e0 : H0 D = none) (nz : ¬ g0.Z D) (nm : D ∉ g0.mu) : SR w g0 H0 g s σ H ∧ Aside g H0 H s σ D xs := by
  have hd : ∀ {b : Addr} {o : HO}, H0 b = some o → upd H0 D (.lst xs) b = some o := fun {b o} e => by
    rw [upd_ne]
    · exact e
    · intro z; rw [z, e0] at e; cases e
  refine ⟨⟨h.len, fun i x e => ?_, h.sep, h.st, ⟨h.fr.mu, fun b o e n => h.fr.keep b o (hd e) n, fun b o e => h.fr.there b o (hd e), fun b o e n => h.fr.new b o (hd e) n, h.fr.z, fun b o e n => h.fr.zn b o (hd e) n⟩⟩,
    ⟨h.fr.keep D _ upd_same nm, e0, h.fr.zn D _ upd_same nz, h.fr.new D _ upd_same nm, fun i es e q => ?_⟩⟩
  · have q := h.slot i x e
    cases x with
    | no => trivial
    | val d => exact q
    | own ds =>
      obtain ⟨p, e1, h0, r⟩ := q
      refine ⟨p, e1, ?_, r⟩
      by_cases hb : p = D
      · subst hb; rw [upd_same] at h0; cases h0
      · rw [upd_ne hb] at h0; exact h0
  · obtain ⟨p, e1, h0, r⟩ := h.slot i _ e
    rw [q] at e1; cases e1
    rw [upd_same] at h0; cases h0
theorem SR.putAside {D : Addr} {xs ys : List V} (h : SR w g0 H0 g s σ H) (a : Aside g H0 H s σ D xs) : SR w g0 H0 g s σ (upd H D (.lst ys)) ∧ Aside g H0 (upd H D (.lst ys)) s σ D ys := by
  have k := step_chg (o := .lst ys) a.at' a.nz
  refine ⟨⟨h.len, fun i x e => ?_, h.sep, h.st.chg a.at' a.nz a.nm, fr_chg (xs := xs) h.fr a.base⟩, ⟨upd_same, a.base, a.nz, a.nm, a.free⟩⟩
  have q := h.slot i x e
  cases x with
  | no => trivial
  | val d => obtain ⟨v, e1, r⟩ := q; exact ⟨v, e1, r.step k⟩
  | own ds =>
    obtain ⟨p, e1, h0, nz, nm, zs, e2, z, r⟩ := q
    refine ⟨p, e1, h0, nz, nm, zs, ?_, z, r.step k⟩
    rw [upd_ne]
    · exact e2
    · intro z; rw [z] at e1; exact a.free i ds e e1
end
section
variable {α β γ δ : Type} {w : Wd} {W W' : WX} {R : RR β α} {R' : RR δ γ} {g0 g : Gh} {H0 H H0' : Hp} {s : S} {σ σ' : L2.St} {Q : δ → Hp → Prop} {Q1 : β → Hp → Prop}
theorem nox_bind (o : Out α) (f : α → S → Out γ) : (o.bind f).nox = o.nox.bind fun a s => (f a s).nox := by cases o <;> rfl
theorem post_nox {o : Out α} {k : α → S → Out γ} (h : post w W R' g0 H0 g H σ Q (o.nox.bind k))
    (hk : ∀ a s1 g1 H1 x, SR w g0 H0' g1 s1 σ' H1 → Step g H g1 H1 → R H0' g1 s1 σ' H1 x a → post w W R' g0 H0 g1 H1 σ Q (k a s1) → Q1 x H1) : post w W' R g0 H0' g H σ' Q1 o := by
  cases o with
  | ok a s' => exact fun g' H' x h1 k1 r => hk a s' g' H' x h1 k1 r (post_from k1 h)
  | err x s' => exact h.elim
  | bad => exact h
theorem frz_nox {r : Rx} {v : V} {k : D → S → Out γ} (h : SR w g0 H0' g s σ' H) (hr : RxR w H0' g s σ' H v r) (hp : post w W R' g0 H0 g H σ Q ((r.frz s).nox.bind k)) :
    ∃ d s' g', SR w g0 H0' g' s' σ' H ∧ Step g H g' H ∧ Rep w g' H v d ∧ post w W R' g0 H0 g' H σ Q (k d s') := by
  cases e : r.frz s with
  | ok d s' =>
    obtain ⟨g', h1, k1, r1⟩ := frz_post' h hr e
    rw [e] at hp
    exact ⟨d, s', g', h1, k1, r1, post_from k1 hp⟩
  | err x s' => rw [e] at hp; exact hp.elim
  | bad => rw [e] at hp; exact hp.elim
end
/-- no exception leaves -/
def W0 : WX := fun _ _ _ _ => False
theorem takes0 {X : Cx} {s : Shared} {H : Hp} {scope : Scope} {ce : Env} {fp : List Addr} : Takes (X.blk s H scope ce fp) W0 := fun _ _ ⟨_, _, _, _, _, _, _, _, _, _, _, _, _, _, _, _, z⟩ => z.elim
section
variable {X : Cx} {w : Wd} {W : WX} {φ : FS} {k : Nat} {c : SC} {elt : IE} {it : IT} {cond : OE} {tt tg : Tgt} {vs : List Nat} {σ : L2.St} {H : Hp} {Q : VK}
theorem comp_tLc (hv : tg.slots.all (fun i => vs.contains i) = true) (hp0 : rdE w W (evalE φ (.comp elt tg it cond vs)) σ H Q) :
    tLc (rdI w W (evalIT φ it)) (tgG w.K tg) (rdT w W0 (evalOC φ cond)) (rdE w W0 (evalE φ elt)) vs σ H Q := by
  obtain ⟨g0, H0, g, s, h, hp⟩ := hp0
  rw [evalE_comp] at hp
  refine ⟨g0, H0, g, s, h, post_bind hp fun ds s1 g1 H1 J h1 k1 r1 hp1 D hD => ?_⟩
  obtain ⟨G, J1, hG, hlen⟩ := r1
  split at hp1
  · rename_i hpl
    -- the invariant
    let Pv : Nat → Hp → Prop := fun i H => ∃ g s' acc accV, SR w g0 H0 g { s' with env := wipe s'.env vs } (L2.wipe σ vs) H ∧ Step g1 H1 g H ∧ Aside g H0 H { s' with env := wipe s'.env vs } (L2.wipe σ vs) D accV ∧ Reps w g H accV acc ∧ accV.length ≤ i ∧
      post w W (RxR w) g0 H0 g H σ Q ((compL (turnC φ elt tg cond vs) (ds.drop i) acc s').nox.bind fun ys s' => .ok (.own ys) { s' with env := back s'.env s1.env vs })
    refine ⟨fun i m H => m = ds.length - i ∧ i ≤ ds.length ∧ Pv i H, ⟨ds.length, by simp, Nat.zero_le _, g1, s1, [], [], ?_⟩, ?_⟩
    · have h2 := (h1.new (o := .lst []) hD)
      have k2 := (h1.stepN (o := .lst []) hD)
      refine ⟨h2.wipe, k2, ⟨upd_same, h1.at0 hD, h1.st.notZ hD, h1.st.notMu hD, (h1.freeN hD).wipe⟩, .nil, Nat.le_refl _, ?_⟩
      rw [List.drop_zero]
      exact post_from k2 hp1
    · rintro i m H2 ⟨rfl, hi, g2, s2, acc, accV, h2, k2, as2, r2, l2, hp2⟩
      have hl2 : s1.env.length = s2.env.length := by
        have := h2.len
        rw [wipe_length, h1.len] at this
        rw [this]; exact wipe_len
      by_cases hlt : i < ds.length
      · refine .inr ⟨J1.go i g2 H2 hlt (J1.mono _ _ _ _ hG k2), Pv (i + 1), fun H' p => ⟨ds.length - (i + 1), by omega, rfl, hlt, p⟩, fun x H3 hy => ?_⟩
        have ed : ds[i]? = some ds[i] := List.getElem?_eq_getElem hlt
        have nz0 : ¬ g0.Z D := fun z => as2.nz (h2.fr.z D z)
        have nm0 : D ∉ g0.mu := fun z => as2.nm (mem_mu h2.fr.mu z)
        obtain ⟨h3, k3, r3⟩ := J1.yld i g2 H2 x H3 _ _ _ _ _ (J1.mono _ _ _ _ hG k2) ed hy (h2.aside as2)
        rw [List.drop_eq_getElem_cons hlt] at hp2
        have hp3 := post_from k3 hp2
        simp only [compL] at hp3
        rw [nox_bind, bind_assoc] at hp3
        unfold turnC at hp3
        split at hp3
        · rename_i s3 e3
          refine asg_ok h3 r3 e3 fun σ2 h4 z4 o4 => ?_
          have hw : L2.wipe σ2 vs = L2.wipe σ vs := by
            refine wipe2_eq (by rw [z4, wipe_length]) fun j hj => ?_
            rw [o4 j fun z => hj (by simpa using List.all_eq_true.mp hv j z), wipe_out hj]
          refine ⟨?_, g0, _, g2, s3, h4, ?_⟩
          · rw [hw]
          rw [nox_bind, bind_assoc] at hp3
          refine post_nox hp3 fun kk s4 g4 H4 b h5 k5 r5 hp5 => ?_
          cases r5
          have k15 : Step g1 H1 g4 H4 := (k2.trans k3).trans k5
          cases kk with
          | false =>
            rw [if_neg Bool.false_ne_true] at hp5 ⊢
            obtain ⟨h6, as6⟩ := h5.unaside as2.base nz0 nm0
            exact ⟨g4, s4, acc, accV, hw ▸ h6.wipe, k15, hw ▸ as6.wipe, r2.step (k3.trans k5), Nat.le_succ_of_le l2, hp5⟩
          | true =>
            rw [if_pos rfl] at hp5 ⊢
            rw [nox_bind, bind_assoc] at hp5
            refine ⟨g0, _, g4, s4, h5, post_nox hp5 fun rx s5 g5 H5 y h6 k6 r6 hp6 => ?_⟩
            rw [nox_bind, bind_assoc] at hp6
            obtain ⟨dd, s6, g6, h7, k7, r7, hp7⟩ := frz_nox h6 r6 hp6
            obtain ⟨h8, as8⟩ := h7.unaside as2.base nz0 nm0
            obtain ⟨h9, as9⟩ := h8.putAside (ys := accV ++ [y]) as8
            have k9 := step_chg (o := .lst (accV ++ [y])) as8.at' as8.nz
            refine ⟨accV, as8.at', ?_, g6, s6, acc ++ [dd], accV ++ [y], hw ▸ h9.wipe, ((k15.trans k6).trans k7).trans k9, hw ▸ as9.wipe, ?_, ?_, post_from k9 hp7⟩
            · have : accV.length ≤ i := l2
              omega
            · exact (r2.step ((((k3.trans k5).trans k6).trans k7).trans k9)).append (.one (r7.step k9))
            · rw [List.length_append]; exact Nat.succ_le_succ l2
        · exact hp3.elim
      · have e : i = ds.length := by omega
        subst e
        rw [List.drop_length] at hp2
        refine .inl ⟨J1.stop g2 H2 (J1.mono _ _ _ _ hG k2), ?_⟩
        refine hp2 g2 H2 (.ref D) (h1.back hpl k2 h2) (Step.refl _ _) ⟨D, rfl, ⟨as2.base, as2.nz, as2.nm, accV, as2.at', ?_, r2⟩, as2.free.back hpl hl2⟩
        exact Nat.le_trans l2 hlen
  · exact hp1.elim
/-- what is gone over is no set display -/
def noSet (e : Expr) : Bool := match e with
  | .Set _ _ _ => false
  | _ => true
theorem noSet_ok {e : Expr} (h : noSet e = true) (env : Env) (x : Value) : foldedSetIterable e env x = pure x := by
  unfold foldedSetIterable
  split
  · exact absurd h Bool.false_ne_true
  · rfl
theorem blkC_names {N : List Str} {sc sc' scope : Scope} {own : List (Str × Nat)} (e : sc.names = sc'.names) (h : blkC N sc scope own = true) : blkC N sc' scope own = true := by
  unfold blkC at h ⊢
  rw [e] at h
  exact h
def ownOf (N : List Str) (vs : List Nat) : List (Str × Nat) := vs.map fun i => (N[i]?.getD ⟨#[]⟩, i)
theorem ownOf_snd {N : List Str} {vs : List Nat} : (ownOf N vs).map (·.2) = vs := by
  unfold ownOf
  rw [List.map_map]
  exact List.map_id'' (fun _ => rfl) vs
/-- the check of a comprehension but for its parts -/
def compB (c : SC) (tg : Tgt) (vs : List Nat) (scope : Scope) (tgE iter : Expr) : Bool :=
  (match scope.kind with | .function => true | _ => false) && blkC c.N (scopeOf c.sc) scope (ownOf c.N vs) && tg.slots.all (fun i => vs.contains i) && tgB (c.blk scope) tg tgE && noSet iter
theorem L_comp (F : Fits w φ k c X) {eltE tgE iterE : Expr} {ifs : List Expr} {scope : Scope} {pos : Pos} (hb : compB c tg vs scope tgE iterE = true) (hi : PI X tgE iterE (rdI w W (evalIT φ it)))
    (ht : ∀ Y : Cx, Fits w φ k (c.blk scope) Y → Takes Y W0 → PTs Y ifs (rdT w W0 (evalOC φ cond))) (he : ∀ Y : Cx, Fits w φ k (c.blk scope) Y → Takes Y W0 → PE Y eltE (rdE w W0 (evalE φ elt))) :
    PE X (.ListComp eltE [⟨tgE, iterE, ifs, 0⟩] scope pos) (rdE w W (evalE φ (.comp elt tg it cond vs))) := by
  unfold compB at hb
  simp only [Bool.and_eq_true] at hb
  obtain ⟨⟨⟨⟨h1, h2⟩, h3⟩, h4⟩, h5⟩ := hb
  have hk : scope.kind = .function := by
    split at h1
    · assumption
    · exact absurd h1 Bool.false_ne_true
  have ok : BlkOk X.N X.env.scope scope (ownOf c.N vs) := by
    rw [F.N]
    exact blkOk_by (blkC_names (by rw [F.sc]; rfl) h2)
  have q := pe_lc (pos := pos) F.calm F.nd hi ok (fun s H C cl fp => pg_ok (F.blk hk) h4) (fun s H C cl fp => ht _ (F.blk hk) takes0) (fun s H C cl fp => he _ (F.blk hk) takes0) (noSet_ok h5 X.env)
  rw [ownOf_snd] at q
  exact q.imp fun σ H Q hp => comp_tLc h3 hp
/-- the name of a comprehension that its own row stores -/
theorem L_setComp (F : Fits w φ k c X) {y : Str} {py spos : Pos} {i : Nat} {eltE tgE iterE : Expr} {ifs : List Expr} {scope : Scope} {pos : Pos} (hy : c.at i y = true) (hyl : (match c.sc.lookup y with | some .local => true | _ => false) = true)
    (hsw : (py.line == pos.line) = true) (hsn : (scope.names.any fun (n, k) => n == y && (k == .local || k == .cell)) = false)
    (hb : compB c tg vs scope tgE iterE = true) (hi : PI X tgE iterE (rdI w W (evalIT φ it)))
    (ht : ∀ Y : Cx, Fits w φ k (c.blk scope) Y → Takes Y W0 → PTs Y ifs (rdT w W0 (evalOC φ cond))) (he : ∀ Y : Cx, Fits w φ k (c.blk scope) Y → Takes Y W0 → PE Y eltE (rdE w W0 (evalE φ elt))) :
    PS X (.Assign [.Name y py] (.ListComp eltE [⟨tgE, iterE, ifs, 0⟩] scope pos) spos) (tAsg (rdE w W (evalE φ (.comp elt tg it cond vs))) (gName i)) := by
  unfold compB at hb
  simp only [Bool.and_eq_true] at hb
  obtain ⟨⟨⟨⟨h1, h2⟩, h3⟩, h4⟩, h5⟩ := hb
  have hk : scope.kind = .function := by
    split at h1
    · assumption
    · exact absurd h1 Bool.false_ne_true
  have ok : BlkOk X.N X.env.scope scope (ownOf c.N vs) := by
    rw [F.N]
    exact blkOk_by (blkC_names (by rw [F.sc]; rfl) h2)
  have hl : X.env.scope.names.lookup y = some .local := by
    rw [F.sc]
    split at hyl
    · assumption
    · exact absurd hyl Bool.false_ne_true
  have q := ps_setLc (py := py) (spos := spos) (pos := pos) F.calm F.nd (F.at hy) hl (sw_true F.kind hl hsw hsn) hi ok (fun s H C cl fp => pg_ok (F.blk hk) h4) (fun s H C cl fp => ht _ (F.blk hk) takes0) (fun s H C cl fp => he _ (F.blk hk) takes0) (noSet_ok h5 X.env)
  rw [ownOf_snd] at q
  exact q.imp fun D σ H hp => comp_tLc h3 hp
end
end PL

/-! the check of an expression, what it gives -/
namespace PL
open PySem PySem.Spec PyProof.Rows L2

def bltName : Blt → Option String
  | .len => some "len"
  | .sum => some "sum"
  | .tuple => some "tuple"
  | .list => some "list"
  | .min2 => some "min"
  | .max2 => some "max"
  | .int => some "int"
  | .str => some "str"
  | .all => some "all"
  | _ => none
def nameIs (x : Str) (n : Option String) : Bool := match n with
  | some n => decide (x = Str.ofString n)
  | none => false
def plainIx (e : Expr) : Bool := match e with
  | .Slice _ _ _ _ => false
  | _ => true
theorem plainIx_ok {e : Expr} (h : plainIx e = true) : PlainIx e := by
  intro o i
  cases e <;> first | (exact absurd h Bool.false_ne_true) | rfl
def IE.tst : IE → Bool
  | .ite _ _ _ => false
  | _ => true
/-- what stands behind an and, an or -/
def restB (op : BoolOp) (y : Expr) (r : List Expr) (pos : Pos) : Expr := match r with
  | [] => y
  | _ => .BoolOp op (y :: r) pos

mutual
def chkE : SC → IE → Expr → Bool
  | c, .var i, e => match e with
    | .Name x _ => c.at i x && c.vis x && plainName x
    | _ => false
  | c, .c d, e => match e with
    | .Constant cc _ _ => conB d cc
    | _ => false
  | c, .g x d, e => match e with
    | .Name y _ => decide (x = y) && glB c x d
    | _ => false
  | c, .bin op a b, e => match e with
    | .BinOp l op' r _ => decide (op = op') && chkE c a l && chkE c b r
    | _ => false
  | c, .neg a, e => match e with
    | .UnaryOp .USub l _ => chkE c a l
    | _ => false
  | c, .not a, e => match e with
    | .UnaryOp .Not l _ => chkE c a l && a.tst
    | _ => false
  | c, .cmp op a b, e => match e with
    | .Compare l [op'] [r] _ => decide (op = op') && chkE c a l && chkE c b r && !behindInMarks op r
    | _ => false
  | c, .chain op op2 a b d, e => match e with
    | .Compare l [o1, o2] [m, r] _ => decide (op = o1) && decide (op2 = o2) && chkE c a l && chkE c b m && chkE c d r && !lastMarks [op, op2] [m, r]
    | _ => false
  | c, .and a b, e => match e with
    | .BoolOp .And (l :: y :: r) pos => chkE c a l && a.tst && b.tst && chkE c b (restB .And y r pos)
    | _ => false
  | c, .or a b, e => match e with
    | .BoolOp .Or (l :: y :: r) pos => chkE c a l && a.tst && b.tst && chkE c b (restB .Or y r pos)
    | _ => false
  | c, .ite t a b, e => match e with
    | .IfExp l m r _ => chkE c t l && t.tst && chkE c a m && chkE c b r
    | _ => false
  | c, .tup es, e => match e with
    | .Tuple xs _ _ => chkEs c es xs && noStar xs && decide (es.len ≤ 1000)
    | _ => false
  | c, .lst es, e => match e with
    | .List xs _ => chkEs c es xs && noStar xs && decide (es.len ≤ 1000)
    | _ => false
  | c, .lstM es, e => match e with
    | .List xs _ => chkEs c es xs && noStar xs && decide (es.len ≤ 1000)
    | _ => false
  | c, .idx a b, e => match e with
    | .Subscript l r _ => chkE c a l && chkE c b r && plainIx r
    | _ => false
  | c, .slc a lo hi, e => match e with
    | .Subscript l (.Slice el eh none _) _ => chkE c a l && chkOE c lo el && chkOE c hi eh
    | _ => false
  | c, .srev a, e => match e with
    | .Subscript l (.Slice none none (some (.UnaryOp .USub (.Constant (.int 1) _ _) _)) _) _ => chkE c a l
    | _ => false
  | c, .call f es, e => match e with
    | .Call (.Name x _) xs [] _ => (c.ct.any fun p => decide (p = (x, f))) && c.glo x && chkEs c es xs && noStar xs
    | _ => false
  | c, .blt b es, e => match e with
    | .Call (.Name x _) (l :: xs) [] _ => c.blt x && nameIs x (bltName b) && chkOs c es (l :: xs) && noStar (l :: xs)
    | _ => false
  | c, .isin a ts, e => match e with
    | .Call (.Name x _) [l, .Name y _] [] _ => (c.blt x && decide (x = "isinstance")) && chkE c a l && noStar [l] && (match ts with
      | [t] => tyName c y t
      | _ => false)
    | .Call (.Name x _) [l, .Tuple [.Name y _, .Name y2 _] _ _] [] _ => (c.blt x && decide (x = "isinstance")) && chkE c a l && noStar [l] && (match ts with
      | [t, t2] => tyName c y t && tyName c y2 t2
      | _ => false)
    | _ => false
  | c, .meth m o es, e => match e with
    | .Call (.Attribute l name apos) xs [] pos => nameIs name (mthName m) && chkE c o l && chkEs c es xs && notBare l && noStar xs && decide (xs.length < 30) && (apos.endLine == pos.line)
    | _ => false
  | c, .comp elt tg it cond vs, e => match e with
    | .ListComp eltE [⟨tgE, iterE, ifs, 0⟩] scope _ => compB c tg vs scope tgE iterE && chkIT c it iterE && chkE (c.blk scope) elt eltE && chkOC (c.blk scope) cond ifs
    | _ => false
  | _, _, _ => false
def chkEs : SC → IEs → List Expr → Bool
  | _, .nil, xs => xs.isEmpty
  | c, .cons a es, xs => match xs with
    | l :: xs => chkE c a l && chkEs c es xs
    | [] => false
def chkOs : SC → IEs → List Expr → Bool
  | _, .nil, xs => xs.isEmpty
  | c, .cons a es, xs => match xs with
    | l :: xs => chkE c a l && chkOs c es xs
    | [] => false
def chkOE : SC → OE → Option Expr → Bool
  | _, .no, e => e.isNone
  | c, .some a, e => match e with
    | some l => chkE c a l
    | none => false
def chkOC : SC → OE → List Expr → Bool
  | _, .no, xs => xs.isEmpty
  | c, .some a, xs => match xs with
    | [l] => chkE c a l && a.tst
    | _ => false
def chkIT : SC → IT → Expr → Bool
  | c, .e a, e => chkE c a e
  | c, .rng es, e => match e with
    | .Call (.Name x _) xs [] _ => (c.blt x && decide (x = "range")) && chkEs c es xs && noStar xs && (decide (xs.length = es.len) && (decide (xs.length = 1) || decide (xs.length = 2) || decide (xs.length = 3)))
    | _ => false
  | _, _, _ => false
end
theorem L_blt {X : Cx} {w : Wd} {W : WX} {φ : FS} {k : Nat} {c : SC} {es : IEs} {l : Expr} {xs : List Expr} {pos p : Pos} {bl : Blt} {x : Str} (F : Fits w φ k c X) (hx : c.blt x = true) (hn : nameIs x (bltName bl) = true)
    (ha : PA X (l :: xs) (rdOs w W (evalOs φ es))) (hst : noStar (l :: xs) = true) : PE X (.Call (.Name x p) (l :: xs) [] pos) (rdE w W (evalE φ (.blt bl es))) := by
  unfold nameIs at hn
  cases bl <;> first | (exact absurd hn Bool.false_ne_true) | skip
  all_goals (have hn := of_decide_eq_true hn; subst hn)
  · exact L_bltB F (len_ok F.K) hx (by decide +kernel) ha hst
  · exact L_bltB F (sum_ok F.K F.calm) hx (by decide +kernel) ha hst
  · exact L_bltT F (tuple_ok F.K) hx (by decide +kernel) ha hst
  · exact L_bltT F (list_ok F.K) hx (by decide +kernel) ha hst
  · exact L_bltB F (min2_ok F.calm) hx (by decide +kernel) ha hst
  · exact L_bltB F (max2_ok F.calm) hx (by decide +kernel) ha hst
  · exact L_bltT F int_ok hx (by decide +kernel) ha hst
  · exact L_bltT F str_ok hx (by decide +kernel) ha hst
  · exact L_bltB F (all_ok F.K F.calm) hx (by decide +kernel) ha hst
end PL

/-! a checked expression does what the plain one does -/
namespace PL
open PySem PySem.Spec PyProof.Rows L2

theorem chkEs_nil {c : SC} {es : IEs} {xs : List Expr} (h : chkEs c es xs = true) (e : xs = []) : es = .nil := by
  subst e
  cases es with
  | nil => rfl
  | cons a r => simp [chkEs] at h
/-- a value and its test -/
abbrev Snd (w : Wd) (W : WX) (φ : FS) (X : Cx) (a : IE) (e : Expr) : Prop := PE X e (rdE w W (evalE φ a)) ∧ (a.tst = true → PT X e (rdT w W (tru1 (evalE φ a))))
section
variable {X : Cx} {w : Wd} {W : WX} {φ : FS} {k : Nat} {c : SC}
theorem snd_of (F : Fits w φ k c X) {a : IE} {e : Expr} (h : PE X e (rdE w W (evalE φ a))) (he : ∀ whole, isTrue e X.env whole = (do let v ← whole; standAt e.pos; holding [v] (truthy v))) : Snd w W φ X a e := ⟨h, fun _ => L_tru F h he⟩
theorem rest_and {y : Expr} {r : List Expr} {pos : Pos} {b : IE} (h : Snd w W φ X b (restB .And y r pos)) (hb : b.tst = true) : PE X (.BoolOp .And (y :: r) pos) (rdE w W (evalE φ b)) ∧ PW X (.BoolOp .And (y :: r) pos) (rdT w W (tru1 (evalE φ b))) := by
  cases r with
  | nil => exact ⟨pe_one h.1, pw_and1 (h.2 hb)⟩
  | cons z r => exact ⟨h.1, PW.of (h.2 hb)⟩
theorem rest_or {y : Expr} {r : List Expr} {pos : Pos} {b : IE} (h : Snd w W φ X b (restB .Or y r pos)) (hb : b.tst = true) : PE X (.BoolOp .Or (y :: r) pos) (rdE w W (evalE φ b)) ∧ PW X (.BoolOp .Or (y :: r) pos) (rdT w W (tru1 (evalE φ b))) := by
  cases r with
  | nil => exact ⟨pe_one h.1, pw_or1 (h.2 hb)⟩
  | cons z r => exact ⟨h.1, PW.of (h.2 hb)⟩
theorem L_methAny (F : Fits w φ k c X) {m : Mth} {T id : String} {name : Str} {apos pos : Pos} {o : IE} {es : IEs} {l : Expr} {xs : List Expr} (pa : PlainAttrs T) (slot : Slot T name id) (hty : typeOf (.builtin id) = pure (.type "method_descriptor")) (hm : MtR X id (rMth w W m))
    (hT : (m.ty = .list ∧ T = "list") ∨ (m.ty = .str ∧ T = "str")) (ho : PE X l (rdE w W (evalE φ o))) (ha : PA X xs (rdEs w W (evalEs φ es))) (hn : xs = [] → es = .nil) (hb : notBare l = true) (hst : noStar xs = true) (hz : xs.length < 30) (hl : (apos.endLine == pos.line) = true) :
    PE X (.Call (.Attribute l name apos) xs [] pos) (rdE w W (evalE φ (.meth m o es))) := by
  cases xs with
  | nil =>
    rw [hn rfl]
    exact L_meth0 F pa slot hty hm hT ho hb hl
  | cons x r => exact L_meth F pa slot hty hm hT ho ha hb hst hz hl
end

mutual
theorem sndE {w : Wd} {φ : FS} {k : Nat} : ∀ (a : IE) (W : WX) (X : Cx) (c : SC) (e : Expr), Fits w φ k c X → Takes X W → chkE c a e = true → Snd w W φ X a e
  | .var i, W, X, c, e, F, tk, h => by
    simp only [chkE] at h
    split at h <;> first | (exact absurd h Bool.false_ne_true) | skip
    simp only [Bool.and_eq_true] at h
    exact snd_of F (L_var F h.1.1 h.1.2 h.2) fun _ => rfl
  | .c d, W, X, c, e, F, tk, h => by
    simp only [chkE] at h
    split at h <;> first | (exact absurd h Bool.false_ne_true) | skip
    exact snd_of F (L_c h) fun _ => rfl
  | .g x d, W, X, c, e, F, tk, h => by
    simp only [chkE] at h
    split at h <;> first | (exact absurd h Bool.false_ne_true) | skip
    simp only [Bool.and_eq_true, decide_eq_true_eq] at h
    obtain ⟨rfl, h⟩ := h
    exact snd_of F (L_g F h) fun _ => rfl
  | .bin op a b, W, X, c, e, F, tk, h => by
    simp only [chkE] at h
    split at h <;> first | (exact absurd h Bool.false_ne_true) | skip
    simp only [Bool.and_eq_true, decide_eq_true_eq] at h
    obtain ⟨⟨rfl, h1⟩, h2⟩ := h
    exact snd_of F (L_bin F (sndE a W X c _ F tk h1).1 (sndE b W X c _ F tk h2).1) fun _ => rfl
  | .neg a, W, X, c, e, F, tk, h => by
    simp only [chkE] at h
    split at h <;> first | (exact absurd h Bool.false_ne_true) | skip
    exact snd_of F (L_neg (sndE a W X c _ F tk h).1) fun _ => rfl
  | .not a, W, X, c, e, F, tk, h => by
    simp only [chkE] at h
    split at h <;> first | (exact absurd h Bool.false_ne_true) | skip
    simp only [Bool.and_eq_true] at h
    obtain ⟨h1, h2⟩ := sndE a W X c _ F tk h.1
    obtain ⟨h3, h4⟩ := L_not (pos := ‹_›) F h1 (h2 h.2)
    exact ⟨h3, fun _ => h4⟩
  | .cmp op a b, W, X, c, e, F, tk, h => by
    simp only [chkE] at h
    split at h <;> first | (exact absurd h Bool.false_ne_true) | skip
    simp only [Bool.and_eq_true, decide_eq_true_eq, Bool.not_eq_true'] at h
    obtain ⟨⟨⟨rfl, h1⟩, h2⟩, h3⟩ := h
    obtain ⟨h3, h4⟩ := L_cmp (pos := ‹_›) F (sndE a W X c _ F tk h1).1 (sndE b W X c _ F tk h2).1 h3
    exact ⟨h3, fun _ => h4⟩
  | .chain op op2 a b d, W, X, c, e, F, tk, h => by
    simp only [chkE] at h
    split at h <;> first | (exact absurd h Bool.false_ne_true) | skip
    simp only [Bool.and_eq_true, decide_eq_true_eq, Bool.not_eq_true'] at h
    obtain ⟨⟨⟨⟨⟨rfl, rfl⟩, h1⟩, h2⟩, h3⟩, h4⟩ := h
    obtain ⟨h3, h4⟩ := L_chain (pos := ‹_›) F (sndE a W X c _ F tk h1).1 (sndE b W X c _ F tk h2).1 (sndE d W X c _ F tk h3).1 h4
    exact ⟨h3, fun _ => h4⟩
  | .and a b, W, X, c, e, F, tk, h => by
    simp only [chkE] at h
    split at h <;> first | (exact absurd h Bool.false_ne_true) | skip
    simp only [Bool.and_eq_true] at h
    obtain ⟨⟨⟨h1, h2⟩, h3⟩, h4⟩ := h
    obtain ⟨a1, a2⟩ := sndE a W X c _ F tk h1
    obtain ⟨b1, b2⟩ := rest_and (sndE b W X c _ F tk h4) h3
    exact ⟨L_and F a1 b1, fun _ => L_andT (a2 h2) b2⟩
  | .or a b, W, X, c, e, F, tk, h => by
    simp only [chkE] at h
    split at h <;> first | (exact absurd h Bool.false_ne_true) | skip
    simp only [Bool.and_eq_true] at h
    obtain ⟨⟨⟨h1, h2⟩, h3⟩, h4⟩ := h
    obtain ⟨a1, a2⟩ := sndE a W X c _ F tk h1
    obtain ⟨b1, b2⟩ := rest_or (sndE b W X c _ F tk h4) h3
    exact ⟨L_or F a1 b1, fun _ => L_orT (a2 h2) b2⟩
  | .ite t a b, W, X, c, e, F, tk, h => by
    simp only [chkE] at h
    split at h <;> first | (exact absurd h Bool.false_ne_true) | skip
    simp only [Bool.and_eq_true] at h
    obtain ⟨⟨⟨h1, h2⟩, h3⟩, h4⟩ := h
    exact ⟨L_ite F ((sndE t W X c _ F tk h1).2 h2) (sndE a W X c _ F tk h3).1 (sndE b W X c _ F tk h4).1, fun z => absurd z Bool.false_ne_true⟩
  | .tup es, W, X, c, e, F, tk, h => by
    simp only [chkE] at h
    split at h <;> first | (exact absurd h Bool.false_ne_true) | skip
    simp only [Bool.and_eq_true, decide_eq_true_eq] at h
    exact snd_of F (L_tup (sndEs es W X c _ F tk h.1.1 h.1.2) h.2) fun _ => rfl
  | .lst es, W, X, c, e, F, tk, h => by
    simp only [chkE] at h
    split at h <;> first | (exact absurd h Bool.false_ne_true) | skip
    simp only [Bool.and_eq_true, decide_eq_true_eq] at h
    exact snd_of F (L_lst (sndEs es W X c _ F tk h.1.1 h.1.2) h.2) fun _ => rfl
  | .lstM es, W, X, c, e, F, tk, h => by
    simp only [chkE] at h
    split at h <;> first | (exact absurd h Bool.false_ne_true) | skip
    simp only [Bool.and_eq_true, decide_eq_true_eq] at h
    exact snd_of F (L_lstM (sndEs es W X c _ F tk h.1.1 h.1.2) h.2) fun _ => rfl
  | .dic _ _, W, X, c, e, F, tk, h => by simp [chkE] at h
  | .idx a b, W, X, c, e, F, tk, h => by
    simp only [chkE] at h
    split at h <;> first | (exact absurd h Bool.false_ne_true) | skip
    simp only [Bool.and_eq_true] at h
    exact snd_of F (L_idx F (sndE a W X c _ F tk h.1.1).1 (sndE b W X c _ F tk h.1.2).1 (plainIx_ok h.2)) fun _ => rfl
  | .slc a lo hi, W, X, c, e, F, tk, h => by
    simp only [chkE] at h
    split at h <;> first | (exact absurd h Bool.false_ne_true) | skip
    simp only [Bool.and_eq_true] at h
    exact snd_of F (L_slc F (sndE a W X c _ F tk h.1.1).1 (sndOE lo W X c _ F tk h.1.2) (sndOE hi W X c _ F tk h.2)) fun _ => rfl
  | .srev a, W, X, c, e, F, tk, h => by
    simp only [chkE] at h
    split at h <;> first | (exact absurd h Bool.false_ne_true) | skip
    exact snd_of F (L_srev F (sndE a W X c _ F tk h).1) fun _ => rfl
  | .call f es, W, X, c, e, F, tk, h => by
    simp only [chkE] at h
    split at h <;> first | (exact absurd h Bool.false_ne_true) | skip
    simp only [Bool.and_eq_true, List.any_eq_true, decide_eq_true_eq] at h
    obtain ⟨⟨⟨⟨p, h1, rfl⟩, h2⟩, h3⟩, h4⟩ := h
    exact snd_of F (L_call F tk h1 h2 (sndEs es W X c _ F tk h3 h4) h4 (chkEs_nil h3)) fun _ => rfl
  | .callV _ _, W, X, c, e, F, tk, h => by simp [chkE] at h
  | .blt b es, W, X, c, e, F, tk, h => by
    simp only [chkE] at h
    split at h <;> first | (exact absurd h Bool.false_ne_true) | skip
    simp only [Bool.and_eq_true] at h
    exact snd_of F (L_blt F h.1.1.1 h.1.1.2 (sndOs es W X c _ F tk h.1.2 h.2) h.2) fun _ => rfl
  | .isin a ts, W, X, c, e, F, tk, h => by
    simp only [chkE] at h
    split at h <;> first | (exact absurd h Bool.false_ne_true) | skip
    · rw [Bool.and_eq_true, Bool.and_eq_true, Bool.and_eq_true] at h
      obtain ⟨⟨⟨h1, h2⟩, h3⟩, h4⟩ := h
      split at h4 <;> first | (exact absurd h4 Bool.false_ne_true) | skip
      exact snd_of F (L_isin1 F h1 h4 (sndE a W X c _ F tk h2).1 h3) fun _ => rfl
    · rw [Bool.and_eq_true, Bool.and_eq_true, Bool.and_eq_true] at h
      obtain ⟨⟨⟨h1, h2⟩, h3⟩, h4⟩ := h
      split at h4 <;> first | (exact absurd h4 Bool.false_ne_true) | skip
      rw [Bool.and_eq_true] at h4
      exact snd_of F (L_isin2 F h1 h4.1 h4.2 (sndE a W X c _ F tk h2).1 h3) fun _ => rfl
  | .meth m o es, W, X, c, e, F, tk, h => by
    simp only [chkE] at h
    split at h <;> first | (exact absurd h Bool.false_ne_true) | skip
    simp only [Bool.and_eq_true, decide_eq_true_eq] at h
    obtain ⟨⟨⟨⟨⟨⟨h1, h2⟩, h3⟩, h4⟩, h5⟩, h6⟩, h7⟩ := h
    unfold nameIs at h1
    split at h1 <;> first | (exact absurd h1 Bool.false_ne_true) | skip
    rename_i n hn
    obtain ⟨T, id, pa, slot, hty, hm, hT⟩ := (mth_ok (W := W) F hn (of_decide_eq_true h1)).ex
    have ho := (sndE o W X c _ F tk h2).1
    have he := sndEs es W X c _ F tk h3 h5
    exact snd_of F (L_methAny F pa slot hty hm hT ho he (chkEs_nil h3) h4 h5 h6 h7) fun _ => rfl
  | .fld _ _, W, X, c, e, F, tk, h => by simp [chkE] at h
  | .mcall _ _ _, W, X, c, e, F, tk, h => by simp [chkE] at h
  | .make _ _ _, W, X, c, e, F, tk, h => by simp [chkE] at h
  | .comp elt tg it cond vs, W, X, c, e, F, tk, h => by
    simp only [chkE] at h
    split at h <;> first | (exact absurd h Bool.false_ne_true) | skip
    simp only [Bool.and_eq_true] at h
    obtain ⟨⟨⟨h1, h2⟩, h3⟩, h4⟩ := h
    exact snd_of F (L_comp F h1 (sndIT it W X c _ _ F tk h2) (fun Y FY tY => sndOC cond W0 Y _ _ FY tY h4) (fun Y FY tY => (sndE elt W0 Y _ _ FY tY h3).1)) fun _ => rfl
  | .clos _ _, W, X, c, e, F, tk, h => by simp [chkE] at h
theorem sndEs {w : Wd} {φ : FS} {k : Nat} : ∀ (es : IEs) (W : WX) (X : Cx) (c : SC) (xs : List Expr), Fits w φ k c X → Takes X W → chkEs c es xs = true → noStar xs = true → PA X xs (rdEs w W (evalEs φ es))
  | .nil, W, X, c, xs, F, tk, h, hs => by
    cases xs with
    | nil => exact L_nil
    | cons l r => simp [chkEs] at h
  | .cons a es, W, X, c, xs, F, tk, h, hs => by
    cases xs with
    | nil => simp [chkEs] at h
    | cons l r =>
      simp only [chkEs, Bool.and_eq_true] at h
      obtain ⟨e1, e2⟩ := noStar_cons (env := X.env) hs
      exact L_cons (sndE a W X c _ F tk h.1).1 (sndEs es W X c _ F tk h.2 e2) e1
theorem sndOs {w : Wd} {φ : FS} {k : Nat} : ∀ (es : IEs) (W : WX) (X : Cx) (c : SC) (xs : List Expr), Fits w φ k c X → Takes X W → chkOs c es xs = true → noStar xs = true → PA X xs (rdOs w W (evalOs φ es))
  | .nil, W, X, c, xs, F, tk, h, hs => by
    cases xs with
    | nil => exact L_nilO
    | cons l r => simp [chkOs] at h
  | .cons a es, W, X, c, xs, F, tk, h, hs => by
    cases xs with
    | nil => simp [chkOs] at h
    | cons l r =>
      simp only [chkOs, Bool.and_eq_true] at h
      obtain ⟨e1, e2⟩ := noStar_cons (env := X.env) hs
      exact L_consO (sndE a W X c _ F tk h.1).1 (sndOs es W X c _ F tk h.2 e2) e1
theorem sndOE {w : Wd} {φ : FS} {k : Nat} : ∀ (o : OE) (W : WX) (X : Cx) (c : SC) (e : Option Expr), Fits w φ k c X → Takes X W → chkOE c o e = true → PO X e (rdO w W (evalOE φ o))
  | .no, W, X, c, e, F, tk, h => by
    cases e with
    | none => exact L_no
    | some l => simp [chkOE] at h
  | .some a, W, X, c, e, F, tk, h => by
    cases e with
    | none => simp [chkOE] at h
    | some l =>
      simp only [chkOE] at h
      exact L_some (sndE a W X c _ F tk h).1
theorem sndOC {w : Wd} {φ : FS} {k : Nat} : ∀ (o : OE) (W : WX) (X : Cx) (c : SC) (xs : List Expr), Fits w φ k c X → Takes X W → chkOC c o xs = true → PTs X xs (rdT w W (evalOC φ o))
  | .no, W, X, c, xs, F, tk, h => by
    cases xs with
    | nil => exact ⟨fun pins s σ H Q I ⟨g0, H0, g, st, hh, hp⟩ => pts_nil.run pins s σ H Q I (hp g H true hh (Step.refl _ _) rfl)⟩
    | cons l r => simp [chkOC] at h
  | .some a, W, X, c, xs, F, tk, h => by
    simp only [chkOC] at h
    split at h <;> first | (exact absurd h Bool.false_ne_true) | skip
    rw [Bool.and_eq_true] at h
    exact pts_one ((sndE a W X c _ F tk h.1).2 h.2)
theorem sndIT {w : Wd} {φ : FS} {k : Nat} : ∀ (it : IT) (W : WX) (X : Cx) (c : SC) (tg e : Expr), Fits w φ k c X → Takes X W → chkIT c it e = true → PI X tg e (rdI w W (evalIT φ it))
  | .e a, W, X, c, tg, e, F, tk, h => by
    simp only [chkIT] at h
    exact L_ite_e F (sndE a W X c _ F tk h).1
  | .rng es, W, X, c, tg, e, F, tk, h => by
    simp only [chkIT] at h
    split at h <;> first | (exact absurd h Bool.false_ne_true) | skip
    rw [Bool.and_eq_true, Bool.and_eq_true, Bool.and_eq_true] at h
    obtain ⟨⟨⟨h1, h2⟩, h3⟩, h4⟩ := h
    exact L_rng F h1 (sndEs es W X c _ F tk h2 h3) h3 h4
  | .enum _, W, X, c, tg, e, F, tk, h => by simp [chkIT] at h
  | .zip _ _, W, X, c, tg, e, F, tk, h => by simp [chkIT] at h
  | .rev _, W, X, c, tg, e, F, tk, h => by simp [chkIT] at h
end
end PL

/-! statements -/
namespace PL
open PySem PySem.Spec PyProof.Rows L2

def postS (w : Wd) (W : WX) (g0 : Gh) (H0 : Hp) (g : Gh) (H : Hp) (E : Ends) : Out Flow → Prop
  | .ok .nx s' => ∀ g' H' σ', SR w g0 H0 g' s' σ' H' → Step g H g' H' → E.nx σ' H'
  | .ok .brk s' => ∀ g' H' σ', SR w g0 H0 g' s' σ' H' → Step g H g' H' → E.bk σ' H'
  | .ok .ct s' => ∀ g' H' σ', SR w g0 H0 g' s' σ' H' → Step g H g' H' → E.ct σ' H'
  | .ok (.ret r) s' => ∀ g' H' σ' v, SR w g0 H0 g' s' σ' H' → Step g H g' H' → RvR w H0 g' H' v r → E.rt v H'
  | .err x s' => ∀ g' H' σ' cls d, SR w g0 H0 g' s' σ' H' → Step g H g' H' → ExcR w g' H' cls d x → W cls d σ' H'
  | .bad => False
def rdS (w : Wd) (W : WX) (f : S → Out Flow) : TS := fun E σ H => ∃ g0 H0 g s, SR w g0 H0 g s σ H ∧ postS w W g0 H0 g H E (f s)
section
variable {α β : Type} {w : Wd} {W : WX} {R : RR β α} {g0 g g1 : Gh} {H0 H H1 : Hp} {s : S} {σ : L2.St} {Q1 : β → Hp → Prop} {E : Ends}
theorem postS_from {o : Out Flow} (k : Step g H g1 H1) (h : postS w W g0 H0 g H E o) : postS w W g0 H0 g1 H1 E o := by
  cases o with
  | ok f s' => cases f with
    | nx => exact fun g' H' σ' h1 k1 => h g' H' σ' h1 (k.trans k1)
    | brk => exact fun g' H' σ' h1 k1 => h g' H' σ' h1 (k.trans k1)
    | ct => exact fun g' H' σ' h1 k1 => h g' H' σ' h1 (k.trans k1)
    | ret r => exact fun g' H' σ' v h1 k1 => h g' H' σ' v h1 (k.trans k1)
  | err x s' => exact fun g' H' σ' cls d h1 k1 => h g' H' σ' cls d h1 (k.trans k1)
  | bad => exact h
theorem postS_bind {o : Out α} {k : α → S → Out Flow} (h : postS w W g0 H0 g H E (o.bind k))
    (hk : ∀ a s1 g1 H1 x, SR w g0 H0 g1 s1 σ H1 → Step g H g1 H1 → R H0 g1 s1 σ H1 x a → postS w W g0 H0 g1 H1 E (k a s1) → Q1 x H1) : post w W R g0 H0 g H σ Q1 o := by
  cases o with
  | ok a s' => exact fun g' H' x h1 k1 r => hk a s' g' H' x h1 k1 r (postS_from k1 h)
  | err x s' => exact fun g' H' cls d h1 k1 r => h g' H' σ cls d h1 k1 r
  | bad => exact h
/-- one row behind the other -/
theorem postS_seq {o : Out Flow} {k : Flow → S → Out Flow} {E' : Ends} (h : postS w W g0 H0 g H E (o.bind k))
    (hn : ∀ s1 g1 H1 σ1, SR w g0 H0 g1 s1 σ1 H1 → Step g H g1 H1 → postS w W g0 H0 g1 H1 E (k .nx s1) → E'.nx σ1 H1)
    (hb : ∀ s1 g1 H1 σ1, SR w g0 H0 g1 s1 σ1 H1 → Step g H g1 H1 → postS w W g0 H0 g1 H1 E (k .brk s1) → E'.bk σ1 H1)
    (hc : ∀ s1 g1 H1 σ1, SR w g0 H0 g1 s1 σ1 H1 → Step g H g1 H1 → postS w W g0 H0 g1 H1 E (k .ct s1) → E'.ct σ1 H1)
    (hr : ∀ r v s1 g1 H1 σ1, SR w g0 H0 g1 s1 σ1 H1 → Step g H g1 H1 → RvR w H0 g1 H1 v r → postS w W g0 H0 g1 H1 E (k (.ret r) s1) → E'.rt v H1) : postS w W g0 H0 g H E' o := by
  cases o with
  | ok f s' => cases f with
    | nx => exact fun g' H' σ' h1 k1 => hn _ _ _ _ h1 k1 (postS_from k1 h)
    | brk => exact fun g' H' σ' h1 k1 => hb _ _ _ _ h1 k1 (postS_from k1 h)
    | ct => exact fun g' H' σ' h1 k1 => hc _ _ _ _ h1 k1 (postS_from k1 h)
    | ret r => exact fun g' H' σ' v h1 k1 r => hr _ _ _ _ _ _ h1 k1 r (postS_from k1 h)
  | err x s' => exact h
  | bad => exact h
theorem frzS {r : Rx} {v : V} {k : D → S → Out Flow} (h : SR w g0 H0 g s σ H) (hr : RxR w H0 g s σ H v r) (hp : postS w W g0 H0 g H E ((r.frz s).bind k)) :
    ∃ d s' g', SR w g0 H0 g' s' σ H ∧ Step g H g' H ∧ Rep w g' H v d ∧ postS w W g0 H0 g' H E (k d s') := by
  cases e : r.frz s with
  | ok d s' =>
    obtain ⟨g', h1, k1, r1⟩ := frz_post' h hr e
    rw [e] at hp
    exact ⟨d, s', g', h1, k1, r1, postS_from k1 hp⟩
  | err x s' =>
    exfalso
    cases r <;> simp only [Rx.frz] at e <;> try (cases e; done)
    unfold readV at e
    split at e <;> cases e
  | bad => rw [e] at hp; exact hp.elim
theorem pendS {r : Rx} {v : V} {o : Out Flow} (h : SR w g0 H0 g s σ H) (hr : RxR w H0 g s σ H v r) (hp : postS w W g0 H0 g H E o) :
    ∃ g', SR w g0 H0 g' s σ H ∧ RxP w g' σ H v r ∧ Step g H g' H ∧ postS w W g0 H0 g' H E o := by
  obtain ⟨g', h1, k1, r1⟩ := pend h hr
  exact ⟨g', h1, r1, k1, postS_from k1 hp⟩

/-! ### stores -/
theorem setR_ok {i : Nat} {r : Rx} {v : V} (h : SR w g0 H0 g s σ H) (hr : RxR w H0 g s σ H v r) (hp : postS w W g0 H0 g H E (setR i r s)) : gName i v σ H E.nx := by
  unfold setR at hp
  split at hp
  · rename_i hi
    cases r with
    | val d => exact hp g H _ (h.set hi hr) (Step.refl _ _)
    | own ds =>
      obtain ⟨a, rfl, o, f⟩ := hr
      exact hp g H _ (h.setOwn hi o f) (Step.refl _ _)
    | ref j =>
      have hp : postS w W g0 H0 g H E ((Rx.frz (.ref j) s).bind fun d s => .ok .nx { s with env := s.env.set i (.val d) }) := hp
      obtain ⟨d, s', g', h1, k1, r1, hp1⟩ := frzS h hr hp
      have hi' : i < s'.env.length := by rw [← h1.len, h.len]; exact hi
      exact hp1 g' H _ (h1.set hi' r1) (Step.refl _ _)
  · exact hp.elim
theorem setItem_ok {o : Rx} {x y v : V} {i d : D} (h : SR w g0 H0 g s σ H) (ho : RxP w g σ H x o) (hi : Rep w g H y i) (hv : Rep w g H v d) (hp : postS w W g0 H0 g H E (setItem o i d s)) : rSetL x y v H fun H' => E.nx σ H' := by
  unfold setItem at hp
  split at hp
  · rename_i j i
    split at hp
    · rename_i xs ej
      split at hp
      · rename_i kk hk
        obtain ⟨a, e1, _, _, _, vs, e2, z, r⟩ := h.slot j _ ej
        have ho : σ[j]? = some (some x) := ho
        rw [ho] at e1; cases e1
        cases hi
        obtain ⟨h2, k2⟩ := h.chg (ys := vs.set kk v) ej ho (by rw [List.length_set]; exact z) (r.set kk hv)
        exact ⟨a, vs, _, kk, rfl, rfl, e2, by rw [r.length]; exact hk, hp g _ σ h2 k2⟩
      · exact hp.elim
    · exact hp.elim
  · rename_i j i
    split at hp
    · rename_i xs ej
      split at hp
      · rename_i kk hk
        have ho : Rep w g H x (.obj j) := ho
        cases ho with
        | obj ea =>
          obtain ⟨vs, e2, z, r⟩ := stObj h ea ej
          cases hi
          obtain ⟨h2, k2⟩ := h.put (o := .lst (xs.set kk d)) (u := .lst (vs.set kk v)) ea (fun k2 => ⟨_, upd_same, by rw [List.length_set]; exact z, (r.set kk hv).step k2⟩)
          exact ⟨_, vs, _, kk, rfl, rfl, e2, by rw [r.length]; exact hk, hp g _ σ h2 k2⟩
      · exact hp.elim
    · exact hp.elim
  · exact hp.elim
/-- .. the targets of a row -/
def gT (w : Wd) (W : WX) (φ : FS) : Tst → TG
  | .v i => gName i
  | .x o i => gSub (rdE w W (evalE φ o)) (rdE w W (evalE φ i)) rSetL
def gTs (w : Wd) (W : WX) (φ : FS) : List Tst → TGs
  | [] => gNil
  | t :: r => gCons (gT w W φ t) (gTs w W φ r)
theorem gSub_ok {φ : FS} {o i : IE} {v : V} {d : D} {kk : Flow → S → Out Flow} {E' : L2.St → Hp → Prop} (h : SR w g0 H0 g s σ H) (hv : Rep w g H v d)
    (hp : postS w W g0 H0 g H E (((evalE φ o s).bind fun o s => (evalE φ i s).bind fun i s => match i with
      | .val i => setItem o i d s
      | _ => .bad).bind kk))
    (hk : ∀ s1 g1 H1 σ1, SR w g0 H0 g1 s1 σ1 H1 → Step g H g1 H1 → postS w W g0 H0 g1 H1 E (kk .nx s1) → E' σ1 H1) :
    gSub (rdE w W (evalE φ o)) (rdE w W (evalE φ i)) rSetL v σ H E' := by
  rw [bind_assoc] at hp
  refine ⟨g0, H0, g, s, h, postS_bind hp fun ra s1 g1 H1 x h1 k1 r1 hp1 => ?_⟩
  obtain ⟨g2, h2, r2, k2, hp2⟩ := pendS h1 r1 hp1
  rw [bind_assoc] at hp2
  refine ⟨g0, H0, g2, s1, h2, postS_bind hp2 fun rb s3 g3 H3 y h3 k3 r3 hp3 => ?_⟩
  cases rb with
  | val ii =>
    have hp3 : postS w W g0 H0 g3 H3 E ((setItem ra ii d s3).bind kk) := hp3
    have k13 : Step g H g3 H3 := (k1.trans k2).trans k3
    refine setItem_ok (E := { nx := E', rt := fun _ _ => False }) (W := W) h3 (r2.step k3) r3 (hv.step k13) ?_
    have nb : ∀ f s', setItem ra ii d s3 = .ok f s' → f = .nx := by
      intro f s' e
      unfold setItem at e
      repeat' split at e
      all_goals first | (cases e; rfl) | cases e
    cases e : setItem ra ii d s3 with
    | ok f s' =>
      have := nb f s' e
      subst this
      rw [e] at hp3
      exact fun g' H' σ' h' k' => hk s' g' H' σ' h' (k13.trans k') (postS_from k' hp3)
    | err x s' =>
      unfold setItem at e
      repeat' split at e
      all_goals cases e
    | bad => rw [e] at hp3; exact hp3.elim
  | own _ => exact hp3.elim
  | ref _ => exact hp3.elim
theorem setAll_ok {φ : FS} : ∀ {ts : List Tst} {vs : List V} {ds : List D} {g : Gh} {H : Hp} {s : S} {σ : L2.St}, SR w g0 H0 g s σ H → Reps w g H vs ds → postS w W g0 H0 g H E (setAll φ ts ds s) → gTs w W φ ts vs σ H E.nx
  | [], vs, ds, g, H, s, σ, h, r, hp => by
    cases ds with
    | nil => cases r; exact ⟨rfl, hp g H σ h (Step.refl _ _)⟩
    | cons d ds => exact hp.elim
  | t :: ts, vs, ds, g, H, s, σ, h, r, hp => by
    cases ds with
    | nil => exact hp.elim
    | cons d ds =>
      cases r with
      | cons r0 rr =>
        refine ⟨_, _, rfl, ?_⟩
        have hp : postS w W g0 H0 g H E ((setTS φ t d s).bind fun _ s => setAll φ ts ds s) := hp
        have go : ∀ s1 g1 H1 σ1, SR w g0 H0 g1 s1 σ1 H1 → Step g H g1 H1 → postS w W g0 H0 g1 H1 E (setAll φ ts ds s1) → gTs w W φ ts _ σ1 H1 E.nx := fun s1 g1 H1 σ1 h1 k1 hp1 => setAll_ok h1 (rr.step k1) hp1
        cases t with
        | v i =>
          have hp : postS w W g0 H0 g H E ((setR i (.val d) s).bind fun _ s => setAll φ ts ds s) := hp
          unfold setR at hp
          split at hp
          · rename_i hi
            exact go _ g H _ (h.set hi r0) (Step.refl _ _) hp
          · exact hp.elim
        | x o i => exact gSub_ok h r0 hp go
end
end PL

/-! checked statements -/
namespace PL
open PySem PySem.Spec PyProof.Rows L2

def notComp (e : Expr) : Bool := match e with
  | .ListComp _ _ _ _ => false
  | .SetComp _ _ _ _ => false
  | .DictComp _ _ _ _ _ => false
  | _ => true
def notTup (e : Expr) : Bool := match e with
  | .Tuple _ _ _ => false
  | _ => true
/-- a comprehension's row whose name its own code stores -/
def lcSet (c : SC) (x : Str) (px : Pos) (e : Expr) : Bool := match e with
  | .ListComp _ _ scope p1 => (match c.sc.lookup x with | some .local => true | _ => false) && (px.line == p1.line) && !(scope.names.any fun (n, k) => n == x && (k == .local || k == .cell))
  | _ => false
def chkTs (c : SC) : List Tst → List Expr → Bool
  | [], es => es.isEmpty
  | t :: ts, es => match es with
    | e :: es => (match t with
      | .v i => match e with
        | .Name x _ => c.at i x && c.loc x
        | _ => false
      | .x o i => match e with
        | .Subscript l r _ => chkE c o l && chkE c i r && plainIx r
        | _ => false) && chkTs c ts es
    | [] => false
def isNonC (a : IE) : Bool := match a with
  | .c .non => true
  | _ => false
mutual
def chkS : SC → IS → Stmt → Bool
  | c, .set i a, st => match st with
    | .Assign [.Name x px] v _ => c.at i x && c.loc x && chkE c a v && (notComp v || lcSet c x px v)
    | _ => false
  | c, .setT ts a, st => match st with
    | .Assign [.Tuple es _ _] v _ => chkE c a v && chkTs c ts es && notTup v
    | _ => false
  | c, .setI o i a, st => match st with
    | .Assign [.Subscript l r _] v _ => chkE c a v && chkE c o l && chkE c i r && plainIx r
    | _ => false
  | c, .ex a, st => match st with
    | .Expr v _ => chkE c a v && notComp v
    | _ => false
  | c, .ite t a b, st => match st with
    | .If l p q _ => chkE c t l && t.tst && chkSs c a p && chkSs c b q
    | _ => false
  | c, .loop tg it b, st => match st with
    | .For tgE itE body [] _ => tgB c tg tgE && chkIT c it itE && chkSs c b body && noSet itE
    | _ => false
  | c, .wh t b, st => match st with
    | .While l body [] _ => chkE c t l && t.tst && chkSs c b body
    | _ => false
  | c, .ret a, st => match st with
    | .Return (some v) _ => chkE c a v
    | .Return none _ => isNonC a
    | _ => false
  | _, .pass, st => match st with
    | .Pass _ => true
    | _ => false
  | _, .never, _ => true
  | _, _, _ => false
def chkSs : SC → ISs → List Stmt → Bool
  | _, .nil, xs => xs.isEmpty
  | c, .cons a r, xs => match xs with
    | x :: xs => chkS c a x && chkSs c r xs
    | [] => false
end
theorem noSwap {e : Expr} (h : notComp e = true) {t : Option Expr} {l : Nat} {env : Env} : swapsWith e t l env = pure false := by
  cases e <;> first | (exact absurd h Bool.false_ne_true) | rfl
theorem noSwapT {es : List Expr} {j : Nat} {p : Pos} {e : Expr} {l : Nat} {env : Env} : swapsWithSole [.Tuple es j p] e l env = pure false := by
  cases e <;> rfl
theorem noSwapI {a b : Expr} {p : Pos} {e : Expr} {l : Nat} {env : Env} : swapsWithSole [.Subscript a b p] e l env = pure false := by
  cases e <;> rfl
theorem noSwapS {es : List Expr} {j : Nat} {p : Pos} {e : Expr} {env : Env} (h : notTup e = true) : swappedStores [.Tuple es j p] e env = pure none := by
  cases e <;> first | (exact absurd h Bool.false_ne_true) | rfl
section
variable {X : Cx} {w : Wd} {W : WX} {φ : FS} {k : Nat} {c : SC}
theorem pg_item (F : Fits w φ k c X) (tk : Takes X W) {o i : IE} {l r : Expr} {p : Pos} (h1 : chkE c o l = true) (h2 : chkE c i r = true) (h3 : plainIx r = true) :
    PG X (.Subscript l r p) (gSub (rdE w W (evalE φ o)) (rdE w W (evalE φ i)) rSetL) :=
  pg_sub (sndE o W X c l F tk h1).1 (sndE i W X c r F tk h2).1 set_list (fun v => by cases r <;> first | (exact absurd h3 Bool.false_ne_true) | rfl)
theorem pgTs_ok (F : Fits w φ k c X) (tk : Takes X W) : ∀ {ts : List Tst} {es : List Expr}, chkTs c ts es = true → PGs X es (gTs w W φ ts) ∧ (assignEach es X.env).length = ts.length ∧ (assignEach es X.env).findIdx? (·.1) = none
  | [], [], _ => ⟨pgs_nil, rfl, rfl⟩
  | [], _ :: _, h => absurd h Bool.false_ne_true
  | t :: ts, [], h => absurd h Bool.false_ne_true
  | t :: ts, e :: es, h => by
    simp only [chkTs] at h
    rw [Bool.and_eq_true] at h
    obtain ⟨h0, h⟩ := h
    obtain ⟨h1, h2, h3⟩ := pgTs_ok F tk h
    cases t with
    | v i =>
      cases e <;> first | (exact absurd h0 Bool.false_ne_true) | skip
      simp only [Bool.and_eq_true] at h0
      obtain ⟨h4, h5⟩ := F.loc h0.2
      refine ⟨pgs_cons (pg_name F.nd (F.at h0.1) h4 h5) h1 rfl, ?_, ?_⟩
      · show (assignEach es X.env).length + 1 = _
        rw [h2]; rfl
      · show List.findIdx? _ ((false, _) :: assignEach es X.env) = none
        rw [List.findIdx?_cons]
        simp [h3]
    | x o i =>
      cases e <;> first | (exact absurd h0 Bool.false_ne_true) | skip
      simp only [Bool.and_eq_true] at h0
      refine ⟨pgs_cons (pg_item F tk h0.1.1 h0.1.2 h0.2) h1 rfl, ?_, ?_⟩
      · show (assignEach es X.env).length + 1 = _
        rw [h2]; rfl
      · show List.findIdx? _ ((false, _) :: assignEach es X.env) = none
        rw [List.findIdx?_cons]
        simp [h3]
theorem gTs_len {ts : List Tst} {vs : List V} {σ : L2.St} {H : Hp} {Q : L2.St → Hp → Prop} (h : gTs w W φ ts vs σ H Q) : True := trivial
theorem S_set {i : Nat} {a : IE} {E : Ends} {σ : L2.St} {H : Hp} (h : rdS w W (run φ (.set i a)) E σ H) : tAsg (rdE w W (evalE φ a)) (gName i) E σ H := by
  obtain ⟨g0, H0, g, s, h, hp⟩ := h
  simp only [run] at hp
  exact ⟨g0, H0, g, s, h, postS_bind hp fun ra s1 g1 H1 x h1 k1 r1 hp1 => setR_ok h1 r1 hp1⟩
theorem S_loop {tg : Tgt} {it : IT} {b : ISs} {E : Ends} {σ : L2.St} {H : Hp} (h : rdS w W (run φ (.loop tg it b)) E σ H) :
    tFor (rdI w W (evalIT φ it)) (tgG w.K tg) (rdS w W (runs φ b)) E σ H := by
  obtain ⟨g0, H0, g, s, h, hp⟩ := h
  rw [run_loop] at hp
  refine ⟨g0, H0, g, s, h, postS_bind hp fun ds s1 g1 H1 J h1 k1 r1 hp1 => ?_⟩
  obtain ⟨G, J1, hG, hlen⟩ := r1
  refine ⟨fun i m σ H => m = ds.length - i ∧ i ≤ ds.length ∧ ∃ g s, SR w g0 H0 g s σ H ∧ G g H ∧ postS w W g0 H0 g H E (loopL (turnL φ tg b) (ds.drop i) s), ⟨ds.length, by simp, Nat.zero_le _, g1, s1, h1, hG, hp1⟩, ?_⟩
  rintro i m σ2 H2 ⟨rfl, hi, g2, s2, h2, hG2, hp2⟩
  by_cases hlt : i < ds.length
  · refine .inr ⟨J1.go i g2 H2 hlt hG2, fun σ' H' => ∃ g s, SR w g0 H0 g s σ' H' ∧ G g H' ∧ postS w W g0 H0 g H' E (loopL (turnL φ tg b) (ds.drop (i + 1)) s), fun σ' H' ⟨g', s', h', G', p'⟩ => ⟨ds.length - (i + 1), by omega, rfl, hlt, g', s', h', G', p'⟩, fun x H3 hy => ?_⟩
    have ed : ds[i]? = some ds[i] := List.getElem?_eq_getElem hlt
    obtain ⟨h3, k3, r3⟩ := J1.yld i g2 H2 x H3 _ _ _ _ _ hG2 ed hy h2
    have hG3 := J1.mono _ _ _ _ hG2 k3
    rw [List.drop_eq_getElem_cons hlt] at hp2
    have hp3 := postS_from k3 hp2
    simp only [loopL] at hp3
    unfold turnL at hp3
    split at hp3
    · rename_i s3 e3
      refine asg_ok h3 r3 e3 fun σ4 h4 _ _ => ?_
      refine ⟨g0, H0, g2, s3, h4, postS_seq hp3 (fun s5 g5 H5 σ5 h5 k5 hp5 => ?_) (fun s5 g5 H5 σ5 h5 k5 hp5 => ?_) (fun s5 g5 H5 σ5 h5 k5 hp5 => ?_) (fun r v s5 g5 H5 σ5 h5 k5 r5 hp5 => ?_)⟩
      · exact ⟨g5, s5, h5, J1.mono _ _ _ _ hG3 k5, hp5⟩
      · exact hp5 g5 H5 σ5 h5 (Step.refl _ _)
      · exact ⟨g5, s5, h5, J1.mono _ _ _ _ hG3 k5, hp5⟩
      · exact hp5 g5 H5 σ5 v h5 (Step.refl _ _) r5
    · exact hp3.elim
  · have e : i = ds.length := by omega
    subst e
    rw [List.drop_length] at hp2
    exact .inl ⟨J1.stop g2 H2 hG2, hp2 g2 H2 σ2 h2 (Step.refl _ _)⟩
theorem S_wh {t : IE} {b : ISs} {E : Ends} {σ : L2.St} {H : Hp} (h : rdS w W (run φ (.wh t b)) E σ H) : tWhile (rdT w W (tru1 (evalE φ t))) (rdS w W (runs φ b)) E σ H := by
  obtain ⟨g0, H0, g, s, h, hp⟩ := h
  simp only [run] at hp
  refine ⟨fun m σ H => ∃ g s, SR w g0 H0 g s σ H ∧ postS w W g0 H0 g H E (whL (tru1 (evalE φ t)) (runs φ b) m s), ⟨FUEL, g, s, h, hp⟩, ?_⟩
  rintro m σ1 H1 ⟨g1, s1, h1, hp1⟩
  cases m with
  | zero => exact hp1.elim
  | succ m =>
    simp only [whL] at hp1
    refine ⟨g0, H0, g1, s1, h1, postS_bind hp1 fun kk s2 g2 H2 bb h2 k2 r2 hp2 => ?_⟩
    cases r2
    cases kk with
    | true =>
      rw [if_pos rfl] at hp2 ⊢
      refine ⟨fun σ' H' => ∃ g s, SR w g0 H0 g s σ' H' ∧ postS w W g0 H0 g H' E (whL (tru1 (evalE φ t)) (runs φ b) m s), fun σ' H' p => ⟨m, Nat.lt_succ_self _, p⟩, ?_⟩
      refine ⟨g0, H0, g2, s2, h2, postS_seq hp2 (fun s5 g5 H5 σ5 h5 k5 hp5 => ?_) (fun s5 g5 H5 σ5 h5 k5 hp5 => ?_) (fun s5 g5 H5 σ5 h5 k5 hp5 => ?_) (fun r v s5 g5 H5 σ5 h5 k5 r5 hp5 => ?_)⟩
      · exact ⟨g5, s5, h5, hp5⟩
      · exact hp5 g5 H5 σ5 h5 (Step.refl _ _)
      · exact ⟨g5, s5, h5, hp5⟩
      · exact hp5 g5 H5 σ5 v h5 (Step.refl _ _) r5
    | false =>
      rw [if_neg Bool.false_ne_true] at hp2 ⊢
      exact hp2 g2 H2 σ1 h2 (Step.refl _ _)
theorem S_ret {a : IE} {E : Ends} {σ : L2.St} {H : Hp} (h : rdS w W (run φ (.ret a)) E σ H) : tRet (rdE w W (evalE φ a)) E σ H := by
  obtain ⟨g0, H0, g, s, h, hp⟩ := h
  simp only [run] at hp
  refine ⟨g0, H0, g, s, h, postS_bind hp fun ra s1 g1 H1 x h1 k1 r1 hp1 => ?_⟩
  cases ra with
  | val d => exact hp1 g1 H1 σ x h1 (Step.refl _ _) r1
  | own ds =>
    obtain ⟨a, rfl, o, f⟩ := r1
    exact hp1 g1 H1 σ _ h1 (Step.refl _ _) ⟨a, rfl, o⟩
  | ref i =>
    obtain ⟨e1, y, e2, _⟩ := r1
    simp only [e2] at hp1
    cases y with
    | no => exact hp1.elim
    | val _ => exact hp1.elim
    | own ds =>
      obtain ⟨a, e3, o⟩ := h1.slot i _ e2
      rw [e1] at e3; cases e3
      exact hp1 g1 H1 σ _ h1 (Step.refl _ _) ⟨a, rfl, o⟩
end
mutual
theorem sndS {w : Wd} {φ : FS} {k : Nat} {W : WX} {X : Cx} {c : SC} (F : Fits w φ k c X) (tk : Takes X W) (hp : PassesOwn (model X.prog X.w) X.A X.env X.xe) : ∀ (a : IS) (st : Stmt), chkS c a st = true → PS X st (rdS w W (run φ a))
  | .set i a, st, h => by
    simp only [chkS] at h
    split at h <;> first | (exact absurd h Bool.false_ne_true) | skip
    rename_i x px v pos
    rw [Bool.and_eq_true, Bool.and_eq_true, Bool.and_eq_true] at h
    obtain ⟨⟨⟨h1, h2⟩, h3⟩, h4⟩ := h
    obtain ⟨h5, h6⟩ := F.loc h2
    by_cases hn : notComp v = true
    · exact (ps_set F.nd (F.at h1) h5 (sndE a W X c v F tk h3).1 (noSwap hn) h6).imp fun E σ H q => S_set q
    · have hn : notComp v = false := by simpa using hn
      rw [hn, Bool.false_or] at h4
      unfold lcSet at h4
      split at h4 <;> first | (exact absurd h4 Bool.false_ne_true) | skip
      rw [Bool.and_eq_true, Bool.and_eq_true, Bool.not_eq_true'] at h4
      cases a <;> first | (simp [chkE] at h3; done) | skip
      · simp only [chkE] at h3
        split at h3 <;> first | (exact absurd h3 Bool.false_ne_true) | skip
        rename_i e0
        cases e0
        rw [Bool.and_eq_true, Bool.and_eq_true, Bool.and_eq_true] at h3
        obtain ⟨⟨⟨q1, q2⟩, q3⟩, q4⟩ := h3
        exact (L_setComp F h1 h4.1.1 h4.1.2 h4.2 q1 (sndIT _ W X c _ _ F tk q2) (fun Y FY tY => sndOC _ W0 Y _ _ FY tY q4) (fun Y FY tY => (sndE _ W0 Y _ _ FY tY q3).1)).imp fun E σ H q => S_set q
  | .setT ts a, st, h => by
    simp only [chkS] at h
    split at h <;> first | (exact absurd h Bool.false_ne_true) | skip
    rw [Bool.and_eq_true, Bool.and_eq_true] at h
    obtain ⟨⟨h1, h2⟩, h3⟩ := h
    obtain ⟨g1, g2, g3⟩ := pgTs_ok F tk h2
    refine (ps_asg (sndE a W X c _ F tk h1).1 (pg_tup F.calm g1 g2 g3) noSwapT (noSwapS h3) rfl).imp fun E σ H q => ?_
    obtain ⟨g0, H0, g, s, h, hp⟩ := q
    simp only [run] at hp
    refine ⟨g0, H0, g, s, h, postS_bind hp fun ra s1 g1 H1 x h1 k1 r1 hp1 => ?_⟩
    split at hp1
    · rename_i ds
      split at hp1
      · rename_i hl
        rw [F.K]
        cases r1 with
        | tup e1 z rr => exact ⟨_, _, rfl, e1, by rw [rr.length]; exact hl, setAll_ok h1 rr hp1⟩
      · exact hp1.elim
    · exact hp1.elim
  | .setI o i a, st, h => by
    simp only [chkS] at h
    split at h <;> first | (exact absurd h Bool.false_ne_true) | skip
    rw [Bool.and_eq_true, Bool.and_eq_true, Bool.and_eq_true] at h
    obtain ⟨⟨⟨h1, h2⟩, h3⟩, h4⟩ := h
    refine (ps_asg (sndE a W X c _ F tk h1).1 (pg_item F tk h2 h3 h4) noSwapI rfl rfl).imp fun E σ H q => ?_
    obtain ⟨g0, H0, g, s, h, hp⟩ := q
    simp only [run] at hp
    refine ⟨g0, H0, g, s, h, postS_bind hp fun ra s1 g1 H1 x h1 k1 r1 hp1 => ?_⟩
    obtain ⟨dd, s2, g2, h2, k2, r2, hp2⟩ := frzS h1 r1 hp1
    have e : ∀ (q : Out Flow), (q.bind fun f s => .ok f s) = q := fun q => by cases q <;> rfl
    exact gSub_ok (kk := fun f s => .ok f s) (E := E) h2 r2 (by rw [e]; exact hp2) fun s3 g3 H3 σ3 h3 k3 hp3 => hp3 g3 H3 σ3 h3 (Step.refl _ _)
  | .setF _ _ _, st, h => by simp [chkS] at h
  | .ex a, st, h => by
    simp only [chkS] at h
    split at h <;> first | (exact absurd h Bool.false_ne_true) | skip
    rw [Bool.and_eq_true] at h
    refine (ps_expr (sndE a W X c _ F tk h.1).1 (noSwap h.2)).imp fun E σ H q => ?_
    obtain ⟨g0, H0, g, s, h, hp⟩ := q
    simp only [run] at hp
    exact ⟨g0, H0, g, s, h, postS_bind hp fun ra s1 g1 H1 x h1 k1 r1 hp1 => hp1 g1 H1 σ h1 (Step.refl _ _)⟩
  | .ite t a b, st, h => by
    simp only [chkS] at h
    split at h <;> first | (exact absurd h Bool.false_ne_true) | skip
    rw [Bool.and_eq_true, Bool.and_eq_true, Bool.and_eq_true] at h
    obtain ⟨⟨⟨h1, h2⟩, h3⟩, h4⟩ := h
    refine (ps_if ((sndE t W X c _ F tk h1).2 h2) (sndSs F tk hp a _ h3) (sndSs F tk hp b _ h4)).imp fun E σ H q => ?_
    obtain ⟨g0, H0, g, s, h, hp⟩ := q
    have hp : postS w W g0 H0 g H E ((tru1 (evalE φ t) s).bind fun k s => if k then runs φ a s else runs φ b s) := by
      simp only [run] at hp
      simp only [tru1, bind_assoc]; exact hp
    refine ⟨g0, H0, g, s, h, postS_bind hp fun kk s1 g1 H1 x h1 k1 r1 hp1 => ?_⟩
    cases r1
    cases kk with
    | true => exact ⟨g0, H0, g1, s1, h1, hp1⟩
    | false => exact ⟨g0, H0, g1, s1, h1, hp1⟩
  | .loop tg it b, st, h => by
    simp only [chkS] at h
    split at h <;> first | (exact absurd h Bool.false_ne_true) | skip
    rw [Bool.and_eq_true, Bool.and_eq_true, Bool.and_eq_true] at h
    obtain ⟨⟨⟨h1, h2⟩, h3⟩, h4⟩ := h
    exact (ps_for hp F.calm (sndIT it W X c _ _ F tk h2) (pg_ok F h1) (sndSs F tk hp b _ h3) (noSet_ok h4 X.env)).imp fun E σ H q => S_loop q
  | .wh t b, st, h => by
    simp only [chkS] at h
    split at h <;> first | (exact absurd h Bool.false_ne_true) | skip
    rw [Bool.and_eq_true, Bool.and_eq_true] at h
    obtain ⟨⟨h1, h2⟩, h3⟩ := h
    exact (ps_while hp ((sndE t W X c _ F tk h1).2 h2) (sndSs F tk hp b _ h3)).imp fun E σ H q => S_wh q
  | .ret a, st, h => by
    simp only [chkS] at h
    split at h <;> first | (exact absurd h Bool.false_ne_true) | skip
    · exact (ps_ret (sndE a W X c _ F tk h).1).imp fun E σ H q => S_ret q
    · unfold isNonC at h
      split at h <;> first | (exact absurd h Bool.false_ne_true) | skip
      refine ps_retN.imp fun E σ H q => ?_
      obtain ⟨g0, H0, g, s, h, hp⟩ := q
      simp only [run] at hp
      exact hp g H σ .non h (Step.refl _ _) .non
  | .raise _ _, st, h => by simp [chkS] at h
  | .tr _ _ _ _, st, h => by simp [chkS] at h
  | .pass, st, h => by
    simp only [chkS] at h
    split at h <;> first | (exact absurd h Bool.false_ne_true) | skip
    refine ps_pass.imp fun E σ H q => ?_
    obtain ⟨g0, H0, g, s, h, hp⟩ := q
    simp only [run] at hp
    exact hp g H σ h (Step.refl _ _)
  | .never, st, h => ps_never.imp fun E σ H q => by
    obtain ⟨g0, H0, g, s, h, hp⟩ := q
    simp only [run] at hp
    exact hp
theorem sndSs {w : Wd} {φ : FS} {k : Nat} {W : WX} {X : Cx} {c : SC} (F : Fits w φ k c X) (tk : Takes X W) (hp : PassesOwn (model X.prog X.w) X.A X.env X.xe) : ∀ (a : ISs) (st : List Stmt), chkSs c a st = true → PSs X st (rdS w W (runs φ a))
  | .nil, st, h => by
    cases st with
    | nil =>
      refine pss_nil.imp fun E σ H q => ?_
      obtain ⟨g0, H0, g, s, h, hp⟩ := q
      simp only [runs] at hp
      exact hp g H σ h (Step.refl _ _)
    | cons x r => simp [chkSs] at h
  | .cons a r, st, h => by
    cases st with
    | nil => simp [chkSs] at h
    | cons x xs =>
      simp only [chkSs] at h
      rw [Bool.and_eq_true] at h
      refine (pss_cons (sndS F tk hp a x h.1) (sndSs F tk hp r xs h.2)).imp fun E σ H q => ?_
      obtain ⟨g0, H0, g, s, h, hp⟩ := q
      simp only [runs] at hp
      refine ⟨g0, H0, g, s, h, postS_seq hp (fun s5 g5 H5 σ5 h5 k5 hp5 => ?_) (fun s5 g5 H5 σ5 h5 k5 hp5 => ?_) (fun s5 g5 H5 σ5 h5 k5 hp5 => ?_) (fun r v s5 g5 H5 σ5 h5 k5 r5 hp5 => ?_)⟩
      · exact ⟨g0, H0, g5, s5, h5, hp5⟩
      · exact hp5 g5 H5 σ5 h5 (Step.refl _ _)
      · exact hp5 g5 H5 σ5 h5 (Step.refl _ _)
      · exact hp5 g5 H5 σ5 v h5 (Step.refl _ _) r5
end
end PL

/-! defs -/
namespace PL
open PySem PySem.Spec PyProof.Rows L2

/-- a def: its name, its text, its names by slot, its parameters, its plain form -/
structure DC where
  nm : Str
  st : Stmt
  N : List Str
  ps : List Str
  d : PL.Def
def scB (N P : List Str) (sc : Scope) : Bool :=
  (match sc.kind with | .function => true | _ => false) && !sc.isCoroutine && !sc.isGenerator && decide N.Nodup && decide (N.take P.length = P) && P.all (fun x => match sc.names.lookup x with | some .local => true | some .cell => true | _ => false) && sc.names.all (fun y => match y.2 with | .free => false | _ => true)
theorem scB_ok {N P : List Str} {sc : Scope} (h : scB N P sc = true) : FnScope N P sc := by
  unfold scB at h
  simp only [Bool.and_eq_true, Bool.not_eq_true', decide_eq_true_eq, List.all_eq_true] at h
  obtain ⟨⟨⟨⟨⟨⟨h1, h2⟩, h3⟩, h4⟩, h5⟩, h6⟩, h7⟩ := h
  refine ⟨?_, h2, h3, h4, h5, fun x hx => ?_, fun y hy e => ?_⟩
  · split at h1
    · assumption
    · exact absurd h1 Bool.false_ne_true
  · have q := h6 x hx
    split at q
    · exact .inl (by assumption)
    · exact .inr (by assumption)
    · exact absurd q Bool.false_ne_true
  · have q := h7 y hy
    rw [e] at q
    exact absurd q Bool.false_ne_true
def ctxOf (gl : List (Str × D)) (bt : List Str) (ct : List (Str × Nat)) (x : DC) : SC :=
  { N := x.N, sc := (defScope x.st).names, fn := ((defScope x.st).names.filter fun y => y.2 == .cell).map (·.1), gl := gl, bt := bt, ct := ct }
def chkD (gl : List (Str × D)) (bt : List Str) (ct : List (Str × Nat)) (x : DC) : Bool :=
  scB x.N x.ps (defScope x.st) && chkSs (ctxOf gl bt ct x) x.d.body (defBody x.st) && decide (x.d.np = x.ps.length) && decide (x.d.nn = x.N.length)

section
variable {P : Program} {wd : World} {K : PySem.W.Frag} {mg : Str → Option Value} {base : Heap} {w : Wd} {k : Nat} {gl : List (Str × D)} {bt : List Str} {ct : List (Str × Nat)} {φ : FS}
theorem start_sr {g : Gh} {H : Hp} {st : List SO} {vs : List V} {ds : List D} {N : List Str} {nn : Nat} (hS : StOk w g H st) (r : Reps w g H vs ds) (hn : nn = N.length) : SR w g H g ⟨ds.map .val ++ List.replicate (nn - ds.length) .no, st⟩ (L2.start N vs) H := by
  have hl := r.length
  refine ⟨?_, fun i x e => ?_, fun i j ds' es e1 e2 _ => ?_, hS, StepF.refl⟩
  · unfold L2.start
    rw [List.length_append, List.length_map, List.length_replicate, List.length_append, List.length_map, List.length_replicate, hl, hn]
  · have e : (ds.map Sl.val ++ List.replicate (nn - ds.length) .no)[i]? = some x := e
    unfold L2.start
    by_cases hi : i < ds.length
    · rw [List.getElem?_append_left (by simpa using hi), List.getElem?_map, List.getElem?_eq_getElem hi] at e
      cases e
      obtain ⟨v, e1, r1⟩ := r.get (List.getElem?_eq_getElem hi)
      refine ⟨v, ?_, r1⟩
      rw [List.getElem?_append_left (by simpa [hl] using hi), List.getElem?_map, e1]; rfl
    · rw [List.getElem?_append_right (by simpa using hi)] at e
      rw [List.getElem?_replicate] at e
      split at e
      · cases e; trivial
      · cases e
  · exfalso
    have e1 : (ds.map Sl.val ++ List.replicate (nn - ds.length) .no)[i]? = some (.own ds') := e1
    by_cases hi : i < ds.length
    · rw [List.getElem?_append_left (by simpa using hi), List.getElem?_map, List.getElem?_eq_getElem hi] at e1
      cases e1
    · rw [List.getElem?_append_right (by simpa using hi), List.getElem?_replicate] at e1
      split at e1 <;> cases e1
theorem runDef_len {d : PL.Def} {as : List D} {st : List SO} (h : runDef φ d as st ≠ .bad) : as.length = d.np := by
  unfold runDef at h
  split at h
  · assumption
  · exact absurd rfl h
theorem def_ok {x : DC} {f : Addr} {fd : FuncData} (hK : K = w.K) (F : Fun K x.nm x.nm x.st f fd) (hc : chkD gl bt ct x = true) (hgl : ∀ p ∈ gl, ∃ u, mg p.1 = some u ∧ GlR p.2 u) (hbt : ∀ y ∈ bt, mg y = none)
    (hct : ∀ p ∈ ct, CallOk P wd K mg base w k p.1 (φ p.2)) : FnOk P wd K mg base (L2.CX P wd) (k + 1) f fd x.ps (spOf w (runDef φ x.d)) := by
  unfold chkD at hc
  simp only [Bool.and_eq_true, decide_eq_true_eq] at hc
  obtain ⟨⟨⟨h1, h2⟩, h3⟩, h4⟩ := hc
  have S := scB_ok h1
  have len : ∀ vs H Q E, spOf w (runDef φ x.d) vs H Q E → vs.length = x.ps.length := fun vs H Q E ⟨g, st, ds, _, r, hp⟩ => by
    rw [r.length, ← h3]
    exact runDef_len fun e => by rw [e] at hp; exact hp
  refine F.okX S len fun cdv A outer s H vs Q E hr hsp => ?_
  obtain ⟨g, st, ds, hS, r, hp⟩ := hsp
  have FX : Fits w φ k (ctxOf gl bt ct x) (cxOf (L2.CX P wd) P wd K mg base x.N x.nm (defScope x.st) f cdv A outer s H E) := ⟨hK, rfl, rfl, S.nd, S.kind, rfl, fun _ _ => rfl, hgl, hbt, hct, hr⟩
  have tk : Takes (cxOf (L2.CX P wd) P wd K mg base x.N x.nm (defScope x.st) f cdv A outer s H E) (fun cls d _ H => E cls d H) := takes_of rfl rfl rfl rfl
  refine ⟨_, sndSs FX tk (passes_of rfl) x.d.body (defBody x.st) h2, g, H, g, _, start_sr hS r h4, ?_⟩
  unfold runDef at hp
  split at hp
  · rename_i hl
    rw [← hl] at hp
    split at hp
    · rename_i s' e
      rw [e]
      exact fun g' H' σ' h' k' => hp g' H' .non h'.fr h'.st .non
    · rename_i rr s' e
      rw [e]
      exact fun g' H' σ' v h' k' r' => hp g' H' v h'.fr h'.st r'
    · exact hp.elim
    · rename_i x' s' e
      rw [e]
      exact fun g' H' σ' cls d h' k' r' => hp g' H' cls d h'.fr h'.st r'
    · exact hp.elim
  · exact hp.elim
/-- what is known of a def: where it stands, how its arguments bind -/
structure DefIn (K : PySem.W.Frag) (mg : Str → Option Value) (x : DC) : Prop where
  ex : ∃ (f : Addr) (fd : FuncData), Fun K x.nm x.nm x.st f fd ∧ (∀ us : List Value, us.length = x.ps.length → bindArgs fd ⟨us, []⟩ = pure (x.ps.zip us)) ∧ mg x.nm = some (.ref f)
/-- the defs of a program -/
structure ModIn (K : PySem.W.Frag) (mg : Str → Option Value) (gl : List (Str × D)) (bt : List Str) (ds : List DC) : Prop where
  gl : ∀ p ∈ gl, ∃ u, mg p.1 = some u ∧ GlR p.2 u
  bt : ∀ y ∈ bt, mg y = none
  ds : ∀ x ∈ ds, DefIn K mg x
def ctOf (ds : List DC) : List (Str × Nat) := ds.zipIdx.map fun p => (p.1.nm, p.2)
def tabOf (ds : List DC) (i : Nat) : Option PL.Def := ds[i]?.map (·.d)
theorem mod_ok {ds : List DC} (hK : K = w.K) (M : ModIn K mg gl bt ds) (hc : ds.all (chkD gl bt (ctOf ds)) = true) : ∀ n, ∀ p ∈ ctOf ds, CallOk P wd K mg base w n p.1 (Phi (tabOf ds) n p.2)
  | 0, p, hp => by
    obtain ⟨⟨x, i⟩, hx, rfl⟩ := List.mem_map.mp hp
    obtain ⟨f, fd, F, hb, hm⟩ := (M.ds x (List.fst_mem_of_mem_zipIdx hx)).ex
    refine ⟨f, fd, x.ps, hm, F.kp, .all hb, ⟨fun vs H Q E ⟨_, _, _, _, _, hp⟩ => hp.elim, fun A outer s H args us vs Q E _ _ _ _ ⟨_, _, _, _, _, hp⟩ => hp.elim⟩⟩
  | n + 1, p, hp => by
    obtain ⟨⟨x, i⟩, hx, rfl⟩ := List.mem_map.mp hp
    have hm' := List.fst_mem_of_mem_zipIdx hx
    obtain ⟨f, fd, F, hb, hm⟩ := (M.ds x hm').ex
    refine ⟨f, fd, x.ps, hm, F.kp, .all hb, (def_ok (φ := Phi (tabOf ds) n) (k := n) hK F (List.all_eq_true.mp hc x hm') M.gl M.bt (mod_ok hK M hc n)).imp fun vs H Q E ⟨g, st, as, hS, r, hp⟩ => ⟨g, st, as, hS, r, ?_⟩⟩
    have e : ds[i]? = some x := by
      have := List.mem_zipIdx_iff_getElem?.mp hx
      simpa using this
    have e2 : tabOf ds i = some x.d := by unfold tabOf; rw [e]; rfl
    simp only [Phi, e2] at hp
    exact hp
/-- a def by what stands behind the top -/
theorem mk_def {x : DC} {h : Heap} (X : K.In h) (G : h.Ns mainGlobals mg) {f : Addr} {od an : Option Addr} {sl : Array (Option Value)} {oc kV dc pm cd ct : Value}
    (a : PySem.W.nsIn K mainGlobals x.nm = some (some (.ref f))) (l : K.lookup f = some ⟨oc, od, .func (PySem.W.fnOf x.nm x.nm (defArgs x.st) (defBody x.st) (defScope x.st) .none kV dc pm an cd ct), sl⟩)
    (c : PySem.W.codeIn K cd x.nm = true) (k : PySem.W.keepIn K (.ref f) = true)
    (b : ∀ (kV doc pm : Value) (an : Option Addr) (cdv ct : Value) (us : List Value), us.length = x.ps.length → bindArgs (PySem.W.fnOf x.nm x.nm (defArgs x.st) (defBody x.st) (defScope x.st) .none kV doc pm an cdv ct) ⟨us, []⟩ = pure (x.ps.zip us)) : DefIn K mg x :=
  ⟨f, _, fun_mk l c k, fun us hu => b _ _ _ _ _ _ us hu, PySem.W.mg_of X G a⟩
theorem mk_mod {ds : List DC} {h : Heap} (X : K.In h) (G : h.Ns mainGlobals mg) (h1 : ∀ p ∈ gl, ∃ u, mg p.1 = some u ∧ GlR p.2 u) (h2 : ∀ y ∈ bt, mg y = none) (h3 : ∀ x ∈ ds, DefIn K mg x) : ModIn K mg gl bt ds := ⟨h1, h2, h3⟩
theorem ds_nil : ∀ x ∈ ([] : List DC), DefIn K mg x := fun _ h => absurd h (by simp)
theorem ds_cons {x : DC} {l : List DC} (h : DefIn K mg x) (r : ∀ x ∈ l, DefIn K mg x) : ∀ y ∈ x :: l, DefIn K mg y := fun y hy => by
  rcases List.mem_cons.mp hy with rfl | hy
  · exact h
  · exact r y hy
theorem bt_nil : ∀ x ∈ ([] : List Str), mg x = none := fun _ h => absurd h (by simp)
theorem bt_cons {x : Str} {l : List Str} {h : Heap} (X : K.In h) (G : h.Ns mainGlobals mg) (a : PySem.W.nsIn K mainGlobals x = some none) (r : ∀ x ∈ l, mg x = none) : ∀ y ∈ x :: l, mg y = none := fun y hy => by
  rcases List.mem_cons.mp hy with rfl | hy
  · exact PySem.W.mg_none_of X G a
  · exact r y hy
theorem gl_nil : ∀ p ∈ ([] : List (Str × D)), ∃ u, mg p.1 = some u ∧ GlR p.2 u := fun _ h => absurd h (by simp)
theorem gl_int {x : Str} {i : Int} {t : Tok} {l : List (Str × D)} {h : Heap} (X : K.In h) (G : h.Ns mainGlobals mg) (a : PySem.W.nsIn K mainGlobals x = some (some (.int i t))) (r : ∀ p ∈ l, ∃ u, mg p.1 = some u ∧ GlR p.2 u) : ∀ p ∈ (x, .int i) :: l, ∃ u, mg p.1 = some u ∧ GlR p.2 u := fun y hy => by
  rcases List.mem_cons.mp hy with rfl | hy
  · exact ⟨_, PySem.W.mg_of X G a, _, rfl⟩
  · exact r y hy
theorem gl_str {x y : Str} {t : Tok} {l : List (Str × D)} {h : Heap} (X : K.In h) (G : h.Ns mainGlobals mg) (o : okS y) (a : PySem.W.nsIn K mainGlobals x = some (some (.str y t))) (r : ∀ p ∈ l, ∃ u, mg p.1 = some u ∧ GlR p.2 u) : ∀ p ∈ (x, .str y) :: l, ∃ u, mg p.1 = some u ∧ GlR p.2 u := fun z hz => by
  rcases List.mem_cons.mp hz with rfl | hz
  · exact ⟨_, PySem.W.mg_of X G a, ⟨_, rfl⟩, o⟩
  · exact r z hz
/-- the law's def -/
theorem law_ok {ds : List DC} {i n : Nat} {x : DC} {y : Str} {fa : Addr} (hK : K = w.K) (M : ModIn K mg gl bt ds) (hc : ds.all (chkD gl bt (ctOf ds)) = true) (hi : ds[i]? = some x) (hx : x.ps = [y]) (hfa : mg x.nm = some (.ref fa)) :
    ∃ fd : FuncData, (∀ (s : Shared) (u : Value), BindsTo s fd ⟨[u], []⟩ [(y, u)]) ∧ ∀ base : Heap, FnOk P wd K mg base (L2.CX P wd) (n + 1) fa fd [y] (spOf w (Phi (tabOf ds) (n + 1) i)) := by
  have hm' : x ∈ ds := List.mem_of_getElem? hi
  obtain ⟨f, fd, F, hb, hm⟩ := (M.ds x hm').ex
  rw [hfa] at hm; cases hm
  refine ⟨fd, fun s u => .of_eq ?_, fun base => ?_⟩
  · have := hb [u] (by rw [hx]; rfl)
    rw [hx] at this
    exact this
  · have q := (def_ok (P := P) (wd := wd) (base := base) (φ := Phi (tabOf ds) n) (k := n) hK F (List.all_eq_true.mp hc x hm') M.gl M.bt (mod_ok hK M hc n)).imp (sp' := spOf w (Phi (tabOf ds) (n + 1) i)) fun vs H Q E ⟨g, st, as, hS, r, hp⟩ => ⟨g, st, as, hS, r, ?_⟩
    · rw [hx] at q; exact q
    · have e2 : tabOf ds i = some x.d := by unfold tabOf; rw [hi]; rfl
      simp only [Phi, e2] at hp
      exact hp
/-- what the law's def is asked -/
theorem law_sp {F : List D → List SO → FO} {a : Addr} {ns : List Int} {H : Hp} (ho : Only H) (hs : SqL w.K H a (ns.map V.int)) (h : ∃ st, F [.scr ns] [] = .ok (.val (.bl true)) st) : spOf w F [.ref a] H (fun v _ => v = .bl true) fun _ _ _ => False := by
  obtain ⟨st, h⟩ := h
  refine ⟨⟨[], fun _ => False⟩, [], [.scr ns], ⟨rfl, List.nodup_nil, fun _ h => absurd h (by simp), fun _ z => z.elim, fun _ _ _ e => by simp at e⟩, .cons (.scr fun H' hf => ?_) .nil, ?_⟩
  · rcases hs with (e | ⟨o, e⟩) | e
    · rcases ho a with z | ⟨o, xs, z⟩ <;> rw [e] at z <;> cases z
    · exact .inl (.inr ⟨o, hf _ _ _ e⟩)
    · exact .inr e
  · rw [h]
    intro g' H' v _ _ r
    cases r
    rfl
theorem cx_no {H : Hp} {s : Shared} {e : Value} {s' : Shared} (h : L2.CX P wd [] H s (fun _ _ _ => False) e s') : False := by
  obtain ⟨_, _, _, _, _, _, _, _, _, _, _, _, z⟩ := h
  exact z
end
end PL

/-! rules to run plain programs -/
namespace PL
open L2 (ixN atI)
@[simp] theorem bind_ok {α β : Type} (a : α) (s : S) (f : α → S → Out β) : Out.bind (.ok a s) f = f a s := (rfl)
@[simp] theorem bind_bad {α β : Type} (f : α → S → Out β) : Out.bind .bad f = .bad := (rfl)
@[simp] theorem bind_err {α β : Type} (x : Exc) (s : S) (f : α → S → Out β) : Out.bind (.err x s) f = .err x s := (rfl)
@[simp] theorem of_some {α : Type} (a : α) (s : S) : Out.of (some a) s = .ok a s := (rfl)
@[simp] theorem of_none {α : Type} (s : S) : (Out.of (none : Option α) s) = .bad := (rfl)
@[simp] theorem res_val (d : D) (s : S) : Rx.res (.val d) s = some d := (rfl)
@[simp] theorem res_own (ds : List D) (s : S) : Rx.res (.own ds) s = some (.lst ds) := (rfl)
@[simp] theorem res_ref (i : Nat) (env : List Sl) (st : List SO) : Rx.res (.ref i) ⟨env, st⟩ = match env[i]? with
  | some (.val d) => some d
  | some (.own ds) => some (.lst ds)
  | _ => none := (rfl)
@[simp] theorem frz_val (d : D) (s : S) : Rx.frz (.val d) s = .ok d s := (rfl)
@[simp] theorem frz_own (ds : List D) (s : S) : Rx.frz (.own ds) s = .ok (.lst ds) s := (rfl)
@[simp] theorem frz_ref (i : Nat) (s : S) : Rx.frz (.ref i) s = readV i s := (rfl)
@[simp] theorem tru_bl (b : Bool) (s : S) : Rx.tru (.val (.bl b)) s = .ok b s := (rfl)
@[simp] theorem tru_int (i : Int) (s : S) : Rx.tru (.val (.int i)) s = .ok (i != 0) s := (rfl)
@[simp] theorem ofV_some' (r : Rv) (s : S) : ofV (some r) s = .ok r.x s := (rfl)
@[simp] theorem ofV_none' (s : S) : ofV none s = .bad := (rfl)
@[simp] theorem x_val (d : D) : Rv.x (.val d) = .val d := (rfl)
@[simp] theorem x_own (ds : List D) : Rv.x (.own ds) = .own ds := (rfl)
@[simp] theorem op1_val (f : D → Option Rv) (a : D) (s : S) : op1 f (.val a) s = ofV (f a) s := (rfl)
@[simp] theorem op1_own (f : D → Option Rv) (a : List D) (s : S) : op1 f (.own a) s = ofV (f (.lst a)) s := (rfl)
@[simp] theorem op2_vv (f : D → D → Option Rv) (a b : D) (s : S) : op2 f (.val a) (.val b) s = ofV (f a b) s := (rfl)
@[simp] theorem op2_vo (f : D → D → Option Rv) (a : D) (b : List D) (s : S) : op2 f (.val a) (.own b) s = ofV (f a (.lst b)) s := (rfl)
@[simp] theorem op2_ov (f : D → D → Option Rv) (a : List D) (b : D) (s : S) : op2 f (.own a) (.val b) s = ofV (f (.lst a) b) s := (rfl)
@[simp] theorem op2_oo (f : D → D → Option Rv) (a : List D) (b : List D) (s : S) : op2 f (.own a) (.own b) s = ofV (f (.lst a) (.lst b)) s := (rfl)
@[simp] theorem op2_rx (f : D → D → Option Rv) (i : Nat) (y : Rx) (s : S) : op2 f (.ref i) y s = match (Rx.ref i).res s, y.res s with
  | some a, some b => ofV (f a b) s
  | _, _ => .bad := (rfl)
@[simp] theorem op2_xr (f : D → D → Option Rv) (i : Nat) (y : Rx) (s : S) : op2 f y (.ref i) s = match y.res s, (Rx.ref i).res s with
  | some a, some b => ofV (f a b) s
  | _, _ => .bad := (rfl)
@[simp] theorem op1_r (f : D → Option Rv) (i : Nat) (s : S) : op1 f (.ref i) s = match (Rx.ref i).res s with
  | some a => ofV (f a) s
  | none => .bad := (rfl)
@[simp] theorem resAll_nil (s : S) : resAll [] s = some [] := (rfl)
@[simp] theorem resAll_cons (r : Rx) (rs : List Rx) (s : S) : resAll (r :: rs) s = match r.res s, resAll rs s with
    | some d, some ds => some (d :: ds)
    | _, _ => none := (rfl)
/-! comparisons -/
@[simp] theorem cmp_lt (i j : Int) : cmpD .Lt (.int i) (.int j) = some (decide (i < j)) := (rfl)
@[simp] theorem cmp_le (i j : Int) : cmpD .LtE (.int i) (.int j) = some (decide (i ≤ j)) := (rfl)
@[simp] theorem cmp_gt (i j : Int) : cmpD .Gt (.int i) (.int j) = some (decide (j < i)) := (rfl)
@[simp] theorem cmp_ge (i j : Int) : cmpD .GtE (.int i) (.int j) = some (decide (j ≤ i)) := (rfl)
@[simp] theorem cmp_eq_int (i j : Int) : cmpD .Eq (.int i) (.int j) = some (i == j) := (rfl)
@[simp] theorem cmp_ne_int (i j : Int) : cmpD .NotEq (.int i) (.int j) = some (!(i == j)) := (rfl)
@[simp] theorem cmp_eq_str (i j : PySem.Str) : cmpD .Eq (.str i) (.str j) = some (i == j) := (rfl)
@[simp] theorem cmp_ne_str (i j : PySem.Str) : cmpD .NotEq (.str i) (.str j) = some (!(i == j)) := (rfl)
theorem phi_succ (T : Nat → Option PL.Def) (n f : Nat) (as : List D) (st : List SO) : Phi T (n + 1) f as st = match T f with
  | some d => runDef (Phi T n) d as st
  | none => .bad := (rfl)
theorem phi_at {T : Nat → Option PL.Def} {n f : Nat} {d : PL.Def} (h : T f = some d) (as : List D) (st : List SO) : Phi T (n + 1) f as st = runDef (Phi T n) d as st := by rw [phi_succ, h]
/-- a def's end -/
def endF : Out Flow → FO
  | .ok .nx s => .ok (.val .non) s.st
  | .ok (.ret r) s => .ok r s.st
  | .ok _ _ => .bad
  | .err x s => .err x s.st
  | .bad => .bad
theorem runDef_eq (φ : FS) (d : PL.Def) (as : List D) (st : List SO) : runDef φ d as st = if as.length = d.np then endF (runs φ d.body ⟨as.map .val ++ List.replicate (d.nn - d.np) .no, st⟩) else .bad := by
  unfold runDef endF
  split
  · split <;> rename_i h <;> simp [h]
  · rfl
theorem phi_run {T : Nat → Option PL.Def} {n f : Nat} {d : PL.Def} {as : List D} (h : T f = some d) (hl : as.length = d.np) (st : List SO) : Phi T (n + 1) f as st = endF (runs (Phi T n) d.body ⟨as.map .val ++ List.replicate (d.nn - d.np) .no, st⟩) := by
  rw [phi_at h, runDef_eq, if_pos hl]
@[simp] theorem endF_nx (s : S) : endF (.ok .nx s) = .ok (.val .non) s.st := (rfl)
@[simp] theorem endF_ret (r : Rv) (s : S) : endF (.ok (.ret r) s) = .ok r s.st := (rfl)
/-- how a block goes on -/
def thenS (φ : FS) (r : ISs) : Flow → S → Out Flow
  | .nx, s => runs φ r s
  | f, s => .ok f s
@[simp] theorem runs_cons (φ : FS) (a : IS) (r : ISs) (s : S) : runs φ (.cons a r) s = (run φ a s).bind (thenS φ r) := by
  rw [runs]
  congr 1
  funext f s
  cases f <;> rfl
@[simp] theorem runs_nil (φ : FS) (s : S) : runs φ .nil s = .ok .nx s := by rw [runs]
@[simp] theorem thenS_nx (φ : FS) (r : ISs) (s : S) : thenS φ r .nx s = runs φ r s := (rfl)
@[simp] theorem thenS_ret (φ : FS) (r : ISs) (v : Rv) (s : S) : thenS φ r (.ret v) s = .ok (.ret v) s := (rfl)
theorem callF_ok {φ : FS} {f : Nat} {as : List D} {s : S} {r : Rv} {st : List SO} (h : φ f as s.st = .ok r st) : callF φ f as s = .ok r.x ⟨s.env, st⟩ := by
  unfold callF; rw [h]
/-- items -/
@[simp] theorem idx_obj (st : List SO) (k : Nat) (i : Int) : idxD st (.obj k) (.int i) = match st[k]? with
    | some (.lst ds) => atI ds i
    | _ => none := (rfl)
@[simp] theorem idx_tup (st : List SO) (ds : List D) (i : Int) : idxD st (.tup ds) (.int i) = atI ds i := (rfl)
@[simp] theorem idx_lst (st : List SO) (ds : List D) (i : Int) : idxD st (.lst ds) (.int i) = atI ds i := (rfl)
@[simp] theorem idx_scr (st : List SO) (ds : List Int) (i : Int) : idxD st (.scr ds) (.int i) = (atI ds i).map .int := (rfl)
@[simp] theorem idx_str (st : List SO) (x : PySem.Str) (i : Int) : idxD st (.str x) (.int i) = (atI x.cps.toList i).map fun c => .str ⟨#[c]⟩ := (rfl)
@[simp] theorem setItem_obj (j : Nat) (i : Int) (d : D) (s : S) : setItem (.val (.obj j)) (.int i) d s = match s.st[j]? with
    | some (.lst xs) => match ixN xs.length i with
      | some k => .ok .nx { s with st := s.st.set j (.lst (xs.set k d)) }
      | none => .bad
    | _ => .bad := (rfl)
@[simp] theorem setItem_ref (j : Nat) (i : Int) (d : D) (s : S) : setItem (.ref j) (.int i) d s = match s.env[j]? with
    | some (.own xs) => match ixN xs.length i with
      | some k => .ok .nx { s with env := s.env.set j (.own (xs.set k d)) }
      | none => .bad
    | _ => .bad := (rfl)
@[simp] theorem negD_int (i : Int) : negD (.int i) = some (.val (.int (-i))) := (rfl)
@[simp] theorem add_int (i j : Int) : binD .Add (.int i) (.int j) = some (.val (.int (i + j))) := (rfl)
@[simp] theorem sub_int (i j : Int) : binD .Sub (.int i) (.int j) = some (.val (.int (i - j))) := (rfl)
theorem mul_int {i j : Int} (h : mulOk i j = true) : binD .Mult (.int i) (.int j) = some (.val (.int (i * j))) := by simp [binD, h]
theorem fdiv_int {i j : Int} (h : 0 < j) (h2 : j < 2 ^ 200) : binD .FloorDiv (.int i) (.int j) = some (.val (.int (i / j))) := by simp only [binD, h, h2, and_self, if_true]
theorem mod_int {i j : Int} (h : 0 < j) : binD .Mod (.int i) (.int j) = some (.val (.int (i % j))) := by simp only [binD, h, if_true]
/-! loops -/
theorem loop_at {f : D → S → Out Flow} {Inv : Nat → S → Prop} {all : List D} (step : ∀ i d s, all[i]? = some d → Inv i s → ∃ s', f d s = .ok .nx s' ∧ Inv (i + 1) s') :
    ∀ (ds : List D) (i : Nat) (s : S), all.drop i = ds → Inv i s → ∃ s', loopL f ds s = .ok .nx s' ∧ Inv (i + ds.length) s'
  | [], i, s, _, h => ⟨s, rfl, h⟩
  | d :: r, i, s, e, h => by
    have hi : i < all.length := by
      rcases Nat.lt_or_ge i all.length with h1 | h1
      · exact h1
      · rw [List.drop_of_length_le h1] at e; cases e
    rw [List.drop_eq_getElem_cons hi] at e
    injection e with e1 e2
    obtain ⟨s1, h1, h2⟩ := step i d s (by rw [← e1]; exact List.getElem?_eq_getElem hi) h
    obtain ⟨s2, h3, h4⟩ := loop_at step r (i + 1) s1 e2 h2
    refine ⟨s2, ?_, ?_⟩
    · simp only [loopL, h1, bind_ok, h3]
    · rw [List.length_cons, show i + (r.length + 1) = i + 1 + r.length by omega]; exact h4
theorem loop_inv {f : D → S → Out Flow} (Inv : Nat → S → Prop) {ds : List D} {s : S} (h0 : Inv 0 s) (step : ∀ i d s, ds[i]? = some d → Inv i s → ∃ s', f d s = .ok .nx s' ∧ Inv (i + 1) s') :
    ∃ s', loopL f ds s = .ok .nx s' ∧ Inv ds.length s' := by
  obtain ⟨s', h1, h2⟩ := loop_at step ds 0 s rfl h0
  exact ⟨s', h1, by simpa using h2⟩
theorem comp_at {f : D → S → Out (Option D)} {Inv : Nat → List D → S → Prop} {all : List D} (step : ∀ i d acc s, all[i]? = some d → Inv i acc s → ∃ y s', f d s = .ok (some y) s' ∧ Inv (i + 1) (acc ++ [y]) s') :
    ∀ (ds : List D) (i : Nat) (acc : List D) (s : S), all.drop i = ds → Inv i acc s → ∃ ys s', compL f ds acc s = .ok ys s' ∧ Inv (i + ds.length) ys s'
  | [], i, acc, s, _, h => ⟨acc, s, rfl, h⟩
  | d :: r, i, acc, s, e, h => by
    have hi : i < all.length := by
      rcases Nat.lt_or_ge i all.length with h1 | h1
      · exact h1
      · rw [List.drop_of_length_le h1] at e; cases e
    rw [List.drop_eq_getElem_cons hi] at e
    injection e with e1 e2
    obtain ⟨y, s1, h1, h2⟩ := step i d acc s (by rw [← e1]; exact List.getElem?_eq_getElem hi) h
    obtain ⟨ys, s2, h3, h4⟩ := comp_at step r (i + 1) (acc ++ [y]) s1 e2 h2
    refine ⟨ys, s2, ?_, ?_⟩
    · simp only [compL, h1, bind_ok, h3]
    · rw [List.length_cons, show i + (r.length + 1) = i + 1 + r.length by omega]; exact h4
theorem comp_inv {f : D → S → Out (Option D)} (Inv : Nat → List D → S → Prop) {ds : List D} {s : S} (h0 : Inv 0 [] s) (step : ∀ i d acc s, ds[i]? = some d → Inv i acc s → ∃ y s', f d s = .ok (some y) s' ∧ Inv (i + 1) (acc ++ [y]) s') :
    ∃ ys s', compL f ds [] s = .ok ys s' ∧ Inv ds.length ys s' := by
  obtain ⟨ys, s', h1, h2⟩ := comp_at step ds 0 [] s rfl h0
  exact ⟨ys, s', h1, by simpa using h2⟩
theorem comp_map {f : D → S → Out (Option D)} (g : D → D) (Q : S → Prop) : ∀ {ds acc : List D} {s : S}, Q s → (∀ d ∈ ds, ∀ s, Q s → ∃ s', f d s = .ok (some (g d)) s' ∧ Q s') → ∃ s', compL f ds acc s = .ok (acc ++ ds.map g) s' ∧ Q s'
  | [], acc, s, h, _ => ⟨s, by simp [compL], h⟩
  | d :: r, acc, s, h, step => by
    obtain ⟨s1, h1, h2⟩ := step d List.mem_cons_self s h
    obtain ⟨s2, h3, h4⟩ := comp_map g Q (ds := r) (acc := acc ++ [g d]) h2 fun d hd => step d (List.mem_cons_of_mem _ hd)
    exact ⟨s2, by simp [compL, h1, h3], h4⟩
theorem wh_inv {c : S → Out Bool} {b : S → Out Flow} (Inv : Nat → S → Prop) (Post : S → Prop)
    (step : ∀ m s, Inv m s → (∃ s', c s = .ok false s' ∧ Post s') ∨ ∃ s1 s2 m', c s = .ok true s1 ∧ b s1 = .ok .nx s2 ∧ Inv m' s2 ∧ m' < m) : ∀ (n m : Nat) (s : S), Inv m s → m < n → ∃ s', whL c b n s = .ok .nx s' ∧ Post s'
  | 0, m, s, _, h => absurd h (Nat.not_lt_zero _)
  | n + 1, m, s, hi, h => by
    rcases step m s hi with ⟨s', h1, h2⟩ | ⟨s1, s2, m', h1, h2, h3, h4⟩
    · exact ⟨s', by simp [whL, h1], h2⟩
    · obtain ⟨s', h5, h6⟩ := wh_inv Inv Post step n m' s2 h3 (by omega)
      exact ⟨s', by simp [whL, h1, h2, h5], h6⟩
theorem range_at {lo : Int} {n i : Nat} {d : D} (h : (rangeD lo n)[i]? = some d) : d = .int (lo + i) ∧ i < n := by
  unfold rangeD at h
  rw [List.getElem?_map] at h
  by_cases hi : i < n
  · rw [List.getElem?_range hi] at h
    cases h
    exact ⟨rfl, hi⟩
  · rw [List.getElem?_eq_none (by simpa using hi)] at h
    cases h
theorem range_length (lo : Int) (n : Nat) : (rangeD lo n).length = n := by simp [rangeD]
theorem rangeOf1 {j : Int} (h0 : 0 ≤ j) (h1 : j < 16777216) : rangeOf [.int j] = some (rangeD 0 j.toNat) := by
  have hL : (LIM : Int) = 16777216 := (rfl)
  simp only [rangeOf, hL]
  rw [if_pos (by omega)]
/-! each form's rule -/
section
variable (φ : FS)
@[simp] theorem E_var (i : Nat) (s : S) : evalE φ (.var i) s = match s.env[i]? with
    | some (.val d) => .ok (.val d) s
    | some (.own _) => .ok (.ref i) s
    | _ => .bad := by (rw [evalE]; try rfl)
@[simp] theorem E_c (d : D) (s : S) : evalE φ (.c d) s = .ok (.val d) s := by (rw [evalE]; try rfl)
@[simp] theorem E_g (x : PySem.Str) (d : D) (s : S) : evalE φ (.g x d) s = .ok (.val d) s := by (rw [evalE]; try rfl)
@[simp] theorem E_bin (op : PySem.Operator) (a b : IE) (s : S) : evalE φ (.bin op a b) s = (evalE φ a s).bind fun x s => (evalE φ b s).bind fun y s => op2 (binD op) x y s := by (rw [evalE]; try rfl)
@[simp] theorem E_neg (a : IE) (s : S) : evalE φ (.neg a) s = (evalE φ a s).bind fun x s => op1 negD x s := by (rw [evalE]; try rfl)
@[simp] theorem E_cmp (op : PySem.CmpOp) (a b : IE) (s : S) : evalE φ (.cmp op a b) s = (evalE φ a s).bind fun x s => (evalE φ b s).bind fun y s => op2 (fun a b => (cmpD op a b).map fun k => .val (.bl k)) x y s := by (rw [evalE]; try rfl)
@[simp] theorem E_chain (op op' : PySem.CmpOp) (a b c : IE) (s : S) : evalE φ (.chain op op' a b c) s = (evalE φ a s).bind fun x s => (evalE φ b s).bind fun y s => (y.frz s).bind fun y s => match x.res s with
    | some x => match cmpD op x y with
      | some true => (evalE φ c s).bind fun z s => op2 (fun a b => (cmpD op' a b).map fun k => .val (.bl k)) (.val y) z s
      | some false => .ok (.val (.bl false)) s
      | none => .bad
    | none => .bad := by (rw [evalE]; try rfl)
@[simp] theorem E_and (a b : IE) (s : S) : evalE φ (.and a b) s = (evalE φ a s).bind fun x s => (x.tru s).bind fun k s => if k then evalE φ b s else .ok x s := by (rw [evalE]; try rfl)
@[simp] theorem E_or (a b : IE) (s : S) : evalE φ (.or a b) s = (evalE φ a s).bind fun x s => (x.tru s).bind fun k s => if k then .ok x s else evalE φ b s := by (rw [evalE]; try rfl)
@[simp] theorem E_not (a : IE) (s : S) : evalE φ (.not a) s = (evalE φ a s).bind fun x s => (x.tru s).bind fun k s => .ok (.val (.bl (!k))) s := by (rw [evalE]; try rfl)
@[simp] theorem E_ite (t a b : IE) (s : S) : evalE φ (.ite t a b) s = (evalE φ t s).bind fun x s => (x.tru s).bind fun k s => if k then evalE φ a s else evalE φ b s := by (rw [evalE]; try rfl)
@[simp] theorem E_tup (es : IEs) (s : S) : evalE φ (.tup es) s = (evalEs φ es s).bind fun ds s => .ok (.val (.tup ds)) s := by (rw [evalE]; try rfl)
@[simp] theorem E_lst (es : IEs) (s : S) : evalE φ (.lst es) s = (evalEs φ es s).bind fun ds s => .ok (.own ds) s := by (rw [evalE]; try rfl)
@[simp] theorem E_lstM (es : IEs) (s : S) : evalE φ (.lstM es) s = (evalEs φ es s).bind fun ds s => .ok (.val (.obj s.st.length)) { s with st := s.st ++ [.lst ds] } := by (rw [evalE]; try rfl)
@[simp] theorem E_idx (a b : IE) (s : S) : evalE φ (.idx a b) s = (evalE φ a s).bind fun x s => (evalE φ b s).bind fun y s => op2 (fun x y => (idxD s.st x y).map .val) x y s := by (rw [evalE]; try rfl)
@[simp] theorem E_slc (a : IE) (lo hi : OE) (s : S) : evalE φ (.slc a lo hi) s = (evalE φ a s).bind fun x s => (evalOE φ lo s).bind fun l s => (evalOE φ hi s).bind fun h s => op1 (fun x => slcD s.st x l h) x s := by (rw [evalE]; try rfl)
@[simp] theorem E_srev (a : IE) (s : S) : evalE φ (.srev a) s = (evalE φ a s).bind fun x s => op1 srevD x s := by (rw [evalE]; try rfl)
@[simp] theorem E_call (f : Nat) (es : IEs) (s : S) : evalE φ (.call f es) s = (evalEs φ es s).bind fun ds s => callF φ f ds s := by (rw [evalE]; try rfl)
@[simp] theorem E_blt (b : Blt) (es : IEs) (s : S) : evalE φ (.blt b es) s = (evalOs φ es s).bind fun os s => opN (bltD s.st b) os s := by (rw [evalE]; try rfl)
@[simp] theorem E_isin (a : IE) (ts : List Ty) (s : S) : evalE φ (.isin a ts) s = (evalE φ a s).bind fun x s => op1 (fun x => (x.tyO s.st).map fun t => .val (.bl (ts.any fun u => t.sub u))) x s := by (rw [evalE]; try rfl)
@[simp] theorem E_meth (m : Mth) (o : IE) (es : IEs) (s : S) : evalE φ (.meth m o es) s = (evalE φ o s).bind fun o s => (recv m o s).bind fun _ s => (evalEs φ es s).bind fun ds s => methR m o ds s := by (rw [evalE]; try rfl)
@[simp] theorem Es_nil (s : S) : evalEs φ .nil s = .ok [] s := by (rw [evalEs]; try rfl)
@[simp] theorem Es_cons (a : IE) (r : IEs) (s : S) : evalEs φ (.cons a r) s = (evalE φ a s).bind fun x s => (x.frz s).bind fun d s => (evalEs φ r s).bind fun ds s => .ok (d :: ds) s := by (rw [evalEs]; try rfl)
@[simp] theorem Os_nil (s : S) : evalOs φ .nil s = .ok [] s := by (rw [evalOs]; try rfl)
@[simp] theorem Os_cons (a : IE) (r : IEs) (s : S) : evalOs φ (.cons a r) s = (evalE φ a s).bind fun d s => (evalOs φ r s).bind fun ds s => .ok (d :: ds) s := by (rw [evalOs]; try rfl)
@[simp] theorem OE_no (s : S) : evalOE φ .no s = .ok none s := by (rw [evalOE]; try rfl)
@[simp] theorem OE_some (a : IE) (s : S) : evalOE φ (.some a) s = (evalE φ a s).bind fun x s => match x with
    | .val (.int i) => .ok (some i) s
    | _ => .bad := by (rw [evalOE]; try rfl)
@[simp] theorem OC_no (s : S) : evalOC φ .no s = .ok true s := by (rw [evalOC]; try rfl)
@[simp] theorem OC_some (a : IE) (s : S) : evalOC φ (.some a) s = (evalE φ a s).bind fun x s => x.tru s := by (rw [evalOC]; try rfl)
@[simp] theorem IT_e (a : IE) (s : S) : evalIT φ (.e a) s = (evalE φ a s).bind fun x s => (x.frz s).bind fun x s => .of (iter? s.st x) s := by (rw [evalIT]; try rfl)
@[simp] theorem IT_rng (es : IEs) (s : S) : evalIT φ (.rng es) s = (evalEs φ es s).bind fun ds s => .of (rangeOf ds) s := by (rw [evalIT]; try rfl)
@[simp] theorem S_set' (i : Nat) (e : IE) (s : S) : run φ (.set i e) s = (evalE φ e s).bind fun r s => setR i r s := by (rw [run]; try rfl)
@[simp] theorem S_setT' (ts : List Tst) (e : IE) (s : S) : run φ (.setT ts e) s = (evalE φ e s).bind fun r s => match r with
    | .val (.tup ds) => if ds.length = ts.length then setAll φ ts ds s else .bad
    | _ => .bad := by (rw [run]; try rfl)
@[simp] theorem S_setI' (o i e : IE) (s : S) : run φ (.setI o i e) s = (evalE φ e s).bind fun r s => (r.frz s).bind fun d s => (evalE φ o s).bind fun o s => (evalE φ i s).bind fun i s => match i with
    | .val i => setItem o i d s
    | _ => .bad := by (rw [run]; try rfl)
@[simp] theorem S_ex' (e : IE) (s : S) : run φ (.ex e) s = (evalE φ e s).bind fun _ s => .ok .nx s := by (rw [run]; try rfl)
@[simp] theorem S_ite' (t : IE) (a b : ISs) (s : S) : run φ (.ite t a b) s = (evalE φ t s).bind fun x s => (x.tru s).bind fun k s => if k then runs φ a s else runs φ b s := by (rw [run]; try rfl)
def condW (t : IE) (s : S) : Out Bool := (evalE φ t s).bind fun x s => x.tru s
@[simp] theorem S_wh' (t : IE) (b : ISs) (s : S) : run φ (.wh t b) s = whL (condW φ t) (runs φ b) FUEL s := by (rw [run]; try rfl)
@[simp] theorem S_ret' (e : IE) (s : S) : run φ (.ret e) s = (evalE φ e s).bind fun r s => match r with
    | .val d => .ok (.ret (.val d)) s
    | .own ds => .ok (.ret (.own ds)) s
    | .ref i => match s.env[i]? with
      | some (.own ds) => .ok (.ret (.own ds)) s
      | _ => .bad := by (rw [run]; try rfl)
@[simp] theorem S_pass' (s : S) : run φ .pass s = .ok .nx s := by (rw [run]; try rfl)
end
@[simp] theorem S_loop' (φ : FS) (tg : Tgt) (it : IT) (b : ISs) (s : S) : run φ (.loop tg it b) s = (evalIT φ it s).bind fun ds s => loopL (turnL φ tg b) ds s := run_loop
@[simp] theorem E_comp (φ : FS) (elt : IE) (tg : Tgt) (it : IT) (cond : OE) (vs : List Nat) (s : S) : evalE φ (.comp elt tg it cond vs) s = (evalIT φ it s).bind fun ds s => if vs.all (plainAt s.env) then
    (compL (turnC φ elt tg cond vs) ds [] s).nox.bind fun ys s' => .ok (.own ys) { s' with env := back s'.env s.env vs } else .bad := evalE_comp
end PL

/-! the defs that all laws have: cell, pen, take, is_number -/
namespace PL
open L2 (ixN atI)
def cTake : PL.Def := { np := 2, nn := 4, body :=
  (.cons (.ite (.or (.cmp .Lt (.idx (.var 0) (.c (.int 1))) (.c (.int 0))) (.and (.cmp .Eq (.idx (.var 0) (.c (.int 1))) (.c (.int 0))) (.cmp .GtE (.idx (.var 0) (.c (.int 0))) (.bin .Pow (.c (.int 10)) (.c (.int 18))))))
    (.cons (.setI (.var 0) (.c (.int 1)) (.neg (.c (.int 1))))
    (.cons (.set 2 (.bin .Mod (.idx (.var 0) (.c (.int 0))) (.var 1)))
    (.cons (.setI (.var 0) (.c (.int 0)) (.bin .FloorDiv (.idx (.var 0) (.c (.int 0))) (.var 1)))
    (.cons (.ret (.var 2))
    .nil))))
    .nil)
  (.cons (.setI (.var 0) (.c (.int 1)) (.bin .Add (.idx (.var 0) (.c (.int 1))) (.c (.int 1))))
  (.cons (.set 3 (.bin .Mod (.bin .Add (.bin .Add (.bin .Mod (.idx (.var 0) (.c (.int 0))) (.c (.int 2147483647))) (.bin .Mult (.c (.int 40503)) (.idx (.var 0) (.c (.int 1))))) (.c (.int 11))) (.c (.int 2147483629))))
  (.cons (.set 3 (.bin .Mod (.bin .Mult (.var 3) (.bin .Add (.var 3) (.c (.int 48271)))) (.c (.int 2147483587))))
  (.cons (.ret (.bin .Mod (.bin .FloorDiv (.bin .Mod (.bin .Mult (.var 3) (.bin .Add (.var 3) (.c (.int 69621)))) (.c (.int 2305843009213693951))) (.c (.int 5))) (.var 1)))
  .nil))))) }
def cPen : PL.Def := { np := 1, nn := 1, body := (.cons (.ret (.lstM (.cons (.var 0) (.cons (.c (.int 0)) .nil)))) .nil) }
/-- a pen stands at k -/
def Pen (st : List SO) (k : Nat) : Prop := ∃ c m : Int, st[k]? = some (.lst [.int c, .int m])
/-- the pen at k is moved on -/
structure Nx (k : Nat) (st st' : List SO) : Prop where
  pen : Pen st' k
  ex : ∃ o, st' = st.set k o
theorem Nx.refl {k : Nat} {st : List SO} (h : Pen st k) : Nx k st st := ⟨h, by
  obtain ⟨c, m, e⟩ := h
  refine ⟨_, (List.set_getElem_self (List.getElem?_eq_some_iff.mp e).1).symm⟩⟩
theorem Nx.trans {k : Nat} {a b c : List SO} (h : Nx k a b) (g : Nx k b c) : Nx k a c := ⟨g.pen, by
  obtain ⟨o, rfl⟩ := h.ex
  obtain ⟨p, rfl⟩ := g.ex
  exact ⟨p, by rw [List.set_set]⟩⟩
theorem Nx.len {k : Nat} {a b : List SO} (h : Nx k a b) : b.length = a.length := by
  obtain ⟨o, rfl⟩ := h.ex
  simp
theorem mulOk_mod (z w : Int) {N : Int} (h0 : 0 < N) (h1 : N ≤ 2 ^ 63) : mulOk (z % N) w = true := by
  have a := Int.emod_nonneg z (show N ≠ 0 by omega)
  have b := Int.emod_lt_of_pos z h0
  simp [mulOk]; left; omega
theorem pow18 : binD .Pow (.int 10) (.int 18) = some (.val (.int 1000000000000000000)) := by rfl
theorem mul_lit (w : Int) : binD .Mult (.int 40503) (.int w) = some (.val (.int (40503 * w))) := mul_int (by simp [mulOk])
theorem mul_29 (z w : Int) : binD .Mult (.int (z % 2147483629)) (.int w) = some (.val (.int (z % 2147483629 * w))) := mul_int (mulOk_mod z w (by decide) (by decide))
theorem mul_87 (z w : Int) : binD .Mult (.int (z % 2147483587)) (.int w) = some (.val (.int (z % 2147483587 * w))) := mul_int (mulOk_mod z w (by decide) (by decide))
def mix1 (c m : Int) : Int := (c % 2147483647 + 40503 * m + 11) % 2147483629
def mix2 (y : Int) : Int := y * (y + 48271) % 2147483587
def mix3 (y : Int) : Int := y * (y + 69621) % 2305843009213693951 / 5
theorem t_take {T : Nat → Option PL.Def} {f : Nat} (hT : T f = some cTake) (n k : Nat) (size : Int) (st : List SO) (h0 : 0 < size) (h1 : size < 2 ^ 200) (hp : Pen st k) :
    ∃ (v : Int) (st' : List SO), Phi T (n + 1) f [.obj k, .int size] st = .ok (.val (.int v)) st' ∧ Nx k st st' ∧ 0 ≤ v ∧ v < size := by
  obtain ⟨c, m, e⟩ := hp
  have hk : ∀ x, (st.set k x)[k]? = some x := fun x => List.getElem?_set_self (List.getElem?_eq_some_iff.mp e).1
  suffices hs : ∃ (v c m : Int), Phi T (n + 1) f [.obj k, .int size] st = .ok (.val (.int v)) (st.set k (.lst [.int c, .int m])) ∧ 0 ≤ v ∧ v < size by
    obtain ⟨v, c, m, a, b⟩ := hs
    exact ⟨v, _, a, ⟨⟨c, m, hk _⟩, _, rfl⟩, b⟩
  rw [phi_run hT rfl]
  by_cases hm : m < 0
  · refine ⟨c % size, c / size, -1, ?_, Int.emod_nonneg _ (by omega), Int.emod_lt_of_pos _ h0⟩
    simp [cTake, runs_cons, runs_nil, PL.run, evalE, e, atI, ixN, hm, mod_int h0, fdiv_int h0 h1, setR, hk]
  · have fin : (m = 0 → ¬ 1000000000000000000 ≤ c) → ∃ (v c m : Int), endF (runs (Phi T n) cTake.body ⟨[D.obj k, .int size].map .val ++ List.replicate (cTake.nn - cTake.np) .no, st⟩) = .ok (.val (.int v)) (st.set k (.lst [.int c, .int m])) ∧ 0 ≤ v ∧ v < size := fun hz => by
      refine ⟨mix3 (mix2 (mix1 c (m + 1))) % size, c, m + 1, ?_, Int.emod_nonneg _ (show size ≠ 0 by omega), Int.emod_lt_of_pos _ h0⟩
      by_cases h2 : m = 0
      · have := hz h2
        subst h2
        simp [cTake, runs_cons, runs_nil, PL.run, evalE, e, atI, ixN, mod_int h0, setR, hk, pow18, this, mul_lit, mul_29, mul_87, mod_int (show (0:Int) < 2147483629 by decide), mod_int (show (0:Int) < 2147483647 by decide), mod_int (show (0:Int) < 2147483587 by decide), mod_int (show (0:Int) < 2305843009213693951 by decide), fdiv_int (show (0:Int) < 5 by decide) (by decide), mix1, mix2, mix3]
      · simp [cTake, runs_cons, runs_nil, PL.run, evalE, e, atI, ixN, hm, h2, mod_int h0, setR, hk, pow18, mul_lit, mul_29, mul_87, mod_int (show (0:Int) < 2147483629 by decide), mod_int (show (0:Int) < 2147483647 by decide), mod_int (show (0:Int) < 2147483587 by decide), mod_int (show (0:Int) < 2305843009213693951 by decide), fdiv_int (show (0:Int) < 5 by decide) (by decide), mix1, mix2, mix3]
    by_cases hz : m = 0 ∧ 1000000000000000000 ≤ c
    · refine ⟨c % size, c / size, -1, ?_, Int.emod_nonneg _ (by omega), Int.emod_lt_of_pos _ h0⟩
      obtain ⟨rfl, hc⟩ := hz
      simp [cTake, runs_cons, runs_nil, PL.run, evalE, e, atI, ixN, hm, mod_int h0, fdiv_int h0 h1, setR, hk, hc, pow18]
    · exact fin fun h2 h3 => hz ⟨h2, h3⟩
theorem t_pen {T : Nat → Option PL.Def} {f : Nat} (hT : T f = some cPen) (n : Nat) (c : Int) (st : List SO) :
    ∃ st', Phi T (n + 1) f [.int c] st = .ok (.val (.obj st.length)) st' ∧ Pen st' st.length := by
  refine ⟨st ++ [.lst [.int c, .int 0]], ?_, c, 0, by simp⟩
  rw [phi_run hT rfl]
  simp [cPen, runs_cons, runs_nil, PL.run, evalE, evalEs]
def cCell : PL.Def := { np := 2, nn := 3, body :=
  (.cons (.ite (.cmp .Lt (.var 1) (.blt .len (.cons (.var 0) .nil)))
    (.cons (.ret (.idx (.var 0) (.var 1)))
    .nil)
    .nil)
  (.cons (.set 2 (.bin .Add (.bin .Mult (.var 1) (.c (.int 7919))) (.c (.int 5))))
  (.cons (.ite (.cmp .Gt (.blt .len (.cons (.var 0) .nil)) (.c (.int 0)))
    (.cons (.set 2 (.bin .Add (.bin .Mult (.bin .Mod (.idx (.var 0) (.bin .Mod (.bin .Mult (.var 1) (.c (.int 7))) (.blt .len (.cons (.var 0) .nil)))) (.c (.int 2147483647))) (.c (.int 48271))) (.bin .Mult (.var 1) (.c (.int 7919)))))
    .nil)
    .nil)
  (.cons (.ret (.bin .Mod (.bin .Mult (.var 2) (.var 2)) (.c (.int 2147483629))))
  .nil)))) }
theorem mulOk_small {i j : Int} (h0 : 0 ≤ i) (h1 : i < 2 ^ 60) : mulOk i j = true := by
  simp [mulOk]; left; omega
theorem atI_get {α : Type} {xs : List α} {i : Int} (h0 : 0 ≤ i) (h1 : i < xs.length) : ∃ x, atI xs i = some x ∧ xs[i.toNat]? = some x := by
  have hl : i.toNat < xs.length := by omega
  refine ⟨xs[i.toNat], ?_, List.getElem?_eq_getElem hl⟩
  simp [atI, ixN, h0, h1]
theorem t_cell {T : Nat → Option PL.Def} {f : Nat} (hT : T f = some cCell) (n : Nat) (ns : List Int) (k : Int) (h0 : 0 ≤ k) (h1 : k < 10000) (st : List SO) :
    ∃ c, Phi T (n + 1) f [.scr ns, .int k] st = .ok (.val (.int c)) st := by
  rw [phi_run hT rfl]
  have m1 : binD .Mult (.int k) (.int 7919) = some (.val (.int (k * 7919))) := mul_int (mulOk_small h0 (by omega))
  have m2 : binD .Mult (.int k) (.int 7) = some (.val (.int (k * 7))) := mul_int (mulOk_small h0 (by omega))
  by_cases hk : k < (ns.length : Int)
  · obtain ⟨x, e, _⟩ := atI_get (xs := ns) h0 hk
    refine ⟨x, ?_⟩
    simp [cCell, runs_cons, runs_nil, PL.run, evalE, evalOs, opN, resAll_cons, bltD, lenD, hk, e]
  · by_cases hz : 0 < ns.length
    · have hz' : (0 : Int) < (ns.length : Int) := by omega
      obtain ⟨x, e, _⟩ := atI_get (xs := ns) (i := k * 7 % (ns.length : Int)) (Int.emod_nonneg _ (by omega)) (Int.emod_lt_of_pos _ hz')
      have m3 : binD .Mult (.int (x % 2147483647)) (.int 48271) = some (.val (.int (x % 2147483647 * 48271))) := mul_int (mulOk_mod _ _ (by decide) (by decide))
      have a := Int.emod_nonneg x (show (2147483647 : Int) ≠ 0 by decide)
      have b := Int.emod_lt_of_pos x (show (0 : Int) < 2147483647 by decide)
      have m4 : binD .Mult (.int (x % 2147483647 * 48271 + k * 7919)) (.int (x % 2147483647 * 48271 + k * 7919)) = some (.val (.int ((x % 2147483647 * 48271 + k * 7919) * (x % 2147483647 * 48271 + k * 7919)))) := mul_int (mulOk_small (by omega) (by omega))
      refine ⟨(x % 2147483647 * 48271 + k * 7919) * (x % 2147483647 * 48271 + k * 7919) % 2147483629, ?_⟩
      simp [cCell, runs_cons, runs_nil, PL.run, evalE, evalOs, opN, resAll_cons, bltD, lenD, hk, hz, m1, m2, setR, mod_int hz', e, mod_int (show (0:Int) < 2147483647 by decide), m3, m4, mod_int (show (0:Int) < 2147483629 by decide)]
    · have m4 : binD .Mult (.int (k * 7919 + 5)) (.int (k * 7919 + 5)) = some (.val (.int ((k * 7919 + 5) * (k * 7919 + 5)))) := mul_int (mulOk_small (by omega) (by omega))
      refine ⟨(k * 7919 + 5) * (k * 7919 + 5) % 2147483629, ?_⟩
      simp [cCell, runs_cons, runs_nil, PL.run, evalE, evalOs, opN, resAll_cons, bltD, lenD, hk, hz, m1, setR, m4, mod_int (show (0:Int) < 2147483629 by decide)]
theorem callF_eq (φ : FS) (f : Nat) (as : List D) (s : S) : callF φ f as s = match φ f as s.st with
  | .ok r st => .ok r.x { s with st := st }
  | .err x st => .err x { s with st := st }
  | .bad => .bad := rfl
end PL

namespace Pk57
open PL PySem

/-- show_number(number): 0=number -/
def d_show_number : Def := { np := 1, nn := 1, body :=
  (.cons (.ret (.blt .str (.cons (.var 0) .nil)))
  .nil) }

def e_show_row_1 : IE :=
  (.call 0 (.cons (.var 1) .nil))
/-- show_row(row): 0=row 1=number -/
def d_show_row : Def := { np := 1, nn := 2, body :=
  (.cons (.ret (.meth .join (.c (.str " ")) (.cons (.comp e_show_row_1 (.v 1) (.e (.var 0)) .no [1]) .nil)))
  .nil) }

/-- show_paper(paper): 0=paper -/
def d_show_paper : Def := { np := 1, nn := 1, body :=
  (.cons (.ite (.cmp .Eq (.idx (.var 0) (.c (.int 0))) (.c (.str "all")))
    (.cons (.ret (.call 0 (.cons (.idx (.var 0) (.c (.int 1))) .nil)))
    .nil)
    .nil)
  (.cons (.ret (.bin .Add (.bin .Add (.bin .Add (.bin .Add (.bin .Add (.call 0 (.cons (.idx (.var 0) (.c (.int 1))) .nil)) (.c (.str "("))) (.call 2 (.cons (.idx (.var 0) (.c (.int 2))) .nil))) (.c (.str ","))) (.call 2 (.cons (.idx (.var 0) (.c (.int 3))) .nil))) (.c (.str ")"))))
  .nil)) }

def e_is_many_1 : IE :=
  (.cmp .In (.var 1) (.g "FIGURES" (.str "0123456789")))
/-- is_many(text): 0=text 1=sign -/
def d_is_many : Def := { np := 1, nn := 2, body :=
  (.cons (.ite (.or (.not (.chain .LtE .LtE (.c (.int 1)) (.blt .len (.cons (.var 0) .nil)) (.g "MOST_FIGURES" (.int 50)))) (.and (.cmp .Eq (.idx (.var 0) (.c (.int 0))) (.c (.str "0"))) (.cmp .NotEq (.var 0) (.c (.str "0")))))
    (.cons (.ret (.c (.bl false)))
    .nil)
    .nil)
  (.cons (.ret (.blt .all (.cons (.comp e_is_many_1 (.v 1) (.e (.var 0)) .no [1]) .nil)))
  .nil)) }

/-- read_number(text): 0=text -/
def d_read_number : Def := { np := 1, nn := 1, body :=
  (.cons (.ite (.not (.isin (.var 0) [.str]))
    (.cons .never
    .nil)
    .nil)
  (.cons (.ite (.call 3 (.cons (.var 0) .nil))
    (.cons (.ret (.blt .int (.cons (.var 0) .nil)))
    .nil)
    .nil)
  (.cons (.ite (.or (.cmp .NotEq (.slc (.var 0) .no (.some (.c (.int 1)))) (.c (.str "-"))) (.or (.cmp .Eq (.var 0) (.c (.str "-0"))) (.not (.call 3 (.cons (.slc (.var 0) (.some (.c (.int 1))) .no) .nil)))))
    (.cons .never
    .nil)
    .nil)
  (.cons (.ret (.neg (.blt .int (.cons (.slc (.var 0) (.some (.c (.int 1))) .no) .nil))))
  .nil)))) }

def e_read_row_1 : IE :=
  (.call 4 (.cons (.var 1) .nil))
/-- read_row(text): 0=text 1=word -/
def d_read_row : Def := { np := 1, nn := 2, body :=
  (.cons (.ite (.not (.isin (.var 0) [.str]))
    (.cons .never
    .nil)
    .nil)
  (.cons (.ite (.cmp .Eq (.var 0) (.c (.str "")))
    (.cons (.ret (.lst .nil))
    .nil)
    .nil)
  (.cons (.ret (.comp e_read_row_1 (.v 1) (.e (.meth .split (.var 0) (.cons (.c (.str " ")) .nil))) .no [1]))
  .nil))) }

def t_figures_from_1 : IE :=
  (.and (.cmp .Lt (.var 2) (.blt .len (.cons (.var 0) .nil))) (.cmp .In (.idx (.var 0) (.var 2)) (.g "FIGURES" (.str "0123456789"))))
def b_figures_from_2 : ISs :=
  (.cons (.set 2 (.bin .Add (.var 2) (.c (.int 1))))
  .nil)
/-- figures_from(text, at): 0=text 1=at 2=end -/
def d_figures_from : Def := { np := 2, nn := 3, body :=
  (.cons (.set 2 (.var 1))
  (.cons (.wh t_figures_from_1 b_figures_from_2)
  (.cons (.ret (.slc (.var 0) (.some (.var 1)) (.some (.var 2))))
  .nil))) }

/-- sign_at(text, at, sign): 0=text 1=at 2=sign -/
def d_sign_at : Def := { np := 3, nn := 3, body :=
  (.cons (.ite (.cmp .NotEq (.slc (.var 0) (.some (.var 1)) (.some (.bin .Add (.var 1) (.c (.int 1))))) (.var 2))
    (.cons .never
    .nil)
    .nil)
  .nil) }

/-- read_part(text, at, deep): 0=text 1=at 2=deep 3=figures 4=behind 5=lower 6=comma 7=upper 8=last -/
def d_read_part : Def := { np := 3, nn := 9, body :=
  (.cons (.set 3 (.call 6 (.cons (.var 0) (.cons (.var 1) .nil))))
  (.cons (.ite (.or (.not (.call 3 (.cons (.var 3) .nil))) (.cmp .Gt (.var 2) (.g "DEEPEST" (.int 100))))
    (.cons .never
    .nil)
    .nil)
  (.cons (.set 4 (.bin .Add (.var 1) (.blt .len (.cons (.var 3) .nil))))
  (.cons (.ite (.cmp .NotEq (.slc (.var 0) (.some (.var 4)) (.some (.bin .Add (.var 4) (.c (.int 1))))) (.c (.str "(")))
    (.cons (.ret (.tup (.cons (.tup (.cons (.c (.str "all")) (.cons (.blt .int (.cons (.var 3) .nil)) .nil))) (.cons (.var 4) .nil))))
    .nil)
    .nil)
  (.cons (.setT [.v 5, .v 6] (.call 8 (.cons (.var 0) (.cons (.bin .Add (.var 4) (.c (.int 1))) (.cons (.bin .Add (.var 2) (.c (.int 1))) .nil)))))
  (.cons (.ex (.call 7 (.cons (.var 0) (.cons (.var 6) (.cons (.c (.str ",")) .nil)))))
  (.cons (.setT [.v 7, .v 8] (.call 8 (.cons (.var 0) (.cons (.bin .Add (.var 6) (.c (.int 1))) (.cons (.bin .Add (.var 2) (.c (.int 1))) .nil)))))
  (.cons (.ex (.call 7 (.cons (.var 0) (.cons (.var 8) (.cons (.c (.str ")")) .nil)))))
  (.cons (.ret (.tup (.cons (.tup (.cons (.c (.str "split")) (.cons (.blt .int (.cons (.var 3) .nil)) (.cons (.var 5) (.cons (.var 7) .nil))))) (.cons (.bin .Add (.var 8) (.c (.int 1))) .nil))))
  .nil))))))))) }

/-- read_paper(text): 0=text 1=found 2=last -/
def d_read_paper : Def := { np := 1, nn := 3, body :=
  (.cons (.ite (.not (.isin (.var 0) [.str]))
    (.cons .never
    .nil)
    .nil)
  (.cons (.setT [.v 1, .v 2] (.call 8 (.cons (.var 0) (.cons (.c (.int 0)) (.cons (.c (.int 0)) .nil)))))
  (.cons (.ite (.cmp .NotEq (.var 2) (.blt .len (.cons (.var 0) .nil)))
    (.cons .never
    .nil)
    .nil)
  (.cons (.ret (.var 1))
  .nil)))) }

/-- _law_cell(_law_script, _law_k): 0=_law_script 1=_law_k 2=_law_number_here -/
def d__law_cell : Def := { np := 2, nn := 3, body :=
  (.cons (.ite (.cmp .Lt (.var 1) (.blt .len (.cons (.var 0) .nil)))
    (.cons (.ret (.idx (.var 0) (.var 1)))
    .nil)
    .nil)
  (.cons (.set 2 (.bin .Add (.bin .Mult (.var 1) (.c (.int 7919))) (.c (.int 5))))
  (.cons (.ite (.cmp .Gt (.blt .len (.cons (.var 0) .nil)) (.c (.int 0)))
    (.cons (.set 2 (.bin .Add (.bin .Mult (.bin .Mod (.idx (.var 0) (.bin .Mod (.bin .Mult (.var 1) (.c (.int 7))) (.blt .len (.cons (.var 0) .nil)))) (.c (.int 2147483647))) (.c (.int 48271))) (.bin .Mult (.var 1) (.c (.int 7919)))))
    .nil)
    .nil)
  (.cons (.ret (.bin .Mod (.bin .Mult (.var 2) (.var 2)) (.c (.int 2147483629))))
  .nil)))) }

/-- _law_pen(_law_cell_here): 0=_law_cell_here -/
def d__law_pen : Def := { np := 1, nn := 1, body :=
  (.cons (.ret (.lstM (.cons (.var 0) (.cons (.c (.int 0)) .nil))))
  .nil) }

/-- _law_take(_law_pen_here, _law_size): 0=_law_pen_here 1=_law_size 2=_law_digit 3=_law_number_here -/
def d__law_take : Def := { np := 2, nn := 4, body :=
  (.cons (.ite (.or (.cmp .Lt (.idx (.var 0) (.c (.int 1))) (.c (.int 0))) (.and (.cmp .Eq (.idx (.var 0) (.c (.int 1))) (.c (.int 0))) (.cmp .GtE (.idx (.var 0) (.c (.int 0))) (.bin .Pow (.c (.int 10)) (.c (.int 18))))))
    (.cons (.setI (.var 0) (.c (.int 1)) (.neg (.c (.int 1))))
    (.cons (.set 2 (.bin .Mod (.idx (.var 0) (.c (.int 0))) (.var 1)))
    (.cons (.setI (.var 0) (.c (.int 0)) (.bin .FloorDiv (.idx (.var 0) (.c (.int 0))) (.var 1)))
    (.cons (.ret (.var 2))
    .nil))))
    .nil)
  (.cons (.setI (.var 0) (.c (.int 1)) (.bin .Add (.idx (.var 0) (.c (.int 1))) (.c (.int 1))))
  (.cons (.set 3 (.bin .Mod (.bin .Add (.bin .Add (.bin .Mod (.idx (.var 0) (.c (.int 0))) (.c (.int 2147483647))) (.bin .Mult (.c (.int 40503)) (.idx (.var 0) (.c (.int 1))))) (.c (.int 11))) (.c (.int 2147483629))))
  (.cons (.set 3 (.bin .Mod (.bin .Mult (.var 3) (.bin .Add (.var 3) (.c (.int 48271)))) (.c (.int 2147483587))))
  (.cons (.ret (.bin .Mod (.bin .FloorDiv (.bin .Mod (.bin .Mult (.var 3) (.bin .Add (.var 3) (.c (.int 69621)))) (.c (.int 2305843009213693951))) (.c (.int 5))) (.var 1)))
  .nil))))) }

/-- _law_is_number(_law_thing): 0=_law_thing -/
def d__law_is_number : Def := { np := 1, nn := 1, body :=
  (.cons (.ret (.and (.isin (.var 0) [.int]) (.not (.isin (.var 0) [.bool]))))
  .nil) }

/-- _law_many(_law_pen_here): 0=_law_pen_here -/
def d__law_many : Def := { np := 1, nn := 1, body :=
  (.cons (.ret (.idx (.lst (.cons (.call 12 (.cons (.var 0) (.cons (.c (.int 10)) .nil))) (.cons (.call 12 (.cons (.var 0) (.cons (.c (.int 1000)) .nil))) (.cons (.bin .Add (.bin .Mult (.call 12 (.cons (.var 0) (.cons (.bin .Pow (.c (.int 10)) (.c (.int 17))) .nil))) (.bin .Pow (.c (.int 10)) (.c (.int 33)))) (.c (.int 7))) (.cons (.c (.int 0)) .nil))))) (.call 12 (.cons (.var 0) (.cons (.c (.int 4)) .nil)))))
  .nil) }

/-- _law_paper(_law_pen_here, _law_deep): 0=_law_pen_here 1=_law_deep 2=_law_many_here 3=_law_lower -/
def d__law_paper : Def := { np := 2, nn := 4, body :=
  (.cons (.ite (.or (.cmp .Eq (.var 1) (.c (.int 0))) (.cmp .Eq (.call 12 (.cons (.var 0) (.cons (.c (.int 3)) .nil))) (.c (.int 0))))
    (.cons (.ret (.tup (.cons (.c (.str "all")) (.cons (.call 14 (.cons (.var 0) .nil)) .nil))))
    .nil)
    .nil)
  (.cons (.set 2 (.call 14 (.cons (.var 0) .nil)))
  (.cons (.set 3 (.call 15 (.cons (.var 0) (.cons (.bin .Sub (.var 1) (.c (.int 1))) .nil))))
  (.cons (.ret (.tup (.cons (.c (.str "split")) (.cons (.var 2) (.cons (.var 3) (.cons (.call 15 (.cons (.var 0) (.cons (.bin .Sub (.var 1) (.c (.int 1))) .nil))) .nil))))))
  .nil)))) }

def b__law_chain_1 : ISs :=
  (.cons (.set 4 (.lst (.cons (.var 2) (.cons (.tup (.cons (.c (.str "all")) (.cons (.call 12 (.cons (.var 0) (.cons (.c (.int 10)) .nil))) .nil))) .nil))))
  (.cons (.ite (.cmp .Eq (.call 12 (.cons (.var 0) (.cons (.c (.int 2)) .nil))) (.c (.int 0)))
    (.cons (.set 4 (.srev (.var 4)))
    .nil)
    .nil)
  (.cons (.set 2 (.tup (.cons (.c (.str "split")) (.cons (.call 12 (.cons (.var 0) (.cons (.c (.int 100)) .nil))) (.cons (.idx (.var 4) (.c (.int 0))) (.cons (.idx (.var 4) (.c (.int 1))) .nil))))))
  .nil)))
/-- _law_chain(_law_pen_here, _law_deep): 0=_law_pen_here 1=_law_deep 2=_law_found 3=_law_k 4=_law_halves -/
def d__law_chain : Def := { np := 2, nn := 5, body :=
  (.cons (.set 2 (.tup (.cons (.c (.str "all")) (.cons (.call 14 (.cons (.var 0) .nil)) .nil))))
  (.cons (.loop (.v 3) (.rng (.cons (.var 1) .nil)) b__law_chain_1)
  (.cons (.ret (.var 2))
  .nil))) }

def t__law_written_1 : IE :=
  (.cmp .NotEq (.var 2) (.lst .nil))
def b__law_written_2 : ISs :=
  (.cons (.set 3 (.meth .pop (.var 2) .nil))
  (.cons (.ite (.isin (.var 3) [.str])
    (.cons (.set 1 (.bin .Add (.var 1) (.var 3)))
    .nil)
    (.cons (.ite (.cmp .Eq (.idx (.var 3) (.c (.int 0))) (.c (.str "all")))
      (.cons (.set 1 (.bin .Add (.var 1) (.blt .str (.cons (.idx (.var 3) (.c (.int 1))) .nil))))
      .nil)
      (.cons (.set 1 (.bin .Add (.bin .Add (.var 1) (.blt .str (.cons (.idx (.var 3) (.c (.int 1))) .nil))) (.c (.str "("))))
      (.cons (.ex (.meth .extend (.var 2) (.cons (.lst (.cons (.c (.str ")")) (.cons (.idx (.var 3) (.c (.int 3))) (.cons (.c (.str ",")) (.cons (.idx (.var 3) (.c (.int 2))) .nil))))) .nil)))
      .nil)))
    .nil))
  .nil))
/-- _law_written(_law_paper_here): 0=_law_paper_here 1=_law_found 2=_law_waiting 3=_law_one -/
def d__law_written : Def := { np := 1, nn := 4, body :=
  (.cons (.set 1 (.c (.str "")))
  (.cons (.set 2 (.lst (.cons (.var 0) .nil)))
  (.cons (.wh t__law_written_1 b__law_written_2)
  (.cons (.ret (.var 1))
  .nil)))) }

/-- _law_number(_law_pen_here): 0=_law_pen_here 1=_law_many_here -/
def d__law_number : Def := { np := 1, nn := 2, body :=
  (.cons (.set 1 (.call 14 (.cons (.var 0) .nil)))
  (.cons (.ret (.idx (.lst (.cons (.var 1) (.cons (.bin .Sub (.c (.int 0)) (.var 1)) .nil))) (.call 12 (.cons (.var 0) (.cons (.c (.int 2)) .nil)))))
  .nil)) }

def t__law_right_1 : IE :=
  (.cmp .NotEq (.var 1) (.lst .nil))
def b__law_right_2 : ISs :=
  (.cons (.set 2 (.meth .pop (.var 1) .nil))
  (.cons (.ite (.or (.not (.isin (.var 2) [.tuple])) (.not (.call 13 (.cons (.idx (.var 2) (.c (.int 1))) .nil))))
    (.cons (.ret (.c (.bl false)))
    .nil)
    .nil)
  (.cons (.ex (.meth .extend (.var 1) (.cons (.slc (.var 2) (.some (.c (.int 2))) .no) .nil)))
  .nil)))
/-- _law_right(_law_paper_here): 0=_law_paper_here 1=_law_waiting 2=_law_one -/
def d__law_right : Def := { np := 1, nn := 3, body :=
  (.cons (.set 1 (.lst (.cons (.var 0) .nil)))
  (.cons (.wh t__law_right_1 b__law_right_2)
  (.cons (.ret (.c (.bl true)))
  .nil))) }

def e_law_1 : IE :=
  (.call 18 (.cons (.var 2) .nil))
def b_law_2 : ISs :=
  (.cons (.ite (.or (.cmp .NotEq (.call 0 (.cons (.var 4) .nil)) (.blt .str (.cons (.var 4) .nil))) (.cmp .NotEq (.call 4 (.cons (.blt .str (.cons (.var 4) .nil)) .nil)) (.var 4)))
    (.cons (.ret (.c (.bl false)))
    .nil)
    .nil)
  (.cons (.ite (.not (.call 13 (.cons (.call 4 (.cons (.blt .str (.cons (.var 4) .nil)) .nil)) .nil)))
    (.cons (.ret (.c (.bl false)))
    .nil)
    .nil)
  .nil))
def e_law_3 : IE :=
  (.blt .str (.cons (.var 4) .nil))
def b_law_4 : ISs :=
  (.cons (.set 2 (.call 11 (.cons (.call 10 (.cons (.var 0) (.cons (.var 1) .nil))) .nil)))
  (.cons (.set 3 (.comp e_law_1 (.v 9) (.rng (.cons (.call 12 (.cons (.var 2) (.cons (.c (.int 31)) .nil))) .nil)) .no [9]))
  (.cons (.loop (.v 4) (.e (.bin .Add (.var 3) (.lst (.cons (.c (.int 0)) .nil)))) b_law_2)
  (.cons (.set 5 (.meth .join (.c (.str " ")) (.cons (.comp e_law_3 (.v 4) (.e (.var 3)) .no [4]) .nil)))
  (.cons (.set 6 (.blt .list (.cons (.var 3) .nil)))
  (.cons (.set 7 (.call 5 (.cons (.var 5) .nil)))
  (.cons (.ite (.or (.cmp .NotEq (.call 1 (.cons (.var 6) .nil)) (.var 5)) (.or (.cmp .NotEq (.var 6) (.var 3)) (.or (.not (.isin (.var 7) [.list])) (.cmp .NotEq (.var 7) (.var 3)))))
    (.cons (.ret (.c (.bl false)))
    .nil)
    .nil)
  (.cons (.ex (.meth .append (.var 7) (.cons (.c (.int 1)) .nil)))
  (.cons (.ite (.or (.cmp .NotEq (.call 5 (.cons (.var 5) .nil)) (.var 3)) (.or (.cmp .NotEq (.call 5 (.cons (.c (.str "")) .nil)) (.lst .nil)) (.cmp .NotEq (.call 1 (.cons (.lst .nil) .nil)) (.c (.str "")))))
    (.cons (.ret (.c (.bl false)))
    .nil)
    .nil)
  (.cons (.set 8 (.call 15 (.cons (.var 2) (.cons (.c (.int 4)) .nil))))
  (.cons (.ite (.cmp .Eq (.call 12 (.cons (.var 2) (.cons (.c (.int 4)) .nil))) (.c (.int 0)))
    (.cons (.set 8 (.call 16 (.cons (.var 2) (.cons (.idx (.lst (.cons (.c (.int 100)) (.cons (.c (.int 99)) (.cons (.c (.int 1)) (.cons (.call 12 (.cons (.var 2) (.cons (.c (.int 101)) .nil))) .nil))))) (.call 12 (.cons (.var 2) (.cons (.c (.int 4)) .nil)))) .nil))))
    .nil)
    .nil)
  (.cons (.set 5 (.call 17 (.cons (.var 8) .nil)))
  (.cons (.ite (.or (.cmp .NotEq (.call 2 (.cons (.var 8) .nil)) (.var 5)) (.or (.cmp .NotEq (.call 9 (.cons (.var 5) .nil)) (.var 8)) (.not (.call 19 (.cons (.call 9 (.cons (.var 5) .nil)) .nil)))))
    (.cons (.ret (.c (.bl false)))
    .nil)
    .nil)
  .nil)))))))))))))
/-- law(_law_script): 0=_law_script 1=_law_turn 2=_law_pen_here 3=_law_row 4=_law_number_here 5=_law_text 6=_law_handed 7=_law_found 8=_law_paper_here 9=_law_k -/
def d_law : Def := { np := 1, nn := 10, body :=
  (.cons (.loop (.v 1) (.rng (.cons (.c (.int 3)) .nil)) b_law_4)
  (.cons (.ret (.c (.bl true)))
  .nil)) }

def dl : List Def := [d_show_number, d_show_row, d_show_paper, d_is_many, d_read_number, d_read_row, d_figures_from, d_sign_at, d_read_part, d_read_paper, d__law_cell, d__law_pen, d__law_take, d__law_is_number, d__law_many, d__law_paper, d__law_chain, d__law_written, d__law_number, d__law_right, d_law]
def T (i : Nat) : Option Def := dl[i]?
end Pk57

namespace Pk57
open PL L2
abbrev Str := PySem.Str
theorem T12 : T 12 = some cTake := rfl
theorem T11 : T 11 = some cPen := rfl
theorem T10 : T 10 = some cCell := rfl
theorem p17 : binD .Pow (.int 10) (.int 17) = some (.val (.int 100000000000000000)) := by rfl
theorem p33 : binD .Pow (.int 10) (.int 33) = some (.val (.int 1000000000000000000000000000000000)) := by rfl
def MM : Int := 10 ^ 50
theorem t_many (n k : Nat) (st : List SO) (hp : Pen st k) : ∃ (v : Int) (st' : List SO), Phi T (n + 2) 14 [.obj k] st = .ok (.val (.int v)) st' ∧ Nx k st st' ∧ 0 ≤ v ∧ v < MM := by
  obtain ⟨v1, s1, e1, n1, a1, b1⟩ := t_take T12 n k 10 st (by decide) (by decide) hp
  obtain ⟨v2, s2, e2, n2, a2, b2⟩ := t_take T12 n k 1000 s1 (by decide) (by decide) n1.pen
  obtain ⟨v3, s3, e3, n3, a3, b3⟩ := t_take T12 n k 100000000000000000 s2 (by decide) (by decide) n2.pen
  obtain ⟨v4, s4, e4, n4, a4, b4⟩ := t_take T12 n k 4 s3 (by decide) (by decide) n3.pen
  have m : binD .Mult (.int v3) (.int 1000000000000000000000000000000000) = some (.val (.int (v3 * 1000000000000000000000000000000000))) := mul_int (mulOk_small a3 (by omega))
  have nx := ((n1.trans n2).trans n3).trans n4
  have hMM : MM = 100000000000000000000000000000000000000000000000000 := by decide
  have key : ∀ x, atI [D.int v1, .int v2, .int (v3 * 1000000000000000000000000000000000 + 7), .int 0] v4 = some (.int x) → Phi T (n + 2) 14 [.obj k] st = .ok (.val (.int x)) s4 := fun x hx => by
    rw [phi_run (d := d__law_many) rfl rfl]
    simp [d__law_many, runs_cons, runs_nil, PL.run, evalE, evalEs, callF_eq, e1, e2, e3, e4, p17, p33, m, hx]
  have h4 : v4 = 0 ∨ v4 = 1 ∨ v4 = 2 ∨ v4 = 3 := by omega
  rcases h4 with rfl | rfl | rfl | rfl
  · exact ⟨v1, s4, key _ rfl, nx, a1, by omega⟩
  · exact ⟨v2, s4, key _ rfl, nx, a2, by omega⟩
  · exact ⟨_, s4, key _ rfl, nx, by omega, by omega⟩
  · exact ⟨0, s4, key _ rfl, nx, by omega, by omega⟩
theorem t_number (n k : Nat) (st : List SO) (hp : Pen st k) : ∃ (v : Int) (st' : List SO), Phi T (n + 3) 18 [.obj k] st = .ok (.val (.int v)) st' ∧ Nx k st st' ∧ -MM < v ∧ v < MM := by
  obtain ⟨v1, s1, e1, n1, a1, b1⟩ := t_many n k st hp
  obtain ⟨v4, s4, e4, n4, a4, b4⟩ := t_take T12 (n + 1) k 2 s1 (by decide) (by decide) n1.pen
  have key : ∀ x, atI [D.int v1, .int (0 - v1)] v4 = some (.int x) → Phi T (n + 3) 18 [.obj k] st = .ok (.val (.int x)) s4 := fun x hx => by
    rw [phi_run (d := d__law_number) rfl rfl]
    simp only [Int.zero_sub] at hx
    simp [d__law_number, runs_cons, runs_nil, PL.run, evalE, evalEs, callF_eq, e1, e4, setR, hx]
  have h4 : v4 = 0 ∨ v4 = 1 := by omega
  have hMM : MM = 100000000000000000000000000000000000000000000000000 := by decide
  rcases h4 with rfl | rfl
  · exact ⟨v1, s4, key _ rfl, n1.trans n4, by omega, b1⟩
  · exact ⟨0 - v1, s4, key _ rfl, n1.trans n4, by omega, by omega⟩
/-- papers -/
inductive Pap where
  | all (n : Nat) | split (n : Nat) (l u : Pap)
def Pap.D : Pap → D
  | .all n => .tup [.str "all", .int n]
  | .split n l u => .tup [.str "split", .int n, l.D, u.D]
def Pap.ht : Pap → Nat
  | .all _ => 0
  | .split _ l u => max l.ht u.ht + 1
def Pap.cost : Pap → Nat
  | .all _ => 1
  | .split _ l u => l.cost + u.cost + 3
def Pap.ok : Pap → Prop
  | .all n => (n : Int) < MM
  | .split n l u => (n : Int) < MM ∧ l.ok ∧ u.ok
theorem toNat {v : Int} (h : 0 ≤ v) : ∃ n : Nat, v = n := ⟨v.toNat, by omega⟩
theorem t_paper (k : Nat) : ∀ (d n : Nat) (st : List SO), Pen st k → ∃ (p : Pap) (st' : List SO), Phi T (n + d + 3) 15 [.obj k, .int d] st = .ok (.val p.D) st' ∧ Nx k st st' ∧ p.ok ∧ p.ht ≤ d ∧ p.cost + 3 ≤ 4 * 2 ^ d
  | d, n, st, hp => by
    have all : ∀ s1, Nx k st s1 → ∃ (p : Pap) (st' : List SO) (v : Nat), Phi T (n + d + 2) 14 [.obj k] s1 = .ok (.val (.int v)) st' ∧ Nx k st st' ∧ p = .all v ∧ p.ok ∧ p.ht ≤ d ∧ p.cost + 3 ≤ 4 * 2 ^ d := fun s1 n1 => by
      obtain ⟨v, s2, e2, n2, a, b⟩ := t_many (n + d) k s1 n1.pen
      obtain ⟨v, rfl⟩ := toNat a
      have : 1 ≤ 2 ^ d := Nat.one_le_two_pow
      exact ⟨.all v, s2, v, e2, n1.trans n2, rfl, b, Nat.zero_le _, by simp only [Pap.cost]; omega⟩
    cases d with
    | zero =>
      obtain ⟨p, s2, v, e2, n2, rfl, h⟩ := all st (.refl hp)
      refine ⟨_, s2, ?_, n2, h⟩
      rw [phi_run (d := d__law_paper) rfl rfl]
      simp [d__law_paper, runs_cons, runs_nil, PL.run, evalE, evalEs, callF_eq, e2, Pap.D]
    | succ d =>
      obtain ⟨v, s1, e1, n1, a, b⟩ := t_take T12 (n + (d + 1) + 1) k 3 st (by decide) (by decide) hp
      have hd : ((d : Int) + 1 == 0) = false := by simp; omega
      by_cases hv : v = 0
      · subst hv
        obtain ⟨p, s2, v, e2, n2, rfl, h⟩ := all s1 n1
        refine ⟨_, s2, ?_, n2, h⟩
        rw [phi_run (d := d__law_paper) rfl rfl]
        simp [d__law_paper, runs_cons, runs_nil, PL.run, evalE, evalEs, callF_eq, e1, e2, Pap.D, hd]
      · have hv' : (v == 0) = false := by simpa using hv
        obtain ⟨m, s2, e2, n2, a2, b2⟩ := t_many (n + (d + 1)) k s1 n1.pen
        obtain ⟨m, rfl⟩ := toNat a2
        obtain ⟨l, s3, e3, n3, ol, hl, cl⟩ := t_paper k d n s2 n2.pen
        obtain ⟨u, s4, e4, n4, ou, hu, cu⟩ := t_paper k d n s3 n3.pen
        refine ⟨.split m l u, s4, ?_, ((n1.trans n2).trans n3).trans n4, ⟨b2, ol, ou⟩, by simp only [Pap.ht]; omega, by simp only [Pap.cost]; rw [Nat.pow_succ]; omega⟩
        have e3' : Phi T (n + (d + 1) + 2) 15 [.obj k, .int d] s2 = .ok (.val l.D) s3 := e3
        have e4' : Phi T (n + (d + 1) + 2) 15 [.obj k, .int d] s3 = .ok (.val u.D) s4 := e4
        rw [phi_run (d := d__law_paper) rfl rfl]
        simp [d__law_paper, runs_cons, runs_nil, PL.run, evalE, evalEs, callF_eq, e1, e2, Pap.D, hd, hv', setR, e3', e4']
end Pk57

namespace Pk57
open PL L2
theorem t_chain (n k : Nat) (m : Nat) (hm : m ≤ 100) (st : List SO) (hp : Pen st k) :
    ∃ (p : Pap) (st' : List SO), Phi T (n + 3) 16 [.obj k, .int m] st = .ok (.val p.D) st' ∧ Nx k st st' ∧ p.ok ∧ p.ht ≤ m ∧ p.cost ≤ 1 + 4 * m := by
  obtain ⟨v, s1, e1, n1, a1, b1⟩ := t_many n k st hp
  obtain ⟨v, rfl⟩ := toNat a1
  have hMM : MM = 100000000000000000000000000000000000000000000000000 := by decide
  obtain ⟨s', h1, p, x3, x4, s2, rfl, h2, h3, h4, h5⟩ := loop_inv (f := turnL (Phi T (n + 2)) (.v 3) b__law_chain_1)
    (fun i s => ∃ (p : Pap) (x3 x4 : Sl) (s2 : List SO), s = ⟨[.val (.obj k), .val (.int m), .val p.D, x3, x4], s2⟩ ∧ Nx k st s2 ∧ p.ok ∧ p.ht ≤ i ∧ p.cost ≤ 1 + 4 * i) (ds := rangeD 0 m) (s := ⟨[.val (.obj k), .val (.int m), .val (Pap.all v).D, .no, .no], s1⟩)
    ⟨.all v, _, _, s1, rfl, n1, b1, Nat.le_refl _, Nat.le_refl _⟩ (fun i d s hd hs => by
      obtain ⟨rfl, hi⟩ := range_at hd
      obtain ⟨p, x3, x4, s2, rfl, n2, ok, ht, ct⟩ := hs
      obtain ⟨w1, s3, e3, n3, a3, b3⟩ := t_take T12 (n + 1) k 10 s2 (by decide) (by decide) n2.pen
      obtain ⟨w2, s4, e4, n4, a4, b4⟩ := t_take T12 (n + 1) k 2 s3 (by decide) (by decide) n3.pen
      obtain ⟨w3, s5, e5, n5, a5, b5⟩ := t_take T12 (n + 1) k 100 s4 (by decide) (by decide) n4.pen
      obtain ⟨w1, rfl⟩ := toNat a3
      obtain ⟨w3, rfl⟩ := toNat a5
      have nn := ((n2.trans n3).trans n4).trans n5
      by_cases hw : w2 = 0
      · refine ⟨_, ?_, .split w3 (.all w1) p, .val (.int ((0 : Int) + (i : Nat))), .own [(Pap.all w1).D, p.D], s5, rfl, nn, ⟨by omega, by show (w1 : Int) < MM; omega, ok⟩, by simp only [Pap.ht]; omega, by simp only [Pap.cost]; omega⟩
        subst hw
        simp [b__law_chain_1, turnL, asgT, callF_eq, e3, e4, e5, setR, srevD, atI, ixN, Pap.D]
      · have hw' : (w2 == 0) = false := by simpa using hw
        refine ⟨_, ?_, .split w3 p (.all w1), .val (.int ((0 : Int) + (i : Nat))), .own [p.D, (Pap.all w1).D], s5, rfl, nn, ⟨by omega, ok, by show (w1 : Int) < MM; omega⟩, by simp only [Pap.ht]; omega, by simp only [Pap.cost]; omega⟩
        simp [b__law_chain_1, turnL, asgT, callF_eq, e3, e4, e5, setR, srevD, atI, ixN, Pap.D, hw'])
  rw [range_length] at h4 h5
  refine ⟨p, s2, ?_, h2, h3, h4, h5⟩
  rw [phi_run (d := d__law_chain) rfl rfl]
  simp only [Pap.D] at h1
  simp [d__law_chain, callF_eq, e1, setR, rangeOf1 (show (0 : Int) ≤ (m : Int) by omega) (by omega), h1]
end Pk57

namespace Pk57
open PL L2
/-- a text of signs -/
def so (l : List Nat) : Str := ⟨l.toArray⟩
theorem tl_so (l : List Nat) : TL.tl (so l) = l := rfl
theorem so_tl (x : Str) : so (TL.tl x) = x := TL.mk_tl x
theorem so_len (l : List Nat) : (so l).length = l.length := by simp [so, PySem.Str.length]
theorem so_add (a b : List Nat) : so a ++ so b = so (a ++ b) := TL.ext_tl (by rw [TL.tl_append]; rfl)
theorem so_inj {a b : List Nat} (h : so a = so b) : a = b := by rw [← tl_so a, h]; rfl
theorem so_beq (a b : List Nat) : (so a == so b) = (a == b) := by
  by_cases h : a = b
  · subst h; simp
  · rw [beq_eq_false_iff_ne.mpr h, beq_eq_false_iff_ne.mpr fun e => h (so_inj e)]
@[simp] theorem add_str {a b : List Nat} (h : a.length + b.length ≤ 16777216) : binD .Add (.str (so a)) (.str (so b)) = some (.val (.str (so (a ++ b)))) := by
  have hL : LIM = 16777216 := rfl
  simp only [binD, so_len, hL, h, if_true, so_add]
abbrev num (n : Nat) : List Nat := TL.numL n
theorem num_so (n : Nat) : PySem.Str.ofString (toString ((n : Nat) : Int)) = so (num n) := by rw [← so_tl (PySem.Str.ofString _), TL.tl_num]
theorem log_lt {n : Nat} (h : (n : Int) < MM) : (n : Int).natAbs.log2 < 1920 := by
  have hMM : MM = 100000000000000000000000000000000000000000000000000 := by decide
  have h2 : n < 100000000000000000000000000000000000000000000000000 := by omega
  rw [Int.natAbs_natCast]
  by_cases h0 : n = 0
  · subst h0; decide
  · rw [Nat.log2_lt h0]
    exact Nat.lt_of_lt_of_le (Nat.lt_trans h2 (show _ < 2 ^ 167 by decide)) (Nat.pow_le_pow_right (by decide) (by decide))
@[simp] theorem str_num {st : List SO} {n : Nat} (h : (n : Int) < MM) : bltD st .str [.int (n : Int)] = some (.val (.str (so (num n)))) := by
  simp only [bltD, log_lt h, if_true, num_so]
theorem num_len {n : Nat} (h : (n : Int) < MM) : (num n).length ≤ 50 := TL.numL_len (by decide) (by
  have hMM : MM = 100000000000000000000000000000000000000000000000000 := by decide
  have : (10 : Nat) ^ 50 = 100000000000000000000000000000000000000000000000000 := by decide
  rw [this]; omega)
theorem l_open : ("(" : Str) = so [40] := TL.ext_tl (by rw [TL.tl_ofString]; rfl)
theorem l_close : (")" : Str) = so [41] := TL.ext_tl (by rw [TL.tl_ofString]; rfl)
theorem l_comma : ("," : Str) = so [44] := TL.ext_tl (by rw [TL.tl_ofString]; rfl)
theorem l_none : ("" : Str) = so [] := TL.ext_tl (by rw [TL.tl_ofString]; rfl)
theorem l_ne : (("split" : Str) == "all") = false := by decide +kernel
/-- what a paper is written as -/
def Pap.txt : Pap → List Nat
  | .all n => num n
  | .split n l u => num n ++ [40] ++ l.txt ++ [44] ++ u.txt ++ [41]
theorem txt_len : ∀ {p : Pap}, p.ok → p.txt.length ≤ 53 * p.cost
  | .all n, h => by
    have := num_len h
    simp only [Pap.txt, Pap.cost]; omega
  | .split n l u, h => by
    have := num_len h.1
    have := txt_len h.2.1
    have := txt_len h.2.2
    simp only [Pap.txt, Pap.cost, List.length_append, List.length_cons, List.length_nil]; omega
theorem show_number (n : Nat) (m : Nat) (st : List SO) (h : (m : Int) < MM) : Phi T (n + 1) 0 [.int (m : Int)] st = .ok (.val (.str (so (num m)))) st := by
  rw [phi_run (d := d_show_number) rfl rfl]
  simp [d_show_number, opN, h]
theorem show_paper : ∀ (p : Pap) (n : Nat) (st : List SO), p.ok → p.cost ≤ 500 → Phi T (n + p.ht + 2) 2 [p.D] st = .ok (.val (.str (so p.txt))) st
  | .all m, n, st, h, hc => by
    rw [phi_run (d := d_show_paper) rfl rfl]
    simp [d_show_paper, Pap.D, atI, ixN, callF_eq, show_number _ m _ h, Pap.txt, Pap.ht]
  | .split m l u, n, st, h, hc => by
    simp only [Pap.cost] at hc
    have a := num_len h.1
    have b := txt_len h.2.1
    have c := txt_len h.2.2
    have e1 : ∀ st, Phi T (n + (max l.ht u.ht + 1) + 1) 2 [l.D] st = .ok (.val (.str (so l.txt))) st := fun st => by
      have := show_paper l (n + (max l.ht u.ht - l.ht)) st h.2.1 (by omega)
      rw [show n + (max l.ht u.ht + 1) + 1 = n + (max l.ht u.ht - l.ht) + l.ht + 2 by omega]; exact this
    have e2 : ∀ st, Phi T (n + (max l.ht u.ht + 1) + 1) 2 [u.D] st = .ok (.val (.str (so u.txt))) st := fun st => by
      have := show_paper u (n + (max l.ht u.ht - u.ht)) st h.2.2 (by omega)
      rw [show n + (max l.ht u.ht + 1) + 1 = n + (max l.ht u.ht - u.ht) + u.ht + 2 by omega]; exact this
    show Phi T (n + (max l.ht u.ht + 1) + 1 + 1) 2 _ _ = _
    rw [phi_run (d := d_show_paper) rfl rfl]
    have q1 := add_str (a := num m) (b := [40]) (by simp; omega)
    have q2 := add_str (a := num m ++ [40]) (b := l.txt) (by simp; omega)
    have q3 := add_str (a := num m ++ [40] ++ l.txt) (b := [44]) (by simp; omega)
    have q4 := add_str (a := num m ++ [40] ++ l.txt ++ [44]) (b := u.txt) (by simp; omega)
    have q5 := add_str (a := num m ++ [40] ++ l.txt ++ [44] ++ u.txt) (b := [41]) (by simp; omega)
    simp only [List.append_assoc, List.cons_append, List.nil_append] at q1 q2 q3 q4 q5
    simp [d_show_paper, Pap.D, atI, ixN, callF_eq, show_number _ m _ h.1, l_ne, e1, e2, l_open, l_comma, l_close, q1, q2, q3, q4, q5, Pap.txt, -add_str]
end Pk57

namespace Pk57
open PL L2
theorem pap_data : ∀ p : Pap, p.D.data = true
  | .all n => rfl
  | .split n l u => by simp [Pap.D, D.data, D.datas, pap_data l, pap_data u]
theorem ne_nil {ds : List D} (h : D.datas ds = true) : cmpD .NotEq (.lst ds) (.lst []) = some (!ds.isEmpty) := by
  have hd : (D.lst []).depth = 1 := rfl
  have hE : EQD = 200 := rfl
  simp only [cmpD, D.data, h, hd, hE, D.datas, D.eqv]
  rw [if_pos ⟨trivial, trivial, by omega⟩]
  cases ds <;> simp [D.eqvs]
inductive Itm where
  | sg (l : List Nat) | pa (p : Pap)
def Itm.D : Itm → D
  | .sg l => .str (so l)
  | .pa p => p.D
def Itm.txt : Itm → List Nat
  | .sg l => l
  | .pa p => p.txt
def Itm.cost : Itm → Nat
  | .sg _ => 1
  | .pa p => p.cost
def Itm.ok : Itm → Prop
  | .sg _ => True
  | .pa p => p.ok
def rest : List Itm → List Nat
  | [] => []
  | i :: r => i.txt ++ rest r
def costs : List Itm → Nat
  | [] => 0
  | i :: r => i.cost + costs r
theorem itm_data (i : Itm) : i.D.data = true := by
  cases i with
  | sg l => rfl
  | pa p => exact pap_data p
theorem datas_app : ∀ {a b : List D}, D.datas (a ++ b) = (D.datas a && D.datas b)
  | [], b => by simp [D.datas]
  | x :: a, b => by simp [D.datas, datas_app, Bool.and_assoc]
theorem itms_data : ∀ l : List Itm, D.datas (l.map Itm.D) = true
  | [] => rfl
  | i :: r => by simp [D.datas, itm_data, itms_data r]
theorem cost_pos (p : Pap) : 1 ≤ p.cost := by cases p <;> simp only [Pap.cost] <;> omega
theorem costs_len : ∀ l : List Itm, l.length ≤ costs l
  | [] => Nat.le_refl _
  | i :: r => by
    have := costs_len r
    have : 1 ≤ i.cost := by
      cases i with
      | sg _ => exact Nat.le_refl _
      | pa p => exact cost_pos p
    simp only [costs, List.length_cons]; omega
theorem written (p : Pap) (n : Nat) (st : List SO) (h : p.ok) (hc : p.cost ≤ 500) : Phi T (n + 1) 17 [p.D] st = .ok (.val (.str (so p.txt))) st := by
  have hl := txt_len h
  rw [phi_run (d := d__law_written) rfl rfl]
  obtain ⟨s', h1, x2, x3, rfl⟩ := wh_inv (c := condW (Phi T n) t__law_written_1) (b := runs (Phi T n) b__law_written_2)
    (fun m s => ∃ (done : List Nat) (rs : List Itm) (x3 : Sl), s = ⟨[.val p.D, .val (.str (so done)), .own (rs.reverse.map Itm.D), x3], st⟩ ∧ (∀ i ∈ rs, i.ok) ∧ done ++ rest rs = p.txt ∧ m = costs rs ∧ costs rs ≤ 500)
    (fun s => ∃ x2 x3, s = ⟨[.val p.D, .val (.str (so p.txt)), x2, x3], st⟩)
    (fun m s ⟨done, rs, x3, e, ok, et, em, ec⟩ => by
      subst e em
      cases rs with
      | nil =>
        left
        simp only [rest, List.append_nil] at et
        subst et
        exact ⟨_, (by simp [condW, t__law_written_1, ne_nil (show D.datas [] = true from rfl)]; exact ⟨rfl, rfl⟩), _, _, rfl⟩
      | cons i r =>
        right
        have hne : cmpD .NotEq (.lst (((i :: r).reverse).map Itm.D)) (.lst []) = some true := by
          rw [ne_nil (itms_data _)]; simp
        simp only [List.reverse_cons, List.map_append, List.map_cons, List.map_nil, List.map_reverse] at hne
        have oi := ok i List.mem_cons_self
        have or : ∀ j ∈ r, j.ok := fun j hj => ok j (List.mem_cons_of_mem _ hj)
        simp only [rest] at et
        have hlen : done.length + i.txt.length + (rest r).length = p.txt.length := by rw [← et]; simp; omega
        have hcl := costs_len r
        simp only [costs] at ec
        cases i with
        | sg l =>
          have q := add_str (a := done) (b := l) (by simp only [Itm.txt] at hlen; omega)
          refine ⟨⟨[.val p.D, .val (.str (so done)), .own ((r.reverse ++ [Itm.sg l]).map Itm.D), x3], st⟩, _, costs r, ?_, ?_, ⟨done ++ l, r, .val (.str (so l)), rfl, or, by rw [← et]; simp [Itm.txt], rfl, by omega⟩, by simp only [costs, Itm.cost]; omega⟩
          · simp [condW, t__law_written_1, hne]
          · simp [b__law_written_2, Itm.D, recv, D.tyO, Mth.ty, methR, methL, setR, Ty.sub, q, -add_str]
        | pa pp =>
          cases pp with
          | all k =>
            have q := add_str (a := done) (b := num k) (by simp only [Itm.txt, Pap.txt] at hlen; omega)
            refine ⟨⟨[.val p.D, .val (.str (so done)), .own ((r.reverse ++ [Itm.pa (.all k)]).map Itm.D), x3], st⟩, _, costs r, ?_, ?_, ⟨done ++ num k, r, .val (Pap.all k).D, rfl, or, by rw [← et]; simp [Itm.txt, Pap.txt], rfl, by omega⟩, by simp only [costs, Itm.cost, Pap.cost]; omega⟩
            · simp [condW, t__law_written_1, hne]
            · simp [b__law_written_2, Itm.D, Pap.D, recv, D.tyO, Mth.ty, methR, methL, setR, Ty.sub, q, atI, ixN, opN, str_num oi, -add_str]
          | split k l u =>
            simp only [Itm.txt, Pap.txt, List.length_append, List.length_cons, List.length_nil] at hlen
            have q := add_str (a := done) (b := num k) (by omega)
            have q2 := add_str (a := done ++ num k) (b := [40]) (by simp; omega)
            simp only [Itm.cost, Pap.cost] at ec
            have hz : r.length + 1 + 1 + 1 + 1 ≤ LIM := by show _ ≤ 16777216; omega
            have hz2 : r.length + 4 ≤ LIM := hz
            refine ⟨⟨[.val p.D, .val (.str (so done)), .own ((r.reverse ++ [Itm.pa (.split k l u)]).map Itm.D), x3], st⟩, _, costs (.pa l :: .sg [44] :: .pa u :: .sg [41] :: r), ?_, ?_, ⟨done ++ num k ++ [40], .pa l :: .sg [44] :: .pa u :: .sg [41] :: r, .val (Pap.split k l u).D, rfl, ?_, ?_, rfl, ?_⟩, ?_⟩
            · simp [condW, t__law_written_1, hne]
            · simp only [List.append_assoc] at q2
              simp [b__law_written_2, Itm.D, Pap.D, recv, D.tyO, Mth.ty, methR, methL, setR, Ty.sub, q, q2, atI, ixN, opN, str_num oi.1, l_ne, l_open, l_close, l_comma, hz2, -add_str]
            · intro j hj
              simp only [List.mem_cons] at hj
              rcases hj with rfl | rfl | rfl | rfl | hj
              · exact oi.2.1
              · trivial
              · exact oi.2.2
              · trivial
              · exact or j hj
            · rw [← et]; simp [Itm.txt, Pap.txt, rest]
            · simp only [costs, Itm.cost]; omega
            · simp only [costs, Itm.cost, Pap.cost]; omega)
    FUEL (costs [.pa p]) ⟨[.val p.D, .val (.str (so [])), .own [p.D], .no], st⟩ ⟨[], [.pa p], .no, rfl, fun i hi => by
      rw [List.mem_singleton.mp hi]; exact h, by simp [rest, Itm.txt], rfl, by simp only [costs, Itm.cost]; omega⟩ (by simp only [costs, Itm.cost, FUEL]; omega)
  simp [d__law_written, l_none, setR, h1]
end Pk57

namespace Pk57
open PL L2
/-- the signs of texts -/
def SIGNS : List Nat := [40, 41, 44, 45, 48, 49, 50, 51, 52, 53, 54, 55, 56, 57]
def isD (c : Nat) : Bool := decide (48 ≤ c) && decide (c ≤ 57)
theorem in_fig : ∀ c ∈ SIGNS, cmpD .In (.str (so [c])) (.str "0123456789") = some (isD c) := by decide +kernel
theorem dig_sign {c : Nat} (h : isD c = true) : c ∈ SIGNS := by
  simp only [isD, Bool.and_eq_true, decide_eq_true_eq] at h
  have : c = 48 ∨ c = 49 ∨ c = 50 ∨ c = 51 ∨ c = 52 ∨ c = 53 ∨ c = 54 ∨ c = 55 ∨ c = 56 ∨ c = 57 := by omega
  simp only [SIGNS, List.mem_cons, List.mem_nil_iff]
  omega
theorem num_dig (n : Nat) : ∀ c ∈ num n, isD c = true := fun c hc => by
  have := TL.numL_digits n c hc
  simp only [isD, Bool.and_eq_true, decide_eq_true_eq]
  simpa using this
theorem l_zero : ("0" : Str) = so [48] := TL.ext_tl (by rw [TL.tl_ofString]; rfl)
theorem so_toList (l : List Nat) : (so l).cps.toList = l := rfl
theorem mk1 (c : Nat) : (⟨#[c]⟩ : PySem.Str) = so [c] := rfl
theorem bls_map : ∀ l : List Nat, D.bls (l.map fun c => D.bl (isD c)) = some (l.map isD)
  | [] => rfl
  | c :: r => by simp [D.bls, bls_map r]
theorem many_comp (n : Nat) (l : List Nat) (st : List SO) (hs : ∀ c ∈ l, c ∈ SIGNS) : ∃ y, compL (turnC (Phi T n) e_is_many_1 (.v 1) .no [1]) (l.map fun c => .str ⟨#[c]⟩) [] ⟨[.val (.str (so l)), .no], st⟩ = .ok (l.map fun c => .bl (isD c)) ⟨[.val (.str (so l)), y], st⟩ := by
  obtain ⟨s', h1, y, rfl⟩ := comp_map (f := turnC (Phi T n) e_is_many_1 (.v 1) .no [1]) (fun d => match d with | .str x => .bl (isD (x.cps.toList.headD 0)) | _ => .non) (fun s => ∃ y, s = ⟨[.val (.str (so l)), y], st⟩) (ds := l.map fun c => .str ⟨#[c]⟩) (acc := []) (s := ⟨[.val (.str (so l)), .no], st⟩) ⟨_, rfl⟩ fun d hd s hq => by
    obtain ⟨y, rfl⟩ := hq
    obtain ⟨c, hc, rfl⟩ := List.mem_map.mp hd
    refine ⟨_, ?_, .val (.str (so [c])), rfl⟩
    have := in_fig c (hs c hc)
    simp [turnC, asgT, PL.wipe, e_is_many_1, mk1, this]
  refine ⟨y, ?_⟩
  rw [h1]
  simp
theorem len_str {st : List SO} (l : List Nat) : bltD st .len [.str (so l)] = some (.val (.int l.length)) := by
  simp [bltD, lenD, so_len]
theorem many_ret (n : Nat) (l : List Nat) (st : List SO) (hs : ∀ c ∈ l, c ∈ SIGNS) :
    runs (Phi T n) (.cons (.ret (.blt .all (.cons (.comp e_is_many_1 (.v 1) (.e (.var 0)) .no [1]) .nil))) .nil) ⟨[.val (.str (so l)), .no], st⟩ = .ok (.ret (.val (.bl (l.all isD)))) ⟨[.val (.str (so l)), .no], st⟩ := by
  obtain ⟨y, hy⟩ := many_comp n l st hs
  have hb := bls_map l
  simp [iter?, so_toList, plainAt, hy, Out.nox, opN, bltD, hb, back]
theorem ret_c (φ : FS) (d : D) (s : S) : runs φ (.cons (.ret (.c d)) .nil) s = .ok (.ret (.val d)) s := by simp
theorem is_many (n : Nat) (l : List Nat) (st : List SO) (hs : ∀ c ∈ l, c ∈ SIGNS) :
    Phi T (n + 1) 3 [.str (so l)] st = .ok (.val (.bl (decide (1 ≤ l.length) && decide (l.length ≤ 50) && !(l.head? == some 48 && !(l == [48])) && l.all isD))) st := by
  rw [phi_run (d := d_is_many) rfl rfl]
  have hr := many_ret n l st hs
  simp only [d_is_many]
  rw [runs_cons]
  by_cases h1 : 1 ≤ l.length
  · have hl1 : (1 : Int) ≤ (l.length : Int) := by omega
    by_cases h2 : l.length ≤ 50
    · have hl : (l.length : Int) ≤ 50 := by omega
      cases l with
      | nil => simp at h1
      | cons c r =>
        have ha : atI (c :: r) 0 = some c := by simp [atI, ixN]
        have hL : (c :: r).length = r.length + 1 := rfl
        have k1 : (r.length : Int) + 1 ≤ 50 := by omega
        have k2 : (1 : Int) ≤ (r.length : Int) + 1 := by omega
        have k3 : r.length ≤ 49 := by omega
        by_cases h3 : c = 48
        · subst h3
          by_cases h4 : r = []
          · subst h4
            simp [-runs_cons, ret_c, hr, opN, len_str, so_toList, ha, mk1, l_zero, so_beq]
          · simp [-runs_cons, ret_c, hr, opN, len_str, so_toList, ha, mk1, l_zero, so_beq, k1, k2, k3, h4]
        · simp [-runs_cons, ret_c, hr, opN, len_str, so_toList, ha, mk1, l_zero, so_beq, k1, k2, k3, h3]
    · have hl : ¬ (l.length : Int) ≤ 50 := by omega
      simp [-runs_cons, ret_c, hr, opN, len_str, hl, hl1, h1, h2]
  · have hl1 : ¬ (1 : Int) ≤ (l.length : Int) := by omega
    simp [-runs_cons, ret_c, hr, opN, len_str, hl1, h1]
end Pk57

namespace Pk57
open PL L2
theorem cut_mid (a m b : List Nat) : cutStr (so (a ++ m ++ b)) (some (a.length : Int)) (some ((a.length : Int) + (m.length : Int))) = so m := by
  have e1 : HT.sIx (a ++ m ++ b).length 0 (some (a.length : Int)) = a.length := by
    rw [HT.sIx_nat]; simp
  have e2 : HT.sIx (a ++ m ++ b).length (a ++ m ++ b).length (some ((a.length : Int) + (m.length : Int))) = a.length + m.length := by
    rw [show ((a.length : Int) + (m.length : Int)) = ((a.length + m.length : Nat) : Int) by simp, HT.sIx_nat]; simp
  unfold cutStr cut
  rw [so_toList, e1, e2]
  simp [so]
theorem cut_mid' (t a m b : List Nat) (x y : Int) (e : t = a ++ m ++ b) (hx : x = a.length) (hy : y = a.length + m.length) : cutStr (so t) (some x) (some y) = so m := by
  subst e hx hy
  exact cut_mid a m b
/-- what stands behind figures -/
def endB : List Nat → Prop
  | [] => True
  | c :: _ => c ∈ SIGNS ∧ isD c = false
theorem in_text {t a b : List Nat} {c : Nat} (e : t = a ++ c :: b) (st : List SO) (x : Int) (hx : x = a.length) : idxD st (.str (so t)) (.int x) = some (.str (so [c])) := by
  subst e hx
  simp only [idx_str, so_toList]
  have : atI (a ++ c :: b) (a.length : Int) = some c := by
    obtain ⟨y, h1, h2⟩ := atI_get (xs := a ++ c :: b) (i := (a.length : Int)) (by omega) (by simp; omega)
    rw [h1]
    simp at h2
    rw [h2]
  rw [this]; rfl
theorem figures_from (n : Nat) (t a f b : List Nat) (st : List SO) (e : t = a ++ f ++ b) (hf : ∀ c ∈ f, isD c = true) (hb : endB b) (hl : f.length ≤ 100) :
    Phi T (n + 1) 6 [.str (so t), .int a.length] st = .ok (.val (.str (so f))) st := by
  rw [phi_run (d := d_figures_from) rfl rfl]
  obtain ⟨s', h1, rfl⟩ := wh_inv (c := condW (Phi T n) t_figures_from_1) (b := runs (Phi T n) b_figures_from_2)
    (fun m s => ∃ i : Nat, i ≤ f.length ∧ m = f.length - i ∧ s = ⟨[.val (.str (so t)), .val (.int a.length), .val (.int (a.length + i))], st⟩)
    (fun s => s = ⟨[.val (.str (so t)), .val (.int a.length), .val (.int (a.length + f.length))], st⟩)
    (fun m s ⟨i, hi, em, es⟩ => by
      subst em es
      have htl : t.length = a.length + f.length + b.length := by rw [e]; simp; omega
      by_cases h2 : i < f.length
      · right
        have hlt : (a.length : Int) + (i : Int) < (t.length : Int) := by omega
        have hc : isD f[i] = true := hf _ (List.getElem_mem h2)
        have hx := in_text (t := t) (a := a ++ f.take i) (b := f.drop (i + 1) ++ b) (c := f[i]) (by
          rw [e]; simp only [List.append_assoc, List.append_cancel_left_eq]
          rw [← List.cons_append, ← List.drop_eq_getElem_cons h2, ← List.append_assoc, List.take_append_drop]) st ((a.length : Int) + (i : Int)) (by simp; omega)
        have hq := in_fig f[i] (dig_sign hc)
        rw [hc] at hq
        refine ⟨⟨[.val (.str (so t)), .val (.int a.length), .val (.int (a.length + i))], st⟩, _, f.length - (i + 1), ?_, ?_, ⟨i + 1, h2, rfl, rfl⟩, by omega⟩
        · simp [-idx_str, condW, t_figures_from_1, opN, len_str, hlt, hx, hq]
        · simp [b_figures_from_2, setR]; omega
      · left
        have : i = f.length := by omega
        subst this
        refine ⟨_, ?_, rfl⟩
        cases b with
        | nil =>
          have hlt : ¬ ((a.length : Int) + (f.length : Int) < (t.length : Int)) := by simp at htl; omega
          simp [-idx_str, condW, t_figures_from_1, opN, len_str, hlt]
        | cons c r =>
          have hlt : (a.length : Int) + (f.length : Int) < (t.length : Int) := by simp at htl; omega
          have hx := in_text (t := t) (a := a ++ f) (b := r) (c := c) e st ((a.length : Int) + (f.length : Int)) (by simp)
          have hq := in_fig c hb.1
          rw [hb.2] at hq
          simp [-idx_str, condW, t_figures_from_1, opN, len_str, hlt, hx, hq])
    FUEL f.length ⟨[.val (.str (so t)), .val (.int a.length), .val (.int a.length)], st⟩ ⟨0, Nat.zero_le _, rfl, by simp⟩ (by simp only [FUEL]; omega)
  have hc := cut_mid' t a f b (a.length : Int) ((a.length : Int) + (f.length : Int)) e rfl rfl
  simp [d_figures_from, setR, h1, slcD, hc]
theorem sign_at (n : Nat) (t a b : List Nat) (c : Nat) (st : List SO) (e : t = a ++ c :: b) (x : Int) (hx : x = a.length) : Phi T (n + 1) 7 [.str (so t), .int x, .str (so [c])] st = .ok (.val .non) st := by
  have hc := cut_mid' t a [c] b x (x + 1) (by rw [e]; simp) hx (by rw [hx]; simp)
  rw [phi_run (d := d_sign_at) rfl rfl]
  simp [d_sign_at, slcD, hc]
theorem num_head (m : Nat) (h : m ≠ 0) : (num m).head? ≠ some 48 := by
  induction m using Nat.strongRecOn with
  | ind m ih =>
    by_cases h1 : m < 10
    · rw [show num m = [48 + m] from TL.numL_lt h1]; simp; omega
    · rw [show num m = num (m / 10) ++ [48 + m % 10] from TL.numL_step (by omega)]
      have := ih (m / 10) (by omega) (by omega)
      obtain ⟨c, r, e⟩ := List.exists_cons_of_ne_nil (TL.numL_ne (m / 10))
      have e : num (m / 10) = c :: r := e
      rw [e] at this ⊢
      exact this
theorem num_many (n m : Nat) (st : List SO) (h : (m : Int) < MM) : Phi T (n + 1) 3 [.str (so (num m))] st = .ok (.val (.bl true)) st := by
  rw [is_many n (num m) st fun c hc => dig_sign (num_dig m c hc)]
  have h1 := TL.numL_ne m
  have h2 := num_len h
  have h3 : (num m).all isD = true := List.all_eq_true.mpr (num_dig m)
  have h4 : 1 ≤ (num m).length := List.length_pos_iff.mpr h1
  have h5 : (!((num m).head? == some 48 && !(num m == [48]))) = true := by
    by_cases hz : m = 0
    · subst hz; rfl
    · have : (num m).head? ≠ some 48 := num_head m hz
      simp [this]
  rw [h3, h5, decide_eq_true h4, decide_eq_true h2]; rfl
theorem int_num {st : List SO} {m : Nat} (h : (m : Int) < MM) : bltD st .int [.str (so (num m))] = some (.val (.int m)) := by
  have h2 := num_len h
  have e := TL.int_num (n := m) (by show (num m).length ≤ 4300; omega)
  rw [num_so] at e
  simp only [bltD, so_len, e]
  rw [if_pos (by omega)]; rfl
theorem cut_sign (t a b : List Nat) (x : Int) (e : t = a ++ b) (hx : x = a.length) : cutStr (so t) (some x) (some (x + 1)) = so (b.take 1) := by
  cases b with
  | nil =>
    subst e hx
    have e1 : HT.sIx (a ++ []).length 0 (some (a.length : Int)) = a.length := by rw [HT.sIx_nat]; simp
    unfold cutStr cut
    rw [so_toList, e1]
    simp [so]
  | cons c r => exact cut_mid' t a [c] r x (x + 1) (by rw [e]; simp) hx (by rw [hx]; simp)
theorem read_part : ∀ (p : Pap) (n : Nat) (t a b : List Nat) (x d : Int) (st : List SO), p.ok → (p.ht : Int) + d ≤ 100 → 0 ≤ d → t = a ++ p.txt ++ b → x = a.length → endB b → b.head? ≠ some 40 →
    Phi T (n + p.ht + 3) 8 [.str (so t), .int x, .int d] st = .ok (.val (.tup [p.D, .int (x + p.txt.length)])) st
  | .all m, n, t, a, b, x, d, st, ok, hd, h0, e, hx, hb, h4 => by
    subst hx
    have hf := figures_from (n + 1) t a (num m) b st e (num_dig m) hb (by have := num_len ok; omega)
    have hm := num_many (n + 1) m st ok
    have hc := cut_sign t (a ++ num m) b ((a.length : Int) + ((num m).length : Int)) e (by simp)
    have hn : (so (b.take 1) == so [40]) = false := by
      rw [so_beq]
      cases b with
      | nil => rfl
      | cons c r => simp at h4 ⊢; exact h4
    have hd' : ¬ (100 : Int) < d := by simp only [Pap.ht] at hd; omega
    show Phi T (n + 2 + 1) 8 _ _ = _
    rw [phi_run (d := d_read_part) rfl rfl]
    simp [d_read_part, callF_eq, hf, setR, hm, hd', opN, len_str, slcD, hc, l_open, hn, int_num ok, Pap.D, Pap.txt]
  | .split m l u, n, t, a, b, x, d, st, ok, hd, h0, e, hx, hb, h4 => by
    subst hx
    simp only [Pap.txt] at e
    simp only [Pap.ht] at hd
    have hf := figures_from (n + (max l.ht u.ht + 1) + 1) t a (num m) ([40] ++ l.txt ++ [44] ++ u.txt ++ [41] ++ b) st (by rw [e]; simp) (num_dig m) (by simp only [List.cons_append, List.nil_append, endB]; exact ⟨by decide, by decide⟩) (by have := num_len ok.1; omega)
    have hm := num_many (n + (max l.ht u.ht + 1) + 1) m st ok.1
    have hc := cut_sign t (a ++ num m) ([40] ++ l.txt ++ [44] ++ u.txt ++ [41] ++ b) ((a.length : Int) + ((num m).length : Int)) (by rw [e]; simp) (by simp)
    have hd' : ¬ (100 : Int) < d := by omega
    have hL := read_part l (n + (max l.ht u.ht - l.ht)) t (a ++ num m ++ [40]) ([44] ++ u.txt ++ [41] ++ b) ((a.length : Int) + ((num m).length : Int) + 1) (d + 1) st ok.2.1 (by omega) (by omega) (by rw [e]; simp) (by simp; omega) (by simp only [List.cons_append, List.nil_append, endB]; exact ⟨by decide, by decide⟩) (by simp)
    have hU := read_part u (n + (max l.ht u.ht - u.ht)) t (a ++ num m ++ [40] ++ l.txt ++ [44]) ([41] ++ b) ((a.length : Int) + ((num m).length : Int) + 1 + (l.txt.length : Int) + 1) (d + 1) st ok.2.2 (by omega) (by omega) (by rw [e]; simp) (by simp; omega) (by simp only [List.cons_append, List.nil_append, endB]; exact ⟨by decide, by decide⟩) (by simp)
    rw [show n + (max l.ht u.ht - l.ht) + l.ht + 3 = n + (max l.ht u.ht + 1) + 2 by omega] at hL
    rw [show n + (max l.ht u.ht - u.ht) + u.ht + 3 = n + (max l.ht u.ht + 1) + 2 by omega] at hU
    have s1 := sign_at (n + (max l.ht u.ht + 1) + 1) t (a ++ num m ++ [40] ++ l.txt) (u.txt ++ [41] ++ b) 44 st (by rw [e]; simp) ((a.length : Int) + ((num m).length : Int) + 1 + (l.txt.length : Int)) (by simp; omega)
    have s2 := sign_at (n + (max l.ht u.ht + 1) + 1) t (a ++ num m ++ [40] ++ l.txt ++ [44] ++ u.txt) b 41 st (by rw [e]; simp) ((a.length : Int) + ((num m).length : Int) + 1 + (l.txt.length : Int) + 1 + (u.txt.length : Int)) (by simp; omega)
    show Phi T (n + (max l.ht u.ht + 1) + 2 + 1) 8 _ _ = _
    rw [phi_run (d := d_read_part) rfl rfl]
    simp [d_read_part, callF_eq, hf, setR, hm, hd', opN, len_str, slcD, hc, l_open, l_comma, l_close, int_num ok.1, Pap.D, Pap.txt, hL, hU, s1, s2, setAll, setTS]
    omega
end Pk57

namespace Pk57
open PL L2
theorem read_paper (p : Pap) (n : Nat) (st : List SO) (ok : p.ok) (h : p.ht ≤ 100) : Phi T (n + p.ht + 4) 9 [.str (so p.txt)] st = .ok (.val p.D) st := by
  have hr := read_part p n p.txt [] [] 0 0 st ok (by omega) (by omega) (by simp) rfl trivial (by simp)
  simp only [Int.zero_add] at hr
  show Phi T (n + p.ht + 3 + 1) 9 _ _ = _
  rw [phi_run (d := d_read_paper) rfl rfl]
  simp [d_read_paper, D.tyO, Ty.sub, callF_eq, hr, setAll, setTS, setR, opN, len_str]
/-! numbers -/
def zs (v : Int) : List Nat := if v < 0 then 45 :: num v.natAbs else num v.natAbs
theorem z_str (v : Int) : PySem.Str.ofString (toString v) = so (zs v) := by
  cases v with
  | ofNat n =>
    have : zs (Int.ofNat n) = num n := by simp [zs]
    rw [this]; exact num_so n
  | negSucc n =>
    have : zs (Int.negSucc n) = 45 :: num (n + 1) := by
      have : Int.negSucc n < 0 := Int.negSucc_lt_zero n
      simp only [zs, this, if_true]; rfl
    rw [this]
    refine TL.ext_tl ?_
    have e := num_so (n + 1)
    have e2 := congrArg TL.tl e
    rw [TL.tl_ofString, tl_so] at e2
    rw [TL.tl_ofString, tl_so]
    have e3 : (toString (Int.negSucc n)).toList = '-' :: (toString (((n + 1 : Nat) : Int))).toList := by
      show ("-" ++ toString (n + 1)).toList = '-' :: (toString (n + 1)).toList
      rw [String.toList_append]; rfl
    rw [e3, List.map_cons, e2]; rfl
theorem z_log {v : Int} (h0 : -MM < v) (h1 : v < MM) : v.natAbs.log2 < 1920 := by
  have := log_lt (n := v.natAbs) (by omega)
  simpa using this
theorem str_z {st : List SO} {v : Int} (h0 : -MM < v) (h1 : v < MM) : bltD st .str [.int v] = some (.val (.str (so (zs v)))) := by
  simp only [bltD, z_log h0 h1, if_true, z_str]
theorem zs_sign (v : Int) : ∀ c ∈ zs v, c ∈ SIGNS := fun c hc => by
  unfold zs at hc
  split at hc
  · rcases List.mem_cons.mp hc with rfl | hc
    · decide
    · exact dig_sign (num_dig _ c hc)
  · exact dig_sign (num_dig _ c hc)
theorem zs_ne (v : Int) : zs v ≠ [] := by
  unfold zs
  split
  · simp
  · exact TL.numL_ne _
theorem zs_free (v : Int) : 32 ∉ zs v := fun h => by
  have := zs_sign v 32 h
  revert this; decide
theorem zs_len {v : Int} (h0 : -MM < v) (h1 : v < MM) : (zs v).length ≤ 51 := by
  have := num_len (n := v.natAbs) (by omega)
  unfold zs
  split <;> simp <;> omega
theorem l_minus : ("-" : Str) = so [45] := TL.ext_tl (by rw [TL.tl_ofString]; rfl)
theorem l_m0 : ("-0" : Str) = so [45, 48] := TL.ext_tl (by rw [TL.tl_ofString]; rfl)
theorem cut_head (c : Nat) (r : List Nat) : cutStr (so (c :: r)) none (some 1) = so [c] := by
  have e2 : HT.sIx (c :: r).length (c :: r).length (some (1 : Int)) = 1 := by
    rw [show (1 : Int) = ((1 : Nat) : Int) from rfl, HT.sIx_nat]; simp
  unfold cutStr cut
  rw [so_toList, e2, HT.sIx_none]
  simp [so]
theorem cut_tail (c : Nat) (r : List Nat) : cutStr (so (c :: r)) (some 1) none = so r := by
  have e2 : HT.sIx (c :: r).length 0 (some (1 : Int)) = 1 := by
    rw [show (1 : Int) = ((1 : Nat) : Int) from rfl, HT.sIx_nat]; simp
  unfold cutStr cut
  rw [so_toList, e2, HT.sIx_none]
  simp [so]
theorem show_z (n : Nat) (v : Int) (st : List SO) (h0 : -MM < v) (h1 : v < MM) : Phi T (n + 1) 0 [.int v] st = .ok (.val (.str (so (zs v)))) st := by
  rw [phi_run (d := d_show_number) rfl rfl]
  simp [d_show_number, opN, str_z h0 h1]
theorem read_number (n : Nat) (v : Int) (st : List SO) (h0 : -MM < v) (h1 : v < MM) : Phi T (n + 2) 4 [.str (so (zs v))] st = .ok (.val (.int v)) st := by
  rw [phi_run (d := d_read_number) rfl rfl]
  by_cases hv : v < 0
  · have e : zs v = 45 :: num v.natAbs := by simp [zs, hv]
    have hm : ((v.natAbs : Nat) : Int) < MM := by omega
    have hi := is_many n (zs v) st (zs_sign v)
    rw [e] at hi ⊢
    simp only [List.all_cons, show isD 45 = false from rfl, Bool.false_and, Bool.and_false] at hi
    have hi2 := num_many n v.natAbs st hm
    have hn : (so (45 :: num v.natAbs) == so [45, 48]) = false := by
      rw [so_beq]
      simp only [List.cons_beq_cons, beq_self_eq_true, Bool.true_and, beq_eq_false_iff_ne]
      intro z
      have : num v.natAbs = num 0 := z
      have := TL.numL_inj this
      omega
    have e3 : -((v.natAbs : Nat) : Int) = v := by omega
    simp [d_read_number, D.tyO, Ty.sub, callF_eq, hi, hi2, slcD, cut_head, cut_tail, l_minus, l_m0, hn, opN, int_num hm, e3]
    try omega
  · have e : zs v = num v.natAbs := by simp [zs, hv]
    have hm : ((v.natAbs : Nat) : Int) < MM := by omega
    have hi2 := num_many n v.natAbs st hm
    have e3 : ((v.natAbs : Nat) : Int) = v := by omega
    have hI := int_num (st := st) hm
    rw [e]
    simp [d_read_number, D.tyO, Ty.sub, callF_eq, hi2, opN, hI]
    try omega
theorem is_number (n : Nat) (i : Int) (st : List SO) : Phi T (n + 1) 13 [.int i] st = .ok (.val (.bl true)) st := by
  rfl
end Pk57

namespace Pk57
open PL L2
/-! right -/
def papOk : List Pap → Prop
  | [] => True
  | _ :: r => papOk r
def pcosts : List Pap → Nat
  | [] => 0
  | p :: r => p.cost + pcosts r
theorem paps_data : ∀ l : List Pap, D.datas (l.map Pap.D) = true
  | [] => rfl
  | i :: r => by simp [D.datas, pap_data, paps_data r]
theorem pcosts_len : ∀ l : List Pap, l.length ≤ pcosts l
  | [] => Nat.le_refl _
  | i :: r => by
    have := pcosts_len r
    have := cost_pos i
    simp only [pcosts, List.length_cons]; omega
theorem cut2 (a b : D) : cut [a, b] (some 2) none = [] := by rfl
theorem cut4 (a b c d : D) : cut [a, b, c, d] (some 2) none = [c, d] := by rfl
theorem right (p : Pap) (n : Nat) (st : List SO) (hc : p.cost ≤ 500) : Phi T (n + 2) 19 [p.D] st = .ok (.val (.bl true)) st := by
  rw [phi_run (d := d__law_right) rfl rfl]
  obtain ⟨s', h1, x1, x2, rfl⟩ := wh_inv (c := condW (Phi T (n + 1)) t__law_right_1) (b := runs (Phi T (n + 1)) b__law_right_2)
    (fun m s => ∃ (rs : List Pap) (x2 : Sl), s = ⟨[.val p.D, .own (rs.reverse.map Pap.D), x2], st⟩ ∧ m = pcosts rs ∧ pcosts rs ≤ 500)
    (fun s => ∃ x1 x2, s = ⟨[.val p.D, x1, x2], st⟩)
    (fun m s ⟨rs, x2, e, em, ec⟩ => by
      subst e em
      cases rs with
      | nil =>
        left
        exact ⟨_, (by simp [condW, t__law_right_1, ne_nil (show D.datas [] = true from rfl)]; exact ⟨rfl, rfl⟩), _, _, rfl⟩
      | cons i r =>
        right
        have hne : cmpD .NotEq (.lst (((i :: r).reverse).map Pap.D)) (.lst []) = some true := by
          rw [ne_nil (paps_data _)]; simp
        simp only [List.reverse_cons, List.map_append, List.map_cons, List.map_nil, List.map_reverse] at hne
        have hcl := pcosts_len r
        simp only [pcosts] at ec
        have hz : r.length ≤ LIM := by show _ ≤ 16777216; omega
        have hz2 : r.length + 2 ≤ LIM := by show _ ≤ 16777216; omega
        cases i with
        | all k =>
          refine ⟨⟨[.val p.D, .own ((r.reverse ++ [Pap.all k]).map Pap.D), x2], st⟩, _, pcosts r, ?_, ?_, ⟨r, .val (Pap.all k).D, rfl, rfl, by omega⟩, by simp only [pcosts, Pap.cost]; omega⟩
          · simp [condW, t__law_right_1, hne]
          · simp [b__law_right_2, Pap.D, recv, D.tyO, Mth.ty, methR, methL, setR, Ty.sub, atI, ixN, callF_eq, is_number, slcD, cut2, hz]
        | split k l u =>
          simp only [Pap.cost] at ec
          refine ⟨⟨[.val p.D, .own ((r.reverse ++ [Pap.split k l u]).map Pap.D), x2], st⟩, _, pcosts (u :: l :: r), ?_, ?_, ⟨u :: l :: r, .val (Pap.split k l u).D, rfl, rfl, by simp only [pcosts]; omega⟩, by simp only [pcosts, Pap.cost]; omega⟩
          · simp [condW, t__law_right_1, hne]
          · simp [b__law_right_2, Pap.D, recv, D.tyO, Mth.ty, methR, methL, setR, Ty.sub, atI, ixN, callF_eq, is_number, slcD, cut4, hz2])
    FUEL (pcosts [p]) ⟨[.val p.D, .own [p.D], .no], st⟩ ⟨[p], .no, rfl, rfl, by simp only [pcosts]; omega⟩ (by simp only [pcosts, FUEL]; omega)
  simp [d__law_right, setR, h1]
theorem comp_map2 {α : Type} {f : D → S → Out (Option D)} (A B : α → D) (Q : S → Prop) : ∀ {vs : List α} {acc : List D} {s : S}, Q s → (∀ v ∈ vs, ∀ s, Q s → ∃ s', f (A v) s = .ok (some (B v)) s' ∧ Q s') → ∃ s', compL f (vs.map A) acc s = .ok (acc ++ vs.map B) s' ∧ Q s'
  | [], acc, s, h, _ => ⟨s, by simp [compL], h⟩
  | d :: r, acc, s, h, step => by
    obtain ⟨s1, h1, h2⟩ := step d List.mem_cons_self s h
    obtain ⟨s2, h3, h4⟩ := comp_map2 A B Q (vs := r) (acc := acc ++ [B d]) h2 fun d hd => step d (List.mem_cons_of_mem _ hd)
    exact ⟨s2, by simp [compL, h1, h3], h4⟩
/-! rows -/
def vOk (v : Int) : Prop := -MM < v ∧ v < MM
def JL (vs : List Int) : List Nat := TL.joinL [32] (vs.map zs)
theorem l_blank : (" " : Str) = so [32] := TL.ext_tl (by rw [TL.tl_ofString]; rfl)
theorem join_so (vs : List Int) : PySem.Txt.join (so [32]) (vs.map fun v => so (zs v)) = so (JL vs) := by
  refine TL.ext_tl ?_
  rw [TL.join_eq, TL.tl_join, tl_so, tl_so, List.map_map]
  rfl
theorem joinL_len : ∀ (ps : List (List Nat)) (b : Nat), (∀ p ∈ ps, p.length ≤ b) → (TL.joinL [32] ps).length ≤ (b + 1) * ps.length
  | [], b, _ => by simp [TL.joinL]
  | [p], b, h => by
    have := h p (by simp)
    simp [TL.joinL]; omega
  | p :: q :: r, b, h => by
    have h1 := h p (by simp)
    have h2 := joinL_len (q :: r) b fun x hx => h x (List.mem_cons_of_mem _ hx)
    simp only [TL.joinL, List.length_append, List.length_cons, List.length_nil] at h2 ⊢
    rw [Nat.mul_add, Nat.mul_one]
    omega
theorem JL_len {vs : List Int} (h : ∀ v ∈ vs, vOk v) : (JL vs).length ≤ 52 * vs.length := by
  have := joinL_len (vs.map zs) 51 fun p hp => by
    obtain ⟨v, hv, rfl⟩ := List.mem_map.mp hp
    exact zs_len (h v hv).1 (h v hv).2
  simpa [JL] using this
theorem strs_map (vs : List Int) : D.strs (vs.map fun v => .str (so (zs v))) = some (vs.map fun v => so (zs v)) := by
  induction vs with
  | nil => rfl
  | cons v r ih => simp [D.strs, ih]
theorem sum_le : ∀ {vs : List Int}, (∀ v ∈ vs, vOk v) → ((vs.map fun v => so (zs v)).map (·.length)).sum ≤ 51 * vs.length
  | [], _ => by simp
  | v :: r, h => by
    have h1 := zs_len (h v (by simp)).1 (h v (by simp)).2
    have h2 := sum_le (vs := r) fun x hx => h x (List.mem_cons_of_mem _ hx)
    simp only [List.map_cons, List.sum_cons, so_len, List.length_cons]
    omega
theorem join_m {vs : List Int} (h : ∀ v ∈ vs, vOk v) (hl : vs.length ≤ 1000) : methD .join (.str (so [32])) [.lst (vs.map fun v => .str (so (zs v)))] = some (.val (.str (so (JL vs)))) := by
  have h1 := sum_le h
  have hL : LIM = 16777216 := rfl
  simp only [methD, strs_map, Option.bind_some, join_so]
  rw [if_pos]
  refine Nat.le_trans (Nat.add_le_add h1 (Nat.le_refl _)) ?_
  have : (so [32]).length = 1 := rfl
  rw [this, hL, List.length_map]
  omega
theorem show_row (n : Nat) (vs : List Int) (st : List SO) (h : ∀ v ∈ vs, vOk v) (hl : vs.length ≤ 1000) : Phi T (n + 2) 1 [.lst (vs.map .int)] st = .ok (.val (.str (so (JL vs)))) st := by
  rw [phi_run (d := d_show_row) rfl rfl]
  obtain ⟨s', h1, y, rfl⟩ := comp_map (f := turnC (Phi T (n + 1)) e_show_row_1 (.v 1) .no [1]) (fun d => match d with | .int v => .str (so (zs v)) | _ => .non) (fun s => ∃ y, s = ⟨[.val (.lst (vs.map .int)), y], st⟩) (ds := vs.map .int) (acc := []) (s := ⟨[.val (.lst (vs.map .int)), .no], st⟩) ⟨_, rfl⟩ fun d hd s hq => by
    obtain ⟨y, rfl⟩ := hq
    obtain ⟨v, hv, rfl⟩ := List.mem_map.mp hd
    refine ⟨_, ?_, .val (.int v), rfl⟩
    simp [turnC, asgT, PL.wipe, e_show_row_1, callF_eq, show_z n v st (h v hv).1 (h v hv).2]
  rw [List.nil_append, List.map_map] at h1
  have hj := join_m h hl
  have h1 : compL (turnC (Phi T (n + 1)) e_show_row_1 (.v 1) .no [1]) (vs.map .int) [] ⟨[.val (.lst (vs.map .int)), .no], st⟩ = .ok (vs.map fun v => .str (so (zs v))) ⟨[.val (.lst (vs.map .int)), y], st⟩ := h1
  simp [d_show_row, l_blank, recv, D.tyO, Mth.ty, iter?, plainAt, h1, Out.nox, methR, hj, back]
theorem read_row (n : Nat) (vs : List Int) (st : List SO) (h : ∀ v ∈ vs, vOk v) (hl : vs.length ≤ 1000) : Phi T (n + 3) 5 [.str (so (JL vs))] st = .ok (.own (vs.map .int)) st := by
  rw [phi_run (d := d_read_row) rfl rfl]
  by_cases hv : vs = []
  · subst hv
    have : (so (JL []) == so []) = true := by rw [so_beq]; rfl
    simp [d_read_row, D.tyO, Ty.sub, l_none, this]
  · have hne : (so (JL vs) == so []) = false := by
      rw [so_beq]
      cases vs with
      | nil => exact absurd rfl hv
      | cons v r =>
        have := zs_ne v
        cases r with
        | nil => simpa [JL, TL.joinL] using this
        | cons w r => simp [JL, TL.joinL]
    have hs : PySem.Txt.split (so (JL vs)) (so [32]) = vs.map fun v => so (zs v) := by
      rw [← join_so]
      exact TL.split_join (s := 32) (S := []) rfl (by decide +kernel) (by simpa using hv) fun p hp => by
        obtain ⟨v, _, rfl⟩ := List.mem_map.mp hp
        exact zs_free v
    have hJ := JL_len h
    have hL : LIM = 16777216 := rfl
    have hm : methD .split (.str (so (JL vs))) [.str (so [32])] = some (.own (vs.map fun v => .str (so (zs v)))) := by
      simp only [methD, hs, so_len, hL]
      rw [if_pos ⟨by decide, by omega⟩]
      simp
    obtain ⟨s', h1, y, rfl⟩ := comp_map2 (f := turnC (Phi T (n + 2)) e_read_row_1 (.v 1) .no [1]) (fun v : Int => D.str (so (zs v))) D.int (fun s => ∃ y, s = ⟨[.val (.str (so (JL vs))), y], st⟩) (vs := vs) (acc := []) (s := ⟨[.val (.str (so (JL vs))), .no], st⟩) ⟨_, rfl⟩ fun v hv s hq => by
      obtain ⟨y, rfl⟩ := hq
      refine ⟨_, ?_, .val (.str (so (zs v))), rfl⟩
      simp [turnC, asgT, PL.wipe, e_read_row_1, callF_eq, read_number n v st (h v hv).1 (h v hv).2]
    rw [List.nil_append] at h1
    simp [d_read_row, D.tyO, Ty.sub, l_none, l_blank, hne, recv, Mth.ty, methR, hm, iter?, plainAt, h1, Out.nox, back]
end Pk57

namespace Pk57
open PL L2
mutual
theorem eqv_self : ∀ d : D, d.data = true → d.eqv d = true
  | .non, _ => rfl
  | .bl b, _ => by simp [D.eqv]
  | .int i, _ => by simp [D.eqv]
  | .str x, _ => by simp [D.eqv]
  | .tup ds, h => by simp only [D.eqv]; exact eqvs_self ds (by simpa [D.data] using h)
  | .lst ds, h => by simp only [D.eqv]; exact eqvs_self ds (by simpa [D.data] using h)
  | .dic _, h => by simp [D.data] at h
  | .obj _, h => by simp [D.data] at h
  | .fn _ _, h => by simp [D.data] at h
  | .exc _ _, h => by simp [D.data] at h
  | .scr _, h => by simp [D.data] at h
theorem eqvs_self : ∀ ds : List D, D.datas ds = true → D.eqvs ds ds = true
  | [], _ => rfl
  | d :: r, h => by
    simp only [D.datas, Bool.and_eq_true] at h
    simp only [D.eqvs, eqv_self d h.1, eqvs_self r h.2, Bool.and_self]
end
theorem ne_self {d : D} (h : d.data = true) (hd : d.depth ≤ 200) : cmpD .NotEq d d = some false := by
  have hE : EQD = 200 := rfl
  simp only [cmpD, h, hE, eqv_self d h]
  rw [if_pos ⟨trivial, trivial, by omega⟩]; rfl
theorem pap_depth : ∀ p : Pap, p.D.depth ≤ p.ht + 1
  | .all n => by simp [Pap.D, D.depth, D.depths]
  | .split n l u => by
    have := pap_depth l
    have := pap_depth u
    simp only [Pap.D, D.depth, D.depths, Pap.ht]; omega
theorem ints_data : ∀ vs : List Int, D.datas (vs.map .int) = true
  | [] => rfl
  | v :: r => by simp [D.datas, D.data, ints_data r]
theorem ints_depth : ∀ vs : List Int, D.depths (vs.map .int) = 0
  | [] => rfl
  | v :: r => by simp [D.depths, D.depth, ints_depth r]
theorem row_ne (vs : List Int) : cmpD .NotEq (.lst (vs.map .int)) (.lst (vs.map .int)) = some false :=
  ne_self (by simp [D.data, ints_data]) (by simp [D.depth, ints_depth])
/-- the paper of a turn -/
theorem papers (k n : Nat) (st : List SO) (hp : Pen st k) (e1 : Sl) (env : List Sl) : True := trivial
theorem row_comp (n k m : Nat) (st : List SO) (hp : Pen st k) (x0 x1 x3 x4 x5 x6 x7 x8 : Sl) : ∃ (vs : List Int) (y : Sl) (st' : List SO),
    compL (turnC (Phi T (n + 3)) e_law_1 (.v 9) .no [9]) (rangeD 0 m) [] ⟨[x0, x1, .val (.obj k), x3, x4, x5, x6, x7, x8, .no], st⟩ = .ok (vs.map .int) ⟨[x0, x1, .val (.obj k), x3, x4, x5, x6, x7, x8, y], st'⟩ ∧ vs.length = m ∧ (∀ v ∈ vs, vOk v) ∧ Nx k st st' := by
  obtain ⟨ys, s', h1, vs, y, st', rfl, rfl, hl, hv, nx⟩ := comp_inv (f := turnC (Phi T (n + 3)) e_law_1 (.v 9) .no [9])
    (fun i acc s => ∃ (vs : List Int) (y : Sl) (st' : List SO), s = ⟨[x0, x1, .val (.obj k), x3, x4, x5, x6, x7, x8, y], st'⟩ ∧ acc = vs.map .int ∧ vs.length = i ∧ (∀ v ∈ vs, vOk v) ∧ Nx k st st') (ds := rangeD 0 m) (s := ⟨[x0, x1, .val (.obj k), x3, x4, x5, x6, x7, x8, .no], st⟩)
    ⟨[], _, st, rfl, rfl, rfl, by simp, .refl hp⟩ fun i d acc s hd ⟨vs, y, st', es, ea, hl, hv, nx⟩ => by
      obtain ⟨rfl, hi⟩ := range_at hd
      subst es ea
      obtain ⟨v, s2, e2, n2, a, b⟩ := t_number n k st' nx.pen
      refine ⟨.int v, _, ?_, vs ++ [v], .val (.int (0 + (i : Nat))), s2, rfl, by simp, by simp [hl], fun z hz => ?_, nx.trans n2⟩
      · simp [turnC, asgT, PL.wipe, e_law_1, callF_eq, e2]
      · rcases List.mem_append.mp hz with hz | hz
        · exact hv z hz
        · rw [List.mem_singleton.mp hz]; exact ⟨a, b⟩
  rw [range_length] at hl
  exact ⟨vs, y, st', h1, hl, hv, nx⟩
theorem num_loop (n : Nat) (vs : List Int) (hv : ∀ v ∈ vs, vOk v) (st : List SO) (x0 x1 x2 x3 x4 x5 x6 x7 x8 x9 : Sl) : ∃ y : Sl, (∀ ds, y ≠ .own ds ∨ y = x4) ∧
    loopL (turnL (Phi T (n + 2)) (.v 4) b_law_2) (vs.map .int) ⟨[x0, x1, x2, x3, x4, x5, x6, x7, x8, x9], st⟩ = .ok .nx ⟨[x0, x1, x2, x3, y, x5, x6, x7, x8, x9], st⟩ := by
  obtain ⟨s', h1, y, hy, rfl⟩ := loop_inv (f := turnL (Phi T (n + 2)) (.v 4) b_law_2)
    (fun i s => ∃ y : Sl, (∀ ds, y ≠ .own ds ∨ y = x4) ∧ s = ⟨[x0, x1, x2, x3, y, x5, x6, x7, x8, x9], st⟩) (ds := vs.map .int) (s := ⟨[x0, x1, x2, x3, x4, x5, x6, x7, x8, x9], st⟩)
    ⟨x4, fun _ => .inr rfl, rfl⟩ fun i d s hd ⟨y, hy, es⟩ => by
      subst es
      rw [List.getElem?_map] at hd
      cases hq : vs[i]? with
      | none => rw [hq] at hd; cases hd
      | some v =>
        rw [hq] at hd
        cases hd
        have hvv := hv v (List.mem_of_getElem? hq)
        refine ⟨_, ?_, .val (.int v), fun _ => .inl (fun z => nomatch z), rfl⟩
        have a := show_z (n + 1) v st hvv.1 hvv.2
        have b := read_number n v st hvv.1 hvv.2
        have c := is_number (n + 1) v st
        simp [turnL, asgT, b_law_2, callF_eq, opN, str_z hvv.1 hvv.2, a, b, c]
  exact ⟨y, hy, h1⟩
theorem txt_comp (φ : FS) (vs : List Int) (hv : ∀ v ∈ vs, vOk v) (st : List SO) (x0 x1 x2 x3 x5 x6 x7 x8 x9 : Sl) (x4 : Sl) : ∃ y : Sl,
    compL (turnC φ e_law_3 (.v 4) .no [4]) (vs.map .int) [] ⟨[x0, x1, x2, x3, x4, x5, x6, x7, x8, x9], st⟩ = .ok (vs.map fun v => .str (so (zs v))) ⟨[x0, x1, x2, x3, y, x5, x6, x7, x8, x9], st⟩ := by
  obtain ⟨s', h1, y, rfl⟩ := comp_map2 (f := turnC φ e_law_3 (.v 4) .no [4]) D.int (fun v : Int => D.str (so (zs v))) (fun s => ∃ y, s = ⟨[x0, x1, x2, x3, y, x5, x6, x7, x8, x9], st⟩) (vs := vs) (acc := []) (s := ⟨[x0, x1, x2, x3, x4, x5, x6, x7, x8, x9], st⟩) ⟨_, rfl⟩ fun v hvv s ⟨y, es⟩ => by
    subst es
    refine ⟨_, ?_, .val (.int v), rfl⟩
    simp [turnC, asgT, PL.wipe, e_law_3, opN, str_z (hv v hvv).1 (hv v hvv).2]
  exact ⟨y, by rw [h1]; simp⟩
theorem checks (p : Pap) (n : Nat) (st : List SO) (ok : p.ok) (ht : p.ht ≤ 100) (hc : p.cost ≤ 500) :
    Phi T (n + 107) 17 [p.D] st = .ok (.val (.str (so p.txt))) st ∧ Phi T (n + 107) 2 [p.D] st = .ok (.val (.str (so p.txt))) st ∧ Phi T (n + 107) 9 [.str (so p.txt)] st = .ok (.val p.D) st ∧
      Phi T (n + 107) 19 [p.D] st = .ok (.val (.bl true)) st ∧ cmpD .NotEq p.D p.D = some false := by
  refine ⟨written p (n + 106) st ok hc, ?_, ?_, right p (n + 105) st hc, ne_self (pap_data p) (by have := pap_depth p; omega)⟩
  · have := show_paper p (n + 105 - p.ht) st ok hc
    rw [show n + 105 - p.ht + p.ht + 2 = n + 107 by omega] at this; exact this
  · have := read_paper p (n + 103 - p.ht) st ok ht
    rw [show n + 103 - p.ht + p.ht + 4 = n + 107 by omega] at this; exact this
theorem turn (n : Nat) (ns : List Int) (i : Nat) (hi : i < 3) (st : List SO) (x3 x4 x5 x6 x7 x8 : Sl) (x2 : Sl) (h4 : ∀ ds, x4 ≠ .own ds) :
    ∃ (y2 y3 y4 y5 y6 y7 y8 : Sl) (st' : List SO), runs (Phi T (n + 107)) b_law_4 ⟨[.val (.scr ns), .val (.int i), x2, x3, x4, x5, x6, x7, x8, .no], st⟩ = .ok .nx ⟨[.val (.scr ns), .val (.int i), y2, y3, y4, y5, y6, y7, y8, .no], st'⟩ ∧ ∀ ds, y4 ≠ .own ds := by
  obtain ⟨c, f1⟩ := t_cell T10 (n + 106) ns i (by omega) (by omega) st
  obtain ⟨st1, f2, p1⟩ := t_pen T11 (n + 106) c st
  generalize st.length = k at f2 p1
  obtain ⟨v, st2, f3, n3, a3, b3⟩ := t_take T12 (n + 106) k 31 st1 (by decide) (by decide) p1
  obtain ⟨m, rfl⟩ := toNat a3
  obtain ⟨vs, z, st3, f5, hl, hv, n5⟩ := row_comp (n + 104) k m st2 n3.pen (.val (.scr ns)) (.val (.int i)) x3 x4 x5 x6 x7 x8
  have hv0 : ∀ v ∈ vs ++ [0], vOk v := fun v hv' => by
    rcases List.mem_append.mp hv' with h | h
    · exact hv v h
    · rw [List.mem_singleton.mp h]; exact ⟨by decide, by decide⟩
  obtain ⟨y4, hy4, f6⟩ := num_loop (n + 105) (vs ++ [0]) hv0 st3 (.val (.scr ns)) (.val (.int i)) (.val (.obj k)) (.own (vs.map .int)) x4 x5 x6 x7 x8 .no
  have h4' : ∀ ds, y4 ≠ .own ds := fun ds e => by
    rcases hy4 ds with q | q
    · exact q e
    · rw [q] at e; exact h4 ds e
  have p4 : plainAt [.val (.scr ns), .val (.int i), .val (.obj k), .val (.lst (vs.map .int)), y4, x5, x6, x7, x8, .no] 4 = true := by
    cases y4 with
    | no => rfl
    | val d => rfl
    | own ds => exact absurd rfl (h4' ds)
  obtain ⟨z2, f7⟩ := txt_comp (Phi T (n + 107)) vs hv st3 (.val (.scr ns)) (.val (.int i)) (.val (.obj k)) (.val (.lst (vs.map .int))) x5 x6 x7 x8 .no y4
  have hl' : vs.length ≤ 1000 := by omega
  have f8 := join_m hv hl'
  have f9 := read_row (n + 104) vs st3 hv hl'
  have f10 := show_row (n + 105) vs st3 hv hl'
  have f11 := read_row (n + 104) [] st3 (by simp) (by simp)
  have f12 := show_row (n + 105) [] st3 (by simp) (by simp)
  obtain ⟨p, st4, f13, n13, o13, t13, c13⟩ := t_paper k 4 (n + 100) st3 n5.pen
  obtain ⟨w, st5, f14, n14, a14, b14⟩ := t_take T12 (n + 106) k 4 st4 (by decide) (by decide) n13.pen
  have g4 : rangeOf [.int (m : Int)] = some (rangeD 0 m) := rangeOf1 (by omega) (by omega)
  have gA : binD .Add (.lst (vs.map .int)) (.lst [.int 0]) = some (.own (vs.map .int ++ [.int 0])) := by
    have hL : LIM = 16777216 := rfl
    simp only [binD, hL, List.length_map, List.length_cons, List.length_nil]
    rw [if_pos (by omega)]
  simp only [List.map_append, List.map_cons, List.map_nil] at f6
  have g11 : Phi T (n + 107) 5 [.str (so [])] st3 = .ok (.own []) st3 := f11
  have g12 : Phi T (n + 107) 1 [.lst []] st3 = .ok (.val (.str (so []))) st3 := f12
  have r0 := row_ne vs
  have r1 : cmpD .NotEq (.lst []) (.lst []) = some false := row_ne []
  have hA : vs.length < LIM := by show _ < 16777216; omega
  have f13 : Phi T (n + 107) 15 [.obj k, .int 4] st3 = .ok (.val p.D) st4 := f13
  by_cases hw : w = 0
  · subst hw
    obtain ⟨w2, st6, f15, n15, a15, b15⟩ := t_take T12 (n + 106) k 101 st5 (by decide) (by decide) n14.pen
    obtain ⟨w3, st7, f16, n16, a16, b16⟩ := t_take T12 (n + 106) k 4 st6 (by decide) (by decide) n15.pen
    obtain ⟨w2, rfl⟩ := toNat a15
    obtain ⟨m', hm', f17⟩ : ∃ m' : Nat, m' ≤ 100 ∧ atI [D.int 100, .int 99, .int 1, .int (w2 : Int)] w3 = some (.int (m' : Int)) := by
      have h4 : w3 = 0 ∨ w3 = 1 ∨ w3 = 2 ∨ w3 = 3 := by omega
      rcases h4 with rfl | rfl | rfl | rfl
      · exact ⟨100, by omega, rfl⟩
      · exact ⟨99, by omega, rfl⟩
      · exact ⟨1, by omega, rfl⟩
      · exact ⟨w2, by omega, rfl⟩
    obtain ⟨p', st8, f18, n18, o18, t18, c18⟩ := t_chain (n + 104) k m' hm' st7 n16.pen
    obtain ⟨q1, q2, q3, q4, q5⟩ := checks p' n st8 o18 (by omega) (by omega)
    refine ⟨.val (.obj k), .val (.lst (vs.map .int)), y4, .val (.str (so p'.txt)), .val (.lst (vs.map .int)), .own (vs.map .int ++ [.int 1]), .val p'.D, st8, ?_, h4'⟩
    simp [b_law_4, callF_eq, setR, f1, f2, f3, g4, plainAt, f5, Out.nox, back, gA, iter?, f6, l_blank, recv, D.tyO, Mth.ty, readV, p4, f7, methR, f8, opN, bltD, items?, f9, f10, r0, Ty.sub, methL, hA, l_none, g11, r1, g12, f13, f14, f15, f16, f17, f18, q1, q2, q3, q4, q5]
  · have hw' : (w == 0) = false := by simpa using hw
    obtain ⟨q1, q2, q3, q4, q5⟩ := checks p n st5 o13 (by omega) (by omega)
    refine ⟨.val (.obj k), .val (.lst (vs.map .int)), y4, .val (.str (so p.txt)), .val (.lst (vs.map .int)), .own (vs.map .int ++ [.int 1]), .val p.D, st5, ?_, h4'⟩
    · simp [b_law_4, callF_eq, setR, f1, f2, f3, g4, plainAt, f5, Out.nox, back, gA, iter?, f6, l_blank, recv, D.tyO, Mth.ty, readV, p4, f7, methR, f8, opN, bltD, items?, f9, f10, r0, Ty.sub, methL, hA, l_none, g11, r1, g12, f13, f14, hw', q1, q2, q3, q4, q5]
theorem law_holds (n : Nat) (ns : List Int) : ∃ st, Phi T (n + 108) 20 [.scr ns] [] = .ok (.val (.bl true)) st := by
  obtain ⟨s', h1, x1, x2, x3, x4, x5, x6, x7, x8, st, rfl, _⟩ := loop_inv (f := turnL (Phi T (n + 107)) (.v 1) b_law_4)
    (fun i s => ∃ (x1 x2 x3 x4 x5 x6 x7 x8 : Sl) (st : List SO), s = ⟨[.val (.scr ns), x1, x2, x3, x4, x5, x6, x7, x8, .no], st⟩ ∧ ∀ ds, x4 ≠ .own ds) (ds := rangeD 0 3) (s := ⟨[.val (.scr ns), .no, .no, .no, .no, .no, .no, .no, .no, .no], []⟩)
    ⟨_, _, _, _, _, _, _, _, _, rfl, fun _ z => nomatch z⟩ fun i d s hd ⟨x1, x2, x3, x4, x5, x6, x7, x8, st, es, h4⟩ => by
      obtain ⟨rfl, hi⟩ := range_at hd
      subst es
      obtain ⟨y2, y3, y4, y5, y6, y7, y8, st', h, h4'⟩ := turn n ns i hi st x3 x4 x5 x6 x7 x8 x2 h4
      refine ⟨_, ?_, .val (.int (i : Nat)), y2, y3, y4, y5, y6, y7, y8, st', rfl, h4'⟩
      simp [turnL, asgT, -runs_cons, h]
  have g : rangeOf [.int 3] = some (rangeD 0 3) := rangeOf1 (by decide) (by decide)
  refine ⟨st, ?_⟩
  rw [phi_run (d := d_law) rfl rfl]
  simp [d_law, g, h1]
theorem plain (ns : List Int) (_ : ns.length ≤ 63) : ∃ st, Phi T 130 20 [.scr ns] [] = .ok (.val (.bl true)) st := law_holds 22 ns
end Pk57

namespace Pk57
open PL PySem PySem.Spec PyProof.Rows L2
abbrev K_s (i : Nat) : Stmt := PySem.Challenge.pw_manyleast_k57_texts_written_and_read.main.body.getD i (.Pass ⟨0, 0, 0, 0⟩)
def c0 : DC := ⟨"show_number", K_s 7, ["number"], ["number"], d_show_number⟩
def c1 : DC := ⟨"show_row", K_s 8, ["row", "number"], ["row"], d_show_row⟩
def c2 : DC := ⟨"show_paper", K_s 9, ["paper"], ["paper"], d_show_paper⟩
def c3 : DC := ⟨"is_many", K_s 10, ["text", "sign"], ["text"], d_is_many⟩
def c4 : DC := ⟨"read_number", K_s 11, ["text"], ["text"], d_read_number⟩
def c5 : DC := ⟨"read_row", K_s 12, ["text", "word"], ["text"], d_read_row⟩
def c6 : DC := ⟨"figures_from", K_s 13, ["text", "at", "end"], ["text", "at"], d_figures_from⟩
def c7 : DC := ⟨"sign_at", K_s 14, ["text", "at", "sign"], ["text", "at", "sign"], d_sign_at⟩
def c8 : DC := ⟨"read_part", K_s 15, ["text", "at", "deep", "figures", "behind", "lower", "comma", "upper", "last"], ["text", "at", "deep"], d_read_part⟩
def c9 : DC := ⟨"read_paper", K_s 16, ["text", "found", "last"], ["text"], d_read_paper⟩
def c10 : DC := ⟨"_law_cell", K_s 18, ["_law_script", "_law_k", "_law_number_here"], ["_law_script", "_law_k"], d__law_cell⟩
def c11 : DC := ⟨"_law_pen", K_s 19, ["_law_cell_here"], ["_law_cell_here"], d__law_pen⟩
def c12 : DC := ⟨"_law_take", K_s 20, ["_law_pen_here", "_law_size", "_law_digit", "_law_number_here"], ["_law_pen_here", "_law_size"], d__law_take⟩
def c13 : DC := ⟨"_law_is_number", K_s 21, ["_law_thing"], ["_law_thing"], d__law_is_number⟩
def c14 : DC := ⟨"_law_many", K_s 22, ["_law_pen_here"], ["_law_pen_here"], d__law_many⟩
def c15 : DC := ⟨"_law_paper", K_s 23, ["_law_pen_here", "_law_deep", "_law_many_here", "_law_lower"], ["_law_pen_here", "_law_deep"], d__law_paper⟩
def c16 : DC := ⟨"_law_chain", K_s 24, ["_law_pen_here", "_law_deep", "_law_found", "_law_k", "_law_halves"], ["_law_pen_here", "_law_deep"], d__law_chain⟩
def c17 : DC := ⟨"_law_written", K_s 25, ["_law_paper_here", "_law_found", "_law_waiting", "_law_one"], ["_law_paper_here"], d__law_written⟩
def c18 : DC := ⟨"_law_number", K_s 26, ["_law_pen_here", "_law_many_here"], ["_law_pen_here"], d__law_number⟩
def c19 : DC := ⟨"_law_right", K_s 27, ["_law_paper_here", "_law_waiting", "_law_one"], ["_law_paper_here"], d__law_right⟩
def c20 : DC := ⟨"law", K_s 28, ["_law_script", "_law_turn", "_law_pen_here", "_law_row", "_law_number_here", "_law_text", "_law_handed", "_law_found", "_law_paper_here", "_law_k"], ["_law_script"], d_law⟩
def dcs : List DC := [c0, c1, c2, c3, c4, c5, c6, c7, c8, c9, c10, c11, c12, c13, c14, c15, c16, c17, c18, c19, c20]
def gls : List (Str × D) := [("DEEPEST", (.int 100)), ("FIGURES", (.str "0123456789")), ("MOST_FIGURES", (.int 50))]
def bts : List Str := ["all", "bool", "int", "isinstance", "len", "list", "range", "str", "tuple"]
set_option maxHeartbeats 0 in
theorem k0 : chkD gls bts (ctOf dcs) c0 = true := by decide +kernel
theorem k1 : chkD gls bts (ctOf dcs) c1 = true := by decide +kernel
theorem k2 : chkD gls bts (ctOf dcs) c2 = true := by decide +kernel
theorem k3 : chkD gls bts (ctOf dcs) c3 = true := by decide +kernel
theorem k4 : chkD gls bts (ctOf dcs) c4 = true := by decide +kernel
theorem k5 : chkD gls bts (ctOf dcs) c5 = true := by decide +kernel
theorem k6 : chkD gls bts (ctOf dcs) c6 = true := by decide +kernel
theorem k7 : chkD gls bts (ctOf dcs) c7 = true := by decide +kernel
theorem k8 : chkD gls bts (ctOf dcs) c8 = true := by decide +kernel
theorem k9 : chkD gls bts (ctOf dcs) c9 = true := by decide +kernel
theorem k10 : chkD gls bts (ctOf dcs) c10 = true := by decide +kernel
theorem k11 : chkD gls bts (ctOf dcs) c11 = true := by decide +kernel
theorem k12 : chkD gls bts (ctOf dcs) c12 = true := by decide +kernel
theorem k13 : chkD gls bts (ctOf dcs) c13 = true := by decide +kernel
theorem k14 : chkD gls bts (ctOf dcs) c14 = true := by decide +kernel
theorem k15 : chkD gls bts (ctOf dcs) c15 = true := by decide +kernel
theorem k16 : chkD gls bts (ctOf dcs) c16 = true := by decide +kernel
theorem k17 : chkD gls bts (ctOf dcs) c17 = true := by decide +kernel
theorem k18 : chkD gls bts (ctOf dcs) c18 = true := by decide +kernel
theorem k19 : chkD gls bts (ctOf dcs) c19 = true := by decide +kernel
theorem k20 : chkD gls bts (ctOf dcs) c20 = true := by decide +kernel
theorem dcs_ok : dcs.all (chkD gls bts (ctOf dcs)) = true := by
  simp only [dcs, List.all_cons, List.all_nil, Bool.and_true, Bool.and_eq_true]
  exact ⟨k0, k1, k2, k3, k4, k5, k6, k7, k8, k9, k10, k11, k12, k13, k14, k15, k16, k17, k18, k19, k20⟩
theorem tab_eq : tabOf dcs = T := by
  funext i; simp only [tabOf, T]; rw [← List.getElem?_map]; rfl
end Pk57
open PySem PySem.W PyProof.Rows
set_option maxHeartbeats 0 in
theorem PySem.Challenge.cw_manyleast_k57_texts_written_and_read_holds : PySem.Challenge.rw_manyleast_k57_texts_written_and_read.Holds := by
  w_on; o_law; k_head; (case hw => w_witness2)
  k_fill
  refine L2.walk_of (l := PySem.Challenge.rw_manyleast_k57_texts_written_and_read) (n := 63) (k := 130) (x := "_law_script") (CX := fun w => L2.CX PySem.Challenge.rw_manyleast_k57_texts_written_and_read.prog w) (sp := fun w => PL.spOf ⟨_, fun _ => 0, fun _ => 0⟩ (PL.Phi (PL.tabOf Pk57.dcs) 130 20)) rfl (by decide) rfl ⟨rfl, by decide, by decide⟩ (fun w h Y => PySem.W.kIn_of Y) ?F (fun w H a ns hl ho hS => PL.law_sp ho hS (by rw [Pk57.tab_eq]; exact Pk57.plain ns hl)) (fun w H s e s' h => PL.cx_no h)
  case F =>
    intro w mg fa h KX G hmg
    have M := PL.mk_mod (gl := Pk57.gls) (bt := Pk57.bts) (ds := Pk57.dcs) KX G (by
      refine' (PL.gl_int KX G ?pg0 (PL.gl_str KX G ⟨by decide +kernel, by decide +kernel⟩ ?pg1 (PL.gl_int KX G ?pg2 PL.gl_nil)))
      (case pg0 => k_is)
      (case pg1 => k_is)
      (case pg2 => k_is)) (by
      refine' (PL.bt_cons KX G ?pz0 (PL.bt_cons KX G ?pz1 (PL.bt_cons KX G ?pz2 (PL.bt_cons KX G ?pz3 (PL.bt_cons KX G ?pz4 (PL.bt_cons KX G ?pz5 (PL.bt_cons KX G ?pz6 (PL.bt_cons KX G ?pz7 (PL.bt_cons KX G ?pz8 PL.bt_nil)))))))))
      (case pz0 => k_is)
      (case pz1 => k_is)
      (case pz2 => k_is)
      (case pz3 => k_is)
      (case pz4 => k_is)
      (case pz5 => k_is)
      (case pz6 => k_is)
      (case pz7 => k_is)
      (case pz8 => k_is)) (by
      refine' (PL.ds_cons (PL.mk_def (x := Pk57.c0) KX G ?pa0 ?pl0 ?pc0 ?pk0 (fun _ _ _ _ _ _ us hl => match us, hl with | [_], _ => rfl)) (PL.ds_cons (PL.mk_def (x := Pk57.c1) KX G ?pa1 ?pl1 ?pc1 ?pk1 (fun _ _ _ _ _ _ us hl => match us, hl with | [_], _ => rfl)) (PL.ds_cons (PL.mk_def (x := Pk57.c2) KX G ?pa2 ?pl2 ?pc2 ?pk2 (fun _ _ _ _ _ _ us hl => match us, hl with | [_], _ => rfl)) (PL.ds_cons (PL.mk_def (x := Pk57.c3) KX G ?pa3 ?pl3 ?pc3 ?pk3 (fun _ _ _ _ _ _ us hl => match us, hl with | [_], _ => rfl)) (PL.ds_cons (PL.mk_def (x := Pk57.c4) KX G ?pa4 ?pl4 ?pc4 ?pk4 (fun _ _ _ _ _ _ us hl => match us, hl with | [_], _ => rfl)) (PL.ds_cons (PL.mk_def (x := Pk57.c5) KX G ?pa5 ?pl5 ?pc5 ?pk5 (fun _ _ _ _ _ _ us hl => match us, hl with | [_], _ => rfl)) (PL.ds_cons (PL.mk_def (x := Pk57.c6) KX G ?pa6 ?pl6 ?pc6 ?pk6 (fun _ _ _ _ _ _ us hl => match us, hl with | [_, _], _ => rfl)) (PL.ds_cons (PL.mk_def (x := Pk57.c7) KX G ?pa7 ?pl7 ?pc7 ?pk7 (fun _ _ _ _ _ _ us hl => match us, hl with | [_, _, _], _ => rfl)) (PL.ds_cons (PL.mk_def (x := Pk57.c8) KX G ?pa8 ?pl8 ?pc8 ?pk8 (fun _ _ _ _ _ _ us hl => match us, hl with | [_, _, _], _ => rfl)) (PL.ds_cons (PL.mk_def (x := Pk57.c9) KX G ?pa9 ?pl9 ?pc9 ?pk9 (fun _ _ _ _ _ _ us hl => match us, hl with | [_], _ => rfl)) (PL.ds_cons (PL.mk_def (x := Pk57.c10) KX G ?pa10 ?pl10 ?pc10 ?pk10 (fun _ _ _ _ _ _ us hl => match us, hl with | [_, _], _ => rfl)) (PL.ds_cons (PL.mk_def (x := Pk57.c11) KX G ?pa11 ?pl11 ?pc11 ?pk11 (fun _ _ _ _ _ _ us hl => match us, hl with | [_], _ => rfl)) (PL.ds_cons (PL.mk_def (x := Pk57.c12) KX G ?pa12 ?pl12 ?pc12 ?pk12 (fun _ _ _ _ _ _ us hl => match us, hl with | [_, _], _ => rfl)) (PL.ds_cons (PL.mk_def (x := Pk57.c13) KX G ?pa13 ?pl13 ?pc13 ?pk13 (fun _ _ _ _ _ _ us hl => match us, hl with | [_], _ => rfl)) (PL.ds_cons (PL.mk_def (x := Pk57.c14) KX G ?pa14 ?pl14 ?pc14 ?pk14 (fun _ _ _ _ _ _ us hl => match us, hl with | [_], _ => rfl)) (PL.ds_cons (PL.mk_def (x := Pk57.c15) KX G ?pa15 ?pl15 ?pc15 ?pk15 (fun _ _ _ _ _ _ us hl => match us, hl with | [_, _], _ => rfl)) (PL.ds_cons (PL.mk_def (x := Pk57.c16) KX G ?pa16 ?pl16 ?pc16 ?pk16 (fun _ _ _ _ _ _ us hl => match us, hl with | [_, _], _ => rfl)) (PL.ds_cons (PL.mk_def (x := Pk57.c17) KX G ?pa17 ?pl17 ?pc17 ?pk17 (fun _ _ _ _ _ _ us hl => match us, hl with | [_], _ => rfl)) (PL.ds_cons (PL.mk_def (x := Pk57.c18) KX G ?pa18 ?pl18 ?pc18 ?pk18 (fun _ _ _ _ _ _ us hl => match us, hl with | [_], _ => rfl)) (PL.ds_cons (PL.mk_def (x := Pk57.c19) KX G ?pa19 ?pl19 ?pc19 ?pk19 (fun _ _ _ _ _ _ us hl => match us, hl with | [_], _ => rfl)) (PL.ds_cons (PL.mk_def (x := Pk57.c20) KX G ?pa20 ?pl20 ?pc20 ?pk20 (fun _ _ _ _ _ _ us hl => match us, hl with | [_], _ => rfl)) PL.ds_nil)))))))))))))))))))))
      (case pa0 => k_is); (case pl0 => k_is); (case pc0 => k_is); (case pk0 => k_is)
      (case pa1 => k_is); (case pl1 => k_is); (case pc1 => k_is); (case pk1 => k_is)
      (case pa2 => k_is); (case pl2 => k_is); (case pc2 => k_is); (case pk2 => k_is)
      (case pa3 => k_is); (case pl3 => k_is); (case pc3 => k_is); (case pk3 => k_is)
      (case pa4 => k_is); (case pl4 => k_is); (case pc4 => k_is); (case pk4 => k_is)
      (case pa5 => k_is); (case pl5 => k_is); (case pc5 => k_is); (case pk5 => k_is)
      (case pa6 => k_is); (case pl6 => k_is); (case pc6 => k_is); (case pk6 => k_is)
      (case pa7 => k_is); (case pl7 => k_is); (case pc7 => k_is); (case pk7 => k_is)
      (case pa8 => k_is); (case pl8 => k_is); (case pc8 => k_is); (case pk8 => k_is)
      (case pa9 => k_is); (case pl9 => k_is); (case pc9 => k_is); (case pk9 => k_is)
      (case pa10 => k_is); (case pl10 => k_is); (case pc10 => k_is); (case pk10 => k_is)
      (case pa11 => k_is); (case pl11 => k_is); (case pc11 => k_is); (case pk11 => k_is)
      (case pa12 => k_is); (case pl12 => k_is); (case pc12 => k_is); (case pk12 => k_is)
      (case pa13 => k_is); (case pl13 => k_is); (case pc13 => k_is); (case pk13 => k_is)
      (case pa14 => k_is); (case pl14 => k_is); (case pc14 => k_is); (case pk14 => k_is)
      (case pa15 => k_is); (case pl15 => k_is); (case pc15 => k_is); (case pk15 => k_is)
      (case pa16 => k_is); (case pl16 => k_is); (case pc16 => k_is); (case pk16 => k_is)
      (case pa17 => k_is); (case pl17 => k_is); (case pc17 => k_is); (case pk17 => k_is)
      (case pa18 => k_is); (case pl18 => k_is); (case pc18 => k_is); (case pk18 => k_is)
      (case pa19 => k_is); (case pl19 => k_is); (case pc19 => k_is); (case pk19 => k_is)
      (case pa20 => k_is); (case pl20 => k_is); (case pc20 => k_is); (case pk20 => k_is))
    obtain ⟨fd, h1, h2⟩ := PL.law_ok (P := PySem.Challenge.rw_manyleast_k57_texts_written_and_read.prog) (wd := w) (w := ⟨L2.KOf KX, fun _ => 0, fun _ => 0⟩) (n := 129) (i := 20) (x := Pk57.c20) rfl M Pk57.dcs_ok rfl rfl hmg
    exact ⟨fd, h1, fun base _ _ => h2 base⟩

