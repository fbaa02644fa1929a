import PyProof.Rows.All
import Wide.All
import OpenK.AllK
import Wide.FinOn
import HandS.ForMost
import HandS.Exc
import HandS.Wide
import HandS.TupAny
import HandS.IsInst
import HandS.Style
import HandS.TupMul
import HandS.ExcOwn
import HandS.WordsExc
import HandS.SortInts
import HandS.Zip
import PyProof.InstNe
import HandS.OwnEq
import HandS.Dict
import HandS.Codes
import HandS.Ends
import PySem.Challenge.RW_quitsways_k06_whole_rows_and_ways_judged
set_option Elab.async false
set_option linter.all false
set_option maxRecDepth 100000
set_option maxHeartbeats 9000000
/-! MqSem: a small language of Python's, its trees and its meaning over plain data. -/
namespace Mq
open PySem

/-- data -/
inductive Dt where
  | non | bl (b : Bool) | int (i : Int) | str (x : Str)
  | tup (xs : List Dt) | lst (xs : List Dt) | rol (xs : List Dt)
  | ins (c : Nat) (ns : List Str) (vs : List Dt)
  | ref (n : Nat)
  | dct
  deriving Inhabited

/-- what an expression gives: a datum, a list just made, the list that a slot owns -/
inductive RV where
  | v (d : Dt) | nl (xs : List Dt) | bw (i : Nat)
  deriving Inhabited
/-- a slot: empty, a datum, an own list, an own list that is walked, an own instance -/
inductive Sl where
  | un | v (d : Dt) | ol (xs : List Dt) | lk (xs : List Dt) | oi (c : Nat) (ns : List Str) (vs : List Dt)
  deriving Inhabited
/-- a store's object -/
inductive MO where
  | l (xs : List Dt) | i (c : Nat) (ns : List Str) (vs : List Dt)
  deriving Inhabited
structure SS where
  sl : List Sl
  st : List MO
  deriving Inhabited

inductive Out (s a : Type) where
  | ok (x : a) (t : s) | ex (c : Nat) (fs : List Dt) (t : s) | no
def Out.bind {s a b : Type} (x : Out s a) (f : a → s → Out s b) : Out s b := match x with
  | .ok y t => f y t
  | .ex c fs t => .ex c fs t
  | .no => .no

abbrev FR := Out (List MO) RV
/-- the class of a value -/
inductive Ty where
  | b (t : String) | c (n : Nat)
  deriving DecidableEq
/-- what is known of the defs: by name; classes' makings; methods -/
structure Fns where
  call : Str → List Dt → List MO → FR
  make : Str → List Dt → List MO → FR
  meth : Nat → Str → List Dt → List MO → FR
  hasM : Nat → Str → Bool
  glob : Str → Option Dt
  isi : Ty → Str → Option Bool
  nf : Nat → Ty → Bool

inductive Bop where
  | add | sub | mul | fdiv | mod | pow | shl | shr | band | bor | bxor
  deriving DecidableEq
inductive Cop where
  | eq | ne | lt | le | gt | ge | isin | notin | isn | notn
  deriving DecidableEq
inductive Tg where
  | n (i : Nat) | t (ts : List Tg)

mutual
inductive ME where
  | var (i : Nat) | cst (d : Dt) | glo (x : Str)
  | bin (op : Bop) (a b : ME) | neg (a : ME)
  | cmp (op : Cop) (a b : ME) | cmp2 (o1 o2 : Cop) (a b c : ME)
  | bool (isAnd : Bool) (es : List ME) | not (a : ME) | ite (c a b : ME)
  | tup (es : List ME) | lst (es : List ME)
  | idx (a b : ME) | slc (a : ME) (lo hi : Option ME) | fld (a : ME) (f : Str)
  | call (x : Str) (es : List ME) | make (x : Str) (es : List ME) | meth (a : ME) (m : Str) (es : List ME)
  | bif (x : Str) (es : List ME) | bme (a : ME) (m : Str) (es : List ME) | isi (a : ME) (t : Str)
  | lc (elt : ME) (tg : Tg) (src : MI) (cond : Option ME) (own : List Nat)
  | alloc (a : ME) | rev (a : ME) | ieq (neg : Bool) (a b : ME) | dct (o : Option (Str × Str))
/-- what is walked -/
inductive MI where
  | seq (fz : Bool) (e : ME) | rng (es : List ME) | enum (fz : Bool) (e : ME) | zip (es : List ME)
end
inductive MS where
  | asg (i : Nat) (e : ME) | par (i j : Nat) (a b : ME) | unp (t : Tg) (e : ME)
  | seti (a b e : ME) | setf (a : ME) (f : Str) (e : ME) | aug (i : Nat) (op : Bop) (e : ME)
  | augi (a b : ME) (op : Bop) (e : ME) | augf (a : ME) (f : Str) (op : Bop) (e : ME)
  | expr (e : ME) | ret (e : ME) | retN | brk | cont | pass | nev
  | ifs (c : ME) (a b : List MS) | whl (fuel : Nat) (c : ME) (body : List MS) | forr (tg : Tg) (src : MI) (body : List MS)

/-! ### equality, order of data -/
mutual
def deq : Dt → Dt → Bool
  | .non, .non => true
  | .bl a, .bl b => a == b
  | .bl a, .int b => (if a then 1 else 0) == b
  | .int a, .bl b => a == (if b then 1 else 0)
  | .int a, .int b => a == b
  | .str a, .str b => a == b
  | .tup a, .tup b => deqL a b
  | .lst a, .lst b => deqL a b
  | .lst a, .rol b => deqL a b
  | .rol a, .lst b => deqL a b
  | .rol a, .rol b => deqL a b
  | _, _ => false
def deqL : List Dt → List Dt → Bool
  | [], [] => true
  | a :: r, b :: q => deq a b && deqL r q
  | _, _ => false
end
/- plain to a depth: no instance, no object of the store within -/
mutual
def flat : Nat → Dt → Bool
  | _, .non => true | _, .bl _ => true | _, .int _ => true | _, .str x => PyData.strOk x
  | 0, _ => false
  | n + 1, .tup xs => flatL n xs
  | n + 1, .lst xs => flatL n xs
  | n + 1, .rol xs => flatL n xs
  | _ + 1, .ins _ _ _ => false
  | _ + 1, .ref _ => false
  | _ + 1, .dct => false
def flatL : Nat → List Dt → Bool
  | _, [] => true
  | n, x :: r => flat n x && flatL n r
end

/-! ### reading -/
def SS.set (s : SS) (i : Nat) (x : Sl) : SS := { s with sl := s.sl.set i x }
def SS.setO (s : SS) (n : Nat) (x : MO) : SS := { s with st := s.st.set n x }
/-- the tracked list that a value stands for, now -/
def rdt (s : SS) : RV → Option (List Dt)
  | .v (.lst xs) => some xs
  | .v (.ref n) => match s.st[n]? with | some (.l xs) => some xs | _ => none
  | .v _ => none
  | .nl xs => some xs
  | .bw i => match s.sl[i]? with | some (.ol xs) => some xs | some (.lk xs) => some xs | some (.v (.lst xs)) => some xs | _ => none
/-- .. or a list that is read alone -/
def rdl (s : SS) : RV → Option (List Dt)
  | .v (.rol xs) => some xs
  | r => rdt s r
/-- .. or a tuple -/
def rds (s : SS) : RV → Option (List Dt)
  | .v (.tup xs) => some xs
  | r => rdl s r
/-- a snapshot as a datum -/
def rdD (s : SS) : RV → Option Dt
  | .v (.ref n) => (rdt s (.v (.ref n))).map .lst
  | .v d => some d
  | r => (rdt s r).map .lst
/-- made a datum: a new list, an own list stay as they are for ever -/
def val (r : RV) (s : SS) : Out SS Dt := match r with
  | .v d => .ok d s
  | .nl xs => .ok (.lst xs) s
  | .bw i => match s.sl[i]? with
    | some (.ol xs) => .ok (.lst xs) (s.set i (.v (.lst xs)))
    | some (.v (.lst xs)) => .ok (.lst xs) s
    | _ => .no
/-- what a slot becomes that is given a value -/
def toSl (r : RV) (s : SS) : Out SS Sl := match r with
  | .nl xs => .ok (.ol xs) s
  | r => (val r s).bind fun d s => .ok (.v d) s
/-- what is handed back -/
def toRet (r : RV) (s : SS) : Out SS RV := match r with
  | .bw i => match s.sl[i]? with
    | some (.ol xs) => .ok (.nl xs) s
    | some (.v (.lst xs)) => .ok (.v (.lst xs)) s
    | _ => .no
  | r => .ok r s

def bitsOk (i j : Int) : Bool := decide (i.natAbs.log2 + j.natAbs.log2 < 1000000)
def smallDiv (j : Int) : Bool := decide (0 < j) && decide (j.natAbs.log2 < 9000)
def powOk (i j : Int) : Bool := decide (0 ≤ j) && decide (j ≤ 1000000) && decide (i.natAbs < 2 ^ 64)
def binI (op : Bop) (i j : Int) : Option Int := match op with
  | .add => some (i + j)
  | .sub => some (i - j)
  | .mul => if bitsOk i j then some (i * j) else none
  | .fdiv => if smallDiv j then some (i / j) else none
  | .mod => if 0 < j then some (i % j) else none
  | .pow => if powOk i j then some (i ^ j.toNat) else none
  | .shl => if powOk i j then some (i * 2 ^ j.toNat) else none
  | .shr => if 0 ≤ j then some (i / 2 ^ j.toNat) else none
  | .band => some (Builtin.bitAnd i j)
  | .bor => some (Builtin.bitOr i j)
  | .bxor => some (Builtin.bitXor i j)
def binL (op : Bop) (a b : RV) (s : SS) : Option RV := match op with
  | .add => match rdt s a, rdt s b with
    | some x, some y => if x.length + y.length ≤ sizeLine then some (.nl (x ++ y)) else none
    | _, _ => none
  | .mul => match rdt s a, b with
    | some x, .v (.int k) => if -(2 ^ 63) ≤ k ∧ k < 2 ^ 63 ∧ x.length * k.toNat ≤ sizeLine then some (.nl (List.replicate k.toNat x).flatten) else none
    | _, _ => none
  | _ => none
def binV (op : Bop) (a b : RV) (s : SS) : Option RV := match a, b with
  | .v (.int i), .v (.int j) => (binI op i j).map fun k => .v (.int k)
  | .v (.str x), .v (.str y) => match op with
    | .add => if x.length + y.length ≤ sizeLine then some (.v (.str (x ++ y))) else none
    | _ => none
  | .v (.tup x), .v (.tup y) => match op with
    | .add => if x.length + y.length ≤ sizeLine then some (.v (.tup (x ++ y))) else none
    | _ => none
  | .v (.tup x), .v (.int k) => match op with
    | .mul => if k = 1 then some (.v (.tup x)) else if x ≠ [] ∧ 2 ≤ k ∧ k ≤ 1000 ∧ x.length ≤ 1000 then some (.v (.tup (List.replicate k.toNat x).flatten)) else none
    | _ => none
  | a, b => binL op a b s
def cmpV (op : Cop) (a b : RV) (s : SS) : Option Bool := match op, a, b with
  | .lt, .v (.int i), .v (.int j) => some (decide (i < j))
  | .le, .v (.int i), .v (.int j) => some (decide (i ≤ j))
  | .gt, .v (.int i), .v (.int j) => some (decide (j < i))
  | .ge, .v (.int i), .v (.int j) => some (decide (j ≤ i))
  | .eq, a, b => match rdD s a, rdD s b with
    | some x, some y => if flat 40 x && flat 40 y then some (deq x y) else none
    | _, _ => none
  | .ne, a, b => match rdD s a, rdD s b with
    | some x, some y => if flat 40 x && flat 40 y then some (!deq x y) else none
    | _, _ => none
  | .isn, .v a, .v .non => some (match a with | .non => true | _ => false)
  | .notn, .v a, .v .non => some (match a with | .non => false | _ => true)
  | .isn, .v (.bl a), .v (.bl b) => some (a == b)
  | .notn, .v (.bl a), .v (.bl b) => some (!(a == b))
  | .isin, .v x, b => match rds s b with
    | some ys => if flat 0 x && flatL 0 ys then some (ys.any fun y => deq y x) else none
    | none => none
  | .notin, .v x, b => match rds s b with
    | some ys => if flat 0 x && flatL 0 ys then some (!(ys.any fun y => deq y x)) else none
    | none => none
  | _, _, _ => none
def cutD (xs : List Dt) (lo hi : Option Int) : List Dt := (xs.drop (HT.sIx xs.length 0 lo)).take (HT.sIx xs.length xs.length hi - HT.sIx xs.length 0 lo)
def idxV (a b : RV) (s : SS) : Option RV := match a, b with
  | .v (.str z), .v (.int i) => if z.length ≤ sizeLine then (L2.atI z.cps.toList i).map fun c => .v (.str ⟨#[c]⟩) else none
  | a, .v (.int i) => match rds s a with
    | some xs => (L2.atI xs i).map .v
    | none => none
  | _, _ => none
def slcV (a : RV) (lo hi : Option Int) (s : SS) : Option RV := match a with
  | .v (.tup xs) => some (.v (.tup (cutD xs lo hi)))
  | a => match rdl s a with
    | some xs => some (.nl (cutD xs lo hi))
    | none => none
def lkF (f : Str) : List Str → List Dt → Option Dt
  | n :: ns, d :: ds => if n = f then some d else lkF f ns ds
  | _, _ => none
def putN (f : Str) : List Str → List Str
  | [] => [f]
  | n :: ns => if n = f then n :: ns else n :: putN f ns
def putD (f : Str) (y : Dt) : List Str → List Dt → List Dt
  | n :: ns, d :: ds => if n = f then y :: ds else d :: putD f y ns ds
  | _, _ => [y]
def fldV (a : RV) (f : Str) (s : SS) : Option Dt := match a with
  | .v (.ins _ ns vs) => lkF f ns vs
  | .v (.ref n) => match s.st[n]? with | some (.i _ ns vs) => lkF f ns vs | _ => none
  | .bw i => match s.sl[i]? with | some (.oi _ ns vs) => lkF f ns vs | _ => none
  | _ => none
/-- the class of an instance whose method m is asked -/
def mcls (a : RV) (m : Str) (s : SS) : Option Nat := match a with
  | .v (.ins c ns _) => if ns.contains m then none else some c
  | .v (.ref n) => match s.st[n]? with | some (.i c ns _) => if ns.contains m then none else some c | _ => none
  | _ => none
def tyV (a : RV) (s : SS) : Option Ty := match a with
  | .v .non => some (.b "NoneType")
  | .v (.bl _) => some (.b "bool")
  | .v (.int _) => some (.b "int")
  | .v (.str _) => some (.b "str")
  | .v (.tup _) => some (.b "tuple")
  | .v (.lst _) => some (.b "list")
  | .v (.rol _) => none
  | .v (.ins c _ _) => some (.c c)
  | .v .dct => some (.b "dict")
  | .v (.ref n) => match s.st[n]? with | some (.l _) => some (.b "list") | some (.i c _ _) => some (.c c) | none => none
  | .nl _ => some (.b "list")
  | .bw i => match s.sl[i]? with | some (.ol _) => some (.b "list") | some (.lk _) => some (.b "list") | some (.v (.lst _)) => some (.b "list") | _ => none
def allInts : List Dt → Option (List Int)
  | [] => some []
  | .int i :: r => (allInts r).map (i :: ·)
  | _ => none
def allBls : List Dt → Option (List Bool)
  | [] => some []
  | .bl i :: r => (allBls r).map (i :: ·)
  | _ => none
def isort (ns : List Int) : List Int := ns.mergeSort fun a b => decide (a ≤ b)
def minL : List Int → Option Int
  | [] => none
  | [x] => some x
  | x :: r => (minL r).map fun m => if x ≤ m then x else m
def maxL : List Int → Option Int
  | [] => none
  | [x] => some x
  | x :: r => (maxL r).map fun m => if m ≤ x then x else m
def bLen (a : RV) (s : SS) : Option RV := match a with
  | .v (.str z) => if z.length ≤ sizeLine then some (.v (.int z.length)) else none
  | a => (rds s a).map fun xs => .v (.int xs.length)
def bAbs (a : RV) : Option RV := match a with | .v (.int i) => some (.v (.int (if i < 0 then -i else i))) | _ => none
def bInt (a : RV) : Option RV := match a with | .v (.int i) => some (.v (.int i)) | .v (.bl k) => some (.v (.int (if k then 1 else 0))) | _ => none
def bTup (a : RV) (s : SS) : Option RV := match a with | .v (.tup xs) => some (.v (.tup xs)) | a => (rdl s a).map fun xs => .v (.tup xs)
/-- built-in functions and types of one argument -/
def bif1 (f : Str) (a : RV) (s : SS) : Option RV :=
  if f = "len" then bLen a s
  else if f = "abs" then bAbs a
  else if f = "int" then bInt a
  else if f = "tuple" then bTup a s
  else if f = "list" then (rds s a).map fun xs => .nl xs
  else if f = "all" then ((rdl s a).bind allBls).map fun bs => .v (.bl (bs.all id))
  else if f = "any" then ((rdl s a).bind allBls).map fun bs => .v (.bl (bs.any id))
  else if f = "sum" then ((rdl s a).bind allInts).map fun ns => .v (.int ns.sum)
  else if f = "min" then (((rdl s a).bind allInts).bind minL).map fun m => .v (.int m)
  else if f = "max" then (((rdl s a).bind allInts).bind maxL).map fun m => .v (.int m)
  else if f = "sorted" then ((rdl s a).bind allInts).map fun ns => .nl ((isort ns).map .int)
  else none
def bif2 (f : Str) (a b : Dt) : Option RV := match a, b with
  | .int i, .int j => if f = "min" then some (.v (.int (if j < i then j else i))) else if f = "max" then some (.v (.int (if j > i then j else i))) else none
  | _, _ => none
/-- a list is changed -/
def wrL (r : RV) (f : List Dt → Option (List Dt × Dt)) (s : SS) : Out SS Dt := match r with
  | .bw i => match s.sl[i]? with
    | some (.ol xs) => match f xs with | some (ys, d) => .ok d (s.set i (.ol ys)) | none => .no
    | _ => .no
  | .v (.ref n) => match s.st[n]? with
    | some (.l xs) => match f xs with | some (ys, d) => .ok d (s.setO n (.l ys)) | none => .no
    | _ => .no
  | _ => .no
def appF (y : Dt) (xs : List Dt) : Option (List Dt × Dt) := if xs.length < sizeLine then some (xs ++ [y], .non) else none
def setF (k : Int) (y : Dt) (xs : List Dt) : Option (List Dt × Dt) := (L2.ixN xs.length k).map fun j => (xs.set j y, .non)
def popAtF (k : Int) (xs : List Dt) : Option (List Dt × Dt) := if -(2 ^ 63) ≤ k ∧ k < 2 ^ 63 then (seqIndex? k xs.length).bind fun j => xs[j]?.map fun y => (xs.eraseIdx j, y) else none
def popF (xs : List Dt) : Option (List Dt × Dt) := xs[xs.length - 1]?.map fun y => (xs.dropLast, y)
def extF (ys xs : List Dt) : Option (List Dt × Dt) := if xs.length + ys.length ≤ sizeLine then some (xs ++ ys, .non) else none

def popDF (d : Dt) (xs : List Dt) : Option (List Dt × Dt) := match d with | .int k => popAtF k xs | _ => none
def extDF (d : Dt) (xs : List Dt) : Option (List Dt × Dt) := match d with | .lst ys => extF ys xs | _ => none
/-- a list's method of one argument -/
def mthF (m : Str) (d : Dt) (xs : List Dt) : Option (List Dt × Dt) :=
  if m = "append" then appF d xs
  else if m = "pop" then popDF d xs
  else if m = "extend" then extDF d xs
  else none
def liftF (r : FR) (s : SS) : Out SS RV := match r with
  | .ok v st => .ok v { s with st := st }
  | .ex c fs st => .ex c fs { s with st := st }
  | .no => .no
def lift (r : Option RV) (s : SS) : Out SS RV := match r with | some v => .ok v s | none => .no
def liftB (r : Option Bool) (s : SS) : Out SS RV := match r with | some b => .ok (.v (.bl b)) s | none => .no

/-! ### targets -/
mutual
def bindT : Tg → Dt → SS → Out SS Unit
  | .n i, d, s => .ok () (s.set i (.v d))
  | .t ts, d, s => match d with
    | .tup xs => bindTs ts xs s
    | _ => .no
def bindTs : List Tg → List Dt → SS → Out SS Unit
  | [], [], s => .ok () s
  | t :: ts, d :: ds, s => (bindT t d s).bind fun _ s => bindTs ts ds s
  | _, _, _ => .no
end
/-- the block's own slots, emptied (they hold data alone) -/
def wipeS : List Nat → SS → SS
  | [], s => s
  | i :: r, s => (wipeS r s).set i .un
def backS (s0 : SS) : List Nat → SS → SS
  | [], s => s
  | i :: r, s => (backS s0 r s).set i (s0.sl.getD i .un)
def wipeOk (own : List Nat) (s : SS) : Bool := own.all fun i => match s.sl[i]? with | some .un => true | some (.v _) => true | _ => false
/-- an own list is walked: locked meanwhile -/
def lock (r : RV) (s : SS) : SS := match r with
  | .bw i => match s.sl[i]? with | some (.ol xs) => s.set i (.lk xs) | _ => s
  | _ => s
def unlock (r : RV) (s0 s : SS) : SS := match r with
  | .bw i => match s0.sl[i]?, s.sl[i]? with | some (.ol _), some (.lk ys) => s.set i (.ol ys) | _, _ => s
  | _ => s
mutual
def decD : (a b : Dt) → Decidable (a = b)
  | .non, b => by cases b <;> first | exact Decidable.isTrue rfl | exact Decidable.isFalse (fun h => nomatch h)
  | .bl x, b => by
    cases b with
    | bl y => exact if h : x = y then Decidable.isTrue (by rw [h]) else Decidable.isFalse fun e => h (Dt.bl.inj e)
    | _ => exact Decidable.isFalse (fun h => nomatch h)
  | .int x, b => by
    cases b with
    | int y => exact if h : x = y then Decidable.isTrue (by rw [h]) else Decidable.isFalse fun e => h (Dt.int.inj e)
    | _ => exact Decidable.isFalse (fun h => nomatch h)
  | .str x, b => by
    cases b with
    | str y => exact if h : x = y then Decidable.isTrue (by rw [h]) else Decidable.isFalse fun e => h (Dt.str.inj e)
    | _ => exact Decidable.isFalse (fun h => nomatch h)
  | .tup x, b => by
    cases b with
    | tup y => exact match decDL x y with | Decidable.isTrue h => Decidable.isTrue (by rw [h]) | Decidable.isFalse h => Decidable.isFalse fun e => h (Dt.tup.inj e)
    | _ => exact Decidable.isFalse (fun h => nomatch h)
  | .lst x, b => by
    cases b with
    | lst y => exact match decDL x y with | Decidable.isTrue h => Decidable.isTrue (by rw [h]) | Decidable.isFalse h => Decidable.isFalse fun e => h (Dt.lst.inj e)
    | _ => exact Decidable.isFalse (fun h => nomatch h)
  | .rol x, b => by
    cases b with
    | rol y => exact match decDL x y with | Decidable.isTrue h => Decidable.isTrue (by rw [h]) | Decidable.isFalse h => Decidable.isFalse fun e => h (Dt.rol.inj e)
    | _ => exact Decidable.isFalse (fun h => nomatch h)
  | .ins c ns vs, b => by
    cases b with
    | ins c' ns' vs' => exact if h : c = c' ∧ ns = ns' then (match decDL vs vs' with | Decidable.isTrue h' => Decidable.isTrue (by rw [h.1, h.2, h']) | Decidable.isFalse h' => Decidable.isFalse fun e => h' (Dt.ins.inj e).2.2) else Decidable.isFalse fun e => h ⟨(Dt.ins.inj e).1, (Dt.ins.inj e).2.1⟩
    | _ => exact Decidable.isFalse (fun h => nomatch h)
  | .dct, b => by
    cases b with
    | dct => exact Decidable.isTrue rfl
    | _ => exact Decidable.isFalse (fun h => nomatch h)
  | .ref x, b => by
    cases b with
    | ref y => exact if h : x = y then Decidable.isTrue (by rw [h]) else Decidable.isFalse fun e => h (Dt.ref.inj e)
    | _ => exact Decidable.isFalse (fun h => nomatch h)
def decDL : (a b : List Dt) → Decidable (a = b)
  | [], [] => Decidable.isTrue rfl
  | [], _ :: _ => Decidable.isFalse (fun h => nomatch h)
  | _ :: _, [] => Decidable.isFalse (fun h => nomatch h)
  | x :: r, y :: q => match decD x y, decDL r q with
    | Decidable.isTrue h, Decidable.isTrue k => Decidable.isTrue (by rw [h, k])
    | Decidable.isFalse h, _ => Decidable.isFalse fun e => h (List.cons.inj e).1
    | _, Decidable.isFalse k => Decidable.isFalse fun e => k (List.cons.inj e).2
end
instance : DecidableEq Dt := decD
/-- what is walked: its items, the value that must stand meanwhile -/
structure IV where
  xs : List Dt
  src : RV
  ys : List Dt
/-- a list of the store stands as it stood -/
def chk (xs : List Dt) (r : RV) (s : SS) : Bool := match r with
  | .v (.ref n) => (match s.st[n]? with | some (.l ys) => decide (xs = ys) | _ => false)
  | _ => true

def lcLoop (ck : SS → Bool) (tg : SS → Dt → Out SS Unit) (own : List Nat) (c : SS → Out SS Bool) (e : SS → Out SS Dt) : List Dt → List Dt → SS → Out SS (List Dt)
  | [], acc, s => .ok acc s
  | x :: xs, acc, s => (tg (wipeS own s) x).bind fun _ s => (c s).bind fun b s =>
      if b then (e s).bind fun d s => if acc.length < sizeLine ∧ ck s then lcLoop ck tg own c e xs (acc ++ [d]) s else .no
      else if ck s then lcLoop ck tg own c e xs acc s else .no

inductive Fl where
  | nx | ret (r : RV) | bk | ct
def whN (c : SS → Out SS Bool) (b : SS → Out SS Fl) : Nat → SS → Out SS Fl
  | 0, _ => .no
  | n + 1, s => (c s).bind fun k s => if k then (b s).bind fun f s => (match f with
      | .nx => whN c b n s
      | .ct => whN c b n s
      | .bk => .ok .nx s
      | .ret r => .ok (.ret r) s) else .ok .nx s
def forL (ck : SS → Bool) (tg : SS → Dt → Out SS Unit) (b : SS → Out SS Fl) : List Dt → SS → Out SS Fl
  | [], s => .ok .nx s
  | x :: xs, s => (tg s x).bind fun _ s => (b s).bind fun f s => (match f with
      | .nx => if ck s then forL ck tg b xs s else .no
      | .ct => if ck s then forL ck tg b xs s else .no
      | .bk => .ok .nx s
      | .ret r => .ok (.ret r) s)
/-- where nothing may be raised -/
def Out.noex {s a : Type} (x : Out s a) : Out s a := match x with
  | .ok y t => .ok y t
  | .ex _ _ _ => .no
  | .no => .no
/-- what is done to the state at every end -/
def Out.fix {a : Type} (f : SS → SS) (x : Out SS a) : Out SS a := match x with
  | .ok y s => .ok y (f s)
  | .ex c fs s => .ex c fs (f s)
  | .no => .no

def asB (r : RV) (s : SS) : Out SS Bool := match r with | .v (.bl b) => .ok b s | _ => .no
/-- an instance's own == -/
def ieqF (G : Fns) (neg : Bool) (x y : RV) (s : SS) : Out SS RV := match x, tyV y s with
  | .v (.ins c ns vs), some ty => if G.hasM c "__eq__" && G.nf c ty then
      (val y s).bind fun d s => ((liftF (G.meth c "__eq__" [.ins c ns vs, d] s.st) s).noex.bind asB).bind fun k s => .ok (.v (.bl (k != neg))) s
    else .no
  | _, _ => .no
/-! ### the meaning -/
def rngI (lo hi : Int) : List Dt := (List.range (hi - lo).toNat).map fun i => Dt.int (lo + (i : Nat))
/-- downwards -/
def rngD (lo hi : Int) : List Dt := (List.range (lo - hi).toNat).map fun i => Dt.int (lo - (i : Nat))
def rngOk (i : Int) : Bool := decide (-(2 ^ 62) ≤ i) && decide (i < 2 ^ 62)
def enumL : Nat → List Dt → List Dt
  | _, [] => []
  | n, x :: r => .tup [.int n, x] :: enumL (n + 1) r
mutual
def ev (G : Fns) : ME → SS → Out SS RV
  | .var i, s => match s.sl[i]? with
    | some (.v d) => .ok (.v d) s
    | some (.ol _) => .ok (.bw i) s
    | some (.lk _) => .ok (.bw i) s
    | some (.oi _ _ _) => .ok (.bw i) s
    | _ => .no
  | .cst d, s => .ok (.v d) s
  | .glo x, s => match G.glob x with | some d => .ok (.v d) s | none => .no
  | .bin op a b, s => (ev G a s).bind fun x s => (ev G b s).bind fun y s => lift (binV op x y s) s
  | .neg a, s => (ev G a s).bind fun x s => match x with | .v (.int i) => .ok (.v (.int (-i))) s | _ => .no
  | .cmp op a b, s => (ev G a s).bind fun x s => (ev G b s).bind fun y s => liftB (cmpV op x y s) s
  | .cmp2 o1 o2 a b c, s => (ev G a s).bind fun x s => (ev G b s).bind fun y s => match cmpV o1 x y s with
    | some true => (ev G c s).bind fun z s => liftB (cmpV o2 y z s) s
    | some false => .ok (.v (.bl false)) s
    | none => .no
  | .bool isAnd es, s => evB G isAnd es s
  | .not a, s => (ev G a s).bind fun x s => (asB x s).bind fun b s => .ok (.v (.bl (!b))) s
  | .ite c a b, s => (ev G c s).bind fun x s => (asB x s).bind fun k s => if k then ev G a s else ev G b s
  | .tup es, s => (evs G es s).bind fun ds s => if ds.length ≤ sizeLine then .ok (.v (.tup ds)) s else .no
  | .lst es, s => (evs G es s).bind fun ds s => if ds.length ≤ sizeLine then .ok (.nl ds) s else .no
  | .idx a b, s => (ev G a s).bind fun x s => (ev G b s).bind fun y s => lift (idxV x y s) s
  | .slc a lo hi, s => (ev G a s).bind fun x s => (evO G lo s).bind fun l s => (evO G hi s).bind fun h s => lift (slcV x l h s) s
  | .fld a f, s => (ev G a s).bind fun x s => lift ((fldV x f s).map .v) s
  | .call x es, s => (evs G es s).bind fun ds s => liftF (G.call x ds s.st) s
  | .make x es, s => (evs G es s).bind fun ds s => liftF (G.make x ds s.st) s
  | .meth a m es, s => (ev G a s).bind fun x s => match x, mcls x m s with
    | .v d, some c => if G.hasM c m then (evs G es s).bind fun ds s => liftF (G.meth c m (d :: ds) s.st) s else .no
    | _, _ => .no
  | .bif x es, s => match es with
    | [a] => (ev G a s).bind fun r s => lift (bif1 x r s) s
    | [a, b] => (ev G a s).bind fun r s => (val r s).bind fun d s => (ev G b s).bind fun r s => (val r s).bind fun d' s => lift (bif2 x d d') s
    | _ => .no
  | .bme a m es, s => (ev G a s).bind fun r s => match rdt s r with
    | none => .no
    | some _ => match es with
      | [] => if m = "pop" then (wrL r popF s).bind fun d s => .ok (.v d) s else .no
      | [e] => (ev G e s).bind fun y s => (val y s).bind fun d s => (wrL r (mthF m d) s).bind fun d s => .ok (.v d) s
      | _ => .no
  | .isi a t, s => (ev G a s).bind fun x s => match (tyV x s).bind fun ty => G.isi ty t with
    | some b => .ok (.v (.bl b)) s
    | none => .no
  | .lc elt tg src cond own, s => (evI G src s).bind fun iv s =>
    if wipeOk own s then
      ((lcLoop (chk iv.ys iv.src) (fun s x => bindT tg x s) own (fun s => match cond with | none => .ok true s | some c => ((ev G c s).bind asB).noex) (fun s => ((ev G elt s).bind val).noex) iv.xs [] (lock iv.src s)).fix fun s' => unlock iv.src s (backS s own s')).bind fun acc s => .ok (.nl acc) s
    else .no
  | .alloc a, s => (ev G a s).bind fun x s => match x with
    | .nl xs => .ok (.v (.ref s.st.length)) { s with st := s.st ++ [.l xs] }
    | _ => .no
  | .dct _, s => .ok (.v .dct) s
  | .ieq neg a b, s => (ev G a s).bind fun x s => (ev G b s).bind fun y s => ieqF G neg x y s
  | .rev a, s => (ev G a s).bind fun x s => match rdl s x with
    | some xs => .ok (.nl xs.reverse) s
    | none => .no
def evB (G : Fns) (isAnd : Bool) : List ME → SS → Out SS RV
  | [], _ => .no
  | [a], s => ev G a s
  | a :: r, s => (ev G a s).bind fun x s => (asB x s).bind fun k s => if k == isAnd then evB G isAnd r s else .ok (.v (.bl k)) s
def evs (G : Fns) : List ME → SS → Out SS (List Dt)
  | [], s => .ok [] s
  | e :: r, s => (ev G e s).bind fun x s => (val x s).bind fun d s => (evs G r s).bind fun ds s => .ok (d :: ds) s
def evO (G : Fns) : Option ME → SS → Out SS (Option Int)
  | none, s => .ok none s
  | some e, s => (ev G e s).bind fun x s => match x with | .v (.int i) => .ok (some i) s | _ => .no
def evI (G : Fns) : MI → SS → Out SS IV
  | .seq fz e, s => (ev G e s).bind fun r s => if fz then (val r s).bind fun d s => (match rds s (.v d) with | some xs => .ok ⟨xs, .v d, xs⟩ s | none => .no)
      else match rds s r with | some xs => .ok ⟨xs, r, xs⟩ s | none => .no
  | .rng es, s => (evs G es s).bind fun ds s => match ds with
    | [.int j] => if rngOk j then .ok ⟨rngI 0 j, .v .non, []⟩ s else .no
    | [.int i, .int j] => if rngOk i && rngOk j then .ok ⟨rngI i j, .v .non, []⟩ s else .no
    | [.int i, .int j, .int c] => if rngOk i && rngOk j && c == -1 then .ok ⟨rngD i j, .v .non, []⟩ s else .no
    | _ => .no
  | .enum fz e, s => (ev G e s).bind fun r s => if fz then (val r s).bind fun d s => (match rdl s (.v d) with | some xs => .ok ⟨enumL 0 xs, .v d, xs⟩ s | none => .no)
      else match rdl s r with | some xs => .ok ⟨enumL 0 xs, r, xs⟩ s | none => .no
  | .zip es, s => (evs G es s).bind fun ds s => match ds with
    | [.lst xs, .lst ys] => .ok ⟨(xs.zip ys).map fun p => .tup [p.1, p.2], .v .non, []⟩ s
    | [.tup xs, .tup ys] => .ok ⟨(xs.zip ys).map fun p => .tup [p.1, p.2], .v .non, []⟩ s
    | _ => .no
end
/-- a field is set -/
def wrF (r : RV) (f : Str) (d : Dt) (s : SS) : Out SS Unit := match r with
  | .bw i => match s.sl[i]? with
    | some (.oi c ns vs) => if ns.length < 1000 then .ok () (s.set i (.oi c (putN f ns) (putD f d ns vs))) else .no
    | _ => .no
  | .v (.ref n) => match s.st[n]? with
    | some (.i c ns vs) => if ns.length < 1000 then .ok () (s.setO n (.i c (putN f ns) (putD f d ns vs))) else .no
    | _ => .no
  | _ => .no
def icls (r : RV) (s : SS) : Option Nat := match r with
  | .bw i => match s.sl[i]? with | some (.oi c _ _) => some c | _ => none
  | .v (.ref n) => match s.st[n]? with | some (.i c _ _) => some c | _ => none
  | _ => none
def asI (r : RV) (s : SS) : Out SS Int := match r with | .v (.int i) => .ok i s | _ => .no
def augI (op : Bop) (x y : Int) (s : SS) : Out SS Int := match op with
  | .add => .ok (x + y) s
  | .sub => .ok (x - y) s
  | _ => .no
mutual
def exec (G : Fns) : MS → SS → Out SS Fl
  | .asg i e, s => (ev G e s).bind fun r s => (toSl r s).bind fun x s => .ok .nx (s.set i x)
  | .par i j a b, s => (evs G [a, b] s).bind fun ds s => match ds with
    | [x, y] => .ok .nx ((s.set i (.v x)).set j (.v y))
    | _ => .no
  | .unp t e, s => (ev G e s).bind fun r s => (val r s).bind fun d s => (bindT t d s).bind fun _ s => .ok .nx s
  | .seti a b e, s => (ev G e s).bind fun y s => (val y s).bind fun d s => (ev G a s).bind fun r s => (ev G b s).bind fun k s => (asI k s).bind fun k s => (wrL r (setF k d) s).bind fun _ s => .ok .nx s
  | .setf a f e, s => (ev G e s).bind fun y s => (val y s).bind fun d s => (ev G a s).bind fun r s => (wrF r f d s).bind fun _ s => .ok .nx s
  | .aug i op e, s => match s.sl[i]? with
    | some (.v (.int x)) => (ev G e s).bind fun r s => (asI r s).bind fun y s => (augI op x y s).bind fun z s => .ok .nx (s.set i (.v (.int z)))
    | _ => .no
  | .augi a b op e, s => (ev G a s).bind fun r s => (ev G b s).bind fun k s => (asI k s).bind fun k s => match (rdt s r).bind fun xs => L2.atI xs k with
    | some (.int x) => (ev G e s).bind fun y s => (asI y s).bind fun y s => (augI op x y s).bind fun z s => (wrL r (setF k (.int z)) s).bind fun _ s => .ok .nx s
    | _ => .no
  | .augf a f op e, s => (ev G a s).bind fun r s => match fldV r f s, icls r s with
    | some (.int x), some c => (ev G e s).bind fun y s => (asI y s).bind fun y s => (augI op x y s).bind fun z s => if icls r s = some c then (wrF r f (.int z) s).bind fun _ s => .ok .nx s else .no
    | _, _ => .no
  | .expr e, s => (ev G e s).bind fun _ s => .ok .nx s
  | .ret e, s => (ev G e s).bind fun r s => (toRet r s).bind fun r s => .ok (.ret r) s
  | .retN, s => .ok (.ret (.v .non)) s
  | .brk, s => .ok .bk s
  | .cont, s => .ok .ct s
  | .pass, s => .ok .nx s
  | .nev, _ => .no
  | .ifs c a b, s => (ev G c s).bind fun x s => (asB x s).bind fun k s => if k then execs G a s else execs G b s
  | .whl n c b, s => whN (fun s => (ev G c s).bind asB) (fun s => execs G b s) n s
  | .forr tg src b, s => (evI G src s).bind fun iv s => (forL (chk iv.ys iv.src) (fun s x => bindT tg x s) (fun s => execs G b s) iv.xs (lock iv.src s)).fix fun s' => unlock iv.src s s'
def execs (G : Fns) : List MS → SS → Out SS Fl
  | [], s => .ok .nx s
  | m :: r, s => (exec G m s).bind fun f s => match f with
    | .nx => execs G r s
    | f => .ok f s
end
end Mq

/-! MqMul: a tuple once. -/
namespace L2
open PySem PySem.Spec PyProof.Rows
theorem tup_once (l : Addr) (its : Array Value) (n : Nat) (dd : Option Addr) (sl : Array (Option Value)) (u : Tok) :
    Meets (Builtin.«tuple.__mul__» ⟨[.ref l, .int 1 u], []⟩) (fun _ R s => s.heap.get? l = some { cls := .type "tuple", dict := dd, data := .seq its n, slots := sl } ∧ R (.ok (.ret (.ref l))) s) :=
  .of_wp fun prog w A R s z => by
    obtain ⟨hp, g, d, tk, os⟩ := s
    obtain ⟨hl, z⟩ := z
    have f1 := AutoSeq1.idx_int
    have o1 : (its.isEmpty || (1 : Int) == 1) = true := by cases its.isEmpty <;> rfl
    wp_walk using wpAny_loadPart' hl
    repeat (first
      | (refine wpAny_ite_false (decide_eq_false (by decide)) ?_; wp_walk using wpAny_loadPart' hl)
      | (refine wpAny_ite_true (decide_eq_true o1) ?_; wp_walk using wpAny_loadPart' hl))
    exact ⟨_, rfl, z⟩
/-- a tuple once is the tuple itself -/
def rOnce (K : PySem.W.Frag) : R2 := fun x y H Q => ∃ l xs, x = .ref l ∧ y = .int 1 ∧ SqT K H l xs ∧ Q (.ref l) H
section
variable {X : Cx}
theorem op_once : OpR X (binaryOp .Mult) (rOnce X.K) := by
  intro pins s σ H x y v u Q I rx ry h
  obtain ⟨l, xs, rfl, rfl, hT, q⟩ := h
  cases rx
  obtain ⟨t, rfl⟩ := ry
  obtain ⟨its, r, ⟨⟨cls, dd, data, sl⟩, ho, hc, n, hd⟩, hs⟩ := I.tuple hT
  simp only at hc hd
  subst hc hd
  have body : wpAny (model X.prog X.w) X.A (call (.builtin "tuple.__mul__") [.ref l, .int 1 t]) (EP X pins σ Q) X.xe s :=
    call_meets F.slot_tuple_mul ⟨_, ho, rfl⟩ F.entry_tuple_mul (F.args_tuple_mul_2 _ _) (tup_once l its.toArray n dd sl t) ⟨ho, .ref l, H, I, rfl, q⟩
  exact wpAny_binaryOp_repeat_ref (T := "tuple") (U := "int") (by decide) ⟨_, ho, rfl⟩ (fun s' => typeIs_int s' 1 t) noFill_tuple_mul F.fills_int_mul F.slot_int_rmul repeat_tuple F.slot_int_index.lookup
    (call_meets F.slot_int_rmul (typeIs_int s 1 t) F.entry_int_rmul (F.args_int_rmul_2 _ _) (int_rmul_tuple 1 t l its.toArray n dd sl) ⟨ho, rfl, ⟨_, ho, rfl⟩, body⟩)
end
end L2

/-! MqRel: how data lie in the heap; worlds. -/
namespace Mq
open PySem L2

structure Gx where
  K : PySem.W.Frag
  cls : Nat → Option Addr
  exc : Nat → Option (Addr × List Str)

mutual
inductive Rep (G : Gx) (F : Hp) (A : List Addr) : V → Dt → Prop
  | non : Rep G F A .non .non
  | bl (b : Bool) : Rep G F A (.bl b) (.bl b)
  | int (i : Int) : Rep G F A (.int i) (.int i)
  | str (x : Str) : Rep G F A (.str x) (.str x)
  | tup {a : Addr} {vs : List V} {ds : List Dt} : SqT G.K F a vs → RepL G F A vs ds → Rep G F A (.ref a) (.tup ds)
  | lst {a : Addr} {vs : List V} {ds : List Dt} : F a = some (.lst vs) → RepL G F A vs ds → Rep G F A (.ref a) (.lst ds)
  | rol {a : Addr} {vs : List V} {ds : List Dt} : SqL G.K F a vs → RepL G F A vs ds → Rep G F A (.ref a) (.rol ds)
  | ins {a C dx : Addr} {c : Nat} {fl : List (Str × V)} {ds : List Dt} : G.cls c = some C → F a = some (.ins C dx fl) → RepL G F A (fl.map (·.2)) ds → Rep G F A (.ref a) (.ins c (fl.map (·.1)) ds)
  | ref {a : Addr} {n : Nat} : A[n]? = some a → Rep G F A (.ref a) (.ref n)
  | dct {a : Addr} {kvs : List (Key × V)} : F a = some (.dK kvs) → Rep G F A (.ref a) .dct
inductive RepL (G : Gx) (F : Hp) (A : List Addr) : List V → List Dt → Prop
  | nil : RepL G F A [] []
  | cons {v : V} {vs : List V} {d : Dt} {ds : List Dt} : Rep G F A v d → RepL G F A vs ds → RepL G F A (v :: vs) (d :: ds)
end

def Ax (A A' : List Addr) : Prop := ∀ (n : Nat) (a : Addr), A[n]? = some a → A'[n]? = some a
theorem Ax.refl (A : List Addr) : Ax A A := fun _ _ h => h
theorem Ax.trans {A B C : List Addr} (h : Ax A B) (k : Ax B C) : Ax A C := fun n a e => k n a (h n a e)
theorem Ax.app (A B : List Addr) : Ax A (A ++ B) := fun n a e => by
  have h := (List.getElem?_eq_some_iff.mp e).1
  rw [List.getElem?_append_left h]; exact e
theorem sqt_mono {K : PySem.W.Frag} {F F' : Hp} {a : Addr} {xs : List V} (h : Same F F') : SqT K F a xs → SqT K F' a xs
  | .inl (.inl e) => .inl (.inl (h _ _ e))
  | .inl (.inr ⟨o, e⟩) => .inl (.inr ⟨o, h _ _ e⟩)
  | .inr e => .inr e
theorem sql_mono {K : PySem.W.Frag} {F F' : Hp} {a : Addr} {xs : List V} (h : Same F F') : SqL K F a xs → SqL K F' a xs
  | .inl (.inl e) => .inl (.inl (h _ _ e))
  | .inl (.inr ⟨o, e⟩) => .inl (.inr ⟨o, h _ _ e⟩)
  | .inr e => .inr e
section
variable {G : Gx} {F F' : Hp} {A A' : List Addr}
mutual
theorem Rep.mono (h : Same F F') (k : Ax A A') : ∀ {v : V} {d : Dt}, Rep G F A v d → Rep G F' A' v d
  | _, _, .non => .non
  | _, _, .bl b => .bl b
  | _, _, .int i => .int i
  | _, _, .str x => .str x
  | _, _, .tup s r => .tup (sqt_mono h s) (RepL.mono h k r)
  | _, _, .lst s r => .lst (h _ _ s) (RepL.mono h k r)
  | _, _, .rol s r => .rol (sql_mono h s) (RepL.mono h k r)
  | _, _, .ins c s r => .ins c (h _ _ s) (RepL.mono h k r)
  | _, _, .ref e => .ref (k _ _ e)
  | _, _, .dct e => .dct (h _ _ e)
theorem RepL.mono (h : Same F F') (k : Ax A A') : ∀ {vs : List V} {ds : List Dt}, RepL G F A vs ds → RepL G F' A' vs ds
  | _, _, .nil => .nil
  | _, _, .cons a r => .cons (Rep.mono h k a) (RepL.mono h k r)
end
theorem RepL.length : ∀ {vs : List V} {ds : List Dt}, RepL G F A vs ds → vs.length = ds.length
  | _, _, .nil => rfl
  | _, _, .cons _ r => by simp [RepL.length r]
theorem RepL.get : ∀ {vs : List V} {ds : List Dt} {i : Nat} {d : Dt}, RepL G F A vs ds → ds[i]? = some d → ∃ v, vs[i]? = some v ∧ Rep G F A v d
  | _, _, _, _, .nil, e => by simp at e
  | _, _, 0, _, .cons r _, e => by simp at e; subst e; exact ⟨_, rfl, r⟩
  | _, _, i + 1, d, .cons _ t, e => by
    obtain ⟨u, h1, h2⟩ := RepL.get (i := i) (d := d) t (by simpa using e)
    exact ⟨u, by simpa using h1, h2⟩
theorem RepL.getV : ∀ {vs : List V} {ds : List Dt} {i : Nat} {v : V}, RepL G F A vs ds → vs[i]? = some v → ∃ d, ds[i]? = some d ∧ Rep G F A v d
  | _, _, _, _, .nil, e => by simp at e
  | _, _, 0, _, .cons r _, e => by simp at e; subst e; exact ⟨_, rfl, r⟩
  | _, _, i + 1, d, .cons _ t, e => by
    obtain ⟨u, h1, h2⟩ := RepL.getV (i := i) (v := d) t (by simpa using e)
    exact ⟨u, by simpa using h1, h2⟩
theorem RepL.append : ∀ {vs us : List V} {ds es : List Dt}, RepL G F A vs ds → RepL G F A us es → RepL G F A (vs ++ us) (ds ++ es)
  | _, _, _, _, .nil, s => s
  | _, _, _, _, .cons r t, s => .cons r (RepL.append t s)
theorem RepL.take : ∀ {vs : List V} {ds : List Dt} (n : Nat), RepL G F A vs ds → RepL G F A (vs.take n) (ds.take n)
  | _, _, 0, _ => .nil
  | _, _, _ + 1, .nil => .nil
  | _, _, n + 1, .cons r t => .cons r (RepL.take n t)
theorem RepL.drop : ∀ {vs : List V} {ds : List Dt} (n : Nat), RepL G F A vs ds → RepL G F A (vs.drop n) (ds.drop n)
  | _, _, 0, r => r
  | _, _, _ + 1, .nil => .nil
  | _, _, n + 1, .cons _ t => RepL.drop n t
theorem RepL.set {v : V} {d : Dt} (r : Rep G F A v d) : ∀ {vs : List V} {ds : List Dt} (i : Nat), RepL G F A vs ds → RepL G F A (vs.set i v) (ds.set i d)
  | _, _, _, .nil => .nil
  | _, _, 0, .cons _ t => .cons r t
  | _, _, i + 1, .cons q t => .cons q (RepL.set r i t)
theorem RepL.eraseIdx : ∀ {vs : List V} {ds : List Dt} (i : Nat), RepL G F A vs ds → RepL G F A (vs.eraseIdx i) (ds.eraseIdx i)
  | _, _, _, .nil => .nil
  | _, _, 0, .cons _ t => t
  | _, _, i + 1, .cons q t => .cons q (RepL.eraseIdx i t)
theorem RepL.dropLast {vs : List V} {ds : List Dt} (h : RepL G F A vs ds) : RepL G F A vs.dropLast ds.dropLast := by
  rw [List.dropLast_eq_take, List.dropLast_eq_take, h.length]; exact h.take _
theorem RepL.rep {vs : List V} {ds : List Dt} (h : RepL G F A vs ds) : ∀ k : Nat, RepL G F A (List.replicate k vs).flatten (List.replicate k ds).flatten
  | 0 => .nil
  | k + 1 => by
    rw [List.replicate_succ, List.replicate_succ, List.flatten_cons, List.flatten_cons]
    exact h.append (RepL.rep h k)
theorem RepL.ints : ∀ (ns : List Int), RepL G F A (ns.map V.int) (ns.map Dt.int)
  | [] => .nil
  | n :: r => .cons (.int n) (RepL.ints r)
theorem repL_ints_inv : ∀ {vs : List V} {ds : List Dt} {ns : List Int}, RepL G F A vs ds → allInts ds = some ns → vs = ns.map V.int
  | _, _, ns, .nil, e => by simp [allInts] at e; subst e; rfl
  | _, _, ns, .cons (d := d) r t, e => by
    cases r <;> simp [allInts] at e
    obtain ⟨q, e1, e2⟩ := e
    subst e2
    simp [repL_ints_inv t e1]
theorem repL_bls_inv : ∀ {vs : List V} {ds : List Dt} {ns : List Bool}, RepL G F A vs ds → allBls ds = some ns → vs = ns.map V.bl
  | _, _, ns, .nil, e => by simp [allBls] at e; subst e; rfl
  | _, _, ns, .cons (d := d) r t, e => by
    cases r <;> simp [allBls] at e
    obtain ⟨q, e1, e2⟩ := e
    subst e2
    simp [repL_bls_inv t e1]
theorem Rep.inv_int {v : V} {i : Int} (h : Rep G F A v (.int i)) : v = .int i := by cases h; rfl
theorem Rep.inv_bl {v : V} {i : Bool} (h : Rep G F A v (.bl i)) : v = .bl i := by cases h; rfl
theorem Rep.inv_str {v : V} {i : Str} (h : Rep G F A v (.str i)) : v = .str i := by cases h; rfl
theorem Rep.inv_non {v : V} (h : Rep G F A v .non) : v = .non := by cases h; rfl
theorem Rep.inv_tup {v : V} {ds : List Dt} (h : Rep G F A v (.tup ds)) : ∃ a vs, v = .ref a ∧ SqT G.K F a vs ∧ RepL G F A vs ds := by
  cases h with | tup s r => exact ⟨_, _, rfl, s, r⟩
theorem Rep.inv_lst {v : V} {ds : List Dt} (h : Rep G F A v (.lst ds)) : ∃ a vs, v = .ref a ∧ F a = some (.lst vs) ∧ RepL G F A vs ds := by
  cases h with | lst s r => exact ⟨_, _, rfl, s, r⟩
theorem Rep.inv_rol {v : V} {ds : List Dt} (h : Rep G F A v (.rol ds)) : ∃ a vs, v = .ref a ∧ SqL G.K F a vs ∧ RepL G F A vs ds := by
  cases h with | rol s r => exact ⟨_, _, rfl, s, r⟩
theorem Rep.inv_ref {v : V} {n : Nat} (h : Rep G F A v (.ref n)) : ∃ a, v = .ref a ∧ A[n]? = some a := by
  cases h with | ref e => exact ⟨_, rfl, e⟩
theorem Rep.inv_dct {v : V} (h : Rep G F A v .dct) : ∃ a kvs, v = .ref a ∧ F a = some (.dK kvs) := by
  cases h with | dct e => exact ⟨_, _, rfl, e⟩
theorem Rep.inv_ins {v : V} {c : Nat} {ns : List Str} {ds : List Dt} (h : Rep G F A v (.ins c ns ds)) :
    ∃ a C dx fl, v = .ref a ∧ G.cls c = some C ∧ F a = some (.ins C dx fl) ∧ fl.map (·.1) = ns ∧ RepL G F A (fl.map (·.2)) ds := by
  cases h with | ins c s r => exact ⟨_, _, _, _, rfl, c, s, rfl, r⟩
end

structure Wd where
  F : Hp
  A : List Addr
  T : Hp
  L : Nat → Option Addr
  M : Option Addr

/-- the world w' goes on from w -/
structure Ext (w w' : Wd) : Prop where
  F : Same w.F w'.F
  A : Ax w.A w'.A
  T : w'.T = w.T
  L : w'.L = w.L
  M : w'.M = w.M
theorem Ext.refl (w : Wd) : Ext w w := ⟨Same.refl _, Ax.refl _, rfl, rfl, rfl⟩
theorem Ext.trans {a b c : Wd} (h : Ext a b) (k : Ext b c) : Ext a c := ⟨h.F.trans k.F, h.A.trans k.A, k.T.trans h.T, k.L.trans h.L, k.M.trans h.M⟩

def MRep (G : Gx) (w : Wd) (mo : MO) (o : Option HO) : Prop := match mo with
  | .l xs => ∃ vs, o = some (.lst vs) ∧ RepL G w.F w.A vs xs
  | .i c ns ds => ∃ C dx fl, G.cls c = some C ∧ o = some (.ins C dx fl) ∧ fl.map (·.1) = ns ∧ RepL G w.F w.A (fl.map (·.2)) ds
def SlR (G : Gx) (w : Wd) (H : Hp) (i : Nat) (x : Sl) (o : Option (Option V)) : Prop := match x with
  | .un => True
  | .v d => ∃ v, o = some (some v) ∧ Rep G w.F w.A v d
  | .ol xs => ∃ p vs, o = some (some (.ref p)) ∧ H p = some (.lst vs) ∧ RepL G w.F w.A vs xs
  | .lk xs => ∃ p vs, o = some (some (.ref p)) ∧ w.L i = some p ∧ w.T p = some (.lst vs) ∧ RepL G w.F w.A vs xs
  | .oi c ns ds => ∃ p C dx fl, o = some (some (.ref p)) ∧ G.cls c = some C ∧ H p = some (.ins C dx fl) ∧ fl.map (·.1) = ns ∧ RepL G w.F w.A (fl.map (·.2)) ds ∧ w.M = some p
def isOwn : Sl → Bool
  | .ol _ => true
  | .oi _ _ _ => true
  | _ => false
def OwnAt (ρ : SS) (σ : L2.St) (i : Nat) (p : Addr) : Prop := σ[i]? = some (some (.ref p)) ∧ ∃ x, ρ.sl[i]? = some x ∧ isOwn x = true
/-- the world's part that hangs on no slots -/
structure Wok (G : Gx) (w : Wd) (st : List MO) (H : Hp) : Prop where
  subF : Same w.F H
  subT : Same w.T H
  dis : ∀ a, w.F a = none ∨ w.T a = none
  stL : w.A.length = st.length
  stR : ∀ (n : Nat) (a : Addr), w.A[n]? = some a → w.F a = none ∧ w.T a = none ∧ ∃ mo, st[n]? = some mo ∧ MRep G w mo (H a)
  stN : ∀ (n m : Nat) (a : Addr), w.A[n]? = some a → w.A[m]? = some a → n = m
structure Rel (G : Gx) (w : Wd) (ρ : SS) (σ : L2.St) (H : Hp) : Prop extends Wok G w ρ.st H where
  len : ρ.sl.length = σ.length
  sl : ∀ (i : Nat) (x : Sl), ρ.sl[i]? = some x → SlR G w H i x σ[i]?
  own : ∀ (i : Nat) (p : Addr), OwnAt ρ σ i p → w.F p = none ∧ w.T p = none ∧ p ∉ w.A
  ownN : ∀ i j p, OwnAt ρ σ i p → OwnAt ρ σ j p → i = j
  lT : ∀ i p, w.L i = some p → ∃ o, w.T p = some o
/-- an address that belongs to nobody -/
structure Free (w : Wd) (ρ : SS) (σ : L2.St) (p : Addr) : Prop where
  F : w.F p = none
  T : w.T p = none
  A : p ∉ w.A
  own : ∀ i, ¬ OwnAt ρ σ i p
def RR (G : Gx) (w : Wd) (ρ : SS) (σ : L2.St) (H : Hp) (r : RV) (v : V) : Prop := match r with
  | .v d => Rep G w.F w.A v d
  | .nl xs => ∃ p vs, v = .ref p ∧ H p = some (.lst vs) ∧ RepL G w.F w.A vs xs ∧ Free w ρ σ p
  | .bw i => σ[i]? = some (some v)

section
variable {G : Gx} {w w' : Wd} {ρ : SS} {σ : L2.St} {H H' : Hp} {p : Addr} {o : HO}
theorem mem_A {A : List Addr} {p : Addr} (h : p ∈ A) : ∃ n : Nat, A[n]? = some p := List.getElem?_of_mem h
theorem Wok.inA {st : List MO} (R : Wok G w st H) (h : p ∈ w.A) : ∃ o, H p = some o := by
  obtain ⟨n, e⟩ := mem_A h
  obtain ⟨_, _, mo, _, m⟩ := R.stR n p e
  cases mo with
  | l xs => obtain ⟨vs, e, _⟩ := m; exact ⟨_, e⟩
  | i c ns ds => obtain ⟨C, dx, fl, _, e, _⟩ := m; exact ⟨_, e⟩
theorem Rel.inOwn {i : Nat} (R : Rel G w ρ σ H) (h : OwnAt ρ σ i p) : ∃ o, H p = some o := by
  obtain ⟨e, x, ex, ho⟩ := h
  have s := R.sl i x ex
  cases x with
  | un => simp [isOwn] at ho
  | v d => simp [isOwn] at ho
  | ol xs => obtain ⟨q, vs, e1, e2, _⟩ := s; rw [e] at e1; cases e1; exact ⟨_, e2⟩
  | lk xs => simp [isOwn] at ho
  | oi c ns ds => obtain ⟨q, C, dx, fl, e1, _, e2, _⟩ := s; rw [e] at e1; cases e1; exact ⟨_, e2⟩
theorem none_of {a : Option HO} (h : ∀ o, ¬ a = some o) : a = none := by
  cases a with
  | none => rfl
  | some o => exact absurd rfl (h o)
/-- a new address belongs to nobody -/
theorem Rel.fresh (R : Rel G w ρ σ H) (h : H p = none) : Free w ρ σ p where
  F := none_of fun o e => by rw [R.subF _ _ e] at h; cases h
  T := none_of fun o e => by rw [R.subT _ _ e] at h; cases h
  A := fun m => by obtain ⟨o, e⟩ := R.inA m; rw [e] at h; cases h
  own := fun i m => by obtain ⟨o, e⟩ := R.inOwn m; rw [e] at h; cases h
theorem MRep.mono {mo : MO} {a : Option HO} (h : Same w.F w'.F) (k : Ax w.A w'.A) (m : MRep G w mo a) : MRep G w' mo a := by
  cases mo with
  | l xs => obtain ⟨vs, e, r⟩ := m; exact ⟨vs, e, r.mono h k⟩
  | i c ns ds => obtain ⟨C, dx, fl, c, e, n, r⟩ := m; exact ⟨C, dx, fl, c, e, n, r.mono h k⟩
theorem SlR.mono {i : Nat} {x : Sl} {a : Option (Option V)} (h : Same w.F w'.F) (k : Ax w.A w'.A) (hL : w'.L i = w.L i) (hM : w'.M = w.M) (hT : ∀ p o, w.L i = some p → w.T p = some o → w'.T p = some o) (m : SlR G w H i x a) : SlR G w' H i x a := by
  cases x with
  | un => trivial
  | v d => obtain ⟨v, e, r⟩ := m; exact ⟨v, e, r.mono h k⟩
  | ol xs => obtain ⟨p, vs, e1, e2, r⟩ := m; exact ⟨p, vs, e1, e2, r.mono h k⟩
  | lk xs => obtain ⟨p, vs, e1, e3, e2, r⟩ := m; exact ⟨p, vs, e1, by rw [hL]; exact e3, hT p _ e3 e2, r.mono h k⟩
  | oi c ns ds => obtain ⟨p, C, dx, fl, e1, c, e2, n, r⟩ := m; exact ⟨p, C, dx, fl, e1, c, e2, n, r.1.mono h k, hM.trans r.2⟩
theorem SlR.ext {i : Nat} {x : Sl} {a : Option (Option V)} (e : Ext w w') (m : SlR G w H i x a) : SlR G w' H i x a := m.mono e.F e.A (by rw [e.L]) e.M fun p o _ h => by rw [e.T]; exact h
theorem SlR.heap {i : Nat} {x : Sl} {a : Option (Option V)} (k : ∀ p, a = some (some (.ref p)) → isOwn x = true → H' p = H p) (m : SlR G w H i x a) : SlR G w H' i x a := by
  cases x with
  | un => trivial
  | v d => exact m
  | ol xs => obtain ⟨p, vs, e1, e2, r⟩ := m; exact ⟨p, vs, e1, (k p e1 rfl).trans e2, r⟩
  | lk xs => exact m
  | oi c ns ds => obtain ⟨p, C, dx, fl, e1, c, e2, n, r⟩ := m; exact ⟨p, C, dx, fl, e1, c, (k p e1 rfl).trans e2, n, r⟩
/-- what belongs to nobody may change -/
theorem Wok.outW {st : List MO} (R : Wok G w st H) (f1 : w.F p = none) (f2 : w.T p = none) (f3 : p ∉ w.A) : Wok G w st (upd H p o) where
  subF := fun a u e => by rw [upd_ne (ne_of_none e f1)]; exact R.subF _ _ e
  subT := fun a u e => by rw [upd_ne (ne_of_none e f2)]; exact R.subT _ _ e
  dis := R.dis
  stL := R.stL
  stR := fun n a e => by
    obtain ⟨h1, h2, h3⟩ := R.stR n a e
    have : a ≠ p := fun q => f3 (by rw [← q]; exact List.mem_of_getElem? e)
    rw [upd_ne this]; exact ⟨h1, h2, h3⟩
  stN := R.stN
theorem Rel.out (R : Rel G w ρ σ H) (f : Free w ρ σ p) : Rel G w ρ σ (upd H p o) where
  toWok := R.toWok.outW f.F f.T f.A
  len := R.len
  sl := fun i x e => (R.sl i x e).heap fun q eq ho => upd_ne fun z => f.own i ⟨by rw [← z]; exact eq, x, e, ho⟩
  own := R.own
  ownN := R.ownN
  lT := R.lT
theorem Rel.new (R : Rel G w ρ σ H) (h : H p = none) : Rel G w ρ σ (upd H p o) := R.out (R.fresh h)
/-- it stays as it is, for ever -/
def Wd.frz (w : Wd) (p : Addr) (o : HO) : Wd := { w with F := upd w.F p o }
theorem Wd.frz_ext (h : w.F p = none) : Ext w (w.frz p o) := ⟨fun a u e => by
  show upd w.F p o a = some u
  rw [upd_ne (ne_of_none e h)]; exact e, Ax.refl _, rfl, rfl, rfl⟩
theorem Wok.freeze {st : List MO} (R : Wok G w st H) (f1 : w.F p = none) (f2 : w.T p = none) (f3 : p ∉ w.A) (h : H p = some o) : Wok G (w.frz p o) st H where
  subF := fun a u e => by
    by_cases q : a = p
    · subst q
      have e' : upd w.F a o a = some u := e
      rw [upd_same] at e'; cases e'; exact h
    · have e' : upd w.F p o a = some u := e
      rw [upd_ne q] at e'; exact R.subF _ _ e'
  subT := R.subT
  dis := fun a => by
    by_cases q : a = p
    · subst q; exact .inr f2
    · rcases R.dis a with z | z
      · left; show upd w.F p o a = none; rw [upd_ne q]; exact z
      · exact .inr z
  stL := R.stL
  stR := fun n a e => by
    obtain ⟨h1, h2, mo, h3, h4⟩ := R.stR n a e
    have : a ≠ p := fun q => f3 (by rw [← q]; exact List.mem_of_getElem? e)
    refine ⟨?_, h2, mo, h3, h4.mono (Wd.frz_ext f1).F (Ax.refl _)⟩
    show upd w.F p o a = none
    rw [upd_ne this]; exact h1
  stN := R.stN
theorem Rel.freeze (R : Rel G w ρ σ H) (f : Free w ρ σ p) (h : H p = some o) : Rel G (w.frz p o) ρ σ H where
  toWok := R.toWok.freeze f.F f.T f.A h
  len := R.len
  sl := fun i x e => (R.sl i x e).ext (Wd.frz_ext f.F)
  own := fun i q e => by
    obtain ⟨h1, h2, h3⟩ := R.own i q e
    have : q ≠ p := fun z => f.own i (by rw [← z]; exact e)
    refine ⟨?_, h2, h3⟩
    show upd w.F p o q = none
    rw [upd_ne this]; exact h1
  ownN := R.ownN
  lT := R.lT
/-- it is put beside, and taken back -/
def Wd.pin (w : Wd) (p : Addr) (o : HO) : Wd := { w with T := upd w.T p o }
theorem Rel.pinned (R : Rel G w ρ σ H) (f : Free w ρ σ p) (h : H p = some o) : Rel G (w.pin p o) ρ σ H where
  subF := R.subF
  subT := fun a u e => by
    by_cases q : a = p
    · subst q
      have e' : upd w.T a o a = some u := e
      rw [upd_same] at e'; cases e'; exact h
    · have e' : upd w.T p o a = some u := e
      rw [upd_ne q] at e'; exact R.subT _ _ e'
  dis := fun a => by
    by_cases q : a = p
    · subst q; exact .inl f.F
    · rcases R.dis a with z | z
      · exact .inl z
      · right; show upd w.T p o a = none; rw [upd_ne q]; exact z
  stL := R.stL
  stR := fun n a e => by
    obtain ⟨h1, h2, mo, h3, h4⟩ := R.stR n a e
    have : a ≠ p := fun q => f.A (by rw [← q]; exact List.mem_of_getElem? e)
    refine ⟨h1, ?_, mo, h3, ?_⟩
    · show upd w.T p o a = none
      rw [upd_ne this]; exact h2
    · exact h4.mono (w := w) (w' := w.pin p o) (Same.refl _) (Ax.refl _)
  stN := R.stN
  len := R.len
  sl := fun i x e => (R.sl i x e).mono (w := w) (w' := w.pin p o) (Same.refl _) (Ax.refl _) rfl rfl fun q u _ h => by
    show upd w.T p o q = some u
    rw [upd_ne (ne_of_none h f.T)]; exact h
  own := fun i q e => by
    obtain ⟨h1, h2, h3⟩ := R.own i q e
    have : q ≠ p := fun z => f.own i (by rw [← z]; exact e)
    refine ⟨h1, ?_, h3⟩
    show upd w.T p o q = none
    rw [upd_ne this]; exact h2
  ownN := R.ownN
  lT := fun i q e => by
    obtain ⟨u, e⟩ := R.lT i q e
    refine ⟨u, ?_⟩
    show upd w.T p o q = some u
    rw [upd_ne (ne_of_none e f.T)]; exact e
/-- back to the lesser rest T -/
def Wd.unp (w : Wd) (v : Wd) : Wd := { w with T := v.T, L := v.L, M := v.M }
theorem Rel.less {v : Wd} (R : Rel G w ρ σ H) (h : Same v.T w.T) (hL : v.L = w.L) (hM : v.M = w.M) (hl : ∀ i p, v.L i = some p → ∃ o, v.T p = some o) : Rel G (w.unp v) ρ σ H where
  subF := R.subF
  subT := h.trans R.subT
  dis := fun a => by
    rcases R.dis a with z | z
    · exact .inl z
    · right; exact none_of fun o e => by rw [h _ _ e] at z; cases z
  stL := R.stL
  stR := fun n a e => by
    obtain ⟨h1, h2, mo, h3, h4⟩ := R.stR n a e
    exact ⟨h1, none_of fun o e => (by rw [h _ _ e] at h2; cases h2), mo, h3, h4.mono (w := w) (w' := w.unp v) (Same.refl _) (Ax.refl _)⟩
  stN := R.stN
  len := R.len
  sl := fun i x e => (R.sl i x e).mono (w := w) (w' := w.unp v) (Same.refl _) (Ax.refl _) (by show v.L i = w.L i; rw [hL]) hM fun q u e1 e2 => by
    obtain ⟨u', e3⟩ := hl i q (by rw [hL]; exact e1)
    have e4 := h _ _ e3
    rw [e2] at e4; cases e4; exact e3
  own := fun i q e => by
    obtain ⟨h1, h2, h3⟩ := R.own i q e
    exact ⟨h1, none_of fun o e => (by rw [h _ _ e] at h2; cases h2), h3⟩
  ownN := R.ownN
  lT := hl
/-- what stands in the rest is free of the rest that lacks it -/
theorem Rel.freeT {v : Wd} (R : Rel G w ρ σ H) (h : w.T p = some o) (n : v.T p = none) : Free (w.unp v) ρ σ p where
  F := by
    rcases R.dis p with z | z
    · exact z
    · rw [h] at z; cases z
  T := n
  A := fun m => by
    obtain ⟨k, e⟩ := mem_A m
    have := (R.stR k p e).2.1
    rw [h] at this; cases this
  own := fun i m => by
    have := (R.own i p m).2.1
    rw [h] at this; cases this
end
end Mq

/-! MqGo: readings of meanings. -/
namespace Mq
open PySem L2

/-- an exception of the class number c with its fields -/
def XR (G : Gx) (w : Wd) (cls : Value) (d : Option Addr) (c : Nat) (fs : List Dt) : Prop :=
  ∃ C ns, G.exc c = some (C, ns) ∧ cls = .ref C ∧ ((ns = [] ∧ fs = []) ∨ ∃ dx fl, d = some dx ∧ w.F dx = some (.xd fl) ∧ fl.map (·.1) = ns ∧ RepL G w.F w.A (fl.map (·.2)) fs)
/-- from the world w on: what holds behind an outcome -/
def Go (G : Gx) (W : WX) (w : Wd) (σ : L2.St) {a : Type} (o : Out SS a) (k : a → SS → Wd → Hp → Prop) : Prop := match o with
  | .ok r ρ' => ∀ (H' : Hp) (w' : Wd), Ext w w' → Rel G w' ρ' σ H' → k r ρ' w' H'
  | .ex c fs ρ' => ∀ (cls : Value) (d : Option Addr) (H' : Hp) (w' : Wd), Ext w w' → Rel G w' ρ' σ H' → XR G w' cls d c fs → W cls d σ H'
  | .no => False
section
variable {G : Gx} {W : WX} {w w1 : Wd} {ρ : SS} {σ : L2.St} {H : Hp} {a b : Type}
theorem Go.bind {x : Out SS a} {f : a → SS → Out SS b} {k : b → SS → Wd → Hp → Prop} (h : Go G W w σ (x.bind f) k) :
    Go G W w σ x fun r ρ1 w1 _ => Go G W w1 σ (f r ρ1) k := by
  cases x with
  | no => exact h
  | ex c fs ρ' => exact h
  | ok r ρ1 =>
    intro H1 w1 e1 R1
    have h' : Go G W w σ (f r ρ1) k := h
    show Go G W w1 σ (f r ρ1) k
    cases q : f r ρ1 with
    | no => rw [q] at h'; exact h'
    | ex c fs ρ' => rw [q] at h'; exact fun cls d H' w' e R x => h' cls d H' w' (e1.trans e) R x
    | ok r2 ρ2 => rw [q] at h'; exact fun H' w' e R => h' H' w' (e1.trans e) R
theorem Go.mono {x : Out SS a} {k k' : a → SS → Wd → Hp → Prop} (h : Go G W w σ x k) (hk : ∀ r ρ' w' H', x = .ok r ρ' → Ext w w' → Rel G w' ρ' σ H' → k r ρ' w' H' → k' r ρ' w' H') : Go G W w σ x k' := by
  cases x with
  | no => exact h
  | ex c fs ρ' => exact h
  | ok r ρ' => exact fun H' w' e R => hk _ _ _ _ rfl e R (h H' w' e R)
theorem Go.here {r : a} {k : a → SS → Wd → Hp → Prop} (h : Go G W w σ (.ok r ρ) k) (R : Rel G w ρ σ H) : k r ρ w H := h H w (Ext.refl _) R
theorem Go.at {r : a} {k : a → SS → Wd → Hp → Prop} (h : Go G W w σ (.ok r ρ) k) (e : Ext w w1) (R : Rel G w1 ρ σ H) : k r ρ w1 H := h H w1 e R

/-- an expression's reading -/
def tE (G : Gx) (W : WX) (m : SS → Out SS RV) : TE := fun σ H Q => ∃ w ρ, Rel G w ρ σ H ∧ Go G W w σ (m ρ) fun r ρ' w' H' => ∀ v, RR G w' ρ' σ H' r v → Q v H'
/-- a test's -/
def tT (G : Gx) (W : WX) (m : SS → Out SS Bool) : TT := fun σ H Q => ∃ w ρ, Rel G w ρ σ H ∧ Go G W w σ (m ρ) fun r _ _ H' => Q r H'
/-- an argument list's: data -/
def tA (G : Gx) (W : WX) (m : SS → Out SS (List Dt)) : TA := fun σ H Q => ∃ w ρ, Rel G w ρ σ H ∧ Go G W w σ (m ρ) fun ds _ w' H' => ∀ vs, RepL G w'.F w'.A vs ds → Q vs H'
theorem _root_.L2.PE.imp {X : Cx} {e : Expr} {t t' : TE} (h : PE X e t) (hi : ∀ σ H Q, t' σ H Q → t σ H Q) : PE X e t' :=
  ⟨fun pins s σ H Q I q => h.run pins s σ H Q I (hi _ _ _ q)⟩
theorem _root_.L2.PT.imp {X : Cx} {e : Expr} {t t' : TT} (h : PT X e t) (hi : ∀ σ H Q, t' σ H Q → t σ H Q) : PT X e t' :=
  ⟨fun pins s σ H Q I q => h.run pins s σ H Q I (hi _ _ _ q)⟩
theorem _root_.L2.PW.imp {X : Cx} {e : Expr} {t t' : TT} (h : PW X e t) (hi : ∀ σ H Q, t' σ H Q → t σ H Q) : PW X e t' :=
  ⟨fun wh pins s σ H Q I q => h.run wh pins s σ H Q I (hi _ _ _ q)⟩
theorem _root_.L2.PA.imp {X : Cx} {e : List Expr} {t t' : TA} (h : PA X e t) (hi : ∀ σ H Q, t' σ H Q → t σ H Q) : PA X e t' :=
  ⟨fun p pins s σ H Q I q => h.run p pins s σ H Q I (hi _ _ _ q)⟩
theorem _root_.L2.PS.imp {X : Cx} {e : Stmt} {t t' : TS} (h : PS X e t) (hi : ∀ D σ H, t' D σ H → t D σ H) : PS X e t' :=
  ⟨fun pins s σ H D I q => h.run pins s σ H D I (hi _ _ _ q)⟩
theorem _root_.L2.PSs.imp {X : Cx} {e : List Stmt} {t t' : TS} (h : PSs X e t) (hi : ∀ D σ H, t' D σ H → t D σ H) : PSs X e t' :=
  ⟨fun pins s σ H D I q => h.run pins s σ H D I (hi _ _ _ q)⟩

/-! ### the lists that stand for values -/
theorem RR.ext {w' : Wd} {r : RV} {v : V} {H' : Hp} {ρ' : SS} (h : RR G w ρ σ H r v) (e : Ext w w') (hn : ∀ xs, r ≠ .nl xs) : RR G w' ρ' σ H' r v := by
  cases r with
  | v d => exact Rep.mono e.F e.A h
  | nl xs => exact absurd rfl (hn xs)
  | bw i => exact h
/-- a list that is tracked -/
theorem rdt_ok {r : RV} {v : V} {xs : List Dt} (R : Rel G w ρ σ H) (h : RR G w ρ σ H r v) (e : rdt ρ r = some xs) : ∃ p vs, v = .ref p ∧ H p = some (.lst vs) ∧ RepL G w.F w.A vs xs := by
  cases r with
  | nl ys => simp [rdt] at e; subst e; obtain ⟨p, vs, e1, e2, r, _⟩ := h; exact ⟨p, vs, e1, e2, r⟩
  | v d =>
    cases d <;> simp [rdt] at e
    · subst e; obtain ⟨a, vs, e1, e2, r⟩ := Rep.inv_lst h; exact ⟨a, vs, e1, R.subF _ _ e2, r⟩
    · rename_i n
      obtain ⟨a, e1, e2⟩ := Rep.inv_ref h
      obtain ⟨_, _, mo, e3, m⟩ := R.stR n a e2
      rw [e3] at e
      cases mo with
      | l ys => simp at e; subst e; obtain ⟨vs, e4, r⟩ := m; exact ⟨a, vs, e1, e4, r⟩
      | i c ns ds => simp at e
  | bw i =>
    have hv : σ[i]? = some (some v) := h
    simp only [rdt] at e
    cases q : ρ.sl[i]? with
    | none => rw [q] at e; simp at e
    | some x =>
      rw [q] at e
      have s := R.sl i x q
      cases x with
      | un => simp at e
      | oi c ns ds => simp at e
      | ol ys => simp at e; subst e; obtain ⟨p, vs, e1, e2, r⟩ := s; rw [hv] at e1; cases e1; exact ⟨p, vs, rfl, e2, r⟩
      | lk ys => simp at e; subst e; obtain ⟨p, vs, e1, _, e2, r⟩ := s; rw [hv] at e1; cases e1; exact ⟨p, vs, rfl, R.subT _ _ e2, r⟩
      | v d =>
        cases d <;> simp at e
        subst e
        obtain ⟨v', e1, r⟩ := s
        rw [hv] at e1; cases e1
        obtain ⟨a, vs, e1, e2, r⟩ := Rep.inv_lst r
        exact ⟨a, vs, e1, R.subF _ _ e2, r⟩
theorem rdl_ok {r : RV} {v : V} {xs : List Dt} (R : Rel G w ρ σ H) (h : RR G w ρ σ H r v) (e : rdl ρ r = some xs) : ∃ p vs, v = .ref p ∧ SqL G.K H p vs ∧ RepL G w.F w.A vs xs := by
  have old : rdt ρ r = some xs → ∃ p vs, v = .ref p ∧ SqL G.K H p vs ∧ RepL G w.F w.A vs xs := fun e => by
    obtain ⟨p, vs, e1, e2, r⟩ := rdt_ok R h e; exact ⟨p, vs, e1, SqL.of e2, r⟩
  cases r with
  | nl ys => exact old e
  | bw i => exact old e
  | v d =>
    cases d with
    | rol ys => simp [rdl] at e; subst e; obtain ⟨a, vs, e1, e2, r⟩ := Rep.inv_rol h; exact ⟨a, vs, e1, sql_mono R.subF e2, r⟩
    | _ => exact old e
theorem rds_ok {r : RV} {v : V} {xs : List Dt} (R : Rel G w ρ σ H) (h : RR G w ρ σ H r v) (e : rds ρ r = some xs) : ∃ p vs, v = .ref p ∧ (SqL G.K H p vs ∨ SqT G.K H p vs) ∧ RepL G w.F w.A vs xs := by
  have old : rdl ρ r = some xs → ∃ p vs, v = .ref p ∧ (SqL G.K H p vs ∨ SqT G.K H p vs) ∧ RepL G w.F w.A vs xs := fun e => by
    obtain ⟨p, vs, e1, e2, r⟩ := rdl_ok R h e; exact ⟨p, vs, e1, .inl e2, r⟩
  cases r with
  | nl ys => exact old e
  | bw i => exact old e
  | v d =>
    cases d with
    | tup ys => simp [rds] at e; subst e; obtain ⟨a, vs, e1, e2, r⟩ := Rep.inv_tup h; exact ⟨a, vs, e1, .inr (sqt_mono R.subF e2), r⟩
    | _ => exact old e
/-- a value is made a datum -/
theorem val_ok {r : RV} {v : V} {k : Dt → SS → Wd → Hp → Prop} (R : Rel G w ρ σ H) (h : RR G w ρ σ H r v) (g : Go G W w σ (val r ρ) k) :
    ∃ d ρ' w', val r ρ = .ok d ρ' ∧ Ext w w' ∧ Rel G w' ρ' σ H ∧ Rep G w'.F w'.A v d ∧ k d ρ' w' H := by
  have own : ∀ (i : Nat) (xs : List Dt) (x : Sl), r = .bw i → ρ.sl[i]? = some x → x = .ol xs → val r ρ = .ok (.lst xs) (ρ.set i (.v (.lst xs))) →
      ∃ d ρ' w', val r ρ = .ok d ρ' ∧ Ext w w' ∧ Rel G w' ρ' σ H ∧ Rep G w'.F w'.A v d ∧ k d ρ' w' H := by
    intro i xs x er ex ho ev
    subst er
    have hv : σ[i]? = some (some v) := h
    obtain ⟨p, vs, e1, e2, r⟩ : ∃ p vs, v = .ref p ∧ H p = some (.lst vs) ∧ RepL G w.F w.A vs xs := rdt_ok R h (by
      simp only [rdt, ex]
      subst ho; rfl)
    subst e1
    have oa : OwnAt ρ σ i p := ⟨hv, x, ex, by subst ho; rfl⟩
    obtain ⟨f1, f2, f3⟩ := R.own i p oa
    have hi : i < ρ.sl.length := (List.getElem?_eq_some_iff.mp ex).1
    have rep : Rep G (w.frz p (.lst vs)).F (w.frz p (.lst vs)).A (.ref p) (.lst xs) := .lst (by show upd w.F p _ p = _; exact upd_same) (r.mono (Wd.frz_ext f1).F (Ax.refl _))
    have ot : ∀ (j : Nat) (x' : Sl), (ρ.set i (.v (.lst xs))).sl[j]? = some x' → (j = i ∧ x' = .v (.lst xs)) ∨ (j ≠ i ∧ ρ.sl[j]? = some x') := fun j x' e => by
      have e : (ρ.sl.set i (.v (.lst xs)))[j]? = some x' := e
      by_cases q : j = i
      · subst q; rw [List.getElem?_set_self hi] at e; cases e; exact .inl ⟨rfl, rfl⟩
      · rw [List.getElem?_set_ne (Ne.symm q)] at e; exact .inr ⟨q, e⟩
    have oo : ∀ j q, OwnAt (ρ.set i (.v (.lst xs))) σ j q → j ≠ i ∧ OwnAt ρ σ j q := fun j q ⟨e, x', ex', ho'⟩ => by
      rcases ot j x' ex' with ⟨_, z⟩ | ⟨z, ez⟩
      · subst z; simp [isOwn] at ho'
      · exact ⟨z, e, x', ez, ho'⟩
    have R' : Rel G (w.frz p (.lst vs)) (ρ.set i (.v (.lst xs))) σ H := {
      toWok := R.toWok.freeze f1 f2 f3 e2
      len := by show (ρ.sl.set i _).length = _; rw [List.length_set]; exact R.len
      sl := fun j x' e => by
        rcases ot j x' e with ⟨z, z'⟩ | ⟨z, ez⟩
        · subst z; subst z'; exact ⟨_, hv, rep⟩
        · exact (R.sl j x' ez).ext (Wd.frz_ext f1)
      own := fun j q e => by
        obtain ⟨z, e'⟩ := oo j q e
        obtain ⟨g1, g2, g3⟩ := R.own j q e'
        have : q ≠ p := fun y => z (R.ownN j i p (y ▸ e') oa)
        refine ⟨?_, g2, g3⟩
        show upd w.F p _ q = none
        rw [upd_ne this]; exact g1
      ownN := fun j j' q e e' => R.ownN j j' q (oo j q e).2 (oo j' q e').2
      lT := R.lT }
    refine ⟨.lst xs, _, w.frz p (.lst vs), ev, Wd.frz_ext f1, R', rep, ?_⟩
    rw [ev] at g
    exact g.at (Wd.frz_ext f1) R'
  cases r with
  | v d => exact ⟨d, ρ, w, rfl, Ext.refl _, R, h, g.here R⟩
  | nl xs =>
    obtain ⟨p, vs, e1, e2, r, f⟩ := h
    subst e1
    have rep : Rep G (w.frz p (.lst vs)).F (w.frz p (.lst vs)).A (.ref p) (.lst xs) := .lst (by show upd w.F p _ p = _; exact upd_same) (r.mono (Wd.frz_ext f.F).F (Ax.refl _))
    exact ⟨.lst xs, ρ, w.frz p (.lst vs), rfl, Wd.frz_ext f.F, R.freeze f e2, rep, g.at (Wd.frz_ext f.F) (R.freeze f e2)⟩
  | bw i =>
    cases q : ρ.sl[i]? with
    | none => simp [val, q, Go] at g
    | some x =>
      cases x with
      | un => simp [val, q, Go] at g
      | oi c ns ds => simp [val, q, Go] at g
      | ol xs => exact own i xs _ rfl q rfl (by simp [val, q])
      | lk xs => simp [val, q, Go] at g
      | v d =>
        cases d with
        | lst xs =>
          have ev : val (.bw i) ρ = .ok (.lst xs) ρ := by simp [val, q]
          have hv : σ[i]? = some (some v) := h
          obtain ⟨v', e1, r⟩ := R.sl i _ q
          rw [hv] at e1; cases e1
          rw [ev] at g
          exact ⟨.lst xs, ρ, w, ev, Ext.refl _, R, r, g.here R⟩
        | _ => simp [val, q, Go] at g
/-! ### a value kept while another one is reckoned -/
theorem pend {r : RV} {v : V} {o : Out SS a} {k : a → SS → Wd → Hp → Prop} (R : Rel G w ρ σ H) (h : RR G w ρ σ H r v) (g : Go G W w σ o k) :
    ∃ w1, Rel G w1 ρ σ H ∧ w1.F = w.F ∧ w1.A = w.A ∧ Go G W w1 σ o fun r2 ρ2 w2 H2 => ∃ w3, Ext w w3 ∧ Rel G w3 ρ2 σ H2 ∧ RR G w3 ρ2 σ H2 r v ∧ w3.F = w2.F ∧ w3.A = w2.A ∧ (∀ r' v', RR G w2 ρ2 σ H2 r' v' → RR G w3 ρ2 σ H2 r' v') ∧ k r2 ρ2 w3 H2 := by
  have easy : (∀ xs, r ≠ .nl xs) → ∃ w1, Rel G w1 ρ σ H ∧ w1.F = w.F ∧ w1.A = w.A ∧ Go G W w1 σ o fun r2 ρ2 w2 H2 => ∃ w3, Ext w w3 ∧ Rel G w3 ρ2 σ H2 ∧ RR G w3 ρ2 σ H2 r v ∧ w3.F = w2.F ∧ w3.A = w2.A ∧ (∀ r' v', RR G w2 ρ2 σ H2 r' v' → RR G w3 ρ2 σ H2 r' v') ∧ k r2 ρ2 w3 H2 :=
    fun hn => ⟨w, R, rfl, rfl, g.mono fun r2 ρ2 w2 H2 _ e R2 q => ⟨w2, e, R2, h.ext e hn, rfl, rfl, fun _ _ z => z, q⟩⟩
  cases r with
  | v d => exact easy fun _ z => nomatch z
  | bw i => exact easy fun _ z => nomatch z
  | nl xs =>
    obtain ⟨p, vs, e1, e2, rl, f⟩ := h
    subst e1
    have back : ∀ {ρ2 : SS} {w2 : Wd} {H2 : Hp}, Ext (w.pin p (.lst vs)) w2 → Rel G w2 ρ2 σ H2 → Ext w (w2.unp w) ∧ Rel G (w2.unp w) ρ2 σ H2 ∧ H2 p = some (.lst vs) ∧ Free (w2.unp w) ρ2 σ p := fun {ρ2 w2 H2} e R2 => by
      have eT : w2.T = upd w.T p (.lst vs) := e.T
      have s : Same w.T w2.T := fun b u q => by rw [eT, upd_ne (ne_of_none q f.T)]; exact q
      have hp : w2.T p = some (.lst vs) := by rw [eT]; exact upd_same
      exact ⟨⟨e.F, e.A, rfl, rfl, rfl⟩, R2.less s e.L.symm e.M.symm R.lT, R2.subT _ _ hp, R2.freeT hp f.T⟩
    refine ⟨w.pin p (.lst vs), R.pinned f e2, rfl, rfl, ?_⟩
    cases o with
    | no => exact g
    | ex c fs ρ' => exact fun cls d H' w' e R2 x => let ⟨e', R', _, _⟩ := back e R2; g cls d H' _ e' R' x
    | ok r2 ρ2 =>
      intro H2 w2 e R2
      obtain ⟨e', R', hp, f'⟩ := back e R2
      refine ⟨_, e', R', ⟨p, vs, rfl, hp, rl.mono e.F e.A, f'⟩, rfl, rfl, fun r' v' z => ?_, g H2 _ e' R'⟩
      cases r' with
      | v d => exact z
      | bw i => exact z
      | nl ys =>
        obtain ⟨q, us, z1, z2, z3, z4⟩ := z
        exact ⟨q, us, z1, z2, z3, ⟨z4.F, none_of fun u hu => (by
          have s : Same w.T w2.T := fun b u q => by rw [show w2.T = upd w.T p (.lst vs) from e.T, upd_ne (ne_of_none q f.T)]; exact q
          have := z4.T
          rw [s _ _ hu] at this; cases this), z4.A, z4.own⟩⟩
end
end Mq

/-! MqOp: operators by values. -/
namespace Mq
open PySem L2
section
variable {G : Gx} {W : WX} {w w1 : Wd} {ρ : SS} {σ : L2.St} {H : Hp}
theorem RepL.nil_iff {F : Hp} {A : List Addr} {vs : List V} {ds : List Dt} (r : RepL G F A vs ds) : vs = [] ↔ ds = [] := by
  cases r <;> simp
theorem Rel.newF {p : Addr} {o : HO} (R : Rel G w ρ σ H) (h : H p = none) : Ext w (w.frz p o) ∧ Rel G (w.frz p o) ρ σ (upd H p o) ∧ (w.frz p o).F p = some o :=
  ⟨Wd.frz_ext (R.fresh h).F, (R.new h).freeze (R.fresh h) upd_same, by show upd w.F p o p = _; exact upd_same⟩
/-- a new list -/
theorem fin_nl {xs : List Dt} {vs : List V} {p : Addr} {Q : VK} (R : Rel G w ρ σ H) (rl : RepL G w.F w.A vs xs) (h : H p = none) (q : ∀ v H' w', Ext w w' → Rel G w' ρ σ H' → RR G w' ρ σ H' (.nl xs) v → Q v H') : Q (.ref p) (upd H p (.lst vs)) :=
  q _ _ w (Ext.refl _) (R.new h) ⟨p, vs, rfl, upd_same, rl, R.fresh h⟩
/-- a new tuple -/
theorem fin_tup {xs : List Dt} {vs : List V} {p : Addr} {Q : VK} (R : Rel G w ρ σ H) (rl : RepL G w.F w.A vs xs) (h : H p = none) (q : ∀ v H' w', Ext w w' → Rel G w' ρ σ H' → RR G w' ρ σ H' (.v (.tup xs)) v → Q v H') : Q (.ref p) (upd H p (.tup vs)) := by
  obtain ⟨e, R', eF⟩ := R.newF (o := .tup vs) h
  exact q _ _ _ e R' (.tup (SqT.of eF) (rl.mono e.F e.A))
theorem fin_d {d : Dt} {v : V} {Q : VK} (R : Rel G w ρ σ H) (r : Rep G w.F w.A v d) (q : ∀ v H' w', Ext w w' → Rel G w' ρ σ H' → RR G w' ρ σ H' (.v d) v → Q v H') : Q v H := q _ _ w (Ext.refl _) R r

def bop : Bop → Operator
  | .add => .Add | .sub => .Sub | .mul => .Mult | .fdiv => .FloorDiv | .mod => .Mod | .pow => .Pow | .shl => .LShift | .shr => .RShift | .band => .BitAnd | .bor => .BitOr | .bxor => .BitXor
def rBin (K : PySem.W.Frag) : Bop → R2
  | .add => fun x y H Q => rI0 (fun i j => .int (i + j)) x y H Q ∨ (∃ i j, x = .str i ∧ y = .str j ∧ i.length + j.length ≤ sizeLine ∧ Q (.str (i ++ j)) H) ∨ rCatA K x y H Q ∨ rCat x y H Q
  | .sub => rI0 fun i j => .int (i - j)
  | .mul => fun x y H Q => rI CMulW (fun i j => .int (i * j)) x y H Q ∨ rRep x y H Q ∨ rOnce K x y H Q ∨ rRepT K x y H Q
  | .fdiv => rI CDivW fun i j => .int (i / j)
  | .mod => rI (fun _ j => 0 < j) fun i j => .int (i % j)
  | .pow => rI CPow fun i j => .int (i ^ j.toNat)
  | .shl => rI CPow fun i j => .int (i * 2 ^ j.toNat)
  | .shr => rI (fun _ j => 0 ≤ j) fun i j => .int (i / 2 ^ j.toNat)
  | .band => rI0 fun i j => .int (Builtin.bitAnd i j)
  | .bor => rI0 fun i j => .int (Builtin.bitOr i j)
  | .bxor => rI0 fun i j => .int (Builtin.bitXor i j)
theorem op_bin {X : Cx} : ∀ op : Bop, OpR X (binaryOp (bop op)) (rBin X.K op)
  | .add => op_add.or (op_add_str.or (op_catA.or op_cat))
  | .sub => op_sub
  | .mul => op_mulW.or (op_rep.or (op_once.or op_repT))
  | .fdiv => op_fdivW
  | .mod => op_mod
  | .pow => op_pow
  | .shl => op_shl
  | .shr => op_shr
  | .band => op_and
  | .bor => op_or
  | .bxor => op_xor
theorem bin_int {op : Bop} {i j k : Int} {K : PySem.W.Frag} {Q : VK} (h : binI op i j = some k) (q : Q (.int k) H) : rBin K op (.int i) (.int j) H Q := by
  cases op
  case add => simp [binI] at h; subst h; exact .inl ⟨i, j, rfl, rfl, q⟩
  case sub => simp [binI] at h; subst h; exact ⟨i, j, rfl, rfl, q⟩
  case mul =>
    simp only [binI, Option.ite_none_right_eq_some] at h
    obtain ⟨c, h⟩ := h; cases h
    exact .inl ⟨i, j, rfl, rfl, by unfold CMulW; simpa [bitsOk] using c, q⟩
  case fdiv =>
    simp only [binI, Option.ite_none_right_eq_some] at h
    obtain ⟨c, h⟩ := h; cases h
    exact ⟨i, j, rfl, rfl, by unfold CDivW; simpa [smallDiv] using c, q⟩
  case mod =>
    simp only [binI, Option.ite_none_right_eq_some] at h
    obtain ⟨c, h⟩ := h; cases h
    exact ⟨i, j, rfl, rfl, c, q⟩
  case pow =>
    simp only [binI, Option.ite_none_right_eq_some] at h
    obtain ⟨c, h⟩ := h; cases h
    simp only [powOk, Bool.and_eq_true, decide_eq_true_eq] at c
    exact ⟨i, j, rfl, rfl, ⟨c.1.1, c.1.2, c.2⟩, q⟩
  case shl =>
    simp only [binI, Option.ite_none_right_eq_some] at h
    obtain ⟨c, h⟩ := h; cases h
    simp only [powOk, Bool.and_eq_true, decide_eq_true_eq] at c
    exact ⟨i, j, rfl, rfl, ⟨c.1.1, c.1.2, c.2⟩, q⟩
  case shr =>
    simp only [binI, Option.ite_none_right_eq_some] at h
    obtain ⟨c, h⟩ := h; cases h
    exact ⟨i, j, rfl, rfl, c, q⟩
  case band => simp [binI] at h; subst h; exact ⟨i, j, rfl, rfl, q⟩
  case bor => simp [binI] at h; subst h; exact ⟨i, j, rfl, rfl, q⟩
  case bxor => simp [binI] at h; subst h; exact ⟨i, j, rfl, rfl, q⟩
theorem bin_list {op : Bop} {x y z : RV} {vx vy : V} {K : PySem.W.Frag} {Q : VK} (R : Rel G w ρ σ H) (hx : RR G w ρ σ H x vx) (hy : RR G w ρ σ H y vy) (h : binL op x y ρ = some z)
    (q : ∀ v H' w', Ext w w' → Rel G w' ρ σ H' → RR G w' ρ σ H' z v → Q v H') : rBin K op vx vy H Q := by
  cases op
  case add =>
    simp only [binL] at h
    cases e1 : rdt ρ x with
    | none => simp [e1] at h
    | some xs =>
      cases e2 : rdt ρ y with
      | none => simp [e1, e2] at h
      | some ys =>
        simp only [e1, e2, Option.ite_none_right_eq_some] at h
        obtain ⟨c, h⟩ := h; cases h
        obtain ⟨p, vs, rfl, hp, r1⟩ := rdt_ok R hx e1
        obtain ⟨p', us, rfl, hp', r2⟩ := rdt_ok R hy e2
        exact .inr (.inr (.inr ⟨p, p', vs, us, rfl, rfl, hp, hp', by rw [r1.length, r2.length]; exact c, fun n hn => fin_nl R (r1.append r2) hn q⟩))
  case mul =>
    simp only [binL] at h
    cases e1 : rdt ρ x with
    | none => simp [e1] at h
    | some xs =>
      cases y with
      | nl _ => simp [e1] at h
      | bw _ => simp [e1] at h
      | v d =>
        cases d with
        | int k =>
          simp only [e1, Option.ite_none_right_eq_some] at h
          obtain ⟨c, h⟩ := h; cases h
          obtain ⟨p, vs, rfl, hp, r1⟩ := rdt_ok R hx e1
          obtain rfl := Rep.inv_int hy
          exact .inr (.inl ⟨p, k, vs, rfl, rfl, hp, c.1, c.2.1, by rw [r1.length]; exact c.2.2, fun n hn => fin_nl R (r1.rep _) hn q⟩)
        | _ => simp [e1] at h
  all_goals simp [binL] at h
theorem bin_step {op : Bop} {x y z : RV} {vx vy : V} {Q : VK} (R : Rel G w ρ σ H) (hx : RR G w ρ σ H x vx) (hy : RR G w ρ σ H y vy) (h : binV op x y ρ = some z)
    (q : ∀ v H' w', Ext w w' → Rel G w' ρ σ H' → RR G w' ρ σ H' z v → Q v H') : rBin G.K op vx vy H Q := by
  unfold binV at h
  split at h
  · rename_i i j
    cases e : binI op i j with
    | none => simp [e] at h
    | some k =>
      simp [e] at h; subst h
      obtain rfl := Rep.inv_int hx
      obtain rfl := Rep.inv_int hy
      exact bin_int e (fin_d R (.int k) q)
  · split at h
    · simp only [Option.ite_none_right_eq_some] at h
      obtain ⟨c, h⟩ := h; cases h
      obtain rfl := Rep.inv_str hx
      obtain rfl := Rep.inv_str hy
      exact .inr (.inl ⟨_, _, rfl, rfl, c, fin_d R (.str _) q⟩)
    · simp at h
  · split at h
    · simp only [Option.ite_none_right_eq_some] at h
      obtain ⟨c, h⟩ := h; cases h
      obtain ⟨a, vs, rfl, s1, r1⟩ := Rep.inv_tup hx
      obtain ⟨b, us, rfl, s2, r2⟩ := Rep.inv_tup hy
      refine .inr (.inr (.inl ⟨a, b, vs, us, rfl, rfl, sqt_mono R.subF s1, sqt_mono R.subF s2, by rw [r1.length, r2.length]; exact c, fun e => ?_, fun e1 e2 => ?_, fun e1 e2 n hn => fin_tup R (r1.append r2) hn q⟩))
      · have := r1.nil_iff.mp e
        subst this
        exact fin_d R hy q
      · have := r2.nil_iff.mp e2
        subst this
        rw [List.append_nil] at q
        exact fin_d R hx q
    · simp at h
  · split at h
    · obtain ⟨a, vs, rfl, s1, r1⟩ := Rep.inv_tup hx
      obtain rfl := Rep.inv_int hy
      split at h
      · rename_i e
        subst e
        cases h
        exact .inr (.inr (.inl ⟨a, vs, rfl, rfl, sqt_mono R.subF s1, fin_d R hx q⟩))
      · simp only [Option.ite_none_right_eq_some] at h
        obtain ⟨c, h⟩ := h; cases h
        exact .inr (.inr (.inr ⟨a, _, vs, rfl, rfl, sqt_mono R.subF s1, fun e => c.1 (r1.nil_iff.mp e), c.2.1, c.2.2.1, by rw [r1.length]; exact c.2.2.2, fun n hn => fin_tup R (r1.rep _) hn q⟩))
    · simp at h
  · exact bin_list R hx hy h q

/-! ### comparisons -/
mutual
def py : Dt → PyData
  | .non => .none
  | .bl b => .bool b
  | .int i => .int i
  | .str x => .str x
  | .tup xs => .tuple (pyL xs)
  | .lst xs => .list (pyL xs)
  | .rol xs => .list (pyL xs)
  | .ins _ _ _ => .dict []
  | .ref _ => .dict []
  | .dct => .dict []
def pyL : List Dt → List PyData
  | [] => []
  | x :: r => py x :: pyL r
end
mutual
theorem flat_canLay : ∀ (n : Nat) (d : Dt), flat n d = true → (py d).canLay0 = true
  | _, .non, _ => by simp [py, PyData.canLay0]
  | _, .bl _, _ => by simp [py, PyData.canLay0]
  | _, .int _, _ => by simp [py, PyData.canLay0]
  | _, .str x, h => by simp [py, PyData.canLay0]; simpa [flat] using h
  | n + 1, .tup xs, h => by simp only [py, PyData.canLay0]; exact flatL_canLay n xs (by simpa [flat] using h)
  | n + 1, .lst xs, h => by simp only [py, PyData.canLay0]; exact flatL_canLay n xs (by simpa [flat] using h)
  | n + 1, .rol xs, h => by simp only [py, PyData.canLay0]; exact flatL_canLay n xs (by simpa [flat] using h)
  | 0, .tup xs, h => by simp [flat] at h
  | 0, .lst xs, h => by simp [flat] at h
  | 0, .rol xs, h => by simp [flat] at h
  | 0, .ins _ _ _, h => by simp [flat] at h
  | 0, .ref _, h => by simp [flat] at h
  | n + 1, .ins _ _ _, h => by simp [flat] at h
  | n + 1, .ref _, h => by simp [flat] at h
  | 0, .dct, h => by simp [flat] at h
  | n + 1, .dct, h => by simp [flat] at h
theorem flatL_canLay : ∀ (n : Nat) (ds : List Dt), flatL n ds = true → PyData.canLayAll0 (pyL ds) = true
  | _, [], _ => by simp [pyL, PyData.canLayAll0]
  | n, x :: r, h => by
    simp only [flatL, Bool.and_eq_true] at h
    simp only [pyL, PyData.canLayAll0, Bool.and_eq_true]
    exact ⟨flat_canLay n x h.1, flatL_canLay n r h.2⟩
end
mutual
theorem flat_depth : ∀ (n : Nat) (d : Dt), flat n d = true → (py d).depth ≤ n
  | _, .non, _ => by simp [py, PyData.depth]
  | _, .bl _, _ => by simp [py, PyData.depth]
  | _, .int _, _ => by simp [py, PyData.depth]
  | _, .str x, h => by simp [py, PyData.depth]
  | n + 1, .tup xs, h => by simp only [py, PyData.depth]; exact Nat.succ_le_succ (flatL_depth n xs (by simpa [flat] using h))
  | n + 1, .lst xs, h => by simp only [py, PyData.depth]; exact Nat.succ_le_succ (flatL_depth n xs (by simpa [flat] using h))
  | n + 1, .rol xs, h => by simp only [py, PyData.depth]; exact Nat.succ_le_succ (flatL_depth n xs (by simpa [flat] using h))
  | 0, .tup xs, h => by simp [flat] at h
  | 0, .lst xs, h => by simp [flat] at h
  | 0, .rol xs, h => by simp [flat] at h
  | 0, .ins _ _ _, h => by simp [flat] at h
  | 0, .ref _, h => by simp [flat] at h
  | n + 1, .ins _ _ _, h => by simp [flat] at h
  | n + 1, .ref _, h => by simp [flat] at h
  | 0, .dct, h => by simp [flat] at h
  | n + 1, .dct, h => by simp [flat] at h
theorem flatL_depth : ∀ (n : Nat) (ds : List Dt), flatL n ds = true → PyData.depthAll (pyL ds) ≤ n
  | _, [], _ => by simp [pyL, PyData.depthAll]
  | n, x :: r, h => by
    simp only [flatL, Bool.and_eq_true] at h
    simp only [pyL, PyData.depthAll]
    exact Nat.max_le.mpr ⟨flat_depth n x h.1, flatL_depth n r h.2⟩
end
theorem flat_shaped {n : Nat} {d : Dt} (hn : n ≤ 64) (h : flat n d = true) : SeqAt.shaped (py d) = true := by
  unfold SeqAt.shaped
  rw [flat_canLay n d h, Bool.true_and]
  exact decide_eq_true (Nat.le_trans (flat_depth n d h) hn)
mutual
theorem eqv_py : ∀ a b : Dt, PyData.eqv (py a) (py b) = deq a b
  | .non, b => by cases b <;> simp [py, PyData.eqv, deq]
  | .bl _, b => by cases b <;> simp [py, PyData.eqv, deq]
  | .int _, b => by cases b <;> simp [py, PyData.eqv, deq]
  | .str _, b => by cases b <;> simp [py, PyData.eqv, deq]
  | .ins _ _ _, b => by cases b <;> simp [py, PyData.eqv, deq]
  | .ref _, b => by cases b <;> simp [py, PyData.eqv, deq]
  | .dct, b => by cases b <;> simp [py, PyData.eqv, deq]
  | .tup xs, b => by cases b <;> simp [py, PyData.eqv, deq, eqvL_py xs]
  | .lst xs, b => by cases b <;> simp [py, PyData.eqv, deq, eqvL_py xs]
  | .rol xs, b => by cases b <;> simp [py, PyData.eqv, deq, eqvL_py xs]
theorem eqvL_py : ∀ a b : List Dt, PyData.eqvAll (pyL a) (pyL b) = deqL a b
  | [], b => by cases b <;> simp [pyL, PyData.eqvAll, deqL]
  | x :: r, b => by cases b <;> simp [pyL, PyData.eqvAll, deqL, eqv_py x, eqvL_py r]
end
mutual
theorem dp_of {F : Hp} {A : List Addr} (s : Same F H) : ∀ {v : V} {d : Dt} {n : Nat}, Rep G F A v d → flat n d = true → Dp G.K H v (py d)
  | _, _, _, .non, _ => by simp only [py]; exact .non
  | _, _, _, .bl b, _ => by simp only [py]; exact .bl b
  | _, _, _, .int i, _ => by simp only [py]; exact .int i
  | _, _, _, .str x, _ => by simp only [py]; exact .str x
  | _, _, 0, .tup q r, h => by simp [flat] at h
  | _, _, 0, .lst q r, h => by simp [flat] at h
  | _, _, 0, .rol q r, h => by simp [flat] at h
  | _, _, n + 1, .tup q r, h => by simp only [py]; exact .tup (sqt_mono s q) (dpL_of s r (n := n) (by simpa [flat] using h))
  | _, _, n + 1, .lst q r, h => by simp only [py]; exact .lst (SqL.of (s _ _ q)) (dpL_of s r (n := n) (by simpa [flat] using h))
  | _, _, n + 1, .rol q r, h => by simp only [py]; exact .lst (sql_mono s q) (dpL_of s r (n := n) (by simpa [flat] using h))
  | _, _, n, .ins _ _ _, h => by cases n <;> simp [flat] at h
  | _, _, n, .ref _, h => by cases n <;> simp [flat] at h
  | _, _, n, .dct _, h => by cases n <;> simp [flat] at h
theorem dpL_of {F : Hp} {A : List Addr} (s : Same F H) : ∀ {vs : List V} {ds : List Dt} {n : Nat}, RepL G F A vs ds → flatL n ds = true → DpAll G.K H vs (pyL ds)
  | _, _, _, .nil, _ => by simp only [pyL]; exact .nil
  | _, _, n, .cons a r, h => by
    simp only [flatL, Bool.and_eq_true] at h
    simp only [pyL]
    exact .cons (dp_of s a h.1) (dpL_of s r h.2)
end
theorem rdD_dp {r : RV} {v : V} {d : Dt} {n : Nat} (R : Rel G w ρ σ H) (h : RR G w ρ σ H r v) (e : rdD ρ r = some d) (f : flat n d = true) : Dp G.K H v (py d) := by
  have lst : ∀ xs, rdt ρ r = some xs → d = .lst xs → Dp G.K H v (py d) := fun xs e1 e2 => by
    obtain ⟨p, vs, rfl, hp, rl⟩ := rdt_ok R h e1
    subst e2
    cases n with
    | zero => simp [flat] at f
    | succ n =>
      simp only [py]
      exact .lst (SqL.of hp) (dpL_of R.subF rl (n := n) (by simpa [flat] using f))
  cases r with
  | nl xs => simp only [rdD, Option.map_eq_some_iff] at e; obtain ⟨xs, e1, e2⟩ := e; exact lst xs e1 e2.symm
  | bw i => simp only [rdD, Option.map_eq_some_iff] at e; obtain ⟨xs, e1, e2⟩ := e; exact lst xs e1 e2.symm
  | v d' =>
    cases d' with
    | ref k => simp only [rdD, Option.map_eq_some_iff] at e; obtain ⟨xs, e1, e2⟩ := e; exact lst xs e1 e2.symm
    | _ => simp only [rdD, Option.some.injEq] at e; subst e; exact dp_of R.subF h f
theorem flat0_V {F : Hp} {A : List Addr} : ∀ {d : Dt} {v : V}, Rep G F A v d → flat 0 d = true → flatV v = true ∧ ∀ {d' : Dt} {v' : V}, Rep G F A v' d' → flat 0 d' = true → eqV v v' = deq d d'
  | _, _, .non, _ => ⟨rfl, fun r h => by cases r <;> simp [flat] at h <;> rfl⟩
  | _, _, .bl b, _ => ⟨rfl, fun r h => by cases r <;> simp [flat] at h <;> rfl⟩
  | _, _, .int b, _ => ⟨rfl, fun r h => by cases r <;> simp [flat] at h <;> rfl⟩
  | _, _, .str b, _ => ⟨rfl, fun r h => by cases r <;> simp [flat] at h <;> rfl⟩
  | _, _, .tup _ _, h => by simp [flat] at h
  | _, _, .lst _ _, h => by simp [flat] at h
  | _, _, .rol _ _, h => by simp [flat] at h
  | _, _, .ins _ _ _, h => by simp [flat] at h
  | _, _, .ref _, h => by simp [flat] at h
theorem inV_of {F : Hp} {A : List Addr} {d : Dt} {v : V} (r : Rep G F A v d) (h : flat 0 d = true) : ∀ {vs : List V} {ds : List Dt}, RepL G F A vs ds → flatL 0 ds = true → vs.all flatV = true ∧ inV v vs = ds.any fun y => deq y d
  | _, _, .nil, _ => ⟨rfl, rfl⟩
  | _, _, .cons a t, e => by
    simp only [flatL, Bool.and_eq_true] at e
    obtain ⟨h1, h2⟩ := inV_of r h t e.2
    obtain ⟨g1, g2⟩ := flat0_V a e.1
    refine ⟨by simp [g1, h1], ?_⟩
    unfold inV at h2 ⊢
    rw [List.any_cons, List.any_cons, h2, g2 r h]

def cop : Cop → CmpOp
  | .eq => .Eq | .ne => .NotEq | .lt => .Lt | .le => .LtE | .gt => .Gt | .ge => .GtE | .isin => .In | .notin => .NotIn | .isn => .Is | .notn => .IsNot
def rCmp (K : PySem.W.Frag) : Cop → R2
  | .eq => rEqD K
  | .ne => rNeD K
  | .lt => rI0 fun i j => .bl (decide (i < j))
  | .le => rI0 fun i j => .bl (decide (i ≤ j))
  | .gt => rI0 fun i j => .bl (decide (j < i))
  | .ge => rI0 fun i j => .bl (decide (j ≤ i))
  | .isin => rIn K false
  | .notin => rIn K true
  | .isn => fun x y H Q => (y = .non ∧ Q (.bl (decide (x = .non))) H) ∨ ∃ a b, x = .bl a ∧ y = .bl b ∧ Q (.bl (a == b)) H
  | .notn => fun x y H Q => (y = .non ∧ Q (.bl (!decide (x = .non))) H) ∨ ∃ a b, x = .bl a ∧ y = .bl b ∧ Q (.bl (!(a == b))) H
theorem op_isB {X : Cx} : OpR X (compareOp .Is) (fun x y H Q => ∃ a b, x = .bl a ∧ y = .bl b ∧ Q (.bl (a == b)) H) := by
  intro pins s σ H x y v u Q I rx ry h
  obtain ⟨a, b, rfl, rfl, q⟩ := h
  cases rx; cases ry
  cases a <;> cases b <;> exact wpAny_pure ⟨.bl _, H, I, rfl, q⟩
theorem op_notB {X : Cx} : OpR X (compareOp .IsNot) (fun x y H Q => ∃ a b, x = .bl a ∧ y = .bl b ∧ Q (.bl (!(a == b))) H) := by
  intro pins s σ H x y v u Q I rx ry h
  obtain ⟨a, b, rfl, rfl, q⟩ := h
  cases rx; cases ry
  cases a <;> cases b <;> exact wpAny_pure ⟨.bl _, H, I, rfl, q⟩
theorem op_cmp {X : Cx} (hu : X.A.units + 64 < cLine) : ∀ op : Cop, OpR X (compareOp (cop op)) (rCmp X.K op)
  | .eq => op_eqD hu
  | .ne => op_neD hu
  | .lt => op_lt
  | .le => op_le
  | .gt => op_gt
  | .ge => op_ge
  | .isin => op_in_seq
  | .notin => op_notIn_seq
  | .isn => op_isN.or op_isB
  | .notn => op_notN.or op_notB
def isNonD : Dt → Bool
  | .non => true
  | _ => false
theorem non_iff {F : Hp} {A : List Addr} {d : Dt} {v : V} (r : Rep G F A v d) : decide (v = .non) = isNonD d := by
  cases r <;> simp [isNonD]
theorem cmp_step {op : Cop} {x y : RV} {b : Bool} {vx vy : V} {Q : VK} (R : Rel G w ρ σ H) (hx : RR G w ρ σ H x vx) (hy : RR G w ρ σ H y vy) (h : cmpV op x y ρ = some b) (q : Q (.bl b) H) : rCmp G.K op vx vy H Q := by
  unfold cmpV at h
  split at h
  · obtain rfl := Rep.inv_int hx; obtain rfl := Rep.inv_int hy; cases h; exact ⟨_, _, rfl, rfl, q⟩
  · obtain rfl := Rep.inv_int hx; obtain rfl := Rep.inv_int hy; cases h; exact ⟨_, _, rfl, rfl, q⟩
  · obtain rfl := Rep.inv_int hx; obtain rfl := Rep.inv_int hy; cases h; exact ⟨_, _, rfl, rfl, q⟩
  · obtain rfl := Rep.inv_int hx; obtain rfl := Rep.inv_int hy; cases h; exact ⟨_, _, rfl, rfl, q⟩
  · split at h
    · rename_i e1 e2
      simp only [Option.ite_none_right_eq_some, Bool.and_eq_true] at h
      obtain ⟨⟨c1, c2⟩, h⟩ := h; cases h
      refine ⟨_, _, rdD_dp R hx e1 c1, rdD_dp R hy e2 c2, flat_shaped (by decide) c1, flat_shaped (by decide) c2, ?_⟩
      rw [eqv_py]; exact q
    · simp at h
  · split at h
    · rename_i e1 e2
      simp only [Option.ite_none_right_eq_some, Bool.and_eq_true] at h
      obtain ⟨⟨c1, c2⟩, h⟩ := h; cases h
      refine ⟨_, _, rdD_dp R hx e1 c1, rdD_dp R hy e2 c2, flat_shaped (by decide) c1, flat_shaped (by decide) c2, ?_⟩
      rw [eqv_py]; exact q
    · simp at h
  · obtain rfl := Rep.inv_non hy
    refine .inl ⟨rfl, ?_⟩
    rw [non_iff hx]; cases h
    rename_i d
    cases d <;> exact q
  · obtain rfl := Rep.inv_non hy
    refine .inl ⟨rfl, ?_⟩
    rw [non_iff hx]; cases h
    rename_i d
    cases d <;> exact q
  · obtain rfl := Rep.inv_bl hx; obtain rfl := Rep.inv_bl hy; cases h; exact .inr ⟨_, _, rfl, rfl, q⟩
  · obtain rfl := Rep.inv_bl hx; obtain rfl := Rep.inv_bl hy; cases h; exact .inr ⟨_, _, rfl, rfl, q⟩
  · split at h
    · rename_i e1
      simp only [Option.ite_none_right_eq_some, Bool.and_eq_true] at h
      obtain ⟨⟨c1, c2⟩, h⟩ := h; cases h
      obtain ⟨p, vs, rfl, hp, rl⟩ := rds_ok R hy e1
      obtain ⟨g1, g2⟩ := inV_of hx c1 rl c2
      exact ⟨p, vs, rfl, hp, (flat0_V hx c1).1, g1, by rw [g2]; exact q⟩
    · simp at h
  · split at h
    · rename_i e1
      simp only [Option.ite_none_right_eq_some, Bool.and_eq_true] at h
      obtain ⟨⟨c1, c2⟩, h⟩ := h; cases h
      obtain ⟨p, vs, rfl, hp, rl⟩ := rds_ok R hy e1
      obtain ⟨g1, g2⟩ := inV_of hx c1 rl c2
      exact ⟨p, vs, rfl, hp, (flat0_V hx c1).1, g1, by rw [g2]; exact q⟩
    · simp at h
  · simp at h
end
end Mq

/-! MqExp: expressions. -/
namespace Mq
open PySem L2
/-- a test's meaning -/
def tst (m : SS → Out SS RV) : SS → Out SS Bool := fun s => (m s).bind asB
section
variable {G : Gx} {W : WX} {w w1 : Wd} {ρ : SS} {σ : L2.St} {H : Hp} {X : Cx} {pos : Pos} {L : Fns}

theorem go_bl {b : Bool} {k : RV → SS → Wd → Hp → Prop} (R : Rel G w ρ σ H) (g : Go G W w σ (.ok (.v (.bl b)) ρ) fun r ρ' w' H' => ∀ v, RR G w' ρ' σ H' r v → k r ρ' w' H') : k (.v (.bl b)) ρ w H := g.here R _ (Rep.bl b)
/-- a test by its value -/
theorem tE_of_tT {m : SS → Out SS RV} {Q : Bool → Hp → Prop} (h : tT G W (tst m) σ H Q) : tE G W m σ H fun x H1 => ∃ c, x = .bl c ∧ Q c H1 := by
  obtain ⟨w, ρ, R, g⟩ := h
  refine ⟨w, ρ, R, g.bind.mono fun r ρ' w' H' _ e R' q v hv => ?_⟩
  unfold asB at q
  split at q
  · obtain rfl := Rep.inv_bl hv
    exact ⟨_, rfl, q.here R'⟩
  · exact q.elim
theorem sv_var {i : Nat} {x : Str} (hN : X.N[i]? = some x) (hv : Vis X.env.scope x) (hd : (x == ("__debug__" : Str)) = false) (hcd : (x == ("__classdict__" : Str)) = false) : PE X (.Name x pos) (tE G W (ev L (.var i))) := by
  refine (pe_var hN hv hd hcd).imp fun σ H Q h => ?_
  obtain ⟨w, ρ, R, g⟩ := h
  rw [ev] at g
  cases q : ρ.sl[i]? with
  | none => rw [q] at g; exact g.elim
  | some x =>
    rw [q] at g
    have s := R.sl i x q
    cases x with
    | un => exact g.elim
    | v d => obtain ⟨v, e, r⟩ := s; exact ⟨v, e, g.here R v r⟩
    | ol xs => obtain ⟨p, vs, e, _⟩ := s; exact ⟨_, e, g.here R _ e⟩
    | lk xs => obtain ⟨p, vs, e, _⟩ := s; exact ⟨_, e, g.here R _ e⟩
    | oi c ns ds => obtain ⟨p, C, dx, fl, e, _⟩ := s; exact ⟨_, e, g.here R _ e⟩
theorem sv_cst {e : Expr} {d : Dt} {v : V} (h : PE X e (tC v)) (r : ∀ F A, Rep G F A v d) : PE X e (tE G W (ev L (.cst d))) :=
  h.imp fun σ H Q h => by
    obtain ⟨w, ρ, R, g⟩ := h
    rw [ev] at g
    exact g.here R v (r _ _)
theorem sv_glo {x : Str} {u : Value} {v : V} {d : Dt} (hg : Gl X x) (hm : X.mg x = some u) (rv : RelV v u) (r : ∀ F A, Rep G F A v d) (hd : (x == ("__debug__" : Str)) = false) (hL : L.glob x = some d) : PE X (.Name x pos) (tE G W (ev L (.glo x))) :=
  (pe_glob hg hm rv hd).imp fun σ H Q h => by
    obtain ⟨w, ρ, R, g⟩ := h
    rw [ev, hL] at g
    exact g.here R v (r _ _)

/-- two operands -/
theorem two {ma mb : SS → Out SS RV} {f : RV → RV → SS → Out SS RV} {r : R2} {Q : VK}
    (step : ∀ (w : Wd) (ρ : SS) (H : Hp) (x y : RV) (vx vy : V), Rel G w ρ σ H → RR G w ρ σ H x vx → RR G w ρ σ H y vy → Go G W w σ (f x y ρ) (fun z ρ' w' H' => ∀ v, RR G w' ρ' σ H' z v → Q v H') → r vx vy H Q)
    (h : tE G W (fun s => (ma s).bind fun x s => (mb s).bind fun y s => f x y s) σ H Q) : tOp r (tE G W ma) (tE G W mb) σ H Q := by
  obtain ⟨w, ρ, R, g⟩ := h
  refine ⟨w, ρ, R, g.bind.mono fun x ρ1 w1 H1 _ e1 R1 q vx hx => ?_⟩
  obtain ⟨w1', R1', _, _, g2⟩ := pend R1 hx q.bind
  refine ⟨w1', ρ1, R1', g2.mono fun y ρ2 w2 H2 _ e2 R2 q2 vy hy => ?_⟩
  obtain ⟨w3, e3, R3, hx3, _, _, hyy, q3⟩ := q2
  exact step w3 ρ2 H2 x y vx vy R3 hx3 (hyy _ _ hy) q3
theorem lift_some {z : Option RV} {k : RV → SS → Wd → Hp → Prop} (g : Go G W w σ (lift z ρ) k) : ∃ r, z = some r ∧ Go G W w σ (.ok r ρ) k := by
  cases z with
  | none => exact g.elim
  | some r => exact ⟨r, rfl, g⟩
theorem liftB_some {z : Option Bool} {k : RV → SS → Wd → Hp → Prop} (g : Go G W w σ (liftB z ρ) k) : ∃ r, z = some r ∧ Go G W w σ (.ok (.v (.bl r)) ρ) k := by
  cases z with
  | none => exact g.elim
  | some r => exact ⟨r, rfl, g⟩
theorem sv_bin {op : Bop} {a b : Expr} {ma mb : ME} (hK : X.K = G.K) (ha : PE X a (tE G W (ev L ma))) (hb : PE X b (tE G W (ev L mb))) : PE X (.BinOp a (bop op) b pos) (tE G W (ev L (.bin op ma mb))) := by
  refine (pe_op (op_bin op) ha hb).imp fun σ H Q h => ?_
  rw [hK]
  refine two (f := fun x y s => lift (binV op x y s) s) (fun w ρ H x y vx vy R hx hy g => ?_) (by
    obtain ⟨w, ρ, R, g⟩ := h
    rw [ev] at g
    exact ⟨w, ρ, R, g⟩)
  obtain ⟨z, ez, g⟩ := lift_some g
  exact bin_step R hx hy ez fun v H' w' e R' r => g.at e R' v r
theorem sv_neg {a : Expr} {ma : ME} (ha : PE X a (tE G W (ev L ma))) : PE X (.UnaryOp .USub a pos) (tE G W (ev L (.neg ma))) := by
  refine (pe_un un_neg ha).imp fun σ H Q h => ?_
  obtain ⟨w, ρ, R, g⟩ := h
  rw [ev] at g
  refine ⟨w, ρ, R, g.bind.mono fun x ρ1 w1 H1 _ e1 R1 q v hv => ?_⟩
  split at q
  · obtain rfl := Rep.inv_int hv
    exact ⟨_, rfl, q.here R1 _ (.int _)⟩
  · exact q.elim
theorem cmp_tOp {op : Cop} {ma mb : ME} {Q : VK} (h : tE G W (ev L (.cmp op ma mb)) σ H Q) : tOp (rCmp G.K op) (tE G W (ev L ma)) (tE G W (ev L mb)) σ H Q := by
  refine two (f := fun x y s => liftB (cmpV op x y s) s) (fun w ρ H x y vx vy R hx hy g => ?_) (by
    obtain ⟨w, ρ, R, g⟩ := h
    rw [ev] at g
    exact ⟨w, ρ, R, g⟩)
  obtain ⟨z, ez, g⟩ := liftB_some g
  exact cmp_step R hx hy ez (g.here R _ (.bl _))
theorem sv_cmp {op : Cop} {a b : Expr} {ma mb : ME} (hK : X.K = G.K) (hu : X.A.units + 64 < cLine) (hm : behindInMarks (cop op) b = false) (ha : PE X a (tE G W (ev L ma))) (hb : PE X b (tE G W (ev L mb))) :
    PE X (.Compare a [cop op] [b] pos) (tE G W (ev L (.cmp op ma mb))) :=
  (pe_cmpR (op_cmp hu op) ha hb hm).imp fun σ H Q h => by rw [hK]; exact cmp_tOp h
theorem st_cmp {op : Cop} {a b : Expr} {ma mb : ME} (hK : X.K = G.K) (hu : X.A.units + 64 < cLine) (hm : behindInMarks (cop op) b = false) (ha : PE X a (tE G W (ev L ma))) (hb : PE X b (tE G W (ev L mb))) :
    PT X (.Compare a [cop op] [b] pos) (tT G W (tst (ev L (.cmp op ma mb)))) :=
  (pt_cmpR (op_cmp hu op) ha hb hm).imp fun σ H Q h => by rw [hK]; exact cmp_tOp (tE_of_tT h)
theorem cmp2_tChain {o1 o2 : Cop} {ma mb mc : ME} {Q : VK} (h : tE G W (ev L (.cmp2 o1 o2 ma mb mc)) σ H Q) : tChain (rCmp G.K o1) (rCmp G.K o2) (tE G W (ev L ma)) (tE G W (ev L mb)) (tE G W (ev L mc)) σ H Q := by
  obtain ⟨w, ρ, R, g⟩ := h
  rw [ev] at g
  refine ⟨w, ρ, R, g.bind.mono fun x ρ1 w1 H1 _ e1 R1 q vx hx => ?_⟩
  obtain ⟨w1', R1', _, _, g2⟩ := pend R1 hx q.bind
  refine ⟨w1', ρ1, R1', g2.mono fun y ρ2 w2 H2 _ e2 R2 q2 vy hy => ?_⟩
  obtain ⟨w3, e3, R3, hx3, _, _, hyy, q3⟩ := q2
  cases ec : cmpV o1 x y ρ2 with
  | none => rw [ec] at q3; exact q3.elim
  | some b =>
    rw [ec] at q3
    refine cmp_step R3 hx3 (hyy _ _ hy) ec ⟨b, rfl, ?_⟩
    cases b with
    | false => rw [if_neg Bool.false_ne_true]; exact q3.here R3 _ (.bl _)
    | true =>
      rw [if_pos rfl]
      obtain ⟨w4, R4, _, _, g4⟩ := pend R3 (hyy _ _ hy) q3.bind
      refine ⟨w4, ρ2, R4, g4.mono fun z ρ3 w5 H3 _ e5 R5 q5 vz hz => ?_⟩
      obtain ⟨w6, e6, R6, hy6, _, _, hzz, q6⟩ := q5
      obtain ⟨b, eb, q6⟩ := liftB_some q6
      exact cmp_step R6 hy6 (hzz _ _ hz) eb (q6.here R6 _ (.bl _))
theorem sv_cmp2 {o1 o2 : Cop} {a b c : Expr} {ma mb mc : ME} (hK : X.K = G.K) (hu : X.A.units + 64 < cLine) (hm : lastMarks [cop o1, cop o2] [b, c] = false) (ha : PE X a (tE G W (ev L ma))) (hb : PE X b (tE G W (ev L mb))) (hc : PE X c (tE G W (ev L mc))) :
    PE X (.Compare a [cop o1, cop o2] [b, c] pos) (tE G W (ev L (.cmp2 o1 o2 ma mb mc))) :=
  (pe_chain (op_cmp hu o1) (op_cmp hu o2) ha hb hc hm).imp fun σ H Q h => by rw [hK]; exact cmp2_tChain h
theorem st_cmp2 {o1 o2 : Cop} {a b c : Expr} {ma mb mc : ME} (hK : X.K = G.K) (hu : X.A.units + 64 < cLine) (hm : lastMarks [cop o1, cop o2] [b, c] = false) (ha : PE X a (tE G W (ev L ma))) (hb : PE X b (tE G W (ev L mb))) (hc : PE X c (tE G W (ev L mc))) :
    PT X (.Compare a [cop o1, cop o2] [b, c] pos) (tT G W (tst (ev L (.cmp2 o1 o2 ma mb mc)))) :=
  (pt_chain (op_cmp hu o1) (op_cmp hu o2) ha hb hc hm).imp fun σ H Q h => by rw [hK]; exact cmp2_tChain (tE_of_tT h)
theorem sv_not {a : Expr} {ma : ME} (ha : PE X a (tE G W (ev L ma))) : PE X (.UnaryOp .Not a pos) (tE G W (ev L (.not ma))) := by
  refine (pe_not ha).imp fun σ H Q h => ?_
  obtain ⟨w, ρ, R, g⟩ := h
  rw [ev] at g
  refine ⟨w, ρ, R, g.bind.mono fun x ρ1 w1 H1 _ e1 R1 q v hv => ?_⟩
  unfold asB at q
  split at q
  · obtain rfl := Rep.inv_bl hv
    exact ⟨_, rfl, q.bind.here R1 |>.here R1 _ (.bl _)⟩
  · exact q.elim
theorem asB_here {b : Bool} {a : Type} {f : Bool → SS → Out SS a} {k : a → SS → Wd → Hp → Prop} (g : Go G W w σ ((asB (.v (.bl b)) ρ).bind f) k) : Go G W w σ (f b ρ) k := g
theorem st_not {a : Expr} {ma : ME} (ha : PT X a (tT G W (tst (ev L ma)))) : PT X (.UnaryOp .Not a pos) (tT G W (tst (ev L (.not ma)))) := by
  refine (pt_not ha).imp fun σ H Q h => ?_
  obtain ⟨w, ρ, R, g⟩ := h
  unfold tst at g
  rw [ev] at g
  refine ⟨w, ρ, R, ?_⟩
  unfold tst
  cases q : ev L ma ρ with
  | no => rw [q] at g; exact g
  | ex c fs s => rw [q] at g; exact g
  | ok x ρ1 =>
    rw [q] at g
    cases x with
    | nl xs => exact g
    | bw i => exact g
    | v d => cases d <;> exact g
theorem sv_ite {c a b : Expr} {mc ma mb : ME} (hc : PT X c (tT G W (tst (ev L mc)))) (ha : PE X a (tE G W (ev L ma))) (hb : PE X b (tE G W (ev L mb))) : PE X (.IfExp c a b pos) (tE G W (ev L (.ite mc ma mb))) := by
  refine (pe_ifExp hc ha hb).imp fun σ H Q h => ?_
  obtain ⟨w, ρ, R, g⟩ := h
  rw [ev] at g
  have g' : Go G W w σ ((tst (ev L mc) ρ).bind fun k s => if k then ev L ma s else ev L mb s) fun r ρ' w' H' => ∀ v, RR G w' ρ' σ H' r v → Q v H' := by
    unfold tst
    cases q : ev L mc ρ with
    | no => rw [q] at g; exact g
    | ex c fs s => rw [q] at g; exact g
    | ok x ρ1 => rw [q] at g; exact g
  refine ⟨w, ρ, R, g'.bind.mono fun k ρ1 w1 H1 _ e1 R1 q => ?_⟩
  cases k with
  | false => rw [if_neg Bool.false_ne_true]; exact ⟨w1, ρ1, R1, q⟩
  | true => rw [if_pos rfl]; exact ⟨w1, ρ1, R1, q⟩

/-! ### argument lists, displays -/
theorem sa_nil : PA X [] (tA G W (evs L [])) := pa_nil.imp fun σ H Q h => by
  obtain ⟨w, ρ, R, g⟩ := h
  rw [evs] at g
  exact g.here R _ .nil
theorem sa_cons {e : Expr} {es : List Expr} {m : ME} {ms : List ME} (hs : starEach (e :: es) X.env = (false, eval e X.env) :: starEach es X.env) (h1 : PE X e (tE G W (ev L m))) (h2 : PA X es (tA G W (evs L ms))) : PA X (e :: es) (tA G W (evs L (m :: ms))) :=
  (pa_cons h1 h2 hs).imp fun σ H Q h => by
    obtain ⟨w, ρ, R, g⟩ := h
    rw [evs] at g
    refine ⟨w, ρ, R, g.bind.mono fun x ρ1 w1 H1 _ e1 R1 q vx hx => ?_⟩
    obtain ⟨d, ρ2, w2, ev2, e2, R2, rep, q2⟩ := val_ok R1 hx q.bind
    refine ⟨w2, ρ2, R2, q2.bind.mono fun ds ρ3 w3 H3 _ e3 R3 q3 vs hvs => ?_⟩
    exact q3.here R3 _ (.cons (rep.mono e3.F e3.A) hvs)
theorem sv_tup {es : List Expr} {ms : List ME} {x1} (h : PA X es (tA G W (evs L ms))) : PE X (.Tuple es x1 pos) (tE G W (ev L (.tup ms))) :=
  (pe_tup h).imp fun σ H Q h => by
    obtain ⟨w, ρ, R, g⟩ := h
    rw [ev] at g
    refine ⟨w, ρ, R, g.bind.mono fun ds ρ1 w1 H1 _ e1 R1 q vs hvs => ?_⟩
    split at q
    · rename_i c
      exact ⟨by rw [hvs.length]; exact c, fun p hp => fin_tup R1 hvs hp fun v H' w' e R' r => q.at e R' v r⟩
    · exact q.elim
theorem sv_lst {es : List Expr} {ms : List ME} (h : PA X es (tA G W (evs L ms))) : PE X (.List es pos) (tE G W (ev L (.lst ms))) :=
  (pe_lst h).imp fun σ H Q h => by
    obtain ⟨w, ρ, R, g⟩ := h
    rw [ev] at g
    refine ⟨w, ρ, R, g.bind.mono fun ds ρ1 w1 H1 _ e1 R1 q vs hvs => ?_⟩
    split at q
    · rename_i c
      exact ⟨by rw [hvs.length]; exact c, fun p hp => fin_nl R1 hvs hp fun v H' w' e R' r => q.at e R' v r⟩
    · exact q.elim
/-! ### subscripts, fields -/
theorem atI_rep {F : Hp} {A : List Addr} {vs : List V} {ds : List Dt} {i : Int} {d : Dt} (r : RepL G F A vs ds) (h : atI ds i = some d) : ∃ v, atI vs i = some v ∧ Rep G F A v d := by
  unfold atI at h ⊢
  rw [r.length]
  cases q : ixN ds.length i with
  | none => rw [q] at h; simp at h
  | some j =>
    rw [q] at h
    exact r.get h
theorem rds_idx {r : RV} {vx : V} {xs : List Dt} {i : Int} {d : Dt} {Q : VK} (R : Rel G w ρ σ H) (hx : RR G w ρ σ H r vx) (e : rds ρ r = some xs) (ha : atI xs i = some d) (q : ∀ v, Rep G w.F w.A v d → Q v H) : rIx G.K vx (.int i) H Q := by
  obtain ⟨p, vs, rfl, hp, rl⟩ := rds_ok R hx e
  obtain ⟨v, e1, rv⟩ := atI_rep rl ha
  rcases hp with hp | hp
  · exact .inl ⟨p, vs, i, v, rfl, rfl, hp, e1, q v rv⟩
  · exact .inr (.inl ⟨p, vs, i, v, rfl, rfl, hp, e1, q v rv⟩)
theorem idx_step {x y z : RV} {vx vy : V} {Q : VK} (R : Rel G w ρ σ H) (hx : RR G w ρ σ H x vx) (hy : RR G w ρ σ H y vy) (h : idxV x y ρ = some z) (q : ∀ v, RR G w ρ σ H z v → Q v H) : rIx G.K vx vy H Q := by
  unfold idxV at h
  split at h
  · simp only [Option.ite_none_right_eq_some, Option.map_eq_some_iff] at h
    obtain ⟨c, ch, h1, rfl⟩ := h
    obtain rfl := Rep.inv_str hx
    obtain rfl := Rep.inv_int hy
    exact .inr (.inr ⟨_, _, _, rfl, rfl, c, h1, q _ (.str _)⟩)
  · split at h
    · rename_i e
      simp only [Option.map_eq_some_iff] at h
      obtain ⟨d, h1, rfl⟩ := h
      obtain rfl := Rep.inv_int hy
      exact rds_idx R hx e h1 q
    · simp at h
  · simp at h
theorem sv_idx {a b : Expr} {ma mb : ME} (hK : X.K = G.K) (hs : PlainIx b) (ha : PE X a (tE G W (ev L ma))) (hb : PE X b (tE G W (ev L mb))) : PE X (.Subscript a b pos) (tE G W (ev L (.idx ma mb))) := by
  refine (pe_ix ix_seq ha hb hs).imp fun σ H Q h => ?_
  rw [hK]
  refine two (f := fun x y s => lift (idxV x y s) s) (fun w ρ H x y vx vy R hx hy g => ?_) (by
    obtain ⟨w, ρ, R, g⟩ := h
    rw [ev] at g
    exact ⟨w, ρ, R, g⟩)
  obtain ⟨z, ez, g⟩ := lift_some g
  exact idx_step R hx hy ez fun v r => g.here R v r
def tOi (G : Gx) (W : WX) (m : SS → Out SS (Option Int)) : TO := fun σ H Q => ∃ w ρ, Rel G w ρ σ H ∧ Go G W w σ (m ρ) fun o _ _ H' => Q o H'
theorem _root_.L2.PO.imp {X : Cx} {e : Option Expr} {t t' : TO} (h : PO X e t) (hi : ∀ σ H Q, t' σ H Q → t σ H Q) : PO X e t' :=
  ⟨fun pins s σ H Q I q => h.run pins s σ H Q I (hi _ _ _ q)⟩
theorem so_none : PO X none (tOi G W (evO L none)) := po_none.imp fun σ H Q h => by
  obtain ⟨w, ρ, R, g⟩ := h
  rw [evO] at g
  exact g.here R
theorem so_some {e : Expr} {m : ME} (he : PE X e (tE G W (ev L m))) : PO X (some e) (tOi G W (evO L (some m))) := (po_some he).imp fun σ H Q h => by
  obtain ⟨w, ρ, R, g⟩ := h
  rw [evO] at g
  refine ⟨w, ρ, R, g.bind.mono fun x ρ1 w1 H1 _ e1 R1 q v hv => ?_⟩
  split at q
  · obtain rfl := Rep.inv_int hv
    exact ⟨_, rfl, q.here R1⟩
  · exact q.elim
def rSlc (K : PySem.W.Frag) : V → Option Int → Option Int → Hp → VK → Prop := fun x lo hi H Q => rSlL K x lo hi H Q ∨ rSlA K x lo hi H Q
theorem RepL.cut {F : Hp} {A : List Addr} {vs : List V} {ds : List Dt} (r : RepL G F A vs ds) (lo hi : Option Int) : RepL G F A (cutV vs lo hi) (cutD ds lo hi) := by
  unfold cutV cutD
  rw [r.length]
  exact (r.drop _).take _
theorem cut_all {a : Type} (xs : List a) (i j : Nat) (h1 : i = 0) (h2 : j = xs.length) : (xs.drop i).take (j - i) = xs := by
  subst h1; subst h2; simp
theorem slc_step {x z : RV} {lo hi : Option Int} {vx : V} {Q : VK} (R : Rel G w ρ σ H) (hx : RR G w ρ σ H x vx) (h : slcV x lo hi ρ = some z) (q : ∀ v H' w', Ext w w' → Rel G w' ρ σ H' → RR G w' ρ σ H' z v → Q v H') : rSlc G.K vx lo hi H Q := by
  have lst : ∀ xs, rdl ρ x = some xs → z = .nl (cutD xs lo hi) → rSlc G.K vx lo hi H Q := fun xs e1 e2 => by
    obtain ⟨p, vs, rfl, hp, rl⟩ := rdl_ok R hx e1
    subst e2
    exact .inl ⟨p, vs, rfl, hp, fun n hn => fin_nl R (rl.cut lo hi) hn q⟩
  unfold slcV at h
  split at h
  · cases h
    obtain ⟨a, vs, rfl, s1, r1⟩ := Rep.inv_tup hx
    refine .inr ⟨a, vs, rfl, sqt_mono R.subF s1, fun c => ?_, fun c n hn => fin_tup R (r1.cut lo hi) hn q⟩
    have e : ∀ xs : List Dt, xs.length = vs.length → cutD xs lo hi = xs := fun xs hl => by
      unfold cutD
      rw [hl]
      exact cut_all _ _ _ c.1 (c.2.trans hl.symm)
    rw [e _ r1.length.symm] at q
    exact fin_d R hx q
  · split at h
    · rename_i e; cases h; exact lst _ e rfl
    · simp at h
theorem sv_slc {a : Expr} {lo hi : Option Expr} {ma : ME} {ml mh : Option ME} {p2 : Pos} (hK : X.K = G.K) (ha : PE X a (tE G W (ev L ma))) (hl : PO X lo (tOi G W (evO L ml))) (hh : PO X hi (tOi G W (evO L mh))) : PE X (.Subscript a (.Slice lo hi none p2) pos) (tE G W (ev L (.slc ma ml mh))) := by
  refine (pe_slice (r := rSlc X.K) (sl_list.or sl_tupA) ha hl hh).imp fun σ H Q h => ?_
  rw [hK]
  obtain ⟨w, ρ, R, g⟩ := h
  rw [ev] at g
  refine ⟨w, ρ, R, g.bind.mono fun x ρ1 w1 H1 _ e1 R1 q vx hx => ?_⟩
  obtain ⟨w2, R2, _, _, g2⟩ := pend R1 hx q.bind
  refine ⟨w2, ρ1, R2, g2.mono fun l ρ3 w3 H3 _ e3 R3 q3 => ?_⟩
  obtain ⟨w4, e4, R4, hx4, _, _, _, q4⟩ := q3
  obtain ⟨w5, R5, _, _, g5⟩ := pend R4 hx4 q4.bind
  refine ⟨w5, ρ3, R5, g5.mono fun u ρ6 w6 H6 _ e6 R6 q6 => ?_⟩
  obtain ⟨w7, e7, R7, hx7, _, _, _, q7⟩ := q6
  obtain ⟨z, ez, q7⟩ := lift_some q7
  exact slc_step R7 hx7 ez fun v H' w' e R' r => q7.at e R' v r
theorem lkF_rep {F : Hp} {A : List Addr} {f : Str} {d : Dt} : ∀ {fl : List (Str × V)} {ds : List Dt}, RepL G F A (fl.map (·.2)) ds → lkF f (fl.map (·.1)) ds = some d → ∃ v, fl.lookup f = some v ∧ Rep G F A v d
  | [], _, .nil, h => by simp [lkF] at h
  | (n, v) :: r, _, .cons a t, h => by
    simp only [List.map_cons, lkF] at h
    by_cases c : n = f
    · rw [if_pos c] at h; cases h; subst c
      exact ⟨v, by simp [List.lookup], a⟩
    · rw [if_neg c] at h
      obtain ⟨v', e, rr⟩ := lkF_rep t h
      have : (f == n) = false := by simpa using Ne.symm c
      exact ⟨v', by simp [List.lookup, this, e], rr⟩
theorem fldV_ok {x : RV} {f : Str} {d : Dt} {vx : V} (R : Rel G w ρ σ H) (hx : RR G w ρ σ H x vx) (h : fldV x f ρ = some d) : ∃ a c C dx fl v, vx = .ref a ∧ G.cls c = some C ∧ H a = some (.ins C dx fl) ∧ fl.lookup f = some v ∧ Rep G w.F w.A v d := by
  unfold fldV at h
  split at h
  · obtain ⟨a, C, dx, fl, rfl, hC, hF, en, rl⟩ := Rep.inv_ins hx
    subst en
    obtain ⟨v, e, r⟩ := lkF_rep rl h
    exact ⟨a, _, C, dx, fl, v, rfl, hC, R.subF _ _ hF, e, r⟩
  · split at h
    · rename_i e
      obtain ⟨a, rfl, e2⟩ := Rep.inv_ref hx
      obtain ⟨_, _, mo, e3, m⟩ := R.stR _ a e2
      rw [e] at e3; cases e3
      obtain ⟨C, dx, fl, hC, hF, en, rl⟩ := m
      subst en
      obtain ⟨v, e, r⟩ := lkF_rep rl h
      exact ⟨a, _, C, dx, fl, v, rfl, hC, hF, e, r⟩
    · simp at h
  · split at h
    · rename_i e
      have hv : σ[_]? = some (some vx) := hx
      obtain ⟨p, C, dx, fl, e1, hC, hF, en, rl, _⟩ := R.sl _ _ e
      rw [hv] at e1; cases e1
      subst en
      obtain ⟨v, e, r⟩ := lkF_rep rl h
      exact ⟨p, _, C, dx, fl, v, rfl, hC, hF, e, r⟩
    · simp at h
  · simp at h
theorem sv_fld {a : Expr} {f : Str} {ma : ME} (hK : X.K = G.K) (hc : ∀ c C, G.cls c = some C → Cls G.K C) (hn : ∀ c C, G.cls c = some C → NoAttr G.K C f) (hb : attributeBase a f X.env (eval a X.env) = eval a X.env) (ha : PE X a (tE G W (ev L ma))) : PE X (.Attribute a f pos) (tE G W (ev L (.fld ma f))) := by
  refine (pe_fld ha hb).imp fun σ H Q h => ?_
  rw [hK]
  obtain ⟨w, ρ, R, g⟩ := h
  rw [ev] at g
  refine ⟨w, ρ, R, g.bind.mono fun x ρ1 w1 H1 _ e1 R1 q vx hx => ?_⟩
  obtain ⟨z, ez, q⟩ := lift_some q
  simp only [Option.map_eq_some_iff] at ez
  obtain ⟨d, ed, rfl⟩ := ez
  obtain ⟨p, c, C, dx, fl, v, rfl, hC, hH, e, r⟩ := fldV_ok R1 hx ed
  exact ⟨p, C, dx, fl, v, rfl, hH, hc c C hC, hn c C hC, e, q.here R1 v r⟩
end
end Mq

/-! MqCall: calls of defs, methods, classes. -/
namespace Mq
open PySem L2
/-- what a def hands back -/
def RF (G : Gx) (w : Wd) (H : Hp) (r : RV) (v : V) : Prop := match r with
  | .v d => Rep G w.F w.A v d
  | .nl xs => ∃ p vs, v = .ref p ∧ H p = some (.lst vs) ∧ RepL G w.F w.A vs xs ∧ w.F p = none ∧ w.T p = none ∧ p ∉ w.A
  | .bw _ => False
/-- a def's promise by its meaning -/
def spD (G : Gx) (n : Nat) (f : List Dt → List MO → FR) : Sp := fun vs H Q E => vs.length = n ∧ ∃ w st ds, w.L = (fun _ => none) ∧ Wok G w st H ∧ RepL G w.F w.A vs ds ∧ match f ds st with
  | .ok r st' => ∀ v H' w', Ext w w' → Wok G w' st' H' → RF G w' H' r v → Q v H'
  | .ex c fs st' => ∀ cls d H' w', Ext w w' → Wok G w' st' H' → XR G w' cls d c fs → E cls d H'
  | .no => False
/-- an __init__'s, of an instance that is made and then stays as it is -/
def spI (G : Gx) (n c : Nat) (f : List Dt → List MO → Out (List MO) (List Str × List Dt)) : Sp := fun vs H Q E => vs.length = n + 1 ∧ ∃ w st ds p C dx us, w.L = (fun _ => none) ∧ w.M = some p ∧ Wok G w st H ∧ vs = .ref p :: us ∧ RepL G w.F w.A us ds ∧ G.cls c = some C ∧ H p = some (.ins C dx []) ∧ w.F p = none ∧ w.T p = none ∧ p ∉ w.A ∧ match f ds st with
  | .ok r st' => ∀ H' w' fl dx', Ext w w' → Wok G w' st' H' → H' p = some (.ins C dx' fl) → fl.map (·.1) = r.1 → RepL G w'.F w'.A (fl.map (·.2)) r.2 → w'.F p = none → w'.T p = none → p ∉ w'.A → Q .non H'
  | .ex c fs st' => ∀ cls d H' w', Ext w w' → Wok G w' st' H' → XR G w' cls d c fs → E cls d H'
  | .no => False
section
variable {G : Gx} {W : WX} {w w1 : Wd} {ρ : SS} {σ : L2.St} {H : Hp} {X : Cx} {pos : Pos} {L : Fns}
open Classical in
/-- all that is neither data nor the store -/
noncomputable def restT (w : Wd) (H : Hp) : Hp := fun a => if w.F a = none ∧ a ∉ w.A then H a else none
theorem restT_some {a : Addr} {o : HO} (h : restT w H a = some o) : w.F a = none ∧ a ∉ w.A ∧ H a = some o := by
  unfold restT at h
  split at h
  · rename_i c; exact ⟨c.1, c.2, h⟩
  · cases h
theorem restT_of {a : Addr} {o : HO} (h1 : w.F a = none) (h2 : a ∉ w.A) (h : H a = some o) : restT w H a = some o := by
  unfold restT
  rw [if_pos ⟨h1, h2⟩]; exact h
noncomputable def Wd.inn (w : Wd) (H : Hp) : Wd := { w with T := restT w H, L := fun _ => none, M := none }
theorem Wok.enter {st : List MO} (R : Wok G w st H) : Wok G (w.inn H) st H where
  subF := R.subF
  subT := fun a o e => (restT_some e).2.2
  dis := fun a => by
    cases q : w.F a with
    | none => exact .inl q
    | some o => right; exact none_of fun u e => (by have := (restT_some e).1; rw [q] at this; cases this)
  stL := R.stL
  stR := fun n a e => by
    obtain ⟨h1, h2, mo, h3, h4⟩ := R.stR n a e
    exact ⟨h1, none_of fun u z => (restT_some z).2.1 (List.mem_of_getElem? e), mo, h3, h4.mono (w := w) (w' := w.inn H) (Same.refl _) (Ax.refl _)⟩
  stN := R.stN
/-- behind a call -/
theorem Rel.back {w2 : Wd} {st2 : List MO} {H2 : Hp} (R : Rel G w ρ σ H) (e : Ext (w.inn H) w2) (R2 : Wok G w2 st2 H2) :
    Ext w (w2.unp w) ∧ Rel G (w2.unp w) { ρ with st := st2 } σ H2 ∧ ∀ p, w2.F p = none → w2.T p = none → p ∉ w2.A → Free (w2.unp w) { ρ with st := st2 } σ p := by
  have eT : w2.T = restT w H := e.T
  have sT : Same w.T w2.T := fun a o h => by
    rw [eT]
    refine restT_of ?_ ?_ (R.subT _ _ h)
    · rcases R.dis a with z | z
      · exact z
      · rw [h] at z; cases z
    · intro m
      obtain ⟨n, en⟩ := mem_A m
      have := (R.stR n a en).2.1
      rw [h] at this; cases this
  have kp : ∀ i p, OwnAt ρ σ i p → ∃ o, H p = some o ∧ w2.T p = some o := fun i p h => by
    obtain ⟨o, ho⟩ := R.inOwn h
    obtain ⟨h1, _, h3⟩ := R.own i p h
    exact ⟨o, ho, by rw [eT]; exact restT_of h1 h3 ho⟩
  have E : Ext w (w2.unp w) := ⟨e.F, e.A, rfl, rfl, rfl⟩
  have RR : Rel G (w2.unp w) { ρ with st := st2 } σ H2 := {
    subF := R2.subF
    subT := sT.trans R2.subT
    dis := fun a => by
      rcases R2.dis a with z | z
      · exact .inl z
      · right; exact none_of fun o h => (by rw [sT _ _ h] at z; cases z)
    stL := R2.stL
    stR := fun n a en => by
      obtain ⟨h1, h2, mo, h3, h4⟩ := R2.stR n a en
      exact ⟨h1, none_of fun o h => (by rw [sT _ _ h] at h2; cases h2), mo, h3, h4.mono (w := w2) (w' := w2.unp w) (Same.refl _) (Ax.refl _)⟩
    stN := R2.stN
    len := R.len
    sl := fun i x ex => ((R.sl i x ex).ext (w' := w2.unp w) E).heap fun p ep ho => by
      obtain ⟨o, h1, h2⟩ := kp i p ⟨ep, x, ex, ho⟩
      rw [h1, R2.subT _ _ h2]
    own := fun i p h => by
      obtain ⟨o, h1, h2⟩ := kp i p h
      refine ⟨?_, (R.own i p h).2.1, fun m => ?_⟩
      · rcases R2.dis p with z | z
        · exact z
        · rw [h2] at z; cases z
      · obtain ⟨n, en⟩ := mem_A m
        have := (R2.stR n p en).2.1
        rw [h2] at this; cases this
    ownN := R.ownN
    lT := R.lT }
  refine ⟨E, RR, fun p h1 h2 h3 => ⟨h1, none_of fun o h => (by rw [sT _ _ h] at h2; cases h2), h3, fun i m => ?_⟩⟩
  obtain ⟨o, _, h⟩ := kp i p m
  rw [h] at h2; cases h2
theorem RF.rr {w2 : Wd} {st2 : List MO} {H2 : Hp} {r : RV} {v : V} (f : ∀ p, w2.F p = none → w2.T p = none → p ∉ w2.A → Free (w2.unp w) { ρ with st := st2 } σ p) (h : RF G w2 H2 r v) : RR G (w2.unp w) { ρ with st := st2 } σ H2 r v := by
  cases r with
  | v d => exact h
  | nl xs => obtain ⟨p, vs, e1, e2, rl, f1, f2, f3⟩ := h; exact ⟨p, vs, e1, e2, rl, f p f1 f2 f3⟩
  | bw i => exact h.elim
theorem XR.unp {w2 v : Wd} {cls : Value} {d : Option Addr} {c : Nat} {fs : List Dt} (h : XR G w2 cls d c fs) : XR G (w2.unp v) cls d c fs := h
/-- the callee's promise from the caller's state -/
theorem spD_of {n : Nat} {f : List Dt → List MO → FR} {ds : List Dt} {vs : List V} {Q : VK} (R : Rel G w ρ σ H) (hv : RepL G w.F w.A vs ds) (hn : ds.length = n) (g : Go G W w σ (liftF (f ds ρ.st) ρ) fun r ρ' w' H' => ∀ v, RR G w' ρ' σ H' r v → Q v H') : spD G n f vs H Q (WE W σ) := by
  refine ⟨by rw [hv.length]; exact hn, w.inn H, ρ.st, ds, rfl, R.toWok.enter, hv, ?_⟩
  cases q : f ds ρ.st with
  | no => rw [q] at g; exact g
  | ok r st' =>
    rw [q] at g
    intro v H' w' e R' rf
    obtain ⟨e', R'', fr⟩ := R.back e R'
    exact g H' _ e' R'' v (rf.rr fr)
  | ex c fs st' =>
    rw [q] at g
    intro cls d H' w' e R' x
    obtain ⟨e', R'', fr⟩ := R.back e R'
    exact g cls d H' _ e' R'' x.unp
theorem evs_len : ∀ {ms : List ME} {s s' : SS} {ds : List Dt}, evs L ms s = .ok ds s' → ds.length = ms.length
  | [], s, s', ds, h => by rw [evs] at h; cases h; rfl
  | m :: ms, s, s', ds, h => by
    rw [evs] at h
    cases q : ev L m s with
    | no => rw [q] at h; cases h
    | ex c fs t => rw [q] at h; cases h
    | ok r t =>
      rw [q] at h
      have h : (val r t).bind (fun d s => (evs L ms s).bind fun ds s => .ok (d :: ds) s) = .ok ds s' := h
      cases q2 : val r t with
      | no => rw [q2] at h; cases h
      | ex c fs t => rw [q2] at h; cases h
      | ok d t2 =>
        rw [q2] at h
        have h : (evs L ms t2).bind (fun ds s => .ok (d :: ds) s) = .ok ds s' := h
        cases q3 : evs L ms t2 with
        | no => rw [q3] at h; cases h
        | ex c fs t => rw [q3] at h; cases h
        | ok ds' t3 =>
          rw [q3] at h
          cases h
          simp [evs_len q3]
/-- a def that may be called by its name -/
structure Def (G : Gx) (X : Cx) (k : Nat) (x : Str) (n : Nat) (f : List Dt → List MO → FR) : Prop where
  ex : ∃ a fd ps, X.mg x = some (.ref a) ∧ PySem.W.keepIn X.K (.ref a) = true ∧ Binds X.K fd ps [] ∧ FnOk X.prog X.w X.K X.mg X.base (L2.CX X.prog X.w) k a fd ps (spD G n f)
theorem sv_call {x : Str} {p : Pos} {e : Expr} {es : List Expr} {ms : List ME} {k : Nat} (hr : Room k X.A) (tk : Takes X W) (hd : Def G X k x (es.length + 1) (L.call x)) (hl : ms.length = es.length + 1) (hg : Gl X x) (ha : PA X (e :: es) (tA G W (evs L ms)))
    (hdb : (x == ("__debug__" : Str)) = false) (he : starEach (e :: es) X.env = (false, eval e X.env) :: starEach es X.env) (hpl : (backTo pos (starEach es X.env)).any (·.1) = false) :
    PE X (.Call (.Name x p) (e :: es) [] pos) (tE G W (ev L (.call x ms))) := by
  obtain ⟨a, fd, ps, hm, hk, hb, F⟩ := hd.ex
  refine (pe_callS (E := WE W) F hr hg hm hk hb (fun σ => passAt tk σ) ha hdb he hpl).imp fun σ H Q h => ?_
  obtain ⟨w, ρ, R, g⟩ := h
  rw [ev] at g
  refine ⟨w, ρ, R, g.bind.mono fun ds ρ1 w1 H1 eo e1 R1 q vs hvs => ?_⟩
  exact spD_of R1 hvs (by rw [evs_len eo]; exact hl) q
theorem sv_call0 {x : Str} {p : Pos} {k : Nat} (hr : Room k X.A) (tk : Takes X W) (hd : Def G X k x 0 (L.call x)) (hg : Gl X x) (hdb : (x == ("__debug__" : Str)) = false) : PE X (.Call (.Name x p) [] [] pos) (tE G W (ev L (.call x []))) := by
  obtain ⟨a, fd, ps, hm, hk, hb, F⟩ := hd.ex
  have pe : PE X (.Call (.Name x p) [] [] pos) (tCallS (spD G 0 (L.call x)) (WE W) tNil) := by
    refine ⟨fun pins s σ H Q I h => ?_⟩
    refine wpAny_Call_Name_kw (ld_glob I hg hm ?_ hdb)
    exact PySem.W.callWith_K0 I.kIn hk (run_fnS (E := WE W) (us := []) F hr hb (passAt tk σ) I .nil h)
  refine pe.imp fun σ H Q h => ?_
  obtain ⟨w, ρ, R, g⟩ := h
  rw [ev, evs] at g
  exact spD_of R .nil rfl g
/-! ### methods -/
/-- o.m(..), o's class found there -/
def tMethD (X : Cx) (k : Nat) (E : L2.St → XK) (m : Str) (te : TE) (t : TA) : TE := fun σ H Q => te σ H fun x H1 => ∃ a C dx fs g fd ps sp, x = .ref a ∧ H1 a = some (.ins C dx fs) ∧ Cls X.K C ∧ Meth X.K C m g ∧ fs.lookup m = none ∧ Binds X.K fd ps [] ∧ FnOk X.prog X.w X.K X.mg X.base (L2.CX X.prog X.w) k g fd ps sp ∧
  t σ H1 fun vs H2 => sp (x :: vs) H2 Q (E σ)
theorem meth_form {o : Expr} {m : Str} {apos : Pos} {args : List Expr} (hb : attributeBase o m X.env (eval o X.env) = eval o X.env) (hline : (apos.endLine == pos.line) = true)
    (hf : methodCallForm (args.length + 0) (backTo pos (starEach args X.env)) [] = true) :
    eval (.Call (.Attribute o m apos) args [] pos) X.env = (do
      let ov ← eval o X.env
      standAt apos.atName
      let (f, first) ← holding [ov] (getMethod ov m (do return (← importBound o X.env).getD true))
      callWith pos f first (backTo pos (starEach args X.env)) (backToKw pos (keywordEach [] X.env))) := by
  have e : eval (.Call (.Attribute o m apos) args [] pos) X.env = (do
      let ov ← attributeBase o m X.env (eval o X.env)
      standAt apos.atName
      methodCall o m apos pos X.env ov (args.length + ([] : List Keyword).length) (backTo pos (starEach args X.env)) (backToKw pos (keywordEach [] X.env))) := rfl
  rw [e, hb]
  have e2 : ∀ ov, methodCall o m apos pos X.env ov (args.length + ([] : List Keyword).length) (backTo pos (starEach args X.env)) (backToKw pos (keywordEach [] X.env)) = (do
      let (f, first) ← holding [ov] (getMethod ov m (do return (← importBound o X.env).getD true))
      callWith pos f first (backTo pos (starEach args X.env)) (backToKw pos (keywordEach [] X.env))) := fun ov => by
    unfold methodCall
    have hf' : methodCallForm (args.length + ([] : List Keyword).length) (backTo pos (starEach args X.env)) (backToKw pos (keywordEach [] X.env)) = true := hf
    rw [hf']
    have h1 : calleeOf true o X.env ov m = getMethod ov m (do return (← importBound o X.env).getD true) := rfl
    have h2 : methodCallPos true o X.env apos pos = pure pos := by
      unfold methodCallPos
      rw [hline]; rfl
    rw [h1, h2]; rfl
  exact congrArg _ (funext fun ov => congrArg _ (funext fun _ => e2 ov))
theorem pe_methD {o e : Expr} {es : List Expr} {m : Str} {apos : Pos} {k : Nat} {te : TE} {t : TA} (hr : Room k X.A) (tk : Takes X W) (he : PE X o te) (ha : PA X (e :: es) t) (hb : attributeBase o m X.env (eval o X.env) = eval o X.env) (hline : (apos.endLine == pos.line) = true)
    (hf : methodCallForm ((e :: es).length + 0) (backTo pos (starEach (e :: es) X.env)) [] = true) (hst : starEach (e :: es) X.env = (false, eval e X.env) :: starEach es X.env) (hpl : (backTo pos (starEach es X.env)).any (·.1) = false) :
    PE X (.Call (.Attribute o m apos) (e :: es) [] pos) (tMethD X k (WE W) m te t) := by
  refine ⟨fun pins s σ H Q I h => ?_⟩
  refine PySem.W.methodCall_KW (pl := (do return (← importBound o X.env).getD true)) (thn (he.run pins s σ H _ I h) fun u s1 ⟨x, H1, I1, rx, a, C, dx, fs, g, fd, ps, sp, ex, ea, c, hm, l, hbd, F, q⟩ => ?_) (meth_form hb hline hf)
  subst ex
  obtain rfl : u = Value.ref a := rx
  refine getmeth_ok I1 ea c hm l ?_
  refine PySem.W.callWith_K (first := [.ref a]) (h₀ := X.base) I1.ok.mod.kin hm.kp (thn (ha.run pos pins s1 σ H1 _ I1 q) fun us s2 ⟨vs, H2, I2, r, q2⟩ => ⟨I2.kIn, ?_⟩) hst hpl
  exact run_fnS (E := WE W) (us := .ref a :: us) (vs := .ref a :: vs) F hr hbd (passAt tk σ) I2 (.cons rfl r) q2
theorem pe_methD0 {o : Expr} {m : Str} {apos : Pos} {k : Nat} {te : TE} (hr : Room k X.A) (tk : Takes X W) (he : PE X o te) (hb : attributeBase o m X.env (eval o X.env) = eval o X.env) (hline : (apos.endLine == pos.line) = true) :
    PE X (.Call (.Attribute o m apos) [] [] pos) (tMethD X k (WE W) m te tNil) := by
  refine ⟨fun pins s σ H Q I h => ?_⟩
  refine PySem.W.methodCall_KW (pl := (do return (← importBound o X.env).getD true)) (thn (he.run pins s σ H _ I h) fun u s1 ⟨x, H1, I1, rx, a, C, dx, fs, g, fd, ps, sp, ex, ea, c, hm, l, hbd, F, q⟩ => ?_) (meth_form hb hline rfl)
  subst ex
  obtain rfl : u = Value.ref a := rx
  refine getmeth_ok I1 ea c hm l ?_
  exact PySem.W.callWith_K0 (first := [.ref a]) I1.kIn hm.kp (run_fnS (E := WE W) (us := [.ref a]) (vs := [.ref a]) F hr hbd (passAt tk σ) I1 (.cons rfl .nil) q)
/-- what is known of a method m of the class number c -/
structure DefM (G : Gx) (X : Cx) (k c : Nat) (m : Str) (n : Nat) (f : List Dt → List MO → FR) : Prop where
  ex : ∀ C, G.cls c = some C → ∃ g fd ps, Cls G.K C ∧ Meth G.K C m g ∧ Binds X.K fd ps [] ∧ FnOk X.prog X.w X.K X.mg X.base (L2.CX X.prog X.w) k g fd ps (spD G n f)
theorem lookup_none {f : Str} : ∀ {fl : List (Str × V)}, (fl.map (·.1)).contains f = false → fl.lookup f = none
  | [], _ => rfl
  | (n, v) :: r, h => by
    simp only [List.map_cons, List.contains_cons, Bool.or_eq_false_iff] at h
    simp only [List.lookup, h.1]
    exact lookup_none h.2
theorem mcls_ok {x : RV} {m : Str} {c : Nat} {vx : V} (R : Rel G w ρ σ H) (hx : RR G w ρ σ H x vx) (h : mcls x m ρ = some c) : ∃ a C dx fl, vx = .ref a ∧ G.cls c = some C ∧ H a = some (.ins C dx fl) ∧ fl.lookup m = none := by
  unfold mcls at h
  split at h
  · split at h
    · simp at h
    · rename_i hn
      cases h
      obtain ⟨a, C, dx, fl, rfl, hC, hF, en, rl⟩ := Rep.inv_ins hx
      subst en
      exact ⟨a, C, dx, fl, rfl, hC, R.subF _ _ hF, lookup_none (by simpa using hn)⟩
  · split at h
    · rename_i e
      split at h
      · simp at h
      · rename_i hn
        cases h
        obtain ⟨a, rfl, e2⟩ := Rep.inv_ref hx
        obtain ⟨_, _, mo, e3, mm⟩ := R.stR _ a e2
        rw [e] at e3; cases e3
        obtain ⟨C, dx, fl, hC, hF, en, rl⟩ := mm
        subst en
        exact ⟨a, C, dx, fl, rfl, hC, hF, lookup_none (by simpa using hn)⟩
    · simp at h
  · simp at h
theorem meth_red {x : RV} {m : Str} {es : List ME} {k : RV → SS → Wd → Hp → Prop} (g : Go G W w σ (match x, mcls x m ρ with
    | .v d, some c => if L.hasM c m then (evs L es ρ).bind fun ds s => liftF (L.meth c m (d :: ds) s.st) s else .no
    | _, _ => .no) k) : ∃ d c, x = .v d ∧ mcls x m ρ = some c ∧ L.hasM c m = true ∧ Go G W w σ ((evs L es ρ).bind fun ds s => liftF (L.meth c m (d :: ds) s.st) s) k := by
  split at g
  · rename_i d c e
    split at g
    · rename_i h; exact ⟨d, c, rfl, e, h, g⟩
    · exact g.elim
  · exact g.elim
theorem sv_meth {o e : Expr} {es : List Expr} {m : Str} {mo : ME} {ms : List ME} {apos : Pos} {k : Nat} (hK : X.K = G.K) (hr : Room k X.A) (tk : Takes X W) (hM : ∀ c, L.hasM c m = true → DefM G X k c m (es.length + 2) (L.meth c m)) (hl : ms.length = es.length + 1)
    (he : PE X o (tE G W (ev L mo))) (ha : PA X (e :: es) (tA G W (evs L ms))) (hb : attributeBase o m X.env (eval o X.env) = eval o X.env) (hline : (apos.endLine == pos.line) = true)
    (hf : methodCallForm ((e :: es).length + 0) (backTo pos (starEach (e :: es) X.env)) [] = true) (hst : starEach (e :: es) X.env = (false, eval e X.env) :: starEach es X.env) (hpl : (backTo pos (starEach es X.env)).any (·.1) = false) :
    PE X (.Call (.Attribute o m apos) (e :: es) [] pos) (tE G W (ev L (.meth mo m ms))) := by
  refine (pe_methD (k := k) hr tk he ha hb hline hf hst hpl).imp fun σ H Q h => ?_
  obtain ⟨w, ρ, R, g⟩ := h
  rw [ev] at g
  refine ⟨w, ρ, R, g.bind.mono fun x ρ1 w1 H1 _ e1 R1 q vx hx => ?_⟩
  obtain ⟨d, c, rfl, ec, hh, q⟩ := meth_red q
  obtain ⟨a, C, dx, fl, rfl, hC, hH, hlk⟩ := mcls_ok R1 hx ec
  obtain ⟨g', fd, ps, hc, hm, hbd, F⟩ := (hM c hh).ex C hC
  refine ⟨a, C, dx, fl, g', fd, ps, _, rfl, hH, by rw [hK]; exact hc, by rw [hK]; exact hm, hlk, hbd, F, ?_⟩
  obtain ⟨w2, R2, eF, eA, g2⟩ := pend R1 hx q.bind
  refine ⟨w2, ρ1, R2, g2.mono fun ds ρ3 w3 H3 eo e3 R3 q3 vs hvs => ?_⟩
  obtain ⟨w4, e4, R4, hx4, eF4, eA4, _, q4⟩ := q3
  refine spD_of R4 (.cons hx4 ?_) (by simp [evs_len eo, hl]) q4
  rw [eF4, eA4]; exact hvs
theorem sv_meth0 {o : Expr} {m : Str} {mo : ME} {apos : Pos} {k : Nat} (hK : X.K = G.K) (hr : Room k X.A) (tk : Takes X W) (hM : ∀ c, L.hasM c m = true → DefM G X k c m 1 (L.meth c m))
    (he : PE X o (tE G W (ev L mo))) (hb : attributeBase o m X.env (eval o X.env) = eval o X.env) (hline : (apos.endLine == pos.line) = true) :
    PE X (.Call (.Attribute o m apos) [] [] pos) (tE G W (ev L (.meth mo m []))) := by
  refine (pe_methD0 (k := k) hr tk he hb hline).imp fun σ H Q h => ?_
  obtain ⟨w, ρ, R, g⟩ := h
  rw [ev] at g
  refine ⟨w, ρ, R, g.bind.mono fun x ρ1 w1 H1 _ e1 R1 q vx hx => ?_⟩
  obtain ⟨d, c, rfl, ec, hh, q⟩ := meth_red q
  obtain ⟨a, C, dx, fl, rfl, hC, hH, hlk⟩ := mcls_ok R1 hx ec
  obtain ⟨g', fd, ps, hc, hm, hbd, F⟩ := (hM c hh).ex C hC
  refine ⟨a, C, dx, fl, g', fd, ps, _, rfl, hH, by rw [hK]; exact hc, by rw [hK]; exact hm, hlk, hbd, F, ?_⟩
  rw [evs] at q
  exact spD_of R1 (.cons hx .nil) rfl q
/-! ### instances made -/
theorem run_makeS {k : Nat} {f C : Addr} {fd : FuncData} {ps : List Str} {sp : Sp} {E : L2.St → XK} {pins : List (Addr × Obj)} {s : Shared} {Q : VK} {us : List Value} {vs : List V} (M : Mk X.K C f) (F : FnOk X.prog X.w X.K X.mg X.base (L2.CX X.prog X.w) k f fd ps sp) (hr : Room (k + 1) X.A) (hb : Binds X.K fd ps [])
    (hx : PassesAt (L2.CX X.prog X.w) X σ (E σ)) (I : Inv X pins σ H s) (r : Vals vs us)
    (h : ∀ x dx, H x = none → H dx = none → dx ≠ x → sp (.ref x :: vs) (upd (upd H dx (.own x)) x (.ins C dx [])) (fun v H2 => v = .non ∧ Q (.ref x) H2) (E σ)) :
    wpAny (model X.prog X.w) X.A (PySem.call (.ref C) us) (EP X pins σ Q) X.xe s := by
  have hq := h (s.heap.objs.size + 1) s.heap.objs.size (I.hok.fresh (Nat.le_succ _)) (I.hok.fresh (Nat.le_refl _)) (Nat.ne_of_lt (Nat.lt_succ_self _))
  have I2 := Inv.made (C := C) I
  have r2 : Vals (V.ref (s.heap.objs.size + 1) :: vs) (Value.ref (s.heap.objs.size + 1) :: us) := .cons rfl r
  have hl : (Value.ref (s.heap.objs.size + 1) :: us).length = ps.length := by
    have e := r2.length
    rw [F.len _ _ _ _ hq] at e
    exact e.symm
  have b := hb { s with heap := (s.heap.push PySem.W.emptyDict).push (PySem.W.instObj C s.heap.objs.size) } (Value.ref (s.heap.objs.size + 1) :: us) I2.kIn (by rw [List.append_nil]; exact hl)
  rw [List.append_nil] at b
  refine wpAny_call (make_map (f := f) I.kIn M.makes M.init (beq_iff_eq.mp M.fn) (codeAny_mono (F.run _ X.stack _ _ ⟨Value.ref (s.heap.objs.size + 1) :: us, []⟩ (Value.ref (s.heap.objs.size + 1) :: us) _ _ (E σ) (hr.make C us [])
    (I2.env0.make C us []) b r2 hq) fun r s' hq' => ?_))
  cases r with
  | error e => exact hx pins _ _ e s' I2 hq'
  | ok fl =>
    cases fl with
    | ret u =>
      obtain ⟨v, H', I3, rv, ev, q3⟩ := I2.after hq'
      subst ev
      exact ⟨rv, ⟨V.ref (s.heap.objs.size + 1), H', I3, rfl, q3⟩⟩
    | next => exact False.elim hq'
    | brk => exact False.elim hq'
    | cont => exact False.elim hq'
def tMakeS (C : Addr) (sp : Sp) (E : L2.St → XK) (t : TA) : TE := fun σ H Q => t σ H fun vs H1 => ∀ x dx, H1 x = none → H1 dx = none → dx ≠ x →
  sp (.ref x :: vs) (upd (upd H1 dx (.own x)) x (.ins C dx [])) (fun v H2 => v = .non ∧ Q (.ref x) H2) (E σ)
theorem pe_makeS {k : Nat} {f C : Addr} {fd : FuncData} {ps : List Str} {sp : Sp} {E : L2.St → XK} {x : Str} {p : Pos} {e : Expr} {es : List Expr} {t : TA} (M : Mk X.K C f) (F : FnOk X.prog X.w X.K X.mg X.base (L2.CX X.prog X.w) k f fd ps sp) (hr : Room (k + 1) X.A) (hg : Gl X x) (hm : X.mg x = some (.ref C)) (hb : Binds X.K fd ps []) (hx : ∀ σ, PassesAt (L2.CX X.prog X.w) X σ (E σ))
    (ha : PA X (e :: es) t) (hdb : (x == ("__debug__" : Str)) = false) (he : starEach (e :: es) X.env = (false, eval e X.env) :: starEach es X.env) (hpl : (backTo pos (starEach es X.env)).any (·.1) = false) :
    PE X (.Call (.Name x p) (e :: es) [] pos) (tMakeS C sp E t) := by
  refine ⟨fun pins s σ H Q I h => ?_⟩
  refine wpAny_Call_Name_kw (ld_glob I hg hm ?_ hdb)
  refine PySem.W.callWith_K (h₀ := X.base) I.ok.mod.kin M.kp (thn (ha.run pos pins s σ H _ I h) fun us s1 ⟨vs, H1, I1, r, q⟩ => ⟨I1.kIn, ?_⟩) he hpl
  exact run_makeS M F hr hb (hx σ) I1 r q
theorem pe_makeS0 {k : Nat} {f C : Addr} {fd : FuncData} {ps : List Str} {sp : Sp} {E : L2.St → XK} {x : Str} {p : Pos} (M : Mk X.K C f) (F : FnOk X.prog X.w X.K X.mg X.base (L2.CX X.prog X.w) k f fd ps sp) (hr : Room (k + 1) X.A) (hg : Gl X x) (hm : X.mg x = some (.ref C)) (hb : Binds X.K fd ps []) (hx : ∀ σ, PassesAt (L2.CX X.prog X.w) X σ (E σ))
    (hdb : (x == ("__debug__" : Str)) = false) : PE X (.Call (.Name x p) [] [] pos) (tMakeS C sp E tNil) := by
  refine ⟨fun pins s σ H Q I h => ?_⟩
  refine wpAny_Call_Name_kw (ld_glob I hg hm ?_ hdb)
  exact PySem.W.callWith_K0 I.kIn M.kp (run_makeS (us := []) M F hr hb (hx σ) I .nil h)
end
/-- a class whose instances stand in the store -/
def mkS (c : Nat) (f : List Dt → List MO → FR) (ds : List Dt) (st : List MO) : FR := match f (.ref st.length :: ds) (st ++ [.i c [] []]) with
  | .ok (.v .non) st' => .ok (.v (.ref st.length)) st'
  | .ok _ _ => .no
  | .ex c fs st' => .ex c fs st'
  | .no => .no
/-- a class whose instances stay as they are made -/
def mkI (c : Nat) (f : List Dt → List MO → Out (List MO) (List Str × List Dt)) (ds : List Dt) (st : List MO) : FR := match f ds st with
  | .ok r st' => .ok (.v (.ins c r.1 r.2)) st'
  | .ex c fs st' => .ex c fs st'
  | .no => .no
/-- what is known of a class that is made by its name -/
structure Mkd (G : Gx) (X : Cx) (k : Nat) (x : Str) (n : Nat) (f : List Dt → List MO → FR) : Prop where
  ex : ∃ C a fd ps c, X.mg x = some (.ref C) ∧ Mk X.K C a ∧ Binds X.K fd ps [] ∧ G.cls c = some C ∧
    ((∃ fi, FnOk X.prog X.w X.K X.mg X.base (L2.CX X.prog X.w) k a fd ps (spD G (n + 1) fi) ∧ f = mkS c fi) ∨ ∃ fi, FnOk X.prog X.w X.K X.mg X.base (L2.CX X.prog X.w) k a fd ps (spI G n c fi) ∧ f = mkI c fi)
section
variable {G : Gx} {W : WX} {w w1 : Wd} {ρ : SS} {σ : L2.St} {H : Hp} {X : Cx} {pos : Pos} {L : Fns}
theorem mkS_of {n c : Nat} {C x dx : Addr} {fi : List Dt → List MO → FR} {ds : List Dt} {vs : List V} {Q : VK} (R : Rel G w ρ σ H) (hC : G.cls c = some C) (hv : RepL G w.F w.A vs ds) (hn : ds.length = n) (h1 : H x = none) (h2 : H dx = none) (h3 : dx ≠ x)
    (g : Go G W w σ (liftF (mkS c fi ds ρ.st) ρ) fun r ρ' w' H' => ∀ v, RR G w' ρ' σ H' r v → Q v H') :
    spD G (n + 1) fi (.ref x :: vs) (upd (upd H dx (.own x)) x (.ins C dx [])) (fun v H2 => v = .non ∧ Q (.ref x) H2) (WE W σ) := by
  have h1' : (upd H dx (.own x)) x = none := by rw [upd_ne (Ne.symm h3)]; exact h1
  have R1 : Rel G w ρ σ (upd (upd H dx (.own x)) x (.ins C dx [])) := (R.new h2).new h1'
  have f := R.fresh h1
  have inn : Wok G { w.inn (upd (upd H dx (.own x)) x (.ins C dx [])) with A := w.A ++ [x], T := fun a => if a = x then none else restT w (upd (upd H dx (.own x)) x (.ins C dx [])) a } (ρ.st ++ [.i c [] []]) (upd (upd H dx (.own x)) x (.ins C dx [])) := by
    have E := R1.toWok.enter
    refine ⟨E.subF, fun a o e => ?_, fun a => ?_, ?_, fun k a e => ?_, fun k m a e1 e2 => ?_⟩
    · have e : (if a = x then none else restT w _ a) = some o := e
      by_cases q : a = x
      · rw [if_pos q] at e; cases e
      · rw [if_neg q] at e; exact E.subT _ _ e
    · rcases E.dis a with z | z
      · exact .inl z
      · right; show (if a = x then none else restT w _ a) = none
        split
        · rfl
        · exact z
    · show (w.A ++ [x]).length = (ρ.st ++ [MO.i c [] []]).length
      rw [List.length_append, List.length_append, R.stL]; rfl
    · have e : (w.A ++ [x])[k]? = some a := e
      by_cases hk : k < w.A.length
      · rw [List.getElem?_append_left hk] at e
        obtain ⟨z1, z2, mo, z3, z4⟩ := E.stR k a e
        refine ⟨z1, ?_, mo, by rw [List.getElem?_append_left (R.stL ▸ hk)]; exact z3, MRep.mono (w := w.inn (upd (upd H dx (.own x)) x (.ins C dx []))) (fun _ _ h => h) (Ax.app _ _) z4⟩
        show (if a = x then none else restT w _ a) = none
        split
        · rfl
        · exact z2
      · have hk' : k = w.A.length := by
          have := (List.getElem?_eq_some_iff.mp e).1
          simp at this; omega
        subst hk'
        rw [List.getElem?_append_right (Nat.le_refl _), Nat.sub_self] at e
        cases e
        refine ⟨f.F, by show (if x = x then none else _) = none; rw [if_pos rfl], .i c [] [], ?_, C, dx, [], hC, upd_same, rfl, .nil⟩
        rw [R.stL, List.getElem?_append_right (Nat.le_refl _), Nat.sub_self]; rfl
    · have e1 : (w.A ++ [x])[k]? = some a := e1
      have e2 : (w.A ++ [x])[m]? = some a := e2
      have lt1 := (List.getElem?_eq_some_iff.mp e1).1
      have lt2 := (List.getElem?_eq_some_iff.mp e2).1
      rw [List.length_append, List.length_singleton] at lt1 lt2
      have at_ : ∀ j, j < w.A.length + 1 → (w.A ++ [x])[j]? = some a → (j < w.A.length ∧ w.A[j]? = some a) ∨ (j = w.A.length ∧ a = x) := fun j hj e => by
        by_cases hk : j < w.A.length
        · rw [List.getElem?_append_left hk] at e; exact .inl ⟨hk, e⟩
        · have : j = w.A.length := by omega
          subst this
          rw [List.getElem?_append_right (Nat.le_refl _), Nat.sub_self] at e
          cases e; exact .inr ⟨rfl, rfl⟩
      rcases at_ k lt1 e1 with ⟨a1, a2⟩ | ⟨a1, a2⟩
      · rcases at_ m lt2 e2 with ⟨b1, b2⟩ | ⟨b1, b2⟩
        · exact R.stN k m a a2 b2
        · subst b2; exact absurd (List.mem_of_getElem? a2) f.A
      · rcases at_ m lt2 e2 with ⟨b1, b2⟩ | ⟨b1, b2⟩
        · subst a2; exact absurd (List.mem_of_getElem? b2) f.A
        · omega
  have hx0 : Rep G w.F (w.A ++ [x]) (.ref x) (.ref ρ.st.length) := .ref (by rw [← R.stL, List.getElem?_append_right (Nat.le_refl _), Nat.sub_self]; rfl)
  refine ⟨by simp [hv.length, hn], _, _, .ref ρ.st.length :: ds, rfl, inn, .cons hx0 (hv.mono (Same.refl _) (Ax.app _ _)), ?_⟩
  -- behind the call
  have back : ∀ {w2 : Wd} {st2 : List MO} {H2 : Hp}, Ext { w.inn (upd (upd H dx (.own x)) x (.ins C dx [])) with A := w.A ++ [x], T := fun a => if a = x then none else restT w (upd (upd H dx (.own x)) x (.ins C dx [])) a } w2 → Wok G w2 st2 H2 →
      Ext w (w2.unp w) ∧ Rel G (w2.unp w) { ρ with st := st2 } σ H2 := fun {w2 st2 H2} e R2 => by
    have eT : w2.T = fun a => if a = x then none else restT w (upd (upd H dx (.own x)) x (.ins C dx [])) a := e.T
    have kT : ∀ a o, w.F a = none → a ∉ w.A → H a = some o → w2.T a = some o := fun a o q1 q2 q3 => by
      have n1 : a ≠ x := fun z => by rw [z, h1] at q3; cases q3
      have n2 : a ≠ dx := fun z => by rw [z, h2] at q3; cases q3
      rw [eT]
      show (if a = x then none else _) = _
      rw [if_neg n1]
      exact restT_of q1 q2 (by rw [upd_ne n1, upd_ne n2]; exact q3)
    have sT : Same w.T w2.T := fun a o h => by
      refine kT a o ?_ ?_ (R.subT _ _ h)
      · rcases R.dis a with z | z
        · exact z
        · rw [h] at z; cases z
      · intro m
        obtain ⟨n, en⟩ := mem_A m
        have := (R.stR n a en).2.1
        rw [h] at this; cases this
    have kp : ∀ i p, OwnAt ρ σ i p → ∃ o, H p = some o ∧ w2.T p = some o := fun i p h => by
      obtain ⟨o, ho⟩ := R.inOwn h
      obtain ⟨q1, _, q3⟩ := R.own i p h
      exact ⟨o, ho, kT p o q1 q3 ho⟩
    have EX : Ext w (w2.unp w) := ⟨e.F, (Ax.app _ _).trans e.A, rfl, rfl, rfl⟩
    refine ⟨EX, {
      subF := R2.subF
      subT := sT.trans R2.subT
      dis := fun a => by
        rcases R2.dis a with z | z
        · exact .inl z
        · right; exact none_of fun o h => (by rw [sT _ _ h] at z; cases z)
      stL := R2.stL
      stR := fun n a en => by
        obtain ⟨h1, h2, mo, h3, h4⟩ := R2.stR n a en
        exact ⟨h1, none_of fun o h => (by rw [sT _ _ h] at h2; cases h2), mo, h3, h4.mono (w := w2) (w' := w2.unp w) (Same.refl _) (Ax.refl _)⟩
      stN := R2.stN
      len := R.len
      sl := fun i x' ex => ((R.sl i x' ex).ext (w' := w2.unp w) EX).heap fun p ep ho => by
        obtain ⟨o, h1, h2⟩ := kp i p ⟨ep, x', ex, ho⟩
        rw [h1, R2.subT _ _ h2]
      own := fun i p h => by
        obtain ⟨o, h1, h2⟩ := kp i p h
        refine ⟨?_, (R.own i p h).2.1, fun m => ?_⟩
        · rcases R2.dis p with z | z
          · exact z
          · rw [h2] at z; cases z
        · obtain ⟨n, en⟩ := mem_A m
          have := (R2.stR n p en).2.1
          rw [h2] at this; cases this
      ownN := R.ownN
      lT := R.lT }⟩
  unfold mkS at g
  cases q : fi (.ref ρ.st.length :: ds) (ρ.st ++ [.i c [] []]) with
  | no => rw [q] at g; exact g
  | ex c' fs st' =>
    rw [q] at g
    intro cls d H' w' e R' x
    obtain ⟨e', R''⟩ := back e R'
    exact g cls d H' _ e' R'' x.unp
  | ok r st' =>
    rw [q] at g
    intro v H' w' e R' rf
    obtain ⟨e', R''⟩ := back e R'
    cases r with
    | nl xs => exact g.elim
    | bw i => exact g.elim
    | v d =>
      cases d <;> try exact g.elim
      obtain rfl := Rep.inv_non rf
      refine ⟨rfl, g H' _ e' R'' _ (hx0.mono ?_ e.A)⟩
      exact e.F
theorem mkI_of {n c : Nat} {C x dx : Addr} {fi : List Dt → List MO → Out (List MO) (List Str × List Dt)} {ds : List Dt} {vs : List V} {Q : VK} (R : Rel G w ρ σ H) (hC : G.cls c = some C) (hv : RepL G w.F w.A vs ds) (hn : ds.length = n) (h1 : H x = none) (h2 : H dx = none) (h3 : dx ≠ x)
    (g : Go G W w σ (liftF (mkI c fi ds ρ.st) ρ) fun r ρ' w' H' => ∀ v, RR G w' ρ' σ H' r v → Q v H') :
    spI G n c fi (.ref x :: vs) (upd (upd H dx (.own x)) x (.ins C dx [])) (fun v H2 => v = .non ∧ Q (.ref x) H2) (WE W σ) := by
  have h1' : (upd H dx (.own x)) x = none := by rw [upd_ne (Ne.symm h3)]; exact h1
  have R1 : Rel G w ρ σ (upd (upd H dx (.own x)) x (.ins C dx [])) := (R.new h2).new h1'
  have f := R.fresh h1
  -- the instance stands beside what is kept
  have E := R1.toWok.enter
  have inn : Wok G { w.inn (upd (upd H dx (.own x)) x (.ins C dx [])) with M := some x, T := fun a => if a = x then none else restT w (upd (upd H dx (.own x)) x (.ins C dx [])) a } ρ.st (upd (upd H dx (.own x)) x (.ins C dx [])) := by
    refine ⟨E.subF, fun a o e => ?_, fun a => ?_, E.stL, fun k a e => ?_, E.stN⟩
    · have e : (if a = x then none else restT w _ a) = some o := e
      by_cases q : a = x
      · rw [if_pos q] at e; cases e
      · rw [if_neg q] at e; exact E.subT _ _ e
    · rcases E.dis a with z | z
      · exact .inl z
      · right; show (if a = x then none else restT w _ a) = none
        split
        · rfl
        · exact z
    · obtain ⟨z1, z2, mo, z3, z4⟩ := E.stR k a e
      refine ⟨z1, ?_, mo, z3, z4.mono (Same.refl _) (Ax.refl _)⟩
      show (if a = x then none else restT w _ a) = none
      split
      · rfl
      · exact z2
  refine ⟨by simp [hv.length, hn], _, _, ds, x, C, dx, vs, rfl, rfl, inn, rfl, hv, hC, upd_same, f.F, by show (if x = x then none else _) = none; rw [if_pos rfl], f.A, ?_⟩
  have back : ∀ {w2 : Wd} {st2 : List MO} {H2 : Hp}, Ext { w.inn (upd (upd H dx (.own x)) x (.ins C dx [])) with M := some x, T := fun a => if a = x then none else restT w (upd (upd H dx (.own x)) x (.ins C dx [])) a } w2 → Wok G w2 st2 H2 →
      Ext w (w2.unp w) ∧ Rel G (w2.unp w) { ρ with st := st2 } σ H2 ∧ (w2.F x = none → x ∉ w2.A → Free (w2.unp w) { ρ with st := st2 } σ x) := fun {w2 st2 H2} e R2 => by
    have eT : w2.T = fun a => if a = x then none else restT w (upd (upd H dx (.own x)) x (.ins C dx [])) a := e.T
    have kT : ∀ a o, w.F a = none → a ∉ w.A → H a = some o → w2.T a = some o := fun a o q1 q2 q3 => by
      have n1 : a ≠ x := fun z => by rw [z, h1] at q3; cases q3
      have n2 : a ≠ dx := fun z => by rw [z, h2] at q3; cases q3
      rw [eT]
      show (if a = x then none else _) = _
      rw [if_neg n1]
      exact restT_of q1 q2 (by rw [upd_ne n1, upd_ne n2]; exact q3)
    have sT : Same w.T w2.T := fun a o h => by
      refine kT a o ?_ ?_ (R.subT _ _ h)
      · rcases R.dis a with z | z
        · exact z
        · rw [h] at z; cases z
      · intro m
        obtain ⟨n, en⟩ := mem_A m
        have := (R.stR n a en).2.1
        rw [h] at this; cases this
    have kp : ∀ i p, OwnAt ρ σ i p → ∃ o, H p = some o ∧ w2.T p = some o := fun i p h => by
      obtain ⟨o, ho⟩ := R.inOwn h
      obtain ⟨q1, _, q3⟩ := R.own i p h
      exact ⟨o, ho, kT p o q1 q3 ho⟩
    have EX : Ext w (w2.unp w) := ⟨e.F, e.A, rfl, rfl, rfl⟩
    refine ⟨EX, {
      subF := R2.subF
      subT := sT.trans R2.subT
      dis := fun a => by
        rcases R2.dis a with z | z
        · exact .inl z
        · right; exact none_of fun o h => (by rw [sT _ _ h] at z; cases z)
      stL := R2.stL
      stR := fun n a en => by
        obtain ⟨h1, h2, mo, h3, h4⟩ := R2.stR n a en
        exact ⟨h1, none_of fun o h => (by rw [sT _ _ h] at h2; cases h2), mo, h3, h4.mono (w := w2) (w' := w2.unp w) (Same.refl _) (Ax.refl _)⟩
      stN := R2.stN
      len := R.len
      sl := fun i x' ex => ((R.sl i x' ex).ext (w' := w2.unp w) EX).heap fun p ep ho => by
        obtain ⟨o, h1, h2⟩ := kp i p ⟨ep, x', ex, ho⟩
        rw [h1, R2.subT _ _ h2]
      own := fun i p h => by
        obtain ⟨o, h1, h2⟩ := kp i p h
        refine ⟨?_, (R.own i p h).2.1, fun m => ?_⟩
        · rcases R2.dis p with z | z
          · exact z
          · rw [h2] at z; cases z
        · obtain ⟨n, en⟩ := mem_A m
          have := (R2.stR n p en).2.1
          rw [h2] at this; cases this
      ownN := R.ownN
      lT := R.lT }, fun n1 n2 => ⟨n1, none_of fun o h => ?_, n2, fun i m => ?_⟩⟩
    · have h : w.T x = some o := h
      rw [f.T] at h; cases h
    · obtain ⟨o, q, _⟩ := kp i x m
      rw [h1] at q; cases q
  unfold mkI at g
  cases q : fi ds ρ.st with
  | no => rw [q] at g; exact g
  | ex c' fs st' =>
    rw [q] at g
    intro cls d H' w' e R' x
    obtain ⟨e', R'', _⟩ := back e R'
    exact g cls d H' _ e' R'' x.unp
  | ok r st' =>
    rw [q] at g
    intro H' w' fl dx' e R' hx en rl n1 n2 n3
    obtain ⟨e', R'', fr⟩ := back e R'
    have fx := fr n1 n3
    refine ⟨rfl, g H' _ (e'.trans (Wd.frz_ext fx.F)) (R''.freeze fx hx) _ ?_⟩
    show Rep G _ _ _ (.ins c r.1 r.2)
    rw [← en]
    exact .ins hC (by show upd _ x _ x = _; exact upd_same) (rl.mono (Wd.frz_ext (w := w'.unp w) fx.F).F (Ax.refl _))
theorem sv_make {x : Str} {p : Pos} {e : Expr} {es : List Expr} {ms : List ME} {k : Nat} (hr : Room (k + 1) X.A) (tk : Takes X W) (hd : Mkd G X k x (es.length + 1) (L.make x)) (hl : ms.length = es.length + 1) (hg : Gl X x) (ha : PA X (e :: es) (tA G W (evs L ms)))
    (hdb : (x == ("__debug__" : Str)) = false) (he : starEach (e :: es) X.env = (false, eval e X.env) :: starEach es X.env) (hpl : (backTo pos (starEach es X.env)).any (·.1) = false) :
    PE X (.Call (.Name x p) (e :: es) [] pos) (tE G W (ev L (.make x ms))) := by
  obtain ⟨C, a, fd, ps, c, hm, M, hb, hC, F⟩ := hd.ex
  rcases F with ⟨fi, F, ef⟩ | ⟨fi, F, ef⟩
  · refine (pe_makeS (E := WE W) M F hr hg hm hb (fun σ => passAt tk σ) ha hdb he hpl).imp fun σ H Q h => ?_
    obtain ⟨w, ρ, R, g⟩ := h
    rw [ev, ef] at g
    exact ⟨w, ρ, R, g.bind.mono fun ds ρ1 w1 H1 eo e1 R1 q vs hvs x dx h1 h2 h3 => mkS_of R1 hC hvs (by rw [evs_len eo]; exact hl) h1 h2 h3 q⟩
  · refine (pe_makeS (E := WE W) M F hr hg hm hb (fun σ => passAt tk σ) ha hdb he hpl).imp fun σ H Q h => ?_
    obtain ⟨w, ρ, R, g⟩ := h
    rw [ev, ef] at g
    exact ⟨w, ρ, R, g.bind.mono fun ds ρ1 w1 H1 eo e1 R1 q vs hvs x dx h1 h2 h3 => mkI_of R1 hC hvs (by rw [evs_len eo]; exact hl) h1 h2 h3 q⟩
theorem sv_make0 {x : Str} {p : Pos} {k : Nat} (hr : Room (k + 1) X.A) (tk : Takes X W) (hd : Mkd G X k x 0 (L.make x)) (hg : Gl X x) (hdb : (x == ("__debug__" : Str)) = false) :
    PE X (.Call (.Name x p) [] [] pos) (tE G W (ev L (.make x []))) := by
  obtain ⟨C, a, fd, ps, c, hm, M, hb, hC, F⟩ := hd.ex
  rcases F with ⟨fi, F, ef⟩ | ⟨fi, F, ef⟩
  · refine (pe_makeS0 (E := WE W) M F hr hg hm hb (fun σ => passAt tk σ) hdb).imp fun σ H Q h => ?_
    obtain ⟨w, ρ, R, g⟩ := h
    rw [ev, evs, ef] at g
    exact fun x dx h1 h2 h3 => mkS_of R hC .nil rfl h1 h2 h3 g
  · refine (pe_makeS0 (E := WE W) M F hr hg hm hb (fun σ => passAt tk σ) hdb).imp fun σ H Q h => ?_
    obtain ⟨w, ρ, R, g⟩ := h
    rw [ev, evs, ef] at g
    exact fun x dx h1 h2 h3 => mkI_of R hC .nil rfl h1 h2 h3 g
end
end Mq

/-! MqBif: built-in functions, methods of lists, isinstance. -/
namespace Mq
open PySem L2
theorem minL_of : ∀ {ns : List Int} {m : Int}, m ∈ ns → (∀ y, y ∈ ns → m ≤ y) → minL ns = some m
  | [], m, h, _ => by cases h
  | [x], m, h, _ => by simp at h; subst h; rfl
  | x :: y :: r, m, h, k => by
    have e : minL (x :: y :: r) = (minL (y :: r)).map fun m => if x ≤ m then x else m := rfl
    rw [e]
    obtain ⟨m', h1, h2⟩ : ∃ m', m' ∈ y :: r ∧ ∀ z, z ∈ y :: r → m' ≤ z := by
      clear h k e
      induction r generalizing y with
      | nil => exact ⟨y, by simp, by simp⟩
      | cons z r ih =>
        obtain ⟨m', h1, h2⟩ := ih z
        by_cases c : y ≤ m'
        · exact ⟨y, by simp, fun u hu => by
            rcases List.mem_cons.mp hu with q | q
            · subst q; exact Int.le_refl _
            · exact Int.le_trans c (h2 u q)⟩
        · exact ⟨m', List.mem_cons_of_mem _ h1, fun u hu => by
            rcases List.mem_cons.mp hu with q | q
            · subst q; omega
            · exact h2 u q⟩
    rw [minL_of h1 h2]
    simp only [Option.map_some, Option.some.injEq]
    have a1 := k x (by simp)
    have a2 := k m' (List.mem_cons_of_mem _ h1)
    rcases List.mem_cons.mp h with q | q
    · subst q; rw [if_pos a2]
    · have a3 := h2 m q
      split <;> omega
theorem maxL_of : ∀ {ns : List Int} {m : Int}, m ∈ ns → (∀ y, y ∈ ns → y ≤ m) → maxL ns = some m
  | [], m, h, _ => by cases h
  | [x], m, h, _ => by simp at h; subst h; rfl
  | x :: y :: r, m, h, k => by
    have e : maxL (x :: y :: r) = (maxL (y :: r)).map fun m => if m ≤ x then x else m := rfl
    rw [e]
    obtain ⟨m', h1, h2⟩ : ∃ m', m' ∈ y :: r ∧ ∀ z, z ∈ y :: r → z ≤ m' := by
      clear h k e
      induction r generalizing y with
      | nil => exact ⟨y, by simp, by simp⟩
      | cons z r ih =>
        obtain ⟨m', h1, h2⟩ := ih z
        by_cases c : m' ≤ y
        · exact ⟨y, by simp, fun u hu => by
            rcases List.mem_cons.mp hu with q | q
            · subst q; exact Int.le_refl _
            · exact Int.le_trans (h2 u q) c⟩
        · exact ⟨m', List.mem_cons_of_mem _ h1, fun u hu => by
            rcases List.mem_cons.mp hu with q | q
            · subst q; omega
            · exact h2 u q⟩
    rw [maxL_of h1 h2]
    simp only [Option.map_some, Option.some.injEq]
    have a1 := k x (by simp)
    have a2 := k m' (List.mem_cons_of_mem _ h1)
    rcases List.mem_cons.mp h with q | q
    · subst q; rw [if_pos a2]
    · have a3 := h2 m q
      split <;> omega
theorem isort_of {ns ns' : List Int} (h : ns'.Perm ns) (k : ns'.Pairwise (· ≤ ·)) : ns' = isort ns := by
  have p2 : (isort ns).Perm ns := List.mergeSort_perm _ _
  have s2 : (isort ns).Pairwise (· ≤ ·) := by
    have := List.pairwise_mergeSort (le := fun a b : Int => decide (a ≤ b)) (by intro a b c h1 h2; simp at *; omega) (by intro a b; simp; omega) ns
    exact this.imp (by intro a b h; simpa using h)
  exact List.Perm.eq_of_pairwise (le := (· ≤ ·)) (fun a b _ _ h1 h2 => Int.le_antisymm h1 h2) k s2 (h.trans p2.symm)
section
variable {G : Gx} {W : WX} {w w1 : Wd} {ρ : SS} {σ : L2.St} {H : Hp} {X : Cx} {pos : Pos} {L : Fns}
/-- what a built-in of one argument does -/
def B1 (G : Gx) (X : Cx) (x : Str) (r : List V → Hp → VK → Prop) : Prop :=
  ∀ (w : Wd) (ρ : SS) (σ : L2.St) (H : Hp) (a z : RV) (va : V) (Q : VK), Rel G w ρ σ H → RR G w ρ σ H a va → bif1 x a ρ = some z → (∀ v H' w', Ext w w' → Rel G w' ρ σ H' → RR G w' ρ σ H' z v → Q v H') → r [va] H Q
theorem ints_ok {a : RV} {va : V} {ns : List Int} (R : Rel G w ρ σ H) (h : RR G w ρ σ H a va) (e : (rdl ρ a).bind allInts = some ns) : ∃ p, va = .ref p ∧ SqL G.K H p (ns.map V.int) := by
  simp only [Option.bind_eq_some_iff] at e
  obtain ⟨ds, e1, e2⟩ := e
  obtain ⟨p, vs, rfl, hp, rl⟩ := rdl_ok R h e1
  rw [repL_ints_inv rl e2] at hp
  exact ⟨p, rfl, hp⟩
theorem bls_ok {a : RV} {va : V} {ns : List Bool} (R : Rel G w ρ σ H) (h : RR G w ρ σ H a va) (e : (rdl ρ a).bind allBls = some ns) : ∃ p, va = .ref p ∧ SqL G.K H p (ns.map V.bl) := by
  simp only [Option.bind_eq_some_iff] at e
  obtain ⟨ds, e1, e2⟩ := e
  obtain ⟨p, vs, rfl, hp, rl⟩ := rdl_ok R h e1
  rw [repL_bls_inv rl e2] at hp
  exact ⟨p, rfl, hp⟩
theorem b1_len (hK : X.K = G.K) : B1 G X "len" (fun xs H Q => ∃ x n, xs = [x] ∧ LenV X.K x H n ∧ Q (.int n) H) := by
  intro w ρ σ H a z va Q R ha h q
  rw [hK]
  have sq : ∀ xs, rds ρ a = some xs → z = .v (.int xs.length) → ∃ x n, [va] = [x] ∧ LenV G.K x H n ∧ Q (.int n) H := fun xs e1 e2 => by
    subst e2
    obtain ⟨p, vs, rfl, hp, rl⟩ := rds_ok R ha e1
    refine ⟨_, vs.length, rfl, ?_, ?_⟩
    · rcases hp with hp | hp
      · exact .inl ⟨vs, hp, rfl⟩
      · exact .inr ⟨vs, hp, rfl⟩
    · rw [rl.length]; exact fin_d R (.int _) q
  have e : bif1 "len" a ρ = bLen a ρ := rfl
  rw [e] at h
  unfold bLen at h
  split at h
  · simp only [Option.ite_none_right_eq_some] at h
    obtain ⟨c, h⟩ := h; cases h
    obtain rfl := Rep.inv_str ha
    exact ⟨_, _, rfl, ⟨c, rfl⟩, fin_d R (.int _) q⟩
  · simp only [Option.map_eq_some_iff] at h
    obtain ⟨xs, e1, e2⟩ := h
    exact sq xs e1 e2.symm
theorem b1_abs : B1 G X "abs" (fun xs H Q => ∃ i, xs = [.int i] ∧ Q (.int (if i < 0 then -i else i)) H) := by
  intro w ρ σ H a z va Q R ha h q
  have e : bif1 "abs" a ρ = bAbs a := rfl
  rw [e] at h
  unfold bAbs at h
  split at h
  · cases h
    obtain rfl := Rep.inv_int ha
    exact ⟨_, rfl, fin_d R (.int _) q⟩
  · simp at h
theorem b1_int : B1 G X "int" (fun xs H Q => (∃ i, xs = [.int i] ∧ Q (.int i) H) ∨ ∃ k, xs = [.bl k] ∧ Q (.int (if k then 1 else 0)) H) := by
  intro w ρ σ H a z va Q R ha h q
  have e : bif1 "int" a ρ = bInt a := rfl
  rw [e] at h
  unfold bInt at h
  split at h
  · cases h
    obtain rfl := Rep.inv_int ha
    exact .inl ⟨_, rfl, fin_d R (.int _) q⟩
  · cases h
    obtain rfl := Rep.inv_bl ha
    exact .inr ⟨_, rfl, fin_d R (.int _) q⟩
  · simp at h
theorem b1_tuple (hK : X.K = G.K) : B1 G X "tuple" (fun xs H Q => ∃ p ys, xs = [.ref p] ∧ ((SqL X.K H p ys ∧ ∀ l, H l = none → Q (.ref l) (upd H l (.tup ys))) ∨ (SqT X.K H p ys ∧ Q (.ref p) H))) := by
  intro w ρ σ H a z va Q R ha h q
  rw [hK]
  have e : bif1 "tuple" a ρ = bTup a ρ := rfl
  rw [e] at h
  unfold bTup at h
  split at h
  · cases h
    obtain ⟨p, vs, rfl, hp, rl⟩ := Rep.inv_tup ha
    exact ⟨p, vs, rfl, .inr ⟨sqt_mono R.subF hp, fin_d R ha q⟩⟩
  · simp only [Option.map_eq_some_iff] at h
    obtain ⟨xs, e1, e2⟩ := h
    subst e2
    obtain ⟨p, vs, rfl, hp, rl⟩ := rdl_ok R ha e1
    exact ⟨p, vs, rfl, .inl ⟨hp, fun l hl => fin_tup R rl hl q⟩⟩
theorem b1_list (hK : X.K = G.K) : B1 G X "list" (fun xs H Q => ∃ p ys, xs = [.ref p] ∧ (SqL X.K H p ys ∨ SqT X.K H p ys) ∧ ∀ l, H l = none → Q (.ref l) (upd H l (.lst ys))) := by
  intro w ρ σ H a z va Q R ha h q
  rw [hK]
  have e : bif1 "list" a ρ = (rds ρ a).map fun xs => .nl xs := rfl
  rw [e] at h
  simp only [Option.map_eq_some_iff] at h
  obtain ⟨xs, e1, e2⟩ := h
  subst e2
  obtain ⟨p, vs, rfl, hp, rl⟩ := rds_ok R ha e1
  exact ⟨p, vs, rfl, hp, fun l hl => fin_nl R rl hl q⟩
theorem b1_all (hK : X.K = G.K) : B1 G X "all" (rAll X.K) := by
  intro w ρ σ H a z va Q R ha h q
  rw [hK]
  have e : bif1 "all" a ρ = ((rdl ρ a).bind allBls).map fun bs => .v (.bl (bs.all id)) := rfl
  rw [e] at h
  simp only [Option.map_eq_some_iff] at h
  obtain ⟨bs, e1, e2⟩ := h
  subst e2
  obtain ⟨p, rfl, hp⟩ := bls_ok R ha e1
  exact ⟨p, bs, rfl, hp, fin_d R (.bl _) q⟩
theorem b1_any (hK : X.K = G.K) : B1 G X "any" (rAny X.K) := by
  intro w ρ σ H a z va Q R ha h q
  rw [hK]
  have e : bif1 "any" a ρ = ((rdl ρ a).bind allBls).map fun bs => .v (.bl (bs.any id)) := rfl
  rw [e] at h
  simp only [Option.map_eq_some_iff] at h
  obtain ⟨bs, e1, e2⟩ := h
  subst e2
  obtain ⟨p, rfl, hp⟩ := bls_ok R ha e1
  exact ⟨p, bs, rfl, hp, fin_d R (.bl _) q⟩
theorem b1_sum (hK : X.K = G.K) : B1 G X "sum" (rSum X.K) := by
  intro w ρ σ H a z va Q R ha h q
  rw [hK]
  have e : bif1 "sum" a ρ = ((rdl ρ a).bind allInts).map fun ns => .v (.int ns.sum) := rfl
  rw [e] at h
  simp only [Option.map_eq_some_iff] at h
  obtain ⟨bs, e1, e2⟩ := h
  subst e2
  obtain ⟨p, rfl, hp⟩ := ints_ok R ha e1
  exact ⟨p, bs, rfl, hp, fin_d R (.int _) q⟩
theorem b1_min (hK : X.K = G.K) : B1 G X "min" (rMin X.K) := by
  intro w ρ σ H a z va Q R ha h q
  rw [hK]
  have e : bif1 "min" a ρ = (((rdl ρ a).bind allInts).bind minL).map fun m => .v (.int m) := rfl
  rw [e] at h
  simp only [Option.map_eq_some_iff, Option.bind_eq_some_iff] at h
  obtain ⟨m, ⟨ns, e1, e3⟩, e2⟩ := h
  subst e2
  obtain ⟨p, rfl, hp⟩ := ints_ok R ha (by simpa only [Option.bind_eq_some_iff] using e1)
  refine ⟨p, ns, rfl, hp, ?_, fun m' h1 h2 => ?_⟩
  · cases ns with
    | nil => simp [minL] at e3
    | cons => simp
  · rw [minL_of h1 h2] at e3; cases e3
    exact fin_d R (.int _) q
theorem b1_max (hK : X.K = G.K) : B1 G X "max" (rMax X.K) := by
  intro w ρ σ H a z va Q R ha h q
  rw [hK]
  have e : bif1 "max" a ρ = (((rdl ρ a).bind allInts).bind maxL).map fun m => .v (.int m) := rfl
  rw [e] at h
  simp only [Option.map_eq_some_iff, Option.bind_eq_some_iff] at h
  obtain ⟨m, ⟨ns, e1, e3⟩, e2⟩ := h
  subst e2
  obtain ⟨p, rfl, hp⟩ := ints_ok R ha (by simpa only [Option.bind_eq_some_iff] using e1)
  refine ⟨p, ns, rfl, hp, ?_, fun m' h1 h2 => ?_⟩
  · cases ns with
    | nil => simp [maxL] at e3
    | cons => simp
  · rw [maxL_of h1 h2] at e3; cases e3
    exact fin_d R (.int _) q
theorem b1_sorted (hK : X.K = G.K) : B1 G X "sorted" (rSortedI X.K) := by
  intro w ρ σ H a z va Q R ha h q
  rw [hK]
  have e : bif1 "sorted" a ρ = ((rdl ρ a).bind allInts).map fun ns => .nl ((isort ns).map .int) := rfl
  rw [e] at h
  simp only [Option.map_eq_some_iff] at h
  obtain ⟨ns, e1, e2⟩ := h
  subst e2
  obtain ⟨p, rfl, hp⟩ := ints_ok R ha e1
  refine ⟨p, ns, rfl, hp, fun ns' p' h1 h2 h3 => ?_⟩
  rw [isort_of h1 h2]
  exact fin_nl R (RepL.ints _) h3 q
/-- the built-ins of one argument: the value of the name, the rule -/
structure Bf (G : Gx) (X : Cx) (x : Str) : Prop where
  ex : (∃ id r, bootBuiltins x = some (.builtin id) ∧ CallR X (.builtin id) r ∧ B1 G X x r) ∨ ∃ T r, bootBuiltins x = some (.type T) ∧ CallR X (.type T) r ∧ B1 G X x r
def bnames : List Str := ["len", "abs", "int", "tuple", "list", "all", "any", "sum", "min", "max", "sorted"]
theorem bf_all (hK : X.K = G.K) (hc : X.calm = true) : ∀ x ∈ bnames, Bf G X x := by
  intro x hx
  simp only [bnames, List.mem_cons, List.not_mem_nil, or_false] at hx
  rcases hx with rfl | rfl | rfl | rfl | rfl | rfl | rfl | rfl | rfl | rfl | rfl
  · exact ⟨.inl ⟨_, _, by decide +kernel, call_len, b1_len hK⟩⟩
  · exact ⟨.inl ⟨_, _, by decide +kernel, call_abs, b1_abs⟩⟩
  · exact ⟨.inr ⟨_, _, by decide +kernel, call_int1, b1_int⟩⟩
  · exact ⟨.inr ⟨_, _, by decide +kernel, call_tuple_of, b1_tuple hK⟩⟩
  · exact ⟨.inr ⟨_, _, by decide +kernel, call_list_of, b1_list hK⟩⟩
  · exact ⟨.inl ⟨_, _, by decide +kernel, cr_all hc, b1_all hK⟩⟩
  · exact ⟨.inl ⟨_, _, by decide +kernel, cr_any hc, b1_any hK⟩⟩
  · exact ⟨.inl ⟨_, _, by decide +kernel, cr_sum hc, b1_sum hK⟩⟩
  · exact ⟨.inl ⟨_, _, by decide +kernel, cr_min hc, b1_min hK⟩⟩
  · exact ⟨.inl ⟨_, _, by decide +kernel, cr_max hc, b1_max hK⟩⟩
  · exact ⟨.inl ⟨_, _, by decide +kernel, cr_sortedI, b1_sorted hK⟩⟩
theorem sv_bif1 {x : Str} {e : Expr} {m : ME} {p : Pos} (hb : Bf G X x) (hg : Gl X x) (hm : X.mg x = none) (hn : x ≠ "__name__") (hdb : (x == ("__debug__" : Str)) = false) (hs : starEach [e] X.env = (false, eval e X.env) :: starEach [] X.env) (he : PE X e (tE G W (ev L m))) :
    PE X (.Call (.Name x p) [e] [] pos) (tE G W (ev L (.bif x [m]))) := by
  have fin : ∀ {r : List V → Hp → VK → Prop}, B1 G X x r → ∀ σ H Q, tE G W (ev L (.bif x [m])) σ H Q → tCB r (tCons (tE G W (ev L m)) tNil) σ H Q := fun {r} b σ H Q h => by
    obtain ⟨w, ρ, R, g⟩ := h
    rw [ev] at g
    refine ⟨w, ρ, R, g.bind.mono fun a ρ1 w1 H1 _ e1 R1 q va ha => ?_⟩
    obtain ⟨z, ez, q⟩ := lift_some q
    exact b w1 ρ1 σ H1 a z va Q R1 ha ez fun v H' w' e R' r => q.at e R' v r
  rcases hb.ex with ⟨id, r, hv, hc, b⟩ | ⟨T, r, hv, hc, b⟩
  · exact (pe_callB hc hg hm hv (pa_cons he pa_nil hs) hn hdb hs rfl).imp (fin b)
  · exact (pe_callTy hc hg hm hv (pa_cons he pa_nil hs) hn hdb hs rfl).imp (fin b)
/-- min, max of two -/
theorem sv_bif2 {x : Str} {a b : Expr} {ma mb : ME} {p : Pos} (hx : x = "min" ∨ x = "max") (hc : X.calm = true) (hg : Gl X x) (hm : X.mg x = none) (hs : starEach [a, b] X.env = (false, eval a X.env) :: starEach [b] X.env) (hs2 : starEach [b] X.env = (false, eval b X.env) :: starEach [] X.env) (ha : PE X a (tE G W (ev L ma))) (hb : PE X b (tE G W (ev L mb))) :
    PE X (.Call (.Name x p) [a, b] [] pos) (tE G W (ev L (.bif x [ma, mb]))) := by
  have fin : ∀ {r : List V → Hp → VK → Prop} {f : Int → Int → Int}, (∀ i j H Q, Q (.int (f i j)) H → r [.int i, .int j] H Q) → (∀ i j z, bif2 x (.int i) (.int j) = some z → z = .v (.int (f i j))) → ∀ σ H Q, tE G W (ev L (.bif x [ma, mb])) σ H Q → tCB r (tCons (tE G W (ev L ma)) (tCons (tE G W (ev L mb)) tNil)) σ H Q := fun {r f} hr hf σ H Q h => by
    obtain ⟨w, ρ, R, g⟩ := h
    rw [ev] at g
    refine ⟨w, ρ, R, g.bind.mono fun x1 ρ1 w1 H1 _ e1 R1 q va hva => ?_⟩
    obtain ⟨d, ρ2, w2, ev2, e2, R2, rep, q2⟩ := val_ok R1 hva q.bind
    refine ⟨w2, ρ2, R2, q2.bind.mono fun x3 ρ3 w3 H3 _ e3 R3 q3 vb hvb => ?_⟩
    obtain ⟨d', ρ4, w4, ev4, e4, R4, rep4, q4⟩ := val_ok R3 hvb q3.bind
    obtain ⟨z, ez, q4⟩ := lift_some q4
    have ez' := ez
    unfold bif2 at ez'
    split at ez'
    · obtain rfl := Rep.inv_int rep
      obtain rfl := Rep.inv_int rep4
      have := hf _ _ _ ez
      subst this
      exact hr _ _ _ _ (q4.here R4 _ (.int _))
    · simp at ez'
  rcases hx with rfl | rfl
  · refine (pe_callB (call_min2 hc) hg hm (by decide +kernel) (pa_cons ha (pa_cons hb pa_nil hs2) hs) (by decide) (by decide) hs (by rw [hs2]; rfl)).imp (fin (f := fun i j => if j < i then j else i) (fun i j H Q q => ⟨i, j, rfl, q⟩) fun i j z e => ?_)
    have e : some (RV.v (.int (if j < i then j else i))) = some z := e
    cases e; rfl
  · refine (pe_callB (call_max2 hc) hg hm (by decide +kernel) (pa_cons ha (pa_cons hb pa_nil hs2) hs) (by decide) (by decide) hs (by rw [hs2]; rfl)).imp (fin (f := fun i j => if j > i then j else i) (fun i j H Q q => ⟨i, j, rfl, q⟩) fun i j z e => ?_)
    have e : some (RV.v (.int (if j > i then j else i))) = some z := e
    cases e; rfl
/-! ### backwards -/
theorem RepL.rev {F : Hp} {A : List Addr} {vs : List V} {ds : List Dt} (r : RepL G F A vs ds) : RepL G F A vs.reverse ds.reverse := by
  induction vs generalizing ds with
  | nil => cases r; exact .nil
  | cons v vs ih =>
    cases r with
    | cons a t => rw [List.reverse_cons, List.reverse_cons]; exact (ih t).append (.cons a .nil)
theorem sv_rev {e : Expr} {m : ME} {k : Nat} {p1 p2 p3 : Pos} (hK : X.K = G.K) (he : PE X e (tE G W (ev L m))) : PE X (.Subscript e (.Slice none none (some (.UnaryOp .USub (.Constant (.int 1) k p1) p2)) p3) pos) (tE G W (ev L (.rev m))) :=
  (pe_revL he).imp fun σ H Q h => by
    obtain ⟨w, ρ, R, g⟩ := h
    rw [ev] at g
    rw [hK]
    refine ⟨w, ρ, R, g.bind.mono fun x ρ1 w1 H1 _ e1 R1 q va hva => ?_⟩
    cases er : rdl ρ1 x with
    | none => rw [er] at q; exact q.elim
    | some xs =>
      rw [er] at q
      obtain ⟨p, vs, rfl, hs, rl⟩ := rdl_ok R1 hva er
      refine ⟨p, vs, rfl, hs, fun a ha => ?_⟩
      exact q _ w1 (Ext.refl _) (R1.new ha) _ ⟨a, _, rfl, upd_same, rl.rev, R1.fresh ha⟩
end
end Mq

/-! MqMut: lists changed; isinstance; the store. -/
namespace Mq
open PySem L2
section
variable {G : Gx} {W : WX} {w w1 : Wd} {ρ : SS} {σ : L2.St} {H : Hp} {X : Cx} {pos : Pos} {L : Fns}
theorem setO_same {st : List MO} {n : Nat} {x y : MO} (h : st[n]? = some x) : (st.set n y)[n]? = some y := List.getElem?_set_self (List.getElem?_eq_some_iff.mp h).1
/-- an own list's slot -/
theorem Rel.wrOwn {i : Nat} {p : Addr} {us : List V} {xs ys : List Dt} (R : Rel G w ρ σ H) (e : ρ.sl[i]? = some (.ol xs)) (hv : σ[i]? = some (some (.ref p))) (r : RepL G w.F w.A us ys) : Rel G w (ρ.set i (.ol ys)) σ (upd H p (.lst us)) := by
  have oa : OwnAt ρ σ i p := ⟨hv, _, e, rfl⟩
  obtain ⟨f1, f2, f3⟩ := R.own i p oa
  have hi : i < ρ.sl.length := (List.getElem?_eq_some_iff.mp e).1
  have ot : ∀ (j : Nat) (x' : Sl), (ρ.set i (.ol ys)).sl[j]? = some x' → (j = i ∧ x' = .ol ys) ∨ (j ≠ i ∧ ρ.sl[j]? = some x') := fun j x' e => by
    have e : (ρ.sl.set i (.ol ys))[j]? = some x' := e
    by_cases q : j = i
    · subst q; rw [List.getElem?_set_self hi] at e; cases e; exact .inl ⟨rfl, rfl⟩
    · rw [List.getElem?_set_ne (Ne.symm q)] at e; exact .inr ⟨q, e⟩
  have oo : ∀ j q, OwnAt (ρ.set i (.ol ys)) σ j q → OwnAt ρ σ j q := fun j q ⟨e', x', ex', ho'⟩ => by
    rcases ot j x' ex' with ⟨z, _⟩ | ⟨z, ez⟩
    · subst z; rw [hv] at e'; cases e'; exact oa
    · exact ⟨e', x', ez, ho'⟩
  exact {
    toWok := R.toWok.outW f1 f2 f3
    len := by show (ρ.sl.set i _).length = _; rw [List.length_set]; exact R.len
    sl := fun j x' e' => by
      rcases ot j x' e' with ⟨z, z'⟩ | ⟨z, ez⟩
      · subst z; subst z'; exact ⟨p, us, hv, upd_same, r⟩
      · exact (R.sl j x' ez).heap fun q eq ho => upd_ne fun y => z (R.ownN j i p (y ▸ ⟨eq, x', ez, ho⟩) oa)
    own := fun j q h => R.own j q (oo j q h)
    ownN := fun j j' q h h' => R.ownN j j' q (oo j q h) (oo j' q h')
    lT := R.lT }
/-- an object of the store -/
theorem Rel.wrSt {n : Nat} {p : Addr} {mo : MO} {o : HO} (R : Rel G w ρ σ H) (e : w.A[n]? = some p) (m : MRep G w mo (some o)) : Rel G w (ρ.setO n mo) σ (upd H p o) := by
  obtain ⟨f1, f2, mo0, e0, m0⟩ := R.stR n p e
  have hn : n < ρ.st.length := (List.getElem?_eq_some_iff.mp e0).1
  exact {
    subF := fun a u q => by rw [upd_ne (ne_of_none q f1)]; exact R.subF _ _ q
    subT := fun a u q => by rw [upd_ne (ne_of_none q f2)]; exact R.subT _ _ q
    dis := R.dis
    stL := by show w.A.length = (ρ.st.set n mo).length; rw [List.length_set]; exact R.stL
    stR := fun k a ek => by
      obtain ⟨h1, h2, mo', h3, h4⟩ := R.stR k a ek
      by_cases q : k = n
      · subst q
        rw [e] at ek; cases ek
        exact ⟨f1, f2, mo, List.getElem?_set_self hn, by rw [upd_same]; exact m⟩
      · have : a ≠ p := fun z => q (R.stN k n a ek (z ▸ e))
        exact ⟨h1, h2, mo', by show (ρ.st.set n mo)[k]? = _; rw [List.getElem?_set_ne (Ne.symm q)]; exact h3, by rw [upd_ne this]; exact h4⟩
    stN := R.stN
    len := R.len
    sl := fun j x' e' => (R.sl j x' e').heap fun q eq ho => upd_ne fun y => (R.own j q ⟨eq, x', e', ho⟩).2.2 (y ▸ List.mem_of_getElem? e)
    own := R.own
    ownN := R.ownN
    lT := R.lT }
theorem wrL_ok {r : RV} {v : V} {f : List Dt → Option (List Dt × Dt)} {k : Dt → SS → Wd → Hp → Prop} (R : Rel G w ρ σ H) (hr : RR G w ρ σ H r v) (g : Go G W w σ (wrL r f ρ) k) :
    ∃ p vs xs ys d, v = .ref p ∧ H p = some (.lst vs) ∧ RepL G w.F w.A vs xs ∧ f xs = some (ys, d) ∧ ∀ us, RepL G w.F w.A us ys → ∃ ρ', wrL r f ρ = .ok d ρ' ∧ Rel G w ρ' σ (upd H p (.lst us)) ∧ k d ρ' w (upd H p (.lst us)) := by
  cases r with
  | nl xs => exact g.elim
  | bw i =>
    have hv : σ[i]? = some (some v) := hr
    simp only [wrL] at g
    cases q : ρ.sl[i]? with
    | none => rw [q] at g; exact g.elim
    | some x =>
      rw [q] at g
      cases x with
      | ol xs =>
        cases ef : f xs with
        | none => simp only [ef] at g; exact g.elim
        | some yd =>
          obtain ⟨ys, d⟩ := yd
          simp only [ef] at g
          obtain ⟨p, vs, e1, e2, r⟩ := R.sl i _ q
          rw [hv] at e1; cases e1
          refine ⟨p, vs, xs, ys, d, rfl, e2, r, ef, fun us ru => ⟨_, by simp only [wrL, q, ef], R.wrOwn q hv ru, ?_⟩⟩
          exact g.here (R.wrOwn q hv ru)
      | _ => exact g.elim
  | v d0 =>
    cases d0 with
    | ref n =>
      simp only [wrL] at g
      obtain ⟨p, rfl, e2⟩ := Rep.inv_ref hr
      obtain ⟨f1, f2, mo, e3, m⟩ := R.stR n p e2
      rw [e3] at g
      cases mo with
      | l xs =>
        cases ef : f xs with
        | none => simp only [ef] at g; exact g.elim
        | some yd =>
          obtain ⟨ys, d⟩ := yd
          simp only [ef] at g
          obtain ⟨vs, e4, r⟩ := m
          have R' : ∀ us, RepL G w.F w.A us ys → Rel G w (ρ.setO n (.l ys)) σ (upd H p (.lst us)) := fun us ru => R.wrSt e2 ⟨us, rfl, ru⟩
          exact ⟨p, vs, xs, ys, d, rfl, e4, r, ef, fun us ru => ⟨_, by simp only [wrL, e3, ef], R' us ru, g.here (R' us ru)⟩⟩
      | i c ns ds => exact g.elim
    | _ => exact g.elim
theorem rdt_ty {r : RV} {v : V} {xs : List Dt} (hK : X.K = G.K) (R : Rel G w ρ σ H) (h : RR G w ρ σ H r v) (e : rdt ρ r = some xs) : L2.tyV X.K "list" v H := by
  obtain ⟨p, vs, rfl, hp, _⟩ := rdt_ok R h e
  exact .inl ⟨rfl, vs, SqL.of hp⟩
/-- methods of lists, of one argument -/
def idM (m : Str) : String := if m = "append" then "list.append" else if m = "pop" then "list.pop" else "list.extend"
def rMth (m : Str) : V → List V → Hp → VK → Prop := if m = "append" then rAppend else if m = "pop" then rPopAt else rExtend
theorem mth_step {m : Str} {r : RV} {d : Dt} {vx vy : V} {Q : VK} (hm : m = "append" ∨ m = "pop" ∨ m = "extend") (R : Rel G w ρ σ H) (hr : RR G w ρ σ H r vx) (hd : Rep G w.F w.A vy d)
    (g : Go G W w σ ((wrL r (mthF m d) ρ).bind fun d s => .ok (.v d) s) fun r ρ' w' H' => ∀ v, RR G w' ρ' σ H' r v → Q v H') : rMth m vx [vy] H Q := by
  obtain ⟨p, vs, xs, ys, d', rfl, hp, rl, ef, fin⟩ := wrL_ok R hr g.bind
  rcases hm with rfl | rfl | rfl
  · have ef : appF d xs = some (ys, d') := ef
    unfold appF at ef
    simp only [Option.ite_none_right_eq_some, Option.some.injEq, Prod.mk.injEq] at ef
    obtain ⟨c, rfl, rfl⟩ := ef
    obtain ⟨ρ', _, R', q⟩ := fin (vs ++ [vy]) (rl.append (.cons hd .nil))
    exact ⟨p, vs, vy, rfl, rfl, hp, by rw [rl.length]; exact c, q.here R' _ .non⟩
  · have ef : popDF d xs = some (ys, d') := ef
    unfold popDF at ef
    split at ef
    · obtain rfl := Rep.inv_int hd
      unfold popAtF at ef
      simp only [Option.ite_none_right_eq_some, Option.bind_eq_some_iff, Option.map_eq_some_iff, Prod.mk.injEq] at ef
      obtain ⟨c, j, ej, y, ey, rfl, rfl⟩ := ef
      obtain ⟨v, ev, rv⟩ := rl.get ey
      obtain ⟨ρ', _, R', q⟩ := fin (vs.eraseIdx j) (rl.eraseIdx j)
      exact ⟨p, vs, _, j, v, rfl, rfl, hp, c.1, c.2, by rw [rl.length]; exact ej, ev, q.here R' _ rv⟩
    · cases ef
  · have ef : extDF d xs = some (ys, d') := ef
    unfold extDF at ef
    split at ef
    · obtain ⟨b, us, rfl, hb, rb⟩ := Rep.inv_lst hd
      unfold extF at ef
      simp only [Option.ite_none_right_eq_some, Option.some.injEq, Prod.mk.injEq] at ef
      obtain ⟨c, rfl, rfl⟩ := ef
      obtain ⟨ρ', _, R', q⟩ := fin (vs ++ us) (rl.append rb)
      exact ⟨p, b, vs, us, rfl, rfl, hp, R.subF _ _ hb, by rw [rl.length, rb.length]; exact c, q.here R' _ .non⟩
    · cases ef
theorem mt_mth {m : Str} (hm : m = "append" ∨ m = "pop" ∨ m = "extend") : MtR X (idM m) (rMth m) := by
  rcases hm with rfl | rfl | rfl
  · exact mt_append
  · exact mt_popAt
  · exact mt_extend
theorem slot_mth {m : Str} (hm : m = "append" ∨ m = "pop" ∨ m = "extend") : Slot "list" m (idM m) ∧ typeOf (.builtin (idM m)) = pure (.type "method_descriptor") := by
  rcases hm with rfl | rfl | rfl
  · exact ⟨PySem.F.slot_list_append, PySem.F.type_list_append⟩
  · exact ⟨PySem.F.slot_list_pop, PySem.F.type_list_pop⟩
  · exact ⟨PySem.F.slot_list_extend, PySem.F.type_list_extend⟩
theorem sv_bme {o e : Expr} {m : Str} {mo me : ME} {apos : Pos} (hm : m = "append" ∨ m = "pop" ∨ m = "extend") (hK : X.K = G.K) (hb : attributeBase o m X.env (eval o X.env) = eval o X.env) (hline : (apos.endLine == pos.line) = true)
    (hfew : ((backTo pos (starEach [e] X.env)).all (fun x => !x.1) && (backToKw pos (keywordEach [] X.env)).all (fun x => x.1.isSome) && decide ([e].length + ([] : List Keyword).length + (if ([] : List Keyword).isEmpty then 0 else 1) < 30)) = true)
    (hs : starEach [e] X.env = (false, eval e X.env) :: starEach [] X.env) (ho : PE X o (tE G W (ev L mo))) (he : PE X e (tE G W (ev L me))) : PE X (.Call (.Attribute o m apos) [e] [] pos) (tE G W (ev L (.bme mo m [me]))) := by
  refine (pe_bm PySem.F.plainAttrs_list (slot_mth hm).1 (slot_mth hm).2 (mt_mth hm) ho (pa_cons he pa_nil hs) hb hfew hline hs rfl).imp fun σ H Q h => ?_
  obtain ⟨w, ρ, R, g⟩ := h
  rw [ev] at g
  refine ⟨w, ρ, R, g.bind.mono fun x ρ1 w1 H1 _ e1 R1 q vx hx => ?_⟩
  cases er : rdt ρ1 x with
  | none => rw [er] at q; exact q.elim
  | some xs =>
    rw [er] at q
    refine ⟨rdt_ty hK R1 hx er, ?_⟩
    obtain ⟨w2, R2, _, _, g2⟩ := pend R1 hx q.bind
    refine ⟨w2, ρ1, R2, g2.mono fun y ρ3 w3 H3 _ e3 R3 q3 vy hy => ?_⟩
    obtain ⟨w4, e4, R4, hx4, _, _, hyy, q4⟩ := q3
    obtain ⟨d, ρ5, w5, ev5, e5, R5, rep, q5⟩ := val_ok R4 (hyy _ _ hy) q4.bind
    cases x with
    | nl ys => exact q5.elim
    | v d0 => exact mth_step hm R5 (hx4.ext e5 fun _ z => nomatch z) rep q5
    | bw i => exact mth_step hm R5 (hx4.ext e5 fun _ z => nomatch z) rep q5
theorem sv_pop0 {o : Expr} {mo : ME} {apos : Pos} (hK : X.K = G.K) (hb : attributeBase o "pop" X.env (eval o X.env) = eval o X.env) (hline : (apos.endLine == pos.line) = true)
    (ho : PE X o (tE G W (ev L mo))) : PE X (.Call (.Attribute o "pop" apos) [] [] pos) (tE G W (ev L (.bme mo "pop" []))) := by
  refine (pe_bm0 PySem.F.plainAttrs_list PySem.F.slot_list_pop PySem.F.type_list_pop (r := rPop) mt_pop ho hb hline).imp fun σ H Q h => ?_
  obtain ⟨w, ρ, R, g⟩ := h
  rw [ev] at g
  refine ⟨w, ρ, R, g.bind.mono fun x ρ1 w1 H1 _ e1 R1 q vx hx => ?_⟩
  cases er : rdt ρ1 x with
  | none => rw [er] at q; exact q.elim
  | some xs0 =>
    rw [er] at q
    refine ⟨rdt_ty hK R1 hx er, ?_⟩
    rw [if_pos rfl] at q
    obtain ⟨p, vs, xs, ys, d', rfl, hp, rl, ef, fin⟩ := wrL_ok R1 hx q.bind
    unfold popF at ef
    simp only [Option.map_eq_some_iff, Prod.mk.injEq] at ef
    obtain ⟨y, ey, rfl, rfl⟩ := ef
    obtain ⟨v, ev, rv⟩ := rl.get ey
    obtain ⟨ρ', _, R', q⟩ := fin vs.dropLast rl.dropLast
    exact ⟨p, vs, v, rfl, rfl, hp, by rw [rl.length]; exact ev, q.here R' _ rv⟩
/-! ### the store grows -/
theorem Rel.alloc {p : Addr} {vs : List V} {xs : List Dt} (R : Rel G w ρ σ H) (f : Free w ρ σ p) (hp : H p = some (.lst vs)) (r : RepL G w.F w.A vs xs) :
    Ext w { w with A := w.A ++ [p] } ∧ Rel G { w with A := w.A ++ [p] } { ρ with st := ρ.st ++ [.l xs] } σ H ∧ (w.A ++ [p])[ρ.st.length]? = some p := by
  have eE : Ext w { w with A := w.A ++ [p] } := ⟨Same.refl _, Ax.app _ _, rfl, rfl, rfl⟩
  have at_ : ∀ (j : Nat) (a : Addr), (w.A ++ [p])[j]? = some a → (j < w.A.length ∧ w.A[j]? = some a) ∨ (j = w.A.length ∧ a = p) := fun j a e => by
    have hj := (List.getElem?_eq_some_iff.mp e).1
    rw [List.length_append, List.length_singleton] at hj
    by_cases hk : j < w.A.length
    · rw [List.getElem?_append_left hk] at e; exact .inl ⟨hk, e⟩
    · have : j = w.A.length := by omega
      subst this
      rw [List.getElem?_append_right (Nat.le_refl _), Nat.sub_self] at e
      cases e; exact .inr ⟨rfl, rfl⟩
  refine ⟨eE, {
    subF := R.subF
    subT := R.subT
    dis := R.dis
    stL := by show (w.A ++ [p]).length = (ρ.st ++ [MO.l xs]).length; rw [List.length_append, List.length_append, R.stL]; rfl
    stR := fun k a e => by
      rcases at_ k a e with ⟨hk, e⟩ | ⟨rfl, rfl⟩
      · obtain ⟨z1, z2, mo, z3, z4⟩ := R.stR k a e
        exact ⟨z1, z2, mo, by show (ρ.st ++ [MO.l xs])[k]? = _; rw [List.getElem?_append_left (R.stL ▸ hk)]; exact z3, z4.mono (w := w) (w' := { w with A := w.A ++ [p] }) eE.F eE.A⟩
      · exact ⟨f.F, f.T, .l xs, by show (ρ.st ++ [MO.l xs])[w.A.length]? = _; rw [R.stL, List.getElem?_append_right (Nat.le_refl _), Nat.sub_self]; rfl, vs, hp, r.mono eE.F eE.A⟩
    stN := fun k m a e1 e2 => by
      rcases at_ k a e1 with ⟨a1, a2⟩ | ⟨a1, a2⟩
      · rcases at_ m a e2 with ⟨b1, b2⟩ | ⟨b1, b2⟩
        · exact R.stN k m a a2 b2
        · subst b2; exact absurd (List.mem_of_getElem? a2) f.A
      · rcases at_ m a e2 with ⟨b1, b2⟩ | ⟨b1, b2⟩
        · subst a2; exact absurd (List.mem_of_getElem? b2) f.A
        · omega
    len := R.len
    sl := fun i x e => (R.sl i x e).ext (w' := { w with A := w.A ++ [p] }) eE
    own := fun i q h => by
      obtain ⟨h1, h2, h3⟩ := R.own i q h
      refine ⟨h1, h2, fun m => ?_⟩
      have m : q ∈ w.A ++ [p] := m
      rcases List.mem_append.mp m with m | m
      · exact h3 m
      · have : q = p := by simpa using m
        subst this; exact f.own i h
    ownN := R.ownN
    lT := R.lT }, by rw [← R.stL, List.getElem?_append_right (Nat.le_refl _), Nat.sub_self]; rfl⟩
theorem sv_alloc {e : Expr} {m : ME} (he : PE X e (tE G W (ev L m))) : PE X e (tE G W (ev L (.alloc m))) := by
  refine he.imp fun σ H Q h => ?_
  obtain ⟨w, ρ, R, g⟩ := h
  rw [ev] at g
  refine ⟨w, ρ, R, g.bind.mono fun x ρ1 w1 H1 _ e1 R1 q v hv => ?_⟩
  cases x with
  | nl xs =>
    obtain ⟨p, vs, rfl, hp, r, f⟩ := hv
    obtain ⟨e2, R2, a2⟩ := R1.alloc f hp r
    exact q.at e2 R2 _ (.ref a2)
  | v d => exact q.elim
  | bw i => exact q.elim
/-! ### isinstance -/
def tyVal (G : Gx) : Ty → Option Value
  | .b t => some (.type t)
  | .c c => (G.cls c).map .ref
/-- what isinstance asks of an own class -/
structure InsT (K : PySem.W.Frag) (C : Addr) : Prop where
  cl : Cls K C
  ha : PySem.W.findIn K (.ref C) "__class__" = some (some (.builtin "object.__class__"))
  hn : PySem.W.specialIn K (.builtin "object.__class__") "__get__" = some (some (.builtin "getset_descriptor.__get__"))
  htk : PySem.W.takesIn K (.builtin "object.__class__") = some true
  hm : PySem.W.mroIn K C (.type "object") = some true
/-- a class's name in isinstance -/
structure IsiF (G : Gx) (X : Cx) (L : Fns) (t : Str) : Prop where
  ex : ∃ c u v, ClsV c u ∧ RelV c v ∧ (X.mg t = some v ∨ (X.mg t = none ∧ bootBuiltins t = some v)) ∧ ∀ ty b, L.isi ty t = some b → ∃ tv, tyVal G ty = some tv ∧ PySem.W.kitOne G.K tv u = some b
theorem tyx_lst {p : Addr} {vs : List V} (h : H p = some (.lst vs)) : TyX G.K H (.ref p) (.type "list") := .base (.lst h)
theorem tyx_tup {p : Addr} {vs : List V} (h : SqT G.K H p vs) : TyX G.K H (.ref p) (.type "tuple") := by
  rcases h with (h | ⟨o, h⟩) | ⟨o, its, n, e, c, _⟩
  · exact .base (.tup h)
  · exact .fTuple h
  · exact .kTuple e c
theorem tyV_ok {a : RV} {va : V} {ty : Ty} {tv : Value} (hI : ∀ c C, G.cls c = some C → InsT G.K C) (R : Rel G w ρ σ H) (ha : RR G w ρ σ H a va) (h : tyV a ρ = some ty) (hv : tyVal G ty = some tv) : TyX G.K H va tv := by
  have ins : ∀ {c : Nat} {C p dx : Addr} {fl : List (Str × V)}, G.cls c = some C → H p = some (.ins C dx fl) → tyVal G (.c c) = some tv → TyX G.K H (.ref p) tv := fun {c C p dx fl} h1 h2 h3 => by
    simp only [tyVal, h1, Option.map_some, Option.some.injEq] at h3
    subst h3
    have i := hI c C h1
    exact .base (.ins h2 i.cl i.ha i.hn i.htk i.hm)
  cases a with
  | nl xs =>
    simp only [tyV, Option.some.injEq] at h; subst h
    simp only [tyVal, Option.some.injEq] at hv; subst hv
    obtain ⟨p, vs, rfl, hp, _⟩ := ha
    exact tyx_lst hp
  | bw i =>
    have hl : ∀ xs, rdt ρ (.bw i) = some xs → ty = .b "list" → TyX G.K H va tv := fun xs e1 e2 => by
      subst e2
      simp only [tyVal, Option.some.injEq] at hv; subst hv
      obtain ⟨p, vs, rfl, hp, _⟩ := rdt_ok R ha e1
      exact tyx_lst hp
    simp only [tyV] at h
    split at h
    · rename_i e; cases h; exact hl _ (by simp only [rdt, e]; rfl) rfl
    · rename_i e; cases h; exact hl _ (by simp only [rdt, e]; rfl) rfl
    · rename_i e; cases h; exact hl _ (by simp only [rdt, e]; rfl) rfl
    · cases h
  | v d =>
    cases d with
    | non => simp only [tyV, Option.some.injEq] at h; subst h; simp only [tyVal, Option.some.injEq] at hv; subst hv; obtain rfl := Rep.inv_non ha; exact .base .non
    | bl b => simp only [tyV, Option.some.injEq] at h; subst h; simp only [tyVal, Option.some.injEq] at hv; subst hv; obtain rfl := Rep.inv_bl ha; exact .base (.bl b)
    | int b => simp only [tyV, Option.some.injEq] at h; subst h; simp only [tyVal, Option.some.injEq] at hv; subst hv; obtain rfl := Rep.inv_int ha; exact .base (.int b)
    | str b => simp only [tyV, Option.some.injEq] at h; subst h; simp only [tyVal, Option.some.injEq] at hv; subst hv; obtain rfl := Rep.inv_str ha; exact .base (.str b)
    | tup xs => simp only [tyV, Option.some.injEq] at h; subst h; simp only [tyVal, Option.some.injEq] at hv; subst hv; obtain ⟨p, vs, rfl, hp, _⟩ := Rep.inv_tup ha; exact tyx_tup (sqt_mono R.subF hp)
    | lst xs => simp only [tyV, Option.some.injEq] at h; subst h; simp only [tyVal, Option.some.injEq] at hv; subst hv; obtain ⟨p, vs, rfl, hp, _⟩ := Rep.inv_lst ha; exact tyx_lst (R.subF _ _ hp)
    | rol xs => simp [tyV] at h
    | dct => simp only [tyV, Option.some.injEq] at h; subst h; simp only [tyVal, Option.some.injEq] at hv; subst hv; obtain ⟨p, kvs, rfl, hp⟩ := Rep.inv_dct ha; exact .base (.dK (R.subF _ _ hp))
    | ins c ns vs =>
      simp only [tyV, Option.some.injEq] at h; subst h
      obtain ⟨p, C, dx, fl, rfl, hC, hF, _⟩ := Rep.inv_ins ha
      exact ins hC (R.subF _ _ hF) hv
    | ref n =>
      obtain ⟨p, rfl, e2⟩ := Rep.inv_ref ha
      obtain ⟨_, _, mo, e3, m⟩ := R.stR n p e2
      simp only [tyV, e3] at h
      cases mo with
      | l xs => simp only [Option.some.injEq] at h; subst h; simp only [tyVal, Option.some.injEq] at hv; subst hv; obtain ⟨vs, e, _⟩ := m; exact tyx_lst e
      | i c ns ds => simp only [Option.some.injEq] at h; subst h; obtain ⟨C, dx, fl, hC, hF, _⟩ := m; exact ins hC hF hv
theorem sv_isi {a : Expr} {t : Str} {ma : ME} {p q : Pos} (hK : X.K = G.K) (hI : ∀ c C, G.cls c = some C → InsT G.K C) (hf : IsiF G X L t) (hg : Gl X "isinstance") (hm : X.mg "isinstance" = none) (hgt : Gl X t) (htn : t ≠ "__name__") (htd : (t == ("__debug__" : Str)) = false)
    (hs : starEach [a, .Name t q] X.env = (false, eval a X.env) :: starEach [.Name t q] X.env) (ha : PE X a (tE G W (ev L ma))) :
    PE X (.Call (.Name "isinstance" p) [a, .Name t q] [] pos) (tE G W (ev L (.isi ma t))) := by
  obtain ⟨c, u, v, hcv, hrv, hvv, hk⟩ := hf.ex
  have pt : PE X (.Name t q) (tC c) := by
    rcases hvv with h | ⟨h1, h2⟩
    · exact pe_glob hgt h hrv htd
    · exact pe_bltn hgt h1 h2 hrv htn htd
  refine (pe_callB call_isi hg hm (by decide +kernel) (pa_cons ha (pa_cons pt pa_nil rfl) hs) (by decide) (by decide) hs rfl).imp fun σ H Q h => ?_
  obtain ⟨w, ρ, R, g⟩ := h
  rw [ev] at g
  refine ⟨w, ρ, R, g.bind.mono fun x ρ1 w1 H1 _ e1 R1 q va hva => ?_⟩
  show rIsi X.K [va, c] H1 Q
  cases eb : (tyV x ρ1).bind fun ty => L.isi ty t with
  | none => rw [eb] at q; exact q.elim
  | some b =>
    rw [eb] at q
    simp only [Option.bind_eq_some_iff] at eb
    obtain ⟨ty, e1, e2⟩ := eb
    obtain ⟨tv, e3, e4⟩ := hk ty b e2
    refine ⟨va, c, tv, u, b, rfl, hcv, ?_, ?_, q.here R1 _ (.bl b)⟩
    · rw [hK]; exact tyV_ok hI R1 hva e1 e3
    · rw [hK]; exact e4
end
end Mq

/-! MqLoop: what is walked. -/
namespace Mq
open PySem L2
/-- the list that is walked stands -/
def Prot (G : Gx) (w : Wd) (ρ : SS) (r : RV) (v : V) (ys : List Dt) : Prop := match r with
  | .v (.ref n) => ∃ a, v = .ref a ∧ w.A[n]? = some a ∧ ρ.st[n]? = some (.l ys)
  | .v d => Rep G w.F w.A v d ∧ (d = .tup ys ∨ d = .lst ys ∨ d = .rol ys)
  | _ => ∃ p vs, v = .ref p ∧ (w.T p = some (.lst vs) ∨ w.F p = some (.lst vs)) ∧ RepL G w.F w.A vs ys
def SrcOk (G : Gx) (w : Wd) (ρ : SS) (r : RV) (v : V) (ys : List Dt) : Prop := r = .v .non ∨ Prot G w ρ r v ys
section
variable {G : Gx} {W : WX} {w w1 w' : Wd} {ρ ρ' : SS} {σ σ' : L2.St} {H : Hp} {X : Cx} {pos : Pos} {L : Fns} {r : RV} {v : V} {ys : List Dt}
theorem Prot.ext (h : Prot G w ρ r v ys) (e : Ext w w') (hc : chk ys r ρ' = true) : Prot G w' ρ' r v ys := by
  have rest : (∃ p vs, v = .ref p ∧ (w.T p = some (.lst vs) ∨ w.F p = some (.lst vs)) ∧ RepL G w.F w.A vs ys) → ∃ p vs, v = .ref p ∧ (w'.T p = some (.lst vs) ∨ w'.F p = some (.lst vs)) ∧ RepL G w'.F w'.A vs ys := by
    rintro ⟨p, vs, e1, e2, rl⟩
    refine ⟨p, vs, e1, ?_, rl.mono e.F e.A⟩
    rcases e2 with e2 | e2
    · exact .inl (by rw [e.T]; exact e2)
    · exact .inr (e.F _ _ e2)
  cases r with
  | nl xs => exact rest h
  | bw i => exact rest h
  | v d =>
    cases d with
    | ref n =>
      obtain ⟨a, e1, e2, e3⟩ := h
      refine ⟨a, e1, e.A _ _ e2, ?_⟩
      unfold chk at hc
      simp only at hc
      split at hc
      · rename_i zs ez
        have : ys = zs := of_decide_eq_true hc
        subst this; exact ez
      · cases hc
    | _ => exact ⟨h.1.mono e.F e.A, h.2⟩
theorem SrcOk.ext (h : SrcOk G w ρ r v ys) (e : Ext w w') (hc : chk ys r ρ' = true) : SrcOk G w' ρ' r v ys := h.imp id fun h => h.ext e hc
theorem Prot.read (h : Prot G w ρ r v ys) (R : Rel G w ρ σ H) : ∃ a vs, v = .ref a ∧ (SqL G.K H a vs ∨ SqT G.K H a vs) ∧ RepL G w.F w.A vs ys := by
  have rest : (∃ p vs, v = .ref p ∧ (w.T p = some (.lst vs) ∨ w.F p = some (.lst vs)) ∧ RepL G w.F w.A vs ys) → ∃ a vs, v = .ref a ∧ (SqL G.K H a vs ∨ SqT G.K H a vs) ∧ RepL G w.F w.A vs ys := by
    rintro ⟨p, vs, e1, e2, rl⟩
    refine ⟨p, vs, e1, .inl (SqL.of ?_), rl⟩
    rcases e2 with e2 | e2
    · exact R.subT _ _ e2
    · exact R.subF _ _ e2
  cases r with
  | nl xs => exact rest h
  | bw i => exact rest h
  | v d =>
    have data : Rep G w.F w.A v d ∧ (d = .tup ys ∨ d = .lst ys ∨ d = .rol ys) → ∃ a vs, v = .ref a ∧ (SqL G.K H a vs ∨ SqT G.K H a vs) ∧ RepL G w.F w.A vs ys := by
      rintro ⟨rp, q⟩
      rcases q with rfl | rfl | rfl
      · obtain ⟨a, vs, e1, e2, rl⟩ := Rep.inv_tup rp; exact ⟨a, vs, e1, .inr (sqt_mono R.subF e2), rl⟩
      · obtain ⟨a, vs, e1, e2, rl⟩ := Rep.inv_lst rp; exact ⟨a, vs, e1, .inl (SqL.of (R.subF _ _ e2)), rl⟩
      · obtain ⟨a, vs, e1, e2, rl⟩ := Rep.inv_rol rp; exact ⟨a, vs, e1, .inl (sql_mono R.subF e2), rl⟩
    cases d with
    | ref n =>
      obtain ⟨a, e1, e2, e3⟩ := h
      obtain ⟨_, _, mo, e4, m⟩ := R.stR n a e2
      rw [e3] at e4; cases e4
      obtain ⟨vs, e5, rl⟩ := m
      exact ⟨a, vs, e1, .inl (SqL.of e5), rl⟩
    | _ => exact data h
theorem Prot.readL (h : Prot G w ρ r v ys) (R : Rel G w ρ σ H) (hn : ∀ xs, r ≠ .v (.tup xs)) : ∃ a vs, v = .ref a ∧ SqL G.K H a vs ∧ RepL G w.F w.A vs ys := by
  have rest : (∃ p vs, v = .ref p ∧ (w.T p = some (.lst vs) ∨ w.F p = some (.lst vs)) ∧ RepL G w.F w.A vs ys) → ∃ a vs, v = .ref a ∧ SqL G.K H a vs ∧ RepL G w.F w.A vs ys := by
    rintro ⟨p, vs, e1, e2, rl⟩
    refine ⟨p, vs, e1, SqL.of ?_, rl⟩
    rcases e2 with e2 | e2
    · exact R.subT _ _ e2
    · exact R.subF _ _ e2
  cases r with
  | nl xs => exact rest h
  | bw i => exact rest h
  | v d =>
    have data : Rep G w.F w.A v d ∧ (d = .tup ys ∨ d = .lst ys ∨ d = .rol ys) → ∃ a vs, v = .ref a ∧ SqL G.K H a vs ∧ RepL G w.F w.A vs ys := by
      rintro ⟨rp, q⟩
      rcases q with rfl | rfl | rfl
      · exact absurd rfl (hn ys)
      · obtain ⟨a, vs, e1, e2, rl⟩ := Rep.inv_lst rp; exact ⟨a, vs, e1, SqL.of (R.subF _ _ e2), rl⟩
      · obtain ⟨a, vs, e1, e2, rl⟩ := Rep.inv_rol rp; exact ⟨a, vs, e1, sql_mono R.subF e2, rl⟩
    cases d with
    | ref n =>
      obtain ⟨a, e1, e2, e3⟩ := h
      obtain ⟨_, _, mo, e4, m⟩ := R.stR n a e2
      rw [e3] at e4; cases e4
      obtain ⟨vs, e5, rl⟩ := m
      exact ⟨a, vs, e1, SqL.of e5, rl⟩
    | _ => exact data h
/-- back from a walk: the world without what was put beside -/
def Exit (G : Gx) (w w1 : Wd) (ρ : SS) (r : RV) : Prop := ∀ (w' : Wd) (ρ' : SS) (σ' : L2.St) (H' : Hp), Ext w1 w' → Rel G w' ρ' σ' H' →
  ∃ w'', Ext w w'' ∧ Rel G w'' (unlock r ρ ρ') σ' H' ∧ w''.F = w'.F ∧ w''.A = w'.A ∧ (∀ p, w'.T p = none → w''.T p = none)
theorem Exit.same (hu : ∀ ρ', unlock r ρ ρ' = ρ') : Exit G w w ρ r := fun w' ρ' σ' H' e R => ⟨w', e, by rw [hu]; exact R, rfl, rfl, fun _ h => h⟩
theorem Same.pin {T : Hp} {p : Addr} {o : HO} (h : T p = none) : Same T (upd T p o) := fun b u q => by rw [upd_ne (ne_of_none q h)]; exact q
theorem protect (R : Rel G w ρ σ H) (h : RR G w ρ σ H r v) (e : rds ρ r = some ys) :
    ∃ w1, Rel G w1 (lock r ρ) σ H ∧ w1.F = w.F ∧ w1.A = w.A ∧ Prot G w1 (lock r ρ) r v ys ∧ Exit G w w1 ρ r := by
  cases r with
  | v d =>
    refine ⟨w, R, rfl, rfl, ?_, Exit.same fun _ => rfl⟩
    cases d with
    | ref n =>
      simp only [rds, rdl, rdt] at e
      obtain ⟨a, e1, e2⟩ := Rep.inv_ref h
      split at e
      · rename_i xs ex
        cases e
        exact ⟨a, e1, e2, ex⟩
      · cases e
    | tup xs => simp only [rds, Option.some.injEq] at e; subst e; exact ⟨h, .inl rfl⟩
    | lst xs => simp only [rds, rdl, rdt, Option.some.injEq] at e; subst e; exact ⟨h, .inr (.inl rfl)⟩
    | rol xs => simp only [rds, rdl, Option.some.injEq] at e; subst e; exact ⟨h, .inr (.inr rfl)⟩
    | _ => simp [rds, rdl, rdt] at e
  | nl xs =>
    simp only [rds, rdl, rdt, Option.some.injEq] at e
    subst e
    obtain ⟨p, vs, e1, e2, rl, f⟩ := h
    refine ⟨w.pin p (.lst vs), R.pinned f e2, rfl, rfl, ⟨p, vs, e1, .inl (by show upd w.T p _ p = _; exact upd_same), rl⟩, fun w' ρ' σ' H' ex R' => ?_⟩
    have eT : w'.T = upd w.T p (.lst vs) := ex.T
    have s : Same w.T w'.T := by rw [eT]; exact Same.pin f.T
    exact ⟨w'.unp w, ⟨ex.F, ex.A, rfl, rfl, rfl⟩, R'.less s ex.L.symm ex.M.symm R.lT, rfl, rfl, fun q hq => none_of fun o z => (by rw [s _ _ z] at hq; cases hq)⟩
  | bw i =>
    have hv : σ[i]? = some (some v) := h
    cases q : ρ.sl[i]? with
    | none => simp [rds, rdl, rdt, q] at e
    | some x =>
      cases x with
      | un => simp [rds, rdl, rdt, q] at e
      | oi c ns ds => simp [rds, rdl, rdt, q] at e
      | v d =>
        cases d with
        | lst xs =>
          simp only [rds, rdl, rdt, q, Option.some.injEq] at e
          subst e
          obtain ⟨v', e1, rp⟩ := R.sl i _ q
          rw [hv] at e1; cases e1
          obtain ⟨a, vs, e1, e2, rl⟩ := Rep.inv_lst rp
          have hl : lock (.bw i) ρ = ρ := by simp only [lock, q]
          rw [hl]
          exact ⟨w, R, rfl, rfl, ⟨a, vs, e1, .inr e2, rl⟩, Exit.same fun ρ' => by simp only [unlock, q]⟩
        | _ => simp [rds, rdl, rdt, q] at e
      | lk xs =>
        simp only [rds, rdl, rdt, q, Option.some.injEq] at e
        subst e
        obtain ⟨p, vs, e1, _, e2, rl⟩ := R.sl i _ q
        rw [hv] at e1; cases e1
        have hl : lock (.bw i) ρ = ρ := by simp only [lock, q]
        rw [hl]
        exact ⟨w, R, rfl, rfl, ⟨p, vs, rfl, .inl e2, rl⟩, Exit.same fun ρ' => by simp only [unlock, q]⟩
      | ol xs =>
        simp only [rds, rdl, rdt, q, Option.some.injEq] at e
        subst e
        obtain ⟨p, vs, e1, e2, rl⟩ := R.sl i _ q
        rw [hv] at e1; cases e1
        have oa : OwnAt ρ σ i p := ⟨hv, _, q, rfl⟩
        obtain ⟨f1, f2, f3⟩ := R.own i p oa
        have hi : i < ρ.sl.length := (List.getElem?_eq_some_iff.mp q).1
        have hl : lock (.bw i) ρ = ρ.set i (.lk xs) := by simp only [lock, q]
        rw [hl]
        let w1 : Wd := { w with T := upd w.T p (.lst vs), L := fun j => if j = i then some p else w.L j }
        have ot : ∀ (j : Nat) (x' : Sl), (ρ.set i (.lk xs)).sl[j]? = some x' → (j = i ∧ x' = .lk xs) ∨ (j ≠ i ∧ ρ.sl[j]? = some x') := fun j x' e => by
          have e : (ρ.sl.set i (.lk xs))[j]? = some x' := e
          by_cases z : j = i
          · subst z; rw [List.getElem?_set_self hi] at e; cases e; exact .inl ⟨rfl, rfl⟩
          · rw [List.getElem?_set_ne (Ne.symm z)] at e; exact .inr ⟨z, e⟩
        have oo : ∀ j q, OwnAt (ρ.set i (.lk xs)) σ j q → j ≠ i ∧ OwnAt ρ σ j q := fun j q ⟨e, x', ex', ho'⟩ => by
          rcases ot j x' ex' with ⟨_, z⟩ | ⟨z, ez⟩
          · subst z; simp [isOwn] at ho'
          · exact ⟨z, e, x', ez, ho'⟩
        have sT : Same w.T w1.T := Same.pin f2
        have R1 : Rel G w1 (ρ.set i (.lk xs)) σ H := {
          subF := R.subF
          subT := fun a u z => by
            by_cases y : a = p
            · subst y
              have z : upd w.T a (.lst vs) a = some u := z
              rw [upd_same] at z; cases z; exact e2
            · have z : upd w.T p (.lst vs) a = some u := z
              rw [upd_ne y] at z; exact R.subT _ _ z
          dis := fun a => by
            by_cases y : a = p
            · subst y; exact .inl f1
            · rcases R.dis a with z | z
              · exact .inl z
              · right; show upd w.T p _ a = none; rw [upd_ne y]; exact z
          stL := R.stL
          stR := fun n a en => by
            obtain ⟨h1, h2, mo, h3, h4⟩ := R.stR n a en
            have : a ≠ p := fun y => f3 (by rw [← y]; exact List.mem_of_getElem? en)
            refine ⟨h1, ?_, mo, h3, h4.mono (w := w) (w' := w1) (Same.refl _) (Ax.refl _)⟩
            show upd w.T p _ a = none
            rw [upd_ne this]; exact h2
          stN := R.stN
          len := by show (ρ.sl.set i _).length = _; rw [List.length_set]; exact R.len
          sl := fun j x' e => by
            rcases ot j x' e with ⟨z, z'⟩ | ⟨z, ez⟩
            · subst z; subst z'
              exact ⟨p, vs, hv, by show (if j = j then some p else _) = _; rw [if_pos rfl], by show upd w.T p _ p = _; exact upd_same, rl⟩
            · exact (R.sl j x' ez).mono (w := w) (w' := w1) (Same.refl _) (Ax.refl _) (by show (if j = i then some p else w.L j) = w.L j; rw [if_neg z]) rfl fun a o _ y => sT _ _ y
          own := fun j q e => by
            obtain ⟨z, e'⟩ := oo j q e
            obtain ⟨g1, g2, g3⟩ := R.own j q e'
            have : q ≠ p := fun y => z (R.ownN j i p (y ▸ e') oa)
            refine ⟨g1, ?_, g3⟩
            show upd w.T p _ q = none
            rw [upd_ne this]; exact g2
          ownN := fun j j' q e e' => R.ownN j j' q (oo j q e).2 (oo j' q e').2
          lT := fun j q e => by
            have e : (if j = i then some p else w.L j) = some q := e
            by_cases z : j = i
            · rw [if_pos z] at e; cases e
              exact ⟨_, by show upd w.T p (.lst vs) p = _; exact upd_same⟩
            · rw [if_neg z] at e
              obtain ⟨o, y⟩ := R.lT j q e
              exact ⟨o, sT _ _ y⟩ }
        refine ⟨w1, R1, rfl, rfl, ⟨p, vs, rfl, .inl (by show upd w.T p _ p = _; exact upd_same), rl⟩, fun w' ρ' σ' H' ex R' => ?_⟩
        have eT : w'.T = upd w.T p (.lst vs) := ex.T
        have eL : ∀ j, w'.L j = if j = i then some p else w.L j := fun j => by rw [ex.L]
        have s : Same w.T w'.T := by rw [eT]; exact Same.pin f2
        have hTp : w'.T p = some (.lst vs) := by rw [eT]; exact upd_same
        have tn : ∀ q, w'.T q = none → w.T q = none := fun q hq => none_of fun o z => (by rw [s _ _ z] at hq; cases hq)
        have E : Ext w (w'.unp w) := ⟨ex.F, ex.A, rfl, rfl, rfl⟩
        have nFp : w'.F p = none := by
          rcases R'.dis p with z | z
          · exact z
          · rw [hTp] at z; cases z
        have nAp : p ∉ w'.A := fun m => by
          obtain ⟨n, en⟩ := mem_A m
          have := (R'.stR n p en).2.1
          rw [hTp] at this; cases this
        -- the slots but the i-th
        have slj : ∀ (j : Nat) (x' : Sl), ρ'.sl[j]? = some x' → (j ≠ i ∨ ∀ zs, x' ≠ .lk zs) → SlR G (w'.unp w) H' j x' σ'[j]? := fun j x' e hj => by
          cases x' with
          | lk zs =>
            have hj : j ≠ i := hj.elim id fun z => absurd rfl (z zs)
            refine (R'.sl j _ e).mono (w := w') (w' := w'.unp w) (Same.refl _) (Ax.refl _) (by show w.L j = w'.L j; rw [eL, if_neg hj]) ex.M.symm fun a o z1 z2 => ?_
            rw [eL, if_neg hj] at z1
            obtain ⟨o', z3⟩ := R.lT j a z1
            have := s _ _ z3
            rw [z2] at this; cases this; exact z3
          | un => trivial
          | v d => exact R'.sl j _ e
          | ol zs => exact R'.sl j _ e
          | oi c ns ds => obtain ⟨p0, C0, dx0, fl0, q1, q2, q3, q4, q5, q6⟩ := R'.sl j _ e; exact ⟨p0, C0, dx0, fl0, q1, q2, q3, q4, q5, ex.M.symm.trans q6⟩
        have wok : Wok G (w'.unp w) ρ'.st H' := {
          subF := R'.subF
          subT := s.trans R'.subT
          dis := fun a => (R'.dis a).imp id (tn a)
          stL := R'.stL
          stR := fun n a en => by
            obtain ⟨h1, h2, mo, h3, h4⟩ := R'.stR n a en
            exact ⟨h1, tn a h2, mo, h3, h4.mono (w := w') (w' := w'.unp w) (Same.refl _) (Ax.refl _)⟩
          stN := R'.stN }
        refine ⟨w'.unp w, E, ?_, rfl, rfl, tn⟩
        have keep : unlock (.bw i) ρ ρ' = ρ' → (∀ zs, ρ'.sl[i]? ≠ some (.lk zs)) → Rel G (w'.unp w) (unlock (.bw i) ρ ρ') σ' H' := fun eu hn => by
          rw [eu]
          exact {
            toWok := wok
            len := R'.len
            sl := fun j x' e => slj j x' e (by
              by_cases z : j = i
              · subst z; exact .inr fun zs y => hn zs (by rw [e, y])
              · exact .inl z)
            own := fun j q h => let ⟨h1, h2, h3⟩ := R'.own j q h; ⟨h1, tn q h2, h3⟩
            ownN := R'.ownN
            lT := R.lT }
        cases q' : ρ'.sl[i]? with
        | none => exact keep (by simp only [unlock, q, q']) fun zs => by rw [q']; simp
        | some x' =>
          cases x' with
          | lk zs =>
            have eu : unlock (.bw i) ρ ρ' = ρ'.set i (.ol zs) := by simp only [unlock, q, q']
            rw [eu]
            obtain ⟨p', us, y1, y2, y3, y4⟩ := R'.sl i _ q'
            rw [eL, if_pos rfl] at y2; cases y2
            have hi' : i < ρ'.sl.length := (List.getElem?_eq_some_iff.mp q').1
            have ot' : ∀ (j : Nat) (x' : Sl), (ρ'.set i (.ol zs)).sl[j]? = some x' → (j = i ∧ x' = .ol zs) ∨ (j ≠ i ∧ ρ'.sl[j]? = some x') := fun j x' e => by
              have e : (ρ'.sl.set i (.ol zs))[j]? = some x' := e
              by_cases z : j = i
              · subst z; rw [List.getElem?_set_self hi'] at e; cases e; exact .inl ⟨rfl, rfl⟩
              · rw [List.getElem?_set_ne (Ne.symm z)] at e; exact .inr ⟨z, e⟩
            have oo' : ∀ j a, OwnAt (ρ'.set i (.ol zs)) σ' j a → (j = i ∧ a = p) ∨ (j ≠ i ∧ OwnAt ρ' σ' j a) := fun j a ⟨e, x', ex', ho'⟩ => by
              rcases ot' j x' ex' with ⟨z, _⟩ | ⟨z, ez⟩
              · subst z; rw [y1] at e; cases e; exact .inl ⟨rfl, rfl⟩
              · exact .inr ⟨z, e, x', ez, ho'⟩
            have nop : ∀ j, ¬ OwnAt ρ' σ' j p := fun j h => by
              have := (R'.own j p h).2.1
              rw [hTp] at this; cases this
            exact {
              toWok := wok
              len := by show (ρ'.sl.set i _).length = _; rw [List.length_set]; exact R'.len
              sl := fun j x' e => by
                rcases ot' j x' e with ⟨z, z'⟩ | ⟨z, ez⟩
                · subst z; subst z'; exact ⟨p, us, y1, R'.subT _ _ y3, y4⟩
                · exact slj j x' ez (.inl z)
              own := fun j a h => by
                rcases oo' j a h with ⟨_, z⟩ | ⟨_, z⟩
                · subst z; exact ⟨nFp, f2, nAp⟩
                · obtain ⟨h1, h2, h3⟩ := R'.own j a z; exact ⟨h1, tn a h2, h3⟩
              ownN := fun j j' a h h' => by
                rcases oo' j a h with ⟨z1, z2⟩ | ⟨z1, z2⟩
                · rcases oo' j' a h' with ⟨z3, z4⟩ | ⟨z3, z4⟩
                  · rw [z1, z3]
                  · subst z2; exact absurd z4 (nop j')
                · rcases oo' j' a h' with ⟨z3, z4⟩ | ⟨z3, z4⟩
                  · subst z4; exact absurd z2 (nop j)
                  · exact R'.ownN j j' a z2 z4
              lT := R.lT }
          | un => exact keep (by simp only [unlock, q, q']) fun zs => by rw [q']; simp
          | v d => exact keep (by simp only [unlock, q, q']) fun zs => by rw [q']; simp
          | ol zs => exact keep (by simp only [unlock, q, q']) fun zs => by rw [q']; simp
          | oi c ns ds => exact keep (by simp only [unlock, q, q']) fun zs => by rw [q']; simp
end
end Mq

/-! MqWalk: targets, iterators, comprehensions. -/
namespace Mq
open PySem L2
section
variable {G : Gx} {W : WX} {w w1 w' : Wd} {ρ ρ' : SS} {σ σ' : L2.St} {H : Hp} {X : Cx} {pos : Pos} {L : Fns} {r : RV} {v : V} {ys : List Dt}
theorem set_cases {a : Type} {l : List a} {i j : Nat} {x y : a} (h : (l.set i x)[j]? = some y) : (j = i ∧ y = x) ∨ (j ≠ i ∧ l[j]? = some y) := by
  by_cases q : j = i
  · subst q
    by_cases hj : j < l.length
    · rw [List.getElem?_set_self hj] at h; cases h; exact .inl ⟨rfl, rfl⟩
    · have := (List.getElem?_eq_some_iff.mp h).1
      rw [List.length_set] at this
      exact absurd this hj
  · rw [List.getElem?_set_ne (Ne.symm q)] at h; exact .inr ⟨q, h⟩
/-- a slot is given a value -/
theorem Rel.setSl {i : Nat} {x : Sl} {v : V} (R : Rel G w ρ σ H) (hs : SlR G w H i x (some (some v))) (ho : isOwn x = true → ∃ p, v = .ref p ∧ Free w ρ σ p) : Rel G w (ρ.set i x) (σ.set i (some v)) H := by
  have oo : ∀ j q, OwnAt (ρ.set i x) (σ.set i (some v)) j q → (j = i ∧ isOwn x = true ∧ v = .ref q) ∨ (j ≠ i ∧ OwnAt ρ σ j q) := fun j q ⟨e, x', ex', ho'⟩ => by
    rcases set_cases ex' with ⟨z, z'⟩ | ⟨z, z'⟩
    · subst z; subst z'
      rcases set_cases e with ⟨_, y⟩ | ⟨y, _⟩
      · exact .inl ⟨rfl, ho', (Option.some.inj y).symm⟩
      · exact absurd rfl y
    · rcases set_cases e with ⟨y, _⟩ | ⟨_, y⟩
      · exact absurd y z
      · exact .inr ⟨z, y, x', z', ho'⟩
  exact {
    toWok := R.toWok
    len := by show (ρ.sl.set i x).length = (σ.set i (some v)).length; rw [List.length_set, List.length_set]; exact R.len
    sl := fun j x' e => by
      rcases set_cases e with ⟨z, z'⟩ | ⟨z, z'⟩
      · subst z; subst z'
        have hj : j < σ.length := by
          have h1 : j < (ρ.sl.set j x').length := (List.getElem?_eq_some_iff.mp e).1
          rw [List.length_set] at h1
          rw [← R.len]; exact h1
        rw [List.getElem?_set_self hj]; exact hs
      · rw [List.getElem?_set_ne (Ne.symm z)]; exact R.sl j x' z'
    own := fun j q h => by
      rcases oo j q h with ⟨z, z1, z2⟩ | ⟨z, z'⟩
      · obtain ⟨p, e, f⟩ := ho z1
        rw [z2] at e; cases e
        exact ⟨f.F, f.T, f.A⟩
      · exact R.own j q z'
    ownN := fun j j' q h h' => by
      rcases oo j q h with ⟨z, z1, z2⟩ | ⟨z, z'⟩
      · obtain ⟨p, e, f⟩ := ho z1
        rw [z2] at e; cases e
        rcases oo j' q h' with ⟨y, _, _⟩ | ⟨_, y'⟩
        · rw [z, y]
        · exact absurd y' (f.own j')
      · rcases oo j' q h' with ⟨y, y1, y2⟩ | ⟨_, y'⟩
        · obtain ⟨p, e, f⟩ := ho y1
          rw [y2] at e; cases e
          exact absurd z' (f.own j)
        · exact R.ownN j j' q z' y'
    lT := R.lT }
theorem Rel.setV {i : Nat} {d : Dt} {v : V} (R : Rel G w ρ σ H) (r : Rep G w.F w.A v d) : Rel G w (ρ.set i (.v d)) (σ.set i (some v)) H := R.setSl ⟨v, rfl, r⟩ fun h => by simp [isOwn] at h
/-! ### targets -/
mutual
def tslots : Tg → List Nat
  | .n i => [i]
  | .t ts => tslotsL ts
def tslotsL : List Tg → List Nat
  | [] => []
  | t :: ts => tslots t ++ tslotsL ts
end
/-- the slots but those of vs are as they were -/
def Agree (vs : List Nat) (σ σ' : L2.St) : Prop := σ'.length = σ.length ∧ ∀ j, j ∉ vs → σ'[j]? = σ[j]?
theorem Agree.refl (vs : List Nat) (σ : L2.St) : Agree vs σ σ := ⟨rfl, fun _ _ => rfl⟩
def tgR (G : Gx) (t : Tg) : TG := fun v σ H Q => ∃ w ρ d ρ', Rel G w ρ σ H ∧ Rep G w.F w.A v d ∧ bindT t d ρ = .ok () ρ' ∧ ∀ σ', Rel G w ρ' σ' H → Agree (tslots t) σ σ' → Q σ' H
def tgRs (G : Gx) (ts : List Tg) : TGs := fun vs σ H Q => ∃ w ρ ds ρ', Rel G w ρ σ H ∧ RepL G w.F w.A vs ds ∧ bindTs ts ds ρ = .ok () ρ' ∧ ∀ σ', Rel G w ρ' σ' H → Agree (tslotsL ts) σ σ' → Q σ' H
theorem _root_.L2.PG.imp {X : Cx} {e : Expr} {t t' : TG} (h : PG X e t) (hi : ∀ v σ H Q, t' v σ H Q → t v σ H Q) : PG X e t' :=
  ⟨fun pins s σ H v u Q I r q => h.run pins s σ H v u Q I r (hi _ _ _ _ q)⟩
theorem _root_.L2.PGs.imp {X : Cx} {e : List Expr} {t t' : TGs} (h : PGs X e t) (hi : ∀ v σ H Q, t' v σ H Q → t v σ H Q) : PGs X e t' :=
  ⟨fun pins s σ H v u Q I r q => h.run pins s σ H v u Q I r (hi _ _ _ _ q)⟩
theorem sg_n {i : Nat} {x : Str} (hN : X.N.Nodup) (hi : X.N[i]? = some x) (hx : Loc X.env.scope x) (hf : X.fn x = true ∨ X.env.scope.names.lookup x = some .local) : PG X (.Name x pos) (tgR G (.n i)) :=
  (pg_name hN hi hx hf).imp fun v σ H Q h => by
    obtain ⟨w, ρ, d, ρ', R, rp, e, q⟩ := h
    rw [bindT] at e
    cases e
    refine q _ (R.setV rp) ⟨by rw [List.length_set], fun j hj => ?_⟩
    have : j ≠ i := fun z => hj (by rw [z, tslots]; exact List.mem_singleton.mpr rfl)
    rw [List.getElem?_set_ne (Ne.symm this)]
theorem sgs_nil : PGs X [] (tgRs G []) := pgs_nil.imp fun vs σ H Q h => by
  obtain ⟨w, ρ, ds, ρ', R, rp, e, q⟩ := h
  cases rp with
  | nil => rw [bindTs] at e; cases e; exact ⟨rfl, q σ R (Agree.refl _ _)⟩
  | cons a r => rw [bindTs] at e; cases e; all_goals intros; simp_all
theorem bindTs_cons {t : Tg} {ts : List Tg} {d : Dt} {ds : List Dt} {s s' : SS} (h : bindTs (t :: ts) (d :: ds) s = .ok () s') : ∃ s1, bindT t d s = .ok () s1 ∧ bindTs ts ds s1 = .ok () s' := by
  rw [bindTs] at h
  cases q : bindT t d s with
  | no => rw [q] at h; cases h
  | ex c fs t => rw [q] at h; cases h
  | ok u s1 => rw [q] at h; exact ⟨s1, rfl, h⟩
theorem sgs_cons {e : Expr} {es : List Expr} {t : Tg} {ts : List Tg} (h1 : PG X e (tgR G t)) (h2 : PGs X es (tgRs G ts)) (hs : (assignEach (e :: es) X.env).map (·.2) = assign e X.env :: (assignEach es X.env).map (·.2)) : PGs X (e :: es) (tgRs G (t :: ts)) :=
  (pgs_cons h1 h2 hs).imp fun vs σ H Q h => by
    obtain ⟨w, ρ, ds, ρ', R, rp, e, q⟩ := h
    cases rp with
    | nil => simp [bindTs] at e
    | cons a rr =>
      obtain ⟨s1, e1, e2⟩ := bindTs_cons e
      refine ⟨_, _, rfl, w, ρ, _, s1, R, a, e1, fun σ1 R1 ag1 => ⟨w, s1, _, ρ', R1, rr, e2, fun σ2 R2 ag2 => q σ2 R2 ⟨ag2.1.trans ag1.1, fun j hj => ?_⟩⟩⟩
      rw [tslotsL, List.mem_append, not_or] at hj
      rw [ag2.2 j hj.2, ag1.2 j hj.1]
theorem sg_t {es : List Expr} {ts : List Tg} {k : Nat} (hK : X.K = G.K) (hc : X.calm = true) (h : PGs X es (tgRs G ts)) (hl : ts.length = es.length) (hn : (assignEach es X.env).length = es.length) (hst : (assignEach es X.env).findIdx? (·.1) = none) : PG X (.Tuple es k pos) (tgR G (.t ts)) :=
  (pg_tup hc h hn hst).imp fun v σ H Q h => by
    obtain ⟨w, ρ, d, ρ', R, rp, e, q⟩ := h
    cases d with
    | tup xs =>
      rw [bindT] at e
      obtain ⟨a, vs, rfl, hs, rl⟩ := Rep.inv_tup rp
      have len : ∀ {ts : List Tg} {ds : List Dt} {s s' : SS}, bindTs ts ds s = .ok () s' → ts.length = ds.length := by
        intro ts
        induction ts with
        | nil => intro ds s s' h; cases ds <;> simp [bindTs] at h ⊢
        | cons t ts ih =>
          intro ds s s' h
          cases ds with
          | nil => simp [bindTs] at h
          | cons d ds => obtain ⟨s1, _, e2⟩ := bindTs_cons h; simp [ih e2]
      refine ⟨a, vs, rfl, by rw [hK]; exact sqt_mono R.subF hs, by rw [rl.length, ← len e, hl], w, ρ, xs, ρ', R, rl, e, q⟩
    | _ => simp [bindT] at e
/-! ### iterators -/
structure Wk (G : Gx) (J : It) (xs : List Dt) (P : Wd → SS → Prop) : Prop where
  stop : ∀ w ρ σ H, Rel G w ρ σ H → P w ρ → J.stop xs.length H
  go : ∀ (i : Nat) d w ρ σ H, Rel G w ρ σ H → P w ρ → xs[i]? = some d → J.go i H ∧ ∀ x H', J.yld i H x H' → ∃ w', Ext w w' ∧ Rel G w' ρ σ H' ∧ Rep G w'.F w'.A x d
/-- the reading of a walk: the iterator J, its source -/
def tI (G : Gx) (W : WX) (m : SS → Out SS IV) : TI := fun σ H R => ∃ w ρ, Rel G w ρ σ H ∧ Go G W w σ (m ρ) fun iv ρ1 w1 H1 => ∀ J v, (iv.src = .v .non ∨ (RR G w1 ρ1 σ H1 iv.src v ∧ rds ρ1 iv.src = some iv.ys)) → Wk G J iv.xs (fun w ρ => (Same w1.F w.F ∧ Ax w1.A w.A) ∧ SrcOk G w ρ iv.src v iv.ys) → R J H1
theorem Wk.weak {J : It} {xs : List Dt} {P P' : Wd → SS → Prop} (h : Wk G J xs P) (hp : ∀ w ρ, P' w ρ → P w ρ) : Wk G J xs P' := ⟨fun w ρ σ H R p => h.stop w ρ σ H R (hp _ _ p), fun i d w ρ σ H R p e => h.go i d w ρ σ H R (hp _ _ p) e⟩
theorem _root_.L2.PI.imp {X : Cx} {tg e : Expr} {t t' : TI} (h : PI X tg e t) (hi : ∀ σ H R, t' σ H R → t σ H R) : PI X tg e t' :=
  ⟨fun pins s σ H R I q => h.run pins s σ H R I (hi _ _ _ q)⟩
theorem wk_list {a : Addr} (hn : ∀ xs, r ≠ .v (.tup xs)) (h0 : r ≠ .v .non) : Wk G (Itl G.K a) ys (fun w ρ => SrcOk G w ρ r (.ref a) ys) where
  stop := fun w ρ σ H R p => by
    obtain ⟨b, vs, e, hs, rl⟩ := (p.resolve_left h0).readL R hn
    cases e
    exact ⟨vs, hs, by rw [rl.length]; exact Nat.le_refl _⟩
  go := fun i d w ρ σ H R p hd => by
    obtain ⟨b, vs, e, hs, rl⟩ := (p.resolve_left h0).readL R hn
    cases e
    obtain ⟨v, ev, rv⟩ := rl.get hd
    refine ⟨⟨vs, v, hs, ev⟩, fun x H' y => ?_⟩
    obtain ⟨rfl, y⟩ := y
    have := y vs hs
    rw [ev] at this; cases this
    exact ⟨w, Ext.refl _, R, rv⟩
theorem wk_tup {a : Addr} : Wk G (Itt G.K a) ys (fun w ρ => SrcOk G w ρ (.v (.tup ys)) (.ref a) ys) where
  stop := fun w ρ σ H R p => by
    obtain ⟨b, vs, e, hs, rl⟩ := Rep.inv_tup (p.resolve_left (fun z => by cases z)).1
    cases e
    exact ⟨vs, sqt_mono R.subF hs, by rw [rl.length]; exact Nat.le_refl _⟩
  go := fun i d w ρ σ H R p hd => by
    obtain ⟨b, vs, e, hs, rl⟩ := Rep.inv_tup (p.resolve_left (fun z => by cases z)).1
    cases e
    obtain ⟨v, ev, rv⟩ := rl.get hd
    refine ⟨⟨vs, v, sqt_mono R.subF hs, ev⟩, fun x H' y => ?_⟩
    obtain ⟨rfl, y⟩ := y
    have := y vs (sqt_mono R.subF hs)
    rw [ev] at this; cases this
    exact ⟨w, Ext.refl _, R, rv⟩
/-- a list or a tuple is walked -/
def iSeq (K : PySem.W.Frag) (tl : TE) : TI := fun σ H R => tl σ H fun x H1 => ∃ a, x = .ref a ∧ (((∃ xs, SqL K H1 a xs) ∧ R (Itl K a) H1) ∨ ((∃ xs, SqT K H1 a xs) ∧ R (Itt K a) H1))
theorem pi_seqA {tg l : Expr} {tl : TE} (hl : PE X l tl) : PI X tg l (iSeq X.K tl) := by
  refine ⟨fun pins s σ H R I h => ?_⟩
  refine thn (hl.run pins s σ H _ I h) fun v s1 ⟨x, H1, I1, r1, q1⟩ => ?_
  obtain ⟨a, e, q1⟩ := q1
  subst e
  cases r1
  rcases q1 with ⟨⟨xs, hq⟩, q⟩ | ⟨⟨xs, hq⟩, q⟩
  · obtain ⟨its, rv, p, hz⟩ := I1.list hq
    refine wpAny_pyIter_list p.isList ?_
    refine ⟨s1.heap.objs.size, [s1.heap.objs.size], _, _, H1, rfl, I1.kept (t' := s1.toks) fun b o e => Heap.get?_push_of_some _ e, turn_list a _, ⟨_, Heap.get?_push_size _ rfl, rfl, rfl⟩, fun b hb => ?_, q⟩
    have e : b = s1.heap.objs.size := by simpa using hb
    subst e
    exact I1.fpOk (Nat.le_refl _) (I1.hok.fresh (Nat.le_refl _))
  · obtain ⟨its, rv, p, hz⟩ := I1.tuple hq
    refine wpAny_pyIter_tuple (show s1.heap.IsTuple a its.toArray from p) ?_
    refine ⟨s1.heap.objs.size, [s1.heap.objs.size], _, _, H1, rfl, I1.kept (t' := s1.toks) fun b o e => Heap.get?_push_of_some _ e, turn_tuple a _, ⟨_, Heap.get?_push_size _ rfl, rfl, rfl⟩, fun b hb => ?_, q⟩
    have e : b = s1.heap.objs.size := by simpa using hb
    subst e
    exact I1.fpOk (Nat.le_refl _) (I1.hok.fresh (Nat.le_refl _))
theorem seq_here {xs : List Dt} {K : PySem.W.Frag} {RC : It → Hp → Prop} (R : Rel G w ρ σ H) (hv : RR G w ρ σ H r v) (er : rds ρ r = some xs)
    (q : ∀ J v, (r = .v .non ∨ (RR G w ρ σ H r v ∧ rds ρ r = some xs)) → Wk G J xs (fun w ρ => SrcOk G w ρ r v xs) → RC J H) : ∃ a, v = .ref a ∧ (((∃ xs, SqL G.K H a xs) ∧ RC (Itl G.K a) H) ∨ ((∃ xs, SqT G.K H a xs) ∧ RC (Itt G.K a) H)) := by
  by_cases ht : ∃ zs, r = .v (.tup zs)
  · obtain ⟨zs, rfl⟩ := ht
    simp only [rds, Option.some.injEq] at er
    subst er
    obtain ⟨a, vs, rfl, hs, rl⟩ := Rep.inv_tup hv
    exact ⟨a, rfl, .inr ⟨⟨vs, sqt_mono R.subF hs⟩, q _ _ (.inr ⟨hv, rfl⟩) wk_tup⟩⟩
  · have el : rdl ρ r = some xs := by
      cases r with
      | nl ys => exact er
      | bw i => exact er
      | v d => cases d <;> first | exact er | exact absurd ⟨_, rfl⟩ ht
    obtain ⟨a, vs, rfl, hs, rl⟩ := rdl_ok R hv el
    refine ⟨a, rfl, .inl ⟨⟨vs, hs⟩, q _ _ (.inr ⟨hv, er⟩) (wk_list (fun xs z => ht ⟨xs, z⟩) fun z => by rw [z] at er; simp [rds, rdl, rdt] at er)⟩⟩
theorem si_seq {tg l : Expr} {fz : Bool} {m : ME} (hK : X.K = G.K) (hl : PE X l (tE G W (ev L m))) : PI X tg l (tI G W (evI L (.seq fz m))) :=
  (pi_seqA hl).imp fun σ H RC h => by
    rw [hK]
    obtain ⟨w, ρ, R, g⟩ := h
    rw [evI] at g
    refine ⟨w, ρ, R, g.bind.mono fun r ρ1 w1 H1 _ e1 R1 q v hv => ?_⟩
    cases fz with
    | true =>
      rw [if_pos rfl] at q
      obtain ⟨d, ρ2, w2, ev2, e2, R2, rep, q2⟩ := val_ok R1 hv q.bind
      cases er : rds ρ2 (.v d) with
      | none => rw [er] at q2; exact q2.elim
      | some xs => rw [er] at q2; exact seq_here (K := G.K) R2 (r := .v d) rep er fun J v h k => q2.here R2 J v h (k.weak fun _ _ p => p.2)
    | false =>
      rw [if_neg Bool.false_ne_true] at q
      cases er : rds ρ1 r with
      | none => rw [er] at q; exact q.elim
      | some xs => rw [er] at q; exact seq_here (K := G.K) R1 hv er fun J v h k => q.here R1 J v h (k.weak fun _ _ p => p.2)
theorem wk_range {lo : Int} {n : Nat} {xs : List Dt} (h : xs = (List.range n).map fun (i : Nat) => Dt.int (lo + i)) {P : Wd → SS → Prop} : Wk G (Itr lo n) xs P where
  stop := fun w ρ σ H R p => by subst h; show n ≤ _; simp
  go := fun i d w ρ σ H R p hd => by
    subst h
    have hi : i < n := by have := (List.getElem?_eq_some_iff.mp hd).1; simpa using this
    refine ⟨hi, fun x H' y => ?_⟩
    obtain ⟨rfl, rfl⟩ := y
    simp [hi] at hd
    subst hd
    exact ⟨w, Ext.refl _, R, .int _⟩
theorem si_rng1 {tg a : Expr} {m : ME} {p : Pos} (hg : Gl X "range") (hm : X.mg "range" = none) (hs : starEach [a] X.env = [(false, eval a X.env)]) (ha : PA X [a] (tA G W (evs L [m]))) : PI X tg (.Call (.Name "range" p) [a] [] pos) (tI G W (evI L (.rng [m]))) :=
  (pi_range1 hg hm ha hs).imp fun σ H RC h => by
    obtain ⟨w, ρ, R, g⟩ := h
    rw [evI] at g
    refine ⟨w, ρ, R, g.bind.mono fun ds ρ1 w1 H1 eo e1 R1 q vs hvs => ?_⟩
    split at q
    · cases hvs with
      | cons r1 r2 =>
        cases r2
        obtain rfl := Rep.inv_int r1
        split at q
        · rename_i c
          simp only [rngOk, Bool.and_eq_true, decide_eq_true_eq] at c
          refine ⟨_, rfl, c.1, c.2, q.here R1 _ .non (.inl rfl) (wk_range ?_)⟩
          simp [rngI]
        · exact q.elim
    · exact absurd (evs_len eo) (by simp)
    · exact absurd (evs_len eo) (by simp)
    · exact q.elim
theorem si_rng2 {tg a b : Expr} {m n : ME} {p : Pos} (hg : Gl X "range") (hm : X.mg "range" = none) (hs : starEach [a, b] X.env = [(false, eval a X.env), (false, eval b X.env)]) (hs2 : starEach [b] X.env = [(false, eval b X.env)]) (ha : PA X [a, b] (tA G W (evs L [m, n]))) : PI X tg (.Call (.Name "range" p) [a, b] [] pos) (tI G W (evI L (.rng [m, n]))) :=
  (pi_range2 hg hm ha hs hs2).imp fun σ H RC h => by
    obtain ⟨w, ρ, R, g⟩ := h
    rw [evI] at g
    refine ⟨w, ρ, R, g.bind.mono fun ds ρ1 w1 H1 eo e1 R1 q vs hvs => ?_⟩
    split at q
    · exact absurd (evs_len eo) (by simp)
    · cases hvs with
      | cons r1 r2 =>
        cases r2 with
        | cons r3 r4 =>
          cases r4
          obtain rfl := Rep.inv_int r1
          obtain rfl := Rep.inv_int r3
          split at q
          · rename_i c
            simp only [rngOk, Bool.and_eq_true, decide_eq_true_eq] at c
            exact ⟨_, _, rfl, ⟨c.1.1, c.1.2, c.2.1, c.2.2⟩, q.here R1 _ .non (.inl rfl) (wk_range rfl)⟩
          · exact q.elim
    · exact absurd (evs_len eo) (by simp)
    · exact q.elim
theorem wk_down {lo hi : Int} {P : Wd → SS → Prop} : Wk G (Itc lo (-1) (lo - hi).toNat) (rngD lo hi) P where
  stop := fun w ρ σ H R p => by show (lo - hi).toNat ≤ _; simp [rngD]
  go := fun i d w ρ σ H R p hd => by
    have hi' : i < (lo - hi).toNat := by have := (List.getElem?_eq_some_iff.mp hd).1; simpa [rngD] using this
    refine ⟨hi', fun x H' y => ?_⟩
    obtain ⟨rfl, rfl⟩ := y
    simp [rngD, hi'] at hd
    subst hd
    have e : lo + (i : Int) * -1 = lo - i := by omega
    rw [e]
    exact ⟨w, Ext.refl _, R, .int _⟩
theorem si_rng3 {tg a b c : Expr} {m n o : ME} {p : Pos} (hg : Gl X "range") (hm : X.mg "range" = none) (hs : starEach [a, b, c] X.env = (false, eval a X.env) :: starEach [b, c] X.env) (hpl : (backTo pos (starEach [b, c] X.env)).any (·.1) = false) (ha : PA X [a, b, c] (tA G W (evs L [m, n, o]))) : PI X tg (.Call (.Name "range" p) [a, b, c] [] pos) (tI G W (evI L (.rng [m, n, o]))) :=
  (pi_range3 hg hm ha hs hpl).imp fun σ H RC h => by
    obtain ⟨w, ρ, R, g⟩ := h
    rw [evI] at g
    refine ⟨w, ρ, R, g.bind.mono fun ds ρ1 w1 H1 eo e1 R1 q vs hvs => ?_⟩
    split at q
    · exact absurd (evs_len eo) (by simp)
    · exact absurd (evs_len eo) (by simp)
    · cases hvs with
      | cons r1 t =>
        cases t with
        | cons r2 t =>
          cases t with
          | cons r3 t =>
            cases t
            obtain rfl := Rep.inv_int r1
            obtain rfl := Rep.inv_int r2
            obtain rfl := Rep.inv_int r3
            split at q
            · rename_i c
              simp only [rngOk, Bool.and_eq_true, decide_eq_true_eq, beq_iff_eq] at c
              obtain ⟨⟨⟨c1, c2⟩, c3, c4⟩, rfl⟩ := c
              exact ⟨_, _, _, _, rfl, RgC.neg c1 c2 c3 c4, q.here R1 _ .non (.inl rfl) wk_down⟩
            · exact q.elim
    · exact q.elim
theorem enumL_get : ∀ {ys : List Dt} {n i : Nat}, (enumL n ys)[i]? = (ys[i]?).map fun d => .tup [.int ((n + i : Nat) : Int), d]
  | [], n, i => by simp [enumL]
  | y :: r, n, 0 => by simp [enumL]
  | y :: r, n, i + 1 => by
    rw [enumL, List.getElem?_cons_succ, List.getElem?_cons_succ, enumL_get]
    congr 1
    funext d
    have : n + 1 + i = n + (i + 1) := by omega
    rw [this]
theorem enumL_length : ∀ {ys : List Dt} {n : Nat}, (enumL n ys).length = ys.length
  | [], n => rfl
  | y :: r, n => by simp [enumL, enumL_length]
theorem wk_enum {a : Addr} (hn : ∀ xs, r ≠ .v (.tup xs)) (h0 : r ≠ .v .non) : Wk G (Ite G.K a) (enumL 0 ys) (fun w ρ => SrcOk G w ρ r (.ref a) ys) where
  stop := fun w ρ σ H R p => by
    obtain ⟨b, vs, e, hs, rl⟩ := (p.resolve_left h0).readL R hn
    cases e
    exact ⟨vs, hs, by rw [rl.length, enumL_length]; exact Nat.le_refl _⟩
  go := fun i d w ρ σ H R p hd => by
    obtain ⟨b, vs, e, hs, rl⟩ := (p.resolve_left h0).readL R hn
    cases e
    rw [enumL_get] at hd
    simp only [Option.map_eq_some_iff] at hd
    obtain ⟨d', hd, rfl⟩ := hd
    obtain ⟨v, ev, rv⟩ := rl.get hd
    refine ⟨⟨vs, v, hs, ev⟩, fun x H' y => ?_⟩
    obtain ⟨T, x', rfl, hT, rfl, y⟩ := y
    have := y vs hs
    rw [ev] at this; cases this
    obtain ⟨e, R', eF⟩ := R.newF (o := .tup [.int (i : Nat), v]) hT
    refine ⟨_, e, R', .tup (SqT.of eF) (.cons ?_ (.cons (rv.mono e.F e.A) .nil))⟩
    rw [Nat.zero_add]; exact .int _
theorem enum_here {xs : List Dt} {RC : It → Hp → Prop} (R : Rel G w ρ σ H) (hv : RR G w ρ σ H r v) (er : rdl ρ r = some xs)
    (q : ∀ J v, (r = .v .non ∨ (RR G w ρ σ H r v ∧ rds ρ r = some xs)) → Wk G J (enumL 0 xs) (fun w ρ => SrcOk G w ρ r v xs) → RC J H) : ∃ a vs, [v] = [.ref a] ∧ SqL G.K H a vs ∧ RC (Ite G.K a) H := by
  obtain ⟨a, vs, rfl, hs, rl⟩ := rdl_ok R hv er
  have ht : ∀ zs, r ≠ .v (.tup zs) := fun zs z => by rw [z] at er; simp [rdl, rdt] at er
  have er' : rds ρ r = some xs := by
    cases r with
    | nl ys => exact er
    | bw i => exact er
    | v d => cases d <;> first | exact er | exact absurd rfl (ht _)
  exact ⟨a, vs, rfl, hs, q _ _ (.inr ⟨hv, er'⟩) (wk_enum ht fun z => by rw [z] at er; simp [rdl, rdt] at er)⟩
theorem si_enum {e : Expr} {fz : Bool} {m : ME} {p tpos : Pos} {elts : List Expr} {kk : Nat} (hK : X.K = G.K) (hg : Gl X "enumerate") (hm : X.mg "enumerate" = none) (hs : starEach [e] X.env = [(false, eval e X.env)]) (he : PE X e (tE G W (ev L m))) :
    PI X (.Tuple elts kk tpos) (.Call (.Name "enumerate" p) [e] [] pos) (tI G W (evI L (.enum fz m))) :=
  (pi_enum hg hm (pa_cons he pa_nil hs) hs).imp fun σ H RC h => by
    rw [hK]
    obtain ⟨w, ρ, R, g⟩ := h
    rw [evI] at g
    refine ⟨w, ρ, R, g.bind.mono fun r ρ1 w1 H1 _ e1 R1 q v hv => ?_⟩
    cases fz with
    | true =>
      rw [if_pos rfl] at q
      obtain ⟨d, ρ2, w2, ev2, e2, R2, rep, q2⟩ := val_ok R1 hv q.bind
      cases er : rdl ρ2 (.v d) with
      | none => rw [er] at q2; exact q2.elim
      | some xs => rw [er] at q2; exact enum_here R2 (r := .v d) rep er fun J v h k => q2.here R2 J v h (k.weak fun _ _ p => p.2)
    | false =>
      rw [if_neg Bool.false_ne_true] at q
      cases er : rdl ρ1 r with
      | none => rw [er] at q; exact q.elim
      | some xs => rw [er] at q; exact enum_here R1 hv er fun J v h k => q.here R1 J v h (k.weak fun _ _ p => p.2)
/-! ### zip -/
theorem wk_zipL {w0 : Wd} {a b : Addr} {vs us : List V} {xs ys : List Dt} {P : Wd → SS → Prop} (hP : ∀ w ρ, P w ρ → Same w0.F w.F ∧ Ax w0.A w.A) (h1 : w0.F a = some (.lst vs)) (h2 : w0.F b = some (.lst us)) (r1 : RepL G w0.F w0.A vs xs) (r2 : RepL G w0.F w0.A us ys) : Wk G (Itz G.K a b) ((xs.zip ys).map fun p => .tup [p.1, p.2]) P where
  stop := fun w ρ σ H R p => ⟨vs, us, SqL.of (R.subF _ _ ((hP _ _ p).1 _ _ h1)), SqL.of (R.subF _ _ ((hP _ _ p).1 _ _ h2)), by
    rw [List.length_map, List.length_zip, r1.length, r2.length]; omega⟩
  go := fun i d w ρ σ H R p hd => by
    obtain ⟨s, k⟩ := hP _ _ p
    simp only [List.getElem?_map, Option.map_eq_some_iff, List.getElem?_zip_eq_some] at hd
    obtain ⟨⟨d1, d2⟩, ⟨g1, g2⟩, rfl⟩ := hd
    obtain ⟨v1, e1, q1⟩ := (r1.mono s k).get g1
    obtain ⟨v2, e2, q2⟩ := (r2.mono s k).get g2
    have l1 := SqL.of (K := G.K) (R.subF _ _ (s _ _ h1))
    have l2 := SqL.of (K := G.K) (R.subF _ _ (s _ _ h2))
    refine ⟨⟨vs, us, v1, v2, l1, l2, e1, e2⟩, fun x H' y => ?_⟩
    obtain ⟨T, x', y', rfl, hT, rfl, z1, z2⟩ := y
    have z1 := z1 vs l1
    have z2 := z2 us l2
    rw [e1] at z1; cases z1
    rw [e2] at z2; cases z2
    obtain ⟨e, R', eF⟩ := R.newF (o := .tup [v1, v2]) hT
    exact ⟨_, e, R', .tup (SqT.of eF) (.cons (q1.mono e.F e.A) (.cons (q2.mono e.F e.A) .nil))⟩
theorem wk_zipT {w0 : Wd} {a b : Addr} {vs us : List V} {xs ys : List Dt} {P : Wd → SS → Prop} (hP : ∀ w ρ, P w ρ → Same w0.F w.F ∧ Ax w0.A w.A) (h1 : SqT G.K w0.F a vs) (h2 : SqT G.K w0.F b us) (r1 : RepL G w0.F w0.A vs xs) (r2 : RepL G w0.F w0.A us ys) : Wk G (RZ.ItzT G.K a b) ((xs.zip ys).map fun p => .tup [p.1, p.2]) P where
  stop := fun w ρ σ H R p => ⟨vs, us, sqt_mono ((hP _ _ p).1.trans R.subF) h1, sqt_mono ((hP _ _ p).1.trans R.subF) h2, by
    rw [List.length_map, List.length_zip, r1.length, r2.length]; omega⟩
  go := fun i d w ρ σ H R p hd => by
    obtain ⟨s, k⟩ := hP _ _ p
    simp only [List.getElem?_map, Option.map_eq_some_iff, List.getElem?_zip_eq_some] at hd
    obtain ⟨⟨d1, d2⟩, ⟨g1, g2⟩, rfl⟩ := hd
    obtain ⟨v1, e1, q1⟩ := (r1.mono s k).get g1
    obtain ⟨v2, e2, q2⟩ := (r2.mono s k).get g2
    have l1 := sqt_mono (s.trans R.subF) h1
    have l2 := sqt_mono (s.trans R.subF) h2
    refine ⟨⟨vs, us, v1, v2, l1, l2, e1, e2⟩, fun x H' y => ?_⟩
    obtain ⟨T, x', y', rfl, hT, rfl, z1, z2⟩ := y
    have z1 := z1 vs l1
    have z2 := z2 us l2
    rw [e1] at z1; cases z1
    rw [e2] at z2; cases z2
    obtain ⟨e, R', eF⟩ := R.newF (o := .tup [v1, v2]) hT
    exact ⟨_, e, R', .tup (SqT.of eF) (.cons (q1.mono e.F e.A) (.cons (q2.mono e.F e.A) .nil))⟩
theorem si_zip {e e2 : Expr} {m n : ME} {p tpos : Pos} {elts : List Expr} {kk : Nat} (hK : X.K = G.K) (hg : Gl X "zip") (hm : X.mg "zip" = none) (ha : PA X [e, e2] (tA G W (evs L [m, n])))
    (hs : starEach [e, e2] X.env = (false, eval e X.env) :: starEach [e2] X.env) (hpl : (backTo pos (starEach [e2] X.env)).any (·.1) = false) :
    PI X (.Tuple elts kk tpos) (.Call (.Name "zip" p) [e, e2] [] pos) (tI G W (evI L (.zip [m, n]))) :=
  (RZ.pi_zipA hg hm ha hs hpl).imp fun σ H RC h => by
    rw [hK]
    obtain ⟨w, ρ, R, g⟩ := h
    rw [evI] at g
    refine ⟨w, ρ, R, g.bind.mono fun ds ρ1 w1 H1 _ e1 R1 q vs hvs => ?_⟩
    split at q
    · cases hvs with
      | cons r1 t =>
        cases t with
        | cons r2 t =>
          cases t
          obtain ⟨a, vs, rfl, h1, r1⟩ := Rep.inv_lst r1
          obtain ⟨b, us, rfl, h2, r2⟩ := Rep.inv_lst r2
          exact ⟨a, b, vs, us, rfl, .inl ⟨SqL.of (R1.subF _ _ h1), SqL.of (R1.subF _ _ h2), q.here R1 _ .non (.inl rfl) (wk_zipL (fun _ _ p => p.1) h1 h2 r1 r2)⟩⟩
    · cases hvs with
      | cons r1 t =>
        cases t with
        | cons r2 t =>
          cases t
          obtain ⟨a, vs, rfl, h1, r1⟩ := Rep.inv_tup r1
          obtain ⟨b, us, rfl, h2, r2⟩ := Rep.inv_tup r2
          exact ⟨a, b, vs, us, rfl, .inr ⟨sqt_mono R1.subF h1, sqt_mono R1.subF h2, q.here R1 _ .non (.inl rfl) (wk_zipT (fun _ _ p => p.1) h1 h2 r1 r2)⟩⟩
    · exact q.elim
end
end Mq

/-! MqComp: list comprehensions. -/
namespace Mq
open PySem L2
/-- nothing is raised -/
def WF : WX := fun _ _ _ _ => False
section
variable {G : Gx} {W : WX} {w w1 w2 w' : Wd} {ρ ρ' ρ1 : SS} {σ σ' : L2.St} {H H1 : Hp} {X : Cx} {pos : Pos} {L : Fns} {r : RV} {v : V} {ys : List Dt}
theorem wipeS_st : ∀ (own : List Nat) (s : SS), (wipeS own s).st = s.st
  | [], s => rfl
  | i :: r, s => by show (wipeS r s).st = s.st; exact wipeS_st r s
theorem wipeS_len : ∀ (own : List Nat) (s : SS), (wipeS own s).sl.length = s.sl.length
  | [], s => rfl
  | i :: r, s => by show ((wipeS r s).sl.set i .un).length = _; rw [List.length_set]; exact wipeS_len r s
theorem wipeS_out : ∀ {own : List Nat} {s : SS} {j : Nat}, j ∉ own → (wipeS own s).sl[j]? = s.sl[j]?
  | [], s, j, _ => rfl
  | i :: r, s, j, h => by
    rw [List.mem_cons, not_or] at h
    show ((wipeS r s).sl.set i .un)[j]? = _
    rw [List.getElem?_set_ne (Ne.symm h.1)]; exact wipeS_out h.2
theorem wipeS_in : ∀ {own : List Nat} {s : SS} {j : Nat} {x : Sl}, j ∈ own → (wipeS own s).sl[j]? = some x → x = .un
  | i :: r, s, j, x, h, e => by
    have e : ((wipeS r s).sl.set i .un)[j]? = some x := e
    rcases set_cases e with ⟨_, z⟩ | ⟨z, z'⟩
    · exact z
    · exact wipeS_in ((List.mem_cons.mp h).resolve_left z) z'
theorem backS_st (s0 : SS) : ∀ (own : List Nat) (s : SS), (backS s0 own s).st = s.st
  | [], s => rfl
  | i :: r, s => by show (backS s0 r s).st = s.st; exact backS_st s0 r s
theorem backS_len (s0 : SS) : ∀ (own : List Nat) (s : SS), (backS s0 own s).sl.length = s.sl.length
  | [], s => rfl
  | i :: r, s => by show ((backS s0 r s).sl.set i _).length = _; rw [List.length_set]; exact backS_len s0 r s
theorem backS_out {s0 : SS} : ∀ {own : List Nat} {s : SS} {j : Nat}, j ∉ own → (backS s0 own s).sl[j]? = s.sl[j]?
  | [], s, j, _ => rfl
  | i :: r, s, j, h => by
    rw [List.mem_cons, not_or] at h
    show ((backS s0 r s).sl.set i _)[j]? = _
    rw [List.getElem?_set_ne (Ne.symm h.1)]; exact backS_out h.2
theorem backS_in {s0 : SS} : ∀ {own : List Nat} {s : SS} {j : Nat} {x : Sl}, j ∈ own → (backS s0 own s).sl[j]? = some x → x = s0.sl.getD j .un
  | i :: r, s, j, x, h, e => by
    have e : ((backS s0 r s).sl.set i (s0.sl.getD i .un))[j]? = some x := e
    rcases set_cases e with ⟨y, z⟩ | ⟨z, z'⟩
    · rw [y]; exact z
    · exact backS_in ((List.mem_cons.mp h).resolve_left z) z'
theorem wipe_out {σ : L2.St} : ∀ {vs : List Nat} {j : Nat}, j ∉ vs → (wipe σ vs)[j]? = σ[j]?
  | [], j, _ => rfl
  | i :: r, j, h => by
    rw [List.mem_cons, not_or] at h
    show ((wipe σ r).set i none)[j]? = _
    rw [List.getElem?_set_ne (Ne.symm h.1)]; exact wipe_out h.2
theorem wipe_in {σ : L2.St} : ∀ {vs : List Nat} {j : Nat}, j ∈ vs → (wipe σ vs)[j]? = if j < σ.length then some none else none
  | i :: r, j, h => by
    show ((wipe σ r).set i none)[j]? = _
    by_cases q : j = i
    · subst q
      by_cases hj : j < σ.length
      · rw [List.getElem?_set_self (by rw [wipe_length]; exact hj), if_pos hj]
      · rw [if_neg hj, List.getElem?_eq_none (by rw [List.length_set, wipe_length]; omega)]
    · rw [List.getElem?_set_ne (Ne.symm q)]; exact wipe_in ((List.mem_cons.mp h).resolve_left q)
theorem Rel.wiped (R : Rel G w ρ σ H) (own : List Nat) : Rel G w (wipeS own ρ) (wipe σ own) H := by
  have oo : ∀ j q, OwnAt (wipeS own ρ) (wipe σ own) j q → OwnAt ρ σ j q := fun j q ⟨e, x, ex, ho⟩ => by
    by_cases m : j ∈ own
    · have := wipeS_in m ex; subst this; simp [isOwn] at ho
    · rw [wipeS_out m] at ex; rw [wipe_out m] at e; exact ⟨e, x, ex, ho⟩
  exact {
    toWok := by rw [wipeS_st]; exact R.toWok
    len := by rw [wipeS_len, wipe_length]; exact R.len
    sl := fun j x e => by
      by_cases m : j ∈ own
      · have := wipeS_in m e; subst this; trivial
      · rw [wipeS_out m] at e; rw [wipe_out m]; exact R.sl j x e
    own := fun j q h => R.own j q (oo j q h)
    ownN := fun j j' q h h' => R.ownN j j' q (oo j q h) (oo j' q h')
    lT := R.lT }
theorem Free.wiped {p : Addr} (f : Free w ρ σ p) (own : List Nat) : Free w (wipeS own ρ) (wipe σ own) p := ⟨f.F, f.T, f.A, fun j ⟨e, x, ex, ho⟩ => by
  by_cases m : j ∈ own
  · have := wipeS_in m ex; subst this; simp [isOwn] at ho
  · rw [wipeS_out m] at ex; rw [wipe_out m] at e; exact f.own j ⟨e, x, ex, ho⟩⟩
/-- behind the block -/
theorem Rel.backed {own : List Nat} (R1 : Rel G w1 ρ1 σ H1) (hw : wipeOk own ρ1 = true) (hF : Same w1.F w'.F) (hA : Ax w1.A w'.A) (R : Rel G w' (wipeS own ρ') (wipe σ own) H) :
    Rel G w' (backS ρ1 own ρ') σ H ∧ ∀ j p, OwnAt (backS ρ1 own ρ') σ j p → OwnAt (wipeS own ρ') (wipe σ own) j p := by
  have at_ : ∀ j x, j ∈ own → (backS ρ1 own ρ').sl[j]? = some x → x = .un ∨ ∃ d, x = .v d ∧ ρ1.sl[j]? = some (.v d) := fun j x m e => by
    have h := List.all_eq_true.mp hw j m
    have e := backS_in m e
    rw [List.getD_eq_getElem?_getD] at e
    split at h
    · rename_i z; rw [z] at e; exact .inl e
    · rename_i d z; rw [z] at e; exact .inr ⟨d, e, z⟩
    · cases h
  have oo : ∀ j q, OwnAt (backS ρ1 own ρ') σ j q → OwnAt (wipeS own ρ') (wipe σ own) j q := fun j q ⟨e, x, ex, ho⟩ => by
    by_cases m : j ∈ own
    · rcases at_ j x m ex with rfl | ⟨d, rfl, _⟩ <;> simp [isOwn] at ho
    · rw [backS_out m] at ex; exact ⟨by rw [wipe_out m]; exact e, x, by rw [wipeS_out m]; exact ex, ho⟩
  refine ⟨{
    toWok := by
      rw [backS_st]
      have := R.toWok
      rw [wipeS_st] at this; exact this
    len := by
      rw [backS_len]
      have := R.len
      rw [wipeS_len, wipe_length] at this; exact this
    sl := fun j x e => by
      by_cases m : j ∈ own
      · rcases at_ j x m e with rfl | ⟨d, rfl, z⟩
        · trivial
        · obtain ⟨v, e1, r⟩ := R1.sl j _ z
          exact ⟨v, e1, r.mono hF hA⟩
      · rw [backS_out m] at e
        have := R.sl j x (by rw [wipeS_out m]; exact e)
        rw [wipe_out m] at this; exact this
    own := fun j q h => R.own j q (oo j q h)
    ownN := fun j j' q h h' => R.ownN j j' q (oo j q h) (oo j' q h')
    lT := R.lT }, oo⟩
theorem unlock_own {j : Nat} {p : Addr} (h : OwnAt (unlock r ρ1 ρ') σ j p) : OwnAt ρ' σ j p ∨ OwnAt ρ1 σ j p := by
  cases r with
  | v d => exact .inl h
  | nl xs => exact .inl h
  | bw i =>
    simp only [unlock] at h
    split at h
    · rename_i zs ys e1 e2
      obtain ⟨e, x, ex, ho⟩ := h
      have ex : (ρ'.sl.set i (.ol ys))[j]? = some x := ex
      rcases set_cases ex with ⟨rfl, z⟩ | ⟨z, z'⟩
      · exact .inr ⟨e, _, e1, rfl⟩
      · exact .inl ⟨e, x, z', ho⟩
    · exact .inl h
/-- a list put beside, and taken back -/
theorem Rel.pinback {p : Addr} {vs : List V} (R : Rel G w ρ σ H) (f : w.T p = none) (e : Ext (w.pin p (.lst vs)) w2) (R2 : Rel G w2 ρ' σ' H1) : Ext w (w2.unp w) ∧ Rel G (w2.unp w) ρ' σ' H1 ∧ H1 p = some (.lst vs) ∧ Free (w2.unp w) ρ' σ' p := by
  have eT : w2.T = upd w.T p (.lst vs) := e.T
  have s : Same w.T w2.T := fun b u q => by rw [eT, upd_ne (ne_of_none q f)]; exact q
  have hp : w2.T p = some (.lst vs) := by rw [eT]; exact upd_same
  exact ⟨⟨e.F, e.A, rfl, rfl, rfl⟩, R2.less s e.L.symm e.M.symm R.lT, R2.subT _ _ hp, R2.freeT hp f⟩
theorem SrcOk.pin {p : Addr} {o : HO} (h : SrcOk G w ρ r v ys) (f : w.T p = none) : SrcOk G (w.pin p o) ρ r v ys := by
  refine h.imp id fun h => ?_
  have rest : (∃ p vs, v = .ref p ∧ (w.T p = some (.lst vs) ∨ w.F p = some (.lst vs)) ∧ RepL G w.F w.A vs ys) → ∃ q vs, v = .ref q ∧ ((w.pin p o).T q = some (.lst vs) ∨ w.F q = some (.lst vs)) ∧ RepL G w.F w.A vs ys := by
    rintro ⟨q, vs, e1, e2, rl⟩
    refine ⟨q, vs, e1, e2.imp (fun e2 => ?_) id, rl⟩
    show upd w.T p o q = _
    rw [upd_ne (ne_of_none e2 f)]; exact e2
  cases r with
  | nl xs => exact rest h
  | bw i => exact rest h
  | v d => cases d <;> exact h
theorem SrcOk.st (h : SrcOk G w ρ r v ys) (e : ρ'.st = ρ.st) : SrcOk G w ρ' r v ys := by
  refine h.imp id fun h => ?_
  cases r with
  | nl xs => exact h
  | bw i => exact h
  | v d =>
    cases d with
    | ref n => obtain ⟨a, e1, e2, e3⟩ := h; exact ⟨a, e1, e2, by rw [e]; exact e3⟩
    | _ => exact h
theorem chk_st (e : ρ'.st = ρ.st) : chk ys r ρ' = chk ys r ρ := by
  cases r with
  | nl xs => rfl
  | bw i => rfl
  | v d => cases d <;> first | rfl | (unfold chk; simp only [e])
theorem bindT_ex : ∀ (t : Tg) (d : Dt) (s s' : SS) (c : Nat) (fs : List Dt), bindT t d s ≠ .ex c fs s'
  | .n i, d, s, s', c, fs => by rw [bindT]; simp
  | .t ts, d, s, s', c, fs => by
    have ih : ∀ (ts : List Tg) (ds : List Dt) (s : SS), (∀ t, t ∈ ts → ∀ d s, bindT t d s ≠ .ex c fs s') → bindTs ts ds s ≠ .ex c fs s' := by
      intro ts
      induction ts with
      | nil => intro ds s _; cases ds <;> simp [bindTs]
      | cons t ts ih =>
        intro ds s h
        cases ds with
        | nil => simp [bindTs]
        | cons d ds =>
          rw [bindTs]
          cases q : bindT t d s with
          | no => simp [Out.bind]
          | ok u s1 => exact ih ds s1 fun t m => h t (List.mem_cons_of_mem _ m)
          | ex c' fs' s1 =>
            intro z
            cases z
            exact h t (List.mem_cons_self ..) d s q
    cases d with
    | tup xs => rw [bindT]; exact ih ts xs s fun t m d s => bindT_ex t d s s' c fs
    | _ => simp [bindT]
/-- outcomes taken apart -/
theorem bind_ok {s a b : Type} {x : Out s a} {f : a → s → Out s b} {y : b} {t : s} (h : x.bind f = .ok y t) : ∃ z u, x = .ok z u ∧ f z u = .ok y t := by
  cases x with
  | no => cases h
  | ex c fs u => cases h
  | ok z u => exact ⟨z, u, rfl, h⟩
theorem noex_ok {s a : Type} {x : Out s a} {y : a} {t : s} (h : x.noex = .ok y t) : x = .ok y t := by
  cases x with
  | no => cases h
  | ex c fs u => cases h
  | ok z u => exact h
theorem lcLoop_ex {ck : SS → Bool} {t : Tg} {own : List Nat} {c : SS → Out SS Bool} {e : SS → Out SS Dt} {n : Nat} {fs : List Dt} {s' : SS} : ∀ (xs acc : List Dt) (s : SS), lcLoop ck (fun s x => bindT t x s) own (fun s => (c s).noex) (fun s => (e s).noex) xs acc s ≠ .ex n fs s'
  | [], acc, s => by rw [lcLoop]; simp
  | x :: xs, acc, s => by
    rw [lcLoop]
    cases q : bindT t x (wipeS own s) with
    | no => simp [Out.bind]
    | ex c' fs' u => exact absurd q (bindT_ex _ _ _ _ _ _)
    | ok z u =>
      show ((c u).noex).bind _ ≠ _
      cases q2 : c u with
      | no => simp [Out.bind, Out.noex]
      | ex c' fs' u => simp [Out.bind, Out.noex]
      | ok b u2 =>
        show (if b = true then ((e u2).noex).bind _ else _) ≠ _
        cases b with
        | false =>
          rw [if_neg Bool.false_ne_true]
          split
          · exact lcLoop_ex xs acc u2
          · simp
        | true =>
          rw [if_pos rfl]
          cases q3 : e u2 with
          | no => simp [Out.bind, Out.noex]
          | ex c' fs' u => simp [Out.bind, Out.noex]
          | ok d u3 =>
            show (if _ then _ else _) ≠ _
            split
            · exact lcLoop_ex xs _ u3
            · simp
/-- a clause's test -/
def cndM (L : Fns) (cond : Option ME) : SS → Out SS Bool := fun s => match cond with | none => .ok true s | some c => ((ev L c s).bind asB).noex
theorem go_noex {a : Type} {o : Out SS a} {k : a → SS → Wd → Hp → Prop} (g : Go G WF w σ o.noex k) : Go G WF w σ o k := by
  cases o with
  | no => exact g
  | ex c fs s => exact g.elim
  | ok x s => exact g
theorem sts_nil : PTs X [] (tT G WF (cndM L none)) := ⟨fun pins s σ H Q I h => by
  obtain ⟨w, ρ, R, g⟩ := h
  exact pts_nil.run pins s σ H Q I (g.here R)⟩
theorem sts_one {c : Expr} {m : ME} (h : PT X c (tT G WF (tst (ev L m)))) : PTs X [c] (tT G WF (cndM L (some m))) := pts_one (h.imp fun σ H Q h => by
  obtain ⟨w, ρ, R, g⟩ := h
  exact ⟨w, ρ, R, go_noex g⟩)
theorem fix_ok {a : Type} {f : SS → SS} {o : Out SS a} {k : a → SS → Wd → Hp → Prop} (g : Go G W w σ (o.fix f) k) (hx : ∀ c fs s, o ≠ .ex c fs s) : ∃ x s, o = .ok x s ∧ Go G W w σ (.ok x (f s)) k := by
  cases o with
  | no => exact g.elim
  | ex c fs s => exact absurd rfl (hx c fs s)
  | ok x s => exact ⟨x, s, rfl, g⟩
theorem lc_red (e : Option ME) : cndM L e = fun s => (cndM L e s).noex := by
  funext s
  cases e with
  | none => rfl
  | some c =>
    show ((ev L c s).bind asB).noex = (((ev L c s).bind asB).noex).noex
    cases (ev L c s).bind asB <;> rfl
theorem lc_ev {me : ME} {t : Tg} {src : MI} {cond : Option ME} {os : List Nat} {s : SS} : ev L (.lc me t src cond os) s = (evI L src s).bind fun iv s => if wipeOk os s then
      ((lcLoop (chk iv.ys iv.src) (fun s x => bindT t x s) os (fun s => (cndM L cond s).noex) (fun s => ((ev L me s).bind val).noex) iv.xs [] (lock iv.src s)).fix fun s' => unlock iv.src s (backS s os s')).bind fun acc s => .ok (.nl acc) s
    else .no := by
  rw [← lc_red, ev]
  cases cond <;> rfl
/-- the source of a walk put beside -/
theorem protectS (R : Rel G w ρ σ H) (h : r = .v .non ∨ (RR G w ρ σ H r v ∧ rds ρ r = some ys)) :
    ∃ w1, Rel G w1 (lock r ρ) σ H ∧ w1.F = w.F ∧ w1.A = w.A ∧ SrcOk G w1 (lock r ρ) r v ys ∧ Exit G w w1 ρ r := by
  rcases h with rfl | ⟨h1, h2⟩
  · exact ⟨w, R, rfl, rfl, .inl rfl, Exit.same fun _ => rfl⟩
  · obtain ⟨w1, a, b, c, d, e⟩ := protect R h1 h2
    exact ⟨w1, a, b, c, .inr d, e⟩
/-- the turns of a comprehension -/
structure LcT (G : Gx) (w0 : Wd) (r : RV) (v : V) (ys xs : List Dt) (lp : List Dt → List Dt → SS → Out SS (List Dt)) (own : List Nat) (σ : L2.St) (D : Addr) (accF : List Dt) (ρF : SS) (i : Nat) (H : Hp) : Prop where
  ex : ∃ w ρ vs acc, Ext w0 w ∧ Rel G w (wipeS own ρ) (wipe σ own) H ∧ Free w (wipeS own ρ) (wipe σ own) D ∧ H D = some (.lst vs) ∧ RepL G w.F w.A vs acc ∧ SrcOk G w ρ r v ys ∧ lp (xs.drop i) acc ρ = .ok accF ρF
theorem lc_imp {own : List (Str × Nat)} {me : ME} {t : Tg} {src : MI} {cond : Option ME} {Q : VK} (ht : tslots t ⊆ own.map (·.2)) (h : tE G W (ev L (.lc me t src cond (own.map (·.2)))) σ H Q) :
    tLc (tI G W (evI L src)) (tgR G t) (tT G WF (cndM L cond)) (tE G WF (ev L me)) (own.map (·.2)) σ H Q := by
  obtain ⟨w, ρ, R, g⟩ := h
  rw [lc_ev] at g
  refine ⟨w, ρ, R, g.bind.mono fun iv ρ1 w1 H1 _ e1 R1 q J v hsrc wk D hD => ?_⟩
  generalize hown : own.map (·.2) = os at *
  split at q
  · rename_i hw
    have q := q.bind
    obtain ⟨accF, ρF, eF, q⟩ := fix_ok q fun c fs s => lcLoop_ex _ _ _
    obtain ⟨w2, R2, eF2, eA2, so, ex⟩ := protectS R1 hsrc
    refine ⟨fun i m H => m = iv.xs.length - i ∧ i ≤ iv.xs.length ∧ LcT G w2 iv.src v iv.ys iv.xs (lcLoop (chk iv.ys iv.src) (fun s x => bindT t x s) os (fun s => (cndM L cond s).noex) (fun s => ((ev L me s).bind val).noex)) os σ D accF ρF i H, ⟨_, rfl, Nat.zero_le _, ?_⟩, ?_⟩
    · have f2 : Free w2 (lock iv.src ρ1) σ D := R2.fresh hD
      exact ⟨w2, lock iv.src ρ1, [], [], Ext.refl _, (R2.out f2).wiped os, f2.wiped os, upd_same, .nil, so, eF⟩
    · rintro i m H2 ⟨rfl, hile, T⟩
      obtain ⟨w3, ρ3, vs, acc, e3, R3, f3, hD3, rl, so3, eL⟩ := T.ex
      have so3w : SrcOk G w3 (wipeS os ρ3) iv.src v iv.ys := so3.st (wipeS_st os ρ3)
      by_cases hlt : i < iv.xs.length
      · right
        obtain ⟨d, ed⟩ : ∃ d, iv.xs[i]? = some d := ⟨_, List.getElem?_eq_getElem hlt⟩
        have edr : iv.xs.drop i = d :: iv.xs.drop (i + 1) := by
          rw [List.drop_eq_getElem_cons hlt]
          rw [List.getElem?_eq_getElem hlt] at ed; cases ed; rfl
        rw [edr, lcLoop] at eL
        obtain ⟨_, s1, eb, eL⟩ := bind_ok eL
        obtain ⟨b, s2, ec, eL⟩ := bind_ok eL
        have ec := noex_ok ec
        have Rp := R3.pinned f3 hD3
        have sop : SrcOk G (w3.pin D (.lst vs)) (wipeS os ρ3) iv.src v iv.ys := so3w.pin f3.T
        obtain ⟨go, yl⟩ := wk.go i d _ _ _ _ Rp ⟨⟨by rw [← eF2]; exact e3.F, by rw [← eA2]; exact e3.A⟩, sop⟩ ed
        refine ⟨go, fun H' => LcT G w2 iv.src v iv.ys iv.xs (lcLoop (chk iv.ys iv.src) (fun s x => bindT t x s) os (fun s => (cndM L cond s).noex) (fun s => ((ev L me s).bind val).noex)) os σ D accF ρF (i + 1) H', fun H' T' => ⟨_, by omega, rfl, hlt, T'⟩, fun x H' y => ?_⟩
        obtain ⟨w4, e4, R4, rep⟩ := yl x H' y
        refine ⟨w4, wipeS os ρ3, d, s1, R4, rep, eb, fun σ2 R5 ag => ⟨?_, ?_⟩⟩
        · refine List.ext_getElem? fun j => ?_
          by_cases mj : j ∈ os
          · rw [wipe_in mj, wipe_in mj, ag.1, wipe_length]
          · rw [wipe_out mj, wipe_out mj, ag.2 j (fun z => mj (ht z)), wipe_out mj]
        · have wσ : wipe σ2 os = wipe σ os := by
            refine List.ext_getElem? fun j => ?_
            by_cases mj : j ∈ os
            · rw [wipe_in mj, wipe_in mj, ag.1, wipe_length]
            · rw [wipe_out mj, wipe_out mj, ag.2 j (fun z => mj (ht z)), wipe_out mj]
          refine ⟨w4, s1, R5, ?_⟩
          rw [ec]
          intro H3 w5 e5 R6
          have e35 : Ext (w3.pin D (.lst vs)) w5 := e4.trans e5
          cases b with
          | false =>
            rw [if_neg Bool.false_ne_true] at eL
            show LcT _ _ _ _ _ _ _ _ _ _ _ _ _ _
            split at eL
            · rename_i hck
              obtain ⟨b1, b2, b3, b4⟩ := R3.pinback f3.T e35 R6
              have b2 := b2.wiped os
              have b4 := b4.wiped os
              rw [wσ] at b2 b4
              refine ⟨⟨_, s2, vs, acc, e3.trans b1, b2, b4, b3, rl.mono b1.F b1.A, so3.ext b1 hck, eL⟩⟩
            · cases eL
          | true =>
            rw [if_pos rfl] at eL
            show tE _ _ _ _ _ _
            obtain ⟨d', s3, ee, eL⟩ := bind_ok eL
            have ee := noex_ok ee
            obtain ⟨r', s4, ee, ev'⟩ := bind_ok ee
            split at eL
            · rename_i hck
              refine ⟨w5, s2, R6, ?_⟩
              rw [ee]
              intro H4 w6 e6 R7 v' hv'
              obtain ⟨d'', s5, w7, eq1, e7, R8, rep', _⟩ := val_ok (W := WF) (k := fun _ _ _ _ => True) R7 hv' (by rw [ev']; exact fun _ _ _ _ => trivial)
              rw [ev'] at eq1; cases eq1
              have e37 : Ext (w3.pin D (.lst vs)) w7 := e35.trans (e6.trans e7)
              obtain ⟨b1, b2, b3, b4⟩ := R3.pinback f3.T e37 R8
              refine ⟨vs, b3, by rw [rl.length]; exact hck.1, ⟨_, s3, vs ++ [v'], acc ++ [d'], e3.trans b1, ?_, ?_, upd_same, (rl.mono b1.F b1.A).append (.cons rep' .nil), so3.ext b1 hck.2, eL⟩⟩
              · have := (b2.out (o := .lst (vs ++ [v'])) b4).wiped os
                rw [wσ] at this; exact this
              · have := b4.wiped os
                rw [wσ] at this; exact this
            · cases eL
      · left
        have hi' : i = iv.xs.length := by omega
        subst hi'
        refine ⟨wk.stop _ _ _ _ R3 ⟨⟨by rw [← eF2]; exact e3.F, by rw [← eA2]; exact e3.A⟩, so3w⟩, ?_⟩
        rw [List.drop_length, lcLoop] at eL
        cases eL
        obtain ⟨R4, oo⟩ := R1.backed hw (w' := w3) (by rw [← eF2]; exact e3.F) (by rw [← eA2]; exact e3.A) R3
        obtain ⟨w4, e4, R5, z1, z2, z3⟩ := ex w3 _ _ _ e3 R4
        refine (q H2 w4 e4 R5).here R5 _ ⟨D, vs, rfl, hD3, by rw [z1, z2]; exact rl, ⟨by rw [z1]; exact f3.F, z3 D f3.T, by rw [z2]; exact f3.A, fun j h => ?_⟩⟩
        rcases unlock_own h with h | h
        · exact f3.own j (oo j D h)
        · obtain ⟨o, z⟩ := R1.inOwn h
          rw [hD] at z; cases z
  · exact q.elim
theorem sv_lc {elt tg iter : Expr} {ifs : List Expr} {scope : Scope} {own : List (Str × Nat)} {me : ME} {t : Tg} {src : MI} {cond : Option ME} (hc : X.calm = true) (hN : X.N.Nodup) (hi : PI X tg iter (tI G W (evI L src))) (ok : BlkOk X.N X.env.scope scope own)
    (ht : tslots t ⊆ own.map (·.2))
    (hg : ∀ (s : Shared) (H : Hp) (C : Addr) (cl : List (Str × Addr)) (fp : List Addr), PG (X.blk s H scope (compEnvC scope cl C X.env) fp) tg (tgR G t))
    (hcn : ∀ (s : Shared) (H : Hp) (C : Addr) (cl : List (Str × Addr)) (fp : List Addr), PTs (X.blk s H scope (compEnvC scope cl C X.env) fp) ifs (tT G WF (cndM L cond)))
    (he : ∀ (s : Shared) (H : Hp) (C : Addr) (cl : List (Str × Addr)) (fp : List Addr), PE (X.blk s H scope (compEnvC scope cl C X.env) fp) elt (tE G WF (ev L me))) (hs : ∀ x, foldedSetIterable iter X.env x = pure x) :
    PE X (.ListComp elt [⟨tg, iter, ifs, 0⟩] scope pos) (tE G W (ev L (.lc me t src cond (own.map (·.2))))) :=
  (pe_lc hc hN hi ok hg hcn he hs).imp fun σ H Q h => lc_imp ht h
end
end Mq

/-! MqEq: == and != by an own __eq__. -/
namespace Mq
open PySem PySem.W L2
section
variable {prog : Program} {w : World} {A : Around} {E : Value → Shared → Prop} {s : Shared} {K : Frag} {x C L f : Addr} {h₀ : Heap} {m : Str → Option Value} {ox : Obj} {od : Option Obj} {b tb : Value}
/-- the slot of object for != asks the own == -/
theorem neSlot_run {Q : Fin → Shared → Prop} (hu : A.units < cLine) (X : K.In s.heap) (I : InstAt s.heap x ox C od) (he : findIn K (.ref C) "__eq__" = some (some (.ref f))) (hf : isFn K (.ref f) = true)
    (hc : wpAny (model prog w) A (call (.ref f) [.ref x, b]) (fun v s' => ∃ r, v = .bool r ∧ Q (.done (.ret (.bool (!r)))) s') E s) :
    wpAny (model prog w) A (Builtin.«object.__ne__» ⟨[.ref x, b], []⟩) Q E s := by
  obtain ⟨hp, g, d, t, os⟩ := s
  unfold Builtin.«object.__ne__»
  repeat (first
    | with_reducible refine wpAny_cRoomFor hu ?_
    | (refine wpAny_bind (m := callSpecialIfBound? (.ref x) (Str.ofString "__eq__") [b]) (ifBound_K X I he hf (wpAny_mono hc (fun v s2 hv => by
          obtain ⟨r, rfl, q⟩ := hv
          repeat (first | exact q | exact wpAny_pure q | exact wpAny_truthy_bool q | (refine wpAny_bind (m := truthy (.bool _)) (wpAny_truthy_bool ?_)) | wp_step)) fun _ _ z => z)))
    | wp_step)
theorem try_ne {Q : Option Value → Shared → Prop} (hu : A.units + 1 < cLine) (X : K.In s.heap) (I : InstAt s.heap x ox C od) (hne : findIn K (.ref C) "__ne__" = some (some (.builtin "object.__ne__"))) (ho : subIn K (.ref C) (.type "object") = some true)
    (he : findIn K (.ref C) "__eq__" = some (some (.ref f))) (hf : isFn K (.ref f) = true)
    (hc : wpAny (model prog w) A.in1 (call (.ref f) [.ref x, b]) (fun v s' => ∃ r, v = .bool r ∧ Q (some (.bool (!r))) s') E s) :
    wpAny (model prog w) A (tryCompare (.ref x) "__ne__" b) Q E s := by
  have S := F.cmp_object.ne
  have inner : wpAny (model prog w) A (call (.builtin "object.__ne__") ([.ref x] ++ [b])) (fun v s' => ∃ r, v = .bool r ∧ Q (some (.bool r)) s') E s := by
    refine wpAny_call (codeAny_call_builtin S.plain F.cmpEntry_ne (check_slot F.cmpKind_ne F.cmpSplit_ne (I.type.andThen (looks_subIn X ho)) (F.cmpArgs_ne _ _) ?_))
    refine neSlot_run (A := A.in1) hu X I he hf (wpAny_mono hc (fun v s' hv => ?_) fun _ _ z => z)
    obtain ⟨r, rfl, q⟩ := hv
    exact ⟨r, rfl, _, rfl, q⟩
  have sp : wpAny (model prog w) A (callSpecialIfBound? (.ref x) "__ne__" [b]) (fun r s' => ∃ k, r = some (.bool k) ∧ Q (some (.bool k)) s') E s := by
    unfold callSpecialIfBound? bindSpecialIfBound?
    refine wpAny_holding (wpAny_bind (wpAny_bind (wpAny_bind (I.type.here ((looks_findIn X hne).here ?_)))))
    simp only [S.bind]
    refine wpAny_bind (wpAny_askSetting (wpAny_ite ?_))
    have rest : wpAny (model prog w) A (call (.builtin "object.__ne__") ([.ref x] ++ [b]) >>= fun v => pure (some v)) (fun r s' => ∃ k, r = some (.bool k) ∧ Q (some (.bool k)) s') E s := wpAny_bind (wpAny_mono inner (fun v s' hv => by
        obtain ⟨r, rfl, q⟩ := hv
        exact wpAny_pure ⟨r, rfl, q⟩) fun _ _ z => z)
    split
    · exact wpAny_bind (wpAny_pure (wpAny_pure rest))
    · exact wpAny_tryCatch (wpAny_bind (wpAny_pure (wpAny_pure rest)))
  unfold tryCompare
  refine wpAny_bind (wpAny_mono sp (fun r s' hv => ?_) fun _ _ z => z)
  obtain ⟨k, rfl, q⟩ := hv
  exact wpAny_pure q
theorem ne_K {Q : Value → Shared → Prop} (hu : A.units + 1 < cLine) (X : K.In s.heap) (I : InstAt s.heap x ox C od) (hb : Looks (model prog w) s.heap (typeOf b) tb) (hn : notFirst K C tb = true)
    (hne : findIn K (.ref C) "__ne__" = some (some (.builtin "object.__ne__"))) (ho : subIn K (.ref C) (.type "object") = some true) (he : findIn K (.ref C) "__eq__" = some (some (.ref f))) (hf : isFn K (.ref f) = true)
    (hc : wpAny (model prog w) A.in1 (call (.ref f) [.ref x, b]) (fun v s' => ∃ r, v = .bool r ∧ Q (.bool (!r)) s') E s) : wpAny (model prog w) A (richCompare .NotEq (.ref x) b) Q E s := by
  have one : wpAny (model prog w) A (tryCompare (.ref x) (cmpInfo .NotEq).2.1 b) (fun r s' => ∃ v, r = some v ∧ Q v s') E s :=
    try_ne hu X I hne ho he hf (wpAny_mono hc (fun v s' hv => let ⟨r, e, q⟩ := hv; ⟨r, e, _, rfl, q⟩) fun _ _ z => z)
  unfold richCompare
  simp only [oneThing_ref]
  refine wpAny_holding (wpAny_bind (wpAny_cRoomFor (Nat.lt_of_succ_lt hu) ?_))
  refine wpAny_bind (I.type.here (wpAny_bind (hb.here ?_)))
  split
  · rename_i q
    have e : subIn K tb (.ref C) = some false := by
      rcases Bool.or_eq_true_iff.mp hn with e | e
      · rw [beq_iff_eq.mp e] at q; simp at q
      · exact beq_iff_eq.mp e
    refine wpAny_bind ((looks_subIn X e).here ?_)
    rw [if_neg Bool.false_ne_true]
    refine wpAny_bind (wpAny_mono one (fun r t hr => ?_) fun _ _ y => y)
    obtain ⟨v, rfl, q⟩ := hr
    exact wpAny_pure q
  · refine wpAny_bind (wpAny_pure ?_)
    rw [if_neg Bool.false_ne_true]
    refine wpAny_bind (wpAny_mono one (fun r t hr => ?_) fun _ _ y => y)
    obtain ⟨v, rfl, q⟩ := hr
    exact wpAny_pure q
end
section
variable {G : Gx} {X : Cx} {w w1 : Wd} {ρ : SS} {σ : L2.St} {H : Hp} {L : Fns} {W : WX} {pos : Pos} {pins : List (Addr × Obj)} {s : Shared} {k : Nat}
def XF : XK := fun _ _ _ => False
/-- a value's class, as == asks for it -/
inductive TyL (K : PySem.W.Frag) (H : Hp) : V → Value → Prop where
  | non : TyL K H .non (.type "NoneType")
  | bl (x : Bool) : TyL K H (.bl x) (.type "bool")
  | int (i : Int) : TyL K H (.int i) (.type "int")
  | str (x : Str) : TyL K H (.str x) (.type "str")
  | lst {a : Addr} {xs : List V} (e : H a = some (.lst xs)) : TyL K H (.ref a) (.type "list")
  | tup {a : Addr} {xs : List V} (e : SqT K H a xs) : TyL K H (.ref a) (.type "tuple")
  | dct {a : Addr} {kvs : List (Key × V)} (e : H a = some (.dK kvs)) : TyL K H (.ref a) (.type "dict")
  | ins {a C dx : Addr} {fs : List (Str × V)} (e : H a = some (.ins C dx fs)) : TyL K H (.ref a) (.ref C)
theorem tyl_looks {x : V} {u t : Value} (I : Inv X pins σ H s) (r : RelV x u) (h : TyL X.K H x t) : Looks (model X.prog X.w) s.heap (typeOf u) t := by
  cases h with
  | non => cases r; exact Looks.of_pure rfl
  | bl b => cases r; exact Looks.of_pure rfl
  | int i => obtain ⟨t, rfl⟩ := r; exact Looks.of_pure rfl
  | str i => obtain ⟨t, rfl⟩ := r; exact Looks.of_pure rfl
  | lst e =>
    cases r
    obtain ⟨z, its, n, q, e2⟩ := I.hok _ _ e
    exact (Looks.ld e2).andThen .now
  | tup e =>
    cases r
    obtain ⟨its, q, ⟨o, ho, hc, _⟩, _⟩ := I.tuple e
    rw [← hc]
    exact (Looks.ld ho).andThen .now
  | dct e =>
    cases r
    obtain ⟨_, hd, vs, _, dd⟩ := dk_of I.hok e
    obtain ⟨ob, _, _, h1, h2, _⟩ := dd
    rw [← h2.1]
    exact (Looks.ld h1).andThen .now
  | ins e =>
    cases r
    obtain ⟨mA, J, _⟩ := ins_get I.hok e
    obtain ⟨od, J, _⟩ := J.look
    exact J.type
/-- a def is run, at or below the running body -/
theorem call_sub {f : Addr} {fd : FuncData} {ps : List Str} {sp : Sp} {A : Around} {us : List Value} {vs : List V} {Q : VK} (Fn : FnOk X.prog X.w X.K X.mg X.base (L2.CX X.prog X.w) k f fd ps sp) (hb : Binds X.K fd ps []) (hr : Room k A) (hf : A.frames = X.A.frames)
    (I : Inv X pins σ H s) (r : Vals vs us) (hs : sp vs H Q XF) : wpAny (model X.prog X.w) A (call (.ref f) us) (EP X pins σ Q) X.xe s := by
  have hl : us.length = ps.length := by rw [← r.length]; exact Fn.len _ _ _ _ hs
  have b0 : BindsTo s fd ⟨us, []⟩ (ps.zip us) := by
    have z := hb s us I.kIn (by rw [List.append_nil]; exact hl)
    rwa [List.append_nil] at z
  have e0 : Env0 X.prog X.w X.K X.mg X.base A X.stack s H :=
    have z := I.env0
    ⟨hf ▸ z.frames, z.mod, z.bs, z.bsz, z.funs, z.frf, z.hok, z.bare⟩
  refine wpAny_call (codeAny_mono (Fn.run A X.stack s H ⟨us, []⟩ us vs Q XF hr e0 b0 r hs) fun r s2 q => ?_)
  match r, q with
  | .error e, q =>
    obtain ⟨_, _, _, _, _, _, _, _, _, _, _, _, z⟩ := q
    exact z.elim
  | .ok (.ret u), q => exact I.after q
/-- what of the text a class with its own == must have -/
structure OwnN (K : PySem.W.Frag) (C : Addr) : Prop where
  ne : findIn K (.ref C) "__ne__" = some (some (.builtin "object.__ne__"))
  ob : subIn K (.ref C) (.type "object") = some true
def rOwn (X : Cx) (k : Nat) (neg : Bool) : R2 := fun x y H Q => ∃ (a C dx : Addr) (fs : List (Str × V)) (f : Addr) (fd : FuncData) (ps : List Str) (sp : Sp) (tb : Value), x = .ref a ∧ H a = some (.ins C dx fs) ∧ Meth X.K C "__eq__" f ∧ Binds X.K fd ps [] ∧ FnOk X.prog X.w X.K X.mg X.base (L2.CX X.prog X.w) k f fd ps sp ∧
  OwnN X.K C ∧ TyL X.K H y tb ∧ notFirst X.K C tb = true ∧ sp [x, y] H (fun v H' => ∃ r, v = .bl r ∧ Q (.bl (r != neg)) H') XF
def eqOp (neg : Bool) : CmpOp := if neg then .NotEq else .Eq
theorem op_own {neg : Bool} (hr : Room (k + 1) X.A) (hu : X.A.units + 64 < cLine) : OpR X (compareOp (eqOp neg)) (rOwn X k neg) := by
  intro pins s σ H x y v u Q I rx ry h
  obtain ⟨a, C, dx, fs, f, fd, ps, sp, tb, rfl, hH, hm, hb, F, hO, hT, hn, hs⟩ := h
  cases rx
  obtain ⟨mA, J, _⟩ := ins_get I.hok hH
  obtain ⟨od, J, _⟩ := J.look
  have hl := tyl_looks I ry hT
  have rv : Vals [V.ref a, y] [Value.ref a, u] := .cons rfl (.cons ry .nil)
  cases neg with
  | false =>
    obtain ⟨m, hF⟩ := I.fr
    show wpAny (model X.prog X.w) X.A (richCompare .Eq (.ref a) u) (EP X pins σ Q) X.xe s
    refine cmp_K (op := .Eq) (tb := tb) (by omega) hF I.ok.mod.kin J hl hn hm.at_ hm.fn (wpAny_mono (call_sub F hb (hr.mono (Nat.le_succ _)) rfl I rv hs) (fun v2 s2 q => ?_) fun _ _ z => z)
    obtain ⟨z, H2, I2, rz, r, rfl, q⟩ := q
    cases rz
    exact ⟨.bl r, H2, I2, rfl, by simpa using q⟩
  | true =>
    show wpAny (model X.prog X.w) X.A (richCompare .NotEq (.ref a) u) (EP X pins σ Q) X.xe s
    refine ne_K (tb := tb) (by omega) I.kIn J hl hn hO.ne hO.ob hm.at_ hm.fn (wpAny_mono (call_sub F hb hr.in1 rfl I rv hs) (fun v2 s2 q => ?_) fun _ _ z => z)
    obtain ⟨z, H2, I2, rz, r, rfl, q⟩ := q
    cases rz
    exact ⟨r, rfl, .bl (!r), H2, I2, rfl, by simpa using q⟩
theorem go_nx {a : Type} {o : Out SS a} {k : a → SS → Wd → Hp → Prop} (g : Go G W w σ o.noex k) : Go G WF w σ o k := by
  cases o with
  | no => exact g
  | ex c fs t => exact g.elim
  | ok y t => exact g
theorem tyl_ok {a : RV} {va : V} {ty : Ty} (R : Rel G w ρ σ H) (ha : RR G w ρ σ H a va) (h : tyV a ρ = some ty) : ∃ tv, tyVal G ty = some tv ∧ TyL G.K H va tv := by
  cases a with
  | nl xs =>
    simp only [tyV, Option.some.injEq] at h; subst h
    obtain ⟨p, vs, rfl, hp, _⟩ := ha
    exact ⟨_, rfl, .lst hp⟩
  | bw i =>
    have hl : ∀ xs, rdt ρ (.bw i) = some xs → ∃ tv, tyVal G (.b "list") = some tv ∧ TyL G.K H va tv := fun xs e1 => by
      obtain ⟨p, vs, rfl, hp, _⟩ := rdt_ok R ha e1
      exact ⟨_, rfl, .lst hp⟩
    simp only [tyV] at h
    split at h
    · rename_i e; cases h; exact hl _ (by simp only [rdt, e]; rfl)
    · rename_i e; cases h; exact hl _ (by simp only [rdt, e]; rfl)
    · rename_i e; cases h; exact hl _ (by simp only [rdt, e]; rfl)
    · cases h
  | v d =>
    cases d with
    | non => simp only [tyV, Option.some.injEq] at h; subst h; obtain rfl := Rep.inv_non ha; exact ⟨_, rfl, .non⟩
    | bl b => simp only [tyV, Option.some.injEq] at h; subst h; obtain rfl := Rep.inv_bl ha; exact ⟨_, rfl, .bl b⟩
    | int b => simp only [tyV, Option.some.injEq] at h; subst h; obtain rfl := Rep.inv_int ha; exact ⟨_, rfl, .int b⟩
    | str b => simp only [tyV, Option.some.injEq] at h; subst h; obtain rfl := Rep.inv_str ha; exact ⟨_, rfl, .str b⟩
    | tup xs => simp only [tyV, Option.some.injEq] at h; subst h; obtain ⟨p, vs, rfl, hp, _⟩ := Rep.inv_tup ha; exact ⟨_, rfl, .tup (sqt_mono R.subF hp)⟩
    | lst xs => simp only [tyV, Option.some.injEq] at h; subst h; obtain ⟨p, vs, rfl, hp, _⟩ := Rep.inv_lst ha; exact ⟨_, rfl, .lst (R.subF _ _ hp)⟩
    | rol xs => simp [tyV] at h
    | dct => simp only [tyV, Option.some.injEq] at h; subst h; obtain ⟨p, kvs, rfl, hp⟩ := Rep.inv_dct ha; exact ⟨_, rfl, .dct (R.subF _ _ hp)⟩
    | ins c ns vs =>
      simp only [tyV, Option.some.injEq] at h; subst h
      obtain ⟨p, C, dx, fl, rfl, hC, hF, _⟩ := Rep.inv_ins ha
      exact ⟨.ref C, by simp only [tyVal, hC, Option.map_some], .ins (R.subF _ _ hF)⟩
    | ref n =>
      obtain ⟨p, rfl, e2⟩ := Rep.inv_ref ha
      obtain ⟨_, _, mo, e3, m⟩ := R.stR n p e2
      simp only [tyV, e3] at h
      cases mo with
      | l xs => simp only [Option.some.injEq] at h; subst h; obtain ⟨vs, e, _⟩ := m; exact ⟨_, rfl, .lst e⟩
      | i c ns ds => simp only [Option.some.injEq] at h; subst h; obtain ⟨C, dx, fl, hC, hF, _⟩ := m; exact ⟨.ref C, by simp only [tyVal, hC, Option.map_some], .ins hF⟩
/-- what the context must tell of own == -/
structure EqC (G : Gx) (L : Fns) : Prop where
  own : ∀ c C, L.hasM c "__eq__" = true → G.cls c = some C → OwnN G.K C
  nf : ∀ c C ty tv, L.nf c ty = true → G.cls c = some C → tyVal G ty = some tv → notFirst G.K C tv = true
theorem ieq_tOp {neg : Bool} {ma mb : ME} {Q : VK} (hK : X.K = G.K) (hE : EqC G L) (hd : ∀ c, L.hasM c "__eq__" = true → DefM G X k c "__eq__" 2 (L.meth c "__eq__")) (h : tE G W (ev L (.ieq neg ma mb)) σ H Q) : tOp (rOwn X k neg) (tE G W (ev L ma)) (tE G W (ev L mb)) σ H Q := by
  refine two (f := fun x y s => ieqF L neg x y s) (fun w ρ H x y vx vy R hx hy g => ?_) (by
    obtain ⟨w, ρ, R, g⟩ := h
    rw [ev] at g
    exact ⟨w, ρ, R, g⟩)
  unfold ieqF at g
  split at g
  · rename_i c ns vs ty et
    split at g
    · rename_i hc
      simp only [Bool.and_eq_true] at hc
      obtain ⟨tv, etv, hty⟩ := tyl_ok R hy et
      obtain ⟨p, C, dx, fl, rfl, hC, hF, _⟩ := Rep.inv_ins hx
      obtain ⟨f, fd, ps, _, hm, hb, Fn⟩ := (hd c hc.1).ex C hC
      obtain ⟨d, ρ2, w2, _, e2, R2, rd, g2⟩ := val_ok R hy g.bind
      refine ⟨p, C, dx, fl, f, fd, ps, _, tv, rfl, R.subF _ _ hF, hK ▸ hm, hb, Fn, hK ▸ hE.own c C hc.1 hC, hK ▸ hty, hK ▸ hE.nf c C ty tv hc.2 hC etv, ?_⟩
      have g3 := go_nx g2.bind.bind
      refine spD_of (W := WF) R2 (.cons (Rep.mono e2.F e2.A hx) (.cons rd .nil)) rfl (g3.mono fun r ρ3 w3 H3 _ e3 R3 q v hv => ?_)
      unfold asB at q
      split at q
      · obtain rfl := Rep.inv_bl hv
        exact ⟨_, rfl, (q.here R3).here R3 _ (.bl _)⟩
      · exact q.elim
    · exact g.elim
  · exact g.elim
theorem sv_ieq {neg : Bool} {a b : Expr} {ma mb : ME} (hK : X.K = G.K) (hr : Room (k + 1) X.A) (hu : X.A.units + 64 < cLine) (hE : EqC G L) (hd : ∀ c, L.hasM c "__eq__" = true → DefM G X k c "__eq__" 2 (L.meth c "__eq__")) (hm : behindInMarks (eqOp neg) b = false) (ha : PE X a (tE G W (ev L ma))) (hb : PE X b (tE G W (ev L mb))) :
    PE X (.Compare a [eqOp neg] [b] pos) (tE G W (ev L (.ieq neg ma mb))) :=
  (pe_cmpR (op_own hr hu) ha hb hm).imp fun σ H Q h => ieq_tOp hK hE hd h
theorem st_ieq {neg : Bool} {a b : Expr} {ma mb : ME} (hK : X.K = G.K) (hr : Room (k + 1) X.A) (hu : X.A.units + 64 < cLine) (hE : EqC G L) (hd : ∀ c, L.hasM c "__eq__" = true → DefM G X k c "__eq__" 2 (L.meth c "__eq__")) (hm : behindInMarks (eqOp neg) b = false) (ha : PE X a (tE G W (ev L ma))) (hb : PE X b (tE G W (ev L mb))) :
    PT X (.Compare a [eqOp neg] [b] pos) (tT G W (tst (ev L (.ieq neg ma mb)))) :=
  (pt_cmpR (op_own hr hu) ha hb hm).imp fun σ H Q h => ieq_tOp hK hE hd (tE_of_tT h)
/-! ### dicts of which just the class is asked -/
theorem sv_dct0 : PE X (.Dict [] [] pos) (tE G W (ev L (.dct none))) := pe_dnewK.imp fun σ H Q h => by
  obtain ⟨w, ρ, R, g⟩ := h
  rw [ev] at g
  intro p hp
  obtain ⟨e, R', eF⟩ := R.newF (o := .dK []) hp
  exact g.at e R' _ (.dct eF)
theorem sv_dct1 {a b : Str} {ka vb : Expr} (h1 : PE X ka (tC (.str a))) (h2 : PE X vb (tC (.str b))) : PE X (.Dict [some ka] [vb] pos) (tE G W (ev L (.dct (some (a, b))))) := (pe_disp (pps_cons h1 h2 pps_nil) rfl rfl (by simp) (by simp)).imp fun σ H Q h => by
  obtain ⟨w, ρ, R, g⟩ := h
  rw [ev] at g
  intro p hp
  show _ ∧ _
  refine ⟨upd_same, [(.inr a, .str b)], rfl, by simp, ?_⟩
  rw [upd_upd]
  obtain ⟨e, R', eF⟩ := R.newF (o := .dK (mergeK [] [(.inr a, .str b)])) hp
  exact g.at e R' _ (.dct eF)
end
end Mq

/-! MqStmt: statements. -/
namespace Mq
open PySem L2
/-- from the world w on: what holds behind a statement -/
def GoS (G : Gx) (W : WX) (w : Wd) (o : Out SS Fl) (D : Ends) : Prop := match o with
  | .ok f ρ' => ∀ (H' : Hp) (w' : Wd) (σ' : L2.St), Ext w w' → Rel G w' ρ' σ' H' → (match f with
    | .nx => D.nx σ' H'
    | .ct => D.ct σ' H'
    | .bk => D.bk σ' H'
    | .ret r => ∀ v, RF G w' H' r v → D.rt v H')
  | .ex c fs ρ' => ∀ (cls : Value) (d : Option Addr) (H' : Hp) (w' : Wd) (σ' : L2.St), Ext w w' → Rel G w' ρ' σ' H' → XR G w' cls d c fs → W cls d σ' H'
  | .no => False
def tS (G : Gx) (W : WX) (m : SS → Out SS Fl) : TS := fun D σ H => ∃ w ρ, Rel G w ρ σ H ∧ GoS G W w (m ρ) D
section
variable {G : Gx} {W : WX} {w w1 w2 w' : Wd} {ρ ρ' ρ1 : SS} {σ σ' : L2.St} {H H1 : Hp} {X : Cx} {pos : Pos} {L : Fns} {r : RV} {v : V} {ys : List Dt} {D : Ends}
theorem GoS.ext {o : Out SS Fl} (h : GoS G W w o D) (e : Ext w w') : GoS G W w' o D := by
  cases o with
  | no => exact h
  | ex c fs s => exact fun cls d H' w2 σ' e' R x => h cls d H' w2 σ' (e.trans e') R x
  | ok f s => exact fun H' w2 σ' e' R => h H' w2 σ' (e.trans e') R
theorem GoS.bind {a : Type} {x : Out SS a} {f : a → SS → Out SS Fl} (h : GoS G W w (x.bind f) D) : Go G W w σ x fun r ρ1 w1 _ => GoS G W w1 (f r ρ1) D := by
  cases x with
  | no => exact h
  | ex c fs s => exact fun cls d H' w' e R x => h cls d H' w' σ e R x
  | ok r s => exact fun H1 w1 e R => GoS.ext (show GoS G W w (f r s) D from h) e
theorem GoS.nx (h : GoS G W w (.ok .nx ρ) D) (e : Ext w w') (R : Rel G w' ρ σ H) : D.nx σ H := h H w' σ e R
/-- a statement ahead of others -/
theorem GoS.seq {o : Out SS Fl} {f : SS → Out SS Fl} (h : GoS G W w (o.bind fun g s => match g with | .nx => f s | g => .ok g s) D) {N : L2.St → Hp → Prop} (hN : ∀ ρ' σ' H' w', Ext w w' → Rel G w' ρ' σ' H' → GoS G W w' (f ρ') D → N σ' H') : GoS G W w o { D with nx := N } := by
  cases o with
  | no => exact h
  | ex c fs s => exact h
  | ok g s =>
    cases g with
    | nx => exact fun H' w' σ' e R => hN s σ' H' w' e R (GoS.ext (show GoS G W w (f s) D from h) e)
    | ret r => exact h
    | bk => exact h
    | ct => exact h
theorem ss_nil : PSs X [] (tS G W (execs L [])) := pss_nil.imp fun D σ H h => by
  obtain ⟨w, ρ, R, g⟩ := h
  rw [execs] at g
  exact g.nx (Ext.refl _) R
theorem ss_cons {st : Stmt} {sts : List Stmt} {m : MS} {ms : List MS} (h1 : PS X st (tS G W (exec L m))) (h2 : PSs X sts (tS G W (execs L ms))) : PSs X (st :: sts) (tS G W (execs L (m :: ms))) :=
  (pss_cons h1 h2).imp fun D σ H h => by
    obtain ⟨w, ρ, R, g⟩ := h
    rw [execs] at g
    refine ⟨w, ρ, R, g.seq fun ρ' σ' H' w' e R' q => ⟨w', ρ', R', q⟩⟩
theorem ss_pass : PS X (.Pass pos) (tS G W (exec L .pass)) := ps_pass.imp fun D σ H h => by
  obtain ⟨w, ρ, R, g⟩ := h; rw [exec] at g; exact g.nx (Ext.refl _) R
theorem ss_doc {x : Str} {j} {pos pos' : Pos} : PS X (.Expr (.Constant (.str x) j pos) pos') (tS G W (exec L .pass)) := ps_doc.imp fun D σ H h => by
  obtain ⟨w, ρ, R, g⟩ := h; rw [exec] at g; exact g.nx (Ext.refl _) R
theorem ss_brk : PS X (.Break pos) (tS G W (exec L .brk)) := ps_break.imp fun D σ H h => by
  obtain ⟨w, ρ, R, g⟩ := h; rw [exec] at g; exact g H w σ (Ext.refl _) R
theorem ss_cont : PS X (.Continue pos) (tS G W (exec L .cont)) := ps_continue.imp fun D σ H h => by
  obtain ⟨w, ρ, R, g⟩ := h; rw [exec] at g; exact g H w σ (Ext.refl _) R
theorem ss_nev {st : Stmt} : PS X st (tS G W (exec L .nev)) := ps_never.imp fun D σ H h => by
  obtain ⟨w, ρ, R, g⟩ := h; rw [exec] at g; exact g
theorem ss_retN : PS X (.Return none pos) (tS G W (exec L .retN)) := ps_retN.imp fun D σ H h => by
  obtain ⟨w, ρ, R, g⟩ := h; rw [exec] at g; exact g H w σ (Ext.refl _) R _ .non
theorem ss_expr {e : Expr} {m : ME} (hs : swapsWith e none pos.line X.env = pure false) (he : PE X e (tE G W (ev L m))) : PS X (.Expr e pos) (tS G W (exec L (.expr m))) := (ps_expr he hs).imp fun D σ H h => by
  obtain ⟨w, ρ, R, g⟩ := h
  rw [exec] at g
  exact ⟨w, ρ, R, g.bind.mono fun r ρ1 w1 H1 _ e1 R1 q v hv => q.nx (Ext.refl _) R1⟩
theorem toRet_ok (R : Rel G w ρ σ H) (h : RR G w ρ σ H r v) {f : RV → SS → Out SS Fl} (g : GoS G W w ((toRet r ρ).bind f) D) : ∃ r', RF G w H r' v ∧ GoS G W w (f r' ρ) D := by
  cases r with
  | v d => exact ⟨.v d, h, g⟩
  | nl xs => obtain ⟨p, vs, e1, e2, rl, fr⟩ := h; exact ⟨.nl xs, ⟨p, vs, e1, e2, rl, fr.F, fr.T, fr.A⟩, g⟩
  | bw i =>
    simp only [toRet] at g
    have hv : σ[i]? = some (some v) := h
    split at g
    · rename_i xs e
      obtain ⟨p, vs, e1, e2, rl⟩ := R.sl i _ e
      rw [hv] at e1; cases e1
      obtain ⟨f1, f2, f3⟩ := R.own i p ⟨hv, _, e, rfl⟩
      exact ⟨.nl xs, ⟨p, vs, rfl, e2, rl, f1, f2, f3⟩, g⟩
    · rename_i xs e
      obtain ⟨v', e1, rl⟩ := R.sl i _ e
      rw [hv] at e1; cases e1
      exact ⟨.v (.lst xs), rl, g⟩
    · exact g.elim
theorem ss_ret {e : Expr} {m : ME} (he : PE X e (tE G W (ev L m))) : PS X (.Return (some e) pos) (tS G W (exec L (.ret m))) := (ps_ret he).imp fun D σ H h => by
  obtain ⟨w, ρ, R, g⟩ := h
  rw [exec] at g
  refine ⟨w, ρ, R, g.bind.mono fun r ρ1 w1 H1 _ e1 R1 q v hv => ?_⟩
  obtain ⟨r', rf, q⟩ := toRet_ok R1 hv q
  exact q H1 w1 σ (Ext.refl _) R1 v rf
theorem ss_if {c : Expr} {a b : List Stmt} {mc : ME} {ma mb : List MS} (hc : PT X c (tT G W (tst (ev L mc)))) (ha : PSs X a (tS G W (execs L ma))) (hb : PSs X b (tS G W (execs L mb))) : PS X (.If c a b pos) (tS G W (exec L (.ifs mc ma mb))) := (ps_if hc ha hb).imp fun D σ H h => by
  obtain ⟨w, ρ, R, g⟩ := h
  rw [exec] at g
  have g : GoS G W w ((tst (ev L mc) ρ).bind fun k s => if k then execs L ma s else execs L mb s) D := by
    unfold tst
    cases q : ev L mc ρ with
    | no => rw [q] at g; exact g
    | ex c fs s => rw [q] at g; exact g
    | ok x s => rw [q] at g; exact g
  refine ⟨w, ρ, R, g.bind.mono fun k ρ1 w1 H1 _ e1 R1 q => ?_⟩
  cases k with
  | true => exact ⟨w1, ρ1, R1, q⟩
  | false => exact ⟨w1, ρ1, R1, q⟩
/-! ### stores -/
theorem toSl_ok {i : Nat} {f : Sl → SS → Out SS Fl} (R : Rel G w ρ σ H) (h : RR G w ρ σ H r v) (g : GoS G W w ((toSl r ρ).bind f) D) :
    ∃ x ρ' w', Ext w w' ∧ Rel G w' ρ' σ H ∧ SlR G w' H i x (some (some v)) ∧ (isOwn x = true → ∃ p, v = .ref p ∧ Free w' ρ' σ p) ∧ GoS G W w' (f x ρ') D := by
  have dat : ∀ (g : GoS G W w (((val r ρ).bind fun d s => .ok (.v d) s).bind f) D), ∃ x ρ' w', Ext w w' ∧ Rel G w' ρ' σ H ∧ SlR G w' H i x (some (some v)) ∧ (isOwn x = true → ∃ p, v = .ref p ∧ Free w' ρ' σ p) ∧ GoS G W w' (f x ρ') D := fun g => by
    obtain ⟨d, ρ', w', _, e, R', rep, q⟩ := val_ok R h (g.bind (σ := σ)).bind
    exact ⟨.v d, ρ', w', e, R', ⟨v, rfl, rep⟩, fun z => by simp [isOwn] at z, q.here R'⟩
  cases r with
  | v d => exact dat g
  | bw j => exact dat g
  | nl xs =>
    obtain ⟨p, vs, e1, e2, rl, fr⟩ := h
    subst e1
    exact ⟨.ol xs, ρ, w, Ext.refl _, R, ⟨p, vs, rfl, e2, rl⟩, fun _ => ⟨p, rfl, fr⟩, g⟩
/-- what a name is given -/
theorem asg_step {i : Nat} (R : Rel G w ρ σ H) (h : RR G w ρ σ H r v) (g : GoS G W w ((toSl r ρ).bind fun x s => .ok .nx (s.set i x)) D) : gName i v σ H D.nx := by
  obtain ⟨x, ρ', w', e, R', hs, ho, q⟩ := toSl_ok (i := i) R h g
  exact q.nx (Ext.refl _) (R'.setSl hs ho)
theorem ss_asg {i : Nat} {x : Str} {e : Expr} {m : ME} {pos' : Pos} (hN : X.N.Nodup) (hi : X.N[i]? = some x) (hx : Loc X.env.scope x) (hf : X.fn x = true ∨ X.env.scope.names.lookup x = some .local) (hs : swapsWith e (some (.Name x pos')) pos.line X.env = pure false) (he : PE X e (tE G W (ev L m))) :
    PS X (.Assign [.Name x pos'] e pos) (tS G W (exec L (.asg i m))) := (ps_set hN hi hx he hs hf).imp fun D σ H h => by
  obtain ⟨w, ρ, R, g⟩ := h
  rw [exec] at g
  exact ⟨w, ρ, R, g.bind.mono fun r ρ1 w1 H1 _ e1 R1 q v hv => asg_step R1 hv q⟩
theorem ss_par {i j : Nat} {x y : Str} {a b : Expr} {ma mb : ME} {px py pt : Pos} {kt k2 : Nat} {pt2 : Pos} (hc : X.calm = true) (hN : X.N.Nodup) (hi : X.N[i]? = some x) (hj : X.N[j]? = some y) (hij : i ≠ j)
    (hx : X.env.scope.names.lookup x = some .local) (hy : X.env.scope.names.lookup y = some .local) (ha : PA X [a, b] (tA G W (evs L [ma, mb])))
    (hw : swappedStores [.Tuple [.Name x px, .Name y py] kt pt] (.Tuple [a, b] k2 pt2) X.env = pure (some [x, y]))
    (hs : swapsWithSole [.Tuple [.Name x px, .Name y py] kt pt] (.Tuple [a, b] k2 pt2) pos.line X.env = pure false) :
    PS X (.Assign [.Tuple [.Name x px, .Name y py] kt pt] (.Tuple [a, b] k2 pt2) pos) (tS G W (exec L (.par i j ma mb))) := (ps_par hc hN hi hj hij hx hy ha hw hs).imp fun D σ H h => by
  obtain ⟨w, ρ, R, g⟩ := h
  rw [exec] at g
  refine ⟨w, ρ, R, g.bind.mono fun ds ρ1 w1 H1 _ e1 R1 q vs hvs => ?_⟩
  split at q
  · cases hvs with
    | cons r1 t =>
      cases t with
      | cons r2 t =>
        cases t
        exact ⟨_, _, rfl, q.nx (Ext.refl _) ((R1.setV r1).setV r2)⟩
  · exact q.elim
theorem ss_unp {tg e : Expr} {t : Tg} {m : ME} (he : PE X e (tE G W (ev L m))) (hg : PG X tg (tgR G t)) (hs : swapsWithSole [tg] e pos.line X.env = pure false) (hw : swappedStores [tg] e X.env = pure none) (h1 : (assignEach [tg] X.env).map (·.2) = [assign tg X.env]) :
    PS X (.Assign [tg] e pos) (tS G W (exec L (.unp t m))) := (ps_asg he hg hs hw h1).imp fun D σ H h => by
  obtain ⟨w, ρ, R, g⟩ := h
  rw [exec] at g
  refine ⟨w, ρ, R, g.bind.mono fun r ρ1 w1 H1 _ e1 R1 q v hv => ?_⟩
  obtain ⟨d, ρ2, w2, _, e2, R2, rep, q⟩ := val_ok R1 hv q.bind
  cases eb : bindT t d ρ2 with
  | no => rw [eb] at q; exact q.elim
  | ex c fs s => exact absurd eb (bindT_ex _ _ _ _ _ _)
  | ok u s =>
    rw [eb] at q
    exact ⟨w2, ρ2, d, s, R2, rep, eb, fun σ' R' _ => q.nx (Ext.refl _) R'⟩
theorem asI_ok {f : Int → SS → Out SS Fl} (R : Rel G w ρ σ H) (h : RR G w ρ σ H r v) (g : GoS G W w ((asI r ρ).bind f) D) : ∃ k, v = .int k ∧ r = .v (.int k) ∧ GoS G W w (f k ρ) D := by
  unfold asI at g
  split at g
  · exact ⟨_, Rep.inv_int h, rfl, g⟩
  · exact g.elim
theorem RepL.setD {F : Hp} {A : List Addr} {vs : List V} {ds : List Dt} {v : V} {d : Dt} (r : RepL G F A vs ds) (h : Rep G F A v d) (j : Nat) : RepL G F A (vs.set j v) (ds.set j d) := RepL.set h j r
theorem seti_step {k : Int} {d : Dt} {vo vy : V} {N : L2.St → Hp → Prop} (R : Rel G w ρ σ H) (hr : RR G w ρ σ H r vo) (hd : Rep G w.F w.A vy d) (g : GoS G W w ((wrL r (setF k d) ρ).bind fun _ s => .ok .nx s) { D with nx := N }) : rSetL vo (.int k) vy H fun H3 => N σ H3 := by
  obtain ⟨p, vs, xs, ys, d', rfl, hp, rl, ef, fin⟩ := wrL_ok R hr (g.bind (σ := σ))
  unfold setF at ef
  simp only [Option.map_eq_some_iff, Prod.mk.injEq] at ef
  obtain ⟨j, ej, rfl, rfl⟩ := ef
  obtain ⟨ρ', _, R', q⟩ := fin _ (RepL.set hd j rl)
  exact ⟨p, vs, k, j, rfl, rfl, hp, by rw [rl.length]; exact ej, q.nx (Ext.refl _) R'⟩
theorem ss_seti {o i e : Expr} {mo mi me : ME} {pos' : Pos} (hs : swapsWithSole [.Subscript o i pos'] e pos.line X.env = pure false) (hw : swappedStores [.Subscript o i pos'] e X.env = pure none) (h1 : (assignEach [.Subscript o i pos'] X.env).map (·.2) = [assign (.Subscript o i pos') X.env])
    (ha : ∀ v, assign (.Subscript o i pos') X.env v = (do
      let ov ← holding [v] (eval o X.env)
      let iv ← holding [v, ov] (eval i X.env)
      standAt pos'
      holding [v, ov, iv] (setItem ov iv v)
      release [v, ov, iv] []))
    (ho : PE X o (tE G W (ev L mo))) (hi : PE X i (tE G W (ev L mi))) (he : PE X e (tE G W (ev L me))) : PS X (.Assign [.Subscript o i pos'] e pos) (tS G W (exec L (.seti mo mi me))) :=
  (ps_asg he (pg_sub ho hi set_list ha) hs hw h1).imp fun D σ H h => by
    obtain ⟨w, ρ, R, g⟩ := h
    rw [exec] at g
    refine ⟨w, ρ, R, g.bind.mono fun y ρ1 w1 H1 _ e1 R1 q vy hy => ?_⟩
    obtain ⟨d, ρ2, w2, _, e2, R2, rep, q⟩ := val_ok R1 hy q.bind
    refine ⟨w2, ρ2, R2, q.bind.mono fun r ρ3 w3 H3 _ e3 R3 q3 vo hr => ?_⟩
    obtain ⟨w4, R4, _, _, g4⟩ := pend R3 hr q3.bind
    refine ⟨w4, ρ3, R4, g4.mono fun k ρ5 w5 H5 _ e5 R5 q5 vk hk => ?_⟩
    obtain ⟨w6, e6, R6, hr6, eF, eA, hkk, q6⟩ := q5
    obtain ⟨k, rfl, rfl, q6⟩ := asI_ok R6 (hkk _ _ hk) q6
    exact seti_step R6 hr6 (rep.mono (e3.trans e6).F (e3.trans e6).A) q6
theorem putN_map (f : Str) (y : V) : ∀ fl : List (Str × V), (putF f y fl).map (·.1) = putN f (fl.map (·.1))
  | [] => rfl
  | (g, x) :: r => by
    unfold putF
    show _ = putN f (g :: r.map (·.1))
    unfold putN
    by_cases h : g = f
    · rw [if_pos h, if_pos h]; rfl
    · rw [if_neg h, if_neg h]
      show g :: (putF f y r).map (·.1) = _
      rw [putN_map f y r]
theorem putD_rep {F : Hp} {A : List Addr} {f : Str} {y : V} {d : Dt} (h : Rep G F A y d) : ∀ {fl : List (Str × V)} {ds : List Dt}, RepL G F A (fl.map (·.2)) ds → RepL G F A ((putF f y fl).map (·.2)) (putD f d (fl.map (·.1)) ds)
  | [], _, .nil => .cons h .nil
  | (g, x) :: r, d' :: ds, .cons a t => by
    unfold putF
    show RepL G F A _ (putD f d (g :: r.map (·.1)) (d' :: ds))
    unfold putD
    by_cases e : g = f
    · rw [if_pos e, if_pos e]; exact .cons h t
    · rw [if_neg e, if_neg e]; exact .cons a (putD_rep h t)
/-- an own instance's slot -/
theorem Rel.wrOwnI {i c : Nat} {p C dx : Addr} {ns ns' : List Str} {ds ds' : List Dt} {fl : List (Str × V)} (R : Rel G w ρ σ H) (e : ρ.sl[i]? = some (.oi c ns ds)) (hv : σ[i]? = some (some (.ref p))) (hC : G.cls c = some C) (en : fl.map (·.1) = ns') (r : RepL G w.F w.A (fl.map (·.2)) ds') :
    Rel G w (ρ.set i (.oi c ns' ds')) σ (upd H p (.ins C dx fl)) := by
  have oa : OwnAt ρ σ i p := ⟨hv, _, e, rfl⟩
  obtain ⟨f1, f2, f3⟩ := R.own i p oa
  have hi : i < ρ.sl.length := (List.getElem?_eq_some_iff.mp e).1
  have hM : w.M = some p := by
    obtain ⟨p', _, _, _, e1, _, _, _, _, e2⟩ := R.sl i _ e
    rw [hv] at e1; cases e1; exact e2
  have ot : ∀ (j : Nat) (x' : Sl), (ρ.set i (.oi c ns' ds')).sl[j]? = some x' → (j = i ∧ x' = .oi c ns' ds') ∨ (j ≠ i ∧ ρ.sl[j]? = some x') := fun j x' e => set_cases e
  have oo : ∀ j q, OwnAt (ρ.set i (.oi c ns' ds')) σ j q → OwnAt ρ σ j q := fun j q ⟨e', x', ex', ho'⟩ => by
    rcases ot j x' ex' with ⟨z, _⟩ | ⟨z, ez⟩
    · subst z; rw [hv] at e'; cases e'; exact oa
    · exact ⟨e', x', ez, ho'⟩
  exact {
    toWok := R.toWok.outW f1 f2 f3
    len := by show (ρ.sl.set i _).length = _; rw [List.length_set]; exact R.len
    sl := fun j x' e' => by
      rcases ot j x' e' with ⟨z, z'⟩ | ⟨z, ez⟩
      · subst z; subst z'; exact ⟨p, C, dx, fl, hv, hC, upd_same, en, r, hM⟩
      · exact (R.sl j x' ez).heap fun q eq ho => upd_ne fun y => z (R.ownN j i p (y ▸ ⟨eq, x', ez, ho⟩) oa)
    own := fun j q h => R.own j q (oo j q h)
    ownN := fun j j' q h h' => R.ownN j j' q (oo j q h) (oo j' q h')
    lT := R.lT }
theorem wrF_ok {f : Str} {d : Dt} {vy : V} {k : SS → Out SS Fl} (R : Rel G w ρ σ H) (hr : RR G w ρ σ H r v) (hd : Rep G w.F w.A vy d) (g : GoS G W w ((wrF r f d ρ).bind fun _ s => k s) D) :
    ∃ a c C dx fl, v = .ref a ∧ G.cls c = some C ∧ H a = some (.ins C dx fl) ∧ fl.length < 1000 ∧ ∃ ρ', Rel G w ρ' σ (upd H a (.ins C dx (putF f vy fl))) ∧ GoS G W w (k ρ') D := by
  cases r with
  | nl xs => exact g.elim
  | bw i =>
    have hv : σ[i]? = some (some v) := hr
    simp only [wrF] at g
    split at g
    · rename_i c ns vs e
      split at g
      · rename_i hl
        obtain ⟨p, C, dx, fl, e1, hC, hp, en, rl, _⟩ := R.sl i _ e
        rw [hv] at e1; cases e1
        subst en
        refine ⟨p, c, C, dx, fl, rfl, hC, hp, by simpa using hl, _, R.wrOwnI e hv hC (putN_map _ _ _) (putD_rep hd rl), g⟩
      · exact g.elim
    · exact g.elim
  | v d0 =>
    cases d0 with
    | ref n =>
      simp only [wrF] at g
      split at g
      · rename_i c ns vs e
        split at g
        · rename_i hl
          obtain ⟨p, rfl, e2⟩ := Rep.inv_ref hr
          obtain ⟨f1, f2, mo, e3, m⟩ := R.stR n p e2
          rw [e] at e3; cases e3
          obtain ⟨C, dx, fl, hC, hp, en, rl⟩ := m
          subst en
          have R' : Rel G w (ρ.setO n (.i c (putN f (fl.map (·.1))) (putD f d (fl.map (·.1)) vs))) σ (upd H p (.ins C dx (putF f vy fl))) := R.wrSt e2 ⟨C, dx, _, hC, rfl, putN_map _ _ _, putD_rep hd rl⟩
          exact ⟨p, c, C, dx, fl, rfl, hC, hp, by simpa using hl, _, R', g⟩
        · exact g.elim
      · exact g.elim
    | _ => exact g.elim
theorem ss_setf {o e : Expr} {f : Str} {mo me : ME} {pos' : Pos} (hK : X.K = G.K) (hc : ∀ c C, G.cls c = some C → Cls G.K C) (hn : ∀ c C, G.cls c = some C → NoAttr G.K C f) (hs : swapsWith e (some (.Attribute o f pos')) pos.line X.env = pure false)
    (ho : PE X o (tE G W (ev L mo))) (he : PE X e (tE G W (ev L me))) : PS X (.Assign [.Attribute o f pos'] e pos) (tS G W (exec L (.setf mo f me))) :=
  (ps_fld ho he hs).imp fun D σ H h => by
    obtain ⟨w, ρ, R, g⟩ := h
    rw [exec] at g
    rw [hK]
    refine ⟨w, ρ, R, g.bind.mono fun y ρ1 w1 H1 _ e1 R1 q vy hy => ?_⟩
    obtain ⟨d, ρ2, w2, _, e2, R2, rep, q⟩ := val_ok R1 hy q.bind
    refine ⟨w2, ρ2, R2, q.bind.mono fun r ρ3 w3 H3 _ e3 R3 q3 vo hr => ?_⟩
    obtain ⟨a, c, C, dx, fl, rfl, hC, hH, hl, ρ', R', q4⟩ := wrF_ok R3 hr (rep.mono e3.F e3.A) q3
    exact ⟨a, C, dx, fl, rfl, hH, hc c C hC, hn c C hC, hl, q4.nx (Ext.refl _) R'⟩
/-! ### augmented -/
def aop : Bop → Operator
  | .add => .Add
  | .sub => .Sub
  | .mul => .Mult
  | .fdiv => .FloorDiv
  | .mod => .Mod
  | .pow => .Pow
  | .shl => .LShift
  | .shr => .RShift
  | .band => .BitAnd
  | .bor => .BitOr
  | .bxor => .BitXor
def rAug (op : Bop) : TIp := fun x y H Q => ∃ i j, x = .int i ∧ y = .int j ∧ ((op = .add ∧ Q (.int (i + j)) H) ∨ (op = .sub ∧ Q (.int (i - j)) H))
theorem ip_aug (op : Bop) (ho : op = .add ∨ op = .sub) : PIp X (aop op) (rAug op) := fun pins s σ H x y v u Q I rx ry h => by
  obtain ⟨i, j, rfl, rfl, h⟩ := h
  rcases ho with rfl | rfl
  · rcases h with ⟨_, h⟩ | ⟨z, _⟩
    · exact ip_add pins s σ H _ _ v u Q I rx ry ⟨i, j, rfl, rfl, h⟩
    · cases z
  · rcases h with ⟨z, _⟩ | ⟨_, h⟩
    · cases z
    · exact ip_sub pins s σ H _ _ v u Q I rx ry ⟨i, j, rfl, rfl, h⟩
theorem augI_ok {op : Bop} {x y : Int} {f : Int → SS → Out SS Fl} (g : GoS G W w ((augI op x y ρ).bind f) D) : ∃ z, GoS G W w (f z ρ) D ∧ ∀ {H : Hp} {Q : VK}, Q (.int z) H → rAug op (.int x) (.int y) H Q := by
  unfold augI at g
  split at g
  · exact ⟨_, g, fun q => ⟨x, y, rfl, rfl, .inl ⟨rfl, q⟩⟩⟩
  · exact ⟨_, g, fun q => ⟨x, y, rfl, rfl, .inr ⟨rfl, q⟩⟩⟩
  · exact g.elim
theorem ss_aug {i : Nat} {x : Str} {e : Expr} {op : Bop} {m : ME} {pos' : Pos} (hop : op = .add ∨ op = .sub) (hN : X.N.Nodup) (hi : X.N[i]? = some x) (hx : Loc X.env.scope x) (hf : X.fn x = true ∨ X.env.scope.names.lookup x = some .local) (he : PE X e (tE G W (ev L m))) :
    PS X (.AugAssign (.Name x pos') (aop op) e pos) (tS G W (exec L (.aug i op m))) := (ps_aug hN hi hx he (ip_aug op hop) hf).imp fun D σ H h => by
  obtain ⟨w, ρ, R, g⟩ := h
  rw [exec] at g
  split at g
  · rename_i x ex
    obtain ⟨v, e1, r⟩ := R.sl i _ ex
    obtain rfl := Rep.inv_int r
    refine ⟨_, e1, w, ρ, R, g.bind.mono fun r ρ1 w1 H1 _ e1 R1 q vy hy => ?_⟩
    obtain ⟨y, rfl, rfl, q⟩ := asI_ok R1 hy q
    obtain ⟨z, q, fin⟩ := augI_ok q
    exact fin (q.nx (Ext.refl _) (R1.setV (.int z)))
  · exact g.elim
theorem icls_ok {c : Nat} (R : Rel G w ρ σ H) (hr : RR G w ρ σ H r v) (h : icls r ρ = some c) : ∃ a C dx fl, v = .ref a ∧ G.cls c = some C ∧ H a = some (.ins C dx fl) := by
  unfold icls at h
  split at h
  · split at h
    · rename_i e
      cases h
      have hv : σ[_]? = some (some v) := hr
      obtain ⟨p, C, dx, fl, e1, hC, hp, _⟩ := R.sl _ _ e
      rw [hv] at e1; cases e1
      exact ⟨p, C, dx, fl, rfl, hC, hp⟩
    · cases h
  · split at h
    · rename_i e
      cases h
      obtain ⟨p, rfl, e2⟩ := Rep.inv_ref hr
      obtain ⟨_, _, mo, e3, m⟩ := R.stR _ p e2
      rw [e] at e3; cases e3
      obtain ⟨C, dx, fl, hC, hp, _⟩ := m
      exact ⟨p, C, dx, fl, rfl, hC, hp⟩
    · cases h
  · cases h
theorem ss_augf {o e : Expr} {f : Str} {op : Bop} {mo me : ME} {tpos : Pos} (hop : op = .add ∨ op = .sub) (hK : X.K = G.K) (hc : ∀ c C, G.cls c = some C → Cls G.K C) (hn : ∀ c C, G.cls c = some C → NoAttr G.K C f)
    (ho : PE X o (tE G W (ev L mo))) (he : PE X e (tE G W (ev L me))) : PS X (.AugAssign (.Attribute o f tpos) (aop op) e pos) (tS G W (exec L (.augf mo f op me))) :=
  (ps_fldaug (rd := rAug op) ho he (ip_aug op hop)).imp fun D σ H h => by
    obtain ⟨w, ρ, R, g⟩ := h
    rw [exec] at g
    rw [hK]
    refine ⟨w, ρ, R, g.bind.mono fun r ρ1 w1 H1 _ e1 R1 q vo hr => ?_⟩
    split at q
    · rename_i x c ex ec
      obtain ⟨a, c0, C, dx, fl, u, rfl, hC0, hH, hlk, ru⟩ := fldV_ok R1 hr ex
      obtain rfl := Rep.inv_int ru
      obtain ⟨a1, C1, dx1, fl1, ea, hC, hH1⟩ := icls_ok R1 hr ec
      cases ea
      rw [hH] at hH1; cases hH1
      refine ⟨a, C, dx, fl, _, rfl, hH, hc c C hC, hn c C hC, hlk, ?_⟩
      obtain ⟨w2, R2, _, _, g2⟩ := pend R1 hr (q.bind (σ := σ))
      refine ⟨w2, ρ1, R2, g2.mono fun y ρ3 w3 H3 _ e3 R3 q3 vy hy => ?_⟩
      obtain ⟨w4, e4, R4, hr4, _, _, hyy, q4⟩ := q3
      obtain ⟨y, rfl, rfl, q4⟩ := asI_ok R4 (hyy _ _ hy) q4
      obtain ⟨z, q4, fin⟩ := augI_ok q4
      split at q4
      · rename_i ec2
        obtain ⟨a2, C2, dx2, fl2, ea, hC2, hH2⟩ := icls_ok R4 hr4 ec2
        cases ea
        rw [hC] at hC2; cases hC2
        obtain ⟨a', c', C', dx', fl', ea, hC', hH', hl', ρ', R', q5⟩ := wrF_ok R4 hr4 (.int z) q4
        cases ea
        rw [hH2] at hH'; cases hH'
        exact fin ⟨dx2, fl2, hH2, hl', q5.nx (Ext.refl _) R'⟩
      · exact q4.elim
    · exact q.elim
end
end Mq

/-! MqFor: loops. -/
namespace Mq
open PySem L2
section
variable {G : Gx} {W : WX} {w w1 w2 w' : Wd} {ρ ρ' ρ1 : SS} {σ σ' : L2.St} {H H1 : Hp} {X : Cx} {pos : Pos} {L : Fns} {r : RV} {v : V} {ys : List Dt} {D : Ends}
theorem RF.same (hF : w'.F = w.F) (hA : w'.A = w.A) (hT : ∀ p, w.T p = none → w'.T p = none) (h : RF G w H r v) : RF G w' H r v := by
  cases r with
  | v d => show Rep G w'.F w'.A v d; rw [hF, hA]; exact h
  | nl xs => obtain ⟨p, vs, e1, e2, rl, f1, f2, f3⟩ := h; exact ⟨p, vs, e1, e2, by rw [hF, hA]; exact rl, by rw [hF]; exact f1, hT p f2, by rw [hA]; exact f3⟩
  | bw i => exact h
theorem XR.same {cls : Value} {d : Option Addr} {c : Nat} {fs : List Dt} (hF : w'.F = w.F) (hA : w'.A = w.A) (h : XR G w cls d c fs) : XR G w' cls d c fs := by
  obtain ⟨C, ns, e1, e2, q⟩ := h
  refine ⟨C, ns, e1, e2, q.imp id ?_⟩
  rintro ⟨dx, fl, a, b, c, rl⟩
  exact ⟨dx, fl, a, by rw [hF]; exact b, c, by rw [hF, hA]; exact rl⟩
theorem GoS.unfix {o : Out SS Fl} (h : GoS G W w1 (o.fix fun s => unlock r ρ1 s) D) (ex : Exit G w1 w2 ρ1 r) : GoS G W w2 o D := by
  cases o with
  | no => exact h
  | ex c fs s =>
    intro cls d H' w' σ' e R x
    obtain ⟨w'', e', R', z1, z2, z3⟩ := ex w' _ _ _ e R
    exact h cls d H' w'' σ' e' R' (x.same z1 z2)
  | ok f s =>
    intro H' w' σ' e R
    obtain ⟨w'', e', R', z1, z2, z3⟩ := ex w' _ _ _ e R
    have q := h H' w'' σ' e' R'
    cases f with
    | ret r => exact fun v rf => q v (rf.same z1 z2 z3)
    | nx => exact q
    | bk => exact q
    | ct => exact q
theorem forL_ex {G : Gx} {W : WX} {w : Wd} {t : Tg} {ck : SS → Bool} {b : SS → Out SS Fl} {d : Dt} {xs : List Dt} (g : GoS G W w (forL ck (fun s x => bindT t x s) b (d :: xs) ρ) D) : ∃ s1, bindT t d ρ = .ok () s1 ∧ GoS G W w ((b s1).bind fun f s => (match f with
      | .nx => if ck s then forL ck (fun s x => bindT t x s) b xs s else .no
      | .ct => if ck s then forL ck (fun s x => bindT t x s) b xs s else .no
      | .bk => .ok .nx s
      | .ret r => .ok (.ret r) s)) D := by
  rw [forL] at g
  cases eb : bindT t d ρ with
  | no => rw [eb] at g; exact g.elim
  | ex c fs s => exact absurd eb (bindT_ex _ _ _ _ _ _)
  | ok u s => rw [eb] at g; exact ⟨s, rfl, g⟩
structure ForT (G : Gx) (W : WX) (w0 : Wd) (r : RV) (v : V) (ys xs : List Dt) (lp : List Dt → SS → Out SS Fl) (D : Ends) (i : Nat) (σ : L2.St) (H : Hp) : Prop where
  ex : ∃ w ρ, Ext w0 w ∧ Rel G w ρ σ H ∧ SrcOk G w ρ r v ys ∧ GoS G W w0 (lp (xs.drop i) ρ) D
theorem ss_for {tg iter : Expr} {body : List Stmt} {t : Tg} {src : MI} {mb : List MS} (hp : PassesOwn (model X.prog X.w) X.A X.env X.xe) (hc : X.calm = true) (hi : PI X tg iter (tI G W (evI L src))) (hg : PG X tg (tgR G t)) (hb : PSs X body (tS G W (execs L mb))) (hs : ∀ x, foldedSetIterable iter X.env x = pure x) :
    PS X (.For tg iter body [] pos) (tS G W (exec L (.forr t src mb))) := (ps_for hp hc hi hg hb hs).imp fun D σ H h => by
  obtain ⟨w, ρ, R, g⟩ := h
  rw [exec] at g
  refine ⟨w, ρ, R, g.bind.mono fun iv ρ1 w1 H1 _ e1 R1 q J v hsrc wk => ?_⟩
  obtain ⟨w2, R2, eF2, eA2, so, ex⟩ := protectS R1 hsrc
  have q := q.unfix ex
  refine ⟨fun i m σ H => m = iv.xs.length - i ∧ i ≤ iv.xs.length ∧ ForT G W w2 iv.src v iv.ys iv.xs (forL (chk iv.ys iv.src) (fun s x => bindT t x s) (fun s => execs L mb s)) D i σ H, ⟨_, rfl, Nat.zero_le _, ⟨w2, _, Ext.refl _, R2, so, q⟩⟩, ?_⟩
  rintro i m σ3 H3 ⟨rfl, hile, T⟩
  obtain ⟨w3, ρ3, e3, R3, so3, g3⟩ := T.ex
  by_cases hlt : i < iv.xs.length
  · right
    obtain ⟨d, ed⟩ : ∃ d, iv.xs[i]? = some d := ⟨_, List.getElem?_eq_getElem hlt⟩
    have edr : iv.xs.drop i = d :: iv.xs.drop (i + 1) := by
      rw [List.drop_eq_getElem_cons hlt]
      rw [List.getElem?_eq_getElem hlt] at ed; cases ed; rfl
    rw [edr] at g3
    obtain ⟨s1, eb, g3⟩ := forL_ex g3
    obtain ⟨go, yl⟩ := wk.go i d _ _ _ _ R3 ⟨⟨by rw [← eF2]; exact e3.F, by rw [← eA2]; exact e3.A⟩, so3⟩ ed
    refine ⟨go, fun σ' H' => ForT G W w2 iv.src v iv.ys iv.xs (forL (chk iv.ys iv.src) (fun s x => bindT t x s) (fun s => execs L mb s)) D (i + 1) σ' H', fun σ' H' T' => ⟨_, by omega, rfl, hlt, T'⟩, fun x H' y => ?_⟩
    obtain ⟨w4, e4, R4, rep⟩ := yl x H' y
    refine ⟨w4, ρ3, d, s1, R4, rep, eb, fun σ2 R5 ag => ⟨w4, s1, R5, ?_⟩⟩
    have e24 := e3.trans e4
    have again : ∀ {s : SS} {w' : Wd} {H' : Hp} {σ' : L2.St}, GoS G W w2 (if chk iv.ys iv.src s then forL (chk iv.ys iv.src) (fun s x => bindT t x s) (fun s => execs L mb s) (iv.xs.drop (i + 1)) s else .no) D → Ext w4 w' → Rel G w' s σ' H' → ForT G W w2 iv.src v iv.ys iv.xs (forL (chk iv.ys iv.src) (fun s x => bindT t x s) (fun s => execs L mb s)) D (i + 1) σ' H' := fun {s w' H' σ'} g e R => by
      split at g
      · rename_i hck
        exact ⟨w', s, e24.trans e, R, so3.ext (e4.trans e) hck, g⟩
      · exact g.elim
    cases q5 : execs L mb s1 with
    | no => rw [q5] at g3; exact g3.elim
    | ex c fs s => rw [q5] at g3; exact fun cls d H' w' σ' e R x => g3 cls d H' w' σ' (e24.trans e) R x
    | ok f s =>
      rw [q5] at g3
      intro H' w' σ' e R
      cases f with
      | nx => exact again g3 e R
      | ct => exact again g3 e R
      | bk => exact g3 H' w' σ' (e24.trans e) R
      | ret r => exact g3 H' w' σ' (e24.trans e) R
  · left
    have hi' : i = iv.xs.length := by omega
    subst hi'
    rw [List.drop_length, forL] at g3
    exact ⟨wk.stop _ _ _ _ R3 ⟨⟨by rw [← eF2]; exact e3.F, by rw [← eA2]; exact e3.A⟩, so3⟩, g3.nx e3 R3⟩
theorem ss_while {c : Expr} {body : List Stmt} {n : Nat} {mc : ME} {mb : List MS} (hp : PassesOwn (model X.prog X.w) X.A X.env X.xe) (hc : PT X c (tT G W (tst (ev L mc)))) (hb : PSs X body (tS G W (execs L mb))) : PS X (.While c body [] pos) (tS G W (exec L (.whl n mc mb))) := (ps_while hp hc hb).imp fun D σ H h => by
  obtain ⟨w, ρ, R, g⟩ := h
  rw [exec] at g
  have g : GoS G W w (whN (tst (ev L mc)) (fun s => execs L mb s) n ρ) D := g
  refine ⟨fun m σ H => ∃ w1 ρ, Ext w w1 ∧ Rel G w1 ρ σ H ∧ GoS G W w (whN (tst (ev L mc)) (fun s => execs L mb s) m ρ) D, ⟨n, w, ρ, Ext.refl _, R, g⟩, ?_⟩
  rintro m σ2 H2 ⟨w1, ρ1, e1, R1, g1⟩
  cases m with
  | zero => rw [whN] at g1; exact g1.elim
  | succ m =>
    rw [whN] at g1
    refine ⟨w1, ρ1, R1, (g1.ext e1).bind.mono fun k ρ2 w2 H2 ek e2 R2 q => ?_⟩
    cases k with
    | false => rw [if_neg Bool.false_ne_true] at q ⊢; exact q.nx (Ext.refl _) R2
    | true =>
      rw [if_pos rfl] at q ⊢
      refine ⟨fun σ' H' => ∃ w1 ρ, Ext w w1 ∧ Rel G w1 ρ σ' H' ∧ GoS G W w (whN (tst (ev L mc)) (fun s => execs L mb s) m ρ) D, fun σ' H' T => ⟨m, Nat.lt_succ_self m, T⟩, w2, ρ2, R2, ?_⟩
      have g2 : GoS G W w ((execs L mb ρ2).bind fun f s => (match f with
        | .nx => whN (tst (ev L mc)) (fun s => execs L mb s) m s
        | .ct => whN (tst (ev L mc)) (fun s => execs L mb s) m s
        | .bk => .ok .nx s
        | .ret r => .ok (.ret r) s)) D := by rw [ek] at g1; exact g1
      have e12 := e1.trans e2
      cases q5 : execs L mb ρ2 with
      | no => rw [q5] at g2; exact g2.elim
      | ex c fs s => rw [q5] at g2; exact fun cls d H' w' σ' e R x => g2 cls d H' w' σ' (e12.trans e) R x
      | ok f s =>
        rw [q5] at g2
        intro H' w' σ' e R
        cases f with
        | nx => exact ⟨w', s, e12.trans e, R, g2⟩
        | ct => exact ⟨w', s, e12.trans e, R, g2⟩
        | bk => exact g2 H' w' σ' (e12.trans e) R
        | ret r => exact g2 H' w' σ' (e12.trans e) R
end
end Mq

/-! MqBool: and, or; a list built on one line; items augmented. -/
namespace Mq
open PySem L2
section
variable {G : Gx} {W : WX} {w w1 w2 w' : Wd} {ρ ρ' ρ1 : SS} {σ σ' : L2.St} {H H1 : Hp} {X : Cx} {pos : Pos} {L : Fns} {r : RV} {v : V} {ys : List Dt} {D : Ends}
def bop2 : Bool → BoolOp
  | true => .And
  | false => .Or
theorem evB_one {a : Bool} {m : ME} : evB L a [m] = ev L m := by funext s; rw [evB]
theorem evB_cons {a : Bool} {m n : ME} {ms : List ME} {s : SS} : evB L a (m :: n :: ms) s = (ev L m s).bind fun x s => (asB x s).bind fun k s => if k == a then evB L a (n :: ms) s else .ok (.v (.bl k)) s := by
  rw [evB]
  intro h; cases h
theorem tst_cons {a : Bool} {m n : ME} {ms : List ME} {s : SS} : tst (evB L a (m :: n :: ms)) s = (tst (ev L m) s).bind fun k s => if k == a then tst (evB L a (n :: ms)) s else .ok k s := by
  unfold tst
  rw [evB_cons]
  cases ev L m s with
  | no => rfl
  | ex c fs t => rfl
  | ok x t =>
    show ((asB x t).bind _).bind asB = (asB x t).bind _
    cases asB x t with
    | no => rfl
    | ex c fs t => rfl
    | ok k t =>
      show (if (k == a) = true then _ else _ : Out SS RV).bind asB = if (k == a) = true then _ else _
      split <;> rfl
theorem sw_bool1 {a : Expr} {b : Bool} {m : ME} (h : PT X a (tT G W (tst (ev L m)))) : PW X (.BoolOp (bop2 b) [a] pos) (tT G W (tst (evB L b [m]))) := by
  rw [evB_one]
  cases b
  · exact pw_or1 h
  · exact pw_and1 h
theorem sw_bool {a b : Expr} {rest : List Expr} {k : Bool} {m n : ME} {ms : List ME} (h : PT X a (tT G W (tst (ev L m)))) (h2 : PW X (.BoolOp (bop2 k) (b :: rest) pos) (tT G W (tst (evB L k (n :: ms))))) :
    PW X (.BoolOp (bop2 k) (a :: b :: rest) pos) (tT G W (tst (evB L k (m :: n :: ms)))) := by
  cases k
  · refine (pw_or h h2).imp fun σ H Q h => ?_
    obtain ⟨w, ρ, R, g⟩ := h
    rw [tst_cons] at g
    refine ⟨w, ρ, R, g.bind.mono fun c ρ1 w1 H1 _ e1 R1 q => ?_⟩
    cases c
    · exact ⟨w1, ρ1, R1, q⟩
    · exact q.here R1
  · refine (pw_and h h2).imp fun σ H Q h => ?_
    obtain ⟨w, ρ, R, g⟩ := h
    rw [tst_cons] at g
    refine ⟨w, ρ, R, g.bind.mono fun c ρ1 w1 H1 _ e1 R1 q => ?_⟩
    cases c
    · exact q.here R1
    · exact ⟨w1, ρ1, R1, q⟩
theorem sv_bool1 {a : Expr} {b : Bool} {m : ME} (h : PE X a (tE G W (ev L m))) : PE X (.BoolOp (bop2 b) [a] pos) (tE G W (evB L b [m])) := by
  rw [evB_one]; exact pe_one h
theorem sv_bool {a b : Expr} {rest : List Expr} {k : Bool} {m n : ME} {ms : List ME} (h : PE X a (tE G W (ev L m))) (h2 : PE X (.BoolOp (bop2 k) (b :: rest) pos) (tE G W (evB L k (n :: ms)))) :
    PE X (.BoolOp (bop2 k) (a :: b :: rest) pos) (tE G W (evB L k (m :: n :: ms))) := by
  have st : ∀ {σ : L2.St} {H : Hp} {Q : VK}, tE G W (evB L k (m :: n :: ms)) σ H Q → tE G W (ev L m) σ H fun x H1 => ∃ c, x = .bl c ∧ if c = k then tE G W (evB L k (n :: ms)) σ H1 Q else Q (.bl c) H1 := fun {σ H Q} h => by
    obtain ⟨w, ρ, R, g⟩ := h
    rw [evB_cons] at g
    refine ⟨w, ρ, R, g.bind.mono fun x ρ1 w1 H1 _ e1 R1 q v hv => ?_⟩
    unfold asB at q
    split at q
    · rename_i c _
      obtain rfl := Rep.inv_bl hv
      refine ⟨c, rfl, ?_⟩
      have q : Go G W w1 σ (if (c == k) = true then evB L k (n :: ms) ρ1 else .ok (.v (.bl c)) ρ1) _ := q
      by_cases e : c = k
      · rw [if_pos e]
        rw [if_pos (by simp [e])] at q
        exact ⟨w1, ρ1, R1, q⟩
      · rw [if_neg e]
        rw [if_neg (by simp [e])] at q
        exact q.here R1 _ (.bl c)
    · exact q.elim
  cases k
  · refine (pe_or h h2).imp fun σ H Q h => ?_
    obtain ⟨w, ρ, R, g⟩ := st h
    refine ⟨w, ρ, R, g.mono fun x ρ1 w1 H1 _ e1 R1 q v hv => ?_⟩
    obtain ⟨c, e, q⟩ := q v hv
    refine ⟨c, e, ?_⟩
    cases c
    · rw [if_neg Bool.false_ne_true]; rw [if_pos rfl] at q; exact q
    · rw [if_pos rfl]; rw [if_neg (by decide)] at q; exact q
  · refine (pe_and h h2).imp fun σ H Q h => ?_
    obtain ⟨w, ρ, R, g⟩ := st h
    refine ⟨w, ρ, R, g.mono fun x ρ1 w1 H1 _ e1 R1 q v hv => ?_⟩
    obtain ⟨c, e, q⟩ := q v hv
    refine ⟨c, e, ?_⟩
    cases c
    · rw [if_neg Bool.false_ne_true]; rw [if_neg (by decide)] at q; exact q
    · rw [if_pos rfl]; rw [if_pos rfl] at q; exact q
theorem ev_bool {a : Bool} {ms : List ME} : ev L (.bool a ms) = evB L a ms := by funext s; rw [ev]
/-- a list built and named on one line -/
theorem ss_asgLc {i : Nat} {x : Str} {py : Pos} {elt tg iter : Expr} {ifs : List Expr} {scope : Scope} {own : List (Str × Nat)} {spos : Pos} {me : ME} {t : Tg} {src : MI} {cond : Option ME} (hc : X.calm = true) (hN : X.N.Nodup) (hy : X.N[i]? = some x) (hyl : X.env.scope.names.lookup x = some .local)
    (hsw : swapsWith (.ListComp elt [⟨tg, iter, ifs, 0⟩] scope pos) (some (.Name x py)) spos.line X.env = pure true) (hi : PI X tg iter (tI G W (evI L src))) (ok : BlkOk X.N X.env.scope scope own)
    (ht : tslots t ⊆ own.map (·.2))
    (hg : ∀ (s : Shared) (H : Hp) (C : Addr) (cl : List (Str × Addr)) (fp : List Addr), PG (X.blk s H scope (compEnvC scope cl C X.env) fp) tg (tgR G t))
    (hcn : ∀ (s : Shared) (H : Hp) (C : Addr) (cl : List (Str × Addr)) (fp : List Addr), PTs (X.blk s H scope (compEnvC scope cl C X.env) fp) ifs (tT G WF (cndM L cond)))
    (he : ∀ (s : Shared) (H : Hp) (C : Addr) (cl : List (Str × Addr)) (fp : List Addr), PE (X.blk s H scope (compEnvC scope cl C X.env) fp) elt (tE G WF (ev L me))) (hs : ∀ x, foldedSetIterable iter X.env x = pure x) :
    PS X (.Assign [.Name x py] (.ListComp elt [⟨tg, iter, ifs, 0⟩] scope pos) spos) (tS G W (exec L (.asg i (.lc me t src cond (own.map (·.2)))))) :=
  (ps_setLc hc hN hy hyl hsw hi ok hg hcn he hs).imp fun D σ H h => by
    obtain ⟨w, ρ, R, g⟩ := h
    rw [exec] at g
    exact lc_imp ht ⟨w, ρ, R, g.bind.mono fun r ρ1 w1 H1 _ e1 R1 q v hv => asg_step R1 hv q⟩
theorem pget_list : PGet X (rIxL X.K) := by
  intro pins s σ H x y v u Q I rx ry h
  obtain ⟨p, xs, i, z, rfl, rfl, hq, he, q⟩ := h
  cases rx
  obtain ⟨t, rfl⟩ := ry
  obtain ⟨its, r, pl, hz⟩ := I.list hq
  obtain ⟨j, h1, h2, h3, h4, h5⟩ := atI_get he
  obtain ⟨w, ew, rw'⟩ := r.get h2
  have hl := r.length
  have hn := line63
  have fin : EP X pins σ Q w s := ⟨z, H, I, rw', q⟩
  by_cases h0 : 0 ≤ i
  · have hj : i.toNat = j := by
      rw [seqIndex_of h0 h5] at h1
      exact Option.some.inj h1
    exact wpAny_getItem_list pl.isList h0 (by omega) (by rw [hj]; simpa using ew) fin
  · have hj : (i + (its.toArray.size : Int)).toNat = j := by
      rw [seqIndex_neg (by omega) h4] at h1
      rw [List.size_toArray, ← hl]
      exact Option.some.inj h1
    exact wpAny_getItem_list_neg pl.isList (by omega) (by rw [List.size_toArray] <;> omega) (by omega) (by rw [hj]; simpa using ew) fin
theorem ss_augi {o i e : Expr} {op : Bop} {mo mi me : ME} {tpos : Pos} (hop : op = .add ∨ op = .sub) (hK : X.K = G.K)
    (ha : ∀ ov iv new, augStore i ov iv new = (do holding [new, ov, iv] (setItem ov iv new); release [new, ov, iv] []; pure .next))
    (ho : PE X o (tE G W (ev L mo))) (hi : PE X i (tE G W (ev L mi))) (he : PE X e (tE G W (ev L me))) : PS X (.AugAssign (.Subscript o i tpos) (aop op) e pos) (tS G W (exec L (.augi mo mi op me))) :=
  (ps_augS ho hi pget_list he (ip_aug op hop) set_list ha).imp fun D σ H h => by
    obtain ⟨w, ρ, R, g⟩ := h
    rw [exec] at g
    rw [hK]
    refine ⟨w, ρ, R, g.bind.mono fun r ρ1 w1 H1 _ e1 R1 q vo hr => ?_⟩
    obtain ⟨w2, R2, _, _, g2⟩ := pend R1 hr (q.bind (σ := σ))
    refine ⟨w2, ρ1, R2, g2.mono fun k ρ3 w3 H3 _ e3 R3 q3 vk hk => ?_⟩
    obtain ⟨w4, e4, R4, hr4, _, _, hkk, q4⟩ := q3
    obtain ⟨k, rfl, rfl, q4⟩ := asI_ok R4 (hkk _ _ hk) q4
    have q4 : GoS G W w4 (match (rdt ρ3 r).bind fun xs => atI xs k with
      | some (.int x) => (ev L me ρ3).bind fun y s => (asI y s).bind fun y s => (augI op x y s).bind fun z s => (wrL r (setF k (.int z)) s).bind fun _ s => .ok .nx s
      | _ => .no) D := q4
    split at q4
    · rename_i x ex
      simp only [Option.bind_eq_some_iff] at ex
      obtain ⟨xs, exs, ex⟩ := ex
      obtain ⟨p, vs, rfl, hp, rl⟩ := rdt_ok R4 hr4 exs
      obtain ⟨u, eu, ru⟩ := atI_rep rl ex
      obtain rfl := Rep.inv_int ru
      refine ⟨p, vs, k, _, rfl, rfl, SqL.of hp, eu, ?_⟩
      obtain ⟨w5, R5, _, _, g5⟩ := pend R4 hr4 (q4.bind (σ := σ))
      refine ⟨w5, ρ3, R5, g5.mono fun y ρ6 w6 H6 _ e6 R6 q6 vy hy => ?_⟩
      obtain ⟨w7, e7, R7, hr7, _, _, hyy, q7⟩ := q6
      obtain ⟨y, rfl, rfl, q7⟩ := asI_ok R7 (hyy _ _ hy) q7
      obtain ⟨z, q7, fin⟩ := augI_ok q7
      exact fin (seti_step (D := D) (N := D.nx) R7 hr7 (.int z) q7)
    · exact q4.elim
end
end Mq

/-! MqStat: a tree of the small language stands for a tree of the program: the check, its soundness. -/
namespace Mq
open PySem L2
/-! ### forms -/
def isStar : Expr → Bool
  | .Starred _ _ => true
  | _ => false
def noStars : List Expr → Bool
  | [] => true
  | e :: r => !isStar e && noStars r
theorem star_cons {e : Expr} {es : List Expr} {env : Env} (h : isStar e = false) : starEach (e :: es) env = (false, eval e env) :: starEach es env := by
  cases e <;> first | rfl | cases h
theorem stars_no {env : Env} {pos : Pos} : ∀ {es : List Expr}, noStars es = true → (backTo pos (starEach es env)).any (·.1) = false ∧ (backTo pos (starEach es env)).all (!·.1) = true
  | [], _ => ⟨rfl, rfl⟩
  | e :: r, h => by
    simp only [noStars, Bool.and_eq_true, Bool.not_eq_true'] at h
    rw [star_cons h.1]
    obtain ⟨a, b⟩ := stars_no (env := env) (pos := pos) h.2
    unfold backTo at a b ⊢
    simp only [List.map_cons, List.any_cons, List.all_cons, a, b]
    exact ⟨rfl, rfl⟩
def isComp : Expr → Bool
  | .ListComp _ _ _ _ => true
  | .SetComp _ _ _ _ => true
  | .DictComp _ _ _ _ _ => true
  | _ => false
theorem swaps_no {e : Expr} {t : Option Expr} {n : Nat} {env : Env} (h : isComp e = false) : swapsWith e t n env = pure false := by
  cases e <;> first | rfl | cases h
def isSet : Expr → Bool
  | .Set _ _ _ => true
  | _ => false
theorem folded_no {e : Expr} {env : Env} (h : isSet e = false) : ∀ x, foldedSetIterable e env x = pure x := by
  cases e <;> first | (intro _; rfl) | cases h
def isSlice : Expr → Bool
  | .Slice _ _ _ _ => true
  | _ => false
theorem plain_ix {e : Expr} (h : isSlice e = false) : PlainIx e := by
  cases e <;> first | (intro _ _; rfl) | cases h
theorem aug_st {e : Expr} (h : isSlice e = false) : ∀ ov iv new, augStore e ov iv new = (do holding [new, ov, iv] (setItem ov iv new); release [new, ov, iv] []; pure .next) := by
  cases e <;> first | (intro _ _ _; rfl) | cases h
theorem set_st {o e : Expr} {pos' : Pos} {env : Env} (h : isSlice e = false) : ∀ v, assign (.Subscript o e pos') env v = (do
      let ov ← holding [v] (eval o env)
      let iv ← holding [v, ov] (eval e env)
      standAt pos'
      holding [v, ov, iv] (setItem ov iv v)
      release [v, ov, iv] []) := by
  cases e <;> first | (intro _; rfl) | cases h
/-- no super() -/
def okBase : Expr → Bool
  | .Call _ (_ :: _) _ _ => true
  | .Call _ _ _ _ => false
  | _ => true
theorem base_ok {o : Expr} {m : Str} {env : Env} {whole : Sem Value} (h : okBase o = true) : attributeBase o m env whole = whole := by
  cases o with
  | Call f es ks p =>
    cases es with
    | nil => cases h
    | cons e es => cases f <;> rfl
  | _ => rfl
/-- its test is its value's truth -/
def plainT : Expr → Bool
  | .Name _ _ => true
  | .Call _ _ _ _ => true
  | .Attribute _ _ _ => true
  | .Subscript _ _ _ => true
  | .Constant _ _ _ => true
  | _ => false
theorem plainT_ok {e : Expr} {env : Env} (h : plainT e = true) : ∀ whole, isTrue e env whole = (do let v ← whole; standAt e.pos; holding [v] (truthy v)) := by
  cases e <;> first | (intro _; rfl) | cases h
theorem marks_no {op : CmpOp} {e : Expr} (h : isSet e = false) : behindInMarks op e = false := by
  cases e <;> first | rfl | cases h
/-! ### what is known -/
structure Sx where
  N : List Str
  sc : Scope
  cel : Bool
  defs : List (Str × Nat)
  mks : List (Str × Nat)
  mths : List (Str × Nat)
  flds : List Str
  glos : List Str
  tys : List Str
  blts : List Str
def Sx.blk (S : Sx) (scope : Scope) : Sx := { S with sc := relS scope S.sc, cel := false }
structure Cxs (G : Gx) (L : Fns) (k : Nat) (S : Sx) (X : Cx) : Prop where
  K : X.K = G.K
  N : X.N = S.N
  nd : X.N.Nodup
  sc : X.env.scope = S.sc
  fn : S.cel = true → ∀ x, X.fn x = true
  calm : X.calm = true
  room : Room (k + 1) X.A
  defs : ∀ x n, (x, n) ∈ S.defs → Def G X k x n (L.call x)
  mks : ∀ x n, (x, n) ∈ S.mks → Mkd G X k x n (L.make x)
  mths : ∀ m n, (m, n) ∈ S.mths → ∀ c, L.hasM c m = true → DefM G X k c m n (L.meth c m)
  cls : ∀ c C, G.cls c = some C → Cls G.K C
  ins : ∀ c C, G.cls c = some C → InsT G.K C
  flds : ∀ f, f ∈ S.flds → ∀ c C, G.cls c = some C → NoAttr G.K C f
  glos : ∀ x, x ∈ S.glos → ∃ (u : Value) (v : V) (d : Dt), X.mg x = some u ∧ RelV v u ∧ (∀ F A, Rep G F A v d) ∧ L.glob x = some d
  tys : ∀ t, t ∈ S.tys → IsiF G X L t
  blts : ∀ x, x ∈ S.blts → X.mg x = none
  eqc : EqC G L
section
variable {G : Gx} {L : Fns} {k : Nat} {S : Sx} {X : Cx} {W : WX}
theorem Cxs.blk (C : Cxs G L k S X) {s : Shared} {H : Hp} {scope : Scope} {Cc : Addr} {cl : List (Str × Addr)} {fp : List Addr} : Cxs G L k (S.blk scope) (X.blk s H scope (compEnvC scope cl Cc X.env) fp) where
  K := C.K
  N := C.N
  nd := C.nd
  sc := by
    show relabel scope X.env = relS scope S.sc
    rw [← C.sc]; rfl
  fn := fun h => by cases h
  calm := C.calm
  room := C.room
  defs := fun x n h => let ⟨e⟩ := C.defs x n h; ⟨e⟩
  mks := fun x n h => let ⟨e⟩ := C.mks x n h; ⟨e⟩
  mths := fun m n h c hc => let ⟨e⟩ := C.mths m n h c hc; ⟨e⟩
  cls := C.cls
  ins := C.ins
  flds := C.flds
  glos := C.glos
  tys := fun t h => let ⟨e⟩ := C.tys t h; ⟨e⟩
  blts := C.blts
  eqc := C.eqc
/-! ### the check -/
def okN (x : Str) : Bool := decide (x ≠ "__debug__") && decide (x ≠ "__classdict__") && decide (x ≠ "__name__")
def visC (sc : Scope) (x : Str) : Bool := match sc.names.lookup x with
  | some .local => true | some .cell => true | some .free => true | _ => false
def gloC (sc : Scope) (x : Str) : Bool := decide (sc.names.lookup x = some .globalImplicit)
/-- a slot's name -/
def varC (S : Sx) (i : Nat) (x : Str) : Bool := decide (S.N[i]? = some x) && visC S.sc x && okN x
/-- .. that is stored -/
def stoC (S : Sx) (i : Nat) (x : Str) : Bool := decide (S.N[i]? = some x) && (decide (S.sc.names.lookup x = some .local) || (S.cel && decide (S.sc.names.lookup x = some .cell)))
def ckC (d : Dt) : Expr → Bool
  | .Constant (.int i) _ _ => match d with | .int j => i == j | _ => false
  | .Constant (.str x) _ _ => match d with | .str y => x == y | _ => false
  | .Constant (.bool b) _ _ => match d with | .bl c => b == c | _ => false
  | .Constant .none _ _ => match d with | .non => true | _ => false
  | _ => false
def all2 {a b : Type} (p : a → b → Bool) : List a → List b → Bool
  | [], [] => true
  | x :: r, y :: q => p x y && all2 p r q
  | _, _ => false
def ckO (p : ME → Expr → Bool) : Option ME → Option Expr → Bool
  | none, none => true
  | some m, some e => p m e
  | _, _ => false
mutual
def ckTg (S : Sx) : Tg → Expr → Bool
  | .n i, e => match e with | .Name x _ => stoC S i x | _ => false
  | .t ts, e => match e with | .Tuple es _ _ => ckTgs S ts es | _ => false
def ckTgs (S : Sx) : List Tg → List Expr → Bool
  | [], es => es.isEmpty
  | t :: ts, es => match es with | e :: es => !isStar e && ckTg S t e && ckTgs S ts es | [] => false
end
def ownP (S : Sx) (own : List Nat) : List (Str × Nat) := own.map fun i => (S.N.getD i ⟨#[]⟩, i)
mutual
/-- an expression; with T also as a test -/
def ckE : Nat → Bool → Sx → ME → Expr → Bool
  | 0, _, _, _, _ => false
  | n + 1, T, S, m, e => match m with
    | .bool k ms => (match e with
      | .BoolOp o es _ => decide (o = bop2 k) && !es.isEmpty && all2 (ckE n T S) ms es | _ => false)
    | .not a => (match e with
      | .UnaryOp o x _ => decide (o = .Not) && ckE n T S a x | _ => false)
    | .cmp op a b => (match e with
      | .Compare x ops ys _ => (match ys with
        | [y] => decide (ops = [cop op]) && !isSet y && ckE n false S a x && ckE n false S b y
        | _ => false)
      | _ => false)
    | .cmp2 o1 o2 a b c => (match e with
      | .Compare x ops ys _ => (match ys with
        | [y, z] => decide (ops = [cop o1, cop o2]) && !isSet z && ckE n false S a x && ckE n false S b y && ckE n false S c z
        | _ => false)
      | _ => false)
    | .var i => (match e with
      | .Name x _ => varC S i x | _ => false)
    | .cst d => ckC d e
    | .glo x => (match e with
      | .Name y _ => decide (x = y) && gloC S.sc x && okN x && S.glos.contains x | _ => false)
    | .bin op a b => !T && (match e with
      | .BinOp x o y _ => decide (o = bop op) && ckE n false S a x && ckE n false S b y | _ => false)
    | .neg a => !T && (match e with
      | .UnaryOp o x _ => decide (o = .USub) && ckE n false S a x | _ => false)
    | .ite c a b => !T && (match e with
      | .IfExp x y z _ => ckE n true S c x && ckE n false S a y && ckE n false S b z | _ => false)
    | .tup ms => !T && (match e with
      | .Tuple es _ _ => noStars es && all2 (ckE n false S) ms es | _ => false)
    | .lst ms => !T && (match e with
      | .List es _ => noStars es && all2 (ckE n false S) ms es | _ => false)
    | .idx a b => (match e with
      | .Subscript x y _ => !isSlice y && ckE n false S a x && ckE n false S b y | _ => false)
    | .slc a lo hi => !T && (match e with
      | .Subscript x y _ => (match y with
        | .Slice l h st _ => st.isNone && ckE n false S a x && ckO (ckE n false S) lo l && ckO (ckE n false S) hi h
        | _ => false)
      | _ => false)
    | .rev a => !T && (match e with
      | .Subscript x y _ => (match y with
        | .Slice none none (some (.UnaryOp o (.Constant (.int i) _ _) _)) _ => decide (o = .USub) && decide (i = 1) && ckE n false S a x
        | _ => false)
      | _ => false)
    | .fld a f => (match e with
      | .Attribute x g _ => decide (f = g) && S.flds.contains f && okBase x && ckE n false S a x | _ => false)
    | .call x ms => (match e with
      | .Call fe es ks _ => (match fe with
        | .Name y _ => decide (x = y) && ks.isEmpty && gloC S.sc x && okN x && S.defs.contains (x, es.length) && noStars es && all2 (ckE n false S) ms es
        | _ => false)
      | _ => false)
    | .make x ms => !T && (match e with
      | .Call fe es ks _ => (match fe with
        | .Name y _ => decide (x = y) && ks.isEmpty && gloC S.sc x && okN x && S.mks.contains (x, es.length) && noStars es && all2 (ckE n false S) ms es
        | _ => false)
      | _ => false)
    | .bif x ms => (match e with
      | .Call fe es ks _ => (match fe with
        | .Name y _ => decide (x = y) && ks.isEmpty && gloC S.sc x && okN x && S.blts.contains x && noStars es && all2 (ckE n false S) ms es &&
            (match es with
            | [_] => bnames.contains x
            | [_, _] => decide (x = "min") || decide (x = "max")
            | _ => false)
        | _ => false)
      | _ => false)
    | .meth a m ms => (match e with
      | .Call fe es ks pos => (match fe with
        | .Attribute o g apos => decide (m = g) && ks.isEmpty && okBase o && (apos.endLine == pos.line) && decide (es.length < 30) && S.mths.contains (m, es.length + 1) && noStars es && ckE n false S a o && all2 (ckE n false S) ms es
        | _ => false)
      | _ => false)
    | .bme a m ms => !T && (match e with
      | .Call fe es ks pos => (match fe with
        | .Attribute o g apos => decide (m = g) && ks.isEmpty && okBase o && (apos.endLine == pos.line) && noStars es && ckE n false S a o && all2 (ckE n false S) ms es &&
            (match es with
            | [] => decide (m = "pop")
            | [_] => decide (m = "append") || decide (m = "pop") || decide (m = "extend")
            | _ => false)
        | _ => false)
      | _ => false)
    | .isi a t => (match e with
      | .Call fe es ks _ => (match fe, es with
        | .Name y _, [x, .Name z _] => decide (y = "isinstance") && ks.isEmpty && gloC S.sc y && S.blts.contains y && decide (t = z) && gloC S.sc t && okN t && S.tys.contains t && !isStar x && ckE n false S a x
        | _, _ => false)
      | _ => false)
    | .lc el tg src cond own => !T && (match e with
      | .ListComp x gs scope _ => (match gs with
        | [⟨t, it, ifs, asy⟩] => decide (asy = 0) && !isSet it && blkC S.N S.sc scope (ownP S own) && (tslots tg).all own.contains && ckTg (S.blk scope) tg t && ckI n S src t it && ckE n false (S.blk scope) el x &&
            (match cond, ifs with
            | none, [] => true
            | some c, [z] => ckE n true (S.blk scope) c z
            | _, _ => false)
        | _ => false)
      | _ => false)
    | .alloc a => !T && ckE n false S a e
    | .dct o => !T && (match e with
      | .Dict ks vs _ => (match o, ks, vs with
        | none, [], [] => true
        | some (a, b), [some k], [v] => ckC (.str a) k && ckC (.str b) v
        | _, _, _ => false)
      | _ => false)
    | .ieq neg a b => (match e with
      | .Compare x ops ys _ => (match ys with
        | [y] => decide (ops = [eqOp neg]) && !isSet y && S.mths.contains ("__eq__", 2) && ckE n false S a x && ckE n false S b y
        | _ => false)
      | _ => false)
/-- what is walked -/
def ckI : Nat → Sx → MI → Expr → Expr → Bool
  | 0, _, _, _, _ => false
  | n + 1, S, m, t, e => match m with
    | .seq _ a => ckE n false S a e
    | .rng ms => (match e with
      | .Call fe es ks _ => (match fe with
        | .Name y _ => decide (y = "range") && ks.isEmpty && gloC S.sc y && S.blts.contains y && noStars es && all2 (ckE n false S) ms es && (decide (es.length = 1) || decide (es.length = 2) || decide (es.length = 3))
        | _ => false)
      | _ => false)
    | .enum _ a => (match e, t with
      | .Call fe es ks _, .Tuple _ _ _ => (match fe, es with
        | .Name y _, [x] => decide (y = "enumerate") && ks.isEmpty && gloC S.sc y && S.blts.contains y && !isStar x && ckE n false S a x
        | _, _ => false)
      | _, _ => false)
    | .zip ms => (match e, t with
      | .Call fe es ks _, .Tuple _ _ _ => (match fe with
        | .Name y _ => decide (y = "zip") && ks.isEmpty && gloC S.sc y && S.blts.contains y && noStars es && all2 (ckE n false S) ms es && decide (es.length = 2)
        | _ => false)
      | _, _ => false)
end
end
end Mq

/-! MqSnd: the check is sound. -/
namespace Mq
open PySem L2
section
variable {G : Gx} {L : Fns} {k : Nat} {S : Sx} {X : Cx} {W : WX}
theorem okN_ok {x : Str} (h : okN x = true) : (x == ("__debug__" : Str)) = false ∧ (x == ("__classdict__" : Str)) = false ∧ x ≠ "__name__" := by
  simp only [okN, Bool.and_eq_true, decide_eq_true_eq] at h
  exact ⟨by simpa using h.1.1, by simpa using h.1.2, h.2⟩
theorem gl_ok (C : Cxs G L k S X) {x : Str} (h : gloC S.sc x = true) : Gl X x := by
  show X.env.scope.names.lookup x = _
  rw [C.sc]; exact of_decide_eq_true h
theorem vis_ok {sc : Scope} {x : Str} (h : visC sc x = true) : Vis sc x := by
  unfold visC at h
  split at h
  · exact .inl ‹_›
  · exact .inr (.inl ‹_›)
  · exact .inr (.inr ‹_›)
  · cases h
theorem var_ok (C : Cxs G L k S X) {i : Nat} {x : Str} {pos : Pos} (h : varC S i x = true) : PE X (.Name x pos) (tE G W (ev L (.var i))) := by
  simp only [varC, Bool.and_eq_true, decide_eq_true_eq] at h
  obtain ⟨⟨h1, h2⟩, h3⟩ := h
  obtain ⟨n1, n2, _⟩ := okN_ok h3
  exact sv_var (by rw [C.N]; exact h1) (by rw [C.sc]; exact vis_ok h2) n1 n2
theorem sto_ok (C : Cxs G L k S X) {i : Nat} {x : Str} (h : stoC S i x = true) : X.N[i]? = some x ∧ Loc X.env.scope x ∧ (X.fn x = true ∨ X.env.scope.names.lookup x = some .local) := by
  simp only [stoC, Bool.and_eq_true, Bool.or_eq_true, decide_eq_true_eq] at h
  refine ⟨by rw [C.N]; exact h.1, ?_, ?_⟩
  · rw [C.sc]; exact h.2.imp id (·.2)
  · rw [C.sc]; exact h.2.elim .inr fun z => .inl (C.fn z.1 x)
theorem cst_ok {d : Dt} {e : Expr} (h : ckC d e = true) : PE X e (tE G W (ev L (.cst d))) ∧ plainT e = true := by
  unfold ckC at h
  split at h
  · split at h
    · rename_i i _ _ _ j
      have : i = j := by simpa using h
      subst this
      exact ⟨sv_cst pe_int fun _ _ => .int _, rfl⟩
    · cases h
  · split at h
    · rename_i i _ _ _ j
      have : i = j := by simpa using h
      subst this
      exact ⟨sv_cst pe_str fun _ _ => .str _, rfl⟩
    · cases h
  · split at h
    · rename_i i _ _ _ j
      have : i = j := by simpa using h
      subst this
      exact ⟨sv_cst pe_bl fun _ _ => .bl _, rfl⟩
    · cases h
  · split at h
    · exact ⟨sv_cst pe_non fun _ _ => .non, rfl⟩
    · cases h
  · cases h
theorem glo_ok (C : Cxs G L k S X) {x : Str} {pos : Pos} (h1 : gloC S.sc x = true) (h2 : okN x = true) (h3 : x ∈ S.glos) : PE X (.Name x pos) (tE G W (ev L (.glo x))) := by
  obtain ⟨u, v, d, e1, e2, e3, e4⟩ := C.glos x h3
  exact sv_glo (gl_ok C h1) e1 e2 e3 (okN_ok h2).1 e4
mutual
theorem tg_ok (C : Cxs G L k S X) : ∀ {t : Tg} {e : Expr}, ckTg S t e = true → PG X e (tgR G t)
  | .n i, e, h => by
    rw [ckTg.eq_def] at h
    dsimp only at h
    split at h
    · obtain ⟨h1, h2, h3⟩ := sto_ok C h
      exact sg_n C.nd h1 h2 h3
    · cases h
  | .t ts, e, h => by
    rw [ckTg.eq_def] at h
    dsimp only at h
    split at h
    · obtain ⟨h1, h2, h3, h4⟩ := tgs_ok C h
      exact sg_t C.K C.calm h1 h2 h3 h4
    · cases h
theorem tgs_ok (C : Cxs G L k S X) : ∀ {ts : List Tg} {es : List Expr}, ckTgs S ts es = true → PGs X es (tgRs G ts) ∧ ts.length = es.length ∧ (assignEach es X.env).length = es.length ∧ (assignEach es X.env).findIdx? (·.1) = none
  | [], es, h => by
    rw [ckTgs.eq_def] at h
    dsimp only at h
    cases es with
    | nil => exact ⟨sgs_nil, rfl, rfl, rfl⟩
    | cons e es => cases h
  | t :: ts, es, h => by
    rw [ckTgs.eq_def] at h
    dsimp only at h
    cases es with
    | nil => cases h
    | cons e es =>
      simp only [Bool.and_eq_true, Bool.not_eq_true'] at h
      obtain ⟨⟨h1, h2⟩, h3⟩ := h
      obtain ⟨q1, q2, q3, q4⟩ := tgs_ok C h3
      have ea : assignEach (e :: es) X.env = (false, assign e X.env) :: assignEach es X.env := by cases e <;> first | rfl | cases h1
      refine ⟨sgs_cons (tg_ok C h2) q1 (by rw [ea]; rfl), by simp [q2], by rw [ea]; simp [q3], ?_⟩
      rw [ea, List.findIdx?_cons, q4]; rfl
end
theorem one_as {tg : Expr} {env : Env} (h : isStar tg = false) : (assignEach [tg] env).map (·.2) = [assign tg env] := by cases tg <;> first | rfl | cases h
theorem pa_of {es : List Expr} : ∀ {ms : List ME} {p : ME → Expr → Bool}, (∀ m e, p m e = true → PE X e (tE G W (ev L m))) → noStars es = true → all2 p ms es = true → PA X es (tA G W (evs L ms)) ∧ ms.length = es.length := by
  induction es with
  | nil =>
    intro ms p hp hs h
    cases ms with
    | nil => exact ⟨sa_nil, rfl⟩
    | cons m ms => cases h
  | cons e es ih =>
    intro ms p hp hs h
    cases ms with
    | nil => cases h
    | cons m ms =>
      simp only [all2, Bool.and_eq_true] at h
      simp only [noStars, Bool.and_eq_true, Bool.not_eq_true'] at hs
      obtain ⟨a, b⟩ := ih hp hs.2 h.2
      exact ⟨sa_cons (star_cons hs.1) (hp m e h.1) a, by simp [b]⟩
theorem bool_e {o : Bool} {es : List Expr} {pos : Pos} : ∀ {ms : List ME} {p : ME → Expr → Bool}, (∀ m e, p m e = true → PE X e (tE G W (ev L m))) → es ≠ [] → all2 p ms es = true → PE X (.BoolOp (bop2 o) es pos) (tE G W (evB L o ms)) := by
  induction es with
  | nil => intro ms p hp hs h; exact absurd rfl hs
  | cons e es ih =>
    intro ms p hp hs h
    cases ms with
    | nil => cases h
    | cons m ms =>
      simp only [all2, Bool.and_eq_true] at h
      cases es with
      | nil =>
        cases ms with
        | nil => exact sv_bool1 (hp m e h.1)
        | cons _ _ => cases h.2
      | cons e2 es =>
        cases ms with
        | nil => cases h.2
        | cons m2 ms => exact sv_bool (hp m e h.1) (ih hp (by simp) h.2)
theorem bool_t {o : Bool} {es : List Expr} {pos : Pos} : ∀ {ms : List ME} {p : ME → Expr → Bool}, (∀ m e, p m e = true → PT X e (tT G W (tst (ev L m)))) → es ≠ [] → all2 p ms es = true → PW X (.BoolOp (bop2 o) es pos) (tT G W (tst (evB L o ms))) := by
  induction es with
  | nil => intro ms p hp hs h; exact absurd rfl hs
  | cons e es ih =>
    intro ms p hp hs h
    cases ms with
    | nil => cases h
    | cons m ms =>
      simp only [all2, Bool.and_eq_true] at h
      cases es with
      | nil =>
        cases ms with
        | nil => exact sw_bool1 (hp m e h.1)
        | cons _ _ => cases h.2
      | cons e2 es =>
        cases ms with
        | nil => cases h.2
        | cons m2 ms => exact sw_bool (hp m e h.1) (ih hp (by simp) h.2)
/-- by its value -/
theorem pt_of {e : Expr} {m : ME} (hp : plainT e = true) (h : PE X e (tE G W (ev L m))) : PT X e (tT G W (tst (ev L m))) :=
  (pt_val h (plainT_ok hp)).imp fun σ H Q h => tE_of_tT h
end
end Mq

/-! MqSnd2: expressions, the check is sound. -/
namespace Mq
open PySem L2
section
variable {G : Gx} {L : Fns} {k : Nat}
theorem ownP_snd {S : Sx} {own : List Nat} : (ownP S own).map (·.2) = own := by
  unfold ownP
  rw [List.map_map]
  exact List.map_id own
structure Snd (G : Gx) (L : Fns) (k n : Nat) : Prop where
  e : ∀ {S : Sx} {X : Cx} {W : WX} (C : Cxs G L k S X) (tk : Takes X W) (m : ME) (e : Expr), ckE n false S m e = true → PE X e (tE G W (ev L m))
  t : ∀ {S : Sx} {X : Cx} {W : WX} (C : Cxs G L k S X) (tk : Takes X W) (m : ME) (e : Expr), ckE n true S m e = true → PT X e (tT G W (tst (ev L m)))
  i : ∀ {S : Sx} {X : Cx} {W : WX} (C : Cxs G L k S X) (tk : Takes X W) (m : MI) (t e : Expr), ckI n S m t e = true → PI X t e (tI G W (evI L m))
section
variable {n : Nat} {S : Sx} {X : Cx} {W : WX}
theorem po_of {p : ME → Expr → Bool} (hp : ∀ m e, p m e = true → PE X e (tE G W (ev L m))) {m : Option ME} {e : Option Expr} (h : ckO p m e = true) : PO X e (tOi G W (evO L m)) := by
  unfold ckO at h
  split at h
  · exact so_none
  · exact so_some (hp _ _ h)
  · cases h
/-- what is told by the value alone -/
theorem snd_v (I : Snd G L k n) (C : Cxs G L k S X) (tk : Takes X W) (T : Bool) : ∀ (m : ME) (e : Expr), ckE (n + 1) T S m e = true → (match m with | .bool _ _ => False | .not _ => False | .cmp _ _ _ => False | .cmp2 _ _ _ _ _ => False | .ieq _ _ _ => False | _ => True) → PE X e (tE G W (ev L m)) ∧ (T = true → plainT e = true)
  | .bool _ _, _, _, z => z.elim
  | .not _, _, _, z => z.elim
  | .cmp _ _ _, _, _, z => z.elim
  | .cmp2 _ _ _ _ _, _, _, z => z.elim
  | .ieq _ _ _, _, _, z => z.elim
  | .var i, e, h, _ => by
    rw [ckE.eq_def] at h; dsimp only at h
    split at h
    · exact ⟨var_ok C h, fun _ => rfl⟩
    · cases h
  | .cst d, e, h, _ => by
    rw [ckE.eq_def] at h; dsimp only at h
    obtain ⟨a, b⟩ := cst_ok (X := X) (G := G) (W := W) (L := L) h
    exact ⟨a, fun _ => b⟩
  | .glo x, e, h, _ => by
    rw [ckE.eq_def] at h; dsimp only at h
    split at h
    · simp only [Bool.and_eq_true, decide_eq_true_eq, List.contains_iff_mem] at h
      obtain ⟨⟨⟨rfl, h1⟩, h2⟩, h3⟩ := h
      exact ⟨glo_ok C h1 h2 h3, fun _ => rfl⟩
    · cases h
  | .bin op a b, e, h, _ => by
    rw [ckE.eq_def] at h; dsimp only at h
    simp only [Bool.and_eq_true, Bool.not_eq_true'] at h
    obtain ⟨hT, h⟩ := h
    split at h
    · simp only [Bool.and_eq_true, decide_eq_true_eq] at h
      obtain ⟨⟨rfl, h1⟩, h2⟩ := h
      exact ⟨sv_bin C.K (I.e C tk _ _ h1) (I.e C tk _ _ h2), fun z => by rw [hT] at z; cases z⟩
    · cases h
  | .neg a, e, h, _ => by
    rw [ckE.eq_def] at h; dsimp only at h
    simp only [Bool.and_eq_true, Bool.not_eq_true'] at h
    obtain ⟨hT, h⟩ := h
    split at h
    · simp only [Bool.and_eq_true, decide_eq_true_eq] at h
      obtain ⟨rfl, h1⟩ := h
      exact ⟨sv_neg (I.e C tk _ _ h1), fun z => by rw [hT] at z; cases z⟩
    · cases h
  | .ite c a b, e, h, _ => by
    rw [ckE.eq_def] at h; dsimp only at h
    simp only [Bool.and_eq_true, Bool.not_eq_true'] at h
    obtain ⟨hT, h⟩ := h
    split at h
    · simp only [Bool.and_eq_true] at h
      exact ⟨sv_ite (I.t C tk _ _ h.1.1) (I.e C tk _ _ h.1.2) (I.e C tk _ _ h.2), fun z => by rw [hT] at z; cases z⟩
    · cases h
  | .tup ms, e, h, _ => by
    rw [ckE.eq_def] at h; dsimp only at h
    simp only [Bool.and_eq_true, Bool.not_eq_true'] at h
    obtain ⟨hT, h⟩ := h
    split at h
    · simp only [Bool.and_eq_true] at h
      exact ⟨sv_tup (pa_of (I.e C tk) h.1 h.2).1, fun z => by rw [hT] at z; cases z⟩
    · cases h
  | .lst ms, e, h, _ => by
    rw [ckE.eq_def] at h; dsimp only at h
    simp only [Bool.and_eq_true, Bool.not_eq_true'] at h
    obtain ⟨hT, h⟩ := h
    split at h
    · simp only [Bool.and_eq_true] at h
      exact ⟨sv_lst (pa_of (I.e C tk) h.1 h.2).1, fun z => by rw [hT] at z; cases z⟩
    · cases h
  | .idx a b, e, h, _ => by
    rw [ckE.eq_def] at h; dsimp only at h
    split at h
    · simp only [Bool.and_eq_true, Bool.not_eq_true'] at h
      exact ⟨sv_idx C.K (plain_ix h.1.1) (I.e C tk _ _ h.1.2) (I.e C tk _ _ h.2), fun _ => rfl⟩
    · cases h
  | .slc a lo hi, e, h, _ => by
    rw [ckE.eq_def] at h; dsimp only at h
    simp only [Bool.and_eq_true, Bool.not_eq_true'] at h
    obtain ⟨hT, h⟩ := h
    split at h
    · split at h
      · simp only [Bool.and_eq_true, Option.isNone_iff_eq_none] at h
        obtain ⟨⟨⟨rfl, h1⟩, h2⟩, h3⟩ := h
        exact ⟨sv_slc C.K (I.e C tk _ _ h1) (po_of (I.e C tk) h2) (po_of (I.e C tk) h3), fun z => by rw [hT] at z; cases z⟩
      · cases h
    · cases h
  | .rev a, e, h, _ => by
    rw [ckE.eq_def] at h; dsimp only at h
    simp only [Bool.and_eq_true, Bool.not_eq_true'] at h
    obtain ⟨hT, h⟩ := h
    split at h
    · split at h
      · simp only [Bool.and_eq_true, decide_eq_true_eq] at h
        obtain ⟨⟨rfl, rfl⟩, h1⟩ := h
        exact ⟨sv_rev C.K (I.e C tk _ _ h1), fun z => by rw [hT] at z; cases z⟩
      · cases h
    · cases h
  | .fld a f, e, h, _ => by
    rw [ckE.eq_def] at h; dsimp only at h
    split at h
    · simp only [Bool.and_eq_true, decide_eq_true_eq, List.contains_iff_mem] at h
      obtain ⟨⟨⟨rfl, h1⟩, h2⟩, h3⟩ := h
      exact ⟨sv_fld C.K C.cls (C.flds _ h1) (base_ok h2) (I.e C tk _ _ h3), fun _ => rfl⟩
    · cases h
  | .call x ms, e, h, _ => by
    rw [ckE.eq_def] at h; dsimp only at h
    split at h
    · split at h
      · simp only [Bool.and_eq_true, decide_eq_true_eq, List.contains_iff_mem, List.isEmpty_iff] at h
        obtain ⟨⟨⟨⟨⟨⟨rfl, rfl⟩, h1⟩, h2⟩, h3⟩, h4⟩, h5⟩ := h
        refine ⟨?_, fun _ => rfl⟩
        obtain ⟨pa, hl⟩ := pa_of (I.e C tk) h4 h5
        rename_i es _ _ _
        cases es with
        | nil =>
          cases ms with
          | nil => exact sv_call0 (C.room.mono (Nat.le_succ _)) tk (C.defs _ _ h3) (gl_ok C h1) (okN_ok h2).1
          | cons _ _ => cases hl
        | cons e es =>
          simp only [noStars, Bool.and_eq_true, Bool.not_eq_true'] at h4
          exact sv_call (C.room.mono (Nat.le_succ _)) tk (C.defs _ _ h3) (by simpa using hl) (gl_ok C h1) pa (okN_ok h2).1 (star_cons h4.1) (stars_no h4.2).1
      · cases h
    · cases h
  | .make x ms, e, h, _ => by
    rw [ckE.eq_def] at h; dsimp only at h
    simp only [Bool.and_eq_true, Bool.not_eq_true'] at h
    obtain ⟨hT, h⟩ := h
    split at h
    · split at h
      · simp only [Bool.and_eq_true, decide_eq_true_eq, List.contains_iff_mem, List.isEmpty_iff] at h
        obtain ⟨⟨⟨⟨⟨⟨rfl, rfl⟩, h1⟩, h2⟩, h3⟩, h4⟩, h5⟩ := h
        refine ⟨?_, fun _ => rfl⟩
        obtain ⟨pa, hl⟩ := pa_of (I.e C tk) h4 h5
        rename_i es _ _ _
        cases es with
        | nil =>
          cases ms with
          | nil => exact sv_make0 C.room tk (C.mks _ _ h3) (gl_ok C h1) (okN_ok h2).1
          | cons _ _ => cases hl
        | cons e es =>
          simp only [noStars, Bool.and_eq_true, Bool.not_eq_true'] at h4
          exact sv_make C.room tk (C.mks _ _ h3) (by simpa using hl) (gl_ok C h1) pa (okN_ok h2).1 (star_cons h4.1) (stars_no h4.2).1
      · cases h
    · cases h
  | .bif x ms, e, h, _ => by
    rw [ckE.eq_def] at h; dsimp only at h
    split at h
    · split at h
      · simp only [Bool.and_eq_true, decide_eq_true_eq, List.contains_iff_mem, List.isEmpty_iff] at h
        obtain ⟨⟨⟨⟨⟨⟨⟨rfl, rfl⟩, h1⟩, h2⟩, h3⟩, h4⟩, h5⟩, h6⟩ := h
        refine ⟨?_, fun _ => rfl⟩
        split at h6
        · rename_i x _
          cases ms with
          | nil => cases h5
          | cons m ms =>
            simp only [all2, Bool.and_eq_true] at h5
            cases ms with
            | cons _ _ => cases h5.2
            | nil =>
              simp only [noStars, Bool.and_eq_true, Bool.not_eq_true'] at h4
              exact sv_bif1 (bf_all C.K C.calm _ (by simpa using h6)) (gl_ok C h1) (C.blts _ h3) (okN_ok h2).2.2 (okN_ok h2).1 (star_cons h4.1) (I.e C tk _ _ h5.1)
        · cases ms with
          | nil => cases h5
          | cons m ms =>
            simp only [all2, Bool.and_eq_true] at h5
            cases ms with
            | nil => cases h5.2
            | cons m2 ms =>
              simp only [all2, Bool.and_eq_true] at h5
              cases ms with
              | cons _ _ => cases h5.2.2
              | nil =>
                simp only [noStars, Bool.and_eq_true, Bool.not_eq_true'] at h4
                exact sv_bif2 (by simpa using h6) C.calm (gl_ok C h1) (C.blts _ h3) (star_cons h4.1) (star_cons h4.2.1) (I.e C tk _ _ h5.1) (I.e C tk _ _ h5.2.1)
        · cases h6
      · cases h
    · cases h
  | .meth a m ms, e, h, _ => by
    rw [ckE.eq_def] at h; dsimp only at h
    split at h
    · split at h
      · simp only [Bool.and_eq_true, decide_eq_true_eq, List.contains_iff_mem, List.isEmpty_iff] at h
        obtain ⟨⟨⟨⟨⟨⟨⟨⟨rfl, rfl⟩, h1⟩, h2⟩, h3⟩, h4⟩, h5⟩, h6⟩, h7⟩ := h
        refine ⟨?_, fun _ => rfl⟩
        obtain ⟨pa, hl⟩ := pa_of (I.e C tk) h5 h7
        rename_i es _ _ _ _
        cases es with
        | nil =>
          cases ms with
          | nil => exact sv_meth0 C.K (C.room.mono (Nat.le_succ _)) tk (C.mths _ _ h4) (I.e C tk _ _ h6) (base_ok h1) h2
          | cons _ _ => cases hl
        | cons e es =>
          have h5' := h5
          simp only [noStars, Bool.and_eq_true, Bool.not_eq_true'] at h5'
          refine sv_meth C.K (C.room.mono (Nat.le_succ _)) tk (C.mths _ _ h4) (by simpa using hl) (I.e C tk _ _ h6) pa (base_ok h1) h2 ?_ (star_cons h5'.1) (stars_no h5'.2).1
          unfold methodCallForm
          rw [(stars_no h5).2]
          simpa using h3
      · cases h
    · cases h
  | .bme a m ms, e, h, _ => by
    rw [ckE.eq_def] at h; dsimp only at h
    simp only [Bool.and_eq_true, Bool.not_eq_true'] at h
    obtain ⟨hT, h⟩ := h
    split at h
    · split at h
      · simp only [Bool.and_eq_true, decide_eq_true_eq, List.isEmpty_iff] at h
        obtain ⟨⟨⟨⟨⟨⟨⟨rfl, rfl⟩, h1⟩, h2⟩, h3⟩, h4⟩, h5⟩, h6⟩ := h
        refine ⟨?_, fun _ => rfl⟩
        split at h6
        · cases ms with
          | cons _ _ => cases h5
          | nil =>
            obtain rfl := of_decide_eq_true h6
            exact sv_pop0 C.K (base_ok h1) h2 (I.e C tk _ _ h4)
        · cases ms with
          | nil => cases h5
          | cons m1 ms =>
            simp only [all2, Bool.and_eq_true] at h5
            cases ms with
            | cons _ _ => cases h5.2
            | nil =>
              have h3' := h3
              simp only [noStars, Bool.and_eq_true, Bool.not_eq_true'] at h3'
              refine sv_bme (by simpa [or_assoc] using h6) C.K (base_ok h1) h2 ?_ (star_cons h3'.1) (I.e C tk _ _ h4) (I.e C tk _ _ h5.1)
              rw [(stars_no h3).2]
              rfl
        · cases h6
      · cases h
    · cases h
  | .dct o, e, h, _ => by
    rw [ckE.eq_def] at h; dsimp only at h
    simp only [Bool.and_eq_true, Bool.not_eq_true'] at h
    obtain ⟨hT, h⟩ := h
    have str : ∀ {x : Str} {y : Expr}, ckC (.str x) y = true → PE X y (tC (.str x)) := fun {x y} h => by
      unfold ckC at h
      split at h
      · cases h
      · rename_i z _ _
        have : z = x := by simpa using h
        subst this
        exact pe_str
      · cases h
      · cases h
      · cases h
    refine ⟨?_, fun z => by rw [hT] at z; cases z⟩
    split at h
    · split at h
      · exact sv_dct0
      · simp only [Bool.and_eq_true] at h
        exact sv_dct1 (str h.1) (str h.2)
      · cases h
    · cases h
  | .isi a t, e, h, _ => by
    rw [ckE.eq_def] at h; dsimp only at h
    split at h
    · split at h
      · simp only [Bool.and_eq_true, decide_eq_true_eq, List.contains_iff_mem, List.isEmpty_iff, Bool.not_eq_true'] at h
        obtain ⟨⟨⟨⟨⟨⟨⟨⟨⟨rfl, rfl⟩, h1⟩, h2⟩, rfl⟩, h3⟩, h4⟩, h5⟩, h6⟩, h7⟩ := h
        exact ⟨sv_isi C.K C.ins (C.tys _ h5) (gl_ok C h1) (C.blts _ h2) (gl_ok C h3) (okN_ok h4).2.2 (okN_ok h4).1 (star_cons h6) (I.e C tk _ _ h7), fun _ => rfl⟩
      · cases h
    · cases h
  | .lc el tg src cond own, e, h, _ => by
    rw [ckE.eq_def] at h; dsimp only at h
    simp only [Bool.and_eq_true, Bool.not_eq_true'] at h
    obtain ⟨hT, h⟩ := h
    split at h
    · split at h
      · simp only [Bool.and_eq_true, decide_eq_true_eq, Bool.not_eq_true'] at h
        obtain ⟨⟨⟨⟨⟨⟨⟨rfl, h1⟩, h2⟩, h3⟩, h4⟩, h5⟩, h6⟩, h7⟩ := h
        refine ⟨?_, fun z => by rw [hT] at z; cases z⟩
        rw [← ownP_snd (S := S) (own := own)]
        refine sv_lc C.calm C.nd (I.i C tk _ _ _ h5) (by rw [C.N, C.sc]; exact blkOk_by h2)
          (by rw [ownP_snd]; exact fun i hi => by have := List.all_eq_true.mp h3 i hi; simpa using this)
          (fun _ _ _ _ _ => tg_ok C.blk h4) (fun _ _ _ _ _ => ?_) (fun _ _ _ _ _ => I.e C.blk takes0 _ _ h6) (folded_no h1)
        split at h7
        · exact sts_nil
        · exact sts_one (I.t C.blk takes0 _ _ h7)
        · cases h7
      · cases h
    · cases h
  | .alloc a, e, h, _ => by
    rw [ckE.eq_def] at h; dsimp only at h
    simp only [Bool.and_eq_true, Bool.not_eq_true'] at h
    exact ⟨sv_alloc (I.e C tk _ _ h.2), fun z => by rw [h.1] at z; cases z⟩
theorem snd_succ (I : Snd G L k n) : Snd G L k (n + 1) where
  e := fun {S X W} C tk m e h => by
    cases m with
    | bool o ms =>
      rw [ckE.eq_def] at h; dsimp only at h
      split at h
      · simp only [Bool.and_eq_true, decide_eq_true_eq, Bool.not_eq_true', List.isEmpty_eq_false_iff] at h
        obtain ⟨⟨rfl, h1⟩, h2⟩ := h
        rw [ev_bool]
        exact bool_e (I.e C tk) h1 h2
      · cases h
    | not a =>
      rw [ckE.eq_def] at h; dsimp only at h
      split at h
      · simp only [Bool.and_eq_true, decide_eq_true_eq] at h
        obtain ⟨rfl, h1⟩ := h
        exact sv_not (I.e C tk _ _ h1)
      · cases h
    | cmp op a b =>
      rw [ckE.eq_def] at h; dsimp only at h
      split at h
      · split at h
        · simp only [Bool.and_eq_true, decide_eq_true_eq, Bool.not_eq_true'] at h
          obtain ⟨⟨⟨rfl, h1⟩, h2⟩, h3⟩ := h
          exact sv_cmp C.K C.room.units (marks_no h1) (I.e C tk _ _ h2) (I.e C tk _ _ h3)
        · cases h
      · cases h
    | cmp2 o1 o2 a b c =>
      rw [ckE.eq_def] at h; dsimp only at h
      split at h
      · split at h
        · simp only [Bool.and_eq_true, decide_eq_true_eq, Bool.not_eq_true'] at h
          obtain ⟨⟨⟨⟨rfl, h1⟩, h2⟩, h3⟩, h4⟩ := h
          exact sv_cmp2 C.K C.room.units (marks_no h1) (I.e C tk _ _ h2) (I.e C tk _ _ h3) (I.e C tk _ _ h4)
        · cases h
      · cases h
    | ieq neg a b =>
      rw [ckE.eq_def] at h; dsimp only at h
      split at h
      · split at h
        · simp only [Bool.and_eq_true, decide_eq_true_eq, Bool.not_eq_true', List.contains_iff_mem] at h
          obtain ⟨⟨⟨⟨rfl, h1⟩, h0⟩, h2⟩, h3⟩ := h
          exact sv_ieq C.K C.room C.room.units C.eqc (C.mths _ _ h0) (marks_no h1) (I.e C tk _ _ h2) (I.e C tk _ _ h3)
        · cases h
      · cases h
    | _ => exact (snd_v I C tk false _ e h trivial).1
  t := fun {S X W} C tk m e h => by
    cases m with
    | bool o ms =>
      rw [ckE.eq_def] at h; dsimp only at h
      split at h
      · simp only [Bool.and_eq_true, decide_eq_true_eq, Bool.not_eq_true', List.isEmpty_eq_false_iff] at h
        obtain ⟨⟨rfl, h1⟩, h2⟩ := h
        rw [ev_bool]
        exact (bool_t (I.t C tk) h1 h2).pt
      · cases h
    | not a =>
      rw [ckE.eq_def] at h; dsimp only at h
      split at h
      · simp only [Bool.and_eq_true, decide_eq_true_eq] at h
        obtain ⟨rfl, h1⟩ := h
        exact st_not (I.t C tk _ _ h1)
      · cases h
    | cmp op a b =>
      rw [ckE.eq_def] at h; dsimp only at h
      split at h
      · split at h
        · simp only [Bool.and_eq_true, decide_eq_true_eq, Bool.not_eq_true'] at h
          obtain ⟨⟨⟨rfl, h1⟩, h2⟩, h3⟩ := h
          exact st_cmp C.K C.room.units (marks_no h1) (I.e C tk _ _ h2) (I.e C tk _ _ h3)
        · cases h
      · cases h
    | cmp2 o1 o2 a b c =>
      rw [ckE.eq_def] at h; dsimp only at h
      split at h
      · split at h
        · simp only [Bool.and_eq_true, decide_eq_true_eq, Bool.not_eq_true'] at h
          obtain ⟨⟨⟨⟨rfl, h1⟩, h2⟩, h3⟩, h4⟩ := h
          exact st_cmp2 C.K C.room.units (marks_no h1) (I.e C tk _ _ h2) (I.e C tk _ _ h3) (I.e C tk _ _ h4)
        · cases h
      · cases h
    | ieq neg a b =>
      rw [ckE.eq_def] at h; dsimp only at h
      split at h
      · split at h
        · simp only [Bool.and_eq_true, decide_eq_true_eq, Bool.not_eq_true', List.contains_iff_mem] at h
          obtain ⟨⟨⟨⟨rfl, h1⟩, h0⟩, h2⟩, h3⟩ := h
          exact st_ieq C.K C.room C.room.units C.eqc (C.mths _ _ h0) (marks_no h1) (I.e C tk _ _ h2) (I.e C tk _ _ h3)
        · cases h
      · cases h
    | _ =>
      obtain ⟨a, b⟩ := snd_v I C tk true _ e h trivial
      exact pt_of (b rfl) a
  i := fun {S X W} C tk m t e h => by
    cases m with
    | seq fz a =>
      rw [ckI.eq_def] at h; dsimp only at h
      exact si_seq C.K (I.e C tk _ _ h)
    | rng ms =>
      rw [ckI.eq_def] at h; dsimp only at h
      split at h
      · split at h
        · simp only [Bool.and_eq_true, Bool.or_eq_true, decide_eq_true_eq, List.contains_iff_mem, List.isEmpty_iff] at h
          obtain ⟨⟨⟨⟨⟨⟨rfl, rfl⟩, h1⟩, h2⟩, h3⟩, h4⟩, h5⟩ := h
          obtain ⟨pa, hl⟩ := pa_of (I.e C tk) h3 h4
          rename_i es _ _ _
          match es, ms, h3, h5, hl, pa with
          | [a], [m], h3, _, _, pa =>
            simp only [noStars, Bool.and_eq_true, Bool.not_eq_true'] at h3
            exact si_rng1 (gl_ok C h1) (C.blts _ h2) (star_cons h3.1) pa
          | [a, b], [m, m2], h3, _, _, pa =>
            simp only [noStars, Bool.and_eq_true, Bool.not_eq_true'] at h3
            exact si_rng2 (gl_ok C h1) (C.blts _ h2) (by rw [star_cons h3.1, star_cons h3.2.1]; rfl) (star_cons h3.2.1) pa
          | [a, b, c], [m, m2, m3], h3, _, _, pa =>
            have h3' := h3
            simp only [noStars, Bool.and_eq_true, Bool.not_eq_true'] at h3
            exact si_rng3 (gl_ok C h1) (C.blts _ h2) (star_cons h3.1) (stars_no (by simp [noStars, h3.2.1, h3.2.2.1])).1 pa
        · cases h
      · cases h
    | enum fz a =>
      rw [ckI.eq_def] at h; dsimp only at h
      split at h
      · split at h
        · simp only [Bool.and_eq_true, decide_eq_true_eq, List.contains_iff_mem, List.isEmpty_iff, Bool.not_eq_true'] at h
          obtain ⟨⟨⟨⟨⟨rfl, rfl⟩, h1⟩, h2⟩, h3⟩, h4⟩ := h
          exact si_enum C.K (gl_ok C h1) (C.blts _ h2) (star_cons h3) (I.e C tk _ _ h4)
        · cases h
      · cases h
    | zip ms =>
      rw [ckI.eq_def] at h; dsimp only at h
      split at h
      · split at h
        · simp only [Bool.and_eq_true, decide_eq_true_eq, List.contains_iff_mem, List.isEmpty_iff] at h
          obtain ⟨⟨⟨⟨⟨⟨rfl, rfl⟩, h1⟩, h2⟩, h3⟩, h4⟩, h5⟩ := h
          obtain ⟨pa, hl⟩ := pa_of (I.e C tk) h3 h4
          rename_i es _ _ _ _ _ _
          match es, ms, h3, h5, hl, pa with
          | [a, b], [m, m2], h3, _, _, pa =>
            have h3' := h3
            simp only [noStars, Bool.and_eq_true, Bool.not_eq_true'] at h3
            exact si_zip C.K (gl_ok C h1) (C.blts _ h2) pa (star_cons h3.1) (stars_no (by simp [noStars, h3.2.1])).1
        · cases h
      · cases h
theorem snd_all : ∀ n, Snd G L k n
  | 0 => ⟨fun _ _ _ _ h => (by rw [ckE.eq_def] at h; cases h), fun _ _ _ _ h => (by rw [ckE.eq_def] at h; cases h), fun _ _ _ _ _ h => (by rw [ckI.eq_def] at h; cases h)⟩
  | n + 1 => snd_succ (snd_all n)
end
end
end Mq

/-! MqSnd3: statements, the check is sound. -/
namespace Mq
open PySem L2
def isTup : Expr → Bool
  | .Tuple _ _ _ => true
  | _ => false
def isName : Expr → Bool
  | .Name _ _ => true
  | _ => false
theorem swapped_no {tg e : Expr} {env : Env} (h : isTup e = false) : swappedStores [tg] e env = pure none := by
  cases e <;> first | (cases tg <;> rfl) | cases h
def isLst : Expr → Bool
  | .List _ _ => true
  | _ => false
theorem swapped_tg {tg e : Expr} {env : Env} (h : isTup tg = false) (h2 : isLst tg = false) : swappedStores [tg] e env = pure none := by
  cases tg <;> first | (cases e <;> rfl) | (cases h; done) | (cases h2; done)
def foldT (vs : List Expr) : Bool := vs.all (foldedForSure 8)
/-- the two names are stored at once -/
def parC (sc : Scope) (x y : Str) (px py : Pos) (a b : Expr) : Bool :=
  decide (sc.kind = .function) && decide (sc.names.lookup x = some .local) && decide (sc.names.lookup y = some .local) && (py.line == px.line) && decide (x ≠ y) && !isStar a && !isStar b && !([a, b].all (foldedForSure 8)) && !([a, b].all (constantsAlone 8))
theorem par_sw {sc : Scope} {x y : Str} {px py pt pt2 : Pos} {a b : Expr} {kt k2 : Nat} {env : Env} (hs : env.scope = sc) (h : parC sc x y px py a b = true) :
    swappedStores [.Tuple [.Name x px, .Name y py] kt pt] (.Tuple [a, b] k2 pt2) env = pure (some [x, y]) := by
  simp only [parC, Bool.and_eq_true, decide_eq_true_eq, Bool.not_eq_true'] at h
  obtain ⟨⟨⟨⟨⟨⟨⟨⟨h1, h2⟩, h3⟩, h4⟩, h5⟩, h6⟩, h7⟩, h8⟩, h9⟩ := h
  have hb : env.blockKind = .function := by unfold Env.blockKind; rw [hs, h1]; rfl
  have kx : env.kindOf x = some .local := by show env.scope.names.lookup x = _; rw [hs]; exact h2
  have ky : env.kindOf y = some .local := by show env.scope.names.lookup y = _; rw [hs]; exact h3
  have st : ([a, b].any fun | .Starred .. => true | _ => false) = false := by
    cases a <;> first | (cases h6; done) | (cases b <;> first | rfl | (cases h7; done))
  have nd : ([x, y].eraseDups.length != 2) = false := by
    have e : (y == x) = false := by simpa using Ne.symm h5
    simp [List.eraseDups_cons, e]
  unfold swappedStores
  have e1 : ([Expr.Name x px, Expr.Name y py].filterMap fun
    | .Name id pos => if env.kindOf id == some .local && pos.line == px.line then some id else none
    | _ => none) = [x, y] := by
    have h4' : py.line = px.line := by simpa using h4
    simp [List.filterMap_cons, kx, ky, h4']
  have h4' : py.line = px.line := by simpa using h4
  have e : (y == x) = false := by simpa using Ne.symm h5
  simp only [hb, h8, h9]
  refine (if_neg ?g1).trans ((if_neg ?g2).trans ((if_neg ?g3).trans ((if_neg Bool.false_ne_true).trans ((if_neg Bool.false_ne_true).trans ?g6))))
  case g1 => simp
  case g2 => exact fun h => Bool.false_ne_true (st.symm.trans h)
  case g3 => simp [List.filterMap_cons, kx, ky, h4', Expr.pos, List.eraseDups_cons, e]
  case g6 => simp [List.filterMap_cons, kx, ky, h4', Expr.pos]
mutual
def ckS : Nat → Sx → MS → Stmt → Bool
  | 0, _, _, _ => false
  | n + 1, S, m, st => match m with
    | .nev => true
    | .pass => (match st with
      | .Pass _ => true
      | .Expr (.Constant (.str _) _ _) _ => true
      | _ => false)
    | .brk => (match st with | .Break _ => true | _ => false)
    | .cont => (match st with | .Continue _ => true | _ => false)
    | .retN => (match st with | .Return none _ => true | _ => false)
    | .ret e => (match st with | .Return (some x) _ => ckE n false S e x | _ => false)
    | .expr e => (match st with | .Expr x _ => !isComp x && ckE n false S e x | _ => false)
    | .asg i e => (match st with
      | .Assign [.Name x px] v pos => stoC S i x && ckE n false S e v &&
          ((!isComp v || decide (S.sc.names.lookup x = some .cell)) || (match v with
            | .ListComp _ _ scope vp => decide (S.sc.kind = .function) && decide (S.sc.names.lookup x = some .local) && (px.line == vp.line) && !(scope.names.any fun (n, k) => n == x && (k == .local || k == .cell)) && (match e with | .lc _ _ _ _ _ => true | _ => false)
            | _ => false))
      | _ => false)
    | .par i j a b => (match st with
      | .Assign [.Tuple [.Name x px, .Name y py] _ _] (.Tuple [u, v] _ _) _ => decide (i ≠ j) && stoC S i x && stoC S j y && parC S.sc x y px py u v && ckE n false S a u && ckE n false S b v
      | _ => false)
    | .unp t e => (match st with
      | .Assign [tg] v _ => isTup tg && !isComp v && !isTup v && ckTg S t tg && ckE n false S e v
      | _ => false)
    | .seti a b e => (match st with
      | .Assign [.Subscript o i _] v _ => !isSlice i && !isComp v && ckE n false S a o && ckE n false S b i && ckE n false S e v
      | _ => false)
    | .setf a f e => (match st with
      | .Assign [.Attribute o g _] v _ => decide (f = g) && S.flds.contains f && !isComp v && ckE n false S a o && ckE n false S e v
      | _ => false)
    | .aug i op e => (match st with
      | .AugAssign (.Name x _) o v _ => decide (o = aop op) && (decide (op = .add) || decide (op = .sub)) && stoC S i x && ckE n false S e v
      | _ => false)
    | .augi a b op e => (match st with
      | .AugAssign (.Subscript o i _) p v _ => decide (p = aop op) && (decide (op = .add) || decide (op = .sub)) && !isSlice i && ckE n false S a o && ckE n false S b i && ckE n false S e v
      | _ => false)
    | .augf a f op e => (match st with
      | .AugAssign (.Attribute o g _) p v _ => decide (f = g) && S.flds.contains f && decide (p = aop op) && (decide (op = .add) || decide (op = .sub)) && ckE n false S a o && ckE n false S e v
      | _ => false)
    | .ifs c a b => (match st with
      | .If x u v _ => ckE n true S c x && ckSs n S a u && ckSs n S b v
      | _ => false)
    | .whl _ c b => (match st with
      | .While x u [] _ => ckE n true S c x && ckSs n S b u
      | _ => false)
    | .forr t src b => (match st with
      | .For tg it u [] _ => !isSet it && ckTg S t tg && ckI n S src tg it && ckSs n S b u
      | _ => false)
def ckSs : Nat → Sx → List MS → List Stmt → Bool
  | 0, _, _, _ => false
  | n + 1, S, ms, sts => match ms, sts with
    | [], [] => true
    | m :: ms, st :: sts => ckS n S m st && ckSs n S ms sts
    | _, _ => false
end
section
variable {G : Gx} {L : Fns} {k n : Nat} {S : Sx} {X : Cx} {W : WX}
theorem swaps_cell {e : Expr} {x : Str} {p : Pos} {n : Nat} {env : Env} (h : env.scope.names.lookup x = some .cell) : swapsWith e (some (.Name x p)) n env = pure false := by
  have k : (env.kindOf x == some .local) = false := by
    have : env.kindOf x = some .cell := h
    rw [this]; rfl
  cases e <;> first | rfl | (unfold swapsWith; simp only [k, Bool.and_false, Bool.false_and])
theorem swaps_one {tg e : Expr} {n : Nat} {env : Env} (h : isComp e = false) : swapsWithSole [tg] e n env = pure false := by
  show swapsWith e (some tg) n env = pure false
  exact swaps_no h
theorem addsub {op : Bop} (h : op = .add ∨ op = .sub) : op = .add ∨ op = .sub := h
theorem snd_s (I : ∀ n, Snd G L k n) (C : Cxs G L k S X) (tk : Takes X W) (hp : PassesOwn (model X.prog X.w) X.A X.env X.xe)
    (J : ∀ ms sts, ckSs n S ms sts = true → PSs X sts (tS G W (execs L ms))) : ∀ m st, ckS (n + 1) S m st = true → PS X st (tS G W (exec L m))
  | .nev, st, h => ss_nev
  | .pass, st, h => by
    rw [ckS.eq_def] at h; dsimp only at h
    split at h
    · exact ss_pass
    · exact ss_doc
    · cases h
  | .brk, st, h => by
    rw [ckS.eq_def] at h; dsimp only at h
    split at h
    · exact ss_brk
    · cases h
  | .cont, st, h => by
    rw [ckS.eq_def] at h; dsimp only at h
    split at h
    · exact ss_cont
    · cases h
  | .retN, st, h => by
    rw [ckS.eq_def] at h; dsimp only at h
    split at h
    · exact ss_retN
    · cases h
  | .ret e, st, h => by
    rw [ckS.eq_def] at h; dsimp only at h
    split at h
    · exact ss_ret ((I n).e C tk _ _ h)
    · cases h
  | .expr e, st, h => by
    rw [ckS.eq_def] at h; dsimp only at h
    split at h
    · simp only [Bool.and_eq_true, Bool.not_eq_true'] at h
      exact ss_expr (swaps_no h.1) ((I n).e C tk _ _ h.2)
    · cases h
  | .asg i e, st, h => by
    rw [ckS.eq_def] at h; dsimp only at h
    split at h
    · simp only [Bool.and_eq_true, Bool.or_eq_true, Bool.not_eq_true'] at h
      obtain ⟨⟨h1, h2⟩, h3⟩ := h
      obtain ⟨a1, a2, a3⟩ := sto_ok C h1
      rcases h3 with h3 | h3
      · exact ss_asg C.nd a1 a2 a3 (h3.elim swaps_no fun z => swaps_cell (by rw [C.sc]; exact of_decide_eq_true z)) ((I n).e C tk _ _ h2)
      · split at h3
        · simp only [Bool.and_eq_true, Bool.not_eq_true', decide_eq_true_eq] at h3
          obtain ⟨⟨⟨⟨b1, b2⟩, b3⟩, b4⟩, b5⟩ := h3
          split at b5
          · rename_i el tg src cond own
            cases n with
            | zero => rw [ckE.eq_def] at h2; cases h2
            | succ n =>
              rw [ckE.eq_def] at h2; dsimp only at h2
              split at h2
              · simp only [Bool.and_eq_true, decide_eq_true_eq, Bool.not_eq_true'] at h2
                obtain ⟨_, ⟨⟨⟨⟨⟨⟨rfl, h1⟩, h2⟩, h3⟩, h4⟩, h5⟩, h6⟩, h7⟩ := h2
                rw [← ownP_snd (S := S) (own := own)]
                refine ss_asgLc C.calm C.nd a1 (by rw [C.sc]; exact b2) (sw_true (by rw [C.sc]; exact b1) (by rw [C.sc]; exact b2) b3 b4) ((I n).i C tk _ _ _ h5) (by rw [C.N, C.sc]; exact blkOk_by h2)
                  (by rw [ownP_snd]; exact fun i hi => by have := List.all_eq_true.mp h3 i hi; simpa using this)
                  (fun _ _ _ _ _ => tg_ok C.blk h4) (fun _ _ _ _ _ => ?_) (fun _ _ _ _ _ => (I n).e C.blk takes0 _ _ h6) (folded_no h1)
                split at h7
                · exact sts_nil
                · exact sts_one ((I n).t C.blk takes0 _ _ h7)
                · cases h7
              · simp at h2
          · cases b5
        · cases h3
    · cases h
  | .par i j a b, st, h => by
    rw [ckS.eq_def] at h; dsimp only at h
    split at h
    · simp only [Bool.and_eq_true, decide_eq_true_eq] at h
      obtain ⟨⟨⟨⟨⟨h1, h2⟩, h3⟩, h4⟩, h5⟩, h6⟩ := h
      obtain ⟨a1, _, _⟩ := sto_ok C h2
      obtain ⟨b1, _, _⟩ := sto_ok C h3
      have hp := h4
      simp only [parC, Bool.and_eq_true, decide_eq_true_eq, Bool.not_eq_true'] at hp
      obtain ⟨⟨⟨⟨⟨⟨⟨⟨c1, c2⟩, c3⟩, c4⟩, c5⟩, c6⟩, c7⟩, c8⟩, c9⟩ := hp
      exact ss_par C.calm C.nd a1 b1 h1 (by rw [C.sc]; exact c2) (by rw [C.sc]; exact c3) (sa_cons (star_cons c6) ((I n).e C tk _ _ h5) (sa_cons (star_cons c7) ((I n).e C tk _ _ h6) sa_nil)) (par_sw C.sc h4) (swaps_one rfl)
    · cases h
  | .unp t e, st, h => by
    rw [ckS.eq_def] at h; dsimp only at h
    split at h
    · simp only [Bool.and_eq_true, Bool.not_eq_true'] at h
      obtain ⟨⟨⟨⟨h1, h2⟩, h3⟩, h4⟩, h5⟩ := h
      refine ss_unp ((I n).e C tk _ _ h5) (tg_ok C h4) (swaps_no h2) (swapped_no h3) (one_as ?_)
      rename_i tg _ _
      cases tg <;> first | rfl | (cases h1; done)
    · cases h
  | .seti a b e, st, h => by
    rw [ckS.eq_def] at h; dsimp only at h
    split at h
    · simp only [Bool.and_eq_true, Bool.not_eq_true'] at h
      obtain ⟨⟨⟨⟨h1, h2⟩, h3⟩, h4⟩, h5⟩ := h
      exact ss_seti (swaps_one h2) (swapped_tg rfl rfl) rfl (set_st h1) ((I n).e C tk _ _ h3) ((I n).e C tk _ _ h4) ((I n).e C tk _ _ h5)
    · cases h
  | .setf a f e, st, h => by
    rw [ckS.eq_def] at h; dsimp only at h
    split at h
    · simp only [Bool.and_eq_true, Bool.not_eq_true', decide_eq_true_eq, List.contains_iff_mem] at h
      obtain ⟨⟨⟨⟨rfl, h1⟩, h2⟩, h3⟩, h4⟩ := h
      exact ss_setf C.K C.cls (C.flds _ h1) (swaps_no h2) ((I n).e C tk _ _ h3) ((I n).e C tk _ _ h4)
    · cases h
  | .aug i op e, st, h => by
    rw [ckS.eq_def] at h; dsimp only at h
    split at h
    · simp only [Bool.and_eq_true, Bool.or_eq_true, decide_eq_true_eq] at h
      obtain ⟨⟨⟨rfl, h1⟩, h2⟩, h3⟩ := h
      obtain ⟨a1, a2, a3⟩ := sto_ok C h2
      exact ss_aug h1 C.nd a1 a2 a3 ((I n).e C tk _ _ h3)
    · cases h
  | .augi a b op e, st, h => by
    rw [ckS.eq_def] at h; dsimp only at h
    split at h
    · simp only [Bool.and_eq_true, Bool.or_eq_true, decide_eq_true_eq, Bool.not_eq_true'] at h
      obtain ⟨⟨⟨⟨⟨rfl, h1⟩, h2⟩, h3⟩, h4⟩, h5⟩ := h
      exact ss_augi h1 C.K (aug_st h2) ((I n).e C tk _ _ h3) ((I n).e C tk _ _ h4) ((I n).e C tk _ _ h5)
    · cases h
  | .augf a f op e, st, h => by
    rw [ckS.eq_def] at h; dsimp only at h
    split at h
    · simp only [Bool.and_eq_true, Bool.or_eq_true, decide_eq_true_eq, List.contains_iff_mem] at h
      obtain ⟨⟨⟨⟨⟨rfl, h1⟩, rfl⟩, h2⟩, h3⟩, h4⟩ := h
      exact ss_augf h2 C.K C.cls (C.flds _ h1) ((I n).e C tk _ _ h3) ((I n).e C tk _ _ h4)
    · cases h
  | .ifs c a b, st, h => by
    rw [ckS.eq_def] at h; dsimp only at h
    split at h
    · simp only [Bool.and_eq_true] at h
      exact ss_if ((I n).t C tk _ _ h.1.1) (J _ _ h.1.2) (J _ _ h.2)
    · cases h
  | .whl f c b, st, h => by
    rw [ckS.eq_def] at h; dsimp only at h
    split at h
    · simp only [Bool.and_eq_true] at h
      exact ss_while hp ((I n).t C tk _ _ h.1) (J _ _ h.2)
    · cases h
  | .forr t src b, st, h => by
    rw [ckS.eq_def] at h; dsimp only at h
    split at h
    · simp only [Bool.and_eq_true, Bool.not_eq_true'] at h
      obtain ⟨⟨⟨h1, h2⟩, h3⟩, h4⟩ := h
      exact ss_for hp C.calm ((I n).i C tk _ _ _ h3) (tg_ok C h2) (J _ _ h4) (folded_no h1)
    · cases h
theorem snd_ss (C : Cxs G L k S X) (tk : Takes X W) (hp : PassesOwn (model X.prog X.w) X.A X.env X.xe) : ∀ n, (∀ m st, ckS n S m st = true → PS X st (tS G W (exec L m))) ∧ ∀ ms sts, ckSs n S ms sts = true → PSs X sts (tS G W (execs L ms))
  | 0 => ⟨fun _ _ h => (by rw [ckS.eq_def] at h; cases h), fun _ _ h => (by rw [ckSs.eq_def] at h; cases h)⟩
  | n + 1 => by
    obtain ⟨a, b⟩ := snd_ss C tk hp n
    refine ⟨snd_s snd_all C tk hp b, fun ms sts h => ?_⟩
    rw [ckSs.eq_def] at h; dsimp only at h
    split at h
    · exact ss_nil
    · simp only [Bool.and_eq_true] at h
      exact ss_cons (a _ _ h.1) (b _ _ h.2)
    · cases h
end
end Mq

/-! MqProg: defs, programs. -/
namespace Mq
open PySem L2 PyProof.Rows
/-- a def: its name, parameters, slots, body -/
structure DD where
  x : Str
  ps : List Str
  N : List Str
  ms : List MS
  deriving Inhabited
def slots (n : Nat) (ls : List Sl) : List Sl := ls ++ List.replicate (n - ls.length) .un
def finD (o : Out SS Fl) : FR := match o with
  | .ok .nx s => .ok (.v .non) s.st
  | .ok (.ret r) s => .ok r s.st
  | .ok _ _ => .no
  | .ex c fs s => .ex c fs s.st
  | .no => .no
def runD (L : Fns) (d : DD) (ds : List Dt) (st : List MO) : FR := finD (execs L d.ms ⟨slots d.N.length (ds.map .v), st⟩)
def oiAt (c : Nat) (s : SS) : Out (List MO) (List Str × List Dt) := match (s.sl[0]? : Option Sl) with
  | some (.oi c' ns vs) => if c' = c then .ok (ns, vs) s.st else .no
  | _ => .no
def finI (c : Nat) (o : Out SS Fl) : Out (List MO) (List Str × List Dt) := match o with
  | .ok .nx s => oiAt c s
  | .ok (.ret (.v .non)) s => oiAt c s
  | .ok _ _ => .no
  | .ex c fs s => .ex c fs s.st
  | .no => .no
def runI (L : Fns) (d : DD) (c : Nat) (ds : List Dt) (st : List MO) : Out (List MO) (List Str × List Dt) := finI c (execs L d.ms ⟨slots d.N.length (.oi c [] [] :: ds.map .v), st⟩)
section
variable {G : Gx} {L : Fns} {k : Nat} {P : Program} {w : World} {K : PySem.W.Frag} {mg : Str → Option Value} {base : Heap}
/-- what the callees promise, in any context of this program -/
structure Glx (G : Gx) (L : Fns) (k : Nat) (S : Sx) (P : Program) (w : World) (K : PySem.W.Frag) (mg : Str → Option Value) (base : Heap) : Prop where
  kk : K = G.K
  defs : ∀ X : Cx, X.prog = P → X.w = w → X.K = K → X.mg = mg → X.base = base → ∀ x n, (x, n) ∈ S.defs → Def G X k x n (L.call x)
  mks : ∀ X : Cx, X.prog = P → X.w = w → X.K = K → X.mg = mg → X.base = base → ∀ x n, (x, n) ∈ S.mks → Mkd G X k x n (L.make x)
  mths : ∀ X : Cx, X.prog = P → X.w = w → X.K = K → X.mg = mg → X.base = base → ∀ m n, (m, n) ∈ S.mths → ∀ c, L.hasM c m = true → DefM G X k c m n (L.meth c m)
  cls : ∀ c C, G.cls c = some C → Cls G.K C
  ins : ∀ c C, G.cls c = some C → InsT G.K C
  flds : ∀ f, f ∈ S.flds → ∀ c C, G.cls c = some C → NoAttr G.K C f
  glos : ∀ x, x ∈ S.glos → ∃ (u : Value) (v : V) (d : Dt), mg x = some u ∧ RelV v u ∧ (∀ F A, Rep G F A v d) ∧ L.glob x = some d
  tys : ∀ X : Cx, X.K = K → X.mg = mg → ∀ t, t ∈ S.tys → IsiF G X L t
  blts : ∀ x, x ∈ S.blts → mg x = none
  eqc : EqC G L
theorem rel_start {wd : Wd} {st : List MO} {H : Hp} {ds : List Dt} {vs : List V} {n : Nat} {N : List Str} (R : Wok G wd st H) (hL : wd.L = fun _ => none) (hv : RepL G wd.F wd.A vs ds) (hn : vs.length ≤ N.length) : Rel G wd ⟨slots N.length (ds.map .v), st⟩ (start N vs) H where
  toWok := R
  len := by
    show (ds.map Sl.v ++ List.replicate (N.length - (ds.map Sl.v).length) Sl.un).length = (vs.map some ++ List.replicate (N.length - vs.length) none).length
    simp [hv.length]
  sl := fun i x e => by
    have e : (ds.map Sl.v ++ List.replicate (N.length - (ds.map Sl.v).length) Sl.un)[i]? = some x := e
    by_cases hi : i < ds.length
    · rw [List.getElem?_append_left (by simpa using hi)] at e
      simp only [List.getElem?_map, Option.map_eq_some_iff] at e
      obtain ⟨d, ed, rfl⟩ := e
      obtain ⟨v, ev, r⟩ := hv.get ed
      refine ⟨v, ?_, r⟩
      show (vs.map some ++ _)[i]? = _
      rw [List.getElem?_append_left (by rw [List.length_map, hv.length]; exact hi)]
      simp [ev]
    · rw [List.getElem?_append_right (by simpa using hi)] at e
      have := List.getElem?_replicate .. ▸ e
      split at this
      · cases this; trivial
      · cases this
  own := fun i p ⟨_, x, ex, ho⟩ => by
    have ex : (ds.map Sl.v ++ List.replicate (N.length - (ds.map Sl.v).length) Sl.un)[i]? = some x := ex
    have m := List.mem_of_getElem? ex
    simp only [List.mem_append, List.mem_map, List.mem_replicate] at m
    rcases m with ⟨d, _, rfl⟩ | ⟨_, rfl⟩ <;> simp [isOwn] at ho
  ownN := fun i j p ⟨_, x, ex, ho⟩ => by
    have ex : (ds.map Sl.v ++ List.replicate (N.length - (ds.map Sl.v).length) Sl.un)[i]? = some x := ex
    have m := List.mem_of_getElem? ex
    simp only [List.mem_append, List.mem_map, List.mem_replicate] at m
    rcases m with ⟨d, _, rfl⟩ | ⟨_, rfl⟩ <;> simp [isOwn] at ho
  lT := fun i p e => by rw [hL] at e; cases e
theorem rel_startI {wd : Wd} {st : List MO} {H : Hp} {ds : List Dt} {vs : List V} {N : List Str} {c : Nat} {p C dx : Addr} (R : Wok G wd st H) (hL : wd.L = fun _ => none) (hM : wd.M = some p) (hv : RepL G wd.F wd.A vs ds) (hn : vs.length + 1 ≤ N.length)
    (hC : G.cls c = some C) (hp : H p = some (.ins C dx [])) (f1 : wd.F p = none) (f2 : wd.T p = none) (f3 : p ∉ wd.A) : Rel G wd ⟨slots N.length (.oi c [] [] :: ds.map .v), st⟩ (start N (.ref p :: vs)) H := by
  have at_ : ∀ (i : Nat) (x : Sl), (slots N.length (.oi c [] [] :: ds.map .v))[i]? = some x → isOwn x = true → i = 0 := fun i x e ho => by
    have e : (Sl.oi c [] [] :: (ds.map Sl.v ++ List.replicate (N.length - (Sl.oi c [] [] :: ds.map Sl.v).length) Sl.un))[i]? = some x := e
    cases i with
    | zero => rfl
    | succ i =>
      rw [List.getElem?_cons_succ] at e
      have m := List.mem_of_getElem? e
      simp only [List.mem_append, List.mem_map, List.mem_replicate] at m
      rcases m with ⟨d, _, rfl⟩ | ⟨_, rfl⟩ <;> simp [isOwn] at ho
  refine { toWok := R, len := ?_, sl := fun i x e => ?_, own := fun i q ⟨e, x, ex, ho⟩ => ?_, ownN := fun i j q ⟨_, x, ex, ho⟩ ⟨_, x', ex', ho'⟩ => by rw [at_ i x ex ho, at_ j x' ex' ho'], lT := fun i p e => (by rw [hL] at e; cases e) }
  · show (Sl.oi c [] [] :: ds.map Sl.v ++ List.replicate (N.length - (Sl.oi c [] [] :: ds.map Sl.v).length) Sl.un).length = ((V.ref p :: vs).map some ++ List.replicate (N.length - (V.ref p :: vs).length) none).length
    simp [hv.length]
  · have e : (Sl.oi c [] [] :: (ds.map Sl.v ++ List.replicate (N.length - (Sl.oi c [] [] :: ds.map Sl.v).length) Sl.un))[i]? = some x := e
    cases i with
    | zero =>
      cases e
      exact ⟨p, C, dx, [], rfl, hC, hp, rfl, .nil, hM⟩
    | succ i =>
      rw [List.getElem?_cons_succ] at e
      by_cases hi : i < ds.length
      · rw [List.getElem?_append_left (by simpa using hi)] at e
        simp only [List.getElem?_map, Option.map_eq_some_iff] at e
        obtain ⟨d, ed, rfl⟩ := e
        obtain ⟨v, ev, r⟩ := hv.get ed
        refine ⟨v, ?_, r⟩
        show (some (V.ref p) :: (vs.map some ++ _))[i + 1]? = _
        rw [List.getElem?_cons_succ, List.getElem?_append_left (by rw [List.length_map, hv.length]; exact hi)]
        simp [ev]
      · rw [List.getElem?_append_right (by simpa using hi)] at e
        have := List.getElem?_replicate .. ▸ e
        split at this
        · cases this; trivial
        · cases this
  · obtain rfl := at_ i x ex ho
    have e : some (some (V.ref p)) = some (some (V.ref q)) := e
    cases e
    exact ⟨f1, f2, f3⟩
/-- the names of a def, checked -/
def ddC (S : Sx) (d : DD) (st : Stmt) : Bool := decide (S.N = d.N) && decide (S.sc = defScope st) && S.cel && C8.scC d.N d.ps (defScope st) && decide (d.ps.length ≤ d.N.length) && ckSs 40 S d.ms (defBody st)
section
variable {S : Sx} {d : DD} {st : Stmt} {f : Addr} {fd : FuncData} {x qual : Str} {A : Around} {outer : List Env} {s : Shared} {H : Hp} {E : XK} {cdv : Value}
theorem cxs_of (g : Glx G L k S P w K mg base) (hc : ddC S d st = true) (hr : Room (k + 1) (A.deeper (envOfC qual (defScope st) s.heap.objs.size f cdv))) : Cxs G L k S (cxOf (L2.CX P w) P w K mg base d.N qual (defScope st) f cdv A outer s H E) := by
  simp only [ddC, Bool.and_eq_true, decide_eq_true_eq] at hc
  obtain ⟨⟨⟨⟨⟨h1, h2⟩, h3⟩, h4⟩, h5⟩, h6⟩ := hc
  exact ⟨g.kk, h1.symm, (C8.fnScope_by h4).nd, h2.symm, fun _ _ => rfl, rfl, hr, g.defs _ rfl rfl rfl rfl rfl, g.mks _ rfl rfl rfl rfl rfl, g.mths _ rfl rfl rfl rfl rfl, g.cls, g.ins, g.flds, g.glos, g.tys _ rfl rfl, g.blts, g.eqc⟩
theorem body_ok (g : Glx G L k S P w K mg base) (hc : ddC S d st = true) (hr : Room (k + 1) (A.deeper (envOfC qual (defScope st) s.heap.objs.size f cdv))) :
    PSs (cxOf (L2.CX P w) P w K mg base d.N qual (defScope st) f cdv A outer s H E) (defBody st) (tS G (fun cls d _ H => E cls d H) (execs L d.ms)) := by
  have C := cxs_of (outer := outer) (H := H) (E := E) g hc hr
  simp only [ddC, Bool.and_eq_true, decide_eq_true_eq] at hc
  obtain ⟨⟨⟨⟨⟨h1, h2⟩, h3⟩, h4⟩, h5⟩, h6⟩ := hc
  exact (snd_ss C (takes_of rfl rfl rfl rfl) (passes_of rfl) 40).2 _ _ h6
theorem fn_D (g : Glx G L k S P w K mg base) (hc : ddC S d st = true) (F : Fun K x qual st f fd) : FnOk P w K mg base (L2.CX P w) (k + 2) f fd d.ps (spD G d.ps.length (runD L d)) := by
  have hc' := hc
  simp only [ddC, Bool.and_eq_true, decide_eq_true_eq] at hc'
  obtain ⟨⟨⟨⟨⟨h1, h2⟩, h3⟩, h4⟩, h5⟩, h6⟩ := hc'
  refine F.okX (C8.fnScope_by h4) (fun vs H Q E h => h.1) fun cdv A outer s H vs Q E hr h => ⟨_, body_ok g hc hr, ?_⟩
  obtain ⟨hl, wd, sto, ds, hL, R, hv, h⟩ := h
  refine ⟨wd, ⟨slots d.N.length (ds.map .v), sto⟩, rel_start (n := 0) R hL hv (by rw [hl]; exact h5), ?_⟩
  unfold runD finD at h
  cases q : execs L d.ms ⟨slots d.N.length (ds.map .v), sto⟩ with
  | no => rw [q] at h; exact h
  | ex c fs s' => rw [q] at h; exact fun cls d H' w' σ' e R' x => h cls d H' w' e R'.toWok x
  | ok fl s' =>
    rw [q] at h
    intro H' w' σ' e R'
    cases fl with
    | nx => exact h _ H' w' e R'.toWok .non
    | ret r => exact fun v rf => h v H' w' e R'.toWok rf
    | bk => exact h
    | ct => exact h
theorem fn_I {c : Nat} (g : Glx G L k S P w K mg base) (hc : ddC S d st = true) (F : Fun K x qual st f fd) {n : Nat} (hn : d.ps.length = n + 1) : FnOk P w K mg base (L2.CX P w) (k + 2) f fd d.ps (spI G n c (runI L d c)) := by
  have hc' := hc
  simp only [ddC, Bool.and_eq_true, decide_eq_true_eq] at hc'
  obtain ⟨⟨⟨⟨⟨h1, h2⟩, h3⟩, h4⟩, h5⟩, h6⟩ := hc'
  refine F.okX (C8.fnScope_by h4) (fun vs H Q E h => by rw [h.1, hn]) fun cdv A outer s H vs Q E hr h => ⟨_, body_ok g hc hr, ?_⟩
  obtain ⟨hl, wd, sto, ds, p, C, dx, us, hL, hM, R, rfl, hv, hC, hp, f1, f2, f3, h⟩ := h
  refine ⟨wd, ⟨slots d.N.length (.oi c [] [] :: ds.map .v), sto⟩, rel_startI R hL hM hv (by simp at hl; omega) hC hp f1 f2 f3, ?_⟩
  have fin : ∀ {s' : SS} {H' : Hp} {w' : Wd} {σ' : L2.St}, Ext wd w' → Rel G w' s' σ' H' → (match oiAt c s' with
      | .ok r st' => ∀ H' w' fl dx', Ext wd w' → Wok G w' st' H' → H' p = some (.ins C dx' fl) → fl.map (·.1) = r.1 → RepL G w'.F w'.A (fl.map (·.2)) r.2 → w'.F p = none → w'.T p = none → p ∉ w'.A → Q .non H'
      | .ex c fs st' => ∀ cls d H' w', Ext wd w' → Wok G w' st' H' → XR G w' cls d c fs → E cls d H'
      | .no => False) → Q .non H' := fun {s' H' w' σ'} e R' h => by
    unfold oiAt at h
    cases q : s'.sl[0]? with
    | none => rw [q] at h; exact h.elim
    | some x =>
      rw [q] at h
      cases x with
      | oi c' ns vs =>
        by_cases ec : c' = c
        · subst ec
          simp only [if_pos] at h
          obtain ⟨p', C', dx', fl, e1, e2, e3, e4, e5, e6⟩ := R'.sl 0 _ q
          rw [e.M, hM] at e6; cases e6
          rw [hC] at e2; cases e2
          obtain ⟨g1, g2, g3⟩ := R'.own 0 p ⟨e1, _, q, rfl⟩
          exact h H' w' fl dx' e R'.toWok e3 e4 e5 g1 g2 g3
        · simp only [if_neg ec] at h
      | _ => exact h.elim
  unfold runI finI at h
  cases q : execs L d.ms ⟨slots d.N.length (.oi c [] [] :: ds.map .v), sto⟩ with
  | no => rw [q] at h; exact h
  | ex c fs s' => rw [q] at h; exact fun cls d H' w' σ' e R' x => h cls d H' w' e R'.toWok x
  | ok fl s' =>
    rw [q] at h
    intro H' w' σ' e R'
    cases fl with
    | nx => exact fin e R' h
    | ret r =>
      intro v rf
      cases r with
      | v d0 =>
        cases d0 with
        | non => obtain rfl := Rep.inv_non rf; exact fin e R' h
        | _ => exact h.elim
      | nl xs => exact h.elim
      | bw i => exact h.elim
    | bk => exact h
    | ct => exact h
end
end
end Mq

/-! MqPd: programs. -/
namespace Mq
open PySem L2 PyProof.Rows
def ixOf (x : Str) : List Str → Option Nat
  | [] => none
  | y :: r => if x = y then some 0 else (ixOf x r).map (· + 1)
/-- a method's or a class's place -/
def ixOf2 (c : Nat) (x : Str) : List (Nat × Str) → Option Nat
  | [] => none
  | y :: r => if c = y.1 ∧ x = y.2 then some 0 else (ixOf2 c x r).map (· + 1)
/-- a class: its name, number, whether its instances stay as they are made, its __init__ -/
structure CD where
  x : Str
  c : Nat
  frz : Bool
  d : DD
  deriving Inhabited
structure PD where
  defs : List DD
  cls : List CD
  mths : List (Nat × DD)
  glob : Str → Option Dt
  isi : Ty → Str → Option Bool
  nf : Nat → Ty → Bool
def PD.names (P : PD) : List Str := P.defs.map (·.x)
def PD.cnames (P : PD) : List Str := P.cls.map (·.x)
def PD.mnames (P : PD) : List (Nat × Str) := P.mths.map fun t => (t.1, t.2.x)
def PD.hasM (P : PD) (c : Nat) (m : Str) : Bool := (ixOf2 c m P.mnames).isSome
def noF : List Dt → List MO → FR := fun _ _ => .no
def mkC (L : Fns) (t : CD) : List Dt → List MO → FR := if t.frz then mkI t.c (runI L t.d t.c) else mkS t.c (runD L t.d)
def FP (P : PD) : Nat → Fns
  | 0 => { call := fun _ => noF, make := fun _ => noF, meth := fun _ _ => noF, hasM := P.hasM, glob := P.glob, isi := P.isi, nf := P.nf }
  | k + 1 => {
      call := fun x => match ixOf x P.names with
        | some i => (match P.defs[i]? with | some d => runD (FP P k) d | none => noF)
        | none => noF
      make := fun x => match ixOf x P.cnames with
        | some i => (match P.cls[i]? with | some t => mkC (FP P k) t | none => noF)
        | none => noF
      meth := fun c m => match ixOf2 c m P.mnames with
        | some i => (match P.mths[i]? with | some t => runD (FP P k) t.2 | none => noF)
        | none => noF
      hasM := P.hasM, glob := P.glob, isi := P.isi, nf := P.nf }
theorem FP_call {P : PD} {k i : Nat} {x : Str} {d : DD} (h : ixOf x P.names = some i) (e : P.defs[i]? = some d) : (FP P (k + 1)).call x = runD (FP P k) d := by
  show (match ixOf x P.names with
        | some i => (match P.defs[i]? with | some d => runD (FP P k) d | none => noF)
        | none => noF) = _
  rw [h]; simp only [e]
theorem FP_make {P : PD} {k i : Nat} {x : Str} {t : CD} (h : ixOf x P.cnames = some i) (e : P.cls[i]? = some t) : (FP P (k + 1)).make x = mkC (FP P k) t := by
  show (match ixOf x P.cnames with
        | some i => (match P.cls[i]? with | some t => mkC (FP P k) t | none => noF)
        | none => noF) = _
  rw [h]; simp only [e]
theorem FP_meth {P : PD} {k i c : Nat} {x : Str} {t : Nat × DD} (h : ixOf2 c x P.mnames = some i) (e : P.mths[i]? = some t) : (FP P (k + 1)).meth c x = runD (FP P k) t.2 := by
  show (match ixOf2 c x P.mnames with
        | some i => (match P.mths[i]? with | some t => runD (FP P k) t.2 | none => noF)
        | none => noF) = _
  rw [h]; simp only [e]
theorem ixOf_ok {x : Str} : ∀ {l : List Str} {i : Nat}, ixOf x l = some i → l[i]? = some x
  | y :: r, i, h => by
    unfold ixOf at h
    split at h
    · rename_i e; cases h; rw [e]; rfl
    · simp only [Option.map_eq_some_iff] at h
      obtain ⟨j, e, rfl⟩ := h
      rw [List.getElem?_cons_succ]; exact ixOf_ok e
theorem ixOf_in {x : Str} : ∀ {l : List Str}, x ∈ l → ∃ i, ixOf x l = some i
  | y :: r, h => by
    unfold ixOf
    split
    · exact ⟨0, rfl⟩
    · rename_i n
      obtain ⟨i, e⟩ := ixOf_in ((List.mem_cons.mp h).resolve_left n)
      exact ⟨i + 1, by rw [e]; rfl⟩
theorem ixOf2_ok {c : Nat} {x : Str} : ∀ {l : List (Nat × Str)} {i : Nat}, ixOf2 c x l = some i → l[i]? = some (c, x)
  | y :: r, i, h => by
    unfold ixOf2 at h
    split at h
    · rename_i e; cases h; rw [e.1, e.2]; rfl
    · simp only [Option.map_eq_some_iff] at h
      obtain ⟨j, e, rfl⟩ := h
      rw [List.getElem?_cons_succ]; exact ixOf2_ok e
section
variable {G : Gx} {Pg : Program} {w : World} {K : PySem.W.Frag} {mg : Str → Option Value} {base : Heap}
/-- the written part of a def -/
structure HD (K : PySem.W.Frag) (S : Sx) (d : DD) (f : Addr) (x qual : Str) (st : Stmt) : Prop where
  ex : ∃ fd, Fun K x qual st f fd ∧ Binds K fd d.ps []
  ck : ddC S d st = true
def Sx.on (S : Sx) (d : DD) (st : Stmt) : Sx := { S with N := d.N, sc := defScope st, cel := true }
/-- the written part of the program -/
structure HP (G : Gx) (P : PD) (S : Sx) (K : PySem.W.Frag) (mg : Str → Option Value) : Prop where
  kk : K = G.K
  defs : ∀ d, d ∈ P.defs → ∃ (f : Addr) (qual : Str) (st : Stmt), mg d.x = some (.ref f) ∧ HD K (S.on d st) d f d.x qual st
  mks : ∀ t, t ∈ P.cls → ∃ (C f : Addr) (x qual : Str) (st : Stmt), mg t.x = some (.ref C) ∧ Mk K C f ∧ G.cls t.c = some C ∧ HD K (S.on t.d st) t.d f x qual st ∧ 1 ≤ t.d.ps.length
  mths : ∀ t, t ∈ P.mths → ∃ (C f : Addr) (qual : Str) (st : Stmt), G.cls t.1 = some C ∧ Meth K C t.2.x f ∧ HD K (S.on t.2 st) t.2 f t.2.x qual st
  sd : ∀ x n, (x, n) ∈ S.defs → ∃ d, d ∈ P.defs ∧ d.x = x ∧ d.ps.length = n
  nd : P.names.Nodup
  sm : ∀ x n, (x, n) ∈ S.mks → ∃ t, t ∈ P.cls ∧ t.x = x ∧ t.d.ps.length = n + 1
  nm : P.cnames.Nodup
  st : ∀ m n, (m, n) ∈ S.mths → ∀ t, t ∈ P.mths → t.2.x = m → t.2.ps.length = n
  cls : ∀ c C, G.cls c = some C → Cls G.K C
  ins : ∀ c C, G.cls c = some C → InsT G.K C
  flds : ∀ f, f ∈ S.flds → ∀ c C, G.cls c = some C → NoAttr G.K C f
  glos : ∀ x, x ∈ S.glos → ∃ (u : Value) (v : V) (d : Dt), mg x = some u ∧ RelV v u ∧ (∀ F A, Rep G F A v d) ∧ P.glob x = some d
  tys : ∀ X : Cx, X.K = K → X.mg = mg → ∀ t, t ∈ S.tys → ∃ c u v, ClsV c u ∧ RelV c v ∧ (X.mg t = some v ∨ (X.mg t = none ∧ bootBuiltins t = some v)) ∧ ∀ ty b, P.isi ty t = some b → ∃ tv, tyVal G ty = some tv ∧ PySem.W.kitOne G.K tv u = some b
  blts : ∀ x, x ∈ S.blts → mg x = none
  own : ∀ c C, P.hasM c "__eq__" = true → G.cls c = some C → OwnN G.K C
  nf : ∀ c C ty tv, P.nf c ty = true → G.cls c = some C → tyVal G ty = some tv → PySem.W.notFirst G.K C tv = true
theorem spD_no {n : Nat} {vs : List V} {H : Hp} {Q : VK} {E : XK} (h : spD G n noF vs H Q E) : False := by
  obtain ⟨_, _, _, _, _, _, _, z⟩ := h
  exact z
theorem fn_no {j n : Nat} {f : Addr} {fd : FuncData} {ps : List Str} : FnOk Pg w K mg base (L2.CX Pg w) j f fd ps (spD G n noF) := ⟨fun vs H Q E h => (spD_no h).elim, fun A outer s H args us vs Q E hr e0 b r h => (spD_no h).elim⟩
theorem mkS_no {c : Nat} : mkS c noF = noF := rfl
theorem FP_0 {P : PD} {x : Str} : (FP P 0).call x = noF := rfl
/-- every def keeps its promise, to any depth -/
theorem prog_ok {P : PD} {S : Sx} (h : HP G P S K mg) : ∀ k, Glx G (FP P k) (2 * k) S Pg w K mg base
  | 0 => {
      kk := h.kk
      defs := fun X e1 e2 e3 e4 e5 x n hm => by
        obtain ⟨d, hd, rfl, rfl⟩ := h.sd x n hm
        obtain ⟨f, qual, st, hmg, hD⟩ := h.defs d hd
        obtain ⟨fd, F, b⟩ := hD.ex
        subst e1 e2 e3 e4 e5
        exact ⟨f, fd, _, hmg, F.kp, b, fn_no⟩
      mks := fun X e1 e2 e3 e4 e5 x n hm => by
        obtain ⟨t, ht, rfl, hn⟩ := h.sm x n hm
        obtain ⟨C, f, x, qual, st, hmg, hM, hC, hD, hl⟩ := h.mks t ht
        obtain ⟨fd, F, b⟩ := hD.ex
        subst e1 e2 e3 e4 e5
        exact ⟨C, f, fd, _, t.c, hmg, hM, b, hC, .inl ⟨noF, fn_no, rfl⟩⟩
      mths := fun X e1 e2 e3 e4 e5 m n hm c hc => by
        subst e1 e2 e3 e4 e5
        have hc : (ixOf2 c m P.mnames).isSome = true := hc
        obtain ⟨i, hi⟩ := Option.isSome_iff_exists.mp hc
        have e := ixOf2_ok hi
        unfold PD.mnames at e
        simp only [List.getElem?_map, Option.map_eq_some_iff, Prod.mk.injEq] at e
        obtain ⟨t, et, rfl, rfl⟩ := e
        have ht := List.mem_of_getElem? et
        obtain ⟨C, f, qual, st, hC, hM, hD⟩ := h.mths t ht
        obtain ⟨fd, F, b⟩ := hD.ex
        refine ⟨fun C' hC' => ?_⟩
        rw [hC] at hC'; cases hC'
        exact ⟨f, fd, _, h.cls _ _ hC, by rw [← h.kk]; exact hM, b, fn_no⟩
      cls := h.cls, ins := h.ins, flds := h.flds
      glos := fun x hx => h.glos x hx
      tys := fun X e1 e2 t ht => ⟨h.tys X e1 e2 t ht⟩
      blts := h.blts
      eqc := ⟨h.own, h.nf⟩ }
  | k + 1 => by
    have I : Glx G (FP P k) (2 * k) S Pg w K mg base := prog_ok h k
    have on : ∀ d st, Glx G (FP P k) (2 * k) (S.on d st) Pg w K mg base := fun d st => ⟨I.kk, I.defs, I.mks, I.mths, I.cls, I.ins, I.flds, I.glos, I.tys, I.blts, I.eqc⟩
    exact {
      kk := h.kk
      defs := fun X e1 e2 e3 e4 e5 x n hm => by
        obtain ⟨d, hd, rfl, rfl⟩ := h.sd x n hm
        obtain ⟨f, qual, st, hmg, hD⟩ := h.defs d hd
        obtain ⟨fd, F, b⟩ := hD.ex
        obtain ⟨i, hi⟩ := ixOf_in (x := d.x) (l := P.names) (List.mem_map_of_mem hd)
        have ei := ixOf_ok hi
        unfold PD.names at ei
        simp only [List.getElem?_map, Option.map_eq_some_iff] at ei
        obtain ⟨d', ed', ex⟩ := ei
        have : d' = d := by
          obtain ⟨j, ej⟩ := List.getElem?_of_mem hd
          have nd := h.nd
          unfold PD.names at nd
          have hij : i = j := by
            refine (List.getElem?_inj (l := P.defs.map (·.x)) ?_ nd).mp ?_
            · rw [List.length_map]; exact (List.getElem?_eq_some_iff.mp ed').1
            · rw [List.getElem?_map, List.getElem?_map, ed', ej]; simp [ex]
          subst hij
          rw [ed'] at ej; cases ej; rfl
        subst this
        rw [FP_call hi ed']
        subst e1 e2 e3 e4 e5
        exact ⟨f, fd, _, hmg, F.kp, b, fn_D (on _ _) hD.ck F⟩
      mks := fun X e1 e2 e3 e4 e5 x n hm => by
        obtain ⟨t, ht, rfl, hn⟩ := h.sm x n hm
        obtain ⟨C, f, x, qual, st, hmg, hM, hC, hD, hl⟩ := h.mks t ht
        obtain ⟨fd, F, b⟩ := hD.ex
        obtain ⟨i, hi⟩ := ixOf_in (x := t.x) (l := P.cnames) (List.mem_map_of_mem ht)
        have ei := ixOf_ok hi
        unfold PD.cnames at ei
        simp only [List.getElem?_map, Option.map_eq_some_iff] at ei
        obtain ⟨t', et', ex⟩ := ei
        have : t' = t := by
          obtain ⟨j, ej⟩ := List.getElem?_of_mem ht
          have nd := h.nm
          unfold PD.cnames at nd
          have hij : i = j := by
            refine (List.getElem?_inj (l := P.cls.map (·.x)) ?_ nd).mp ?_
            · rw [List.length_map]; exact (List.getElem?_eq_some_iff.mp et').1
            · rw [List.getElem?_map, List.getElem?_map, et', ej]; simp [ex]
          subst hij
          rw [et'] at ej; cases ej; rfl
        subst this
        rw [FP_make hi et']
        subst e1 e2 e3 e4 e5
        refine ⟨C, f, fd, _, t'.c, hmg, hM, b, hC, ?_⟩
        unfold mkC
        cases t'.frz with
        | true => exact .inr ⟨_, fn_I (on _ _) hD.ck F hn, rfl⟩
        | false =>
          have q := fn_D (on _ _) hD.ck F
          rw [hn] at q
          exact .inl ⟨_, q, rfl⟩
      mths := fun X e1 e2 e3 e4 e5 m n hm c hc => by
        subst e1 e2 e3 e4 e5
        have hc : (ixOf2 c m P.mnames).isSome = true := hc
        obtain ⟨i, hi⟩ := Option.isSome_iff_exists.mp hc
        have e := ixOf2_ok hi
        unfold PD.mnames at e
        simp only [List.getElem?_map, Option.map_eq_some_iff, Prod.mk.injEq] at e
        obtain ⟨t, et, rfl, rfl⟩ := e
        have ht := List.mem_of_getElem? et
        obtain ⟨C, f, qual, st, hC, hM, hD⟩ := h.mths t ht
        obtain ⟨fd, F, b⟩ := hD.ex
        refine ⟨fun C' hC' => ?_⟩
        rw [hC] at hC'; cases hC'
        have q := fn_D (on _ _) hD.ck F
        rw [h.st _ _ hm t ht rfl] at q
        rw [FP_meth hi et]
        exact ⟨f, fd, _, h.cls _ _ hC, by rw [← h.kk]; exact hM, b, q⟩
      cls := h.cls, ins := h.ins, flds := h.flds
      glos := fun x hx => h.glos x hx
      tys := fun X e1 e2 t ht => ⟨h.tys X e1 e2 t ht⟩
      blts := h.blts
      eqc := ⟨h.own, h.nf⟩ }
end
end Mq

/-! MqLaw: a law by its run over plain data. -/
namespace Mq
open PySem L2 PyProof.Rows
def spL (K : PySem.W.Frag) : Sp := fun vs H Q _ => ∃ (a : Addr) (ns : List Int), vs = [.ref a] ∧ SqL K H a (ns.map V.int) ∧ ns.length ≤ 63 ∧ ∀ H', Q (.bl true) H'
/-- isinstance by a table -/
def isiOf (T : List (Ty × Str × Bool)) (ty : Ty) (t : Str) : Option Bool := (T.find? fun e => decide (e.1 = ty) && decide (e.2.1 = t)).map (·.2.2)
theorem isiOf_mem {T : List (Ty × Str × Bool)} {ty : Ty} {t : Str} {b : Bool} (h : isiOf T ty t = some b) : (ty, t, b) ∈ T := by
  unfold isiOf at h
  simp only [Option.map_eq_some_iff] at h
  obtain ⟨e, h1, rfl⟩ := h
  have h2 := List.find?_some h1
  simp only [Bool.and_eq_true, decide_eq_true_eq] at h2
  obtain ⟨rfl, rfl⟩ := h2
  exact List.mem_of_find?_eq_some h1
section
variable {G : Gx} {Pg : Program} {w : World} {K : PySem.W.Frag} {mg : Str → Option Value} {base : Heap}
/-- the law's run answers true -/
def Runs (P : PD) (d : DD) (k : Nat) : Prop := ∀ ns : List Int, ns.length ≤ 63 → ∃ st, runD (FP P k) d [.rol (ns.map Dt.int)] [] = .ok (.v (.bl true)) st
theorem law_fn {P : PD} {S : Sx} {d : DD} {k : Nat} {x qual par : Str} {st : Stmt} {f : Addr} {fd : FuncData} (h : HP G P S K mg) (hr : Runs P d k) (hp : d.ps = [par]) (F : Fun K x qual st f fd) (hc : ddC (S.on d st) d st = true) : FnOk Pg w K mg base (L2.CX Pg w) (2 * k + 2) f fd [par] (spL K) := by
  have I : Glx G (FP P k) (2 * k) S Pg w K mg base := prog_ok h k
  have q : FnOk Pg w K mg base (L2.CX Pg w) (2 * k + 2) f fd d.ps (spD G d.ps.length (runD (FP P k) d)) := fn_D (S := S.on d st) ⟨I.kk, I.defs, I.mks, I.mths, I.cls, I.ins, I.flds, I.glos, I.tys, I.blts, I.eqc⟩ hc F
  rw [hp] at q
  refine q.imp fun vs H Q E h2 => ?_
  obtain ⟨a, ns, rfl, hS, hl, hQ⟩ := h2
  obtain ⟨st', er⟩ := hr ns hl
  refine ⟨rfl, ⟨H, [], fun _ => none, fun _ => none, none⟩, [], [.rol (ns.map Dt.int)], rfl, ?_, .cons (.rol (by rw [← h.kk]; exact hS) (RepL.ints ns)) .nil, ?_⟩
  · exact ⟨fun _ _ e => e, fun _ _ e => (by cases e), fun _ => .inr rfl, rfl, fun n a e => (by simp at e), fun n m a e => (by simp at e)⟩
  · rw [er]
    intro v H' w' _ _ rf
    obtain rfl := Rep.inv_bl rf
    exact hQ H'
/-- what the head asks of a program: its written part -/
def LawF (P : PD) (S : Sx) (d : DD) (par : Str) (K : PySem.W.Frag) (mg : Str → Option Value) (x : Str) : Prop :=
  ∃ (G : Gx) (f : Addr) (fd : FuncData) (qual : Str) (st : Stmt), HP G P S K mg ∧ mg x = some (.ref f) ∧ Fun K x qual st f fd ∧ ddC (S.on d st) d st = true ∧ ∀ (s : Shared) (u : Value), BindsTo s fd ⟨[u], []⟩ [(par, u)]
theorem law_walk {l : PySem.W.OpenLaw} {q : Program} {loose : List Str} {XP : (Str → Option Value) → Heap → Prop} {YP : World → Heap → Prop} {dr : DefRec} {K : Params → PySem.W.Frag} (P : PD) (S : Sx) (d : DD) (par : Str) (k : Nat)
    (hn : l.most = some 63) (hdf : dr.params.defaults = []) (hk : Room (2 * k + 2) callerA) (hr : Runs P d k) (hp : d.ps = [par]) (hY : ∀ (w : World) (h : Heap), YP w h → (K w.params).In h)
    (F : ∀ (w : World) (mg : Str → Option Value) (h : Heap), (K w.params).In h → h.Ns mainGlobals mg → LawF P S d par (K w.params) mg dr.name) :
    PySem.W.WalkO q loose XP YP l.row.toRowW dr [] (fun f vs => PySem.call f vs) :=
  L2.walk_of (n := 63) (k := 2 * k + 2) (x := par) (CX := fun w => L2.CX l.prog w) (sp := fun w => spL (K w.params)) hn (by decide) hdf hk hY
    (fun w mg fa h KX hG hmg => by
      obtain ⟨G, f, fd, qual, st, hP, hf, FF, hc, hb⟩ := F w mg h KX hG
      rw [hmg] at hf; cases hf
      exact ⟨fd, hb, fun base _ _ => law_fn hP hr hp FF hc⟩)
    (fun _ _ a ns hl _ hS => ⟨a, ns, rfl, hS, hl, fun _ => rfl⟩) fun w H s e s' z => by
      obtain ⟨_, _, _, _, _, _, _, _, _, _, _, _, z⟩ := z
      exact z.elim
/-- a def's written part, by what the head finds -/
theorem hd_mk {h : Heap} {S : Sx} {d : DD} {f : Addr} {x qual : Str} {st : Stmt} {oc kV doc pm cdv ct : Value} {od an : Option Addr} {osl : Array (Option Value)}
    (l : K.lookup f = some ⟨oc, od, .func (PySem.W.fnOf x qual (defArgs st) (defBody st) (defScope st) .none kV doc pm an cdv ct), osl⟩) (c : PySem.W.codeIn K cdv qual = true) (k : PySem.W.keepIn K (.ref f) = true)
    (hb : ∀ (kV doc pm : Value) (an : Option Addr) (cdv ct : Value) (us : List Value), us.length = d.ps.length → bindArgs (PySem.W.fnOf x qual (defArgs st) (defBody st) (defScope st) .none kV doc pm an cdv ct) ⟨us, []⟩ = pure (d.ps.zip us)) (hc : ddC (S.on d st) d st = true) : HD K (S.on d st) d f x qual st :=
  have F := fun_mk (st := st) l c k
  ⟨⟨_, F, F.binds hb⟩, hc⟩
theorem hdef_mk {h : Heap} {S : Sx} {d : DD} {f : Addr} {x qual : Str} {st : Stmt} (X : K.In h) (N : h.Ns mainGlobals mg) (hx : d.x = x) (a : PySem.W.nsIn K mainGlobals x = some (some (.ref f))) (hD : HD K (S.on d st) d f x qual st) :
    ∃ (f : Addr) (qual : Str) (st : Stmt), mg d.x = some (.ref f) ∧ HD K (S.on d st) d f d.x qual st := by
  subst hx
  exact ⟨f, qual, st, PySem.W.mg_of X N a, hD⟩
theorem isi_b {T : List (Ty × Str × Bool)} {t : Str} {u : String} (h : (T.all fun e => decide (e.2.1 ≠ t) || (match e.1 with | .b s => decide (kitB s u = some e.2.2) | .c _ => false)) = true) (ty : Ty) (b : Bool) (hi : isiOf T ty t = some b) :
    ∃ tv, tyVal G ty = some tv ∧ PySem.W.kitOne G.K tv (.type u) = some b := by
  have q := List.all_eq_true.mp h _ (isiOf_mem hi)
  cases ty with
  | b s => exact ⟨_, rfl, kit_ty (by simpa using q)⟩
  | c n => simp at q
/-- a builtin's name in isinstance -/
theorem ty_b {T : List (Ty × Str × Bool)} {t : Str} {u : String} {X : Cx} (hm : X.mg t = none) (hb : bootBuiltins t = some (.type u)) (h : (T.all fun e => decide (e.2.1 ≠ t) || (match e.1 with | .b s => decide (kitB s u = some e.2.2) | .c _ => false)) = true) :
    ∃ c u v, ClsV c u ∧ RelV c v ∧ (X.mg t = some v ∨ (X.mg t = none ∧ bootBuiltins t = some v)) ∧ ∀ ty b, isiOf T ty t = some b → ∃ tv, tyVal G ty = some tv ∧ PySem.W.kitOne G.K tv u = some b :=
  ⟨.ty u, .type u, .type u, .ty u, rfl, .inr ⟨hm, hb⟩, isi_b h⟩
/-- what is seen of the tables alone -/
def pC (P : PD) (S : Sx) : Bool :=
  (S.defs.all fun e => P.defs.any fun d => decide (d.x = e.1) && decide (d.ps.length = e.2)) && decide P.names.Nodup &&
  (S.mks.all fun e => P.cls.any fun t => decide (t.x = e.1) && decide (t.d.ps.length = e.2 + 1)) && decide P.cnames.Nodup &&
  (S.mths.all fun e => P.mths.all fun t => decide (t.2.x ≠ e.1) || decide (t.2.ps.length = e.2)) && (P.cls.all fun t => decide (1 ≤ t.d.ps.length))
theorem pC_ok {P : PD} {S : Sx} (h : pC P S = true) : (∀ x n, (x, n) ∈ S.defs → ∃ d, d ∈ P.defs ∧ d.x = x ∧ d.ps.length = n) ∧ P.names.Nodup ∧ (∀ x n, (x, n) ∈ S.mks → ∃ t, t ∈ P.cls ∧ t.x = x ∧ t.d.ps.length = n + 1) ∧ P.cnames.Nodup ∧
    (∀ m n, (m, n) ∈ S.mths → ∀ t, t ∈ P.mths → t.2.x = m → t.2.ps.length = n) ∧ ∀ t, t ∈ P.cls → 1 ≤ t.d.ps.length := by
  simp only [pC, Bool.and_eq_true, List.all_eq_true, List.any_eq_true, decide_eq_true_eq, Bool.or_eq_true] at h
  obtain ⟨⟨⟨⟨⟨h1, h2⟩, h3⟩, h4⟩, h5⟩, h6⟩ := h
  refine ⟨fun x n m => ?_, h2, fun x n m => ?_, h4, fun m n hm t ht e => (h5 _ hm t ht).resolve_left (fun z => z e), h6⟩
  · obtain ⟨d, a, b, c⟩ := h1 _ m; exact ⟨d, a, b, c⟩
  · obtain ⟨d, a, b, c⟩ := h3 _ m; exact ⟨d, a, b, c⟩
/-- a class's written part -/
structure HC (K : PySem.W.Frag) (C : Addr) (fs : List Str) : Prop where
  cl : Cls K C
  it : InsT K C
  na : ∀ f, f ∈ fs → NoAttr K C f
theorem hc_mk {C : Addr} {fs : List Str} (pg : PySem.W.plainGet K C Str.empty = true) (hd : PySem.W.hasDictIn K C = true) (po : PySem.W.plainOver K C = true) (sa : PySem.W.findIn K (.ref C) "__setattr__" = some (some (.builtin "object.__setattr__")))
    (ha : PySem.W.findIn K (.ref C) "__class__" = some (some (.builtin "object.__class__"))) (hn : PySem.W.specialIn K (.builtin "object.__class__") "__get__" = some (some (.builtin "getset_descriptor.__get__"))) (htk : PySem.W.takesIn K (.builtin "object.__class__") = some true) (hm : PySem.W.mroIn K C (.type "object") = some true)
    (na : ∀ f, f ∈ fs → NoAttr K C f) : HC K C fs := ⟨⟨pg, hd, po, sa⟩, ⟨⟨pg, hd, po, sa⟩, ha, hn, htk, hm⟩, na⟩
def AllC (K : PySem.W.Frag) (fs : List Str) : List Addr → Prop
  | [] => True
  | C :: r => HC K C fs ∧ AllC K fs r
theorem allC_get {fs : List Str} : ∀ {Cs : List Addr} {c : Nat} {C : Addr}, AllC K fs Cs → Cs[c]? = some C → HC K C fs
  | [], _, _, _, e => by simp at e
  | D :: r, 0, C, h, e => by cases e; exact h.1
  | D :: r, c + 1, C, h, e => allC_get h.2 (by simpa using e)
theorem nf_e {Cs : List Addr} {c : Nat} {ty : Ty} {C0 : Addr} {t0 : Value} (e1 : Cs[c]? = some C0) (e2 : tyVal ⟨K, fun n => Cs[n]?, fun _ => none⟩ ty = some t0) (h : PySem.W.notFirst K C0 t0 = true) :
    ∀ C tv, Cs[(c, ty).1]? = some C → tyVal ⟨K, fun n => Cs[n]?, fun _ => none⟩ (c, ty).2 = some tv → PySem.W.notFirst K C tv = true := fun C tv a b => by
  have a : Cs[c]? = some C := a
  have b : tyVal ⟨K, fun n => Cs[n]?, fun _ => none⟩ ty = some tv := b
  rw [e1] at a; rw [e2] at b
  cases a; cases b; exact h
theorem own_e {Cs : List Addr} {c : Nat} {C0 : Addr} (e1 : Cs[c]? = some C0) (h : OwnN K C0) : ∀ C, Cs[c]? = some C → OwnN K C := fun C a => by
  rw [e1] at a; cases a; exact h
/-- an own class in isinstance -/
def TyE (G : Gx) (C : Addr) (t : Str) (T : List (Ty × Str × Bool)) : Prop := ∀ e, e ∈ T → e.2.1 = t → ∃ tv, tyVal G e.1 = some tv ∧ PySem.W.kitOne G.K tv (.ref C) = some e.2.2
theorem ty_nil {C : Addr} {t : Str} : TyE G C t [] := fun _ h => nomatch h
theorem ty_one {C : Addr} {t : Str} {e : Ty × Str × Bool} {T : List (Ty × Str × Bool)} (h : e.2.1 = t → ∃ tv, tyVal G e.1 = some tv ∧ PySem.W.kitOne G.K tv (.ref C) = some e.2.2) (r : TyE G C t T) : TyE G C t (e :: T) := fun x m => by
  rcases List.mem_cons.mp m with rfl | m
  · exact h
  · exact r x m
theorem ty_c {T : List (Ty × Str × Bool)} {t : Str} {C : Addr} {X : Cx} (hm : X.mg t = some (.ref C)) (h : TyE G C t T) :
    ∃ c u v, ClsV c u ∧ RelV c v ∧ (X.mg t = some v ∨ (X.mg t = none ∧ bootBuiltins t = some v)) ∧ ∀ ty b, isiOf T ty t = some b → ∃ tv, tyVal G ty = some tv ∧ PySem.W.kitOne G.K tv u = some b :=
  ⟨.ref C, .ref C, .ref C, .own C, rfl, .inl hm, fun ty b hi => h _ (isiOf_mem hi) rfl⟩
/-- whose == is asked first -/
def nfOf (N : List (Nat × Ty)) (c : Nat) (ty : Ty) : Bool := decide ((c, ty) ∈ N)
theorem hp_mk {P : PD} {S : Sx} {Cs : List Addr} {T : List (Ty × Str × Bool)} {N : List (Nat × Ty)} (hp : pC P S = true) (hi : P.isi = isiOf T) (hC : AllC K S.flds Cs)
    (defs : ∀ d, d ∈ P.defs → ∃ (f : Addr) (qual : Str) (st : Stmt), mg d.x = some (.ref f) ∧ HD K (S.on d st) d f d.x qual st)
    (mks : ∀ t, t ∈ P.cls → ∃ (C f : Addr) (x qual : Str) (st : Stmt), mg t.x = some (.ref C) ∧ Mk K C f ∧ Cs[t.c]? = some C ∧ HD K (S.on t.d st) t.d f x qual st)
    (mths : ∀ t, t ∈ P.mths → ∃ (C f : Addr) (qual : Str) (st : Stmt), Cs[t.1]? = some C ∧ Meth K C t.2.x f ∧ HD K (S.on t.2 st) t.2 f t.2.x qual st)
    (glos : ∀ x, x ∈ S.glos → ∃ (u : Value) (v : V) (d : Dt), mg x = some u ∧ RelV v u ∧ (∀ F A, Rep ⟨K, fun n => Cs[n]?, fun _ => none⟩ F A v d) ∧ P.glob x = some d)
    (tys : ∀ X : Cx, X.mg = mg → ∀ t, t ∈ S.tys → ∃ c u v, ClsV c u ∧ RelV c v ∧ (X.mg t = some v ∨ (X.mg t = none ∧ bootBuiltins t = some v)) ∧ ∀ ty b, isiOf T ty t = some b → ∃ tv, tyVal ⟨K, fun n => Cs[n]?, fun _ => none⟩ ty = some tv ∧ PySem.W.kitOne K tv u = some b)
    (blts : ∀ x, x ∈ S.blts → mg x = none) (hN : P.nf = nfOf N) (own : ∀ t, t ∈ P.mths → t.2.x = "__eq__" → ∀ C, Cs[t.1]? = some C → OwnN K C)
    (nfs : ∀ e, e ∈ N → ∀ C tv, Cs[e.1]? = some C → tyVal ⟨K, fun n => Cs[n]?, fun _ => none⟩ e.2 = some tv → PySem.W.notFirst K C tv = true) : HP ⟨K, fun n => Cs[n]?, fun _ => none⟩ P S K mg := by
  obtain ⟨h1, h2, h3, h4, h5, h6⟩ := pC_ok hp
  exact {
    kk := rfl
    defs := defs
    mks := fun t ht => let ⟨C, f, x, qual, st, a, b, c, d⟩ := mks t ht; ⟨C, f, x, qual, st, a, b, c, d, h6 t ht⟩
    mths := mths
    sd := h1, nd := h2, sm := h3, nm := h4, st := h5
    cls := fun c C e => (allC_get hC e).cl
    ins := fun c C e => (allC_get hC e).it
    flds := fun f hf c C e => (allC_get hC e).na f hf
    glos := glos
    tys := fun X _ e t ht => by rw [hi]; exact tys X e t ht
    blts := blts
    own := fun c C hc hC => by
      have hc : (ixOf2 c "__eq__" P.mnames).isSome = true := hc
      obtain ⟨i, hi⟩ := Option.isSome_iff_exists.mp hc
      have e := ixOf2_ok hi
      unfold PD.mnames at e
      simp only [List.getElem?_map, Option.map_eq_some_iff, Prod.mk.injEq] at e
      obtain ⟨t, et, rfl, ex⟩ := e
      exact own t (List.mem_of_getElem? et) ex C hC
    nf := fun c C ty tv h hC hv => by
      rw [hN] at h
      unfold nfOf at h
      have m : (c, ty) ∈ N := by simpa using h
      exact nfs _ m C tv hC hv }
/-- a global's datum -/
theorem glo_int {P : PD} {G : Gx} {h : Heap} {x : Str} {i : Int} {t : Tok} (X : K.In h) (N : h.Ns mainGlobals mg) (a : PySem.W.nsIn K mainGlobals x = some (some (.int i t))) (e : P.glob x = some (.int i)) : ∃ (u : Value) (v : V) (d : Dt), mg x = some u ∧ RelV v u ∧ (∀ F A, Rep G F A v d) ∧ P.glob x = some d :=
  ⟨_, .int i, _, PySem.W.mg_of X N a, ⟨t, rfl⟩, fun _ _ => .int i, e⟩
theorem glo_str {P : PD} {G : Gx} {h : Heap} {x y : Str} {t : Tok} (X : K.In h) (N : h.Ns mainGlobals mg) (a : PySem.W.nsIn K mainGlobals x = some (some (.str y t))) (e : P.glob x = some (.str y)) : ∃ (u : Value) (v : V) (d : Dt), mg x = some u ∧ RelV v u ∧ (∀ F A, Rep G F A v d) ∧ P.glob x = some d :=
  ⟨_, .str y, _, PySem.W.mg_of X N a, ⟨t, rfl⟩, fun _ _ => .str y, e⟩
theorem glo_tup {P : PD} {G : Gx} {h : Heap} {x : Str} {a : Addr} {od : Option Addr} {its : Array Value} {n : Nat} {sl : Array (Option Value)} {vs : List V} {ds : List Dt} (X : K.In h) (N : h.Ns mainGlobals mg) (hk : G.K = K) (e : PySem.W.nsIn K mainGlobals x = some (some (.ref a)))
    (l : K.lookup a = some ⟨.type "tuple", od, .seq its n, sl⟩) (hz : its.size ≤ 1000) (hv : Vals vs its.toList) (hr : ∀ F A, RepL G F A vs ds) (eg : P.glob x = some (.tup ds)) : ∃ (u : Value) (v : V) (d : Dt), mg x = some u ∧ RelV v u ∧ (∀ F A, Rep G F A v d) ∧ P.glob x = some d :=
  ⟨_, .ref a, _, PySem.W.mg_of X N e, rfl, fun F A => .tup (.inr ⟨_, its, n, by rw [hk]; exact l, rfl, rfl, Nat.le_trans hz (by decide), hv⟩) (hr F A), eg⟩
end
end Mq

/-! MqSim: trees run. -/
namespace Mq
open PySem L2
section
variable {L : Fns} {s t : SS} {a b : Type} {S : Type}
@[simp] theorem r_ok {x : a} {u : S} {f : a → S → Out S b} : (Out.ok x u).bind f = f x u := rfl
@[simp] theorem r_no {f : a → S → Out S b} : (Out.no : Out S a).bind f = .no := rfl
@[simp] theorem r_ex {c : Nat} {fs : List Dt} {u : S} {f : a → S → Out S b} : (Out.ex c fs u : Out S a).bind f = .ex c fs u := rfl
@[simp] theorem r_fix {x : a} {f : SS → SS} : (Out.ok x s).fix f = .ok x (f s) := rfl
@[simp] theorem r_nox {x : a} {u : S} : (Out.ok x u).noex = .ok x u := rfl
@[simp] theorem r_lift {x : RV} : lift (some x) s = .ok x s := rfl
@[simp] theorem r_liftB {x : Bool} : liftB (some x) s = .ok (.v (.bl x)) s := rfl
@[simp] theorem r_asB {x : Bool} : asB (.v (.bl x)) s = .ok x s := rfl
@[simp] theorem r_asI {x : Int} : asI (.v (.int x)) s = .ok x s := rfl
@[simp] theorem r_val {d : Dt} : val (.v d) s = .ok d s := rfl
@[simp] theorem r_valn {xs : List Dt} : val (.nl xs) s = .ok (.lst xs) s := rfl
@[simp] theorem r_sl {l : List Sl} {st : List MO} {i : Nat} {x : Sl} : (SS.mk l st).set i x = ⟨l.set i x, st⟩ := rfl
@[simp] theorem r_so {l : List Sl} {st : List MO} {i : Nat} {x : MO} : (SS.mk l st).setO i x = ⟨l, st.set i x⟩ := rfl
@[simp] theorem r_cst {d : Dt} : ev L (.cst d) s = .ok (.v d) s := by rw [ev]
@[simp] theorem r_varV {i : Nat} {d : Dt} (h : s.sl[i]? = some (.v d)) : ev L (.var i) s = .ok (.v d) s := by rw [ev, h]
@[simp] theorem r_varO {i : Nat} {xs : List Dt} (h : s.sl[i]? = some (.ol xs)) : ev L (.var i) s = .ok (.bw i) s := by rw [ev, h]
@[simp] theorem r_varK {i : Nat} {xs : List Dt} (h : s.sl[i]? = some (.lk xs)) : ev L (.var i) s = .ok (.bw i) s := by rw [ev, h]
@[simp] theorem r_varI {i c : Nat} {ns : List Str} {vs : List Dt} (h : s.sl[i]? = some (.oi c ns vs)) : ev L (.var i) s = .ok (.bw i) s := by rw [ev, h]
/-! ### expressions -/
@[simp] theorem e_glo {x : Str} {d : Dt} (h : L.glob x = some d) : ev L (.glo x) s = .ok (.v d) s := by rw [ev, h]
@[simp] theorem e_bin {op : Bop} {x y : ME} : ev L (.bin op x y) s = (ev L x s).bind fun x s => (ev L y s).bind fun y s => lift (binV op x y s) s := by rw [ev]
def negF (x : RV) (s : SS) : Out SS RV := match x with | .v (.int i) => .ok (.v (.int (-i))) s | _ => .no
@[simp] theorem negF_i {i : Int} : negF (.v (.int i)) s = .ok (.v (.int (-i))) s := rfl
@[simp] theorem e_neg {x : ME} : ev L (.neg x) s = (ev L x s).bind negF := by rw [ev]; rfl
@[simp] theorem e_cmp {op : Cop} {x y : ME} : ev L (.cmp op x y) s = (ev L x s).bind fun x s => (ev L y s).bind fun y s => liftB (cmpV op x y s) s := by rw [ev]
def cmp2F (L : Fns) (o2 : Cop) (c : ME) (y : RV) (b : Option Bool) (s : SS) : Out SS RV := match b with
    | some true => (ev L c s).bind fun z s => liftB (cmpV o2 y z s) s
    | some false => .ok (.v (.bl false)) s
    | none => .no
@[simp] theorem cmp2F_t {o2 : Cop} {c : ME} {y : RV} : cmp2F L o2 c y (some true) s = (ev L c s).bind fun z s => liftB (cmpV o2 y z s) s := rfl
@[simp] theorem cmp2F_f {o2 : Cop} {c : ME} {y : RV} : cmp2F L o2 c y (some false) s = .ok (.v (.bl false)) s := rfl
@[simp] theorem e_cmp2 {o1 o2 : Cop} {x y z : ME} : ev L (.cmp2 o1 o2 x y z) s = (ev L x s).bind fun x s => (ev L y s).bind fun y s => cmp2F L o2 z y (cmpV o1 x y s) s := by
  rw [ev]
  cases ev L x s with
  | ok x s =>
    show (ev L y s).bind _ = (ev L y s).bind _
    cases ev L y s with
    | ok y s =>
      show _ = cmp2F L o2 z y (cmpV o1 x y s) s
      unfold cmp2F
      cases h : cmpV o1 x y s with
      | none => simp only [r_ok, h]
      | some b => cases b <;> simp only [r_ok, h]
    | _ => rfl
  | _ => rfl
@[simp] theorem e_bool {o : Bool} {es : List ME} : ev L (.bool o es) s = evB L o es s := by rw [ev]
@[simp] theorem e_b1 {o : Bool} {x : ME} : evB L o [x] s = ev L x s := by rw [evB]
@[simp] theorem e_b2 {o : Bool} {x y : ME} {r : List ME} : evB L o (x :: y :: r) s = (ev L x s).bind fun x s => (asB x s).bind fun k s => if k == o then evB L o (y :: r) s else .ok (.v (.bl k)) s := evB_cons
@[simp] theorem e_not {x : ME} : ev L (.not x) s = (ev L x s).bind fun x s => (asB x s).bind fun b s => .ok (.v (.bl (!b))) s := by rw [ev]
@[simp] theorem e_ite {c x y : ME} : ev L (.ite c x y) s = (ev L c s).bind fun c s => (asB c s).bind fun k s => if k then ev L x s else ev L y s := by rw [ev]
@[simp] theorem e_tup {es : List ME} : ev L (.tup es) s = (evs L es s).bind fun ds s => if ds.length ≤ sizeLine then .ok (.v (.tup ds)) s else .no := by rw [ev]
@[simp] theorem e_lst {es : List ME} : ev L (.lst es) s = (evs L es s).bind fun ds s => if ds.length ≤ sizeLine then .ok (.nl ds) s else .no := by rw [ev]
@[simp] theorem e_idx {x y : ME} : ev L (.idx x y) s = (ev L x s).bind fun x s => (ev L y s).bind fun y s => lift (idxV x y s) s := by rw [ev]
@[simp] theorem e_slc {x : ME} {lo hi : Option ME} : ev L (.slc x lo hi) s = (ev L x s).bind fun x s => (evO L lo s).bind fun l s => (evO L hi s).bind fun h s => lift (slcV x l h s) s := by rw [ev]
@[simp] theorem e_o0 : evO L none s = .ok none s := by rw [evO]
def oF (x : RV) (s : SS) : Out SS (Option Int) := match x with | .v (.int i) => .ok (some i) s | _ => .no
@[simp] theorem oF_i {i : Int} : oF (.v (.int i)) s = .ok (some i) s := rfl
@[simp] theorem e_o1 {x : ME} : evO L (some x) s = (ev L x s).bind oF := by rw [evO]; rfl
@[simp] theorem e_fld {x : ME} {f : Str} : ev L (.fld x f) s = (ev L x s).bind fun x s => lift ((fldV x f s).map .v) s := by rw [ev]
@[simp] theorem e_call {x : Str} {es : List ME} : ev L (.call x es) s = (evs L es s).bind fun ds s => liftF (L.call x ds s.st) s := by rw [ev]
@[simp] theorem e_make {x : Str} {es : List ME} : ev L (.make x es) s = (evs L es s).bind fun ds s => liftF (L.make x ds s.st) s := by rw [ev]
@[simp] theorem e_bif1 {x : Str} {e : ME} : ev L (.bif x [e]) s = (ev L e s).bind fun r s => lift (bif1 x r s) s := by rw [ev]
@[simp] theorem e_bif2 {x : Str} {e f : ME} : ev L (.bif x [e, f]) s = (ev L e s).bind fun r s => (val r s).bind fun d s => (ev L f s).bind fun r s => (val r s).bind fun d' s => lift (bif2 x d d') s := by rw [ev]
def isiF (L : Fns) (t : Str) (x : RV) (s : SS) : Out SS RV := match (tyV x s).bind fun ty => L.isi ty t with
    | some b => .ok (.v (.bl b)) s
    | none => .no
@[simp] theorem isiF_y {t : Str} {x : RV} {ty : Ty} {b : Bool} (h : tyV x s = some ty) (h2 : L.isi ty t = some b) : isiF L t x s = .ok (.v (.bl b)) s := by
  unfold isiF
  rw [h]
  simp only [Option.bind_some, h2]
@[simp] theorem e_isi {x : ME} {t : Str} : ev L (.isi x t) s = (ev L x s).bind (isiF L t) := by rw [ev]; rfl
@[simp] theorem e_rev {x : ME} : ev L (.rev x) s = (ev L x s).bind fun x s => match rdl s x with
    | some xs => .ok (.nl xs.reverse) s
    | none => .no := by rw [ev]; try rfl
def allocF (x : RV) (s : SS) : Out SS RV := match x with
    | .nl xs => .ok (.v (.ref s.st.length)) { s with st := s.st ++ [.l xs] }
    | _ => .no
@[simp] theorem allocF_n {xs : List Dt} : allocF (.nl xs) s = .ok (.v (.ref s.st.length)) { s with st := s.st ++ [.l xs] } := rfl
@[simp] theorem e_alloc {x : ME} : ev L (.alloc x) s = (ev L x s).bind allocF := by rw [ev]; rfl
def bmeF (L : Fns) (m : Str) (e : ME) (r : RV) (s : SS) : Out SS RV := match rdt s r with
    | none => .no
    | some _ => (ev L e s).bind fun y s => (val y s).bind fun d s => (wrL r (mthF m d) s).bind fun d s => .ok (.v d) s
theorem bmeF_y {m : Str} {e : ME} {r : RV} {xs : List Dt} (h : rdt s r = some xs) : bmeF L m e r s = (ev L e s).bind fun y s => (val y s).bind fun d s => (wrL r (mthF m d) s).bind fun d s => .ok (.v d) s := by
  unfold bmeF; rw [h]
@[simp] theorem e_bme {x e : ME} {m : Str} : ev L (.bme x m [e]) s = (ev L x s).bind (bmeF L m e) := by rw [ev]; rfl
@[simp] theorem e_s0 : evs L [] s = .ok [] s := by rw [evs]
@[simp] theorem e_s1 {e : ME} {r : List ME} : evs L (e :: r) s = (ev L e s).bind fun x s => (val x s).bind fun d s => (evs L r s).bind fun ds s => .ok (d :: ds) s := by rw [evs]
@[simp] theorem r_liftF {v : RV} {l : List Sl} {st st' : List MO} : liftF (.ok v st') ⟨l, st⟩ = .ok v ⟨l, st'⟩ := rfl
/-! ### statements -/
def thenS (k : SS → Out SS Fl) (f : Fl) (s : SS) : Out SS Fl := match f with | .nx => k s | f => .ok f s
@[simp] theorem thenS_nx {k : SS → Out SS Fl} : thenS k .nx s = k s := rfl
@[simp] theorem thenS_ret {k : SS → Out SS Fl} {r : RV} : thenS k (.ret r) s = .ok (.ret r) s := rfl
@[simp] theorem thenS_bk {k : SS → Out SS Fl} : thenS k .bk s = .ok .bk s := rfl
@[simp] theorem thenS_ct {k : SS → Out SS Fl} : thenS k .ct s = .ok .ct s := rfl
@[simp] theorem x_nil : Mq.execs L [] s = .ok .nx s := by rw [Mq.execs]
@[simp] theorem x_cons {m : MS} {r : List MS} : Mq.execs L (m :: r) s = (Mq.exec L m s).bind (thenS (Mq.execs L r)) := by
  rw [Mq.execs]
  cases Mq.exec L m s with
  | ok f t => cases f <;> rfl
  | _ => rfl
@[simp] theorem toSl_n {xs : List Dt} : toSl (.nl xs) s = .ok (.ol xs) s := rfl
@[simp] theorem toSl_v {d : Dt} : toSl (.v d) s = .ok (.v d) s := rfl
@[simp] theorem toRet_v {d : Dt} : toRet (.v d) s = .ok (.v d) s := rfl
@[simp] theorem toRet_n {xs : List Dt} : toRet (.nl xs) s = .ok (.nl xs) s := rfl
@[simp] theorem x_asg {i : Nat} {e : ME} : Mq.exec L (.asg i e) s = (ev L e s).bind fun r s => (toSl r s).bind fun x s => .ok .nx (s.set i x) := by rw [Mq.exec]
def parF (i j : Nat) (ds : List Dt) (s : SS) : Out SS Fl := match ds with
    | [x, y] => .ok .nx ((s.set i (.v x)).set j (.v y))
    | _ => .no
@[simp] theorem parF_2 {i j : Nat} {x y : Dt} : parF i j [x, y] s = .ok .nx ((s.set i (.v x)).set j (.v y)) := rfl
@[simp] theorem x_par {i j : Nat} {e f : ME} : Mq.exec L (.par i j e f) s = (evs L [e, f] s).bind (parF i j) := by rw [Mq.exec]; rfl
@[simp] theorem x_unp {t : Tg} {e : ME} : Mq.exec L (.unp t e) s = (ev L e s).bind fun r s => (val r s).bind fun d s => (bindT t d s).bind fun _ s => .ok .nx s := by rw [Mq.exec]
@[simp] theorem x_seti {x y e : ME} : Mq.exec L (.seti x y e) s = (ev L e s).bind fun v s => (val v s).bind fun d s => (ev L x s).bind fun r s => (ev L y s).bind fun k s => (asI k s).bind fun k s => (wrL r (setF k d) s).bind fun _ s => .ok .nx s := by rw [Mq.exec]
@[simp] theorem x_setf {x e : ME} {f : Str} : Mq.exec L (.setf x f e) s = (ev L e s).bind fun y s => (val y s).bind fun d s => (ev L x s).bind fun r s => (wrF r f d s).bind fun _ s => .ok .nx s := by rw [Mq.exec]
@[simp] theorem x_expr {e : ME} : Mq.exec L (.expr e) s = (ev L e s).bind fun _ s => .ok .nx s := by rw [Mq.exec]
@[simp] theorem x_ret {e : ME} : Mq.exec L (.ret e) s = (ev L e s).bind fun r s => (toRet r s).bind fun r s => .ok (.ret r) s := by rw [Mq.exec]
@[simp] theorem x_retN : Mq.exec L .retN s = .ok (.ret (.v .non)) s := by rw [Mq.exec]
@[simp] theorem x_brk : Mq.exec L .brk s = .ok .bk s := by rw [Mq.exec]
@[simp] theorem x_cont : Mq.exec L .cont s = .ok .ct s := by rw [Mq.exec]
@[simp] theorem x_pass : Mq.exec L .pass s = .ok .nx s := by rw [Mq.exec]
@[simp] theorem x_ifs {c : ME} {x y : List MS} : Mq.exec L (.ifs c x y) s = (ev L c s).bind fun v s => (asB v s).bind fun k s => if k then Mq.execs L x s else Mq.execs L y s := by rw [Mq.exec]
theorem x_whl {n : Nat} {c : ME} {b : List MS} : Mq.exec L (.whl n c b) s = whN (fun s => (ev L c s).bind asB) (fun s => Mq.execs L b s) n s := by rw [Mq.exec]
theorem x_for {t : Tg} {i : MI} {b : List MS} : Mq.exec L (.forr t i b) s = (evI L i s).bind fun iv s => (forL (chk iv.ys iv.src) (fun s x => bindT t x s) (fun s => Mq.execs L b s) iv.xs (lock iv.src s)).fix fun s' => unlock iv.src s s' := by rw [Mq.exec]
@[simp] theorem i_rng {ms : List ME} {n : Int} {t : SS} (h : evs L ms s = .ok [.int n] t) (hn : rngOk n = true) : evI L (.rng ms) s = .ok ⟨rngI 0 n, .v .non, []⟩ t := by rw [evI, h]; simp [hn]
@[simp] theorem fin_nx : finD (.ok .nx s) = .ok (.v .non) s.st := rfl
@[simp] theorem fin_ret {r : RV} : finD (.ok (.ret r) s) = .ok r s.st := rfl
/-- a loop over numbers whose body keeps P -/
theorem for_inv {tg : SS → Dt → Out SS Unit} {b : SS → Out SS Fl} {ck : SS → Bool} (P : Nat → SS → Prop) : ∀ (xs : List Dt) (i : Nat) (s : SS), P i s →
    (∀ (j : Nat) (x : Dt) (s : SS), i ≤ j → xs[j - i]? = some x → P j s → ∃ s1 s2, tg s x = .ok () s1 ∧ (b s1 = .ok .nx s2 ∨ b s1 = .ok .ct s2) ∧ ck s2 = true ∧ P (j + 1) s2) → ∃ s', forL ck tg b xs s = .ok .nx s' ∧ P (i + xs.length) s'
  | [], i, s, h, _ => ⟨s, by rw [forL], h⟩
  | x :: xs, i, s, h, st => by
    obtain ⟨s1, s2, e1, e2, e3, p⟩ := st i x s (Nat.le_refl _) (by simp) h
    obtain ⟨s', e, q⟩ := for_inv P xs (i + 1) s2 p fun j y s hj hy hp => st j y s (by omega) (by
      have : j - i = (j - (i + 1)) + 1 := by omega
      rw [this, List.getElem?_cons_succ]; exact hy) hp
    refine ⟨s', ?_, by rw [List.length_cons]; have : i + (xs.length + 1) = i + 1 + xs.length := by omega
                       rw [this]; exact q⟩
    rw [forL, e1, r_ok]
    rcases e2 with e2 | e2 <;> rw [e2, r_ok] <;> simp only [e3, if_true] <;> exact e
end
end Mq

/-! MqVal: operators on data, by simp. -/
namespace Mq
open PySem L2
section
variable {L : Fns} {s : SS} {i j : Int}
@[simp] theorem v_add : binV .add (.v (.int i)) (.v (.int j)) s = some (.v (.int (i + j))) := rfl
@[simp] theorem v_sub : binV .sub (.v (.int i)) (.v (.int j)) s = some (.v (.int (i - j))) := rfl
theorem v_mulO (h : bitsOk i j = true) : binV .mul (.v (.int i)) (.v (.int j)) s = some (.v (.int (i * j))) := by
  show (if bitsOk i j = true then some (i * j) else none).map (fun k => RV.v (Dt.int k)) = _
  rw [if_pos h]; rfl
@[simp] theorem v_mod (h : 0 < j) : binV .mod (.v (.int i)) (.v (.int j)) s = some (.v (.int (i % j))) := by
  show (if 0 < j then some (i % j) else none).map (fun k => RV.v (Dt.int k)) = _
  rw [if_pos h]; rfl
theorem v_divO (h : smallDiv j = true) : binV .fdiv (.v (.int i)) (.v (.int j)) s = some (.v (.int (i / j))) := by
  show (if smallDiv j = true then some (i / j) else none).map (fun k => RV.v (Dt.int k)) = _
  rw [if_pos h]; rfl
theorem v_powO (h : powOk i j = true) : binV .pow (.v (.int i)) (.v (.int j)) s = some (.v (.int (i ^ j.toNat))) := by
  show (if powOk i j = true then some (i ^ j.toNat) else none).map (fun k => RV.v (Dt.int k)) = _
  rw [if_pos h]; rfl
/-- numbers that are not great -/
def Sm (i : Int) : Prop := i.natAbs < 2 ^ 4000
theorem log_lt {n m : Nat} (hm : 0 < m) (h : n < 2 ^ m) : n.log2 < m := by
  by_cases z : n = 0
  · subst z; simpa [Nat.log2_zero] using hm
  · exact (Nat.log2_lt z).mpr h
theorem Sm.bits (h1 : Sm i) (h2 : Sm j) : bitsOk i j = true := by
  have a := log_lt (by decide) h1
  have b := log_lt (by decide) h2
  simp only [bitsOk, decide_eq_true_eq]; omega
theorem Sm.div (h1 : Sm j) (h2 : 0 < j) : smallDiv j = true := by
  have a := log_lt (by decide) h1
  simp only [smallDiv, Bool.and_eq_true, decide_eq_true_eq]; omega
theorem two40 : (1099511627776 : Nat) ≤ 2 ^ 4000 := by
  have : (2 : Nat) ^ 40 ≤ 2 ^ 4000 := Nat.pow_le_pow_right (by decide) (by decide)
  exact this
theorem Sm.of40 (h : i.natAbs < 1099511627776) : Sm i := Nat.lt_of_lt_of_le h two40
@[simp] theorem v_mul (h1 : Sm i) (h2 : Sm j) : binV .mul (.v (.int i)) (.v (.int j)) s = some (.v (.int (i * j))) := v_mulO (h1.bits h2)
@[simp] theorem v_div (h1 : Sm j) (h2 : 0 < j) : binV .fdiv (.v (.int i)) (.v (.int j)) s = some (.v (.int (i / j))) := v_divO (h1.div h2)
@[simp] theorem c_lt : cmpV .lt (.v (.int i)) (.v (.int j)) s = some (decide (i < j)) := rfl
@[simp] theorem c_le : cmpV .le (.v (.int i)) (.v (.int j)) s = some (decide (i ≤ j)) := rfl
@[simp] theorem c_gt : cmpV .gt (.v (.int i)) (.v (.int j)) s = some (decide (j < i)) := rfl
@[simp] theorem c_ge : cmpV .ge (.v (.int i)) (.v (.int j)) s = some (decide (j ≤ i)) := rfl
@[simp] theorem c_eq : cmpV .eq (.v (.int i)) (.v (.int j)) s = some (decide (i = j)) := by
  show (if flat 40 (.int i) && flat 40 (.int j) then some (deq (.int i) (.int j)) else none) = _
  simp only [flat, deq, Bool.and_self, if_true, Option.some.injEq]
  by_cases h : i = j <;> simp [h]
@[simp] theorem c_ne : cmpV .ne (.v (.int i)) (.v (.int j)) s = some (decide (i ≠ j)) := by
  show (if flat 40 (.int i) && flat 40 (.int j) then some (!deq (.int i) (.int j)) else none) = _
  simp only [flat, deq, Bool.and_self, if_true, Option.some.injEq]
  by_cases h : i = j <;> simp [h]
/-- data that are plain -/
theorem c_eqD {x y : Dt} (hx : flat 40 x = true) (hy : flat 40 y = true) (rx : rdD s (.v x) = some x) (ry : rdD s (.v y) = some y) : cmpV .eq (.v x) (.v y) s = some (deq x y) := by
  show (match rdD s (.v x), rdD s (.v y) with
    | some x, some y => if flat 40 x && flat 40 y then some (deq x y) else none
    | _, _ => none) = _
  rw [rx, ry]; simp [hx, hy]
theorem c_neD {x y : Dt} (hx : flat 40 x = true) (hy : flat 40 y = true) (rx : rdD s (.v x) = some x) (ry : rdD s (.v y) = some y) : cmpV .ne (.v x) (.v y) s = some (!deq x y) := by
  show (match rdD s (.v x), rdD s (.v y) with
    | some x, some y => if flat 40 x && flat 40 y then some (!deq x y) else none
    | _, _ => none) = _
  rw [rx, ry]; simp [hx, hy]
/-! ### built-ins -/
@[simp] theorem b_len {x : RV} : bif1 "len" x s = bLen x s := rfl
@[simp] theorem b_abs {x : RV} : bif1 "abs" x s = bAbs x := rfl
@[simp] theorem b_int {x : RV} : bif1 "int" x s = bInt x := rfl
@[simp] theorem b_tup {x : RV} : bif1 "tuple" x s = bTup x s := rfl
@[simp] theorem b_lst {x : RV} : bif1 "list" x s = (rds s x).map fun xs => .nl xs := rfl
@[simp] theorem b_all {x : RV} : bif1 "all" x s = ((rdl s x).bind allBls).map fun bs => .v (.bl (bs.all id)) := rfl
@[simp] theorem b_sum {x : RV} : bif1 "sum" x s = ((rdl s x).bind allInts).map fun ns => .v (.int ns.sum) := rfl
@[simp] theorem b_min {x y : Int} : bif2 "min" (.int x) (.int y) = some (.v (.int (if y < x then y else x))) := rfl
@[simp] theorem b_max {x y : Int} : bif2 "max" (.int x) (.int y) = some (.v (.int (if y > x then y else x))) := rfl
@[simp] theorem abs_i : bAbs (.v (.int i)) = some (.v (.int (if i < 0 then -i else i))) := rfl
@[simp] theorem int_i : bInt (.v (.int i)) = some (.v (.int i)) := rfl
@[simp] theorem len_t {xs : List Dt} : bLen (.v (.tup xs)) s = some (.v (.int xs.length)) := rfl
@[simp] theorem len_l {xs : List Dt} : bLen (.v (.lst xs)) s = some (.v (.int xs.length)) := rfl
@[simp] theorem len_n {xs : List Dt} : bLen (.nl xs) s = some (.v (.int xs.length)) := rfl
@[simp] theorem tup_n {xs : List Dt} : bTup (.nl xs) s = some (.v (.tup xs)) := rfl
@[simp] theorem tup_l {xs : List Dt} : bTup (.v (.lst xs)) s = some (.v (.tup xs)) := rfl
/-! ### items -/
@[simp] theorem ix_t {xs : List Dt} : idxV (.v (.tup xs)) (.v (.int i)) s = (atI xs i).map .v := rfl
@[simp] theorem ix_l {xs : List Dt} : idxV (.v (.lst xs)) (.v (.int i)) s = (atI xs i).map .v := rfl
@[simp] theorem ix_n {xs : List Dt} : idxV (.nl xs) (.v (.int i)) s = (atI xs i).map .v := rfl
theorem ix_r {n : Nat} {xs : List Dt} (h : s.st[n]? = some (.l xs)) : idxV (.v (.ref n)) (.v (.int i)) s = (atI xs i).map .v := by
  show (match rds s (.v (.ref n)) with | some xs => (atI xs i).map RV.v | none => none) = _
  have e : rds s (.v (.ref n)) = some xs := by show (match s.st[n]? with | some (.l xs) => some xs | _ => none) = _; rw [h]
  rw [e]
theorem wr_r {n : Nat} {xs ys : List Dt} {d : Dt} {f : List Dt → Option (List Dt × Dt)} (h : s.st[n]? = some (.l xs)) (e : f xs = some (ys, d)) : wrL (.v (.ref n)) f s = .ok d (s.setO n (.l ys)) := by
  unfold wrL
  simp only [h, e]
theorem wr_o {n : Nat} {xs ys : List Dt} {d : Dt} {f : List Dt → Option (List Dt × Dt)} (h : s.sl[n]? = some (.ol xs)) (e : f xs = some (ys, d)) : wrL (.bw n) f s = .ok d (s.set n (.ol ys)) := by
  unfold wrL
  simp only [h, e]
@[simp] theorem at_0 {a : Type} {x : a} {r : List a} : atI (x :: r) 0 = some x := by simp [atI, ixN]
theorem at_n {a : Type} {xs : List a} {k : Nat} {x : a} (h : xs[k]? = some x) (e : i = (k : Int)) : atI xs i = some x := by rw [e]; exact atI_nat h
@[simp] theorem at_1 {a : Type} {x y : a} {r : List a} : atI (x :: y :: r) 1 = some y := at_n (k := 1) rfl rfl
@[simp] theorem at_2 {a : Type} {x y z : a} {r : List a} : atI (x :: y :: z :: r) 2 = some z := at_n (k := 2) rfl rfl
@[simp] theorem at_3 {a : Type} {x y z w : a} {r : List a} : atI (x :: y :: z :: w :: r) 3 = some w := at_n (k := 3) rfl rfl
@[simp] theorem at_4 {a : Type} {x y z w u : a} {r : List a} : atI (x :: y :: z :: w :: u :: r) 4 = some u := at_n (k := 4) rfl rfl
theorem sf_n {xs : List Dt} {k : Nat} {y : Dt} (h : k < xs.length) (e : i = (k : Int)) : setF i y xs = some (xs.set k y, .non) := by
  subst e
  unfold setF
  have : ixN xs.length (k : Int) = some k := by
    unfold ixN
    rw [if_pos (by omega), if_pos (by omega)]; simp
  rw [this]; rfl
@[simp] theorem sf_0 {y x : Dt} {r : List Dt} : setF 0 y (x :: r) = some (y :: r, .non) := sf_n (k := 0) (by simp) rfl
@[simp] theorem sf_1 {y x z : Dt} {r : List Dt} : setF 1 y (x :: z :: r) = some (x :: y :: r, .non) := sf_n (k := 1) (by simp) rfl
@[simp] theorem sf_2 {y x z w : Dt} {r : List Dt} : setF 2 y (x :: z :: w :: r) = some (x :: z :: y :: r, .non) := sf_n (k := 2) (by simp) rfl
@[simp] theorem sf_3 {y x z w u : Dt} {r : List Dt} : setF 3 y (x :: z :: w :: u :: r) = some (x :: z :: w :: y :: r, .non) := sf_n (k := 3) (by simp) rfl
@[simp] theorem sf_4 {y x z w u v : Dt} {r : List Dt} : setF 4 y (x :: z :: w :: u :: v :: r) = some (x :: z :: w :: u :: y :: r, .non) := sf_n (k := 4) (by simp) rfl
theorem get_set {a : Type} {l : List a} {n : Nat} {x : a} (h : n < l.length) : (l.set n x)[n]? = some x := List.getElem?_set_self h
@[simp] theorem ix_set {l : List Sl} {st : List MO} {n : Nat} {xs : List Dt} (h : n < st.length) : idxV (.v (.ref n)) (.v (.int i)) ⟨l, st.set n (.l xs)⟩ = (atI xs i).map .v := ix_r (get_set h)
def wrK (o : Option (List Dt × Dt)) (l : List Sl) (st : List MO) (n : Nat) : Out SS Dt := match o with
  | some (ys, d) => .ok d ⟨l, st.set n (.l ys)⟩
  | none => .no
@[simp] theorem wrK_y {ys : List Dt} {d : Dt} {l : List Sl} {st : List MO} {n : Nat} : wrK (some (ys, d)) l st n = .ok d ⟨l, st.set n (.l ys)⟩ := rfl
@[simp] theorem wr_set {l : List Sl} {st : List MO} {n : Nat} {xs : List Dt} {f : List Dt → Option (List Dt × Dt)} (h : n < st.length) : wrL (.v (.ref n)) f ⟨l, st.set n (.l xs)⟩ = wrK (f xs) l st n := by
  cases e : f xs with
  | none =>
    unfold wrL
    have := get_set (x := MO.l xs) h
    simp only [this, e]; rfl
  | some yd =>
    rw [wr_r (ys := yd.1) (d := yd.2) (get_set h) e]
    simp [wrK]
/-- an own list in a slot -/
def wrO (o : Option (List Dt × Dt)) (s : SS) (n : Nat) : Out SS Dt := match o with
  | some (ys, d) => .ok d (s.set n (.ol ys))
  | none => .no
@[simp] theorem wrO_y {ys : List Dt} {d : Dt} {n : Nat} : wrO (some (ys, d)) s n = .ok d (s.set n (.ol ys)) := rfl
@[simp] theorem wr_own {n : Nat} {xs : List Dt} {f : List Dt → Option (List Dt × Dt)} (h : s.sl[n]? = some (.ol xs)) : wrL (.bw n) f s = wrO (f xs) s n := by
  cases e : f xs with
  | none => unfold wrL; simp only [h, e]; rfl
  | some yd => rw [wr_o (ys := yd.1) (d := yd.2) h e]; rfl
theorem set_same {st : List MO} {n : Nat} {mo : MO} (h : st[n]? = some mo) : st = st.set n mo := by
  refine List.ext_getElem? fun j => ?_
  by_cases e : n = j
  · subst e; rw [get_set (List.getElem?_eq_some_iff.mp h).1]; exact h
  · rw [List.getElem?_set_ne e]
theorem at_map {cs : List Int} (h0 : 0 ≤ i) (h1 : i < cs.length) : ∃ c, c ∈ cs ∧ atI (cs.map Dt.int) i = some (.int c) := by
  obtain ⟨k, rfl⟩ := Int.eq_ofNat_of_zero_le h0
  have hk : k < cs.length := by omega
  exact ⟨cs[k], List.getElem_mem hk, at_n (k := k) (by simp [hk]) rfl⟩
/-! ### lists built -/
theorem i_seq {e : ME} {r : RV} {d : Dt} {xs : List Dt} {s1 s2 : SS} (h : ev L e s = .ok r s1) (h2 : val r s1 = .ok d s2) (h3 : rds s2 (.v d) = some xs) : evI L (.seq true e) s = .ok ⟨xs, .v d, xs⟩ s2 := by
  rw [evI, h, r_ok, if_pos rfl, h2, r_ok]
  simp only [h3]
theorem set_set {i : Nat} {x y : Sl} : (s.set i x).set i y = s.set i y := by
  unfold SS.set; simp
theorem lc_map {ck : SS → Bool} {e : SS → Out SS Dt} {i : Nat} {g : Dt → Dt} : ∀ (xs acc : List Dt) (y : Sl), (∀ x, x ∈ xs → e (s.set i (.v x)) = .ok (g x) (s.set i (.v x))) → (∀ z, ck (s.set i z) = true) → acc.length + xs.length ≤ sizeLine →
    ∃ z, lcLoop ck (fun s x => bindT (.n i) x s) [i] (fun s => .ok true s) e xs acc (s.set i y) = .ok (acc ++ xs.map g) (s.set i z)
  | [], acc, y, _, _, _ => ⟨y, by rw [lcLoop]; simp⟩
  | x :: xs, acc, y, he, hc, hl => by
    obtain ⟨z, ez⟩ := lc_map xs (acc ++ [g x]) (.v x) (fun x h => he x (List.mem_cons_of_mem _ h)) hc (by simp at hl ⊢; omega)
    refine ⟨z, ?_⟩
    rw [lcLoop]
    have e1 : bindT (.n i) x (wipeS [i] (s.set i y)) = .ok () (s.set i (.v x)) := by
      rw [bindT]
      show Out.ok () (((s.set i y).set i .un).set i (.v x)) = _
      rw [set_set, set_set]
    rw [e1, r_ok, r_ok, if_pos rfl, he x (List.mem_cons_self ..), r_ok, if_pos ⟨by simp at hl; omega, hc _⟩, ez]
    simp
theorem back_same {i : Nat} {z : Sl} (hi : i < s.sl.length) : backS s [i] (s.set i z) = s := by
  show (s.set i z).set i (s.sl.getD i .un) = s
  rw [set_set]
  unfold SS.set
  have : s.sl.set i (s.sl.getD i .un) = s.sl := by
    refine List.ext_getElem? fun j => ?_
    by_cases e : i = j
    · subst e; rw [List.getElem?_set_self hi, List.getD_eq_getElem?_getD, List.getElem?_eq_getElem hi]; rfl
    · rw [List.getElem?_set_ne e]
  rw [this]
def free1 (s : SS) (i : Nat) : Prop := s.sl[i]? = some .un ∨ ∃ y, s.sl[i]? = some (.v y)
theorem e_lc {el src : ME} {i : Nat} {s1 : SS} {d : Dt} {xs : List Dt} {g : Dt → Dt} (h1 : evI L (.seq true src) s = .ok ⟨xs, .v d, xs⟩ s1) (hd : ∀ n, d ≠ .ref n) (hi : free1 s1 i) (he : ∀ x, x ∈ xs → ev L el (s1.set i (.v x)) = .ok (.v (g x)) (s1.set i (.v x))) (hl : xs.length ≤ sizeLine) :
    ev L (.lc el (.n i) (.seq true src) none [i]) s = .ok (.nl (xs.map g)) s1 := by
  have hlt : i < s1.sl.length := by
    rcases hi with h | ⟨y, h⟩ <;> exact (List.getElem?_eq_some_iff.mp h).1
  rw [lc_ev, h1, r_ok]
  have hw : wipeOk [i] s1 = true := by
    unfold wipeOk
    rcases hi with h | ⟨y, h⟩ <;> simp [h]
  rw [if_pos hw]
  have hself : s1 = s1.set i (s1.sl.getD i .un) := by
    have := back_same (s := s1) (z := s1.sl.getD i .un) hlt
    unfold backS backS at this
    rw [set_set] at this
    exact this.symm
  have ck : ∀ z, chk xs (.v d) (s1.set i z) = true := fun z => by
    cases d <;> first | rfl | exact absurd rfl (hd _)
  obtain ⟨z, ez⟩ := lc_map (s := s1) (ck := chk xs (.v d)) (e := fun s => ((ev L el s).bind val).noex) (i := i) (g := g) xs [] (s1.sl.getD i .un) (fun x hx => by show ((ev L el _).bind val).noex = _; rw [he x hx]; rfl) ck (by simpa using hl)
  have lk : lock (.v d) s1 = s1 := rfl
  have cn : (fun s => (cndM L none s).noex) = fun s : SS => Out.ok true s := rfl
  rw [lk, cn]
  rw [← hself] at ez
  show ((lcLoop (chk xs (.v d)) (fun s x => bindT (.n i) x s) [i] (fun s => .ok true s) (fun s => ((ev L el s).bind val).noex) xs [] s1).fix _).bind _ = _
  rw [ez, r_fix, r_ok, back_same hlt]
  rfl
theorem cut_to {xs : List Dt} {n : Nat} : cutD xs none (some (n : Int)) = xs.take n := by
  unfold cutD
  rw [HT.sIx_none, HT.sIx_nat, List.drop_zero, Nat.sub_zero]
  by_cases h : n ≤ xs.length
  · rw [Nat.min_eq_left h]
  · rw [Nat.min_eq_right (by omega), List.take_of_length_le (Nat.le_refl _), List.take_of_length_le (by omega)]
theorem cut_from {xs : List Dt} {n : Nat} : cutD xs (some (n : Int)) none = xs.drop n := by
  unfold cutD
  rw [HT.sIx_none, HT.sIx_nat]
  by_cases h : n ≤ xs.length
  · rw [Nat.min_eq_left h, List.take_of_length_le (by rw [List.length_drop]; exact Nat.le_refl _)]
  · rw [Nat.min_eq_right (by omega), Nat.sub_self, List.take_zero, List.drop_eq_nil_of_le (by omega)]
end
end Mq

/-! MqVal2: comprehensions with a condition, loops with a break, equality of plain data. -/
namespace Mq
open PySem L2
section
variable {L : Fns} {s : SS} {i j : Int}
theorem lc_flt {ck : SS → Bool} {c : SS → Out SS Bool} {e : SS → Out SS Dt} {i : Nat} {p : Dt → Bool} {g : Dt → Dt} : ∀ (xs acc : List Dt) (y : Sl), (∀ x, x ∈ xs → c (s.set i (.v x)) = .ok (p x) (s.set i (.v x))) → (∀ x, x ∈ xs → p x = true → e (s.set i (.v x)) = .ok (g x) (s.set i (.v x))) → (∀ z, ck (s.set i z) = true) → acc.length + xs.length ≤ sizeLine →
    ∃ z, lcLoop ck (fun s x => bindT (.n i) x s) [i] c e xs acc (s.set i y) = .ok (acc ++ (xs.filter p).map g) (s.set i z)
  | [], acc, y, _, _, _, _ => ⟨y, by rw [lcLoop]; simp⟩
  | x :: xs, acc, y, hp, he, hc, hl => by
    have e1 : bindT (.n i) x (wipeS [i] (s.set i y)) = .ok () (s.set i (.v x)) := by
      rw [bindT]
      show Out.ok () (((s.set i y).set i .un).set i (.v x)) = _
      rw [set_set, set_set]
    cases hb : p x with
    | true =>
      obtain ⟨z, ez⟩ := lc_flt xs (acc ++ [g x]) (.v x) (fun x h => hp x (List.mem_cons_of_mem _ h)) (fun x h => he x (List.mem_cons_of_mem _ h)) hc (by simp at hl ⊢; omega)
      refine ⟨z, ?_⟩
      rw [lcLoop, e1, r_ok, hp x (List.mem_cons_self ..), r_ok, if_pos hb, he x (List.mem_cons_self ..) hb, r_ok, if_pos ⟨by simp at hl; omega, hc _⟩, ez]
      simp [hb]
    | false =>
      obtain ⟨z, ez⟩ := lc_flt xs acc (.v x) (fun x h => hp x (List.mem_cons_of_mem _ h)) (fun x h => he x (List.mem_cons_of_mem _ h)) hc (by simp at hl ⊢; omega)
      refine ⟨z, ?_⟩
      rw [lcLoop, e1, r_ok, hp x (List.mem_cons_self ..), r_ok, hb, if_neg (by decide), if_pos (hc _), ez]
      simp [hb]
theorem e_lcC {el cd : ME} {src : MI} {i : Nat} {s1 : SS} {d : Dt} {xs ys : List Dt} {p : Dt → Bool} {g : Dt → Dt} (h1 : evI L src s = .ok ⟨xs, .v d, ys⟩ s1) (hd : ∀ n, d ≠ .ref n) (hi : free1 s1 i) (hc : ∀ x, x ∈ xs → ev L cd (s1.set i (.v x)) = .ok (.v (.bl (p x))) (s1.set i (.v x)))
    (he : ∀ x, x ∈ xs → p x = true → ev L el (s1.set i (.v x)) = .ok (.v (g x)) (s1.set i (.v x))) (hl : xs.length ≤ sizeLine) :
    ev L (.lc el (.n i) src (some cd) [i]) s = .ok (.nl ((xs.filter p).map g)) s1 := by
  have hlt : i < s1.sl.length := by
    rcases hi with h | ⟨y, h⟩ <;> exact (List.getElem?_eq_some_iff.mp h).1
  rw [lc_ev, h1, r_ok]
  have hw : wipeOk [i] s1 = true := by
    unfold wipeOk
    rcases hi with h | ⟨y, h⟩ <;> simp [h]
  rw [if_pos hw]
  have hself : s1 = s1.set i (s1.sl.getD i .un) := by
    have := back_same (s := s1) (z := s1.sl.getD i .un) hlt
    unfold backS backS at this
    rw [set_set] at this
    exact this.symm
  have ck : ∀ z, chk ys (.v d) (s1.set i z) = true := fun z => by
    cases d <;> first | rfl | exact absurd rfl (hd _)
  obtain ⟨z, ez⟩ := lc_flt (s := s1) (ck := chk ys (.v d)) (c := fun s => (cndM L (some cd) s).noex) (e := fun s => ((ev L el s).bind val).noex) (i := i) (p := p) (g := g) xs [] (s1.sl.getD i .un)
    (fun x hx => by show (((ev L cd _).bind asB).noex).noex = _; rw [hc x hx]; rfl) (fun x hx hp => by show ((ev L el _).bind val).noex = _; rw [he x hx hp]; rfl) ck (by simpa using hl)
  have lk : lock (.v d) s1 = s1 := rfl
  rw [lk]
  rw [← hself] at ez
  show ((lcLoop (chk ys (.v d)) (fun s x => bindT (.n i) x s) [i] (fun s => (cndM L (some cd) s).noex) (fun s => ((ev L el s).bind val).noex) xs [] s1).fix _).bind _ = _
  rw [ez, r_fix, r_ok, back_same hlt]
  rfl
/-- a loop whose body keeps P, or ends it with Q -/
theorem for_brk {tg : SS → Dt → Out SS Unit} {b : SS → Out SS Fl} {ck : SS → Bool} (P : Nat → SS → Prop) (Q : SS → Prop) : ∀ (xs : List Dt) (i : Nat) (s : SS), P i s →
    (∀ (j : Nat) (x : Dt) (s : SS), i ≤ j → xs[j - i]? = some x → P j s → ∃ s1 s2, tg s x = .ok () s1 ∧ ((b s1 = .ok .nx s2 ∧ ck s2 = true ∧ P (j + 1) s2) ∨ (b s1 = .ok .bk s2 ∧ Q s2))) → ∃ s', forL ck tg b xs s = .ok .nx s' ∧ (P (i + xs.length) s' ∨ Q s')
  | [], i, s, h, _ => ⟨s, by rw [forL], .inl h⟩
  | x :: xs, i, s, h, st => by
    obtain ⟨s1, s2, e1, e2⟩ := st i x s (Nat.le_refl _) (by simp) h
    rcases e2 with ⟨e2, e3, p⟩ | ⟨e2, q⟩
    · obtain ⟨s', e, q⟩ := for_brk P Q xs (i + 1) s2 p fun j y s hj hy hp => st j y s (by omega) (by
        have : j - i = (j - (i + 1)) + 1 := by omega
        rw [this, List.getElem?_cons_succ]; exact hy) hp
      refine ⟨s', ?_, by rw [List.length_cons]; have : i + (xs.length + 1) = i + 1 + xs.length := by omega
                         rw [this]; exact q⟩
      rw [forL, e1, r_ok, e2, r_ok]
      simp only [e3, if_true]
      exact e
    · refine ⟨s2, ?_, .inr q⟩
      rw [forL, e1, r_ok, e2, r_ok]
theorem tup_bw {i : Nat} {xs : List Dt} (h : s.sl[i]? = some (.ol xs)) : bTup (.bw i) s = some (.v (.tup xs)) := by
  unfold bTup rdl rdt
  simp only [h]; rfl
theorem len_bw {i : Nat} {xs : List Dt} (h : s.sl[i]? = some (.ol xs)) : bLen (.bw i) s = some (.v (.int xs.length)) := by
  unfold bLen rds rdl rdt
  simp only [h]; rfl
theorem idx_bw {i : Nat} {xs : List Dt} {j : Int} (h : s.sl[i]? = some (.ol xs)) : idxV (.bw i) (.v (.int j)) s = (atI xs j).map .v := by
  unfold idxV rds rdl rdt
  simp only [h]
theorem add_bn {i : Nat} {xs ys : List Dt} (h : s.sl[i]? = some (.ol xs)) (hl : xs.length + ys.length ≤ sizeLine) : binV .add (.bw i) (.nl ys) s = some (.nl (xs ++ ys)) := by
  show (match rdt s (.bw i), rdt s (.nl ys) with
    | some x, some y => if x.length + y.length ≤ sizeLine then some (RV.nl (x ++ y)) else none
    | _, _ => none) = _
  have e : rdt s (.bw i) = some xs := by unfold rdt; simp only [h]
  rw [e]
  show (if xs.length + ys.length ≤ sizeLine then some (RV.nl (xs ++ ys)) else none) = _
  rw [if_pos hl]
theorem add_tt {xs ys : List Dt} (hl : xs.length + ys.length ≤ sizeLine) : binV .add (.v (.tup xs)) (.v (.tup ys)) s = some (.v (.tup (xs ++ ys))) := by
  show (if xs.length + ys.length ≤ sizeLine then some (RV.v (.tup (xs ++ ys))) else none) = _
  rw [if_pos hl]
theorem mul_t1 {x : Dt} {k : Nat} (h1 : 1 ≤ k) (h2 : k ≤ 1000) : binV .mul (.v (.tup [x])) (.v (.int k)) s = some (.v (.tup (List.replicate k x))) := by
  show (if (k : Int) = 1 then some (RV.v (.tup [x])) else if [x] ≠ [] ∧ 2 ≤ (k : Int) ∧ (k : Int) ≤ 1000 ∧ [x].length ≤ 1000 then some (RV.v (.tup (List.replicate (k : Int).toNat [x]).flatten)) else none) = _
  by_cases e : k = 1
  · subst e; rfl
  · rw [if_neg (by omega), if_pos ⟨List.cons_ne_nil _ _, by omega, by omega, by simp⟩]
    simp
mutual
theorem deq_self : ∀ (n : Nat) (x : Dt), flat n x = true → deq x x = true
  | _, .non, _ => by unfold deq; rfl
  | _, .bl b, _ => by unfold deq; simp
  | _, .int b, _ => by unfold deq; simp
  | _, .str b, _ => by unfold deq; simp
  | 0, .tup xs, h => by simp [flat] at h
  | 0, .lst xs, h => by simp [flat] at h
  | 0, .rol xs, h => by simp [flat] at h
  | 0, .ins _ _ _, h => by simp [flat] at h
  | 0, .ref _, h => by simp [flat] at h
  | n + 1, .tup xs, h => by
    unfold flat at h
    unfold deq
    exact deqL_self n xs h
  | n + 1, .lst xs, h => by
    unfold flat at h
    unfold deq
    exact deqL_self n xs h
  | n + 1, .rol xs, h => by
    unfold flat at h
    unfold deq
    exact deqL_self n xs h
  | n + 1, .ins _ _ _, h => by simp [flat] at h
  | n + 1, .ref _, h => by simp [flat] at h
  | 0, .dct, h => by simp [flat] at h
  | n + 1, .dct, h => by simp [flat] at h
theorem deqL_self : ∀ (n : Nat) (xs : List Dt), flatL n xs = true → deqL xs xs = true
  | _, [], _ => by unfold deqL; rfl
  | n, x :: r, h => by
    unfold flatL at h
    simp only [Bool.and_eq_true] at h
    unfold deqL
    rw [deq_self n x h.1, deqL_self n r h.2]; rfl
end
theorem rd_flat {x : Dt} {n : Nat} (h : flat n x = true) : rdD s (.v x) = some x := by
  cases x with
  | ref m =>
    cases n <;> simp [flat] at h
  | _ => rfl
theorem ne_self {x : Dt} (h : flat 40 x = true) : cmpV .ne (.v x) (.v x) s = some false := by
  rw [c_neD h h (rd_flat h) (rd_flat h), deq_self 40 x h]; rfl
theorem eq_self {x : Dt} (h : flat 40 x = true) : cmpV .eq (.v x) (.v x) s = some true := by
  rw [c_eqD h h (rd_flat h) (rd_flat h), deq_self 40 x h]
theorem flatL_map {a : Type} {n : Nat} {f : a → Dt} (h : ∀ x, flat n (f x) = true) : ∀ l : List a, flatL n (l.map f) = true
  | [] => by rw [List.map_nil]; unfold flatL; rfl
  | x :: r => by
    rw [List.map_cons]
    unfold flatL
    rw [h x, flatL_map h r]; rfl
def methF (L : Fns) (m : Str) (es : List ME) (x : RV) (s : SS) : Out SS RV := match x, mcls x m s with
    | .v d, some c => if L.hasM c m then (evs L es s).bind fun ds s => liftF (L.meth c m (d :: ds) s.st) s else .no
    | _, _ => .no
@[simp] theorem e_meth {a : ME} {m : Str} {es : List ME} : ev L (.meth a m es) s = (ev L a s).bind (methF L m es) := by
  rw [ev]
  congr 1
theorem methF_i {m : Str} {es : List ME} {c : Nat} {ns : List Str} {vs : List Dt} (h : ns.contains m = false) (h2 : L.hasM c m = true) : methF L m es (.v (.ins c ns vs)) s = (evs L es s).bind fun ds s => liftF (L.meth c m (.ins c ns vs :: ds) s.st) s := by
  have e : mcls (.v (.ins c ns vs)) m s = some c := by
    unfold mcls
    simp only
    rw [if_neg (by rw [h]; decide)]
  unfold methF
  rw [e]
  simp only [h2, if_true]
theorem e_lcG {el : ME} {src : MI} {i : Nat} {s1 : SS} {d : Dt} {xs ys : List Dt} {g : Dt → Dt} (h1 : evI L src s = .ok ⟨xs, .v d, ys⟩ s1) (ck : ∀ z, chk ys (.v d) (s1.set i z) = true) (hi : free1 s1 i) (he : ∀ x, x ∈ xs → ev L el (s1.set i (.v x)) = .ok (.v (g x)) (s1.set i (.v x))) (hl : xs.length ≤ sizeLine) :
    ev L (.lc el (.n i) src none [i]) s = .ok (.nl (xs.map g)) s1 := by
  have hlt : i < s1.sl.length := by
    rcases hi with h | ⟨y, h⟩ <;> exact (List.getElem?_eq_some_iff.mp h).1
  rw [lc_ev, h1, r_ok]
  have hw : wipeOk [i] s1 = true := by
    unfold wipeOk
    rcases hi with h | ⟨y, h⟩ <;> simp [h]
  rw [if_pos hw]
  have hself : s1 = s1.set i (s1.sl.getD i .un) := by
    have := back_same (s := s1) (z := s1.sl.getD i .un) hlt
    unfold backS backS at this
    rw [set_set] at this
    exact this.symm
  obtain ⟨z, ez⟩ := lc_map (s := s1) (ck := chk ys (.v d)) (e := fun s => ((ev L el s).bind val).noex) (i := i) (g := g) xs [] (s1.sl.getD i .un) (fun x hx => by show ((ev L el _).bind val).noex = _; rw [he x hx]; rfl) ck (by simpa using hl)
  have lk : lock (.v d) s1 = s1 := rfl
  have cn : (fun s => (cndM L none s).noex) = fun s : SS => Out.ok true s := rfl
  rw [lk, cn]
  rw [← hself] at ez
  show ((lcLoop (chk ys (.v d)) (fun s x => bindT (.n i) x s) [i] (fun s => .ok true s) (fun s => ((ev L el s).bind val).noex) xs [] s1).fix _).bind _ = _
  rw [ez, r_fix, r_ok, back_same hlt]
  rfl
/-- a comprehension whose items change the state -/
theorem lc_st {ck : SS → Bool} {tg : SS → Dt → Out SS Unit} {own : List Nat} {e : SS → Out SS Dt} (P : Nat → List Dt → SS → Prop) : ∀ (xs : List Dt) (i : Nat) (acc : List Dt) (s : SS), P i acc s →
    (∀ (j : Nat) (x : Dt) (acc : List Dt) (s : SS), i ≤ j → xs[j - i]? = some x → P j acc s → ∃ d s2, ((tg (wipeS own s) x).bind fun _ s => e s) = .ok d s2 ∧ ck s2 = true ∧ P (j + 1) (acc ++ [d]) s2) → acc.length + xs.length ≤ sizeLine →
    ∃ acc' s', lcLoop ck tg own (fun s => .ok true s) e xs acc s = .ok acc' s' ∧ P (i + xs.length) acc' s'
  | [], i, acc, s, h, _, _ => ⟨acc, s, by rw [lcLoop], h⟩
  | x :: xs, i, acc, s, h, st, hl => by
    obtain ⟨d, s2, e1, e2, p⟩ := st i x acc s (Nat.le_refl _) (by simp) h
    obtain ⟨acc', s', e3, p3⟩ := lc_st P xs (i + 1) (acc ++ [d]) s2 p (fun j y acc s hj hy hp => st j y acc s (by omega) (by
      have : j - i = (j - (i + 1)) + 1 := by omega
      rw [this, List.getElem?_cons_succ]; exact hy) hp) (by simp at hl ⊢; omega)
    refine ⟨acc', s', ?_, by rw [List.length_cons]; have : i + (xs.length + 1) = i + 1 + xs.length := by omega
                             rw [this]; exact p3⟩
    rw [lcLoop]
    cases ht : tg (wipeS own s) x with
    | no => rw [ht] at e1; cases e1
    | ex c fs t => rw [ht] at e1; cases e1
    | ok y t =>
      rw [ht] at e1
      have e1 : e t = .ok d s2 := e1
      rw [r_ok, r_ok, if_pos rfl, e1, r_ok, if_pos ⟨by simp at hl; omega, e2⟩]
      exact e3
theorem e_lcS {el : ME} {src : MI} {i : Nat} {s1 : SS} {d : Dt} {xs ys : List Dt} (P : Nat → List Dt → SS → Prop) (h1 : evI L src s = .ok ⟨xs, .v d, ys⟩ s1) (hd : ∀ n, d ≠ .ref n) (hi : free1 s1 i) (h0 : P 0 [] s1)
    (he : ∀ (j : Nat) (x : Dt) (acc : List Dt) (s : SS), xs[j]? = some x → P j acc s → ∃ d s2, ev L el ((s.set i .un).set i (.v x)) = .ok (.v d) s2 ∧ P (j + 1) (acc ++ [d]) s2) (hl : xs.length ≤ sizeLine) :
    ∃ acc s', P xs.length acc s' ∧ ev L (.lc el (.n i) src none [i]) s = .ok (.nl acc) (s'.set i (s1.sl.getD i .un)) := by
  have hw : wipeOk [i] s1 = true := by
    unfold wipeOk
    rcases hi with h | ⟨y, h⟩ <;> simp [h]
  have ck : ∀ z : SS, chk ys (.v d) z = true := fun z => by
    cases d <;> first | rfl | exact absurd rfl (hd _)
  obtain ⟨acc, s', e, p⟩ := lc_st (ck := chk ys (.v d)) (tg := fun s x => bindT (.n i) x s) (own := [i]) (e := fun s => ((ev L el s).bind val).noex) P xs 0 [] s1 h0 (fun j x acc s _ hx hp => by
    rw [Nat.sub_zero] at hx
    obtain ⟨d, s2, e, p⟩ := he j x acc s hx hp
    refine ⟨d, s2, ?_, ck _, p⟩
    show (Out.bind (.ok () ((s.set i .un).set i (.v x))) _) = _
    rw [r_ok]
    show ((ev L el _).bind val).noex = _
    rw [e]; rfl) (by simpa using hl)
  rw [Nat.zero_add] at p
  refine ⟨acc, s', p, ?_⟩
  rw [lc_ev, h1, r_ok, if_pos hw]
  have lk : lock (.v d) s1 = s1 := rfl
  have cn : (fun s => (cndM L none s).noex) = fun s : SS => Out.ok true s := rfl
  rw [lk, cn]
  show ((lcLoop (chk ys (.v d)) (fun s x => bindT (.n i) x s) [i] (fun s => .ok true s) (fun s => ((ev L el s).bind val).noex) xs [] s1).fix _).bind _ = _
  rw [e, r_fix, r_ok]
  rfl
end
end Mq

namespace K06
open PySem L2 Mq
/-! ### the trees -/
def top (i : Nat) : Stmt := PySem.Challenge.pw_quitsways_k06_whole_rows_and_ways_judged.main.body.getD i (.Pass ⟨0, 0, 0, 0⟩)
abbrev s_law_draw : Stmt := top 32
def d_law_draw : DD := ⟨"_law_draw", ["_law_hand_here", "_law_many"], ["_law_hand_here", "_law_many", "_law_number", "_law_cell", "_law_digit"], [.ifs (.bool true [.cmp .eq (.idx (.var 0) (.cst (.int 2))) (.cst (.int 0)), .cmp .lt (.idx (.var 0) (.cst (.int 1))) (.bif "len" [.idx (.var 0) (.cst (.int 0))])]) [.asg 3 (.idx (.idx (.var 0) (.cst (.int 0))) (.idx (.var 0) (.cst (.int 1)))), .seti (.var 0) (.cst (.int 1)) (.bin .add (.idx (.var 0) (.cst (.int 1))) (.cst (.int 1))), .seti (.var 0) (.cst (.int 3)) (.bin .mod (.bif "int" [.bin .add (.bin .add (.bin .mul (.idx (.var 0) (.cst (.int 3))) (.cst (.int 69621))) (.var 3)) (.cst (.int 11))]) (.cst (.int 2147483629))), .ifs (.cmp .ge (.var 3) (.bin .pow (.cst (.int 10)) (.cst (.int 18)))) [.seti (.var 0) (.cst (.int 2)) (.var 3)] []] [], .ifs (.cmp .gt (.idx (.var 0) (.cst (.int 2))) (.cst (.int 0))) [.asg 4 (.bin .mod (.bif "int" [.idx (.var 0) (.cst (.int 2))]) (.var 1)), .seti (.var 0) (.cst (.int 2)) (.bin .fdiv (.idx (.var 0) (.cst (.int 2))) (.var 1)), .ret (.var 4)] [], .seti (.var 0) (.cst (.int 4)) (.bin .add (.idx (.var 0) (.cst (.int 4))) (.cst (.int 1))), .asg 2 (.bin .mod (.bif "int" [.bin .mul (.bif "int" [.bin .add (.idx (.var 0) (.cst (.int 3))) (.bin .mul (.cst (.int 7919)) (.idx (.var 0) (.cst (.int 4))))]) (.cst (.int 48271))]) (.cst (.int 2147483647))), .asg 2 (.bin .mod (.bif "int" [.bin .mul (.var 2) (.bin .add (.bin .fdiv (.var 2) (.cst (.int 1009))) (.cst (.int 69621)))]) (.cst (.int 2147483647))), .asg 2 (.bin .mod (.bif "int" [.bin .mul (.var 2) (.bin .add (.bin .fdiv (.var 2) (.cst (.int 2003))) (.cst (.int 40692)))]) (.cst (.int 2147483399))), .ret (.bin .mod (.bif "int" [.bin .fdiv (.var 2) (.cst (.int 16))]) (.var 1))]⟩
abbrev s_law_is_below : Stmt := top 38
def d_law_is_below : DD := ⟨"_law_is_below", ["_law_one", "_law_other"], ["_law_one", "_law_other"], [.ret (.cmp .lt (.bin .mul (.idx (.var 0) (.cst (.int 0))) (.idx (.var 1) (.cst (.int 1)))) (.bin .mul (.idx (.var 1) (.cst (.int 0))) (.idx (.var 0) (.cst (.int 1)))))]⟩
abbrev s_law_common : Stmt := top 33
def d_law_common : DD := ⟨"_law_common", ["_law_one", "_law_other"], ["_law_one", "_law_other", "_law_turn", "_law_rest"], [.asg 0 (.bif "abs" [.var 0]), .asg 1 (.bif "abs" [.var 1]), .forr (.n 2) (.rng [.cst (.int 600)]) [.ifs (.cmp .eq (.var 1) (.cst (.int 0))) [.brk] [], .asg 3 (.bin .mod (.bif "int" [.var 0]) (.var 1)), .asg 0 (.var 1), .asg 1 (.var 3)], .ret (.var 0)]⟩
abbrev s_law_fraction : Stmt := top 34
def d_law_fraction : DD := ⟨"_law_fraction", ["_law_top", "_law_bottom"], ["_law_top", "_law_bottom", "_law_divisor"], [.asg 2 (.call "_law_common" [.var 0, .var 1]), .ret (.tup [.bin .fdiv (.var 0) (.var 2), .bin .fdiv (.var 1) (.var 2)])]⟩
abbrev s_law_less : Stmt := top 36
def d_law_less : DD := ⟨"_law_less", ["_law_one", "_law_other"], ["_law_one", "_law_other"], [.ret (.call "_law_fraction" [.bin .sub (.bin .mul (.idx (.var 0) (.cst (.int 0))) (.idx (.var 1) (.cst (.int 1)))) (.bin .mul (.idx (.var 1) (.cst (.int 0))) (.idx (.var 0) (.cst (.int 1)))), .bin .mul (.idx (.var 0) (.cst (.int 1))) (.idx (.var 1) (.cst (.int 1)))])]⟩
abbrev s_law_go : Stmt := top 45
def d_law_go : DD := ⟨"_law_go", ["_law_state", "_law_pair"], ["_law_state", "_law_pair", "_law_owed", "_law_due_here", "_law_amount"], [.asg 2 (.bif "list" [.idx (.var 0) (.cst (.int 0))]), .asg 3 (.bif "list" [.idx (.var 0) (.cst (.int 1))]), .asg 4 (.idx (.var 2) (.idx (.var 1) (.cst (.int 0)))), .ifs (.call "_law_is_below" [.idx (.var 3) (.idx (.var 1) (.cst (.int 1))), .var 4]) [.asg 4 (.idx (.var 3) (.idx (.var 1) (.cst (.int 1))))] [], .seti (.var 2) (.idx (.var 1) (.cst (.int 0))) (.call "_law_less" [.idx (.var 2) (.idx (.var 1) (.cst (.int 0))), .var 4]), .seti (.var 3) (.idx (.var 1) (.cst (.int 1))) (.call "_law_less" [.idx (.var 3) (.idx (.var 1) (.cst (.int 1))), .var 4]), .ret (.tup [.tup [.bif "tuple" [.var 2], .bif "tuple" [.var 3]], .var 4])]⟩
abbrev s_law_is_number : Stmt := top 50
def d_law_is_number : DD := ⟨"_law_is_number", ["_law_thing", "_law_many"], ["_law_thing", "_law_many"], [.ret (.bool true [.isi (.var 0) "int", .not (.isi (.var 0) "bool"), .cmp2 .le .lt (.cst (.int 0)) (.var 0) (.var 1)])]⟩
abbrev s_law_due : Stmt := top 51
def d_law_due : DD := ⟨"_law_due", ["_law_sums_here", "_law_thing"], ["_law_sums_here", "_law_thing", "_law_state", "_law_pair", "_law_rest"], [.ifs (.not (.isi (.var 1) "tuple")) [.ret (.tup [.cst (.bl false), .cst (.bl false)])] [], .asg 2 (.var 0), .forr (.n 3) (.seq true (.var 1)) [.ifs (.bool false [.not (.isi (.var 3) "tuple"), .cmp .ne (.bif "len" [.var 3]) (.cst (.int 2))]) [.ret (.tup [.cst (.bl false), .cst (.bl false)])] [], .ifs (.bool false [.not (.call "_law_is_number" [.idx (.var 3) (.cst (.int 0)), .bif "len" [.idx (.var 0) (.cst (.int 0))]]), .not (.call "_law_is_number" [.idx (.var 3) (.cst (.int 1)), .bif "len" [.idx (.var 0) (.cst (.int 1))]])]) [.ret (.tup [.cst (.bl false), .cst (.bl false)])] [], .ifs (.bool false [.cmp .eq (.idx (.idx (.var 2) (.cst (.int 0))) (.idx (.var 3) (.cst (.int 0)))) (.tup [.cst (.int 0), .cst (.int 1)]), .cmp .eq (.idx (.idx (.var 2) (.cst (.int 1))) (.idx (.var 3) (.cst (.int 1)))) (.tup [.cst (.int 0), .cst (.int 1)])]) [.ret (.tup [.cst (.bl false), .cst (.bl false)])] [], .asg 2 (.idx (.call "_law_go" [.var 2, .var 3]) (.cst (.int 0)))], .ret (.tup [.cst (.bl true), .cmp .eq (.bif "len" [.lc (.var 4) (.n 4) (.seq true (.idx (.var 2) (.cst (.int 0)))) (some (.cmp .ne (.var 4) (.tup [.cst (.int 0), .cst (.int 1)]))) [4]]) (.cst (.int 0))])]⟩
abbrev s_law_hand : Stmt := top 31
def d_law_hand : DD := ⟨"_law_hand", ["_law_script"], ["_law_script", "_law_cells", "_law_cell"], [.asg 1 (.lc (.bif "abs" [.bif "int" [.var 2]]) (.n 2) (.seq true (.slc (.var 0) none (some (.cst (.int 63))))) none [2]), .ret (.lst [.var 1, .cst (.int 0), .cst (.int 0), .bin .add (.cst (.int 1)) (.bif "len" [.var 1]), .cst (.int 0)])]⟩
abbrev s_common_divisor : Stmt := top 10
def d_common_divisor : DD := ⟨"common_divisor", ["one", "other"], ["one", "other"], [.par 0 1 (.bif "abs" [.var 0]) (.bif "abs" [.var 1]), .whl 1000 (.cmp .gt (.var 1) (.cst (.int 0))) [.par 0 1 (.var 1) (.bin .mod (.var 0) (.var 1))], .ret (.var 0)]⟩
abbrev s_is_integer : Stmt := top 5
def d_is_integer : DD := ⟨"is_integer", ["thing"], ["thing"], [.ret (.bool true [.isi (.var 0) "int", .not (.isi (.var 0) "bool")])]⟩
abbrev s_is_pair : Stmt := top 7
def d_is_pair : DD := ⟨"is_pair", ["thing"], ["thing"], [.ret (.bool true [.isi (.var 0) "tuple", .cmp .eq (.bif "len" [.var 0]) (.cst (.int 2))])]⟩
abbrev s_is_fraction : Stmt := top 17
def d_is_fraction : DD := ⟨"is_fraction", ["thing"], ["thing"], [.ifs (.bool false [.not (.call "is_pair" [.var 0]), .not (.call "is_integer" [.idx (.var 0) (.cst (.int 0))]), .not (.call "is_integer" [.idx (.var 0) (.cst (.int 1))]), .cmp .lt (.idx (.var 0) (.cst (.int 1))) (.cst (.int 1))]) [.ret (.cst (.bl false))] [], .ret (.cmp .eq (.call "common_divisor" [.idx (.var 0) (.cst (.int 0)), .idx (.var 0) (.cst (.int 1))]) (.cst (.int 1)))]⟩
abbrev s_is_amount : Stmt := top 18
def d_is_amount : DD := ⟨"is_amount", ["thing"], ["thing"], [.ret (.bool true [.call "is_fraction" [.var 0], .cmp .gt (.idx (.var 0) (.cst (.int 0))) (.cst (.int 0))])]⟩
abbrev s_are_sums : Stmt := top 28
def d_are_sums : DD := ⟨"are_sums", ["thing"], ["thing", "item"], [.ret (.bool true [.isi (.var 0) "tuple", .cmp2 .le .le (.cst (.int 1)) (.bif "len" [.var 0]) (.glo "MOST_SIDE"), .bif "all" [.lc (.call "is_amount" [.var 1]) (.n 1) (.seq true (.var 0)) none [1]]])]⟩
abbrev s_made : Stmt := top 11
def d_made : DD := ⟨"made", ["top", "bottom"], ["top", "bottom", "divisor"], [.asg 2 (.call "common_divisor" [.var 0, .var 1]), .ret (.tup [.bin .fdiv (.var 0) (.var 2), .bin .fdiv (.var 1) (.var 2)])]⟩
abbrev s_plus : Stmt := top 12
def d_plus : DD := ⟨"plus", ["one", "other"], ["one", "other"], [.ret (.call "made" [.bin .add (.bin .mul (.idx (.var 0) (.cst (.int 0))) (.idx (.var 1) (.cst (.int 1)))) (.bin .mul (.idx (.var 1) (.cst (.int 0))) (.idx (.var 0) (.cst (.int 1)))), .bin .mul (.idx (.var 0) (.cst (.int 1))) (.idx (.var 1) (.cst (.int 1)))])]⟩
abbrev s_total_of : Stmt := top 16
def d_total_of : DD := ⟨"total_of", ["fractions"], ["fractions", "found", "fraction"], [.asg 1 (.glo "ZERO"), .forr (.n 2) (.seq true (.var 0)) [.asg 1 (.call "plus" [.var 1, .var 2])], .ret (.var 1)]⟩
abbrev s_Evening__init_ : Stmt := inClass (top 29) 0
def d_Evening__init_ : DD := ⟨"__init__", ["self", "owed", "due"], ["self", "owed", "due"], [.ifs (.not (.call "are_sums" [.var 1])) [.nev] [], .ifs (.not (.call "are_sums" [.var 2])) [.nev] [], .ifs (.cmp .ne (.call "total_of" [.var 1]) (.call "total_of" [.var 2])) [.nev] [], .setf (.var 0) "owed" (.var 1), .setf (.var 0) "due" (.var 2)]⟩
abbrev s_law_made : Stmt := top 44
def d_law_made : DD := ⟨"_law_made", ["_law_sums_here"], ["_law_sums_here"], [.ret (.make "Evening" [.idx (.var 0) (.cst (.int 0)), .idx (.var 0) (.cst (.int 1))])]⟩
abbrev s_law_pairs : Stmt := top 46
def d_law_pairs : DD := ⟨"_law_pairs", ["_law_state"], ["_law_state", "_law_found", "_law_ower", "_law_taker"], [.asg 1 (.lst []), .forr (.n 2) (.rng [.bif "len" [.idx (.var 0) (.cst (.int 0))]]) [.ifs (.cmp .ne (.idx (.idx (.var 0) (.cst (.int 0))) (.var 2)) (.tup [.cst (.int 0), .cst (.int 1)])) [.asg 1 (.bin .add (.var 1) (.lc (.tup [.var 2, .var 3]) (.n 3) (.rng [.bif "len" [.idx (.var 0) (.cst (.int 1))]]) (some (.cmp .ne (.idx (.idx (.var 0) (.cst (.int 1))) (.var 3)) (.tup [.cst (.int 0), .cst (.int 1)]))) [3]))] []], .ret (.var 1)]⟩
abbrev s_law_row : Stmt := top 47
def d_law_row : DD := ⟨"_law_row", ["_law_hand_here", "_law_sums_here", "_law_most"], ["_law_hand_here", "_law_sums_here", "_law_most", "_law_state", "_law_row_here", "_law_amounts", "_law_turn", "_law_pairs_here", "_law_pair", "_law_amount"], [.asg 3 (.var 1), .asg 4 (.tup []), .asg 5 (.tup []), .forr (.n 6) (.rng [.var 2]) [.asg 7 (.call "_law_pairs" [.var 3]), .ifs (.cmp .eq (.bif "len" [.var 7]) (.cst (.int 0))) [.brk] [], .asg 8 (.idx (.var 7) (.call "_law_draw" [.var 0, .bif "len" [.var 7]])), .unp (.t [.n 3, .n 9]) (.call "_law_go" [.var 3, .var 8]), .asg 4 (.bin .add (.var 4) (.tup [.var 8])), .asg 5 (.bin .add (.var 5) (.tup [.var 9]))], .ret (.tup [.var 4, .var 3, .var 5])]⟩
abbrev s_law_odd : Stmt := top 49
def d_law_odd : DD := ⟨"_law_odd", ["_law_hand_here"], ["_law_hand_here", "_law_deep", "_law_turn", "_law_odd_here"], [.asg 1 (.lst [.cst .non]), .forr (.n 2) (.rng [.cst (.int 18)]) [.asg 1 (.lst [.var 1])], .asg 3 (.lst [.cst .non, .cst (.bl true), .cst (.bl false), .cst (.str "1"), .cst (.str "A b"), .lst [.cst (.str "a")], .dct (some ("a", "b")), .lst [], .dct none, .tup [.tup []], .tup [.cst (.str "a")], .var 1, .tup [.cst .non], .neg (.cst (.int 1)), .lst [.cst (.int 0)], .tup [.cst (.bl true)]]), .ret (.idx (.var 3) (.call "_law_draw" [.var 0, .bif "len" [.var 3]]))]⟩
abbrev s_law_spoiled : Stmt := top 52
def d_law_spoiled : DD := ⟨"_law_spoiled", ["_law_hand_here", "_law_sums_here", "_law_row_here"], ["_law_hand_here", "_law_sums_here", "_law_row_here", "_law_at", "_law_pair", "_law_odd_here", "_law_menu"], [.asg 3 (.call "_law_draw" [.var 0, .bin .add (.bif "len" [.var 2]) (.cst (.int 1))]), .asg 4 (.tup [.call "_law_draw" [.var 0, .bif "len" [.idx (.var 1) (.cst (.int 0))]], .call "_law_draw" [.var 0, .bif "len" [.idx (.var 1) (.cst (.int 1))]]]), .asg 5 (.lst [.tup [.bif "len" [.idx (.var 1) (.cst (.int 0))], .cst (.int 0)], .tup [.cst (.int 0), .bif "len" [.idx (.var 1) (.cst (.int 1))]], .tup [.cst (.int 0), .neg (.cst (.int 1))], .tup [.cst (.bl true), .cst (.int 0)], .tup [.cst (.int 0), .cst (.bl false)], .lst [.cst (.int 0), .cst (.int 0)], .tup [.cst (.int 0)], .tup [.cst (.int 0), .cst (.int 0), .cst (.int 0)], .cst .non, .cst (.int 0), .call "_law_odd" [.var 0]]), .asg 6 (.lst [.bin .add (.slc (.var 2) none (some (.var 3))) (.slc (.var 2) (some (.bin .add (.var 3) (.cst (.int 1)))) none), .bin .add (.bin .add (.slc (.var 2) none (some (.var 3))) (.tup [.var 4])) (.slc (.var 2) (some (.var 3)) none)]), .expr (.bme (.var 6) "append" [.bin .add (.bin .add (.slc (.var 2) none (some (.var 3))) (.slc (.var 2) (some (.var 3)) (some (.bin .add (.var 3) (.cst (.int 1)))))) (.slc (.var 2) (some (.var 3)) none)]), .expr (.bme (.var 6) "append" [.bin .add (.bin .add (.slc (.var 2) none (some (.var 3))) (.tup [.var 4])) (.slc (.var 2) (some (.bin .add (.var 3) (.cst (.int 1)))) none)]), .expr (.bme (.var 6) "append" [.bin .add (.bin .add (.bin .add (.slc (.var 2) none (some (.var 3))) (.slc (.var 2) (some (.bin .add (.var 3) (.cst (.int 1)))) (some (.bin .add (.var 3) (.cst (.int 2)))))) (.slc (.var 2) (some (.var 3)) (some (.bin .add (.var 3) (.cst (.int 1)))))) (.slc (.var 2) (some (.bin .add (.var 3) (.cst (.int 2)))) none)]), .expr (.bme (.var 6) "append" [.bin .add (.bin .add (.slc (.var 2) none (some (.var 3))) (.tup [.idx (.var 5) (.call "_law_draw" [.var 0, .cst (.int 11)])])) (.slc (.var 2) (some (.bin .add (.var 3) (.cst (.int 1)))) none)]), .ret (.idx (.bin .add (.var 6) (.lst [.bif "list" [.var 2], .slc (.var 2) none (some (.var 3)), .cst .non, .call "_law_odd" [.var 0]])) (.call "_law_draw" [.var 0, .cst (.int 10)]))]⟩
abbrev s_law_cut : Stmt := top 40
def d_law_cut : DD := ⟨"_law_cut", ["_law_hand_here", "_law_full", "_law_many"], ["_law_hand_here", "_law_full", "_law_many", "_law_left", "_law_parts", "_law_k", "_law_at", "_law_more"], [.asg 3 (.bin .sub (.var 1) (.var 2)), .asg 4 (.lst []), .forr (.n 5) (.rng [.bin .sub (.var 2) (.cst (.int 1))]) [.asg 7 (.call "_law_draw" [.var 0, .bin .add (.bif "min" [.var 3, .bin .add (.bin .mul (.cst (.int 2)) (.bin .fdiv (.var 3) (.bin .sub (.var 2) (.var 5)))) (.cst (.int 1))]) (.cst (.int 1))]), .expr (.bme (.var 4) "append" [.bin .add (.cst (.int 1)) (.var 7)]), .asg 3 (.bin .sub (.var 3) (.var 7))], .expr (.bme (.var 4) "append" [.bin .add (.cst (.int 1)) (.var 3)]), .asg 6 (.call "_law_draw" [.var 0, .var 2]), .ret (.bin .add (.slc (.var 4) (some (.var 6)) none) (.slc (.var 4) none (some (.var 6))))]⟩
abbrev s_law_numbers : Stmt := top 41
def d_law_numbers : DD := ⟨"_law_numbers", ["_law_hand_here", "_law_side", "_law_most"], ["_law_hand_here", "_law_side", "_law_most", "_law_one", "_law_other", "_law_full", "_law_kind", "_law_owed"], [.asg 3 (.bin .add (.cst (.int 1)) (.call "_law_draw" [.var 0, .var 1])), .asg 4 (.bin .add (.cst (.int 1)) (.call "_law_draw" [.var 0, .var 1])), .asg 5 (.bin .add (.bif "max" [.var 3, .var 4]) (.call "_law_draw" [.var 0, .var 2])), .asg 6 (.call "_law_draw" [.var 0, .cst (.int 4)]), .ifs (.cmp .eq (.var 6) (.cst (.int 0))) [.ret (.tup [.call "_law_cut" [.var 0, .var 5, .var 3], .rev (.call "_law_cut" [.var 0, .var 5, .var 3])])] [], .asg 7 (.call "_law_cut" [.var 0, .var 5, .var 3]), .ifs (.cmp .eq (.var 6) (.cst (.int 1))) [.ret (.tup [.var 7, .rev (.var 7)])] [], .ret (.tup [.var 7, .call "_law_cut" [.var 0, .var 5, .var 4]])]⟩
abbrev s_law_times : Stmt := top 37
def d_law_times : DD := ⟨"_law_times", ["_law_one", "_law_other"], ["_law_one", "_law_other"], [.ret (.call "_law_fraction" [.bin .mul (.idx (.var 0) (.cst (.int 0))) (.idx (.var 1) (.cst (.int 0))), .bin .mul (.idx (.var 0) (.cst (.int 1))) (.idx (.var 1) (.cst (.int 1)))])]⟩
abbrev s_law_unit : Stmt := top 42
def d_law_unit : DD := ⟨"_law_unit", ["_law_hand_here"], ["_law_hand_here", "_law_menu"], [.asg 1 (.lst [.tup [.cst (.int 1), .cst (.int 1)], .tup [.cst (.int 1), .cst (.int 1)], .tup [.cst (.int 2), .cst (.int 1)], .tup [.cst (.int 1), .cst (.int 2)], .tup [.cst (.int 3), .cst (.int 4)], .tup [.cst (.int 10), .cst (.int 1)], .tup [.cst (.int 7), .cst (.int 3)], .tup [.bin .pow (.cst (.int 10)) (.cst (.int 12)), .cst (.int 1)], .tup [.cst (.int 1), .bin .pow (.cst (.int 10)) (.cst (.int 9))]]), .ret (.idx (.var 1) (.call "_law_draw" [.var 0, .cst (.int 9)]))]⟩
abbrev s_law_sums : Stmt := top 43
def d_law_sums : DD := ⟨"_law_sums", ["_law_hand_here", "_law_side", "_law_most"], ["_law_hand_here", "_law_side", "_law_most", "_law_unit_here", "_law_owed", "_law_due_here", "_law_number"], [.unp (.t [.n 4, .n 5]) (.call "_law_numbers" [.var 0, .var 1, .var 2]), .asg 3 (.call "_law_unit" [.var 0]), .ret (.tup [.bif "tuple" [.lc (.call "_law_times" [.tup [.var 6, .cst (.int 1)], .var 3]) (.n 6) (.seq true (.var 4)) none [6]], .bif "tuple" [.lc (.call "_law_times" [.tup [.var 6, .cst (.int 1)], .var 3]) (.n 6) (.seq true (.var 5)) none [6]]])]⟩
abbrev s_law_way : Stmt := top 48
def d_law_way : DD := ⟨"_law_way", ["_law_hand_here", "_law_sums_here"], ["_law_hand_here", "_law_sums_here"], [.ret (.call "_law_row" [.var 0, .var 1, .bin .add (.bif "len" [.idx (.var 1) (.cst (.int 0))]) (.bif "len" [.idx (.var 1) (.cst (.int 1))])])]⟩
abbrev s_State__init_ : Stmt := inClass (top 21) 0
def d_State__init_ : DD := ⟨"__init__", ["self", "evening"], ["self", "evening"], [.setf (.var 0) "owed_left" (.alloc (.bif "list" [.fld (.var 1) "owed"])), .setf (.var 0) "due_left" (.alloc (.bif "list" [.fld (.var 1) "due"]))]⟩
abbrev s_is_within : Stmt := top 6
def d_is_within : DD := ⟨"is_within", ["thing", "least", "most"], ["thing", "least", "most"], [.ret (.bool true [.call "is_integer" [.var 0], .cmp2 .le .le (.var 1) (.var 0) (.var 2)])]⟩
abbrev s_are_people : Stmt := top 20
def d_are_people : DD := ⟨"are_people", ["evening", "thing"], ["evening", "thing"], [.ifs (.bool false [.not (.call "is_pair" [.var 1]), .not (.call "is_within" [.idx (.var 1) (.cst (.int 0)), .cst (.int 0), .bin .sub (.bif "len" [.fld (.var 0) "owed"]) (.cst (.int 1))])]) [.ret (.cst (.bl false))] [], .ret (.call "is_within" [.idx (.var 1) (.cst (.int 1)), .cst (.int 0), .bin .sub (.bif "len" [.fld (.var 0) "due"]) (.cst (.int 1))])]⟩
abbrev s_may_pay : Stmt := top 22
def d_may_pay : DD := ⟨"may_pay", ["evening", "state", "thing"], ["evening", "state", "thing"], [.ret (.bool true [.call "are_people" [.var 0, .var 2], .cmp .ne (.meth (.var 1) "amount_of" [.var 2]) (.glo "ZERO")])]⟩
abbrev s_gone : Stmt := top 23
def d_gone : DD := ⟨"gone", ["evening", "row"], ["evening", "row", "state", "amounts", "pair"], [.ifs (.not (.isi (.var 1) "tuple")) [.ret (.cst .non)] [], .asg 2 (.make "State" [.var 0]), .asg 3 (.lst []), .forr (.n 4) (.seq true (.var 1)) [.ifs (.not (.call "may_pay" [.var 0, .var 2, .var 4])) [.ret (.cst .non)] [], .expr (.bme (.var 3) "append" [.meth (.var 2) "go" [.var 4]])], .ret (.tup [.var 2, .bif "tuple" [.var 3]])]⟩
abbrev s_is_row : Stmt := top 24
def d_is_row : DD := ⟨"is_row", ["evening", "thing"], ["evening", "thing"], [.ret (.cmp .notn (.call "gone" [.var 0, .var 1]) (.cst .non))]⟩
abbrev s_is_way : Stmt := top 25
def d_is_way : DD := ⟨"is_way", ["evening", "thing"], ["evening", "thing", "found"], [.asg 2 (.call "gone" [.var 0, .var 1]), .ret (.bool true [.cmp .notn (.var 2) (.cst .non), .meth (.idx (.var 2) (.cst (.int 0))) "all_quits" []])]⟩
abbrev s_law : Stmt := top 53
def d_law : DD := ⟨"law", ["_law_script"], ["_law_script", "_law_hand_here", "_law_turn", "_law_sums_here", "_law_evening", "_law_way_here", "_law_again", "_law_row_here", "_law_thing", "_law_told"], [.asg 1 (.alloc (.call "_law_hand" [.var 0])), .forr (.n 2) (.rng [.cst (.int 2)]) [.asg 3 (.call "_law_sums" [.var 1, .cst (.int 5), .cst (.int 12)]), .asg 4 (.call "_law_made" [.var 3]), .asg 5 (.idx (.call "_law_way" [.var 1, .var 3]) (.cst (.int 0))), .ifs (.bool false [.cmp .notn (.call "is_way" [.var 4, .var 5]) (.cst (.bl true)), .cmp .notn (.call "is_row" [.var 4, .var 5]) (.cst (.bl true))]) [.ret (.cst (.bl false))] [], .ifs (.cmp .notn (.call "is_row" [.var 4, .tup []]) (.cst (.bl true))) [.ret (.cst (.bl false))] [], .forr (.n 6) (.rng [.cst (.int 8)]) [.asg 7 (.idx (.lst [.var 5, .idx (.call "_law_row" [.var 1, .var 3, .call "_law_draw" [.var 1, .cst (.int 8)]]) (.cst (.int 0))]) (.call "_law_draw" [.var 1, .cst (.int 2)])), .asg 8 (.call "_law_spoiled" [.var 1, .var 3, .var 7]), .asg 9 (.tup [.call "is_row" [.var 4, .var 8], .call "is_way" [.var 4, .var 8]]), .ifs (.bool false [.cmp .ne (.var 9) (.call "_law_due" [.var 3, .var 8]), .not (.isi (.idx (.var 9) (.cst (.int 0))) "bool"), .not (.isi (.idx (.var 9) (.cst (.int 1))) "bool")]) [.ret (.cst (.bl false))] []]], .ret (.cst (.bl true))]⟩
abbrev s_State_all_quits : Stmt := inClass (top 21) 3
def d_State_all_quits : DD := ⟨"all_quits", ["self"], ["self", "rest"], [.ret (.bif "all" [.lc (.cmp .eq (.var 1) (.glo "ZERO")) (.n 1) (.seq true (.fld (.var 0) "owed_left")) none [1]])]⟩
abbrev s_is_less : Stmt := top 14
def d_is_less : DD := ⟨"is_less", ["one", "other"], ["one", "other"], [.ret (.cmp .lt (.bin .mul (.idx (.var 0) (.cst (.int 0))) (.idx (.var 1) (.cst (.int 1)))) (.bin .mul (.idx (.var 1) (.cst (.int 0))) (.idx (.var 0) (.cst (.int 1)))))]⟩
abbrev s_least_of : Stmt := top 15
def d_least_of : DD := ⟨"least_of", ["one", "other"], ["one", "other"], [.ret (.ite (.call "is_less" [.var 1, .var 0]) (.var 1) (.var 0))]⟩
abbrev s_State_amount_of : Stmt := inClass (top 21) 1
def d_State_amount_of : DD := ⟨"amount_of", ["self", "pair"], ["self", "pair"], [.ret (.call "least_of" [.idx (.fld (.var 0) "owed_left") (.idx (.var 1) (.cst (.int 0))), .idx (.fld (.var 0) "due_left") (.idx (.var 1) (.cst (.int 1)))])]⟩
abbrev s_minus : Stmt := top 13
def d_minus : DD := ⟨"minus", ["one", "other"], ["one", "other"], [.ret (.call "made" [.bin .sub (.bin .mul (.idx (.var 0) (.cst (.int 0))) (.idx (.var 1) (.cst (.int 1)))) (.bin .mul (.idx (.var 1) (.cst (.int 0))) (.idx (.var 0) (.cst (.int 1)))), .bin .mul (.idx (.var 0) (.cst (.int 1))) (.idx (.var 1) (.cst (.int 1)))])]⟩
abbrev s_State_go : Stmt := inClass (top 21) 2
def d_State_go : DD := ⟨"go", ["self", "pair"], ["self", "pair", "amount"], [.asg 2 (.meth (.var 0) "amount_of" [.var 1]), .seti (.fld (.var 0) "owed_left") (.idx (.var 1) (.cst (.int 0))) (.call "minus" [.idx (.fld (.var 0) "owed_left") (.idx (.var 1) (.cst (.int 0))), .var 2]), .seti (.fld (.var 0) "due_left") (.idx (.var 1) (.cst (.int 1))) (.call "minus" [.idx (.fld (.var 0) "due_left") (.idx (.var 1) (.cst (.int 1))), .var 2]), .ret (.var 2)]⟩
def globT : List (Str × Dt) := [("MOST_SIDE", .int 100), ("ZERO", .tup [.int 0, .int 1])]
def isiT : List (Ty × Str × Bool) := [(.b "NoneType", "bool", false), (.b "bool", "bool", true), (.b "int", "bool", false), (.b "str", "bool", false), (.b "tuple", "bool", false), (.b "list", "bool", false), (.b "dict", "bool", false), (.b "NoneType", "int", false), (.b "bool", "int", true), (.b "int", "int", true), (.b "str", "int", false), (.b "tuple", "int", false), (.b "list", "int", false), (.b "dict", "int", false), (.b "NoneType", "tuple", false), (.b "bool", "tuple", false), (.b "int", "tuple", false), (.b "str", "tuple", false), (.b "tuple", "tuple", true), (.b "list", "tuple", false), (.b "dict", "tuple", false)]
def nfT : List (Nat × Ty) := []
def PP : PD := ⟨[d_law_draw, d_law_is_below, d_law_common, d_law_fraction, d_law_less, d_law_go, d_law_is_number, d_law_due, d_law_hand, d_common_divisor, d_is_integer, d_is_pair, d_is_fraction, d_is_amount, d_are_sums, d_made, d_plus, d_total_of, d_law_made, d_law_pairs, d_law_row, d_law_odd, d_law_spoiled, d_law_cut, d_law_numbers, d_law_times, d_law_unit, d_law_sums, d_law_way, d_is_within, d_are_people, d_may_pay, d_gone, d_is_row, d_is_way, d_law, d_is_less, d_least_of, d_minus], [⟨"Evening", 0, true, d_Evening__init_⟩, ⟨"State", 1, true, d_State__init_⟩], [(1, d_State_all_quits), (1, d_State_amount_of), (1, d_State_go)], fun x => globT.lookup x, isiOf isiT, nfOf nfT⟩
def S0 : Sx := ⟨[], ⟨.function, [], false, false, []⟩, false, ([("_law_draw", 2), ("_law_is_below", 2), ("_law_common", 2), ("_law_fraction", 2), ("_law_less", 2), ("_law_go", 2), ("_law_is_number", 2), ("_law_due", 2), ("_law_hand", 1), ("common_divisor", 2), ("is_integer", 1), ("is_pair", 1)] : List (Str × Nat)) ++ ([("is_fraction", 1), ("is_amount", 1), ("are_sums", 1), ("made", 2), ("plus", 2), ("total_of", 1), ("_law_made", 1), ("_law_pairs", 1), ("_law_row", 3), ("_law_odd", 1), ("_law_spoiled", 3), ("_law_cut", 3)] : List (Str × Nat)) ++ ([("_law_numbers", 3), ("_law_times", 2), ("_law_unit", 1), ("_law_sums", 3), ("_law_way", 2), ("is_within", 3), ("are_people", 2), ("may_pay", 3), ("gone", 2), ("is_row", 2), ("is_way", 2), ("law", 1)] : List (Str × Nat)) ++ ([("is_less", 2), ("least_of", 2), ("minus", 2)] : List (Str × Nat)), [("Evening", 2), ("State", 1)], [("all_quits", 1), ("amount_of", 2), ("go", 2)], ["due", "due_left", "owed", "owed_left"], ["MOST_SIDE", "ZERO"], ["bool", "int", "tuple"], ["abs", "all", "int", "isinstance", "len", "list", "max", "min", "range", "tuple"]⟩
theorem c_law_draw (k : Nat) : (FP PP (k + 1)).call "_law_draw" = runD (FP PP k) d_law_draw := FP_call (i := 0) (by decide +kernel) rfl
theorem c_law_is_below (k : Nat) : (FP PP (k + 1)).call "_law_is_below" = runD (FP PP k) d_law_is_below := FP_call (i := 1) (by decide +kernel) rfl
theorem c_law_common (k : Nat) : (FP PP (k + 1)).call "_law_common" = runD (FP PP k) d_law_common := FP_call (i := 2) (by decide +kernel) rfl
theorem c_law_fraction (k : Nat) : (FP PP (k + 1)).call "_law_fraction" = runD (FP PP k) d_law_fraction := FP_call (i := 3) (by decide +kernel) rfl
theorem c_law_less (k : Nat) : (FP PP (k + 1)).call "_law_less" = runD (FP PP k) d_law_less := FP_call (i := 4) (by decide +kernel) rfl
theorem c_law_go (k : Nat) : (FP PP (k + 1)).call "_law_go" = runD (FP PP k) d_law_go := FP_call (i := 5) (by decide +kernel) rfl
theorem c_law_is_number (k : Nat) : (FP PP (k + 1)).call "_law_is_number" = runD (FP PP k) d_law_is_number := FP_call (i := 6) (by decide +kernel) rfl
theorem c_law_due (k : Nat) : (FP PP (k + 1)).call "_law_due" = runD (FP PP k) d_law_due := FP_call (i := 7) (by decide +kernel) rfl
theorem c_law_hand (k : Nat) : (FP PP (k + 1)).call "_law_hand" = runD (FP PP k) d_law_hand := FP_call (i := 8) (by decide +kernel) rfl
theorem c_common_divisor (k : Nat) : (FP PP (k + 1)).call "common_divisor" = runD (FP PP k) d_common_divisor := FP_call (i := 9) (by decide +kernel) rfl
theorem c_is_integer (k : Nat) : (FP PP (k + 1)).call "is_integer" = runD (FP PP k) d_is_integer := FP_call (i := 10) (by decide +kernel) rfl
theorem c_is_pair (k : Nat) : (FP PP (k + 1)).call "is_pair" = runD (FP PP k) d_is_pair := FP_call (i := 11) (by decide +kernel) rfl
theorem c_is_fraction (k : Nat) : (FP PP (k + 1)).call "is_fraction" = runD (FP PP k) d_is_fraction := FP_call (i := 12) (by decide +kernel) rfl
theorem c_is_amount (k : Nat) : (FP PP (k + 1)).call "is_amount" = runD (FP PP k) d_is_amount := FP_call (i := 13) (by decide +kernel) rfl
theorem c_are_sums (k : Nat) : (FP PP (k + 1)).call "are_sums" = runD (FP PP k) d_are_sums := FP_call (i := 14) (by decide +kernel) rfl
theorem c_made (k : Nat) : (FP PP (k + 1)).call "made" = runD (FP PP k) d_made := FP_call (i := 15) (by decide +kernel) rfl
theorem c_plus (k : Nat) : (FP PP (k + 1)).call "plus" = runD (FP PP k) d_plus := FP_call (i := 16) (by decide +kernel) rfl
theorem c_total_of (k : Nat) : (FP PP (k + 1)).call "total_of" = runD (FP PP k) d_total_of := FP_call (i := 17) (by decide +kernel) rfl
theorem c_law_made (k : Nat) : (FP PP (k + 1)).call "_law_made" = runD (FP PP k) d_law_made := FP_call (i := 18) (by decide +kernel) rfl
theorem c_law_pairs (k : Nat) : (FP PP (k + 1)).call "_law_pairs" = runD (FP PP k) d_law_pairs := FP_call (i := 19) (by decide +kernel) rfl
theorem c_law_row (k : Nat) : (FP PP (k + 1)).call "_law_row" = runD (FP PP k) d_law_row := FP_call (i := 20) (by decide +kernel) rfl
theorem c_law_odd (k : Nat) : (FP PP (k + 1)).call "_law_odd" = runD (FP PP k) d_law_odd := FP_call (i := 21) (by decide +kernel) rfl
theorem c_law_spoiled (k : Nat) : (FP PP (k + 1)).call "_law_spoiled" = runD (FP PP k) d_law_spoiled := FP_call (i := 22) (by decide +kernel) rfl
theorem c_law_cut (k : Nat) : (FP PP (k + 1)).call "_law_cut" = runD (FP PP k) d_law_cut := FP_call (i := 23) (by decide +kernel) rfl
theorem c_law_numbers (k : Nat) : (FP PP (k + 1)).call "_law_numbers" = runD (FP PP k) d_law_numbers := FP_call (i := 24) (by decide +kernel) rfl
theorem c_law_times (k : Nat) : (FP PP (k + 1)).call "_law_times" = runD (FP PP k) d_law_times := FP_call (i := 25) (by decide +kernel) rfl
theorem c_law_unit (k : Nat) : (FP PP (k + 1)).call "_law_unit" = runD (FP PP k) d_law_unit := FP_call (i := 26) (by decide +kernel) rfl
theorem c_law_sums (k : Nat) : (FP PP (k + 1)).call "_law_sums" = runD (FP PP k) d_law_sums := FP_call (i := 27) (by decide +kernel) rfl
theorem c_law_way (k : Nat) : (FP PP (k + 1)).call "_law_way" = runD (FP PP k) d_law_way := FP_call (i := 28) (by decide +kernel) rfl
theorem c_is_within (k : Nat) : (FP PP (k + 1)).call "is_within" = runD (FP PP k) d_is_within := FP_call (i := 29) (by decide +kernel) rfl
theorem c_are_people (k : Nat) : (FP PP (k + 1)).call "are_people" = runD (FP PP k) d_are_people := FP_call (i := 30) (by decide +kernel) rfl
theorem c_may_pay (k : Nat) : (FP PP (k + 1)).call "may_pay" = runD (FP PP k) d_may_pay := FP_call (i := 31) (by decide +kernel) rfl
theorem c_gone (k : Nat) : (FP PP (k + 1)).call "gone" = runD (FP PP k) d_gone := FP_call (i := 32) (by decide +kernel) rfl
theorem c_is_row (k : Nat) : (FP PP (k + 1)).call "is_row" = runD (FP PP k) d_is_row := FP_call (i := 33) (by decide +kernel) rfl
theorem c_is_way (k : Nat) : (FP PP (k + 1)).call "is_way" = runD (FP PP k) d_is_way := FP_call (i := 34) (by decide +kernel) rfl
theorem c_law (k : Nat) : (FP PP (k + 1)).call "law" = runD (FP PP k) d_law := FP_call (i := 35) (by decide +kernel) rfl
theorem c_is_less (k : Nat) : (FP PP (k + 1)).call "is_less" = runD (FP PP k) d_is_less := FP_call (i := 36) (by decide +kernel) rfl
theorem c_least_of (k : Nat) : (FP PP (k + 1)).call "least_of" = runD (FP PP k) d_least_of := FP_call (i := 37) (by decide +kernel) rfl
theorem c_minus (k : Nat) : (FP PP (k + 1)).call "minus" = runD (FP PP k) d_minus := FP_call (i := 38) (by decide +kernel) rfl
theorem n_Evening (k : Nat) : (FP PP (k + 1)).make "Evening" = mkI 0 (runI (FP PP k) d_Evening__init_ 0) := (FP_make (P := PP) (k := k) (x := "Evening") (i := 0) (t := ⟨"Evening", 0, true, d_Evening__init_⟩) (by decide +kernel) rfl).trans rfl
theorem n_State (k : Nat) : (FP PP (k + 1)).make "State" = mkI 1 (runI (FP PP k) d_State__init_ 1) := (FP_make (P := PP) (k := k) (x := "State") (i := 1) (t := ⟨"State", 1, true, d_State__init_⟩) (by decide +kernel) rfl).trans rfl
theorem m_State_all_quits (k : Nat) : (FP PP (k + 1)).meth 1 "all_quits" = runD (FP PP k) d_State_all_quits := FP_meth (P := PP) (k := k) (i := 0) (by decide +kernel) rfl
theorem m_State_amount_of (k : Nat) : (FP PP (k + 1)).meth 1 "amount_of" = runD (FP PP k) d_State_amount_of := FP_meth (P := PP) (k := k) (i := 1) (by decide +kernel) rfl
theorem m_State_go (k : Nat) : (FP PP (k + 1)).meth 1 "go" = runD (FP PP k) d_State_go := FP_meth (P := PP) (k := k) (i := 2) (by decide +kernel) rfl
theorem ck_law_draw : ddC (S0.on d_law_draw s_law_draw) d_law_draw s_law_draw = true := by decide +kernel
theorem ck_law_is_below : ddC (S0.on d_law_is_below s_law_is_below) d_law_is_below s_law_is_below = true := by decide +kernel
theorem ck_law_common : ddC (S0.on d_law_common s_law_common) d_law_common s_law_common = true := by decide +kernel
theorem ck_law_fraction : ddC (S0.on d_law_fraction s_law_fraction) d_law_fraction s_law_fraction = true := by decide +kernel
theorem ck_law_less : ddC (S0.on d_law_less s_law_less) d_law_less s_law_less = true := by decide +kernel
theorem ck_law_go : ddC (S0.on d_law_go s_law_go) d_law_go s_law_go = true := by decide +kernel
theorem ck_law_is_number : ddC (S0.on d_law_is_number s_law_is_number) d_law_is_number s_law_is_number = true := by decide +kernel
theorem ck_law_due : ddC (S0.on d_law_due s_law_due) d_law_due s_law_due = true := by decide +kernel
theorem ck_law_hand : ddC (S0.on d_law_hand s_law_hand) d_law_hand s_law_hand = true := by decide +kernel
theorem ck_common_divisor : ddC (S0.on d_common_divisor s_common_divisor) d_common_divisor s_common_divisor = true := by decide +kernel
theorem ck_is_integer : ddC (S0.on d_is_integer s_is_integer) d_is_integer s_is_integer = true := by decide +kernel
theorem ck_is_pair : ddC (S0.on d_is_pair s_is_pair) d_is_pair s_is_pair = true := by decide +kernel
theorem ck_is_fraction : ddC (S0.on d_is_fraction s_is_fraction) d_is_fraction s_is_fraction = true := by decide +kernel
theorem ck_is_amount : ddC (S0.on d_is_amount s_is_amount) d_is_amount s_is_amount = true := by decide +kernel
theorem ck_are_sums : ddC (S0.on d_are_sums s_are_sums) d_are_sums s_are_sums = true := by decide +kernel
theorem ck_made : ddC (S0.on d_made s_made) d_made s_made = true := by decide +kernel
theorem ck_plus : ddC (S0.on d_plus s_plus) d_plus s_plus = true := by decide +kernel
theorem ck_total_of : ddC (S0.on d_total_of s_total_of) d_total_of s_total_of = true := by decide +kernel
theorem ck_Evening__init_ : ddC (S0.on d_Evening__init_ s_Evening__init_) d_Evening__init_ s_Evening__init_ = true := by decide +kernel
theorem ck_law_made : ddC (S0.on d_law_made s_law_made) d_law_made s_law_made = true := by decide +kernel
theorem ck_law_pairs : ddC (S0.on d_law_pairs s_law_pairs) d_law_pairs s_law_pairs = true := by decide +kernel
theorem ck_law_row : ddC (S0.on d_law_row s_law_row) d_law_row s_law_row = true := by decide +kernel
theorem ck_law_odd : ddC (S0.on d_law_odd s_law_odd) d_law_odd s_law_odd = true := by decide +kernel
theorem ck_law_spoiled : ddC (S0.on d_law_spoiled s_law_spoiled) d_law_spoiled s_law_spoiled = true := by decide +kernel
theorem ck_law_cut : ddC (S0.on d_law_cut s_law_cut) d_law_cut s_law_cut = true := by decide +kernel
theorem ck_law_numbers : ddC (S0.on d_law_numbers s_law_numbers) d_law_numbers s_law_numbers = true := by decide +kernel
theorem ck_law_times : ddC (S0.on d_law_times s_law_times) d_law_times s_law_times = true := by decide +kernel
theorem ck_law_unit : ddC (S0.on d_law_unit s_law_unit) d_law_unit s_law_unit = true := by decide +kernel
theorem ck_law_sums : ddC (S0.on d_law_sums s_law_sums) d_law_sums s_law_sums = true := by decide +kernel
theorem ck_law_way : ddC (S0.on d_law_way s_law_way) d_law_way s_law_way = true := by decide +kernel
theorem ck_State__init_ : ddC (S0.on d_State__init_ s_State__init_) d_State__init_ s_State__init_ = true := by decide +kernel
theorem ck_is_within : ddC (S0.on d_is_within s_is_within) d_is_within s_is_within = true := by decide +kernel
theorem ck_are_people : ddC (S0.on d_are_people s_are_people) d_are_people s_are_people = true := by decide +kernel
theorem ck_may_pay : ddC (S0.on d_may_pay s_may_pay) d_may_pay s_may_pay = true := by decide +kernel
theorem ck_gone : ddC (S0.on d_gone s_gone) d_gone s_gone = true := by decide +kernel
theorem ck_is_row : ddC (S0.on d_is_row s_is_row) d_is_row s_is_row = true := by decide +kernel
theorem ck_is_way : ddC (S0.on d_is_way s_is_way) d_is_way s_is_way = true := by decide +kernel
theorem ck_law : ddC (S0.on d_law s_law) d_law s_law = true := by decide +kernel
theorem ck_State_all_quits : ddC (S0.on d_State_all_quits s_State_all_quits) d_State_all_quits s_State_all_quits = true := by decide +kernel
theorem ck_is_less : ddC (S0.on d_is_less s_is_less) d_is_less s_is_less = true := by decide +kernel
theorem ck_least_of : ddC (S0.on d_least_of s_least_of) d_least_of s_least_of = true := by decide +kernel
theorem ck_State_amount_of : ddC (S0.on d_State_amount_of s_State_amount_of) d_State_amount_of s_State_amount_of = true := by decide +kernel
theorem ck_minus : ddC (S0.on d_minus s_minus) d_minus s_minus = true := by decide +kernel
theorem ck_State_go : ddC (S0.on d_State_go s_State_go) d_State_go s_State_go = true := by decide +kernel
end K06

namespace K06
open PySem L2 Mq
/-- a hand of cells: at most b pads drawn -/
def Hand (b : Nat) (mo : MO) : Prop := ∃ (cs : List Int) (i d m k : Int), mo = .l [.lst (cs.map .int), .int i, .int d, .int m, .int k] ∧ (∀ c ∈ cs, 0 ≤ c) ∧ 0 ≤ i ∧ 0 ≤ d ∧ 0 ≤ m ∧ m ≤ 2147483647 ∧ 0 ≤ k ∧ k ≤ b
theorem Hand.mono {b c : Nat} {mo : MO} (h : Hand b mo) (hb : b ≤ c) : Hand c mo := by
  obtain ⟨cs, i, d, m, k, e, z, a1, a2, a3, a4, a5, a6⟩ := h
  exact ⟨cs, i, d, m, k, e, z, a1, a2, a3, a4, a5, by omega⟩
theorem draw_tail (L : Fns) (st : List MO) (n b : Nat) (mo : MO) (many : Int) (x : Sl) (hn : n < st.length) (hh : Hand b mo) (hb : b ≤ 1000000) (h1 : 1 ≤ many) (hs : Sm many) :
    ∃ r mo' sl, Mq.execs L (d_law_draw.ms.drop 1) ⟨[.v (.ref n), .v (.int many), .un, x, .un], st.set n mo⟩ = .ok (.ret (.v (.int r))) ⟨sl, st.set n mo'⟩ ∧ Hand (b + 1) mo' ∧ 0 ≤ r ∧ r < many := by
  obtain ⟨cs, i, d, m, k, rfl, hc, i0, d0, m0, m1, k0, k1⟩ := hh
  unfold d_law_draw
  by_cases hd : 0 < d
  · refine ⟨d % many, .l [.lst (cs.map .int), .int i, .int (d / many), .int m, .int k], [.v (.ref n), .v (.int many), .un, x, .v (.int (d % many))], by simp [hn, hd, hs, show (0 : Int) < many by omega], ⟨cs, i, d / many, m, k, rfl, hc, i0, Int.ediv_nonneg d0 (by omega), m0, m1, k0, by omega⟩, Int.emod_nonneg _ (by omega), Int.emod_lt_of_pos _ (by omega)⟩
  · have s1 : Sm 7919 := .of40 (by decide)
    have s2 : Sm (k + 1) := .of40 (by omega)
    have s3 : Sm (m + 7919 * (k + 1)) := .of40 (by omega)
    have s4 : Sm 48271 := .of40 (by decide)
    have s5 : Sm 1009 := .of40 (by decide)
    have s6 : Sm 2003 := .of40 (by decide)
    have s7 : Sm 16 := .of40 (by decide)
    have t1 : ∀ x : Int, Sm (x % 2147483647) := fun x => .of40 (by omega)
    have t2 : ∀ x : Int, Sm (x % 2147483647 / 1009 + 69621) := fun x => .of40 (by omega)
    have t3 : ∀ x : Int, Sm (x % 2147483647 / 2003 + 40692) := fun x => .of40 (by omega)
    refine ⟨_, _, _, by simp [hn, hd, hs, s1, s2, s3, s4, s5, s6, s7, t1, t2, t3, show (0 : Int) < many by omega]; exact ⟨rfl, rfl⟩, ⟨cs, i, d, m, k + 1, rfl, hc, i0, d0, m0, m1, by omega, by omega⟩, Int.emod_nonneg _ (by omega), Int.emod_lt_of_pos _ (by omega)⟩
theorem draw_ok (L : Fns) (st : List MO) (n b : Nat) (mo : MO) (many : Int) (h : st[n]? = some mo) (hh : Hand b mo) (hb : b ≤ 1000000) (h1 : 1 ≤ many) (hs : Sm many) :
    ∃ r mo', runD L d_law_draw [.ref n, .int many] st = .ok (.v (.int r)) (st.set n mo') ∧ Hand (b + 1) mo' ∧ 0 ≤ r ∧ r < many := by
  have hn := (List.getElem?_eq_some_iff.mp h).1
  have es := set_same h
  have go : ∀ (x : Sl) (mo2 : MO), Hand b mo2 → Mq.exec L (d_law_draw.ms[0]'(by decide)) ⟨[.v (.ref n), .v (.int many), .un, .un, .un], st⟩ = .ok .nx ⟨[.v (.ref n), .v (.int many), .un, x, .un], st.set n mo2⟩ →
      ∃ r mo', runD L d_law_draw [.ref n, .int many] st = .ok (.v (.int r)) (st.set n mo') ∧ Hand (b + 1) mo' ∧ 0 ≤ r ∧ r < many := fun x mo2 h2 e => by
    obtain ⟨r, mo', sl, e2, p⟩ := draw_tail L st n b mo2 many x hn h2 hb h1 hs
    refine ⟨r, mo', ?_, p⟩
    have ems : d_law_draw.ms = d_law_draw.ms[0]'(by decide) :: d_law_draw.ms.drop 1 := rfl
    unfold runD
    rw [ems, x_cons]
    have sl0 : slots d_law_draw.N.length ([Dt.ref n, .int many].map Sl.v) = [.v (.ref n), .v (.int many), .un, .un, .un] := rfl
    rw [sl0, e, r_ok, thenS_nx, e2]; rfl
  obtain ⟨cs, i, d, m, k, rfl, hc, i0, d0, m0, m1, k0, k1⟩ := hh
  by_cases c1 : d = 0 ∧ i < cs.length
  · obtain ⟨rfl, c2⟩ := c1
    obtain ⟨c, cm, ec⟩ := at_map i0 c2
    have s1 : Sm m := .of40 (by omega)
    have s2 : Sm 69621 := .of40 (by decide)
    have pw : ∀ s : SS, binV .pow (.v (.int 10)) (.v (.int 18)) s = some (.v (.int (10 ^ 18))) := fun s => v_powO (by decide)
    by_cases c3 : 10 ^ 18 ≤ c
    · refine go (.v (.int c)) (.l [.lst (cs.map .int), .int (i + 1), .int c, .int ((m * 69621 + c + 11) % 2147483629), .int k]) ⟨cs, i + 1, c, _, k, rfl, hc, by omega, hc c cm, by omega, by omega, k0, k1⟩ ?_
      unfold d_law_draw
      rw [es]
      have c4 : (1000000000000000000 : Int) ≤ c := by omega
      simp [hn, s1, s2, ec, c2, pw, c4]
    · refine go (.v (.int c)) (.l [.lst (cs.map .int), .int (i + 1), .int 0, .int ((m * 69621 + c + 11) % 2147483629), .int k]) ⟨cs, i + 1, 0, _, k, rfl, hc, by omega, by omega, by omega, by omega, k0, k1⟩ ?_
      unfold d_law_draw
      rw [es]
      have c4 : ¬ (1000000000000000000 : Int) ≤ c := by omega
      simp [hn, s1, s2, ec, c2, pw, c4]
  · refine go .un _ ⟨cs, i, d, m, k, rfl, hc, i0, d0, m0, m1, k0, k1⟩ ?_
    unfold d_law_draw
    rw [es]
    simp [hn]
    by_cases c2 : d = 0
    · have c3 : ¬ i < cs.length := fun z => c1 ⟨c2, z⟩
      simp [c2, c3]
    · simp [c2]
end K06

namespace K06
open PySem L2 Mq
theorem gcd_rest {a b : Int} (ha : 0 ≤ a) (hb : 0 ≤ b) : Int.gcd b (a % b) = Int.gcd a b := by
  obtain ⟨m, rfl⟩ := Int.eq_ofNat_of_zero_le ha
  obtain ⟨n, rfl⟩ := Int.eq_ofNat_of_zero_le hb
  have : ((m : Int) % (n : Int)) = ((m % n : Nat) : Int) := (Int.natCast_emod m n).symm
  rw [this]
  show Nat.gcd _ _ = Nat.gcd _ _
  simp only [Int.natAbs_natCast]
  rw [Nat.gcd_comm n, ← Nat.gcd_rec, Nat.gcd_comm]
def gcdGo : Nat → Int → Int → Int
  | 0, a, _ => a
  | n + 1, a, b => if b = 0 then a else gcdGo n b (a % b)
theorem gcdGo_ok : ∀ (n : Nat) (a b : Int), 0 ≤ a → 0 ≤ b → b < 2 ^ n → ∀ m, 2 * n + 1 ≤ m → gcdGo m a b = (Int.gcd a b : Int)
  | 0, a, b, ha, hb, h, m, hm => by
    have : b = 0 := by simp at h; omega
    subst this
    obtain ⟨m, rfl⟩ : ∃ k, m = k + 1 := ⟨m - 1, by omega⟩
    rw [gcdGo, if_pos rfl, Int.gcd_zero_right]; omega
  | n + 1, a, b, ha, hb, h, m, hm => by
    obtain ⟨m, rfl⟩ : ∃ k, m = k + 2 := ⟨m - 2, by omega⟩
    by_cases h0 : b = 0
    · subst h0; rw [gcdGo, if_pos rfl, Int.gcd_zero_right]; omega
    · rw [gcdGo, if_neg h0]
      have e1 : Int.gcd a b = Int.gcd b (a % b) := (gcd_rest ha hb).symm
      by_cases h1 : a % b = 0
      · rw [h1, gcdGo, if_pos rfl, e1, h1, Int.gcd_zero_right]; omega
      · rw [gcdGo, if_neg h1]
        have p0 : 0 ≤ a % b := Int.emod_nonneg _ h0
        have p1 : a % b < b := Int.emod_lt_of_pos _ (by omega)
        have q0 : 0 ≤ b % (a % b) := Int.emod_nonneg _ h1
        have q1 : b % (a % b) < a % b := Int.emod_lt_of_pos _ (by omega)
        have q2 : b % (a % b) + (a % b) ≤ b := by
          have := Int.emod_add_mul_ediv b (a % b)
          have d1 : 1 ≤ b / (a % b) := by
            rw [Int.le_ediv_iff_mul_le (by omega)]; omega
          have : a % b * 1 ≤ a % b * (b / (a % b)) := Int.mul_le_mul_of_nonneg_left d1 p0
          omega
        have q3 : b % (a % b) < 2 ^ n := by
          have : (2 : Int) ^ (n + 1) = 2 ^ n * 2 := by rw [Int.pow_succ]
          omega
        rw [gcdGo_ok n (a % b) (b % (a % b)) p0 q0 q3 m (by omega), e1, gcd_rest hb p0]
def Md (i : Int) : Prop := i.natAbs < 2 ^ 290
theorem Md.sm {i : Int} (h : Md i) : Sm i := Nat.lt_of_lt_of_le h (Nat.pow_le_pow_right (by decide) (by decide))
end K06

namespace K06
open PySem L2 Mq
/-- the hand at the start -/
theorem hand_ok (L : Fns) (st : List MO) (ns : List Int) (h : ns.length ≤ 63) : ∃ xs, runD L d_law_hand [.rol (ns.map .int)] st = .ok (.nl xs) st ∧
    ∃ cs : List Int, xs = [.lst (cs.map .int), .int 0, .int 0, .int (1 + cs.length), .int 0] ∧ cs.length ≤ 63 ∧ ∀ c ∈ cs, 0 ≤ c := by
  let g : Dt → Dt := fun x => match x with | .int i => .int (if i < 0 then -i else i) | x => x
  have hm : (ns.map Dt.int).map g = (ns.map fun i => if i < 0 then -i else i).map Dt.int := by simp [g]
  have hz : (ns.map Dt.int).length ≤ sizeLine := by rw [List.length_map]; exact Nat.le_trans h (by decide)
  have tk : (ns.map Dt.int).take 63 = ns.map Dt.int := List.take_of_length_le (by rw [List.length_map]; exact h)
  have e : ∀ s : SS, s.sl = [.v (.rol (ns.map .int)), .un, .un] → ev L (.lc (.bif "abs" [.bif "int" [.var 2]]) (.n 2) (.seq true (.slc (.var 0) none (some (.cst (.int 63))))) none [2]) s = .ok (.nl ((ns.map fun i => if i < 0 then -i else i).map Dt.int)) s := fun s hs => by
    have q := e_lc (L := L) (s := s) (el := .bif "abs" [.bif "int" [.var 2]]) (src := .slc (.var 0) none (some (.cst (.int 63)))) (i := 2) (s1 := s) (d := .lst (ns.map .int)) (xs := ns.map .int) (g := g)
      (i_seq (r := .nl (ns.map .int)) (s1 := s) (by
        have : slcV (.v (.rol (ns.map .int))) none (some 63) s = some (.nl (ns.map .int)) := by
          show some (RV.nl (cutD (ns.map .int) none (some ((63 : Nat) : Int)))) = _
          rw [cut_to, tk]
        simp [hs, this]) rfl rfl) (fun _ z => nomatch z) (.inl (by rw [hs]; rfl)) (fun x hx => by
          obtain ⟨i, _, rfl⟩ := List.mem_map.mp hx
          have : (s.set 2 (.v (.int i))).sl[2]? = some (.v (.int i)) := by unfold SS.set; simp [hs]
          simp [this, g]) hz
    rw [hm] at q
    exact q
  refine ⟨_, ?_, ns.map fun i => if i < 0 then -i else i, rfl, by simpa using h, fun c hc => by
    obtain ⟨i, _, rfl⟩ := List.mem_map.mp hc
    split <;> omega⟩
  unfold runD d_law_hand
  have s3 : (3 : Nat) ≤ sizeLine := by decide
  have s5 : (5 : Nat) ≤ sizeLine := by decide
  have sl0 : slots 3 ([Dt.rol (ns.map .int)].map Sl.v) = [.v (.rol (ns.map .int)), .un, .un] := rfl
  show finD (Mq.execs L [_, _] ⟨slots 3 _, st⟩) = _
  rw [sl0, x_cons, x_asg, e _ rfl]
  simp [val, bLen, rds, rdl, rdt, s5]
theorem common_loop (L : Fns) (st : List MO) : ∀ (xs : List Dt) (a b : Int) (t r : Sl), ∃ b' t' r', forL (fun _ => true) (fun s x => bindT (.n 2) x s) (fun s => Mq.execs L [.ifs (.cmp .eq (.var 1) (.cst (.int 0))) [.brk] [], .asg 3 (.bin .mod (.bif "int" [.var 0]) (.var 1)), .asg 0 (.var 1), .asg 1 (.var 3)] s) xs ⟨[.v (.int a), .v (.int b), t, r], st⟩
    = .ok .nx ⟨[.v (.int (gcdGo xs.length a b)), .v (.int b'), t', r'], st⟩ ∨ b < 0
  | [], a, b, t, r => ⟨b, t, r, .inl (by rw [forL]; rfl)⟩
  | x :: xs, a, b, t, r => by
    by_cases hb : b < 0
    · exact ⟨b, t, r, .inr hb⟩
    · by_cases h0 : b = 0
      · subst h0
        refine ⟨0, .v x, r, .inl ?_⟩
        rw [forL, bindT]
        simp [gcdGo]
      · obtain ⟨b', t', r', e⟩ := common_loop L st xs b (a % b) (.v x) (.v (.int (a % b)))
        rcases e with e | e
        · refine ⟨b', t', r', .inl ?_⟩
          rw [forL, bindT]
          simp [h0, show 0 < b by omega, gcdGo]
          simpa using e
        · have := Int.emod_nonneg a h0; omega
theorem common_ok (L : Fns) (st : List MO) (a b : Int) (hb : Md b) : runD L d_law_common [.int a, .int b] st = .ok (.v (.int (Int.gcd a b))) st := by
  have A : ∀ i : Int, (if i < 0 then -i else i) = (i.natAbs : Int) := fun i => by split <;> omega
  obtain ⟨b', t', r', e⟩ := common_loop L st (rngI 0 600) a.natAbs b.natAbs .un .un
  have e := e.resolve_right (by omega)
  have hl : (rngI 0 600).length = 600 := by simp [rngI]
  rw [hl, gcdGo_ok 290 _ _ (by omega) (by omega) (by
    have : b.natAbs < 2 ^ 290 := hb
    exact_mod_cast this) 600 (by decide)] at e
  unfold runD d_law_common
  have sl0 : slots 4 ([Dt.int a, .int b].map Sl.v) = [.v (.int a), .v (.int b), .un, .un] := rfl
  show finD (Mq.execs L [_, _, _, _] ⟨slots 4 _, st⟩) = _
  rw [sl0]
  have h1 : Mq.exec L (.asg 0 (.bif "abs" [.var 0])) ⟨[.v (.int a), .v (.int b), .un, .un], st⟩ = .ok .nx ⟨[.v (.int a.natAbs), .v (.int b), .un, .un], st⟩ := by simp [A]
  have h2 : Mq.exec L (.asg 1 (.bif "abs" [.var 1])) ⟨[.v (.int a.natAbs), .v (.int b), .un, .un], st⟩ = .ok .nx ⟨[.v (.int a.natAbs), .v (.int b.natAbs), .un, .un], st⟩ := by simp [A]
  have h3 : evI L (.rng [.cst (.int 600)]) ⟨[.v (.int a.natAbs), .v (.int b.natAbs), .un, .un], st⟩ = .ok ⟨rngI 0 600, .v .non, []⟩ ⟨[.v (.int a.natAbs), .v (.int b.natAbs), .un, .un], st⟩ := i_rng (by simp) (by decide)
  rw [x_cons, h1, r_ok, thenS_nx, x_cons, h2, r_ok, thenS_nx, x_cons, x_for, h3, r_ok]
  show finD ((Out.fix _ (forL (fun _ => true) _ _ _ _)).bind _) = _
  show finD ((Out.fix _ (forL (fun _ => true) (fun s x => bindT (.n 2) x s) (fun s => Mq.execs L [.ifs (.cmp .eq (.var 1) (.cst (.int 0))) [.brk] [], .asg 3 (.bin .mod (.bif "int" [.var 0]) (.var 1)), .asg 0 (.var 1), .asg 1 (.var 3)] s) (rngI 0 600) ⟨[.v (.int a.natAbs), .v (.int b.natAbs), .un, .un], st⟩)).bind _) = _
  rw [e, r_fix, r_ok, thenS_nx]
  have hg : Int.gcd (a.natAbs : Int) (b.natAbs : Int) = Int.gcd a b := by simp [Int.gcd]
  rw [hg]
  have hu : ∀ s0 s : SS, unlock (.v .non) s0 s = s := fun _ _ => rfl
  rw [hu]
  simp
end K06

namespace K06
open PySem L2 Mq
def fr (q : Rat) : Dt := .tup [.int q.num, .int q.den]
theorem fr_inj {p q : Rat} (h : fr p = fr q) : p = q := by
  simp only [fr, Dt.tup.injEq, List.cons.injEq, Dt.int.injEq, and_true] at h
  exact Rat.ext h.1 (by omega)
theorem mk_num {a : Int} {b : Nat} (hb : 0 < b) : (mkRat a b).num = a / (Int.gcd a b : Int) := by
  rw [Rat.num_mkRat, if_neg (by omega)]
  show a / ((b.gcd a.natAbs : Nat) : Int) = a / ((Nat.gcd a.natAbs (b : Int).natAbs : Nat) : Int)
  rw [Nat.gcd_comm]; rfl
theorem mk_den {a : Int} {b : Nat} (hb : 0 < b) : ((mkRat a b).den : Int) = (b : Int) / (Int.gcd a b : Int) := by
  rw [Rat.den_mkRat, if_neg (by omega)]
  rw [Int.natCast_ediv]
  show (b : Int) / ((b.gcd a.natAbs : Nat) : Int) = (b : Int) / ((Nat.gcd a.natAbs (b : Int).natAbs : Nat) : Int)
  rw [Nat.gcd_comm]; rfl
theorem gcd_pos {a b : Int} (hb : 0 < b) : 0 < (Int.gcd a b : Int) := by
  have : 0 < Int.gcd a b := Int.gcd_pos_of_ne_zero_right _ (by omega)
  omega
theorem gcd_md {a b : Int} (hb : 0 < b) (h : Md b) : Sm (Int.gcd a b : Int) := by
  have : Int.gcd a b ≤ b.natAbs := Nat.le_of_dvd (by omega) (Nat.gcd_dvd_right _ _)
  have h2 : b.natAbs < 2 ^ 290 := h
  refine Nat.lt_of_le_of_lt (m := b.natAbs) ?_ h.sm
  simpa using this
end K06

namespace K06
open PySem L2 Mq
theorem fraction_ok (k : Nat) (st : List MO) (a : Int) (b : Nat) (hb : 0 < b) (h : Md b) : runD (FP PP (k + 1)) d_law_fraction [.int a, .int b] st = .ok (.v (fr (mkRat a b))) st := by
  have hb' : (0 : Int) < b := by omega
  have g0 : 0 < (Int.gcd a b : Int) := gcd_pos hb'
  have g1 : Sm (Int.gcd a b : Int) := gcd_md hb' h
  have s2 : (2 : Nat) ≤ sizeLine := by decide
  have ec := common_ok (FP PP k) st a b h
  unfold fr
  rw [mk_num hb, mk_den hb]
  generalize (Int.gcd a b : Int) = g at *
  unfold runD d_law_fraction
  simp [slots, c_law_common, ec, g0, g1, s2]
end K06

namespace K06
open PySem L2 Mq
theorem times_ok (k : Nat) (st : List MO) (p q : Rat) (h1 : Sm p.num) (h2 : Sm q.num) (h3 : Sm p.den) (h4 : Sm q.den) (h : Md ((p.den * q.den : Nat) : Int)) : runD (FP PP (k + 2)) d_law_times [fr p, fr q] st = .ok (.v (fr (p * q))) st := by
  have hb : 0 < p.den * q.den := Nat.mul_pos p.den_pos q.den_pos
  have e := fraction_ok k st (p.num * q.num) (p.den * q.den) hb h
  rw [← Rat.mul_def'] at e
  have e2 : ((p.den * q.den : Nat) : Int) = (p.den : Int) * (q.den : Int) := by simp
  rw [e2] at e
  unfold runD d_law_times
  simp [slots, fr, c_law_fraction, h1, h2, h3, h4, e]
end K06

namespace K06
open PySem L2 Mq
theorem wh_step (L : Fns) (st : List MO) (n : Nat) (a b : Int) (hb : 0 < b) :
    whN (fun s => (ev L (.cmp .gt (.var 1) (.cst (.int 0))) s).bind asB) (fun s => Mq.execs L [.par 0 1 (.var 1) (.bin .mod (.var 0) (.var 1))] s) (n + 1) ⟨[.v (.int a), .v (.int b)], st⟩ =
    whN (fun s => (ev L (.cmp .gt (.var 1) (.cst (.int 0))) s).bind asB) (fun s => Mq.execs L [.par 0 1 (.var 1) (.bin .mod (.var 0) (.var 1))] s) n ⟨[.v (.int b), .v (.int (a % b))], st⟩ := by
  rw [whN]
  simp [hb]
theorem wh_end (L : Fns) (st : List MO) (n : Nat) (a b : Int) (hb : b = 0) :
    whN (fun s => (ev L (.cmp .gt (.var 1) (.cst (.int 0))) s).bind asB) (fun s => Mq.execs L [.par 0 1 (.var 1) (.bin .mod (.var 0) (.var 1))] s) (n + 1) ⟨[.v (.int a), .v (.int b)], st⟩ = .ok .nx ⟨[.v (.int a), .v (.int 0)], st⟩ := by
  subst hb
  rw [whN]
  simp
theorem wh_gcd (L : Fns) (st : List MO) : ∀ (n : Nat) (a b : Int), 0 ≤ a → 0 ≤ b → b < 2 ^ n → ∀ m, 2 * n + 1 ≤ m →
    whN (fun s => (ev L (.cmp .gt (.var 1) (.cst (.int 0))) s).bind asB) (fun s => Mq.execs L [.par 0 1 (.var 1) (.bin .mod (.var 0) (.var 1))] s) m ⟨[.v (.int a), .v (.int b)], st⟩ = .ok .nx ⟨[.v (.int (Int.gcd a b)), .v (.int 0)], st⟩
  | 0, a, b, ha, hb, h, m, hm => by
    have h0 : b = 0 := by simp at h; omega
    obtain ⟨m, rfl⟩ : ∃ k, m = k + 1 := ⟨m - 1, by omega⟩
    rw [wh_end _ _ _ _ _ h0, h0, Int.gcd_zero_right]
    have : ((a.natAbs : Nat) : Int) = a := by omega
    rw [this]
  | n + 1, a, b, ha, hb, h, m, hm => by
    obtain ⟨m, rfl⟩ : ∃ k, m = k + 2 := ⟨m - 2, by omega⟩
    by_cases h0 : b = 0
    · rw [wh_end _ _ _ _ _ h0, h0, Int.gcd_zero_right]
      have : ((a.natAbs : Nat) : Int) = a := by omega
      rw [this]
    · rw [wh_step _ _ _ _ _ (by omega)]
      have e1 : Int.gcd a b = Int.gcd b (a % b) := (gcd_rest ha hb).symm
      by_cases h1 : a % b = 0
      · rw [wh_end _ _ _ _ _ h1, e1, h1, Int.gcd_zero_right]
        have : ((b.natAbs : Nat) : Int) = b := by omega
        rw [this]
      · have p0 : 0 ≤ a % b := Int.emod_nonneg _ h0
        have p1 : a % b < b := Int.emod_lt_of_pos _ (by omega)
        have q0 : 0 ≤ b % (a % b) := Int.emod_nonneg _ h1
        have q1 : b % (a % b) < a % b := Int.emod_lt_of_pos _ (by omega)
        have q2 : b % (a % b) + (a % b) ≤ b := by
          have := Int.emod_add_mul_ediv b (a % b)
          have d1 : 1 ≤ b / (a % b) := by
            rw [Int.le_ediv_iff_mul_le (by omega)]; omega
          have : a % b * 1 ≤ a % b * (b / (a % b)) := Int.mul_le_mul_of_nonneg_left d1 p0
          omega
        have q3 : b % (a % b) < 2 ^ n := by
          have : (2 : Int) ^ (n + 1) = 2 ^ n * 2 := by rw [Int.pow_succ]
          omega
        rw [wh_step _ _ _ _ _ (by omega), wh_gcd L st n (a % b) (b % (a % b)) p0 q0 q3 m (by omega), e1, gcd_rest hb p0]
theorem divisor_ok (L : Fns) (st : List MO) (a b : Int) (hb : Md b) : runD L d_common_divisor [.int a, .int b] st = .ok (.v (.int (Int.gcd a b))) st := by
  have A : ∀ i : Int, (if i < 0 then -i else i) = (i.natAbs : Int) := fun i => by split <;> omega
  have e := wh_gcd L st 290 a.natAbs b.natAbs (by omega) (by omega) (by
    have : b.natAbs < 2 ^ 290 := hb
    exact_mod_cast this) 1000 (by decide)
  have hg : Int.gcd (a.natAbs : Int) (b.natAbs : Int) = Int.gcd a b := by simp [Int.gcd]
  rw [hg] at e
  unfold runD d_common_divisor
  have sl0 : slots 2 ([Dt.int a, .int b].map Sl.v) = [.v (.int a), .v (.int b)] := rfl
  show finD (Mq.execs L [_, _, _] ⟨slots 2 _, st⟩) = _
  have h1 : Mq.exec L (.par 0 1 (.bif "abs" [.var 0]) (.bif "abs" [.var 1])) ⟨[.v (.int a), .v (.int b)], st⟩ = .ok .nx ⟨[.v (.int a.natAbs), .v (.int b.natAbs)], st⟩ := by simp [A]
  rw [sl0, x_cons, h1, r_ok, thenS_nx, x_cons, x_whl, e, r_ok, thenS_nx]
  simp
theorem made_ok (k : Nat) (st : List MO) (a : Int) (b : Nat) (hb : 0 < b) (h : Md b) : runD (FP PP (k + 1)) d_made [.int a, .int b] st = .ok (.v (fr (mkRat a b))) st := by
  have hb' : (0 : Int) < b := by omega
  have g0 : 0 < (Int.gcd a b : Int) := gcd_pos hb'
  have g1 : Sm (Int.gcd a b : Int) := gcd_md hb' h
  have s2 : (2 : Nat) ≤ sizeLine := by decide
  have ec := divisor_ok (FP PP k) st a b h
  unfold fr
  rw [mk_num hb, mk_den hb]
  generalize (Int.gcd a b : Int) = g at *
  unfold runD d_made
  simp [slots, c_common_divisor, ec, g0, g1, s2]
/-- fractions that are not great -/
structure Sq (q : Rat) : Prop where
  n : q.num.natAbs < 2 ^ 160
  d : q.den < 2 ^ 40
theorem Sq.sn {q : Rat} (h : Sq q) : Sm q.num := Nat.lt_of_lt_of_le h.n (Nat.pow_le_pow_right (by decide) (by decide))
theorem Sq.sd {q : Rat} (h : Sq q) : Sm q.den := Nat.lt_of_lt_of_le (show (q.den : Int).natAbs < 2 ^ 40 from h.d) (Nat.pow_le_pow_right (by decide) (by decide))
theorem Sq.md {p q : Rat} (h : Sq p) (h2 : Sq q) : Md ((p.den * q.den : Nat) : Int) := by
  have a := h.d
  have b := h2.d
  have : p.den * q.den < 2 ^ 40 * 2 ^ 40 := Nat.mul_lt_mul'' a b
  exact Nat.lt_of_lt_of_le (show ((p.den * q.den : Nat) : Int).natAbs < 2 ^ 40 * 2 ^ 40 from this) (by decide)
theorem plusP_ok (k : Nat) (st : List MO) (p q : Rat) (h1 : Sq p) (h2 : Sq q) : runD (FP PP (k + 2)) d_plus [fr p, fr q] st = .ok (.v (fr (p + q))) st := by
  have hb : 0 < p.den * q.den := Nat.mul_pos p.den_pos q.den_pos
  have e := made_ok k st (p.num * q.den + q.num * p.den) (p.den * q.den) hb (h1.md h2)
  rw [← Rat.add_def'] at e
  have e2 : ((p.den * q.den : Nat) : Int) = (p.den : Int) * (q.den : Int) := by simp
  rw [e2] at e
  unfold runD d_plus
  simp [slots, fr, c_made, h1.sn, h2.sn, h1.sd, h2.sd, e]
theorem timesL_ok (k : Nat) (st : List MO) (p q : Rat) (h1 : Sq p) (h2 : Sq q) : runD (FP PP (k + 2)) d_law_times [fr p, fr q] st = .ok (.v (fr (p * q))) st := times_ok k st p q h1.sn h2.sn h1.sd h2.sd (h1.md h2)
/-- a loop that adds up -/
theorem add_loop {b : SS → Out SS Fl} (st : List MO) (T : Sl) (hb : ∀ p q, Sq p → Sq q → b ⟨[T, .v (fr p), .v (fr q)], st⟩ = .ok .nx ⟨[T, .v (fr (p + q)), .v (fr q)], st⟩) {ck : SS → Bool} (hck : ∀ s, ck s = true) : ∀ (qs : List Rat) (acc : Rat) (y : Sl), (∀ j, Sq (acc + (qs.take j).sum)) → (∀ q ∈ qs, Sq q) →
    ∃ z, forL ck (fun s x => bindT (.n 2) x s) b (qs.map fr) ⟨[T, .v (fr acc), y], st⟩ = .ok .nx ⟨[T, .v (fr (acc + qs.sum)), z], st⟩
  | [], acc, y, _, _ => ⟨y, by rw [List.map_nil, forL]; simp [Rat.add_zero]⟩
  | q :: qs, acc, y, ha, hq => by
    have h0 : Sq acc := by have := ha 0; simpa [Rat.add_zero] using this
    obtain ⟨z, ez⟩ := add_loop st T hb hck qs (acc + q) (.v (fr q)) (fun j => by
      have := ha (j + 1)
      rw [List.take_succ_cons, List.sum_cons, ← Rat.add_assoc] at this; exact this) fun x hx => hq x (List.mem_cons_of_mem _ hx)
    refine ⟨z, ?_⟩
    rw [List.map_cons, forL, bindT]
    have e := hb acc q h0 (hq q (List.mem_cons_self ..))
    show (b ⟨[T, .v (fr acc), .v (fr q)], st⟩).bind _ = _
    rw [e, r_ok]
    simp only [hck, if_true]
    rw [ez, List.sum_cons, Rat.add_assoc]
end K06

namespace K06
open PySem L2 Mq
theorem fr0 : fr 0 = .tup [.int 0, .int 1] := rfl
/-- all sums of the first are not great -/
def Sums (qs : List Rat) : Prop := (∀ j, Sq ((qs.take j).sum)) ∧ ∀ q ∈ qs, Sq q
theorem total_ok (k : Nat) (st : List MO) (qs : List Rat) (h : Sums qs) : runD (FP PP (k + 3)) d_total_of [.tup (qs.map fr)] st = .ok (.v (fr qs.sum)) st := by
  have hb : ∀ p q, Sq p → Sq q → Mq.execs (FP PP (k + 3)) [.asg 1 (.call "plus" [.var 1, .var 2])] ⟨[.v (.tup (qs.map fr)), .v (fr p), .v (fr q)], st⟩ = .ok .nx ⟨[.v (.tup (qs.map fr)), .v (fr (p + q)), .v (fr q)], st⟩ := fun p q hp hq => by
    have e := plusP_ok k st p q hp hq
    simp [c_plus, e]
  obtain ⟨z, ez⟩ := add_loop (b := fun s => Mq.execs (FP PP (k + 3)) [.asg 1 (.call "plus" [.var 1, .var 2])] s) st (.v (.tup (qs.map fr))) hb (ck := fun _ => true) (fun _ => rfl) qs 0 .un (fun j => by rw [Rat.zero_add]; exact h.1 j) h.2
  rw [Rat.zero_add] at ez
  unfold runD d_total_of
  have sl0 : slots 3 ([Dt.tup (qs.map fr)].map Sl.v) = [.v (.tup (qs.map fr)), .un, .un] := rfl
  show finD (Mq.execs _ [_, _, _] ⟨slots 3 _, st⟩) = _
  have hz : (FP PP (k + 3)).glob "ZERO" = some (fr 0) := rfl
  have h1 : Mq.exec (FP PP (k + 3)) (.asg 1 (.glo "ZERO")) ⟨[.v (.tup (qs.map fr)), .un, .un], st⟩ = .ok .nx ⟨[.v (.tup (qs.map fr)), .v (fr 0), .un], st⟩ := by simp [e_glo hz]
  have h3 : evI (FP PP (k + 3)) (.seq true (.var 0)) ⟨[.v (.tup (qs.map fr)), .v (fr 0), .un], st⟩ = .ok ⟨qs.map fr, .v (.tup (qs.map fr)), qs.map fr⟩ ⟨[.v (.tup (qs.map fr)), .v (fr 0), .un], st⟩ := i_seq (r := .v (.tup (qs.map fr))) (by simp) rfl rfl
  rw [sl0, x_cons, h1, r_ok, thenS_nx, x_cons, x_for, h3, r_ok]
  show finD ((Out.fix _ (forL (fun _ => true) (fun s x => bindT (.n 2) x s) (fun s => Mq.execs (FP PP (k + 3)) [.asg 1 (.call "plus" [.var 1, .var 2])] s) (qs.map fr) ⟨[.v (.tup (qs.map fr)), .v (fr 0), .un], st⟩)).bind _) = _
  rw [ez, r_fix, r_ok, thenS_nx]
  show finD (Mq.execs _ _ ⟨_, st⟩) = _
  simp [unlock]
/-! ### what the package asks of sums -/
theorem isi_t {xs : List Dt} {s : SS} {L : Fns} (h : L.isi = isiOf isiT) : isiF L "tuple" (.v (.tup xs)) s = .ok (.v (.bl true)) s := isiF_y (ty := .b "tuple") rfl (by rw [h]; decide +kernel)
theorem isi_i {i : Int} {s : SS} {L : Fns} (h : L.isi = isiOf isiT) : isiF L "int" (.v (.int i)) s = .ok (.v (.bl true)) s := isiF_y (ty := .b "int") rfl (by rw [h]; decide +kernel)
theorem isi_ib {i : Int} {s : SS} {L : Fns} (h : L.isi = isiOf isiT) : isiF L "bool" (.v (.int i)) s = .ok (.v (.bl false)) s := isiF_y (ty := .b "int") rfl (by rw [h]; decide +kernel)
theorem fp_isi : ∀ k, (FP PP k).isi = isiOf isiT
  | 0 => rfl
  | k + 1 => rfl
theorem isint_ok (k : Nat) (st : List MO) (i : Int) : runD (FP PP k) d_is_integer [.int i] st = .ok (.v (.bl true)) st := by
  unfold runD d_is_integer
  simp [slots, isi_i (fp_isi k), isi_ib (fp_isi k)]
theorem ispair_ok (k : Nat) (st : List MO) (x y : Dt) : runD (FP PP k) d_is_pair [.tup [x, y]] st = .ok (.v (.bl true)) st := by
  unfold runD d_is_pair
  simp [slots, isi_t (fp_isi k)]
theorem isfr_ok (k : Nat) (st : List MO) (q : Rat) (h : Sq q) : runD (FP PP (k + 1)) d_is_fraction [fr q] st = .ok (.v (.bl true)) st := by
  have h1 : ¬ ((q.den : Int) < 1) := by have := q.den_pos; omega
  have hm : Md (q.den : Int) := Nat.lt_of_lt_of_le (show (q.den : Int).natAbs < 2 ^ 40 from h.d) (by decide)
  have e := divisor_ok (FP PP k) st q.num q.den hm
  have hg : Int.gcd q.num q.den = 1 := q.reduced
  rw [hg] at e
  unfold runD d_is_fraction fr
  simp [slots, c_is_pair, c_is_integer, c_common_divisor, ispair_ok, isint_ok, e, h1]
theorem isam_ok (k : Nat) (st : List MO) (q : Rat) (h : Sq q) (h0 : 0 < q.num) : runD (FP PP (k + 2)) d_is_amount [fr q] st = .ok (.v (.bl true)) st := by
  have e := isfr_ok k st q h
  unfold runD d_is_amount fr
  unfold fr at e
  simp [slots, c_is_fraction, e, h0]
end K06

namespace K06
open PySem L2 Mq
theorem var_oi {L : Fns} {c : Nat} {ns : List Str} {vs : List Dt} {r : List Sl} {st : List MO} : ev L (.var 0) ⟨.oi c ns vs :: r, st⟩ = .ok (.bw 0) ⟨.oi c ns vs :: r, st⟩ := by rw [ev]; rfl
theorem wr_oi {f : Str} {d : Dt} {c : Nat} {ns : List Str} {vs : List Dt} {r : List Sl} {st : List MO} (h : ns.length < 1000) : wrF (.bw 0) f d ⟨.oi c ns vs :: r, st⟩ = .ok () ⟨.oi c (putN f ns) (putD f d ns vs) :: r, st⟩ := by
  unfold wrF
  simp [h]
theorem rdl_n {s : SS} {xs : List Dt} : rdl s (.nl xs) = some xs := rfl
theorem allB (xs : List Dt) : allBls (xs.map fun _ => Dt.bl true) = some (xs.map fun _ => true) := by
  induction xs with
  | nil => rfl
  | cons x xs ih => simp [allBls, ih]
/-- one side of an evening -/
structure Side (qs : List Rat) : Prop where
  s : Sums qs
  p : ∀ q ∈ qs, 0 < q.num
  l : 1 ≤ qs.length
  u : qs.length ≤ 100
theorem sums_ok (k : Nat) (st : List MO) (qs : List Rat) (h : Side qs) : runD (FP PP (k + 3)) d_are_sums [.tup (qs.map fr)] st = .ok (.v (.bl true)) st := by
  have hz : (FP PP (k + 3)).glob "MOST_SIDE" = some (.int 100) := rfl
  have e : ∀ s : SS, s.sl = [.v (.tup (qs.map fr)), .un] → s.st = st → ev (FP PP (k + 3)) (.lc (.call "is_amount" [.var 1]) (.n 1) (.seq true (.var 0)) none [1]) s = .ok (.nl ((qs.map fr).map fun _ => Dt.bl true)) s := fun s hs hst =>
    e_lc (s1 := s) (d := .tup (qs.map fr)) (xs := qs.map fr) (g := fun _ => .bl true) (i_seq (r := .v (.tup (qs.map fr))) (by simp [hs]) rfl rfl) (fun _ z => nomatch z) (.inl (by rw [hs]; rfl)) (fun x hx => by
      obtain ⟨q, hq, rfl⟩ := List.mem_map.mp hx
      have e1 : (s.set 1 (.v (fr q))).sl[1]? = some (.v (fr q)) := by unfold SS.set; simp [hs]
      have e2 := isam_ok k st q (h.s.2 q hq) (h.p q hq)
      have e3 : (s.set 1 (.v (fr q))).st = st := hst
      simp [e1, e3, c_is_amount, e2, liftF]
      obtain ⟨sl, st0⟩ := s
      cases hst
      rfl) (by rw [List.length_map]; exact Nat.le_trans h.u (by decide))
  unfold runD d_are_sums
  have sl0 : slots 2 ([Dt.tup (qs.map fr)].map Sl.v) = [.v (.tup (qs.map fr)), .un] := rfl
  show finD (Mq.execs _ [_] ⟨slots 2 _, st⟩) = _
  rw [sl0]
  have l1 : (1 : Int) ≤ qs.length := by have := h.l; omega
  have l2 : (qs.length : Int) ≤ 100 := by have := h.u; omega
  have e0 := e ⟨[.v (.tup (qs.map fr)), .un], st⟩ rfl rfl
  simp only [List.map_map] at e0
  have ab : allBls (qs.map ((fun _ => Dt.bl true) ∘ fr)) = some (qs.map fun _ => true) := by
    have := allB (qs.map fr)
    rw [List.map_map, List.map_map] at this; exact this
  simp [isi_t (fp_isi (k + 3)), e_glo hz, l1, l2, e0, rdl_n, ab]
theorem flat_fr (n : Nat) (q : Rat) : flat (n + 1) (fr q) = true := rfl
theorem deq_fr (p q : Rat) : deq (fr p) (fr q) = decide (p = q) := by
  show (decide (p.num = q.num) && (decide ((p.den : Int) = (q.den : Int)) && true)) = _
  by_cases e : p = q
  · subst e; simp
  · have : ¬ (p.num = q.num ∧ (p.den : Int) = (q.den : Int)) := fun ⟨a, b⟩ => e (Rat.ext a (by omega))
    simp [e]
    intro a b
    exact this ⟨a, by omega⟩
theorem ne_fr {s : SS} (p q : Rat) : cmpV .ne (.v (fr p)) (.v (fr q)) s = some (!decide (p = q)) := by
  rw [c_neD (flat_fr 39 p) (flat_fr 39 q) rfl rfl, deq_fr]
def evg (os ds : List Rat) : Dt := .ins 0 ["owed", "due"] [.tup (os.map fr), .tup (ds.map fr)]
theorem init_ok (k : Nat) (st : List MO) (os ds : List Rat) (h1 : Side os) (h2 : Side ds) (he : os.sum = ds.sum) : runI (FP PP (k + 4)) d_Evening__init_ 0 [.tup (os.map fr), .tup (ds.map fr)] st = .ok (["owed", "due"], [.tup (os.map fr), .tup (ds.map fr)]) st := by
  have e1 := sums_ok k st os h1
  have e2 := sums_ok k st ds h2
  have e3 := total_ok k st os h1.s
  have e4 := total_ok k st ds h2.s
  unfold runI d_Evening__init_
  have sl0 : slots 3 (Sl.oi 0 [] [] :: [Dt.tup (os.map fr), Dt.tup (ds.map fr)].map Sl.v) = [.oi 0 [] [], .v (.tup (os.map fr)), .v (.tup (ds.map fr))] := rfl
  show finI 0 (Mq.execs _ [_, _, _, _, _] ⟨slots 3 _, st⟩) = _
  rw [sl0]
  simp [c_are_sums, c_total_of, e1, e2, e3, e4, ne_fr, he, var_oi, wr_oi]
  have n1 : putN "owed" [] = ([("owed" : Str)] : List Str) := rfl
  have n2 : putN "due" [("owed" : Str)] = ([("owed" : Str), ("due" : Str)] : List Str) := by decide +kernel
  have d2 : ∀ x y : Dt, putD "due" y [("owed" : Str)] [x] = [x, y] := fun x y => by
    unfold putD
    rw [if_neg (by decide +kernel)]; rfl
  simp [n1, n2, d2, wr_oi, putD, finI, oiAt]
  decide +kernel
theorem make_ok (k : Nat) (st : List MO) (os ds : List Rat) (h1 : Side os) (h2 : Side ds) (he : os.sum = ds.sum) : (FP PP (k + 5)).make "Evening" [.tup (os.map fr), .tup (ds.map fr)] st = .ok (.v (evg os ds)) st := by
  rw [n_Evening]
  unfold mkI
  rw [init_ok k st os ds h1 h2 he]
  rfl
/-! ### what is asked of an evening -/
theorem lk1 {x : Dt} {vs : List Dt} {ns : List Str} : lkF "owed" ("owed" :: ns) (x :: vs) = some x := by unfold lkF; rw [if_pos rfl]
theorem lk2 {x y : Dt} : lkF "due" ["owed", "due"] [x, y] = some y := by
  unfold lkF
  rw [if_neg (by decide +kernel)]
  unfold lkF
  rw [if_pos rfl]
theorem fo {s : SS} {os ds : List Rat} : fldV (.v (evg os ds)) "owed" s = some (.tup (os.map fr)) := lk1
theorem fd {s : SS} {os ds : List Rat} : fldV (.v (evg os ds)) "due" s = some (.tup (ds.map fr)) := lk2
end K06

namespace K06
open PySem L2 Mq
def mu (u : Rat) (n : Nat) : Rat := (n : Rat) * u
theorem num_eq (p : Rat) : (p.num : Rat) = p * (p.den : Rat) := by
  have h : p = (p.num : Rat) / (p.den : Rat) := by
    rw [← Rat.mkRat_eq_div, Rat.mkRat_self]
  have hd : (p.den : Rat) ≠ 0 := fun z => p.den_nz (Rat.natCast_eq_zero_iff.mp z)
  generalize (p.num : Rat) = a at *
  generalize (p.den : Rat) = d at *
  subst h
  grind
theorem mu_pos {u : Rat} (hu : 0 < u) {n : Nat} (hn : 0 < n) : 0 < mu u n := Rat.mul_pos (Rat.natCast_pos.mpr hn) hu
theorem num_posR {p : Rat} (h : 0 < p) : 0 < p.num := by
  have := (Rat.lt_iff 0 p).mp h
  simpa using this
/-- n u for numbers up to N are not great -/
structure Un (u : Rat) (N : Nat) : Prop where
  p : 0 < u
  s : ∀ n, n ≤ N → Sq (mu u n)
theorem fr_nat (c : Nat) : fr (c : Rat) = .tup [.int c, .int 1] := rfl
end K06

namespace K06
open PySem L2 Mq
theorem dr (k : Nat) (st : List MO) (n b : Nat) (mo : MO) (many : Int) (hn : n < st.length) (hh : Hand b mo) (hb : b ≤ 1000000) (h1 : 1 ≤ many) (hs : Sm many) :
    ∃ (r : Int) (mo' : MO), (FP PP (k + 1)).call "_law_draw" [.ref n, .int many] (st.set n mo) = .ok (.v (.int r)) (st.set n mo') ∧ Hand (b + 1) mo' ∧ 0 ≤ r ∧ r < many := by
  obtain ⟨r, mo', e, p⟩ := draw_ok (FP PP k) (st.set n mo) n b mo many (get_set hn) hh hb h1 hs
  refine ⟨r, mo', ?_, p⟩
  rw [c_law_draw, e]
  simp
def cutB : List MS := [.asg 7 (.call "_law_draw" [.var 0, .bin .add (.bif "min" [.var 3, .bin .add (.bin .mul (.cst (.int 2)) (.bin .fdiv (.var 3) (.bin .sub (.var 2) (.var 5)))) (.cst (.int 1))]) (.cst (.int 1))]), .expr (.bme (.var 4) "append" [.bin .add (.cst (.int 1)) (.var 7)]), .asg 3 (.bin .sub (.var 3) (.var 7))]
def natsD (xs : List Nat) : List Dt := xs.map fun (x : Nat) => Dt.int x
theorem natsD_app (xs : List Nat) (y : Nat) : natsD xs ++ [.int y] = natsD (xs ++ [y]) := by simp [natsD]
def cutP (st : List MO) (n b : Nat) (full many : Nat) (j : Nat) (s : SS) : Prop := ∃ (parts : List Nat) (left : Nat) (mo : MO) (x y : Sl), s = ⟨[.v (.ref n), .v (.int full), .v (.int many), .v (.int left), .ol (natsD parts), x, .un, y], st.set n mo⟩ ∧ Hand (b + j) mo ∧ parts.length = j ∧ left + parts.sum + many = full + j ∧ ∀ p ∈ parts, 0 < p
theorem cut_body (k : Nat) (st : List MO) (n b full many j : Nat) (hn : n < st.length) (hb : b + j ≤ 1000000) (hf : full < 2 ^ 60) (hm : many ≤ 100) (hj : j < many) (s : SS) (h : cutP st n b full many j s) :
    ∃ s2, Mq.execs (FP PP (k + 1)) cutB (s.set 5 (.v (.int j))) = .ok .nx s2 ∧ cutP st n b full many (j + 1) s2 := by
  obtain ⟨parts, left, mo, x, y, rfl, hh, hl, hs, hp⟩ := h
  have f0 : left < 2 ^ 61 := by
    have : (2 : Nat) ^ 60 * 2 = 2 ^ 61 := by decide
    omega
  have s2 : Sm 2 := .of40 (by decide)
  have s3 : Sm ((left : Int) / ((many : Int) - j)) := by
    have a : (left : Int) / ((many : Int) - j) ≤ left := Int.ediv_le_self _ (by omega)
    have b : 0 ≤ (left : Int) / ((many : Int) - j) := Int.ediv_nonneg (by omega) (by omega)
    refine Nat.lt_of_lt_of_le (m := 2 ^ 61) ?_ (Nat.pow_le_pow_right (by decide) (by decide))
    omega
  have s4 : Sm ((many : Int) - j) := .of40 (by omega)
  have q0 : 0 ≤ (left : Int) / ((many : Int) - j) := Int.ediv_nonneg (by omega) (by omega)
  have d0 : 0 < (many : Int) - j := by omega
  have hdiv : ∀ s : SS, binV .fdiv (.v (.int left)) (.v (.int ((many : Int) - j))) s = some (.v (.int ((left : Int) / ((many : Int) - j)))) := fun s => v_div s4 d0
  generalize hq : (left : Int) / ((many : Int) - j) = q at *
  have m1 : 1 ≤ (if 2 * q + 1 < (left : Int) then 2 * q + 1 else (left : Int)) + 1 := by split <;> omega
  have m2 : (if 2 * q + 1 < (left : Int) then 2 * q + 1 else (left : Int)) ≤ left := by split <;> omega
  generalize hM : (if 2 * q + 1 < (left : Int) then 2 * q + 1 else (left : Int)) = M at *
  have sM : Sm (M + 1) := by
    refine Nat.lt_of_lt_of_le (m := 2 ^ 62) ?_ (Nat.pow_le_pow_right (by decide) (by decide))
    have : (2 : Nat) ^ 61 * 2 = 2 ^ 62 := by decide
    omega
  obtain ⟨r, mo', e, h2, r0, r1⟩ := dr k st n (b + j) mo (M + 1) hn hh hb m1 sM
  obtain ⟨r, rfl⟩ := Int.eq_ofNat_of_zero_le r0
  have la : (natsD parts).length < sizeLine := by
    have : (natsD parts).length = j := by simp [natsD, hl]
    rw [this]
    exact Nat.lt_of_lt_of_le (show j < 100 by omega) (by decide)
  have ea : ∀ d, mthF "append" d (natsD parts) = some (natsD parts ++ [d], .non) := fun d => by
    show (if (natsD parts).length < sizeLine then some (natsD parts ++ [d], Dt.non) else none) = _
    rw [if_pos la]
  refine ⟨⟨[.v (.ref n), .v (.int full), .v (.int many), .v (.int ((left - r : Nat) : Int)), .ol (natsD (parts ++ [1 + r])), .v (.int j), .un, .v (.int r)], st.set n mo'⟩, ?_, parts ++ [1 + r], left - r, mo', _, _, rfl, h2, by simp [hl], by simp; omega, fun p hp' => ?_⟩
  · unfold cutB
    have er : (left : Int) - (r : Int) = ((left - r : Nat) : Int) := by omega
    have rd : ∀ (l : List Sl) (t : List MO), l[4]? = some (.ol (natsD parts)) → rdt ⟨l, t⟩ (.bw 4) = some (natsD parts) := fun l t h => by
      unfold rdt
      simp only [h]
    have nA : natsD parts ++ [Dt.int (1 + (r : Int))] = natsD (parts ++ [1 + r]) := by rw [← natsD_app]; congr 2
    have bm : ∀ (t : List MO) (y : Sl), bmeF (FP PP (k + 1)) "append" (.bin .add (.cst (.int 1)) (.var 7)) (.bw 4) ⟨[.v (.ref n), .v (.int full), .v (.int many), .v (.int left), .ol (natsD parts), .v (.int j), .un, .v (.int r)], t⟩ = .ok (.v .non) ⟨[.v (.ref n), .v (.int full), .v (.int many), .v (.int left), .ol (natsD (parts ++ [1 + r])), .v (.int j), .un, .v (.int r)], t⟩ := fun t y => by
      rw [bmeF_y (rd _ _ rfl)]
      simp [ea, nA]
    simp [hdiv, s2, s3, hM, e]
    rw [bm _ .un]
    simp [er]
  · rcases List.mem_append.mp hp' with h | h
    · exact hp p h
    · simp at h; omega
end K06

namespace K06
open PySem L2 Mq
theorem cut_loop (k : Nat) (st : List MO) (n b full many : Nat) (hn : n < st.length) (hb : b + 200 ≤ 1000000) (hf : full < 2 ^ 60) (hm : many ≤ 100) (h1 : 1 ≤ many) (s : SS) (h : cutP st n b full many 0 s) :
    ∃ s', forL (fun _ => true) (fun s x => bindT (.n 5) x s) (fun s => Mq.execs (FP PP (k + 1)) cutB s) (rngI 0 ((many : Int) - 1)) s = .ok .nx s' ∧ cutP st n b full many (many - 1) s' := by
  have hl : (rngI 0 ((many : Int) - 1)).length = many - 1 := by simp [rngI]
  obtain ⟨s', e, p⟩ := for_inv (ck := fun _ => true) (tg := fun s x => bindT (.n 5) x s) (b := fun s => Mq.execs (FP PP (k + 1)) cutB s) (cutP st n b full many) (rngI 0 ((many : Int) - 1)) 0 s h fun j x s _ hx hp => by
    rw [Nat.sub_zero] at hx
    have hj : j < many - 1 := by rw [← hl]; exact (List.getElem?_eq_some_iff.mp hx).1
    have ex : x = .int j := by
      simp [rngI] at hx
      obtain ⟨a, ha, rfl⟩ := hx
      rw [List.getElem?_range hj] at ha
      cases ha; rfl
    subst ex
    obtain ⟨s2, e2, p2⟩ := cut_body k st n b full many j hn (by omega) hf hm (by omega) s hp
    exact ⟨_, s2, by rw [bindT], .inl e2, rfl, p2⟩
  rw [Nat.zero_add, hl] at p
  exact ⟨s', e, p⟩
end K06

namespace K06
open PySem L2 Mq
theorem bin_nl {a b : List Dt} {s : SS} (h : a.length + b.length ≤ sizeLine) : binV .add (.nl a) (.nl b) s = some (.nl (a ++ b)) := by
  show (if a.length + b.length ≤ sizeLine then some (RV.nl (a ++ b)) else none) = _
  rw [if_pos h]
theorem slc_bw {i : Nat} {xs : List Dt} {s : SS} {lo hi : Option Int} (h : s.sl[i]? = some (.ol xs)) : slcV (.bw i) lo hi s = some (.nl (cutD xs lo hi)) := by
  unfold slcV rdl rdt
  simp only [h]
theorem val_bw {i : Nat} {xs : List Dt} {s : SS} (h : s.sl[i]? = some (.ol xs)) : val (.bw i) s = .ok (.lst xs) (s.set i (.v (.lst xs))) := by
  unfold val
  simp only [h]
theorem rdl_bw {i : Nat} {xs : List Dt} {s : SS} (h : s.sl[i]? = some (.ol xs)) : rdl s (.bw i) = some xs := by
  unfold rdl rdt
  simp only [h]
theorem cut_ok (k : Nat) (st : List MO) (n b full many : Nat) (mo : MO) (hn : n < st.length) (hh : Hand b mo) (hb : b + 300 ≤ 1000000) (hf : full < 2 ^ 60) (hm : many ≤ 100) (h1 : 1 ≤ many) (hmf : many ≤ full) :
    ∃ (xs : List Nat) (mo' : MO), (FP PP (k + 2)).call "_law_cut" [.ref n, .int full, .int many] (st.set n mo) = .ok (.nl (natsD xs)) (st.set n mo') ∧ Hand (b + many) mo' ∧ xs.length = many ∧ xs.sum = full ∧ ∀ p ∈ xs, 0 < p := by
  have hP : cutP st n b full many 0 ⟨[.v (.ref n), .v (.int full), .v (.int many), .v (.int ((full - many : Nat) : Int)), .ol (natsD []), .un, .un, .un], st.set n mo⟩ := ⟨[], full - many, mo, .un, .un, rfl, hh, rfl, by simp; omega, by simp⟩
  obtain ⟨s', e, parts, left, mo1, x, y, rfl, hh1, hl, hs, hp⟩ := cut_loop k st n b full many hn (by omega) hf hm h1 _ hP
  obtain ⟨r, mo2, e2, hh2, r0, r1⟩ := dr k st n (b + (many - 1)) mo1 many hn hh1 (by omega) (by omega) (.of40 (by omega))
  obtain ⟨r, rfl⟩ := Int.eq_ofNat_of_zero_le r0
  refine ⟨(parts ++ [1 + left]).drop r ++ (parts ++ [1 + left]).take r, mo2, ?_, (show b + (many - 1) + 1 = b + many by omega) ▸ hh2, by simp [hl]; omega, ?_, fun p h => ?_⟩
  · have efm : ((full : Int) - (many : Int)) = ((full - many : Nat) : Int) := by omega
    rw [c_law_cut]
    unfold runD d_law_cut
    have sl0 : slots 8 ([Dt.ref n, .int full, .int many].map Sl.v) = [.v (.ref n), .v (.int full), .v (.int many), .un, .un, .un, .un, .un] := rfl
    show finD (Mq.execs _ [_, _, _, _, _, _] ⟨slots 8 _, _⟩) = _
    have s0 : (0 : Nat) ≤ sizeLine := by decide
    have a1 : Mq.exec (FP PP (k + 1)) (.asg 3 (.bin .sub (.var 1) (.var 2))) ⟨[.v (.ref n), .v (.int full), .v (.int many), .un, .un, .un, .un, .un], st.set n mo⟩ = .ok .nx ⟨[.v (.ref n), .v (.int full), .v (.int many), .v (.int ((full - many : Nat) : Int)), .un, .un, .un, .un], st.set n mo⟩ := by simp [efm]
    have a2 : Mq.exec (FP PP (k + 1)) (.asg 4 (.lst [])) ⟨[.v (.ref n), .v (.int full), .v (.int many), .v (.int ((full - many : Nat) : Int)), .un, .un, .un, .un], st.set n mo⟩ = .ok .nx ⟨[.v (.ref n), .v (.int full), .v (.int many), .v (.int ((full - many : Nat) : Int)), .ol (natsD []), .un, .un, .un], st.set n mo⟩ := by simp [natsD]
    have h3 : evI (FP PP (k + 1)) (.rng [.bin .sub (.var 2) (.cst (.int 1))]) ⟨[.v (.ref n), .v (.int full), .v (.int many), .v (.int ((full - many : Nat) : Int)), .ol (natsD []), .un, .un, .un], st.set n mo⟩ = .ok ⟨rngI 0 ((many : Int) - 1), .v .non, []⟩ ⟨[.v (.ref n), .v (.int full), .v (.int many), .v (.int ((full - many : Nat) : Int)), .ol (natsD []), .un, .un, .un], st.set n mo⟩ := i_rng (by simp) (by simp [rngOk]; omega)
    rw [sl0, x_cons, a1, r_ok, thenS_nx, x_cons, a2, r_ok, thenS_nx, x_cons, x_for, h3, r_ok]
    show finD ((Out.fix _ (forL (fun _ => true) (fun s x => bindT (.n 5) x s) (fun s => Mq.execs _ cutB s) (rngI 0 ((many : Int) - 1)) ⟨_, st.set n mo⟩)).bind _) = _
    rw [e, r_fix, r_ok, thenS_nx]
    have e2' : (FP PP (k + 1)).call "_law_draw" [.ref n, .int many] (st.set n mo1) = .ok (.v (.int r)) (st.set n mo2) := e2
    have la : (natsD parts).length < sizeLine := by
      have : (natsD parts).length = many - 1 := by simp [natsD, hl]
      rw [this]
      exact Nat.lt_of_lt_of_le (show many - 1 < 100 by omega) (by decide)
    have ea : ∀ d, mthF "append" d (natsD parts) = some (natsD parts ++ [d], .non) := fun d => by
      show (if (natsD parts).length < sizeLine then some (natsD parts ++ [d], Dt.non) else none) = _
      rw [if_pos la]
    have nA : natsD parts ++ [Dt.int (1 + (left : Int))] = natsD (parts ++ [1 + left]) := by rw [← natsD_app]; congr 2
    have hQ : (natsD (parts ++ [1 + left])).length = many := by simp [natsD, hl]; omega
    have hz : many ≤ sizeLine := Nat.le_trans hm (by decide)
    have rd : ∀ (l : List Sl) (t : List MO), l[4]? = some (.ol (natsD parts)) → rdt ⟨l, t⟩ (.bw 4) = some (natsD parts) := fun l t h => by
      unfold rdt
      simp only [h]
    have bm : ∀ (t : List MO), bmeF (FP PP (k + 1)) "append" (.bin .add (.cst (.int 1)) (.var 3)) (.bw 4) ⟨[.v (.ref n), .v (.int full), .v (.int many), .v (.int left), .ol (natsD parts), x, .un, y], t⟩ = .ok (.v .non) ⟨[.v (.ref n), .v (.int full), .v (.int many), .v (.int left), .ol (natsD (parts ++ [1 + left])), x, .un, y], t⟩ := fun t => by
      rw [bmeF_y (rd _ _ rfl)]
      simp [ea, nA]
    show finD (Mq.execs (FP PP (k + 1)) [.expr (.bme (.var 4) "append" [.bin .add (.cst (.int 1)) (.var 3)]), .asg 6 (.call "_law_draw" [.var 0, .var 2]), .ret (.bin .add (.slc (.var 4) (some (.var 6)) none) (.slc (.var 4) none (some (.var 6))))] ⟨[.v (.ref n), .v (.int full), .v (.int many), .v (.int left), .ol (natsD parts), x, .un, y], st.set n mo1⟩) = _
    have hnat : (natsD (parts ++ [1 + left])).drop r ++ (natsD (parts ++ [1 + left])).take r = natsD ((parts ++ [1 + left]).drop r ++ (parts ++ [1 + left]).take r) := by simp [natsD, List.map_drop, List.map_take]
    simp only [x_cons, x_expr, e_bme, r_varO (xs := natsD parts) (s := ⟨[.v (.ref n), .v (.int full), .v (.int many), .v (.int left), .ol (natsD parts), x, .un, y], st.set n mo1⟩) (i := 4) rfl, r_ok, bm, thenS_nx]
    generalize natsD (parts ++ [1 + left]) = Q at *
    have ad : ∀ s : SS, binV .add (.nl (Q.drop r)) (.nl (Q.take r)) s = some (.nl (Q.drop r ++ Q.take r)) := fun s => bin_nl (by rw [List.length_drop, List.length_take]; omega)
    simp [e2', slc_bw, cut_to, cut_from, ad, hnat]
  · rw [List.sum_append, Nat.add_comm, ← List.sum_append, List.take_append_drop, List.sum_append]
    simp; omega
  · have : p ∈ parts ++ [1 + left] := by
      rcases List.mem_append.mp h with h | h
      · exact List.mem_of_mem_drop h
      · exact List.mem_of_mem_take h
    rcases List.mem_append.mp this with h | h
    · exact hp p h
    · simp at h; omega
end K06

namespace K06
open PySem L2 Mq
theorem rdl_l {s : SS} {xs : List Dt} : rdl s (.v (.lst xs)) = some xs := rfl
theorem natsD_rev (xs : List Nat) : (natsD xs).reverse = natsD xs.reverse := by simp [natsD]
/-- two rows of numbers of one sum -/
structure Two (xs ys : List Nat) (full : Nat) : Prop where
  a : 1 ≤ xs.length
  b : xs.length ≤ 100
  c : 1 ≤ ys.length
  d : ys.length ≤ 100
  e : xs.sum = full
  f : ys.sum = full
  g : ∀ p ∈ xs, 0 < p
  h : ∀ p ∈ ys, 0 < p
  i : full < 2 ^ 60
theorem numbers_ok (k : Nat) (st : List MO) (n b side most : Nat) (mo : MO) (hn : n < st.length) (hh : Hand b mo) (hb : b + 1000 ≤ 1000000) (h1 : 1 ≤ side) (h2 : side ≤ 100) (h3 : 1 ≤ most) (h4 : most ≤ 1000000000000) :
    ∃ (xs ys : List Nat) (full : Nat) (mo' : MO), (FP PP (k + 3)).call "_law_numbers" [.ref n, .int side, .int most] (st.set n mo) = .ok (.v (.tup [.lst (natsD xs), .lst (natsD ys)])) (st.set n mo') ∧ Hand (b + 300) mo' ∧ Two xs ys full := by
  obtain ⟨r1, m1, e1, hh1, p1, q1⟩ := dr (k + 1) st n b mo side hn hh (by omega) (by omega) (.of40 (by omega))
  obtain ⟨r1, rfl⟩ := Int.eq_ofNat_of_zero_le p1
  obtain ⟨r2, m2, e2, hh2, p2, q2⟩ := dr (k + 1) st n (b + 1) m1 side hn hh1 (by omega) (by omega) (.of40 (by omega))
  obtain ⟨r2, rfl⟩ := Int.eq_ofNat_of_zero_le p2
  obtain ⟨r3, m3, e3, hh3, p3, q3⟩ := dr (k + 1) st n (b + 2) m2 most hn hh2 (by omega) (by omega) (.of40 (by omega))
  obtain ⟨r3, rfl⟩ := Int.eq_ofNat_of_zero_le p3
  obtain ⟨r4, m4, e4, hh4, p4, q4⟩ := dr (k + 1) st n (b + 3) m3 4 hn hh3 (by omega) (by omega) (.of40 (by omega))
  have q5 : (2 : Nat) ^ 60 = 1152921504606846976 := by decide
  have hs : (0 : Nat) ≤ sizeLine := by decide
  have hs2 : (2 : Nat) ≤ sizeLine := by decide
  let full : Nat := (if 1 + r2 > 1 + r1 then 1 + r2 else 1 + r1) + r3
  have ef : (if r1 < r2 then (1 : Int) + r2 else 1 + r1) + r3 = (full : Nat) := by
    show _ = (((if 1 + r2 > 1 + r1 then 1 + r2 else 1 + r1) + r3 : Nat) : Int)
    split <;> split <;> omega
  have f1 : 1 + r1 ≤ full := by show 1 + r1 ≤ (if 1 + r2 > 1 + r1 then 1 + r2 else 1 + r1) + r3; split <;> omega
  have f2 : 1 + r2 ≤ full := by show 1 + r2 ≤ (if 1 + r2 > 1 + r1 then 1 + r2 else 1 + r1) + r3; split <;> omega
  have f3 : full < 2 ^ 60 := by show (if 1 + r2 > 1 + r1 then 1 + r2 else 1 + r1) + r3 < _; split <;> omega
  generalize hF : full = F at *
  have g1 : (1 : Int) + r1 = ((1 + r1 : Nat) : Int) := by omega
  have g2 : (1 : Int) + r2 = ((1 + r2 : Nat) : Int) := by omega
  obtain ⟨xs, m5, e5, hh5, l5, s5, t5⟩ := cut_ok k st n (b + 4) F (1 + r1) m4 hn hh4 (by omega) f3 (by omega) (by omega) f1
  rw [← g1] at e5
  rw [c_law_numbers]
  unfold runD d_law_numbers
  have sl0 : slots 8 ([Dt.ref n, .int side, .int most].map Sl.v) = [.v (.ref n), .v (.int side), .v (.int most), .un, .un, .un, .un, .un] := rfl
  by_cases c0 : r4 = 0
  · obtain ⟨ys, m6, e6, hh6, l6, s6, t6⟩ := cut_ok k st n (b + 4 + (1 + r1)) F (1 + r1) m5 hn hh5 (by omega) f3 (by omega) (by omega) f1
    rw [← g1] at e6
    refine ⟨xs, ys.reverse, F, m6, ?_, hh6.mono (by omega), ⟨by omega, by omega, by simp; omega, by simp; omega, s5, by rw [List.sum_reverse]; exact s6, t5, fun p hp => t6 p (by simpa using hp), f3⟩⟩
    show finD (Mq.execs _ [_, _, _, _, _, _, _, _] ⟨slots 8 _, _⟩) = _
    rw [sl0]
    simp [e1, e2, e3, e4, e5, e6, ef, c0, hs2, rdl_n, natsD_rev]
  · by_cases c1 : r4 = 1
    · refine ⟨xs, xs.reverse, F, m5, ?_, hh5.mono (by omega), ⟨by omega, by omega, by simp; omega, by simp; omega, s5, by rw [List.sum_reverse]; exact s5, t5, fun p hp => t5 p (by simpa using hp), f3⟩⟩
      show finD (Mq.execs _ [_, _, _, _, _, _, _, _] ⟨slots 8 _, _⟩) = _
      rw [sl0]
      simp [e1, e2, e3, e4, e5, ef, c0, c1, hs2, rdl_l, val_bw, natsD_rev]
    · obtain ⟨ys, m6, e6, hh6, l6, s6, t6⟩ := cut_ok k st n (b + 4 + (1 + r1)) F (1 + r2) m5 hn hh5 (by omega) f3 (by omega) (by omega) f2
      rw [← g2] at e6
      refine ⟨xs, ys, F, m6, ?_, hh6.mono (by omega), ⟨by omega, by omega, by omega, by omega, s5, s6, t5, t6, f3⟩⟩
      show finD (Mq.execs _ [_, _, _, _, _, _, _, _] ⟨slots 8 _, _⟩) = _
      rw [sl0]
      simp [e1, e2, e3, e4, e5, e6, ef, c0, c1, hs2, val_bw]
end K06

namespace K06
open PySem L2 Mq
theorem un_of {u : Rat} {N : Nat} (hp : 0 < u) (hn : N * u.num.natAbs < 2 ^ 160) (hd : u.den < 2 ^ 40) : Un u N := ⟨hp, fun n hle => by
  have hd0 : 0 < (n : Rat).den * u.den := Nat.mul_pos (n : Rat).den_pos u.den_pos
  have em : (n : Rat) * u = mkRat ((n : Rat).num * u.num) ((n : Rat).den * u.den) := by rw [Rat.mul_def, Rat.normalize_eq_mkRat]
  have a : (((n : Rat) * u).num).natAbs ≤ n * u.num.natAbs := by
    rw [em, mk_num hd0]
    refine Nat.le_trans (Int.natAbs_ediv_le_natAbs _ _) ?_
    rw [Rat.num_natCast, Int.natAbs_mul]
    exact Nat.le_refl _
  have b : ((n : Rat) * u).den ≤ u.den := by
    have e := mk_den (a := (n : Rat).num * u.num) hd0
    rw [← em] at e
    have : (((n : Rat) * u).den : Int) ≤ (((n : Rat).den * u.den : Nat) : Int) := by
      rw [e]; exact Int.ediv_le_self _ (by omega)
    rw [Rat.den_natCast, Nat.one_mul] at this
    omega
  exact ⟨Nat.lt_of_le_of_lt a (Nat.lt_of_le_of_lt (Nat.mul_le_mul_right _ hle) hn), Nat.lt_of_le_of_lt b hd⟩⟩
def us : List Rat := [1, 1, 2, mkRat 1 2, mkRat 3 4, 10, mkRat 7 3, 1000000000000, mkRat 1 1000000000]
theorem us_ok : ∀ u ∈ us, 0 < u ∧ u.num.natAbs < 2 ^ 50 ∧ u.den < 2 ^ 40 := by decide +kernel
theorem us_fr : us.map fr = [.tup [.int 1, .int 1], .tup [.int 1, .int 1], .tup [.int 2, .int 1], .tup [.int 1, .int 2], .tup [.int 3, .int 4], .tup [.int 10, .int 1], .tup [.int 7, .int 3], .tup [.int 1000000000000, .int 1], .tup [.int 1, .int 1000000000]] := by decide +kernel
theorem us_un {u : Rat} (h : u ∈ us) : Un u (2 ^ 60) := by
  obtain ⟨a, b, c⟩ := us_ok u h
  refine un_of a ?_ c
  have : 2 ^ 60 * u.num.natAbs < 2 ^ 60 * 2 ^ 50 := Nat.mul_lt_mul_of_pos_left b (by decide)
  exact Nat.lt_of_lt_of_le this (by decide)
theorem at_fr {qs : List Rat} {i : Int} (h0 : 0 ≤ i) (h1 : i < qs.length) : ∃ c, c ∈ qs ∧ atI (qs.map fr) i = some (fr c) := by
  obtain ⟨k, rfl⟩ := Int.eq_ofNat_of_zero_le h0
  have hk : k < qs.length := by omega
  exact ⟨qs[k], List.getElem_mem hk, at_n (k := k) (by simp [hk]) rfl⟩
theorem ix_bw {i : Nat} {xs : List Dt} {s : SS} {j : Int} (h : s.sl[i]? = some (.ol xs)) : idxV (.bw i) (.v (.int j)) s = (atI xs j).map .v := by
  unfold idxV rds rdl rdt
  simp only [h]
theorem unit_ok (k : Nat) (st : List MO) (n b : Nat) (mo : MO) (hn : n < st.length) (hh : Hand b mo) (hb : b ≤ 1000000) :
    ∃ (u : Rat) (mo' : MO), (FP PP (k + 2)).call "_law_unit" [.ref n] (st.set n mo) = .ok (.v (fr u)) (st.set n mo') ∧ Hand (b + 1) mo' ∧ Un u (2 ^ 60) ∧ u ∈ us := by
  obtain ⟨r, m1, e1, hh1, p1, q1⟩ := dr k st n b mo 9 hn hh (by omega) (by omega) (.of40 (by omega))
  obtain ⟨u, hu, eu⟩ := at_fr (qs := us) p1 (by exact q1)
  refine ⟨u, m1, ?_, hh1, us_un hu, hu⟩
  rw [c_law_unit]
  unfold runD d_law_unit
  have sl0 : slots 2 ([Dt.ref n].map Sl.v) = [.v (.ref n), .un] := rfl
  show finD (Mq.execs _ [_, _] ⟨slots 2 _, _⟩) = _
  rw [sl0]
  have s9 : (9 : Nat) ≤ sizeLine := by decide
  have s2 : (2 : Nat) ≤ sizeLine := by decide
  have pw : ∀ s : SS, binV .pow (.v (.int 10)) (.v (.int 12)) s = some (.v (.int 1000000000000)) := fun s => v_powO (by decide)
  have pw9 : ∀ s : SS, binV .pow (.v (.int 10)) (.v (.int 9)) s = some (.v (.int 1000000000)) := fun s => v_powO (by decide)
  have ul : us.length ≤ sizeLine := s9
  simp [s9, s2, pw, pw9, ← us_fr, e1, ul, ix_bw, eu]
end K06

namespace K06
open PySem L2 Mq
theorem mu1 (u : Rat) : mu u 1 = u := by
  show ((1 : Nat) : Rat) * u = u
  rw [show ((1 : Nat) : Rat) = 1 from rfl, Rat.one_mul]
theorem Un.sq {u : Rat} {N : Nat} (h : Un u N) (hN : 1 ≤ N) : Sq u := by
  have := h.s 1 hN
  rwa [mu1] at this
theorem sq_nat {n : Nat} (h : n < 2 ^ 100) : Sq (n : Rat) := ⟨by
  rw [Rat.num_natCast]
  exact Nat.lt_of_lt_of_le (show (n : Int).natAbs < 2 ^ 100 from h) (by decide), by rw [Rat.den_natCast]; decide⟩
theorem mu_sum (u : Rat) : ∀ xs : List Nat, (xs.map (mu u)).sum = mu u xs.sum
  | [] => by
    show (0 : Rat) = ((0 : Nat) : Rat) * u
    rw [show ((0 : Nat) : Rat) = 0 from rfl, Rat.zero_mul]
  | x :: xs => by
    rw [List.map_cons, List.sum_cons, mu_sum u xs, List.sum_cons]
    show (x : Rat) * u + (xs.sum : Rat) * u = ((x + xs.sum : Nat) : Rat) * u
    rw [Rat.natCast_add, Rat.add_mul]
theorem take_le (xs : List Nat) (j : Nat) : (xs.take j).sum ≤ xs.sum := by
  have := congrArg List.sum (List.take_append_drop j xs)
  rw [List.sum_append] at this
  omega
theorem mem_le {xs : List Nat} {x : Nat} (h : x ∈ xs) : x ≤ xs.sum := by
  induction xs with
  | nil => cases h
  | cons y ys ih =>
    rw [List.sum_cons]
    rcases List.mem_cons.mp h with e | h
    · omega
    · have := ih h; omega
theorem side_mu {u : Rat} {xs : List Nat} {full : Nat} (hu : Un u (2 ^ 60)) (h1 : 1 ≤ xs.length) (h2 : xs.length ≤ 100) (h3 : xs.sum = full) (h4 : ∀ p ∈ xs, 0 < p) (h5 : full < 2 ^ 60) : Side (xs.map (mu u)) where
  s := ⟨fun j => by
    rw [← List.map_take, mu_sum]
    exact hu.s _ (by have := take_le xs j; omega), fun q hq => by
    obtain ⟨x, hx, rfl⟩ := List.mem_map.mp hq
    exact hu.s _ (by have := mem_le hx; omega)⟩
  p := fun q hq => by
    obtain ⟨x, hx, rfl⟩ := List.mem_map.mp hq
    exact num_posR (mu_pos hu.p (h4 x hx))
  l := by simpa using h1
  u := by simpa using h2
theorem sums2_ok (k : Nat) (st : List MO) (n b side most : Nat) (mo : MO) (hn : n < st.length) (hh : Hand b mo) (hb : b + 2000 ≤ 1000000) (h1 : 1 ≤ side) (h2 : side ≤ 100) (h3 : 1 ≤ most) (h4 : most ≤ 1000000000000) :
    ∃ (xs ys : List Nat) (full : Nat) (u : Rat) (mo' : MO), (FP PP (k + 4)).call "_law_sums" [.ref n, .int side, .int most] (st.set n mo) = .ok (.v (.tup [.tup ((xs.map (mu u)).map fr), .tup ((ys.map (mu u)).map fr)])) (st.set n mo') ∧ Hand (b + 301) mo' ∧ Two xs ys full ∧ Un u (2 ^ 60) ∧ u ∈ us := by
  obtain ⟨xs, ys, full, m1, e1, hh1, t⟩ := numbers_ok k st n b side most mo hn hh (by omega) h1 h2 h3 h4
  obtain ⟨u, m2, e2, hh2, hu, hum⟩ := unit_ok (k + 1) st n (b + 300) m1 hn hh1 (by omega)
  refine ⟨xs, ys, full, u, m2, ?_, hh2, t, hu, hum⟩
  rw [c_law_sums]
  unfold runD d_law_sums
  have sl0 : slots 7 ([Dt.ref n, .int side, .int most].map Sl.v) = [.v (.ref n), .v (.int side), .v (.int most), .un, .un, .un, .un] := rfl
  show finD (Mq.execs _ [_, _, _] ⟨slots 7 _, _⟩) = _
  rw [sl0]
  have s2 : (2 : Nat) ≤ sizeLine := by decide
  let g : Dt → Dt := fun x => match x with | .int i => fr (mu u i.toNat) | x => x
  have hg : ∀ zs : List Nat, (natsD zs).map g = (zs.map (mu u)).map fr := fun zs => by
    unfold natsD
    rw [List.map_map, List.map_map]
    rfl
  have lc : ∀ (i : Nat) (zs : List Nat) (l : List Sl), l[i]? = some (.v (.lst (natsD zs))) → l[3]? = some (.v (fr u)) → l[6]? = some .un → zs.length ≤ 100 → (∀ z ∈ zs, z < 2 ^ 60) → 
      ev (FP PP (k + 3)) (.lc (.call "_law_times" [.tup [.var 6, .cst (.int 1)], .var 3]) (.n 6) (.seq true (.var i)) none [6]) ⟨l, st.set n m2⟩ = .ok (.nl ((zs.map (mu u)).map fr)) ⟨l, st.set n m2⟩ := fun i zs l a1 a2 a3 a4 a5 => by
    rw [← hg zs]
    refine e_lc (s1 := ⟨l, st.set n m2⟩) (d := .lst (natsD zs)) (xs := natsD zs) (g := g) (i_seq (r := .v (.lst (natsD zs))) (r_varV a1) rfl rfl) (fun _ z => nomatch z) (.inl a3) (fun x hx => ?_) (by unfold natsD; rw [List.length_map]; exact Nat.le_trans a4 (by decide))
    obtain ⟨z, hz, rfl⟩ := List.mem_map.mp hx
    have hl6 : 6 < l.length := (List.getElem?_eq_some_iff.mp a3).1
    have v6 : (l.set 6 (.v (.int (z : Int))))[6]? = some (.v (.int (z : Int))) := List.getElem?_set_self hl6
    have v3 : (l.set 6 (.v (.int (z : Int))))[3]? = some (.v (fr u)) := by rw [List.getElem?_set_ne (by decide)]; exact a2
    have e3 := timesL_ok k (st.set n m2) (z : Rat) u (sq_nat (Nat.lt_trans (a5 z hz) (by decide))) (hu.sq (by decide))
    rw [fr_nat] at e3
    show ev _ _ ⟨l.set 6 (.v (.int z)), _⟩ = .ok (.v (fr ((z : Rat) * u))) ⟨l.set 6 (.v (.int z)), _⟩
    simp [s2, v6, v3, c_law_times, e3]
  have b1 : ∀ z ∈ xs, z < 2 ^ 60 := fun z h => Nat.lt_of_le_of_lt (mem_le h) (by have := t.e; have := t.i; omega)
  have b2 : ∀ z ∈ ys, z < 2 ^ 60 := fun z h => Nat.lt_of_le_of_lt (mem_le h) (by have := t.f; have := t.i; omega)
  have L4 := lc 4 xs [.v (.ref n), .v (.int side), .v (.int most), .v (fr u), .v (.lst (natsD xs)), .v (.lst (natsD ys)), .un] rfl rfl rfl t.b b1
  have L5 := lc 5 ys [.v (.ref n), .v (.int side), .v (.int most), .v (fr u), .v (.lst (natsD xs)), .v (.lst (natsD ys)), .un] rfl rfl rfl t.d b2
  simp [e1, e2, bindT, bindTs]
  simp [L4, L5, s2]
end K06

namespace K06
/-! payments, in units: no program here -/
abbrev St := List Nat × List Nat
def am (s : St) (p : Nat × Nat) : Nat := min (s.1.getD p.1 0) (s.2.getD p.2 0)
def go (s : St) (p : Nat × Nat) : St := (s.1.set p.1 (s.1.getD p.1 0 - am s p), s.2.set p.2 (s.2.getD p.2 0 - am s p))
def can (s : St) (p : Nat × Nat) : Prop := 0 < am s p
def gos (s : St) : List (Nat × Nat) → St
  | [] => s
  | p :: r => gos (go s p) r
def ams (s : St) : List (Nat × Nat) → List Nat
  | [] => []
  | p :: r => am s p :: ams (go s p) r
def Row (s : St) : List (Nat × Nat) → Prop
  | [] => True
  | p :: r => can s p ∧ Row (go s p) r
theorem gos_app (p : Nat × Nat) : ∀ (ps : List (Nat × Nat)) (s : St), gos s (ps ++ [p]) = go (gos s ps) p
  | [], _ => rfl
  | q :: r, s => gos_app p r (go s q)
theorem ams_app (p : Nat × Nat) : ∀ (ps : List (Nat × Nat)) (s : St), ams s (ps ++ [p]) = ams s ps ++ [am (gos s ps) p]
  | [], _ => rfl
  | q :: r, s => by
    show am s q :: ams (go s q) (r ++ [p]) = am s q :: (ams (go s q) r ++ [am (gos (go s q) r) p])
    rw [ams_app p r (go s q)]
theorem row_app (p : Nat × Nat) : ∀ (ps : List (Nat × Nat)) (s : St), Row s ps → can (gos s ps) p → Row s (ps ++ [p])
  | [], _, _, h => ⟨h, trivial⟩
  | q :: r, s, h, h2 => ⟨h.1, row_app p r (go s q) h.2 h2⟩
theorem getD_lt {l : List Nat} {i : Nat} (h : 0 < l.getD i 0) : i < l.length := by
  rcases Nat.lt_or_ge i l.length with k | k
  · exact k
  · rw [List.getD_eq_getElem?_getD, List.getElem?_eq_none k] at h
    exact absurd h (by simp)
theorem can_1 {s : St} {p : Nat × Nat} (h : can s p) : p.1 < s.1.length := getD_lt (Nat.lt_of_lt_of_le h (Nat.min_le_left _ _))
theorem can_2 {s : St} {p : Nat × Nat} (h : can s p) : p.2 < s.2.length := getD_lt (Nat.lt_of_lt_of_le h (Nat.min_le_right _ _))
theorem go_l1 {s : St} {p : Nat × Nat} : (go s p).1.length = s.1.length := List.length_set
theorem go_l2 {s : St} {p : Nat × Nat} : (go s p).2.length = s.2.length := List.length_set
theorem gos_l1 : ∀ (ps : List (Nat × Nat)) (s : St), (gos s ps).1.length = s.1.length
  | [], _ => rfl
  | p :: r, s => (gos_l1 r (go s p)).trans go_l1
theorem gos_l2 : ∀ (ps : List (Nat × Nat)) (s : St), (gos s ps).2.length = s.2.length
  | [], _ => rfl
  | p :: r, s => (gos_l2 r (go s p)).trans go_l2
/-! sums -/
theorem sum_set : ∀ (l : List Nat) (i a : Nat), i < l.length → (l.set i a).sum + l.getD i 0 = l.sum + a
  | x :: r, 0, a, _ => by simp [List.sum_cons]; omega
  | x :: r, i + 1, a, h => by
    have := sum_set r i a (by simpa using h)
    simp [List.sum_cons] at this ⊢
    omega
theorem am_l1 {s : St} {p : Nat × Nat} : am s p ≤ s.1.getD p.1 0 := Nat.min_le_left _ _
theorem am_l2 {s : St} {p : Nat × Nat} : am s p ≤ s.2.getD p.2 0 := Nat.min_le_right _ _
theorem go_s1 {s : St} {p : Nat × Nat} (h : can s p) : (go s p).1.sum + am s p = s.1.sum := by
  have := sum_set s.1 p.1 (s.1.getD p.1 0 - am s p) (can_1 h)
  have a := am_l1 (s := s) (p := p)
  show (s.1.set p.1 (s.1.getD p.1 0 - am s p)).sum + am s p = s.1.sum
  omega
theorem go_s2 {s : St} {p : Nat × Nat} (h : can s p) : (go s p).2.sum + am s p = s.2.sum := by
  have := sum_set s.2 p.2 (s.2.getD p.2 0 - am s p) (can_2 h)
  have a := am_l2 (s := s) (p := p)
  show (s.2.set p.2 (s.2.getD p.2 0 - am s p)).sum + am s p = s.2.sum
  omega
theorem gos_s1 : ∀ (ps : List (Nat × Nat)) (s : St), Row s ps → (gos s ps).1.sum + (ams s ps).sum = s.1.sum
  | [], s, _ => Nat.add_zero _
  | p :: r, s, h => by
    have a := gos_s1 r (go s p) h.2
    have b := go_s1 h.1
    show (gos (go s p) r).1.sum + (am s p :: ams (go s p) r).sum = _
    rw [List.sum_cons]; omega
theorem gos_s2 : ∀ (ps : List (Nat × Nat)) (s : St), Row s ps → (gos s ps).2.sum + (ams s ps).sum = s.2.sum
  | [], s, _ => Nat.add_zero _
  | p :: r, s, h => by
    have a := gos_s2 r (go s p) h.2
    have b := go_s2 h.1
    show (gos (go s p) r).2.sum + (am s p :: ams (go s p) r).sum = _
    rw [List.sum_cons]; omega
/-! who isn't quits -/
def nzl : List Nat → Nat
  | [] => 0
  | x :: r => (if x = 0 then 0 else 1) + nzl r
theorem nzl_le : ∀ l : List Nat, nzl l ≤ l.length
  | [] => Nat.le_refl _
  | x :: r => by
    have := nzl_le r
    show (if x = 0 then 0 else 1) + nzl r ≤ r.length + 1
    split <;> omega
theorem nzl_set (a : Nat) : ∀ (l : List Nat) (i : Nat), 0 < l.getD i 0 → nzl (l.set i a) + (if a = 0 then 1 else 0) = nzl l
  | [], i, h => by simp at h
  | x :: r, 0, h => by
    have h' : 0 < x := h
    show (if a = 0 then 0 else 1) + nzl r + (if a = 0 then 1 else 0) = (if x = 0 then 0 else 1) + nzl r
    rw [if_neg (c := x = 0) (by omega)]
    split <;> omega
  | x :: r, i + 1, h => by
    have := nzl_set a r i h
    show (if x = 0 then 0 else 1) + nzl (r.set i a) + _ = (if x = 0 then 0 else 1) + nzl r
    omega
theorem nzl_zero : ∀ l : List Nat, nzl l = 0 → l = List.replicate l.length 0
  | [], _ => rfl
  | x :: r, h => by
    have h' : (if x = 0 then 0 else 1) + nzl r = 0 := h
    have hx : x = 0 := by
      by_cases e : x = 0
      · exact e
      · rw [if_neg e] at h'; omega
    subst hx
    rw [List.length_cons, List.replicate_succ, ← nzl_zero r (by omega)]
theorem sum_zero : ∀ l : List Nat, l.sum = 0 → l = List.replicate l.length 0
  | [], _ => rfl
  | x :: r, h => by
    rw [List.sum_cons] at h
    have hx : x = 0 := by omega
    subst hx
    rw [List.length_cons, List.replicate_succ, ← sum_zero r (by omega)]
def nz (s : St) : Nat := nzl s.1 + nzl s.2
theorem nz_go {s : St} {p : Nat × Nat} (h : can s p) : nz (go s p) < nz s := by
  have h1 : 0 < s.1.getD p.1 0 := Nat.lt_of_lt_of_le h am_l1
  have h2 : 0 < s.2.getD p.2 0 := Nat.lt_of_lt_of_le h am_l2
  have a := nzl_set (s.1.getD p.1 0 - am s p) s.1 p.1 h1
  have b := nzl_set (s.2.getD p.2 0 - am s p) s.2 p.2 h2
  show nzl (s.1.set p.1 (s.1.getD p.1 0 - am s p)) + nzl (s.2.set p.2 (s.2.getD p.2 0 - am s p)) < nzl s.1 + nzl s.2
  have c : s.1.getD p.1 0 - am s p = 0 ∨ s.2.getD p.2 0 - am s p = 0 := by unfold am; omega
  rcases c with c | c
  · rw [if_pos c] at a
    split at b <;> omega
  · rw [if_pos c] at b
    split at a <;> omega
theorem nz_gos : ∀ (ps : List (Nat × Nat)) (s : St), Row s ps → nz (gos s ps) + ps.length ≤ nz s
  | [], s, _ => Nat.le_refl _
  | p :: r, s, h => by
    have a := nz_gos r (go s p) h.2
    have b := nz_go h.1
    show nz (gos (go s p) r) + (r.length + 1) ≤ nz s
    omega
/-- nobody can pay -/
def Stuck (s : St) : Prop := ∀ p, ¬ can s p
theorem pos_of_sum : ∀ l : List Nat, 0 < l.sum → ∃ i, 0 < l.getD i 0
  | [], h => by simp at h
  | x :: r, h => by
    rw [List.sum_cons] at h
    by_cases e : 0 < x
    · exact ⟨0, e⟩
    · obtain ⟨i, hi⟩ := pos_of_sum r (by omega)
      exact ⟨i + 1, hi⟩
def Quits (s : St) : Prop := s.1 = List.replicate s.1.length 0 ∧ s.2 = List.replicate s.2.length 0
theorem stuck_quits {s : St} (h : Stuck s) (e : s.1.sum = s.2.sum) : Quits s := by
  by_cases z : s.1.sum = 0
  · exact ⟨sum_zero _ z, sum_zero _ (by omega)⟩
  · obtain ⟨i, hi⟩ := pos_of_sum s.1 (by omega)
    obtain ⟨j, hj⟩ := pos_of_sum s.2 (by omega)
    exact absurd (show can s (i, j) from Nat.lt_min.mpr ⟨hi, hj⟩) (h (i, j))
theorem way_quits {s : St} {ps : List (Nat × Nat)} (h : Row s ps) (e : s.1.sum = s.2.sum) (hl : ps.length = s.1.length + s.2.length ∨ Stuck (gos s ps)) : Quits (gos s ps) := by
  rcases hl with hl | hl
  · have a := nz_gos ps s h
    have b := nzl_le s.1
    have c := nzl_le s.2
    have d : nzl (gos s ps).1 + nzl (gos s ps).2 + ps.length ≤ nzl s.1 + nzl s.2 := a
    exact ⟨nzl_zero _ (by omega), nzl_zero _ (by omega)⟩
  · refine stuck_quits hl ?_
    have a := gos_s1 ps s h
    have b := gos_s2 ps s h
    omega
/-- all pairs that can pay -/
def prsAt (s : St) (i : Nat) : List (Nat × Nat) := if s.1.getD i 0 = 0 then [] else ((List.range s.2.length).filter fun j => decide (s.2.getD j 0 ≠ 0)).map fun j => (i, j)
def prsTo (s : St) (n : Nat) : List (Nat × Nat) := (List.range n).flatMap (prsAt s)
theorem prsTo_succ (s : St) (n : Nat) : prsTo s (n + 1) = prsTo s n ++ prsAt s n := by
  unfold prsTo
  rw [List.range_succ, List.flatMap_append]
  simp
theorem mem_prsAt {s : St} {i : Nat} {p : Nat × Nat} : p ∈ prsAt s i ↔ p.1 = i ∧ can s p := by
  unfold prsAt can am
  obtain ⟨a, b⟩ := p
  by_cases e : s.1.getD i 0 = 0
  · rw [if_pos e]
    constructor
    · intro h; cases h
    · rintro ⟨h, h2⟩
      have h : a = i := h
      subst h
      simp only at h2
      omega
  · rw [if_neg e]
    simp only [List.mem_map, List.mem_filter, List.mem_range, decide_eq_true_eq, Prod.mk.injEq]
    constructor
    · rintro ⟨j, ⟨_, h⟩, rfl, rfl⟩
      exact ⟨rfl, Nat.lt_min.mpr ⟨by omega, by omega⟩⟩
    · rintro ⟨rfl, h2⟩
      have := Nat.lt_min.mp h2
      exact ⟨b, ⟨getD_lt this.2, by omega⟩, rfl, rfl⟩
theorem mem_prs {s : St} {p : Nat × Nat} : p ∈ prsTo s s.1.length ↔ can s p := by
  unfold prsTo
  simp only [List.mem_flatMap, List.mem_range]
  constructor
  · rintro ⟨i, _, h⟩
    exact (mem_prsAt.mp h).2
  · intro h
    exact ⟨p.1, can_1 h, mem_prsAt.mpr ⟨rfl, h⟩⟩
theorem prsAt_len (s : St) (i : Nat) : (prsAt s i).length ≤ s.2.length := by
  unfold prsAt
  split
  · exact Nat.zero_le _
  · rw [List.length_map]
    refine Nat.le_trans (List.length_filter_le _ _) ?_
    rw [List.length_range]; exact Nat.le_refl _
theorem prsTo_len (s : St) : ∀ n, (prsTo s n).length ≤ n * s.2.length
  | 0 => by simp [prsTo]
  | n + 1 => by
    rw [prsTo_succ, List.length_append, Nat.add_mul, Nat.one_mul]
    exact Nat.add_le_add (prsTo_len s n) (prsAt_len s n)
/-- every number stays at most N -/
theorem gos_le {N : Nat} : ∀ (ps : List (Nat × Nat)) (s : St), (∀ x ∈ s.1, x ≤ N) → (∀ x ∈ s.2, x ≤ N) → (∀ x ∈ (gos s ps).1, x ≤ N) ∧ ∀ x ∈ (gos s ps).2, x ≤ N
  | [], s, h1, h2 => ⟨h1, h2⟩
  | p :: r, s, h1, h2 => by
    have g : ∀ (l : List Nat) (i a : Nat), (∀ x ∈ l, x ≤ N) → ∀ x ∈ l.set i (l.getD i 0 - a), x ≤ N := fun l i a h x hx => by
      rcases List.mem_or_eq_of_mem_set hx with h' | h'
      · exact h x h'
      · subst h'
        by_cases e : i < l.length
        · have : l.getD i 0 = l[i] := by rw [List.getD_eq_getElem?_getD, List.getElem?_eq_getElem e]; rfl
          have k := h l[i] (List.getElem_mem e)
          omega
        · have : l.getD i 0 = 0 := by rw [List.getD_eq_getElem?_getD, List.getElem?_eq_none (by omega)]; rfl
          omega
    exact gos_le r (go s p) (g _ _ _ h1) (g _ _ _ h2)
theorem getD_le {N : Nat} {l : List Nat} (h : ∀ x ∈ l, x ≤ N) (i : Nat) : l.getD i 0 ≤ N := by
  by_cases e : i < l.length
  · have : l.getD i 0 = l[i] := by rw [List.getD_eq_getElem?_getD, List.getElem?_eq_getElem e]; rfl
    rw [this]
    exact h _ (List.getElem_mem e)
  · have : l.getD i 0 = 0 := by rw [List.getD_eq_getElem?_getD, List.getElem?_eq_none (by omega)]; rfl
    omega
end K06

namespace K06
open PySem L2 Mq
/-! ### amounts in units -/
def fm (u : Rat) (n : Nat) : Dt := fr (mu u n)
def stD (u : Rat) (s : St) : Dt := .tup [.tup (s.1.map (fm u)), .tup (s.2.map (fm u))]
def prD (p : Nat × Nat) : Dt := .tup [.int p.1, .int p.2]
theorem mu0 (u : Rat) : mu u 0 = 0 := by
  show ((0 : Nat) : Rat) * u = 0
  rw [show ((0 : Nat) : Rat) = 0 from rfl, Rat.zero_mul]
theorem fm0 (u : Rat) : fm u 0 = .tup [.int 0, .int 1] := by
  unfold fm; rw [mu0]; rfl
theorem mu_sub {u : Rat} {a b : Nat} (h : b ≤ a) : mu u a - mu u b = mu u (a - b) := by
  have e : mu u a = mu u (a - b) + mu u b := by
    show ((a : Nat) : Rat) * u = ((a - b : Nat) : Rat) * u + (b : Rat) * u
    rw [← Rat.add_mul, ← Rat.natCast_add, Nat.sub_add_cancel h]
  rw [e]; grind
theorem mu_lt {u : Rat} (hu : 0 < u) {a b : Nat} : mu u a < mu u b ↔ a < b := by
  constructor
  · intro h
    rcases Nat.lt_or_ge a b with k | k
    · exact k
    · exfalso
      have e : mu u b ≤ mu u a := by
        show ((b : Nat) : Rat) * u ≤ ((a : Nat) : Rat) * u
        exact Rat.mul_le_mul_of_nonneg_right (Rat.natCast_le_natCast.mpr k) (Rat.le_of_lt hu)
      exact absurd h (Rat.not_lt.mpr e)
  · intro h
    have := mu_pos hu (n := b - a) (by omega)
    rw [← mu_sub (Nat.le_of_lt h)] at this
    exact (Rat.lt_iff_sub_pos _ _).mpr this
theorem mu_eq {u : Rat} (hu : 0 < u) {a b : Nat} : mu u a = mu u b ↔ a = b := by
  constructor
  · intro h
    rcases Nat.lt_trichotomy a b with k | k | k
    · have := (mu_lt hu).mpr k
      rw [h] at this
      exact absurd this (Rat.lt_irrefl)
    · exact k
    · have := (mu_lt hu).mpr k
      rw [h] at this
      exact absurd this (Rat.lt_irrefl)
  · intro h; rw [h]
theorem flat_fm (u : Rat) (n k : Nat) : flat (n + 1) (fm u k) = true := rfl
theorem ne_fm {s : SS} {u : Rat} (hu : 0 < u) (a b : Nat) : cmpV .ne (.v (fm u a)) (.v (fm u b)) s = some (!decide (a = b)) := by
  unfold fm
  rw [ne_fr]
  simp only [mu_eq hu]
theorem ne_z {s : SS} {u : Rat} (hu : 0 < u) (a : Nat) : cmpV .ne (.v (fm u a)) (.v (.tup [.int 0, .int 1])) s = some (!decide (a = 0)) := by
  rw [← fm0 u]; exact ne_fm hu a 0
theorem lt_fm {u : Rat} (hu : 0 < u) (a b : Nat) : (decide ((mu u a).num * (mu u b).den < (mu u b).num * (mu u a).den)) = decide (a < b) := by
  have := Rat.lt_iff (mu u a) (mu u b)
  rw [mu_lt hu] at this
  exact decide_eq_decide.mpr this.symm
theorem below_ok (L : Fns) (st : List MO) {u : Rat} {N : Nat} (hu : Un u N) {a b : Nat} (ha : a ≤ N) (hb : b ≤ N) : runD L d_law_is_below [fm u a, fm u b] st = .ok (.v (.bl (decide (a < b)))) st := by
  have h1 := hu.s a ha
  have h2 := hu.s b hb
  rw [← lt_fm hu.p]
  unfold runD d_law_is_below fm fr
  simp [slots, h1.sn, h1.sd, h2.sn, h2.sd]
theorem less_ok (k : Nat) (st : List MO) (p q : Rat) (h1 : Sq p) (h2 : Sq q) : runD (FP PP (k + 2)) d_law_less [fr p, fr q] st = .ok (.v (fr (p - q))) st := by
  have hb : 0 < p.den * q.den := Nat.mul_pos p.den_pos q.den_pos
  have e := fraction_ok k st (p.num * q.den - q.num * p.den) (p.den * q.den) hb (h1.md h2)
  rw [← Rat.sub_def'] at e
  have e2 : ((p.den * q.den : Nat) : Int) = (p.den : Int) * (q.den : Int) := by simp
  rw [e2] at e
  unfold runD d_law_less
  simp [slots, fr, c_law_fraction, h1.sn, h2.sn, h1.sd, h2.sd, e]
theorem lessU_ok (k : Nat) (st : List MO) {u : Rat} {N : Nat} (hu : Un u N) {a b : Nat} (ha : a ≤ N) (hb : b ≤ a) : runD (FP PP (k + 2)) d_law_less [fm u a, fm u b] st = .ok (.v (fm u (a - b))) st := by
  have := less_ok k st (mu u a) (mu u b) (hu.s a ha) (hu.s b (by omega))
  rw [mu_sub hb] at this
  exact this
theorem at_fm {u : Rat} {l : List Nat} {i : Nat} (h : i < l.length) : atI (l.map (fm u)) (i : Int) = some (fm u (l.getD i 0)) := at_n (k := i) (by
  rw [List.getElem?_map, List.getElem?_eq_getElem h, List.getD_eq_getElem?_getD, List.getElem?_eq_getElem h]; rfl) rfl
theorem sf_fm {u : Rat} {l : List Nat} {i a : Nat} (h : i < l.length) : setF (i : Int) (fm u a) (l.map (fm u)) = some ((l.set i a).map (fm u), .non) := by
  rw [sf_n (k := i) (by rw [List.length_map]; exact h) rfl, List.map_set]
/-- all numbers at most N -/
def Le (N : Nat) (s : St) : Prop := (∀ x ∈ s.1, x ≤ N) ∧ ∀ x ∈ s.2, x ≤ N
theorem lawgo_ok (k : Nat) (st : List MO) {u : Rat} {N : Nat} (hu : Un u N) {s : St} {p : Nat × Nat} (hl : Le N s) (hc : can s p) :
    runD (FP PP (k + 3)) d_law_go [stD u s, prD p] st = .ok (.v (.tup [stD u (go s p), fm u (am s p)])) st := by
  obtain ⟨os, ds⟩ := s
  obtain ⟨i, j⟩ := p
  have i1 : i < os.length := can_1 hc
  have j1 : j < ds.length := can_2 hc
  have lo : os.getD i 0 ≤ N := getD_le hl.1 i
  have ld : ds.getD j 0 ≤ N := getD_le hl.2 j
  have a1 : am (os, ds) (i, j) ≤ os.getD i 0 := am_l1
  have a2 : am (os, ds) (i, j) ≤ ds.getD j 0 := am_l2
  have hA : am (os, ds) (i, j) = if ds.getD j 0 < os.getD i 0 then ds.getD j 0 else os.getD i 0 := by
    show min (os.getD i 0) (ds.getD j 0) = _
    split <;> omega
  have e1 := below_ok (FP PP (k + 2)) st hu ld lo
  have e2 := lessU_ok k st hu lo a1
  have e3 := lessU_ok k st hu ld a2
  show runD _ _ [.tup [.tup (os.map (fm u)), .tup (ds.map (fm u))], .tup [.int i, .int j]] st = .ok (.v (.tup [.tup [.tup ((os.set i (os.getD i 0 - am (os, ds) (i, j))).map (fm u)), .tup ((ds.set j (ds.getD j 0 - am (os, ds) (i, j))).map (fm u))], fm u (am (os, ds) (i, j))])) st
  have f1 := at_fm (u := u) i1
  have f2 := at_fm (u := u) j1
  have f3 := sf_fm (u := u) (a := os.getD i 0 - am (os, ds) (i, j)) i1
  have f4 := sf_fm (u := u) (a := ds.getD j 0 - am (os, ds) (i, j)) j1
  generalize am (os, ds) (i, j) = A at *
  generalize os.getD i 0 = o at *
  generalize ds.getD j 0 = d at *
  generalize (os.set i (o - A)).map (fm u) = OS' at *
  generalize (ds.set j (d - A)).map (fm u) = DS' at *
  generalize os.map (fm u) = OS at *
  generalize ds.map (fm u) = DS at *
  have s2 : (2 : Nat) ≤ sizeLine := by decide
  have rt : ∀ (s : SS) (xs : List Dt), rds s (.v (.tup xs)) = some xs := fun _ _ => rfl
  unfold runD d_law_go
  by_cases c : d < o
  · rw [if_pos c] at hA
    subst hA
    simp only [Nat.sub_self] at f3 f4 e2 e3
    simp [slots, rt, f1, f2, f3, f4, e1, e2, e3, c_law_is_below, c_law_less, idx_bw, tup_bw, s2, c]
  · rw [if_neg c] at hA
    subst hA
    simp only [Nat.sub_self] at f3 f4 e2 e3
    simp [slots, rt, f1, f2, f3, f4, e1, e2, e3, c_law_is_below, c_law_less, idx_bw, tup_bw, s2, c]
end K06

namespace K06
open PySem L2 Mq
theorem rng_len (n : Nat) : (rngI 0 (n : Int)).length = n := by simp [rngI]
theorem rng_at {n j : Nat} {x : Dt} (h : (rngI 0 (n : Int))[j]? = some x) : x = .int j ∧ j < n := by
  have hj : j < n := by
    have := (List.getElem?_eq_some_iff.mp h).1
    rwa [rng_len] at this
  simp [rngI] at h
  obtain ⟨a, ha, rfl⟩ := h
  rw [List.getElem?_range hj] at ha
  cases ha
  exact ⟨rfl, hj⟩
theorem rng_mem {n : Nat} {x : Dt} (h : x ∈ rngI 0 (n : Int)) : ∃ j : Nat, x = .int j ∧ j < n := by
  obtain ⟨j, hj⟩ := List.mem_iff_getElem?.mp h
  exact ⟨j, rng_at hj⟩
theorem ret_bw {i : Nat} {xs : List Dt} {s : SS} (h : s.sl[i]? = some (.ol xs)) : toRet (.bw i) s = .ok (.nl xs) s := by
  unfold toRet
  simp only [h]
def pairB : List MS := [.ifs (.cmp .ne (.idx (.idx (.var 0) (.cst (.int 0))) (.var 2)) (.tup [.cst (.int 0), .cst (.int 1)])) [.asg 1 (.bin .add (.var 1) (.lc (.tup [.var 2, .var 3]) (.n 3) (.rng [.bif "len" [.idx (.var 0) (.cst (.int 1))]]) (some (.cmp .ne (.idx (.idx (.var 0) (.cst (.int 1))) (.var 3)) (.tup [.cst (.int 0), .cst (.int 1)]))) [3]))] []]
def pairP (u : Rat) (s : St) (st : List MO) (j : Nat) (t : SS) : Prop := ∃ x, t = ⟨[.v (stD u s), .ol ((prsTo s j).map prD), x, .un], st⟩
theorem rdsT {s : SS} {xs : List Dt} : rds s (.v (.tup xs)) = some xs := rfl
theorem at_nat0 {a : Type} {x : a} {r : List a} : atI (x :: r) ((0 : Nat) : Int) = some x := at_n (k := 0) rfl rfl
def gp (ds : List Nat) : Dt → Bool := fun x => match x with | .int i => decide (ds.getD i.toNat 0 ≠ 0) | _ => false
def gg (j : Nat) : Dt → Dt := fun x => .tup [.int j, x]
theorem flt_prs {os ds : List Nat} {j : Nat} (z : ¬ os.getD j 0 = 0) : ((rngI 0 (ds.length : Int)).filter (gp ds)).map (gg j) = (prsAt (os, ds) j).map prD := by
  unfold prsAt
  rw [if_neg z]
  show (((List.range ((ds.length : Int) - 0).toNat).map fun i => Dt.int (0 + (i : Nat))).filter (gp ds)).map (gg j) = _
  rw [List.filter_map, List.map_map, List.map_map]
  simp only [Int.sub_zero, Int.toNat_natCast]
  have e1 : (gp ds ∘ fun i : Nat => Dt.int (0 + (i : Nat))) = fun j => decide (ds.getD j 0 ≠ 0) := by
    funext i
    show decide (ds.getD ((0 : Int) + (i : Nat)).toNat 0 ≠ 0) = _
    rw [Int.zero_add, Int.toNat_natCast]
  rw [e1]
  refine List.map_congr_left fun i _ => ?_
  show Dt.tup [.int j, .int (0 + (i : Nat))] = .tup [.int j, .int i]
  rw [Int.zero_add]
theorem pair_body (L : Fns) (st : List MO) {u : Rat} (hu : 0 < u) {s : St} (h1 : s.1.length ≤ 100) (h2 : s.2.length ≤ 100) (j : Nat) (hj : j < s.1.length) (t : SS) (h : pairP u s st j t) :
    ∃ t2, Mq.execs L pairB (t.set 2 (.v (.int j))) = .ok .nx t2 ∧ pairP u s st (j + 1) t2 := by
  obtain ⟨x, rfl⟩ := h
  obtain ⟨os, ds⟩ := s
  refine ⟨⟨[.v (stD u (os, ds)), .ol ((prsTo (os, ds) (j + 1)).map prD), .v (.int j), .un], st⟩, ?_, _, rfl⟩
  have f1 := at_fm (u := u) hj
  have s2 : (2 : Nat) ≤ sizeLine := by decide
  have hz : (prsTo (os, ds) j).length + (prsAt (os, ds) j).length ≤ sizeLine := by
    have a := prsTo_len (os, ds) j
    have b := prsAt_len (os, ds) j
    have c : j * ds.length ≤ 100 * 100 := Nat.mul_le_mul (by simp only at h1 hj; omega) h2
    simp only at a b h2
    rw [sizeLine_eq]
    omega
  have hq := prsTo_succ (os, ds) j
  rw [hq, List.map_append]
  by_cases z : os.getD j 0 = 0
  · have e : prsAt (os, ds) j = [] := by unfold prsAt; rw [if_pos z]
    rw [e, List.map_nil, List.append_nil]
    unfold pairB stD
    simp only at f1
    rw [z] at f1
    simp [rdsT, f1, ne_z hu, s2]
  · have hxs : ((rngI 0 (ds.length : Int)).filter (gp ds)).map (gg j) = (prsAt (os, ds) j).map prD := flt_prs z
    let l : List Sl := [.v (stD u (os, ds)), .ol ((prsTo (os, ds) j).map prD), .v (.int j), .un]
    have h0 : evI L (.rng [.bif "len" [.idx (.var 0) (.cst (.int 1))]]) ⟨l, st⟩ = .ok ⟨rngI 0 (ds.length : Int), .v .non, []⟩ ⟨l, st⟩ := i_rng (by simp [l, stD, rdsT]) (by simp [rngOk]; simp only at h2; omega)
    have lc : ev L (.lc (.tup [.var 2, .var 3]) (.n 3) (.rng [.bif "len" [.idx (.var 0) (.cst (.int 1))]]) (some (.cmp .ne (.idx (.idx (.var 0) (.cst (.int 1))) (.var 3)) (.tup [.cst (.int 0), .cst (.int 1)]))) [3]) ⟨l, st⟩ = .ok (.nl ((prsAt (os, ds) j).map prD)) ⟨l, st⟩ := by
      rw [← hxs]
      refine e_lcC (d := .non) h0 (fun _ z => nomatch z) (.inl rfl) (fun x hx => ?_) (fun x hx _ => ?_) (by rw [rng_len]; exact Nat.le_trans h2 (by decide))
      · obtain ⟨i, rfl, hi⟩ := rng_mem hx
        have f2 := at_fm (u := u) hi
        show ev _ _ _ = Out.ok (RV.v (.bl (decide (ds.getD (i : Int).toNat 0 ≠ 0)))) _
        rw [Int.toNat_natCast]
        simp [l, stD, rdsT, f2, ne_z hu, s2, -List.getD_eq_getElem?_getD]
      · obtain ⟨i, rfl, hi⟩ := rng_mem hx
        show ev _ _ _ = Out.ok (RV.v (.tup [.int j, .int i])) _
        simp [l, s2]
    have ha : ∀ t : SS, t.sl[1]? = some (.ol ((prsTo (os, ds) j).map prD)) → binV .add (.bw 1) (.nl ((prsAt (os, ds) j).map prD)) t = some (.nl ((prsTo (os, ds) j).map prD ++ (prsAt (os, ds) j).map prD)) := fun t ht => add_bn ht (by rw [List.length_map, List.length_map]; exact hz)
    have c1 : ev L (.cmp .ne (.idx (.idx (.var 0) (.cst (.int 0))) (.var 2)) (.tup [.cst (.int 0), .cst (.int 1)])) ⟨l, st⟩ = .ok (.v (.bl true)) ⟨l, st⟩ := by
      simp only at f1
      simp [l, stD, rdsT, f1, ne_z hu, s2, z, -List.getD_eq_getElem?_getD]
    have a1 : Mq.exec L (.asg 1 (.bin .add (.var 1) (.lc (.tup [.var 2, .var 3]) (.n 3) (.rng [.bif "len" [.idx (.var 0) (.cst (.int 1))]]) (some (.cmp .ne (.idx (.idx (.var 0) (.cst (.int 1))) (.var 3)) (.tup [.cst (.int 0), .cst (.int 1)]))) [3]))) ⟨l, st⟩ = .ok .nx ⟨[.v (stD u (os, ds)), .ol ((prsTo (os, ds) j).map prD ++ (prsAt (os, ds) j).map prD), .v (.int j), .un], st⟩ := by
      rw [x_asg, e_bin, r_varO (xs := (prsTo (os, ds) j).map prD) rfl, r_ok, lc, r_ok, ha _ rfl]
      rfl
    have eS : (SS.mk [.v (stD u (os, ds)), .ol ((prsTo (os, ds) j).map prD), x, .un] st).set 2 (.v (.int j)) = ⟨l, st⟩ := rfl
    rw [eS]
    unfold pairB
    rw [x_cons, x_ifs, c1, r_ok, r_asB, r_ok, if_pos rfl, x_cons, a1, r_ok, thenS_nx, x_nil, r_ok, thenS_nx, x_nil]
theorem pairs_ok (L : Fns) (st : List MO) {u : Rat} (hu : 0 < u) {s : St} (h1 : s.1.length ≤ 100) (h2 : s.2.length ≤ 100) : runD L d_law_pairs [stD u s] st = .ok (.nl ((prsTo s s.1.length).map prD)) st := by
  have hP : pairP u s st 0 ⟨[.v (stD u s), .ol [], .un, .un], st⟩ := ⟨.un, rfl⟩
  obtain ⟨t', ef, x, rfl⟩ := for_inv (ck := fun _ => true) (tg := fun s x => bindT (.n 2) x s) (b := fun s => Mq.execs L pairB s) (pairP u s st) (rngI 0 (s.1.length : Int)) 0 _ hP fun j x t _ hx hp => by
    rw [Nat.sub_zero] at hx
    obtain ⟨rfl, hj⟩ := rng_at hx
    obtain ⟨t2, e2, p2⟩ := pair_body L st hu h1 h2 j hj t hp
    exact ⟨_, t2, by rw [bindT], .inl e2, rfl, p2⟩
  rw [Nat.zero_add, rng_len] at ef
  have s0 : (0 : Nat) ≤ sizeLine := by decide
  unfold runD d_law_pairs
  have sl0 : slots 4 ([stD u s].map Sl.v) = [.v (stD u s), .un, .un, .un] := rfl
  show finD (Mq.execs _ [_, _, _] ⟨slots 4 _, st⟩) = _
  rw [sl0]
  have a1 : Mq.exec L (.asg 1 (.lst [])) ⟨[.v (stD u s), .un, .un, .un], st⟩ = .ok .nx ⟨[.v (stD u s), .ol [], .un, .un], st⟩ := by simp
  have h3 : evI L (.rng [.bif "len" [.idx (.var 0) (.cst (.int 0))]]) ⟨[.v (stD u s), .ol [], .un, .un], st⟩ = .ok ⟨rngI 0 (s.1.length : Int), .v .non, []⟩ ⟨[.v (stD u s), .ol [], .un, .un], st⟩ := i_rng (by simp [stD, rdsT]) (by simp [rngOk]; omega)
  rw [x_cons, a1, r_ok, thenS_nx, x_cons, x_for, h3, r_ok]
  show finD ((Out.fix _ (forL (fun _ => true) (fun s x => bindT (.n 2) x s) (fun s => Mq.execs L pairB s) (rngI 0 (s.1.length : Int)) ⟨[.v (stD u s), .ol [], .un, .un], st⟩)).bind _) = _
  rw [ef, r_fix, r_ok, thenS_nx]
  show finD (Mq.execs _ [_] ⟨_, st⟩) = _
  simp [ret_bw, unlock]
end K06

namespace K06
open PySem L2 Mq
def rowB : List MS := [.asg 7 (.call "_law_pairs" [.var 3]), .ifs (.cmp .eq (.bif "len" [.var 7]) (.cst (.int 0))) [.brk] [], .asg 8 (.idx (.var 7) (.call "_law_draw" [.var 0, .bif "len" [.var 7]])), .unp (.t [.n 3, .n 9]) (.call "_law_go" [.var 3, .var 8]), .asg 4 (.bin .add (.var 4) (.tup [.var 8])), .asg 5 (.bin .add (.var 5) (.tup [.var 9]))]
structure RowI (u : Rat) (s : St) (st : List MO) (n b most : Nat) (ps : List (Nat × Nat)) (t : SS) : Prop where
  h : ∃ (mo : MO) (x6 x7 x8 x9 : Sl), t = ⟨[.v (.ref n), .v (stD u s), .v (.int most), .v (stD u (gos s ps)), .v (.tup (ps.map prD)), .v (.tup ((ams s ps).map (fm u))), x6, x7, x8, x9], st.set n mo⟩ ∧ Hand (b + ps.length) mo
  r : Row s ps
def rowP (u : Rat) (s : St) (st : List MO) (n b most : Nat) (j : Nat) (t : SS) : Prop := ∃ ps, RowI u s st n b most ps t ∧ ps.length = j
def rowQ (u : Rat) (s : St) (st : List MO) (n b most : Nat) (t : SS) : Prop := ∃ ps, RowI u s st n b most ps t ∧ ps.length ≤ most ∧ Stuck (gos s ps)
theorem ams_len : ∀ (ps : List (Nat × Nat)) (s : St), (ams s ps).length = ps.length
  | [], _ => rfl
  | p :: r, s => by show (ams (go s p) r).length + 1 = r.length + 1; rw [ams_len r]
theorem at_prs {l : List (Nat × Nat)} {i : Int} (h0 : 0 ≤ i) (h1 : i < l.length) : ∃ c, c ∈ l ∧ atI (l.map prD) i = some (prD c) := by
  obtain ⟨k, rfl⟩ := Int.eq_ofNat_of_zero_le h0
  have hk : k < l.length := by omega
  exact ⟨l[k], List.getElem_mem hk, at_n (k := k) (by simp [hk]) rfl⟩
theorem row_none (L : Fns) (st : List MO) (D0 D1 D2 SG D4 D5 : Dt) (x x7 x8 x9 : Sl) (e1 : L.call "_law_pairs" [SG] st = .ok (.nl []) st) :
    Mq.execs L rowB ⟨[.v D0, .v D1, .v D2, .v SG, .v D4, .v D5, x, x7, x8, x9], st⟩ = .ok .bk ⟨[.v D0, .v D1, .v D2, .v SG, .v D4, .v D5, x, .ol [], x8, x9], st⟩ := by
  unfold rowB
  simp [e1, len_bw]
theorem row_some (L : Fns) (st st2 : List MO) (D0 D1 D2 SG D4 D5 P SG2 A D4' D5' : Dt) (Ls : List Dt) (r : Int) (x x7 x8 x9 : Sl) (hz : Ls ≠ []) (e1 : L.call "_law_pairs" [SG] st = .ok (.nl Ls) st) (e2 : L.call "_law_draw" [D0, .int Ls.length] st = .ok (.v (.int r)) st2)
    (ep : atI Ls r = some P) (e3 : L.call "_law_go" [SG, P] st2 = .ok (.v (.tup [SG2, A])) st2) (ad1 : ∀ t : SS, binV .add (.v D4) (.v (.tup [P])) t = some (.v D4')) (ad2 : ∀ t : SS, binV .add (.v D5) (.v (.tup [A])) t = some (.v D5')) :
    Mq.execs L rowB ⟨[.v D0, .v D1, .v D2, .v SG, .v D4, .v D5, x, x7, x8, x9], st⟩ = .ok .nx ⟨[.v D0, .v D1, .v D2, .v SG2, .v D4', .v D5', x, .ol Ls, .v P, .v A], st2⟩ := by
  have s1 : (1 : Nat) ≤ sizeLine := by decide
  unfold rowB
  simp [e1, len_bw, hz, e2, idx_bw, ep, e3, bindT, bindTs, s1, ad1, ad2]
theorem row_body (k : Nat) (st : List MO) (n b most : Nat) (hn : n < st.length) {u : Rat} {N : Nat} (hu : Un u N) {s : St} (hl : Le N s) (h1 : s.1.length ≤ 100) (h2 : s.2.length ≤ 100) (hm : most ≤ 200) (hb : b + 1000 ≤ 1000000) (x : Sl) (j : Nat) (hj : j < most) (t : SS) (h : rowP u s st n b most j t) :
    ∃ t2, (Mq.execs (FP PP (k + 4)) rowB (t.set 6 x) = .ok .nx t2 ∧ rowP u s st n b most (j + 1) t2) ∨ (Mq.execs (FP PP (k + 4)) rowB (t.set 6 x) = .ok .bk t2 ∧ rowQ u s st n b most t2) := by
  obtain ⟨ps, ⟨⟨mo, x6, x7, x8, x9, rfl, hh⟩, hr⟩, rfl⟩ := h
  have g1 : (gos s ps).1.length ≤ 100 := by rw [gos_l1]; exact h1
  have g2 : (gos s ps).2.length ≤ 100 := by rw [gos_l2]; exact h2
  have gl : Le N (gos s ps) := gos_le ps s hl.1 hl.2
  have e1 := pairs_ok (FP PP (k + 3)) (st.set n mo) hu.p g1 g2
  have hL := prsTo_len (gos s ps) (gos s ps).1.length
  have hL2 : (gos s ps).1.length * (gos s ps).2.length ≤ 100 * 100 := Nat.mul_le_mul g1 g2
  have hmem : ∀ p, p ∈ prsTo (gos s ps) (gos s ps).1.length ↔ can (gos s ps) p := fun p => mem_prs
  generalize hLs : prsTo (gos s ps) (gos s ps).1.length = Ls at *
  have eS : (SS.mk [.v (.ref n), .v (stD u s), .v (.int most), .v (stD u (gos s ps)), .v (.tup (ps.map prD)), .v (.tup ((ams s ps).map (fm u))), x6, x7, x8, x9] (st.set n mo)).set 6 x = ⟨[.v (.ref n), .v (stD u s), .v (.int most), .v (stD u (gos s ps)), .v (.tup (ps.map prD)), .v (.tup ((ams s ps).map (fm u))), x, x7, x8, x9], st.set n mo⟩ := rfl
  rw [eS]
  have e1' : (FP PP (k + 4)).call "_law_pairs" [stD u (gos s ps)] (st.set n mo) = .ok (.nl (Ls.map prD)) (st.set n mo) := by rw [c_law_pairs]; exact e1
  by_cases z : Ls = []
  · subst z
    refine ⟨_, .inr ⟨?_, ps, ⟨⟨mo, x, .ol [], x8, x9, rfl, hh⟩, hr⟩, Nat.le_of_lt hj, fun p hp => by
      have := (hmem p).mpr hp
      cases this⟩⟩
    exact row_none _ _ _ _ _ _ _ _ _ _ _ _ e1'
  · have hpos : 1 ≤ Ls.length := by
      cases Ls with
      | nil => exact absurd rfl z
      | cons a r => simp
    obtain ⟨r, mo2, e2, hh2, r0, r1⟩ := dr (k + 3) st n (b + ps.length) mo Ls.length hn hh (by omega) (by omega) (.of40 (by omega))
    obtain ⟨p, hp, ep⟩ := at_prs r0 r1
    have hc := (hmem p).mp hp
    have e3 := lawgo_ok k (st.set n mo2) hu gl hc
    have s2 : (1 : Nat) ≤ sizeLine := by decide
    have s3 : ps.length + 1 ≤ sizeLine := by rw [sizeLine_eq]; omega
    have s4 : (ams s ps).length + 1 ≤ sizeLine := by rw [ams_len]; exact s3
    have ad1 : ∀ t : SS, binV .add (.v (.tup (ps.map prD))) (.v (.tup [prD p])) t = some (.v (.tup ((ps ++ [p]).map prD))) := fun t => by
      rw [add_tt (by simp [s3]), List.map_append]; rfl
    have ad2 : ∀ t : SS, binV .add (.v (.tup ((ams s ps).map (fm u)))) (.v (.tup [fm u (am (gos s ps) p)])) t = some (.v (.tup ((ams s (ps ++ [p])).map (fm u)))) := fun t => by
      rw [add_tt (by simp [s4]), ams_app, List.map_append]; rfl
    refine ⟨⟨[.v (.ref n), .v (stD u s), .v (.int most), .v (stD u (gos s (ps ++ [p]))), .v (.tup ((ps ++ [p]).map prD)), .v (.tup ((ams s (ps ++ [p])).map (fm u))), x, .ol (Ls.map prD), .v (prD p), .v (fm u (am (gos s ps) p))], st.set n mo2⟩, .inl ⟨?_, ps ++ [p], ⟨⟨mo2, _, _, _, _, rfl, by rw [List.length_append]; exact hh2⟩, row_app p ps s hr hc⟩, by rw [List.length_append]; rfl⟩⟩
    rw [gos_app]
    refine row_some _ _ _ _ _ _ _ _ _ _ _ _ _ _ _ _ _ _ _ _ (fun h => z (List.map_eq_nil_iff.mp h)) e1' ?_ ep ?_ ad1 ad2
    · rw [List.length_map]; exact e2
    · rw [c_law_go]; exact e3
theorem lawrow_ok (k : Nat) (st : List MO) (n b most : Nat) (mo : MO) (hn : n < st.length) (hh : Hand b mo) {u : Rat} {N : Nat} (hu : Un u N) {s : St} (hl : Le N s) (h1 : s.1.length ≤ 100) (h2 : s.2.length ≤ 100) (hm : most ≤ 200) (hb : b + 1000 ≤ 1000000) :
    ∃ (ps : List (Nat × Nat)) (mo' : MO), runD (FP PP (k + 4)) d_law_row [.ref n, stD u s, .int most] (st.set n mo) = .ok (.v (.tup [.tup (ps.map prD), stD u (gos s ps), .tup ((ams s ps).map (fm u))])) (st.set n mo') ∧ Hand (b + most) mo' ∧ Row s ps ∧ ps.length ≤ most ∧ (ps.length = most ∨ Stuck (gos s ps)) := by
  have hP : rowP u s st n b most 0 ⟨[.v (.ref n), .v (stD u s), .v (.int most), .v (stD u s), .v (.tup []), .v (.tup []), .un, .un, .un, .un], st.set n mo⟩ := ⟨[], ⟨⟨mo, .un, .un, .un, .un, rfl, hh⟩, trivial⟩, rfl⟩
  obtain ⟨t', ef, hPQ⟩ := for_brk (ck := fun _ => true) (tg := fun s x => bindT (.n 6) x s) (b := fun s => Mq.execs (FP PP (k + 4)) rowB s) (rowP u s st n b most) (rowQ u s st n b most) (rngI 0 (most : Int)) 0 _ hP fun j x t _ hx hp => by
    rw [Nat.sub_zero] at hx
    obtain ⟨rfl, hj⟩ := rng_at hx
    obtain ⟨t2, e2⟩ := row_body k st n b most hn hu hl h1 h2 hm hb (.v (.int j)) j hj t hp
    exact ⟨_, t2, by rw [bindT], e2.imp (fun a => ⟨a.1, rfl, a.2⟩) id⟩
  rw [Nat.zero_add, rng_len] at hPQ
  have fin : ∃ ps, RowI u s st n b most ps t' ∧ ps.length ≤ most ∧ (ps.length = most ∨ Stuck (gos s ps)) := by
    rcases hPQ with ⟨ps, a, e⟩ | ⟨ps, a, e, q⟩
    · exact ⟨ps, a, by omega, .inl e⟩
    · exact ⟨ps, a, e, .inr q⟩
  obtain ⟨ps, ⟨⟨mo', x6, x7, x8, x9, rfl, hh'⟩, hr⟩, hle, hend⟩ := fin
  refine ⟨ps, mo', ?_, hh'.mono (by omega), hr, hle, hend⟩
  have s0 : (0 : Nat) ≤ sizeLine := by decide
  have s3 : (3 : Nat) ≤ sizeLine := by decide
  unfold runD d_law_row
  have sl0 : slots 10 ([Dt.ref n, stD u s, .int most].map Sl.v) = [.v (.ref n), .v (stD u s), .v (.int most), .un, .un, .un, .un, .un, .un, .un] := rfl
  show finD (Mq.execs _ [_, _, _, _, _] ⟨slots 10 _, _⟩) = _
  rw [sl0]
  generalize hS : stD u s = SS0 at *
  have a1 : Mq.exec (FP PP (k + 4)) (.asg 3 (.var 1)) ⟨[.v (.ref n), .v (SS0), .v (.int most), .un, .un, .un, .un, .un, .un, .un], st.set n mo⟩ = .ok .nx ⟨[.v (.ref n), .v (SS0), .v (.int most), .v (SS0), .un, .un, .un, .un, .un, .un], st.set n mo⟩ := by simp
  have a2 : Mq.exec (FP PP (k + 4)) (.asg 4 (.tup [])) ⟨[.v (.ref n), .v (SS0), .v (.int most), .v (SS0), .un, .un, .un, .un, .un, .un], st.set n mo⟩ = .ok .nx ⟨[.v (.ref n), .v (SS0), .v (.int most), .v (SS0), .v (.tup []), .un, .un, .un, .un, .un], st.set n mo⟩ := by simp
  have a3 : Mq.exec (FP PP (k + 4)) (.asg 5 (.tup [])) ⟨[.v (.ref n), .v (SS0), .v (.int most), .v (SS0), .v (.tup []), .un, .un, .un, .un, .un], st.set n mo⟩ = .ok .nx ⟨[.v (.ref n), .v (SS0), .v (.int most), .v (SS0), .v (.tup []), .v (.tup []), .un, .un, .un, .un], st.set n mo⟩ := by simp
  have h3 : evI (FP PP (k + 4)) (.rng [.var 2]) ⟨[.v (.ref n), .v (SS0), .v (.int most), .v (SS0), .v (.tup []), .v (.tup []), .un, .un, .un, .un], st.set n mo⟩ = .ok ⟨rngI 0 (most : Int), .v .non, []⟩ ⟨[.v (.ref n), .v (SS0), .v (.int most), .v (SS0), .v (.tup []), .v (.tup []), .un, .un, .un, .un], st.set n mo⟩ := i_rng (by simp) (by simp [rngOk]; omega)
  rw [x_cons, a1, r_ok, thenS_nx, x_cons, a2, r_ok, thenS_nx, x_cons, a3, r_ok, thenS_nx, x_cons, x_for, h3, r_ok]
  show finD ((Out.fix _ (forL (fun _ => true) (fun s x => bindT (.n 6) x s) (fun s => Mq.execs (FP PP (k + 4)) rowB s) (rngI 0 (most : Int)) ⟨_, st.set n mo⟩)).bind _) = _
  rw [ef, r_fix, r_ok, thenS_nx]
  show finD (Mq.execs _ [_] ⟨_, st.set n mo'⟩) = _
  simp [s3]
end K06

namespace K06
open PySem L2 Mq
/-! ### the program's state: two lists of the store -/
def stI (a b : Nat) : Dt := .ins 1 ["owed_left", "due_left"] [.ref a, .ref b]
theorem lkA {x y : Dt} : lkF "owed_left" ["owed_left", "due_left"] [x, y] = some x := by
  unfold lkF
  rw [if_pos rfl]
theorem lkB {x y : Dt} : lkF "due_left" ["owed_left", "due_left"] [x, y] = some y := by
  unfold lkF
  rw [if_neg (by decide +kernel)]
  unfold lkF
  rw [if_pos rfl]
theorem fA {s : SS} {a b : Nat} : fldV (.v (stI a b)) "owed_left" s = some (.ref a) := lkA
theorem fB {s : SS} {a b : Nat} : fldV (.v (stI a b)) "due_left" s = some (.ref b) := lkB
/-- the state lies at a and b of the store -/
structure At (u : Rat) (s : St) (a b : Nat) (st : List MO) : Prop where
  x : st[a]? = some (.l (s.1.map (fm u)))
  y : st[b]? = some (.l (s.2.map (fm u)))
  n : a ≠ b
theorem less2_ok (L : Fns) (st : List MO) {u : Rat} {N : Nat} (hu : Un u N) {a b : Nat} (ha : a ≤ N) (hb : b ≤ N) : runD L d_is_less [fm u a, fm u b] st = .ok (.v (.bl (decide (a < b)))) st := by
  have h1 := hu.s a ha
  have h2 := hu.s b hb
  rw [← lt_fm hu.p]
  unfold runD d_is_less fm fr
  simp [slots, h1.sn, h1.sd, h2.sn, h2.sd]
theorem minus_ok (k : Nat) (st : List MO) {u : Rat} {N : Nat} (hu : Un u N) {a b : Nat} (ha : a ≤ N) (hb : b ≤ a) : runD (FP PP (k + 2)) d_minus [fm u a, fm u b] st = .ok (.v (fm u (a - b))) st := by
  have h1 := hu.s a ha
  have h2 := hu.s b (by omega)
  have hd : 0 < (mu u a).den * (mu u b).den := Nat.mul_pos (mu u a).den_pos (mu u b).den_pos
  have e := made_ok k st ((mu u a).num * (mu u b).den - (mu u b).num * (mu u a).den) ((mu u a).den * (mu u b).den) hd (h1.md h2)
  rw [← Rat.sub_def', mu_sub hb] at e
  have e2 : (((mu u a).den * (mu u b).den : Nat) : Int) = ((mu u a).den : Int) * ((mu u b).den : Int) := by simp
  rw [e2] at e
  show runD _ _ [fr _, fr _] st = .ok (.v (fr _)) st
  unfold runD d_minus
  generalize mu u a = p at *
  generalize mu u b = q at *
  generalize mu u (a - b) = r at *
  unfold fr at e ⊢
  simp [slots, c_made, h1.sn, h2.sn, h1.sd, h2.sd, e]
theorem least_run (L : Fns) (st : List MO) (x y : Dt) (c : Bool) (e : L.call "is_less" [y, x] st = .ok (.v (.bl c)) st) : runD L d_least_of [x, y] st = .ok (.v (if c then y else x)) st := by
  unfold runD d_least_of
  cases c <;> simp [slots, e]
theorem least_ok (k : Nat) (st : List MO) {u : Rat} {N : Nat} (hu : Un u N) {a b : Nat} (ha : a ≤ N) (hb : b ≤ N) : runD (FP PP (k + 1)) d_least_of [fm u a, fm u b] st = .ok (.v (fm u (min a b))) st := by
  have := least_run (FP PP (k + 1)) st (fm u a) (fm u b) (decide (b < a)) (by rw [c_is_less]; exact less2_ok _ st hu hb ha)
  rw [this]
  by_cases c : b < a
  · rw [Nat.min_eq_right (by omega)]; simp [c]
  · rw [Nat.min_eq_left (by omega)]; simp [c]
theorem amount_run (L : Fns) (st : List MO) (a b : Nat) (OS DS : List Dt) (i j : Int) (x y z : Dt) (h1 : st[a]? = some (.l OS)) (h2 : st[b]? = some (.l DS)) (f1 : atI OS i = some x) (f2 : atI DS j = some y) (e : L.call "least_of" [x, y] st = .ok (.v z) st) :
    runD L d_State_amount_of [stI a b, .tup [.int i, .int j]] st = .ok (.v z) st := by
  unfold runD d_State_amount_of
  have g1 : ∀ l, idxV (.v (.ref a)) (.v (.int i)) ⟨l, st⟩ = some (.v x) := fun l => by rw [ix_r h1, f1]; rfl
  have g2 : ∀ l, idxV (.v (.ref b)) (.v (.int j)) ⟨l, st⟩ = some (.v y) := fun l => by rw [ix_r h2, f2]; rfl
  simp [slots, fA, fB, g1, g2, e]
theorem amount_ok (k : Nat) (st : List MO) {u : Rat} {N : Nat} (hu : Un u N) {s : St} {a b : Nat} (hA : At u s a b st) (hl : Le N s) {p : Nat × Nat} (h1 : p.1 < s.1.length) (h2 : p.2 < s.2.length) :
    runD (FP PP (k + 2)) d_State_amount_of [stI a b, prD p] st = .ok (.v (fm u (am s p))) st :=
  amount_run _ st a b _ _ _ _ _ _ _ hA.x hA.y (at_fm h1) (at_fm h2) (by rw [c_least_of]; exact least_ok k st hu (getD_le hl.1 _) (getD_le hl.2 _))
theorem go_run (L : Fns) (st : List MO) (a b : Nat) (OS DS OS' DS' : List Dt) (i j : Int) (x y x' y' z : Dt) (h1 : st[a]? = some (.l OS)) (h2 : st[b]? = some (.l DS)) (n : a ≠ b) (f1 : atI OS i = some x) (f2 : atI DS j = some y)
    (hm : L.hasM 1 "amount_of" = true) (e : L.meth 1 "amount_of" [stI a b, .tup [.int i, .int j]] st = .ok (.v z) st) (e1 : ∀ st, L.call "minus" [x, z] st = .ok (.v x') st) (e2 : ∀ st, L.call "minus" [y, z] st = .ok (.v y') st)
    (g1 : setF i x' OS = some (OS', .non)) (g2 : setF j y' DS = some (DS', .non)) :
    runD L d_State_go [stI a b, .tup [.int i, .int j]] st = .ok (.v z) ((st.set a (.l OS')).set b (.l DS')) := by
  have q1 : ∀ l, idxV (.v (.ref a)) (.v (.int i)) ⟨l, st⟩ = some (.v x) := fun l => by rw [ix_r h1, f1]; rfl
  have hb : (st.set a (.l OS'))[b]? = some (.l DS) := by rw [List.getElem?_set_ne n]; exact h2
  have q2 : ∀ l, idxV (.v (.ref b)) (.v (.int j)) ⟨l, st.set a (.l OS')⟩ = some (.v y) := fun l => by rw [ix_r hb, f2]; rfl
  have w1 : ∀ l, wrL (.v (.ref a)) (setF i x') ⟨l, st⟩ = .ok .non ⟨l, st.set a (.l OS')⟩ := fun l => wr_r h1 g1
  have w2 : ∀ l, wrL (.v (.ref b)) (setF j y') ⟨l, st.set a (.l OS')⟩ = .ok .non ⟨l, (st.set a (.l OS')).set b (.l DS')⟩ := fun l => wr_r hb g2
  have m1 : ∀ (es : List ME) (l : List Sl), methF L "amount_of" es (.v (stI a b)) ⟨l, st⟩ = (evs L es ⟨l, st⟩).bind fun ds s => liftF (L.meth 1 "amount_of" (stI a b :: ds) s.st) s := fun es l => methF_i (by decide +kernel) hm
  unfold runD d_State_go
  simp [slots, m1, e, fA, fB, q1, q2, e1, e2, w1, w2]
theorem stgo_ok (k : Nat) (st : List MO) {u : Rat} {N : Nat} (hu : Un u N) {s : St} {a b : Nat} (hA : At u s a b st) (hl : Le N s) {p : Nat × Nat} (hc : can s p) :
    ∃ st', runD (FP PP (k + 3)) d_State_go [stI a b, prD p] st = .ok (.v (fm u (am s p))) st' ∧ st' = (st.set a (.l ((go s p).1.map (fm u)))).set b (.l ((go s p).2.map (fm u))) :=
  ⟨_, go_run _ st a b _ _ _ _ _ _ _ _ _ _ _ hA.x hA.y hA.n (at_fm (can_1 hc)) (at_fm (can_2 hc)) rfl (by rw [m_State_amount_of]; exact amount_ok k st hu hA hl (can_1 hc) (can_2 hc))
    (fun st => by rw [c_minus]; exact minus_ok k st hu (getD_le hl.1 _) am_l1) (fun st => by rw [c_minus]; exact minus_ok k st hu (getD_le hl.2 _) am_l2) (sf_fm (can_1 hc)) (sf_fm (can_2 hc)), rfl⟩
theorem within_ok (k : Nat) (st : List MO) (i n : Int) (h0 : 0 ≤ i) (h1 : i ≤ n) : runD (FP PP (k + 1)) d_is_within [.int i, .int 0, .int n] st = .ok (.v (.bl true)) st := by
  have e := isint_ok k st i
  unfold runD d_is_within
  simp [slots, c_is_integer, e, h0, h1]
theorem people_run (L : Fns) (st : List MO) (os ds : List Rat) (x y : Dt) (e1 : L.call "is_pair" [.tup [x, y]] st = .ok (.v (.bl true)) st) (e2 : L.call "is_within" [x, .int 0, .int ((os.length : Int) - 1)] st = .ok (.v (.bl true)) st) (e3 : L.call "is_within" [y, .int 0, .int ((ds.length : Int) - 1)] st = .ok (.v (.bl true)) st) :
    runD L d_are_people [evg os ds, .tup [x, y]] st = .ok (.v (.bl true)) st := by
  unfold runD d_are_people
  simp [slots, fo, fd, e1, e2, e3]
theorem arepeople_ok (k : Nat) (st : List MO) (os ds : List Rat) (p : Nat × Nat) (h1 : p.1 < os.length) (h2 : p.2 < ds.length) : runD (FP PP (k + 2)) d_are_people [evg os ds, prD p] st = .ok (.v (.bl true)) st :=
  people_run _ st os ds _ _ (by rw [c_is_pair]; exact ispair_ok _ st _ _) (by rw [c_is_within]; exact within_ok k st _ _ (by omega) (by omega)) (by rw [c_is_within]; exact within_ok k st _ _ (by omega) (by omega))
theorem may_run (L : Fns) (st : List MO) (E P z : Dt) (a b : Nat) (c : Bool) (e1 : L.call "are_people" [E, P] st = .ok (.v (.bl true)) st) (hm : L.hasM 1 "amount_of" = true) (e : L.meth 1 "amount_of" [stI a b, P] st = .ok (.v z) st)
    (hg : L.glob "ZERO" = some (.tup [.int 0, .int 1])) (hz : ∀ s : SS, cmpV .ne (.v z) (.v (.tup [.int 0, .int 1])) s = some c) : runD L d_may_pay [E, stI a b, P] st = .ok (.v (.bl c)) st := by
  have m1 : ∀ (es : List ME) (l : List Sl), methF L "amount_of" es (.v (stI a b)) ⟨l, st⟩ = (evs L es ⟨l, st⟩).bind fun ds s => liftF (L.meth 1 "amount_of" (stI a b :: ds) s.st) s := fun es l => methF_i (by decide +kernel) hm
  unfold runD d_may_pay
  simp [slots, e1, m1, e, hg, hz]
theorem may_ok (k : Nat) (st : List MO) {u : Rat} {N : Nat} (hu : Un u N) {s : St} {a b : Nat} (hA : At u s a b st) (hl : Le N s) {p : Nat × Nat} (os ds : List Rat) (h1 : s.1.length = os.length) (h2 : s.2.length = ds.length) (hc : can s p) :
    runD (FP PP (k + 3)) d_may_pay [evg os ds, stI a b, prD p] st = .ok (.v (.bl true)) st := by
  refine may_run _ st _ _ _ a b true (by rw [c_are_people]; exact arepeople_ok k st os ds p (h1 ▸ can_1 hc) (h2 ▸ can_2 hc)) rfl (by rw [m_State_amount_of]; exact amount_ok k st hu hA hl (can_1 hc) (can_2 hc)) rfl fun s' => ?_
  rw [ne_z hu.p]
  have : ¬ am s p = 0 := Nat.pos_iff_ne_zero.mp hc
  simp [this]
end K06

namespace K06
open PySem L2 Mq
def stS (st : List MO) (u : Rat) (s : St) : List MO := st ++ [.l (s.1.map (fm u)), .l (s.2.map (fm u))]
theorem app_0 {st : List MO} {x y : MO} : (st ++ [x, y])[st.length]? = some x := by simp
theorem app_1 {st : List MO} {x y : MO} : (st ++ [x, y])[st.length + 1]? = some y := by
  rw [List.getElem?_append_right (by omega), Nat.add_sub_cancel_left]; rfl
theorem set_0 {st : List MO} {x y z : MO} : (st ++ [x, y]).set st.length z = st ++ [z, y] := by
  rw [List.set_append_right _ _ (Nat.le_refl _), Nat.sub_self]; rfl
theorem set_1 {st : List MO} {x y z : MO} : (st ++ [x, y]).set (st.length + 1) z = st ++ [x, z] := by
  rw [List.set_append_right _ _ (by omega), Nat.add_sub_cancel_left]; rfl
theorem at_stS (st : List MO) (u : Rat) (s : St) : At u s st.length (st.length + 1) (stS st u s) := ⟨app_0, app_1, by omega⟩
theorem stgo2 (k : Nat) (st : List MO) {u : Rat} {N : Nat} (hu : Un u N) {s : St} (hl : Le N s) {p : Nat × Nat} (hc : can s p) :
    runD (FP PP (k + 3)) d_State_go [stI st.length (st.length + 1), prD p] (stS st u s) = .ok (.v (fm u (am s p))) (stS st u (go s p)) := by
  obtain ⟨st', e, rfl⟩ := stgo_ok k (stS st u s) hu (at_stS st u s) hl hc
  rw [e]
  unfold stS
  rw [set_0, set_1]
theorem init_run (L : Fns) (st : List MO) (os ds : List Rat) : runI L d_State__init_ 1 [evg os ds] st = .ok (["owed_left", "due_left"], [.ref st.length, .ref (st.length + 1)]) (st ++ [.l (os.map fr), .l (ds.map fr)]) := by
  unfold runI d_State__init_
  have sl0 : slots 2 (Sl.oi 1 [] [] :: [evg os ds].map Sl.v) = [.oi 1 [] [], .v (evg os ds)] := rfl
  show finI 1 (Mq.execs _ [_, _] ⟨slots 2 _, st⟩) = _
  rw [sl0]
  have r1 : ∀ (s : SS) (xs : List Dt), rds s (.v (.tup xs)) = some xs := fun _ _ => rfl
  have n1 : putN "owed_left" [] = ([("owed_left" : Str)] : List Str) := rfl
  have n2 : putN "due_left" [("owed_left" : Str)] = ([("owed_left" : Str), ("due_left" : Str)] : List Str) := by decide +kernel
  have d1 : ∀ y : Dt, putD "owed_left" y [] [] = [y] := fun y => rfl
  have d2 : ∀ x y : Dt, putD "due_left" y [("owed_left" : Str)] [x] = [x, y] := fun x y => by
    unfold putD
    rw [if_neg (by decide +kernel)]; rfl
  simp [fo, fd, r1, var_oi, wr_oi, n1, d1]
  simp [fo, fd, r1, var_oi, wr_oi, n2, d2, finI, oiAt]
theorem stmake_ok (k : Nat) (st : List MO) (os ds : List Rat) : (FP PP (k + 1)).make "State" [evg os ds] st = .ok (.v (stI st.length (st.length + 1))) (st ++ [.l (os.map fr), .l (ds.map fr)]) := by
  rw [n_State]
  unfold mkI
  rw [init_run]
  rfl
def goneB : List MS := [.ifs (.not (.call "may_pay" [.var 0, .var 2, .var 4])) [.ret (.cst .non)] [], .expr (.bme (.var 3) "append" [.meth (.var 2) "go" [.var 4]])]
theorem gone_run (L : Fns) (st st' : List MO) (E T P z : Dt) (a b : Nat) (acc : List Dt) (hz : acc.length < sizeLine) (e1 : L.call "may_pay" [E, stI a b, P] st = .ok (.v (.bl true)) st) (hm : L.hasM 1 "go" = true) (e2 : L.meth 1 "go" [stI a b, P] st = .ok (.v z) st') :
    Mq.execs L goneB ⟨[.v E, .v T, .v (stI a b), .ol acc, .v P], st⟩ = .ok .nx ⟨[.v E, .v T, .v (stI a b), .ol (acc ++ [z]), .v P], st'⟩ := by
  have m1 : ∀ (es : List ME) (l : List Sl) (st : List MO), methF L "go" es (.v (stI a b)) ⟨l, st⟩ = (evs L es ⟨l, st⟩).bind fun ds s => liftF (L.meth 1 "go" (stI a b :: ds) s.st) s := fun es l st => methF_i (by decide +kernel) hm
  have ea : ∀ d, mthF "append" d acc = some (acc ++ [d], .non) := fun d => by
    show (if acc.length < sizeLine then some (acc ++ [d], Dt.non) else none) = _
    rw [if_pos hz]
  have rd : ∀ (l : List Sl) (t : List MO), l[3]? = some (.ol acc) → rdt ⟨l, t⟩ (.bw 3) = some acc := fun l t h => by
    unfold rdt
    simp only [h]
  have bm : bmeF L "append" (.meth (.var 2) "go" [.var 4]) (.bw 3) ⟨[.v E, .v T, .v (stI a b), .ol acc, .v P], st⟩ = .ok (.v .non) ⟨[.v E, .v T, .v (stI a b), .ol (acc ++ [z]), .v P], st'⟩ := by
    rw [bmeF_y (rd _ _ rfl)]
    simp [m1, e2, ea]
  unfold goneB
  simp [e1, bm]
theorem gone_loop (k : Nat) (st : List MO) {u : Rat} {N : Nat} (hu : Un u N) (os ds : List Rat) (T : Dt) : ∀ (ps : List (Nat × Nat)) (s : St) (acc : List Dt) (x : Sl), Le N s → Row s ps → s.1.length = os.length → s.2.length = ds.length → acc.length + ps.length ≤ sizeLine →
    ∃ x', forL (fun _ => true) (fun s x => bindT (.n 4) x s) (fun s => Mq.execs (FP PP (k + 4)) goneB s) (ps.map prD) ⟨[.v (evg os ds), .v T, .v (stI st.length (st.length + 1)), .ol acc, x], stS st u s⟩ =
      .ok .nx ⟨[.v (evg os ds), .v T, .v (stI st.length (st.length + 1)), .ol (acc ++ (ams s ps).map (fm u)), x'], stS st u (gos s ps)⟩
  | [], s, acc, x, _, _, _, _, _ => ⟨x, by
    rw [List.map_nil, forL]
    show _ = Out.ok Fl.nx (SS.mk [_, _, _, .ol (acc ++ [].map (fm u)), _] _)
    rw [List.map_nil, List.append_nil]
    rfl⟩
  | p :: r, s, acc, x, hl, hr, h1, h2, hz => by
    rw [List.length_cons] at hz
    have e1 := may_ok k (stS st u s) hu (at_stS st u s) hl os ds h1 h2 hr.1
    have e2 := stgo2 k st hu hl hr.1
    have e := gone_run (FP PP (k + 4)) (stS st u s) (stS st u (go s p)) (evg os ds) T (prD p) (fm u (am s p)) st.length (st.length + 1) acc (by omega) (by rw [c_may_pay]; exact e1) rfl (by rw [m_State_go]; exact e2)
    have hl' : Le N (go s p) := gos_le [p] s hl.1 hl.2
    obtain ⟨x', ih⟩ := gone_loop k st hu os ds T r (go s p) (acc ++ [fm u (am s p)]) (.v (prD p)) hl' hr.2 (go_l1.trans h1) (go_l2.trans h2) (by rw [List.length_append, List.length_singleton]; omega)
    refine ⟨x', ?_⟩
    rw [List.map_cons, forL, bindT, r_ok]
    show ((Mq.execs (FP PP (k + 4)) goneB ⟨[.v (evg os ds), .v T, .v (stI st.length (st.length + 1)), .ol acc, .v (prD p)], stS st u s⟩).bind _) = _
    rw [e, r_ok]
    simp only [if_true]
    rw [ih]
    show Out.ok Fl.nx (SS.mk [_, _, _, .ol (acc ++ [fm u (am s p)] ++ (ams (go s p) r).map (fm u)), _] _) = Out.ok Fl.nx (SS.mk [_, _, _, .ol (acc ++ (fm u (am s p) :: (ams (go s p) r).map (fm u))), _] _)
    rw [List.append_assoc]; rfl
def evS (u : Rat) (s : St) : Dt := evg (s.1.map (mu u)) (s.2.map (mu u))
theorem map_fm (u : Rat) (l : List Nat) : (l.map (mu u)).map fr = l.map (fm u) := by rw [List.map_map]; rfl
theorem gone_top (L : Fns) (st st1 st2 : List MO) (E S : Dt) (P A : List Dt) (x' : Sl) (hi : ∀ s : SS, isiF L "tuple" (.v (.tup P)) s = .ok (.v (.bl true)) s) (e1 : L.make "State" [E] st = .ok (.v S) st1)
    (e2 : forL (fun _ => true) (fun s x => bindT (.n 4) x s) (fun s => Mq.execs L goneB s) P ⟨[.v E, .v (.tup P), .v S, .ol [], .un], st1⟩ = .ok .nx ⟨[.v E, .v (.tup P), .v S, .ol A, x'], st2⟩) :
    runD L d_gone [E, .tup P] st = .ok (.v (.tup [S, .tup A])) st2 := by
  have s0 : (0 : Nat) ≤ sizeLine := by decide
  have s2 : (2 : Nat) ≤ sizeLine := by decide
  unfold runD d_gone
  have sl0 : slots 5 ([E, Dt.tup P].map Sl.v) = [.v E, .v (.tup P), .un, .un, .un] := rfl
  show finD (Mq.execs _ [_, _, _, _, _] ⟨slots 5 _, _⟩) = _
  rw [sl0]
  have a1 : Mq.exec L (.ifs (.not (.isi (.var 1) "tuple")) [.ret (.cst .non)] []) ⟨[.v E, .v (.tup P), .un, .un, .un], st⟩ = .ok .nx ⟨[.v E, .v (.tup P), .un, .un, .un], st⟩ := by simp [hi]
  have a2 : Mq.exec L (.asg 2 (.make "State" [.var 0])) ⟨[.v E, .v (.tup P), .un, .un, .un], st⟩ = .ok .nx ⟨[.v E, .v (.tup P), .v S, .un, .un], st1⟩ := by simp [e1]
  have a3 : Mq.exec L (.asg 3 (.lst [])) ⟨[.v E, .v (.tup P), .v S, .un, .un], st1⟩ = .ok .nx ⟨[.v E, .v (.tup P), .v S, .ol [], .un], st1⟩ := by simp
  have h3 : evI L (.seq true (.var 1)) ⟨[.v E, .v (.tup P), .v S, .ol [], .un], st1⟩ = .ok ⟨P, .v (.tup P), P⟩ ⟨[.v E, .v (.tup P), .v S, .ol [], .un], st1⟩ := i_seq (r := .v (.tup P)) (by simp) rfl rfl
  rw [x_cons, a1, r_ok, thenS_nx, x_cons, a2, r_ok, thenS_nx, x_cons, a3, r_ok, thenS_nx, x_cons, x_for, h3, r_ok]
  show finD ((Out.fix _ (forL (fun _ => true) (fun s x => bindT (.n 4) x s) (fun s => Mq.execs L goneB s) P ⟨_, st1⟩)).bind _) = _
  rw [e2, r_fix, r_ok, thenS_nx]
  show finD (Mq.execs _ [_] ⟨_, st2⟩) = _
  simp [s2, tup_bw, unlock]
theorem gone_ok (k : Nat) (st : List MO) {u : Rat} {N : Nat} (hu : Un u N) {s : St} (hl : Le N s) {ps : List (Nat × Nat)} (hr : Row s ps) (hz : ps.length ≤ 1000) :
    runD (FP PP (k + 4)) d_gone [evS u s, .tup (ps.map prD)] st = .ok (.v (.tup [stI st.length (st.length + 1), .tup ((ams s ps).map (fm u))])) (stS st u (gos s ps)) := by
  obtain ⟨x', e⟩ := gone_loop k st hu (s.1.map (mu u)) (s.2.map (mu u)) (.tup (ps.map prD)) ps s [] .un hl hr (by rw [List.length_map]) (by rw [List.length_map]) (by rw [sizeLine_eq, List.length_nil]; omega)
  refine gone_top _ st (stS st u s) _ _ _ _ _ x' (fun _ => isi_t (fp_isi _)) ?_ e
  have := stmake_ok (k + 3) st (s.1.map (mu u)) (s.2.map (mu u))
  rw [map_fm, map_fm] at this
  exact this
end K06

namespace K06
open PySem L2 Mq
/-! ### any plain thing -/
mutual
def pl : Dt → Bool
  | .non => true
  | .bl _ => true
  | .int _ => true
  | .str _ => true
  | .dct => true
  | .lst _ => true
  | .tup xs => plL xs
  | .rol _ => false
  | .ins _ _ _ => false
  | .ref _ => false
def plL : List Dt → Bool
  | [] => true
  | x :: r => pl x && plL r
end
theorem plL_mem : ∀ {xs : List Dt}, plL xs = true → ∀ x ∈ xs, pl x = true
  | y :: r, h, x, hx => by
    unfold plL at h
    simp only [Bool.and_eq_true] at h
    rcases List.mem_cons.mp hx with rfl | hx
    · exact h.1
    · exact plL_mem h.2 x hx
theorem plL_of : ∀ {xs : List Dt}, (∀ x ∈ xs, pl x = true) → plL xs = true
  | [], _ => by unfold plL; rfl
  | y :: r, h => by
    unfold plL
    rw [h y (List.mem_cons_self ..), plL_of fun x hx => h x (List.mem_cons_of_mem _ hx)]; rfl
theorem pl_tup {xs : List Dt} : pl (.tup xs) = plL xs := by unfold pl; rfl
def isI : Dt → Bool
  | .int _ => true
  | .bl _ => true
  | _ => false
def isB : Dt → Bool
  | .bl _ => true
  | _ => false
def isT : Dt → Bool
  | .tup _ => true
  | _ => false
theorem isi_int {L : Fns} {s : SS} {x : Dt} (h : L.isi = isiOf isiT) (hp : pl x = true) : isiF L "int" (.v x) s = .ok (.v (.bl (isI x))) s := by
  cases x with
  | non => exact isiF_y (ty := .b "NoneType") (b := false) rfl (by rw [h]; decide +kernel)
  | bl b => exact isiF_y (ty := .b "bool") (b := true) rfl (by rw [h]; decide +kernel)
  | int b => exact isiF_y (ty := .b "int") (b := true) rfl (by rw [h]; decide +kernel)
  | str b => exact isiF_y (ty := .b "str") (b := false) rfl (by rw [h]; decide +kernel)
  | tup b => exact isiF_y (ty := .b "tuple") (b := false) rfl (by rw [h]; decide +kernel)
  | lst b => exact isiF_y (ty := .b "list") (b := false) rfl (by rw [h]; decide +kernel)
  | dct => exact isiF_y (ty := .b "dict") (b := false) rfl (by rw [h]; decide +kernel)
  | _ => simp [pl] at hp
theorem isi_bool {L : Fns} {s : SS} {x : Dt} (h : L.isi = isiOf isiT) (hp : pl x = true) : isiF L "bool" (.v x) s = .ok (.v (.bl (isB x))) s := by
  cases x with
  | non => exact isiF_y (ty := .b "NoneType") (b := false) rfl (by rw [h]; decide +kernel)
  | bl b => exact isiF_y (ty := .b "bool") (b := true) rfl (by rw [h]; decide +kernel)
  | int b => exact isiF_y (ty := .b "int") (b := false) rfl (by rw [h]; decide +kernel)
  | str b => exact isiF_y (ty := .b "str") (b := false) rfl (by rw [h]; decide +kernel)
  | tup b => exact isiF_y (ty := .b "tuple") (b := false) rfl (by rw [h]; decide +kernel)
  | lst b => exact isiF_y (ty := .b "list") (b := false) rfl (by rw [h]; decide +kernel)
  | dct => exact isiF_y (ty := .b "dict") (b := false) rfl (by rw [h]; decide +kernel)
  | _ => simp [pl] at hp
theorem isi_tuple {L : Fns} {s : SS} {x : Dt} (h : L.isi = isiOf isiT) (hp : pl x = true) : isiF L "tuple" (.v x) s = .ok (.v (.bl (isT x))) s := by
  cases x with
  | non => exact isiF_y (ty := .b "NoneType") (b := false) rfl (by rw [h]; decide +kernel)
  | bl b => exact isiF_y (ty := .b "bool") (b := false) rfl (by rw [h]; decide +kernel)
  | int b => exact isiF_y (ty := .b "int") (b := false) rfl (by rw [h]; decide +kernel)
  | str b => exact isiF_y (ty := .b "str") (b := false) rfl (by rw [h]; decide +kernel)
  | tup b => exact isiF_y (ty := .b "tuple") (b := true) rfl (by rw [h]; decide +kernel)
  | lst b => exact isiF_y (ty := .b "list") (b := false) rfl (by rw [h]; decide +kernel)
  | dct => exact isiF_y (ty := .b "dict") (b := false) rfl (by rw [h]; decide +kernel)
  | _ => simp [pl] at hp
/-- a number within -/
def inN (n : Nat) : Dt → Bool
  | .int i => decide (0 ≤ i) && decide (i < n)
  | _ => false
theorem isint_any (k : Nat) (st : List MO) (x : Dt) (hp : pl x = true) : runD (FP PP k) d_is_integer [x] st = .ok (.v (.bl (isI x && !isB x))) st := by
  have a := fun s : SS => isi_int (s := s) (fp_isi k) hp
  have b := fun s : SS => isi_bool (s := s) (fp_isi k) hp
  unfold runD d_is_integer
  cases h : isI x <;> rw [h] at a <;> simp [slots, a, b]
theorem notint {x : Dt} (h : ∀ i, x ≠ .int i) : (isI x && !isB x) = false := by
  cases x <;> first | rfl | exact absurd rfl (h _)
theorem inN_not {n : Nat} {x : Dt} (h : ∀ i, x ≠ .int i) : inN n x = false := by
  cases x <;> first | rfl | exact absurd rfl (h _)
theorem within_any (k : Nat) (st : List MO) (x : Dt) (n : Nat) (hp : pl x = true) : runD (FP PP (k + 1)) d_is_within [x, .int 0, .int ((n : Int) - 1)] st = .ok (.v (.bl (inN n x))) st := by
  have e := isint_any k st x hp
  by_cases hx : ∃ i, x = .int i
  · obtain ⟨i, rfl⟩ := hx
    have e' : runD (FP PP k) d_is_integer [.int i] st = .ok (.v (.bl true)) st := e
    unfold runD d_is_within
    by_cases h0 : 0 ≤ i
    · have h1 : (decide (i ≤ (n : Int) - 1)) = decide (i < (n : Int)) := decide_eq_decide.mpr (by omega)
      simp [slots, c_is_integer, e', h0, inN, h1]
    · simp [slots, c_is_integer, e', h0, inN]
  · have hx' : ∀ i, x ≠ .int i := fun i z => hx ⟨i, z⟩
    rw [notint hx'] at e
    rw [inN_not hx']
    unfold runD d_is_within
    simp [slots, c_is_integer, e]
theorem lnum_any (k : Nat) (st : List MO) (x : Dt) (n : Nat) (hp : pl x = true) : runD (FP PP k) d_law_is_number [x, .int n] st = .ok (.v (.bl (inN n x))) st := by
  have a := fun s : SS => isi_int (s := s) (fp_isi k) hp
  have b := fun s : SS => isi_bool (s := s) (fp_isi k) hp
  by_cases hx : ∃ i, x = .int i
  · obtain ⟨i, rfl⟩ := hx
    have a' : ∀ s : SS, isiF (FP PP k) "int" (.v (.int i)) s = .ok (.v (.bl true)) s := a
    have b' : ∀ s : SS, isiF (FP PP k) "bool" (.v (.int i)) s = .ok (.v (.bl false)) s := b
    unfold runD d_law_is_number
    by_cases h0 : 0 ≤ i
    · simp [slots, a', b', h0, inN]
    · simp [slots, a', b', h0, inN]
  · have hx' : ∀ i, x ≠ .int i := fun i z => hx ⟨i, z⟩
    have e := notint hx'
    rw [inN_not hx']
    unfold runD d_law_is_number
    cases h : isI x with
    | false => rw [h] at a; simp [slots, a]
    | true =>
      rw [h] at a e
      have hb : isB x = true := by simpa using e
      rw [hb] at b
      simp [slots, a, b]
def two : Dt → Option (Dt × Dt)
  | .tup [a, b] => some (a, b)
  | _ => none
theorem ispair_any (k : Nat) (st : List MO) (x : Dt) (hp : pl x = true) : runD (FP PP k) d_is_pair [x] st = .ok (.v (.bl (two x).isSome)) st := by
  have a := fun s : SS => isi_tuple (s := s) (fp_isi k) hp
  by_cases hx : ∃ l, x = .tup l
  · obtain ⟨l, rfl⟩ := hx
    have a' : ∀ s : SS, isiF (FP PP k) "tuple" (.v (.tup l)) s = .ok (.v (.bl true)) s := a
    have hl : (two (.tup l)).isSome = decide ((l.length : Int) = 2) := by
      match l with
      | [] => rfl
      | [a] => rfl
      | [a, b] => rfl
      | a :: b :: c :: r =>
        show false = _
        refine (decide_eq_false ?_).symm
        simp; omega
    rw [hl]
    unfold runD d_is_pair
    simp [slots, a']
  · have hT : isT x = false := by cases x <;> first | rfl | exact absurd ⟨_, rfl⟩ hx
    have h2 : (two x).isSome = false := by cases x <;> first | rfl | exact absurd ⟨_, rfl⟩ hx
    rw [hT] at a
    rw [h2]
    unfold runD d_is_pair
    simp [slots, a]
/-- what an item of a row says -/
def prOf (s : St) (y : Dt) : Option (Nat × Nat) := match y with
  | .tup [.int a, .int b] => if (inN s.1.length (.int a) = true ∧ inN s.2.length (.int b) = true) ∧ 0 < am s (a.toNat, b.toNat) then some (a.toNat, b.toNat) else none
  | _ => none
def rowOf (s : St) : List Dt → Option St
  | [] => some s
  | y :: r => match prOf s y with
    | some p => rowOf (go s p) r
    | none => none
theorem prOf_ok {s : St} {y : Dt} {p : Nat × Nat} (h : prOf s y = some p) : y = prD p ∧ can s p := by
  unfold prOf at h
  split at h
  · rename_i a b
    split at h
    · rename_i c
      cases h
      simp only [inN, Bool.and_eq_true, decide_eq_true_eq] at c
      refine ⟨?_, c.2⟩
      unfold prD
      simp only [Int.toNat_of_nonneg c.1.1.1, Int.toNat_of_nonneg c.1.2.1]
    · cases h
  · cases h
theorem people_any (k : Nat) (st : List MO) (os ds : List Rat) (y : Dt) (hp : pl y = true) : runD (FP PP (k + 2)) d_are_people [evg os ds, y] st = .ok (.v (.bl (match two y with | some (a, b) => inN os.length a && inN ds.length b | none => false))) st := by
  have e1 := ispair_any (k + 1) st y hp
  unfold runD d_are_people
  cases h : two y with
  | none =>
    rw [h] at e1
    have e1' : (FP PP (k + 2)).call "is_pair" [y] st = .ok (.v (.bl false)) st := by rw [c_is_pair]; exact e1
    simp [slots, e1']
  | some ab =>
    obtain ⟨a, b⟩ := ab
    have hy : y = .tup [a, b] := by
      unfold two at h
      split at h
      · cases h; rfl
      · cases h
    subst hy
    rw [pl_tup] at hp
    have pa := plL_mem hp a (by simp)
    have pb := plL_mem hp b (by simp)
    have e1' : (FP PP (k + 2)).call "is_pair" [.tup [a, b]] st = .ok (.v (.bl true)) st := by rw [c_is_pair]; exact e1
    have e2 : (FP PP (k + 2)).call "is_within" [a, .int 0, .int ((os.length : Int) - 1)] st = .ok (.v (.bl (inN os.length a))) st := by rw [c_is_within]; exact within_any k st a os.length pa
    have e3 : (FP PP (k + 2)).call "is_within" [b, .int 0, .int ((ds.length : Int) - 1)] st = .ok (.v (.bl (inN ds.length b))) st := by rw [c_is_within]; exact within_any k st b ds.length pb
    cases h2 : inN os.length a <;> rw [h2] at e2 <;> simp [slots, fo, fd, e1', e2, e3, h2]
theorem may_any (k : Nat) (st : List MO) {u : Rat} {N : Nat} (hu : Un u N) {s : St} {a b : Nat} (hA : At u s a b st) (hl : Le N s) (os ds : List Rat) (h1 : s.1.length = os.length) (h2 : s.2.length = ds.length) (y : Dt) (hp : pl y = true) :
    runD (FP PP (k + 3)) d_may_pay [evg os ds, stI a b, y] st = .ok (.v (.bl (prOf s y).isSome)) st := by
  have e := people_any k st os ds y hp
  by_cases hv : ∃ i j : Int, y = .tup [.int i, .int j] ∧ inN os.length (.int i) = true ∧ inN ds.length (.int j) = true
  · obtain ⟨i, j, rfl, v1, v2⟩ := hv
    have e' : runD (FP PP (k + 2)) d_are_people [evg os ds, .tup [.int i, .int j]] st = .ok (.v (.bl (inN os.length (.int i) && inN ds.length (.int j)))) st := e
    rw [v1, v2] at e'
    simp only [inN, Bool.and_eq_true, decide_eq_true_eq] at v1 v2
    obtain ⟨i, rfl⟩ := Int.eq_ofNat_of_zero_le v1.1
    obtain ⟨j, rfl⟩ := Int.eq_ofNat_of_zero_le v2.1
    have hz : (prOf s (.tup [.int (i : Int), .int (j : Int)])).isSome = !decide (am s (i, j) = 0) := by
      unfold prOf
      simp only [inN, Int.toNat_natCast, h1, h2]
      by_cases z : am s (i, j) = 0
      · rw [if_neg (by omega)]; simp [z]
      · rw [if_pos ⟨⟨by simp; omega, by simp; omega⟩, by omega⟩]; simp [z]
    rw [hz]
    refine may_run _ st _ _ (fm u (am s (i, j))) a b _ (by rw [c_are_people]; exact e') rfl (by rw [m_State_amount_of]; exact amount_ok k st hu hA hl (p := (i, j)) (by simp only; omega) (by simp only; omega)) rfl fun s' => ne_z hu.p _
  · have hf : (match two y with | some (a, b) => inN os.length a && inN ds.length b | none => false) = false := by
      cases h : two y with
      | none => rfl
      | some ab =>
        obtain ⟨c, d⟩ := ab
        have hy : y = .tup [c, d] := by
          unfold two at h
          split at h
          · cases h; rfl
          · cases h
        subst hy
        simp only
        cases hc : inN os.length c with
        | false => rfl
        | true =>
          cases hd : inN ds.length d with
          | false => rfl
          | true =>
            exfalso
            have : ∃ i, c = .int i := by cases c <;> first | exact ⟨_, rfl⟩ | simp [inN] at hc
            obtain ⟨i, rfl⟩ := this
            have : ∃ i, d = .int i := by cases d <;> first | exact ⟨_, rfl⟩ | simp [inN] at hd
            obtain ⟨j, rfl⟩ := this
            exact hv ⟨i, j, rfl, hc, hd⟩
    have hn : (prOf s y).isSome = false := by
      cases hq : prOf s y with
      | none => rfl
      | some p =>
        exfalso
        obtain ⟨rfl, hc⟩ := prOf_ok hq
        have c1 := can_1 hc
        have c2 := can_2 hc
        exact hv ⟨p.1, p.2, rfl, by simp [inN]; omega, by simp [inN]; omega⟩
    rw [hf] at e
    rw [hn]
    have e' : (FP PP (k + 3)).call "are_people" [evg os ds, y] st = .ok (.v (.bl false)) st := by rw [c_are_people]; exact e
    unfold runD d_may_pay
    simp [slots, e']
end K06

namespace K06
open PySem L2 Mq
/-! ### the program goes a row of any things -/
theorem gone_stop (L : Fns) (st : List MO) (E T P S : Dt) (acc : List Dt) (e1 : L.call "may_pay" [E, S, P] st = .ok (.v (.bl false)) st) :
    Mq.execs L goneB ⟨[.v E, .v T, .v S, .ol acc, .v P], st⟩ = .ok (.ret (.v .non)) ⟨[.v E, .v T, .v S, .ol acc, .v P], st⟩ := by
  unfold goneB
  simp [e1]
theorem any_loop (k : Nat) (st : List MO) {u : Rat} {N : Nat} (hu : Un u N) (os ds : List Rat) (T : Dt) : ∀ (ys : List Dt) (s : St) (acc : List Dt) (x : Sl), Le N s → plL ys = true → s.1.length = os.length → s.2.length = ds.length → acc.length + ys.length ≤ sizeLine →
    (∃ s' x' A, rowOf s ys = some s' ∧ forL (fun _ => true) (fun s x => bindT (.n 4) x s) (fun s => Mq.execs (FP PP (k + 4)) goneB s) ys ⟨[.v (evg os ds), .v T, .v (stI st.length (st.length + 1)), .ol acc, x], stS st u s⟩ =
      .ok .nx ⟨[.v (evg os ds), .v T, .v (stI st.length (st.length + 1)), .ol A, x'], stS st u s'⟩) ∨
    (∃ s' sl, rowOf s ys = none ∧ forL (fun _ => true) (fun s x => bindT (.n 4) x s) (fun s => Mq.execs (FP PP (k + 4)) goneB s) ys ⟨[.v (evg os ds), .v T, .v (stI st.length (st.length + 1)), .ol acc, x], stS st u s⟩ =
      .ok (.ret (.v .non)) ⟨sl, stS st u s'⟩)
  | [], s, acc, x, _, _, _, _, _ => .inl ⟨s, x, acc, rfl, by rw [forL]⟩
  | y :: r, s, acc, x, hl, hp, h1, h2, hz => by
    rw [List.length_cons] at hz
    unfold plL at hp
    simp only [Bool.and_eq_true] at hp
    have e1 := may_any k (stS st u s) hu (at_stS st u s) hl os ds h1 h2 y hp.1
    rw [forL, bindT, r_ok]
    show _ ∨ _
    cases hq : prOf s y with
    | none =>
      rw [hq] at e1
      refine .inr ⟨s, [.v (evg os ds), .v T, .v (stI st.length (st.length + 1)), .ol acc, .v y], by unfold rowOf; rw [hq], ?_⟩
      have e := gone_stop (FP PP (k + 4)) (stS st u s) (evg os ds) T y (stI st.length (st.length + 1)) acc (by rw [c_may_pay]; exact e1)
      show ((Mq.execs (FP PP (k + 4)) goneB ⟨[.v (evg os ds), .v T, .v (stI st.length (st.length + 1)), .ol acc, .v y], stS st u s⟩).bind _) = _
      rw [e, r_ok]
    | some p =>
      obtain ⟨rfl, hc⟩ := prOf_ok hq
      rw [hq] at e1
      have e2 := stgo2 k st hu hl hc
      have e := gone_run (FP PP (k + 4)) (stS st u s) (stS st u (go s p)) (evg os ds) T (prD p) (fm u (am s p)) st.length (st.length + 1) acc (by omega) (by rw [c_may_pay]; exact e1) rfl (by rw [m_State_go]; exact e2)
      have hl' : Le N (go s p) := gos_le [p] s hl.1 hl.2
      have ih := any_loop k st hu os ds T r (go s p) (acc ++ [fm u (am s p)]) (.v (prD p)) hl' hp.2 (go_l1.trans h1) (go_l2.trans h2) (by rw [List.length_append, List.length_singleton]; omega)
      have er : rowOf s (prD p :: r) = rowOf (go s p) r := by
        show (match prOf s (prD p) with | some p => rowOf (go s p) r | none => none) = _
        rw [hq]
      rw [er]
      have step : ∀ o, (forL (fun _ => true) (fun s x => bindT (.n 4) x s) (fun s => Mq.execs (FP PP (k + 4)) goneB s) r ⟨[.v (evg os ds), .v T, .v (stI st.length (st.length + 1)), .ol (acc ++ [fm u (am s p)]), .v (prD p)], stS st u (go s p)⟩) = o →
          ((Mq.execs (FP PP (k + 4)) goneB ⟨[.v (evg os ds), .v T, .v (stI st.length (st.length + 1)), .ol acc, .v (prD p)], stS st u s⟩).bind fun f s => (match f with
      | .nx => if (true : Bool) then forL (fun _ => true) (fun s x => bindT (.n 4) x s) (fun s => Mq.execs (FP PP (k + 4)) goneB s) r s else .no
      | .ct => if (true : Bool) then forL (fun _ => true) (fun s x => bindT (.n 4) x s) (fun s => Mq.execs (FP PP (k + 4)) goneB s) r s else .no
      | .bk => .ok .nx s
      | .ret r => .ok (.ret r) s)) = o := fun o ho => by
        rw [e, r_ok]
        simp only [if_true]
        exact ho
      rcases ih with ⟨s', x', A, a1, a2⟩ | ⟨s', sl, a1, a2⟩
      · exact .inl ⟨s', x', A, a1, step _ a2⟩
      · exact .inr ⟨s', sl, a1, step _ a2⟩
theorem any_top (L : Fns) (st st1 : List MO) (E S : Dt) (P : List Dt) (o : Out SS Fl) (hi : ∀ s : SS, isiF L "tuple" (.v (.tup P)) s = .ok (.v (.bl true)) s) (e1 : L.make "State" [E] st = .ok (.v S) st1)
    (e2 : forL (fun _ => true) (fun s x => bindT (.n 4) x s) (fun s => Mq.execs L goneB s) P ⟨[.v E, .v (.tup P), .v S, .ol [], .un], st1⟩ = o) :
    runD L d_gone [E, .tup P] st = finD (o.bind (thenS (Mq.execs L [.ret (.tup [.var 2, .bif "tuple" [.var 3]])]))) := by
  have s0 : (0 : Nat) ≤ sizeLine := by decide
  unfold runD d_gone
  have sl0 : slots 5 ([E, Dt.tup P].map Sl.v) = [.v E, .v (.tup P), .un, .un, .un] := rfl
  show finD (Mq.execs _ [_, _, _, _, _] ⟨slots 5 _, _⟩) = _
  rw [sl0]
  have a1 : Mq.exec L (.ifs (.not (.isi (.var 1) "tuple")) [.ret (.cst .non)] []) ⟨[.v E, .v (.tup P), .un, .un, .un], st⟩ = .ok .nx ⟨[.v E, .v (.tup P), .un, .un, .un], st⟩ := by simp [hi]
  have a2 : Mq.exec L (.asg 2 (.make "State" [.var 0])) ⟨[.v E, .v (.tup P), .un, .un, .un], st⟩ = .ok .nx ⟨[.v E, .v (.tup P), .v S, .un, .un], st1⟩ := by simp [e1]
  have a3 : Mq.exec L (.asg 3 (.lst [])) ⟨[.v E, .v (.tup P), .v S, .un, .un], st1⟩ = .ok .nx ⟨[.v E, .v (.tup P), .v S, .ol [], .un], st1⟩ := by simp
  have h3 : evI L (.seq true (.var 1)) ⟨[.v E, .v (.tup P), .v S, .ol [], .un], st1⟩ = .ok ⟨P, .v (.tup P), P⟩ ⟨[.v E, .v (.tup P), .v S, .ol [], .un], st1⟩ := i_seq (r := .v (.tup P)) (by simp) rfl rfl
  rw [x_cons, a1, r_ok, thenS_nx, x_cons, a2, r_ok, thenS_nx, x_cons, a3, r_ok, thenS_nx, x_cons, x_for, h3, r_ok]
  show finD ((Out.fix (fun s' => s') (forL (fun _ => true) (fun s x => bindT (.n 4) x s) (fun s => Mq.execs L goneB s) P ⟨_, st1⟩)).bind _) = _
  rw [e2]
  cases o <;> rfl
/-- what a thing says as a row: where it leads -/
def rowT (s : St) (x : Dt) : Option St := match x with
  | .tup ys => rowOf s ys
  | _ => none
def lenT (x : Dt) : Nat := match x with
  | .tup ys => ys.length
  | _ => 0
theorem gone_any (k : Nat) (st : List MO) {u : Rat} {N : Nat} (hu : Un u N) {s : St} (hl : Le N s) (x : Dt) (hp : pl x = true) (hz : lenT x ≤ 10000) :
    (∃ s' A, rowT s x = some s' ∧ runD (FP PP (k + 4)) d_gone [evS u s, x] st = .ok (.v (.tup [stI st.length (st.length + 1), .tup A])) (stS st u s')) ∨ (∃ e, rowT s x = none ∧ runD (FP PP (k + 4)) d_gone [evS u s, x] st = .ok (.v .non) (st ++ e)) := by
  by_cases hx : ∃ ys, x = .tup ys
  · obtain ⟨ys, rfl⟩ := hx
    rw [pl_tup] at hp
    have hz' : ys.length ≤ 10000 := hz
    have hi := fun s : SS => isi_t (xs := ys) (s := s) (fp_isi (k + 4))
    have hm : (FP PP (k + 4)).make "State" [evS u s] st = .ok (.v (stI st.length (st.length + 1))) (stS st u s) := by
      have := stmake_ok (k + 3) st (s.1.map (mu u)) (s.2.map (mu u))
      rw [map_fm, map_fm] at this
      exact this
    have s2 : (2 : Nat) ≤ sizeLine := by decide
    rcases any_loop k st hu (s.1.map (mu u)) (s.2.map (mu u)) (.tup ys) ys s [] .un hl hp (by rw [List.length_map]) (by rw [List.length_map]) (by rw [sizeLine_eq, List.length_nil]; omega) with ⟨s', x', A, a1, a2⟩ | ⟨s', sl, a1, a2⟩
    · refine .inl ⟨s', A, a1, ?_⟩
      rw [any_top _ st (stS st u s) (evS u s) _ _ _ hi hm a2, r_ok, thenS_nx]
      simp [s2, tup_bw]
    · refine .inr ⟨[.l (s'.1.map (fm u)), .l (s'.2.map (fm u))], a1, ?_⟩
      rw [any_top _ st (stS st u s) (evS u s) _ _ _ hi hm a2, r_ok, thenS_ret]
      rfl
  · have hT : isT x = false := by cases x <;> first | rfl | exact absurd ⟨_, rfl⟩ hx
    have hr : rowT s x = none := by cases x <;> first | rfl | exact absurd ⟨_, rfl⟩ hx
    have a := fun s : SS => isi_tuple (s := s) (fp_isi (k + 4)) hp
    rw [hT] at a
    refine .inr ⟨[], hr, ?_⟩
    rw [List.append_nil]
    generalize evS u s = E
    unfold runD d_gone
    simp [slots, a]
/-! ### rows and ways judged -/
theorem isrow_any (k : Nat) (st : List MO) {u : Rat} {N : Nat} (hu : Un u N) {s : St} (hl : Le N s) (x : Dt) (hp : pl x = true) (hz : lenT x ≤ 10000) :
    ∃ e, runD (FP PP (k + 5)) d_is_row [evS u s, x] st = .ok (.v (.bl (rowT s x).isSome)) (st ++ e) := by
  rcases gone_any k st hu hl x hp hz with ⟨s', A, a1, a2⟩ | ⟨e, a1, a2⟩
  · refine ⟨[.l (s'.1.map (fm u)), .l (s'.2.map (fm u))], ?_⟩
    have a2' : (FP PP (k + 5)).call "gone" [evS u s, x] st = .ok (.v (.tup [stI st.length (st.length + 1), .tup A])) (st ++ [.l (s'.1.map (fm u)), .l (s'.2.map (fm u))]) := by rw [c_gone]; exact a2
    have c : ∀ t : SS, cmpV .notn (.v (.tup [stI st.length (st.length + 1), .tup A])) (.v .non) t = some true := fun _ => rfl
    rw [a1]
    generalize evS u s = E at *
    generalize Dt.tup [stI st.length (st.length + 1), .tup A] = R at *
    unfold runD d_is_row
    simp [slots, a2', c]
  · refine ⟨e, ?_⟩
    have a2' : (FP PP (k + 5)).call "gone" [evS u s, x] st = .ok (.v .non) (st ++ e) := by rw [c_gone]; exact a2
    have c : ∀ t : SS, cmpV .notn (.v .non) (.v .non) t = some false := fun _ => rfl
    rw [a1]
    generalize evS u s = E at *
    unfold runD d_is_row
    simp [slots, a2', c]
/-- nobody owes -/
def qz (s : St) : Bool := s.1.all fun n => decide (n = 0)
theorem e_lcR {L : Fns} {el : ME} {src : MI} {i : Nat} {s s1 : SS} {d : Dt} {xs ys : List Dt} {g : Dt → Dt} (h1 : evI L src s = .ok ⟨xs, .v d, ys⟩ s1) (ck : ∀ z, chk ys (.v d) (s1.set i z) = true) (hi : free1 s1 i) (he : ∀ x, x ∈ xs → ev L el (s1.set i (.v x)) = .ok (.v (g x)) (s1.set i (.v x))) (hl : xs.length ≤ sizeLine) :
    ev L (.lc el (.n i) src none [i]) s = .ok (.nl (xs.map g)) s1 := by
  have hlt : i < s1.sl.length := by
    rcases hi with h | ⟨y, h⟩ <;> exact (List.getElem?_eq_some_iff.mp h).1
  rw [lc_ev, h1, r_ok]
  have hw : wipeOk [i] s1 = true := by
    unfold wipeOk
    rcases hi with h | ⟨y, h⟩ <;> simp [h]
  rw [if_pos hw]
  have hself : s1 = s1.set i (s1.sl.getD i .un) := by
    have := back_same (s := s1) (z := s1.sl.getD i .un) hlt
    unfold backS backS at this
    rw [set_set] at this
    exact this.symm
  obtain ⟨z, ez⟩ := lc_map (s := s1) (ck := chk ys (.v d)) (e := fun s => ((ev L el s).bind val).noex) (i := i) (g := g) xs [] (s1.sl.getD i .un) (fun x hx => by show ((ev L el _).bind val).noex = _; rw [he x hx]; rfl) ck (by simpa using hl)
  have lk : lock (.v d) s1 = s1 := rfl
  have cn : (fun s => (cndM L none s).noex) = fun s : SS => Out.ok true s := rfl
  rw [lk, cn]
  rw [← hself] at ez
  show ((lcLoop (chk ys (.v d)) (fun s x => bindT (.n i) x s) [i] (fun s => .ok true s) (fun s => ((ev L el s).bind val).noex) xs [] s1).fix _).bind _ = _
  rw [ez, r_fix, r_ok, back_same hlt]
  rfl
theorem allBm {a : Type} (f : a → Bool) : ∀ l : List a, allBls (l.map fun x => Dt.bl (f x)) = some (l.map f)
  | [] => rfl
  | x :: r => by
    rw [List.map_cons, List.map_cons]
    show (allBls (r.map fun x => Dt.bl (f x))).map (f x :: ·) = _
    rw [allBm f r]; rfl
theorem quits_ok (k : Nat) (st : List MO) {u : Rat} (hu : 0 < u) {s : St} {a b : Nat} (hA : At u s a b st) (h1 : s.1.length ≤ 10000) : runD (FP PP k) d_State_all_quits [stI a b] st = .ok (.v (.bl (qz s))) st := by
  have hz : (FP PP k).glob "ZERO" = some (.tup [.int 0, .int 1]) := by cases k <;> rfl
  let g : Dt → Dt := fun x => .bl (deq x (.tup [.int 0, .int 1]))
  have hs : ∀ l : List Sl, l[0]? = some (.v (stI a b)) → evI (FP PP k) (.seq true (.fld (.var 0) "owed_left")) ⟨l, st⟩ = .ok ⟨s.1.map (fm u), .v (.ref a), s.1.map (fm u)⟩ ⟨l, st⟩ := fun l h0 => i_seq (r := .v (.ref a)) (by simp [h0, fA]) rfl (by unfold rds rdl rdt; simp only [hA.x])
  have lc := e_lcR (L := FP PP k) (el := .cmp .eq (.var 1) (.glo "ZERO")) (i := 1) (g := g) (hs [.v (stI a b), .un] rfl) (fun z => by
    show (match st[a]? with | some (.l ys) => decide (s.1.map (fm u) = ys) | _ => false) = true
    rw [hA.x]; simp) (.inl rfl) (fun x hx => by
    obtain ⟨n, hn, rfl⟩ := List.mem_map.mp hx
    show ev _ _ ⟨[.v (stI a b), .v (fm u n)], st⟩ = Out.ok (RV.v (.bl (deq (fm u n) (.tup [.int 0, .int 1])))) ⟨[.v (stI a b), .v (fm u n)], st⟩
    have c : ∀ t : SS, cmpV .eq (.v (fm u n)) (.v (.tup [.int 0, .int 1])) t = some (deq (fm u n) (.tup [.int 0, .int 1])) := fun t => c_eqD rfl rfl rfl rfl
    generalize fm u n = F at *
    simp [hz, c]) (by rw [List.length_map, sizeLine_eq]; omega)
  have hm : (s.1.map (fm u)).map g = s.1.map fun n => Dt.bl (decide (n = 0)) := by
    rw [List.map_map]
    refine List.map_congr_left fun n _ => ?_
    show Dt.bl (deq (fm u n) (.tup [.int 0, .int 1])) = _
    rw [← fm0 u]
    unfold fm
    rw [deq_fr]
    simp only [mu_eq hu]
  rw [hm] at lc
  unfold runD d_State_all_quits
  have sl0 : slots 2 ([stI a b].map Sl.v) = [.v (stI a b), .un] := rfl
  show finD (Mq.execs _ [_] ⟨slots 2 _, st⟩) = _
  rw [sl0, x_cons, x_ret, e_bif1, lc]
  simp [rdl_n, allBm, qz, List.all_map, Function.comp_def]
theorem isway_any (k : Nat) (st : List MO) {u : Rat} {N : Nat} (hu : Un u N) {s : St} (hl : Le N s) (h1 : s.1.length ≤ 10000) (x : Dt) (hp : pl x = true) (hz : lenT x ≤ 10000) (hlen : ∀ s', rowT s x = some s' → s'.1.length ≤ 10000) :
    ∃ e, runD (FP PP (k + 5)) d_is_way [evS u s, x] st = .ok (.v (.bl (match rowT s x with | some s' => qz s' | none => false))) (st ++ e) := by
  rcases gone_any k st hu hl x hp hz with ⟨s', A, a1, a2⟩ | ⟨e, a1, a2⟩
  · refine ⟨[.l (s'.1.map (fm u)), .l (s'.2.map (fm u))], ?_⟩
    have q := quits_ok (k + 4) (stS st u s') hu.p (at_stS st u s') (hlen s' a1)
    have a2' : (FP PP (k + 5)).call "gone" [evS u s, x] st = .ok (.v (.tup [stI st.length (st.length + 1), .tup A])) (stS st u s') := by rw [c_gone]; exact a2
    have q' : (FP PP (k + 5)).meth 1 "all_quits" [stI st.length (st.length + 1)] (stS st u s') = .ok (.v (.bl (qz s'))) (stS st u s') := by rw [m_State_all_quits]; exact q
    have c : ∀ t : SS, cmpV .notn (.v (.tup [stI st.length (st.length + 1), .tup A])) (.v .non) t = some true := fun _ => rfl
    have ix : ∀ t : SS, idxV (.v (.tup [stI st.length (st.length + 1), .tup A])) (.v (.int 0)) t = some (.v (stI st.length (st.length + 1))) := fun _ => rfl
    have m1 : ∀ (es : List ME) (l : List Sl) (t : List MO), methF (FP PP (k + 5)) "all_quits" es (.v (stI st.length (st.length + 1))) ⟨l, t⟩ = (evs (FP PP (k + 5)) es ⟨l, t⟩).bind fun ds s => liftF ((FP PP (k + 5)).meth 1 "all_quits" (stI st.length (st.length + 1) :: ds) s.st) s := fun es l t => methF_i (by decide +kernel) rfl
    rw [a1]
    show _ = Out.ok (RV.v (.bl (qz s'))) (stS st u s')
    generalize stS st u s' = st2 at *
    generalize evS u s = E at *
    generalize hI : stI st.length (st.length + 1) = I at *
    generalize Dt.tup [I, .tup A] = R at *
    unfold runD d_is_way
    simp [slots, a2', c, ix, m1, q']
  · refine ⟨e, ?_⟩
    have a2' : (FP PP (k + 5)).call "gone" [evS u s, x] st = .ok (.v .non) (st ++ e) := by rw [c_gone]; exact a2
    have c : ∀ t : SS, cmpV .notn (.v .non) (.v .non) t = some false := fun _ => rfl
    rw [a1]
    generalize evS u s = E at *
    unfold runD d_is_way
    simp [slots, a2', c]
end K06

namespace K06
open PySem L2 Mq
/-! ### the law's own account of any thing -/
def FF : Dt := .tup [.bl false, .bl false]
def dueB : List MS := [.ifs (.bool false [.not (.isi (.var 3) "tuple"), .cmp .ne (.bif "len" [.var 3]) (.cst (.int 2))]) [.ret (.tup [.cst (.bl false), .cst (.bl false)])] [], .ifs (.bool false [.not (.call "_law_is_number" [.idx (.var 3) (.cst (.int 0)), .bif "len" [.idx (.var 0) (.cst (.int 0))]]), .not (.call "_law_is_number" [.idx (.var 3) (.cst (.int 1)), .bif "len" [.idx (.var 0) (.cst (.int 1))]])]) [.ret (.tup [.cst (.bl false), .cst (.bl false)])] [], .ifs (.bool false [.cmp .eq (.idx (.idx (.var 2) (.cst (.int 0))) (.idx (.var 3) (.cst (.int 0)))) (.tup [.cst (.int 0), .cst (.int 1)]), .cmp .eq (.idx (.idx (.var 2) (.cst (.int 1))) (.idx (.var 3) (.cst (.int 1)))) (.tup [.cst (.int 0), .cst (.int 1)])]) [.ret (.tup [.cst (.bl false), .cst (.bl false)])] [], .asg 2 (.idx (.call "_law_go" [.var 2, .var 3]) (.cst (.int 0)))]
theorem due_nopair (L : Fns) (hL : L.isi = isiOf isiT) (st : List MO) (S0 T Z y : Dt) (hp : pl y = true) (h : two y = none) :
    Mq.execs L dueB ⟨[.v S0, .v T, .v Z, .v y, .un], st⟩ = .ok (.ret (.v FF)) ⟨[.v S0, .v T, .v Z, .v y, .un], st⟩ := by
  have a := fun s : SS => isi_tuple (s := s) hL hp
  have s2 : (2 : Nat) ≤ sizeLine := by decide
  by_cases hx : ∃ l, y = .tup l
  · obtain ⟨l, rfl⟩ := hx
    have a' : ∀ s : SS, isiF L "tuple" (.v (.tup l)) s = .ok (.v (.bl true)) s := a
    have hl : ¬ ((l.length : Int) = 2) := by
      match l, h with
      | [], _ => decide
      | [a], _ => simp
      | a :: b :: c :: r, _ => simp; omega
    unfold dueB FF
    simp [a', hl, s2]
  · have hT : isT y = false := by cases y <;> first | rfl | exact absurd ⟨_, rfl⟩ hx
    rw [hT] at a
    unfold dueB FF
    simp [a, s2]
theorem due_nonum (L : Fns) (hL : L.isi = isiOf isiT) (st : List MO) (T Z a b : Dt) (A0 B0 : List Dt) (v1 v2 : Bool) (e1 : L.call "_law_is_number" [a, .int A0.length] st = .ok (.v (.bl v1)) st) (e2 : L.call "_law_is_number" [b, .int B0.length] st = .ok (.v (.bl v2)) st) (h : (v1 && v2) = false) :
    Mq.execs L dueB ⟨[.v (.tup [.tup A0, .tup B0]), .v T, .v Z, .v (.tup [a, b]), .un], st⟩ = .ok (.ret (.v FF)) ⟨[.v (.tup [.tup A0, .tup B0]), .v T, .v Z, .v (.tup [a, b]), .un], st⟩ := by
  have a' : ∀ s : SS, isiF L "tuple" (.v (.tup [a, b])) s = .ok (.v (.bl true)) s := fun s => isi_t hL
  have s2 : (2 : Nat) ≤ sizeLine := by decide
  unfold dueB FF
  cases v1 with
  | false => simp [a', e1, e2, s2]
  | true =>
    cases v2 with
    | false => simp [a', e1, e2, s2]
    | true => cases h
theorem due_pair (L : Fns) (hL : L.isi = isiOf isiT) (st : List MO) (T F1 F2 W A : Dt) (A0 B0 SA SB : List Dt) (i j : Int) (z1 z2 : Bool) (e1 : L.call "_law_is_number" [.int i, .int A0.length] st = .ok (.v (.bl true)) st) (e2 : L.call "_law_is_number" [.int j, .int B0.length] st = .ok (.v (.bl true)) st)
    (f1 : atI SA i = some F1) (f2 : atI SB j = some F2) (c1 : ∀ s : SS, cmpV .eq (.v F1) (.v (.tup [.int 0, .int 1])) s = some z1) (c2 : ∀ s : SS, cmpV .eq (.v F2) (.v (.tup [.int 0, .int 1])) s = some z2) (eg : (z1 || z2) = false → L.call "_law_go" [.tup [.tup SA, .tup SB], .tup [.int i, .int j]] st = .ok (.v (.tup [W, A])) st) :
    Mq.execs L dueB ⟨[.v (.tup [.tup A0, .tup B0]), .v T, .v (.tup [.tup SA, .tup SB]), .v (.tup [.int i, .int j]), .un], st⟩ = if (z1 || z2) = true then .ok (.ret (.v FF)) ⟨[.v (.tup [.tup A0, .tup B0]), .v T, .v (.tup [.tup SA, .tup SB]), .v (.tup [.int i, .int j]), .un], st⟩ else .ok .nx ⟨[.v (.tup [.tup A0, .tup B0]), .v T, .v W, .v (.tup [.int i, .int j]), .un], st⟩ := by
  have a' : ∀ s : SS, isiF L "tuple" (.v (.tup [.int i, .int j])) s = .ok (.v (.bl true)) s := fun s => isi_t hL
  have s2 : (2 : Nat) ≤ sizeLine := by decide
  have rt : ∀ (s : SS) (xs : List Dt), rds s (.v (.tup xs)) = some xs := fun _ _ => rfl
  unfold dueB FF
  cases z1 with
  | true => simp [a', e1, e2, s2, rt, f1, c1]
  | false =>
    cases z2 with
    | true => simp [a', e1, e2, s2, rt, f1, f2, c1, c2]
    | false =>
      have eg := eg rfl
      simp [a', e1, e2, s2, rt, f1, f2, c1, c2, eg]
theorem eq_z {s : SS} {u : Rat} (hu : 0 < u) (n : Nat) : cmpV .eq (.v (fm u n)) (.v (.tup [.int 0, .int 1])) s = some (decide (n = 0)) := by
  rw [← fm0 u]
  unfold fm
  rw [c_eqD rfl rfl rfl rfl, deq_fr]
  simp only [mu_eq hu]
theorem due_step (k : Nat) (st : List MO) {u : Rat} {N : Nat} (hu : Un u N) (s0 s : St) (hl : Le N s) (h1 : s.1.length = s0.1.length) (h2 : s.2.length = s0.2.length) (T y : Dt) (hp : pl y = true) :
    (∃ p, prOf s y = some p ∧ Mq.execs (FP PP (k + 4)) dueB ⟨[.v (stD u s0), .v T, .v (stD u s), .v y, .un], st⟩ = .ok .nx ⟨[.v (stD u s0), .v T, .v (stD u (go s p)), .v y, .un], st⟩) ∨
    (prOf s y = none ∧ Mq.execs (FP PP (k + 4)) dueB ⟨[.v (stD u s0), .v T, .v (stD u s), .v y, .un], st⟩ = .ok (.ret (.v FF)) ⟨[.v (stD u s0), .v T, .v (stD u s), .v y, .un], st⟩) := by
  cases h : two y with
  | none =>
    refine .inr ⟨?_, due_nopair _ (fp_isi _) st _ _ _ _ hp h⟩
    cases hq : prOf s y with
    | none => rfl
    | some p =>
      obtain ⟨rfl, _⟩ := prOf_ok hq
      cases h
  | some ab =>
    obtain ⟨a, b⟩ := ab
    have hy : y = .tup [a, b] := by
      unfold two at h
      split at h
      · cases h; rfl
      · cases h
    subst hy
    rw [pl_tup] at hp
    have pa := plL_mem hp a (by simp)
    have pb := plL_mem hp b (by simp)
    have l1 : (s0.1.map (fm u)).length = s0.1.length := List.length_map ..
    have l2 : (s0.2.map (fm u)).length = s0.2.length := List.length_map ..
    have e1 : (FP PP (k + 4)).call "_law_is_number" [a, .int (s0.1.map (fm u)).length] st = .ok (.v (.bl (inN s0.1.length a))) st := by rw [l1, c_law_is_number]; exact lnum_any (k + 3) st a _ pa
    have e2 : (FP PP (k + 4)).call "_law_is_number" [b, .int (s0.2.map (fm u)).length] st = .ok (.v (.bl (inN s0.2.length b))) st := by rw [l2, c_law_is_number]; exact lnum_any (k + 3) st b _ pb
    cases hv : (inN s0.1.length a && inN s0.2.length b) with
    | false =>
      refine .inr ⟨?_, due_nonum _ (fp_isi _) st T _ a b _ _ _ _ e1 e2 hv⟩
      cases hq : prOf s (.tup [a, b]) with
      | none => rfl
      | some p =>
        exfalso
        obtain ⟨hy, hc⟩ := prOf_ok hq
        unfold prD at hy
        cases hy
        have c1 := can_1 hc
        have c2 := can_2 hc
        have : (inN s0.1.length (.int p.1) && inN s0.2.length (.int p.2)) = true := by simp [inN]; omega
        rw [this] at hv
        cases hv
    | true =>
      simp only [Bool.and_eq_true] at hv
      have : ∃ i, a = .int i := by cases a <;> first | exact ⟨_, rfl⟩ | simp [inN] at hv
      obtain ⟨i, rfl⟩ := this
      have : ∃ i, b = .int i := by cases b <;> first | exact ⟨_, rfl⟩ | simp [inN] at hv
      obtain ⟨j, rfl⟩ := this
      rw [hv.1] at e1
      rw [hv.2] at e2
      simp only [inN, Bool.and_eq_true, decide_eq_true_eq] at hv
      obtain ⟨i, rfl⟩ := Int.eq_ofNat_of_zero_le hv.1.1
      obtain ⟨j, rfl⟩ := Int.eq_ofNat_of_zero_le hv.2.1
      have i1 : i < s.1.length := by omega
      have j1 : j < s.2.length := by omega
      have hz : (decide (s.1.getD i 0 = 0) || decide (s.2.getD j 0 = 0)) = decide (am s (i, j) = 0) := by
        unfold am
        by_cases z1 : s.1.getD i 0 = 0
        · simp [z1, -List.getD_eq_getElem?_getD]
        · by_cases z2 : s.2.getD j 0 = 0
          · simp [z1, z2, -List.getD_eq_getElem?_getD]
          · have : ¬ min (s.1.getD i 0) (s.2.getD j 0) = 0 := by omega
            simp only [z1, z2, this, decide_false, Bool.or_self]
      have e := due_pair (FP PP (k + 4)) (fp_isi _) st T (fm u (s.1.getD i 0)) (fm u (s.2.getD j 0)) (stD u (go s (i, j))) (fm u (am s (i, j))) (s0.1.map (fm u)) (s0.2.map (fm u)) (s.1.map (fm u)) (s.2.map (fm u)) i j _ _ e1 e2 (at_fm i1) (at_fm j1) (fun _ => eq_z hu.p _) (fun _ => eq_z hu.p _) (fun hh => by
        rw [hz] at hh
        rw [c_law_go]
        exact lawgo_ok k st hu hl (p := (i, j)) (by unfold can; simp at hh; omega))
      rw [hz] at e
      by_cases z : am s (i, j) = 0
      · rw [if_pos (by simp [z])] at e
        refine .inr ⟨?_, e⟩
        unfold prOf
        simp only [Int.toNat_natCast]
        rw [if_neg (by omega)]
      · rw [if_neg (by simp [z])] at e
        refine .inl ⟨(i, j), ?_, e⟩
        unfold prOf
        simp only [Int.toNat_natCast]
        rw [if_pos ⟨⟨by simp [inN]; omega, by simp [inN]; omega⟩, by omega⟩]
theorem due_loop (k : Nat) (st : List MO) {u : Rat} {N : Nat} (hu : Un u N) (s0 : St) (T : Dt) : ∀ (ys : List Dt) (s : St) (x : Sl), Le N s → plL ys = true → s.1.length = s0.1.length → s.2.length = s0.2.length →
    (∃ s' x', rowOf s ys = some s' ∧ s'.1.length = s0.1.length ∧ forL (fun _ => true) (fun s x => bindT (.n 3) x s) (fun s => Mq.execs (FP PP (k + 4)) dueB s) ys ⟨[.v (stD u s0), .v T, .v (stD u s), x, .un], st⟩ = .ok .nx ⟨[.v (stD u s0), .v T, .v (stD u s'), x', .un], st⟩) ∨
    (∃ sl, rowOf s ys = none ∧ forL (fun _ => true) (fun s x => bindT (.n 3) x s) (fun s => Mq.execs (FP PP (k + 4)) dueB s) ys ⟨[.v (stD u s0), .v T, .v (stD u s), x, .un], st⟩ = .ok (.ret (.v FF)) ⟨sl, st⟩)
  | [], s, x, _, _, h1, _ => .inl ⟨s, x, rfl, h1, by rw [forL]⟩
  | y :: r, s, x, hl, hp, h1, h2 => by
    unfold plL at hp
    simp only [Bool.and_eq_true] at hp
    rw [forL, bindT, r_ok]
    rcases due_step k st hu s0 s hl h1 h2 T y hp.1 with ⟨p, hq, e⟩ | ⟨hq, e⟩
    · have hl' : Le N (go s p) := gos_le [p] s hl.1 hl.2
      have ih := due_loop k st hu s0 T r (go s p) (.v y) hl' hp.2 (go_l1.trans h1) (go_l2.trans h2)
      have er : rowOf s (y :: r) = rowOf (go s p) r := by
        show (match prOf s y with | some p => rowOf (go s p) r | none => none) = _
        rw [hq]
      rw [er]
      have step : ∀ o, (forL (fun _ => true) (fun s x => bindT (.n 3) x s) (fun s => Mq.execs (FP PP (k + 4)) dueB s) r ⟨[.v (stD u s0), .v T, .v (stD u (go s p)), .v y, .un], st⟩) = o →
          ((Mq.execs (FP PP (k + 4)) dueB ⟨[.v (stD u s0), .v T, .v (stD u s), .v y, .un], st⟩).bind fun f s => (match f with
      | .nx => if (true : Bool) then forL (fun _ => true) (fun s x => bindT (.n 3) x s) (fun s => Mq.execs (FP PP (k + 4)) dueB s) r s else .no
      | .ct => if (true : Bool) then forL (fun _ => true) (fun s x => bindT (.n 3) x s) (fun s => Mq.execs (FP PP (k + 4)) dueB s) r s else .no
      | .bk => .ok .nx s
      | .ret r => .ok (.ret r) s)) = o := fun o ho => by
        rw [e, r_ok]
        simp only [if_true]
        exact ho
      rcases ih with ⟨s', x', a1, a3, a2⟩ | ⟨sl, a1, a2⟩
      · exact .inl ⟨s', x', a1, a3, step _ a2⟩
      · exact .inr ⟨sl, a1, step _ a2⟩
    · refine .inr ⟨[.v (stD u s0), .v T, .v (stD u s), .v y, .un], by unfold rowOf; rw [hq], ?_⟩
      show ((Mq.execs (FP PP (k + 4)) dueB ⟨[.v (stD u s0), .v T, .v (stD u s), .v y, .un], st⟩).bind _) = _
      rw [e, r_ok]
theorem filt_z (u : Rat) (hu : 0 < u) : ∀ l : List Nat, (((l.map (fm u)).filter fun x => !deq x (.tup [.int 0, .int 1])).length = 0) ↔ l.all (fun n => decide (n = 0)) = true
  | [] => by simp
  | n :: r => by
    have ih := filt_z u hu r
    have hd : deq (fm u n) (.tup [.int 0, .int 1]) = decide (n = 0) := by
      rw [← fm0 u]; unfold fm; rw [deq_fr]; simp only [mu_eq hu]
    rw [List.map_cons, List.filter_cons, hd, List.all_cons]
    by_cases z : n = 0
    · simp [z]
      simpa using ih
    · simp [z]
theorem due_end (L : Fns) (st : List MO) {u : Rat} (hu : 0 < u) (S0 T : Dt) (s : St) (x : Sl) (h1 : s.1.length ≤ 10000) :
    finD (Mq.execs L [.ret (.tup [.cst (.bl true), .cmp .eq (.bif "len" [.lc (.var 4) (.n 4) (.seq true (.idx (.var 2) (.cst (.int 0)))) (some (.cmp .ne (.var 4) (.tup [.cst (.int 0), .cst (.int 1)]))) [4]]) (.cst (.int 0))])] ⟨[.v S0, .v T, .v (stD u s), x, .un], st⟩) = .ok (.v (.tup [.bl true, .bl (qz s)])) st := by
  have s2 : (2 : Nat) ≤ sizeLine := by decide
  have hs : evI L (.seq true (.idx (.var 2) (.cst (.int 0)))) ⟨[.v S0, .v T, .v (stD u s), x, .un], st⟩ = .ok ⟨s.1.map (fm u), .v (.tup (s.1.map (fm u))), s.1.map (fm u)⟩ ⟨[.v S0, .v T, .v (stD u s), x, .un], st⟩ := i_seq (r := .v (.tup (s.1.map (fm u)))) (by simp [stD]) rfl rfl
  have lc := e_lcC (L := L) (el := .var 4) (cd := .cmp .ne (.var 4) (.tup [.cst (.int 0), .cst (.int 1)])) (i := 4) (p := fun x => !deq x (.tup [.int 0, .int 1])) (g := fun x => x) hs (fun _ z => nomatch z) (.inl rfl) (fun y hy => by
    obtain ⟨n, hn, rfl⟩ := List.mem_map.mp hy
    have c : ∀ t : SS, cmpV .ne (.v (fm u n)) (.v (.tup [.int 0, .int 1])) t = some (!deq (fm u n) (.tup [.int 0, .int 1])) := fun t => c_neD rfl rfl rfl rfl
    show ev L _ ⟨[.v S0, .v T, .v (stD u s), x, .v (fm u n)], st⟩ = Out.ok (RV.v (.bl (!deq (fm u n) (.tup [.int 0, .int 1])))) ⟨[.v S0, .v T, .v (stD u s), x, .v (fm u n)], st⟩
    generalize fm u n = F at *
    generalize stD u s = D at *
    simp [s2, c]) (fun y hy _ => by
    show ev L _ ⟨[.v S0, .v T, .v (stD u s), x, .v y], st⟩ = Out.ok (RV.v y) ⟨[.v S0, .v T, .v (stD u s), x, .v y], st⟩
    generalize stD u s = D at *
    simp) (by rw [List.length_map, sizeLine_eq]; omega)
  rw [List.map_id'] at lc
  have fz := filt_z u hu s.1
  generalize ((s.1.map (fm u)).filter fun x => !deq x (.tup [.int 0, .int 1])) = Fl at *
  have hq : decide ((Fl.length : Int) = 0) = qz s := by
    unfold qz
    cases hh : s.1.all (fun n => decide (n = 0)) with
    | true => rw [hh] at fz; have := fz.mpr rfl; simp; exact List.length_eq_zero_iff.mp this
    | false =>
      rw [hh] at fz
      have : ¬ Fl.length = 0 := fun z => by have := fz.mp z; cases this
      simp; intro z; exact this (by rw [z]; rfl)
  rw [x_cons, x_ret, e_tup, e_s1, r_cst, r_ok, r_val, r_ok, e_s1, e_cmp, e_bif1, lc]
  simp [s2, ← hq]
theorem due_any (k : Nat) (st : List MO) {u : Rat} {N : Nat} (hu : Un u N) {s : St} (hl : Le N s) (h1 : s.1.length ≤ 10000) (x : Dt) (hp : pl x = true) :
    runD (FP PP (k + 4)) d_law_due [stD u s, x] st = .ok (.v (.tup [.bl (rowT s x).isSome, .bl (match rowT s x with | some s' => qz s' | none => false)])) st := by
  have s2 : (2 : Nat) ≤ sizeLine := by decide
  by_cases hx : ∃ ys, x = .tup ys
  · obtain ⟨ys, rfl⟩ := hx
    rw [pl_tup] at hp
    have hi := fun t : SS => isi_t (xs := ys) (s := t) (fp_isi (k + 4))
    show _ = Out.ok (RV.v (.tup [.bl (rowOf s ys).isSome, .bl (match rowOf s ys with | some s' => qz s' | none => false)])) st
    unfold runD d_law_due
    have sl0 : slots 5 ([stD u s, Dt.tup ys].map Sl.v) = [.v (stD u s), .v (.tup ys), .un, .un, .un] := rfl
    show finD (Mq.execs _ (_ :: _ :: .forr (.n 3) _ dueB :: [_]) ⟨slots 5 _, st⟩) = _
    rw [sl0]
    have a1 : Mq.exec (FP PP (k + 4)) (.ifs (.not (.isi (.var 1) "tuple")) [.ret (.tup [.cst (.bl false), .cst (.bl false)])] []) ⟨[.v (stD u s), .v (.tup ys), .un, .un, .un], st⟩ = .ok .nx ⟨[.v (stD u s), .v (.tup ys), .un, .un, .un], st⟩ := by
      generalize stD u s = D at *
      simp [hi]
    have a2 : Mq.exec (FP PP (k + 4)) (.asg 2 (.var 0)) ⟨[.v (stD u s), .v (.tup ys), .un, .un, .un], st⟩ = .ok .nx ⟨[.v (stD u s), .v (.tup ys), .v (stD u s), .un, .un], st⟩ := by
      generalize stD u s = D at *
      simp
    have h3 : evI (FP PP (k + 4)) (.seq true (.var 1)) ⟨[.v (stD u s), .v (.tup ys), .v (stD u s), .un, .un], st⟩ = .ok ⟨ys, .v (.tup ys), ys⟩ ⟨[.v (stD u s), .v (.tup ys), .v (stD u s), .un, .un], st⟩ := i_seq (r := .v (.tup ys)) (r_varV rfl) rfl rfl
    rw [x_cons, a1, r_ok, thenS_nx, x_cons, a2, r_ok, thenS_nx, x_cons, x_for, h3, r_ok]
    show finD ((Out.fix (fun s' => s') (forL (fun _ => true) (fun s x => bindT (.n 3) x s) (fun s => Mq.execs (FP PP (k + 4)) dueB s) ys ⟨_, st⟩)).bind _) = _
    rcases due_loop k st hu s (.tup ys) ys s .un hl hp rfl rfl with ⟨s', x', b1, b3, b2⟩ | ⟨sl, b1, b2⟩
    · rw [b2, r_fix, r_ok, thenS_nx, b1]
      exact due_end (FP PP (k + 4)) st hu.p (stD u s) (.tup ys) s' x' (by omega)
    · rw [b2, r_fix, r_ok, thenS_ret, b1]
      rfl
  · have hT : isT x = false := by cases x <;> first | rfl | exact absurd ⟨_, rfl⟩ hx
    have hr : rowT s x = none := by cases x <;> first | rfl | exact absurd ⟨_, rfl⟩ hx
    have a := fun t : SS => isi_tuple (s := t) (fp_isi (k + 4)) hp
    rw [hT] at a
    rw [hr]
    generalize stD u s = D
    unfold runD d_law_due
    simp [slots, a, s2]
end K06

namespace K06
open PySem L2 Mq
theorem at_mem {l : List Dt} {i : Int} (h0 : 0 ≤ i) (h1 : i < l.length) : ∃ c, c ∈ l ∧ atI l i = some c := by
  obtain ⟨k, rfl⟩ := Int.eq_ofNat_of_zero_le h0
  have hk : k < l.length := by omega
  exact ⟨l[k], List.getElem_mem hk, at_n (k := k) (List.getElem?_eq_getElem hk) rfl⟩
def oddL (l : List Dt) : List Dt := [.non, .bl true, .bl false, .str "1", .str "A b", .lst [.str "a"], .dct, .lst [], .dct, .tup [.tup []], .tup [.str "a"], .lst l, .tup [.non], .int (-1), .lst [.int 0], .tup [.bl true]]
theorem oddL_pl (l : List Dt) : ∀ x ∈ oddL l, pl x = true ∧ lenT x ≤ 5 := fun x hx => by
  unfold oddL at hx
  simp only [List.mem_cons, List.not_mem_nil, or_false] at hx
  rcases hx with rfl | rfl | rfl | rfl | rfl | rfl | rfl | rfl | rfl | rfl | rfl | rfl | rfl | rfl | rfl | rfl <;> simp [pl, plL, lenT]
@[simp] theorem e_dct {L : Fns} {o : Option (Str × Str)} {s : SS} : ev L (.dct o) s = .ok (.v .dct) s := by rw [ev]
theorem odd_run (L : Fns) (st st2 : List MO) (H x : Dt) (l : List Dt) (x2 : Sl) (r : Int) (e1 : L.call "_law_draw" [H, .int 16] st = .ok (.v (.int r)) st2) (ex : atI (oddL l) r = some x) :
    finD (Mq.execs L [.asg 3 (.lst [.cst .non, .cst (.bl true), .cst (.bl false), .cst (.str "1"), .cst (.str "A b"), .lst [.cst (.str "a")], .dct (some ("a", "b")), .lst [], .dct none, .tup [.tup []], .tup [.cst (.str "a")], .var 1, .tup [.cst .non], .neg (.cst (.int 1)), .lst [.cst (.int 0)], .tup [.cst (.bl true)]]), .ret (.idx (.var 3) (.call "_law_draw" [.var 0, .bif "len" [.var 3]]))] ⟨[.v H, .ol l, x2, .un], st⟩) = .ok (.v x) st2 := by
  have s0 : (0 : Nat) ≤ sizeLine := by decide
  have s1 : (1 : Nat) ≤ sizeLine := by decide
  have s16 : (16 : Nat) ≤ sizeLine := by decide
  have vb : ∀ (t : SS), t.sl[1]? = some (.ol l) → val (.bw 1) t = .ok (.lst l) (t.set 1 (.v (.lst l))) := fun t h => by
    unfold val; simp only [h]
  have a1 : Mq.exec L (.asg 3 (.lst [.cst .non, .cst (.bl true), .cst (.bl false), .cst (.str "1"), .cst (.str "A b"), .lst [.cst (.str "a")], .dct (some ("a", "b")), .lst [], .dct none, .tup [.tup []], .tup [.cst (.str "a")], .var 1, .tup [.cst .non], .neg (.cst (.int 1)), .lst [.cst (.int 0)], .tup [.cst (.bl true)]])) ⟨[.v H, .ol l, x2, .un], st⟩ = .ok .nx ⟨[.v H, .v (.lst l), x2, .ol (oddL l)], st⟩ := by
    simp [s1, s16, vb, oddL]
  have ol : (oddL l).length = 16 := rfl
  rw [x_cons, a1, r_ok, thenS_nx]
  generalize oddL l = O at *
  have ln : ∀ t : SS, t.sl[3]? = some (.ol O) → bLen (.bw 3) t = some (.v (.int 16)) := fun t h => by rw [len_bw h, ol]; rfl
  simp [ln, e1, idx_bw, ex]
theorem odd_ok (k : Nat) (st : List MO) (n b : Nat) (mo : MO) (hn : n < st.length) (hh : Hand b mo) (hb : b ≤ 1000000) :
    ∃ (x : Dt) (mo' : MO), (FP PP (k + 2)).call "_law_odd" [.ref n] (st.set n mo) = .ok (.v x) (st.set n mo') ∧ Hand (b + 1) mo' ∧ pl x = true ∧ lenT x ≤ 5 := by
  obtain ⟨r, m1, e1, hh1, r0, r1⟩ := dr k st n b mo 16 hn hh hb (by omega) (.of40 (by omega))
  have s1 : (1 : Nat) ≤ sizeLine := by decide
  have hl : (rngI 0 18).length = 18 := rfl
  obtain ⟨t', ef, l, x2, rfl⟩ := for_inv (ck := fun _ => true) (tg := fun s x => bindT (.n 2) x s) (b := fun s => Mq.execs (FP PP (k + 1)) [.asg 1 (.lst [.var 1])] s) (fun _ s => ∃ (l : List Dt) (x2 : Sl), s = ⟨[.v (.ref n), .ol l, x2, .un], st.set n mo⟩) (rngI 0 18) 0 ⟨[.v (.ref n), .ol [.non], .un, .un], st.set n mo⟩ ⟨_, _, rfl⟩ fun j x s _ hx hp => by
    obtain ⟨l, x2, rfl⟩ := hp
    have vb : ∀ (t : SS), t.sl[1]? = some (.ol l) → val (.bw 1) t = .ok (.lst l) (t.set 1 (.v (.lst l))) := fun t h => by
      unfold val; simp only [h]
    refine ⟨_, ⟨[.v (.ref n), .ol [.lst l], .v x, .un], st.set n mo⟩, by rw [bindT], .inl ?_, rfl, [.lst l], .v x, rfl⟩
    simp [vb, s1]
  obtain ⟨x, hx, ex⟩ := at_mem (l := oddL l) r0 (by exact r1)
  refine ⟨x, m1, ?_, hh1, oddL_pl l x hx⟩
  rw [c_law_odd]
  unfold runD d_law_odd
  have sl0 : slots 4 ([Dt.ref n].map Sl.v) = [.v (.ref n), .un, .un, .un] := rfl
  show finD (Mq.execs _ (_ :: .forr (.n 2) _ [.asg 1 (.lst [.var 1])] :: _) ⟨slots 4 _, _⟩) = _
  rw [sl0]
  have a1 : Mq.exec (FP PP (k + 1)) (.asg 1 (.lst [.cst .non])) ⟨[.v (.ref n), .un, .un, .un], st.set n mo⟩ = .ok .nx ⟨[.v (.ref n), .ol [.non], .un, .un], st.set n mo⟩ := by simp [s1]
  have h3 : evI (FP PP (k + 1)) (.rng [.cst (.int 18)]) ⟨[.v (.ref n), .ol [.non], .un, .un], st.set n mo⟩ = .ok ⟨rngI 0 18, .v .non, []⟩ ⟨[.v (.ref n), .ol [.non], .un, .un], st.set n mo⟩ := i_rng (by simp) (by simp [rngOk])
  rw [x_cons, a1, r_ok, thenS_nx, x_cons, x_for, h3, r_ok]
  show finD ((Out.fix (fun s' => s') (forL (fun _ => true) (fun s x => bindT (.n 2) x s) (fun s => Mq.execs (FP PP (k + 1)) [.asg 1 (.lst [.var 1])] s) (rngI 0 18) ⟨_, st.set n mo⟩)).bind _) = _
  rw [ef, r_fix, r_ok, thenS_nx]
  exact odd_run (FP PP (k + 1)) _ _ _ x l x2 r e1 ex
/-! ### a row spoiled -/
def W (xs : List Dt) : Prop := plL xs = true ∧ xs.length ≤ 1000
theorem plL_app {a b : List Dt} (ha : plL a = true) (hb : plL b = true) : plL (a ++ b) = true := plL_of fun x hx => by
  rcases List.mem_append.mp hx with h | h
  · exact plL_mem ha x h
  · exact plL_mem hb x h
theorem plL_cut {xs : List Dt} (h : plL xs = true) (lo hi : Option Int) : plL (cutD xs lo hi) = true := plL_of fun x hx => plL_mem h x (List.mem_of_mem_drop (List.mem_of_mem_take hx))
theorem cut_len (xs : List Dt) (lo hi : Option Int) : (cutD xs lo hi).length ≤ xs.length := by
  unfold cutD
  rw [List.length_take, List.length_drop]
  omega
theorem slc_t {xs : List Dt} {lo hi : Option Int} {s : SS} : slcV (.v (.tup xs)) lo hi s = some (.v (.tup (cutD xs lo hi))) := rfl
theorem spo_run (L : Fns) (st st1 st2 st3 st4 st5 st6 st7 : List MO) (H O1 O2 x Bad : Dt) (A0 B0 R : List Dt) (at' q1 q2 i11 i10 : Int) (hR : R.length ≤ 1000) (e1 : L.call "_law_draw" [H, .int ((R.length : Int) + 1)] st = .ok (.v (.int at')) st1) (e2 : L.call "_law_draw" [H, .int A0.length] st1 = .ok (.v (.int q1)) st2) (e3 : L.call "_law_draw" [H, .int B0.length] st2 = .ok (.v (.int q2)) st3)
    (e4 : L.call "_law_odd" [H] st3 = .ok (.v O1) st4) (e5 : L.call "_law_draw" [H, .int 11] st4 = .ok (.v (.int i11)) st5) (e6 : L.call "_law_odd" [H] st5 = .ok (.v O2) st6) (e7 : L.call "_law_draw" [H, .int 10] st6 = .ok (.v (.int i10)) st7)
    (hb : atI [.tup [.int A0.length, .int 0], .tup [.int 0, .int B0.length], .tup [.int 0, .int (-1)], .tup [.bl true, .int 0], .tup [.int 0, .bl false], .lst [.int 0, .int 0], .tup [.int 0], .tup [.int 0, .int 0, .int 0], .non, .int 0, O1] i11 = some Bad)
    (hx : atI [.tup (cutD R none (some at') ++ cutD R (some (at' + 1)) none), .tup (cutD R none (some at') ++ [.tup [.int q1, .int q2]] ++ cutD R (some at') none), .tup (cutD R none (some at') ++ cutD R (some at') (some (at' + 1)) ++ cutD R (some at') none), .tup (cutD R none (some at') ++ [.tup [.int q1, .int q2]] ++ cutD R (some (at' + 1)) none),
      .tup (cutD R none (some at') ++ cutD R (some (at' + 1)) (some (at' + 2)) ++ cutD R (some at') (some (at' + 1)) ++ cutD R (some (at' + 2)) none), .tup (cutD R none (some at') ++ [Bad] ++ cutD R (some (at' + 1)) none), .lst R, .tup (cutD R none (some at')), .non, O2] i10 = some x) :
    runD L d_law_spoiled [H, .tup [.tup A0, .tup B0], .tup R] st = .ok (.v x) st7 := by
  have s1 : (1 : Nat) ≤ sizeLine := by decide
  have s2 : (2 : Nat) ≤ sizeLine := by decide
  have s3 : (3 : Nat) ≤ sizeLine := by decide
  have s4 : (4 : Nat) ≤ sizeLine := by decide
  have s11 : (11 : Nat) ≤ sizeLine := by decide
  have c1 := cut_len R none (some at')
  have c2 := cut_len R (some (at' + 1)) none
  have c3 := cut_len R (some at') none
  have c4 := cut_len R (some at') (some (at' + 1))
  have c5 := cut_len R (some (at' + 1)) (some (at' + 2))
  have c6 := cut_len R (some (at' + 2)) none
  have k1 : ∀ s : SS, slcV (.v (.tup R)) none (some at') s = some (.v (.tup (cutD R none (some at')))) := fun _ => rfl
  have k2 : ∀ s : SS, slcV (.v (.tup R)) (some (at' + 1)) none s = some (.v (.tup (cutD R (some (at' + 1)) none))) := fun _ => rfl
  have k3 : ∀ s : SS, slcV (.v (.tup R)) (some at') none s = some (.v (.tup (cutD R (some at') none))) := fun _ => rfl
  have k4 : ∀ s : SS, slcV (.v (.tup R)) (some at') (some (at' + 1)) s = some (.v (.tup (cutD R (some at') (some (at' + 1))))) := fun _ => rfl
  have k5 : ∀ s : SS, slcV (.v (.tup R)) (some (at' + 1)) (some (at' + 2)) s = some (.v (.tup (cutD R (some (at' + 1)) (some (at' + 2))))) := fun _ => rfl
  have k6 : ∀ s : SS, slcV (.v (.tup R)) (some (at' + 2)) none s = some (.v (.tup (cutD R (some (at' + 2)) none))) := fun _ => rfl
  generalize cutD R none (some at') = P1 at *
  generalize cutD R (some (at' + 1)) none = P2 at *
  generalize cutD R (some at') none = P3 at *
  generalize cutD R (some at') (some (at' + 1)) = P4 at *
  generalize cutD R (some (at' + 1)) (some (at' + 2)) = P5 at *
  generalize cutD R (some (at' + 2)) none = P6 at *
  have ad : ∀ (X Y : List Dt) (s : SS), X.length + Y.length ≤ 10000 → binV .add (.v (.tup X)) (.v (.tup Y)) s = some (.v (.tup (X ++ Y))) := fun X Y s h => add_tt (by rw [sizeLine_eq]; omega)
  have d1 := fun s => ad P1 P2 s (by omega)
  have d2 := fun s => ad P1 [.tup [.int q1, .int q2]] s (by simp; omega)
  have d3 := fun s => ad (P1 ++ [.tup [.int q1, .int q2]]) P3 s (by simp; omega)
  have d4 := fun s => ad P1 P4 s (by omega)
  have d5 := fun s => ad (P1 ++ P4) P3 s (by simp; omega)
  have d6 := fun s => ad (P1 ++ [.tup [.int q1, .int q2]]) P2 s (by simp; omega)
  have d7 := fun s => ad P1 P5 s (by omega)
  have d8 := fun s => ad (P1 ++ P5) P4 s (by simp; omega)
  have d9 := fun s => ad (P1 ++ P5 ++ P4) P6 s (by simp; omega)
  have d10 := fun s => ad P1 [Bad] s (by simp; omega)
  have d11 := fun s => ad (P1 ++ [Bad]) P2 s (by simp; omega)
  generalize hE1 : P1 ++ P2 = E1 at *
  generalize hE2 : P1 ++ [.tup [.int q1, .int q2]] = E2 at *
  generalize hE3 : E2 ++ P3 = E3 at *
  generalize hE4 : P1 ++ P4 = E4 at *
  generalize hE5 : E4 ++ P3 = E5 at *
  generalize hE6 : E2 ++ P2 = E6 at *
  generalize hE7 : P1 ++ P5 = E7 at *
  generalize hE8 : E7 ++ P4 = E8 at *
  generalize hE9 : E8 ++ P6 = E9 at *
  generalize hE10 : P1 ++ [Bad] = E10 at *
  generalize hE11 : E10 ++ P2 = E11 at *
  have app : ∀ (acc : List Dt) (d : Dt), acc.length ≤ 100 → mthF "append" d acc = some (acc ++ [d], .non) := fun acc d h => by
    show (if acc.length < sizeLine then some (acc ++ [d], Dt.non) else none) = _
    rw [if_pos (by rw [sizeLine_eq]; omega)]
  have rd : ∀ (acc : List Dt) (t : SS), t.sl[6]? = some (.ol acc) → rdt t (.bw 6) = some acc := fun acc t h => by
    unfold rdt
    simp only [h]
  have push : ∀ (e : ME) (acc : List Dt) (d : Dt) (l l' : List Sl) (t t' : List MO), acc.length ≤ 100 → l[6]? = some (.ol acc) → l'[6]? = some (.ol acc) → ev L e ⟨l, t⟩ = .ok (.v d) ⟨l', t'⟩ → Mq.exec L (.expr (.bme (.var 6) "append" [e])) ⟨l, t⟩ = .ok .nx ⟨l'.set 6 (.ol (acc ++ [d])), t'⟩ := fun e acc d l l' t t' ha h6 h6' he => by
    rw [x_expr, e_bme, r_varO h6, r_ok, bmeF_y (rd acc _ h6), he]
    simp [h6', app acc d ha]
  let odl : List Dt := [.tup [.int A0.length, .int 0], .tup [.int 0, .int B0.length], .tup [.int 0, .int (-1)], .tup [.bl true, .int 0], .tup [.int 0, .bl false], .lst [.int 0, .int 0], .tup [.int 0], .tup [.int 0, .int 0, .int 0], .non, .int 0, O1]
  unfold runD d_law_spoiled
  have sl0 : slots 7 ([H, Dt.tup [.tup A0, .tup B0], Dt.tup R].map Sl.v) = [.v H, .v (.tup [.tup A0, .tup B0]), .v (.tup R), .un, .un, .un, .un] := rfl
  show finD (Mq.execs _ [_, _, _, _, _, _, _, _, _] ⟨slots 7 _, _⟩) = _
  rw [sl0]
  have a1 : Mq.exec L (.asg 3 (.call "_law_draw" [.var 0, .bin .add (.bif "len" [.var 2]) (.cst (.int 1))])) ⟨[.v H, .v (.tup [.tup A0, .tup B0]), .v (.tup R), .un, .un, .un, .un], st⟩ = .ok .nx ⟨[.v H, .v (.tup [.tup A0, .tup B0]), .v (.tup R), .v (.int at'), .un, .un, .un], st1⟩ := by simp [e1]
  have a2 : Mq.exec L (.asg 4 (.tup [.call "_law_draw" [.var 0, .bif "len" [.idx (.var 1) (.cst (.int 0))]], .call "_law_draw" [.var 0, .bif "len" [.idx (.var 1) (.cst (.int 1))]]])) ⟨[.v H, .v (.tup [.tup A0, .tup B0]), .v (.tup R), .v (.int at'), .un, .un, .un], st1⟩ = .ok .nx ⟨[.v H, .v (.tup [.tup A0, .tup B0]), .v (.tup R), .v (.int at'), .v (.tup [.int q1, .int q2]), .un, .un], st3⟩ := by simp [e2, e3, s2]
  have a3 : Mq.exec L (.asg 5 (.lst [.tup [.bif "len" [.idx (.var 1) (.cst (.int 0))], .cst (.int 0)], .tup [.cst (.int 0), .bif "len" [.idx (.var 1) (.cst (.int 1))]], .tup [.cst (.int 0), .neg (.cst (.int 1))], .tup [.cst (.bl true), .cst (.int 0)], .tup [.cst (.int 0), .cst (.bl false)], .lst [.cst (.int 0), .cst (.int 0)], .tup [.cst (.int 0)], .tup [.cst (.int 0), .cst (.int 0), .cst (.int 0)], .cst .non, .cst (.int 0), .call "_law_odd" [.var 0]])) ⟨[.v H, .v (.tup [.tup A0, .tup B0]), .v (.tup R), .v (.int at'), .v (.tup [.int q1, .int q2]), .un, .un], st3⟩ = .ok .nx ⟨[.v H, .v (.tup [.tup A0, .tup B0]), .v (.tup R), .v (.int at'), .v (.tup [.int q1, .int q2]), .ol odl, .un], st4⟩ := by simp [e4, s1, s2, s3, s11, odl]
  have a4 : Mq.exec L (.asg 6 (.lst [.bin .add (.slc (.var 2) none (some (.var 3))) (.slc (.var 2) (some (.bin .add (.var 3) (.cst (.int 1)))) none), .bin .add (.bin .add (.slc (.var 2) none (some (.var 3))) (.tup [.var 4])) (.slc (.var 2) (some (.var 3)) none)])) ⟨[.v H, .v (.tup [.tup A0, .tup B0]), .v (.tup R), .v (.int at'), .v (.tup [.int q1, .int q2]), .ol odl, .un], st4⟩ = .ok .nx ⟨[.v H, .v (.tup [.tup A0, .tup B0]), .v (.tup R), .v (.int at'), .v (.tup [.int q1, .int q2]), .ol odl, .ol [.tup E1, .tup E3]], st4⟩ := by
    simp [k1, k2, k3, d1, d2, d3, s1, s2]
  have hbo : ∀ t : SS, t.sl[5]? = some (.ol odl) → idxV (.bw 5) (.v (.int i11)) t = some (.v Bad) := fun t h => by rw [idx_bw h]; show (atI odl i11).map RV.v = _; rw [show atI odl i11 = some Bad from hb]; rfl
  generalize odl = OD at *
  have a5 := push (.bin .add (.bin .add (.slc (.var 2) none (some (.var 3))) (.slc (.var 2) (some (.var 3)) (some (.bin .add (.var 3) (.cst (.int 1)))))) (.slc (.var 2) (some (.var 3)) none)) [.tup E1, .tup E3] (.tup E5) [.v H, .v (.tup [.tup A0, .tup B0]), .v (.tup R), .v (.int at'), .v (.tup [.int q1, .int q2]), .ol OD, .ol [.tup E1, .tup E3]] [.v H, .v (.tup [.tup A0, .tup B0]), .v (.tup R), .v (.int at'), .v (.tup [.int q1, .int q2]), .ol OD, .ol [.tup E1, .tup E3]] st4 st4 (by simp) rfl rfl (by simp [k1, k4, k3, d4, d5])
  have a6 := push (.bin .add (.bin .add (.slc (.var 2) none (some (.var 3))) (.tup [.var 4])) (.slc (.var 2) (some (.bin .add (.var 3) (.cst (.int 1)))) none)) [.tup E1, .tup E3, .tup E5] (.tup E6) [.v H, .v (.tup [.tup A0, .tup B0]), .v (.tup R), .v (.int at'), .v (.tup [.int q1, .int q2]), .ol OD, .ol [.tup E1, .tup E3, .tup E5]] [.v H, .v (.tup [.tup A0, .tup B0]), .v (.tup R), .v (.int at'), .v (.tup [.int q1, .int q2]), .ol OD, .ol [.tup E1, .tup E3, .tup E5]] st4 st4 (by simp) rfl rfl (by simp [k1, k2, d2, d6, s1])
  have a7 := push (.bin .add (.bin .add (.bin .add (.slc (.var 2) none (some (.var 3))) (.slc (.var 2) (some (.bin .add (.var 3) (.cst (.int 1)))) (some (.bin .add (.var 3) (.cst (.int 2)))))) (.slc (.var 2) (some (.var 3)) (some (.bin .add (.var 3) (.cst (.int 1)))))) (.slc (.var 2) (some (.bin .add (.var 3) (.cst (.int 2)))) none)) [.tup E1, .tup E3, .tup E5, .tup E6] (.tup E9) [.v H, .v (.tup [.tup A0, .tup B0]), .v (.tup R), .v (.int at'), .v (.tup [.int q1, .int q2]), .ol OD, .ol [.tup E1, .tup E3, .tup E5, .tup E6]] [.v H, .v (.tup [.tup A0, .tup B0]), .v (.tup R), .v (.int at'), .v (.tup [.int q1, .int q2]), .ol OD, .ol [.tup E1, .tup E3, .tup E5, .tup E6]] st4 st4 (by simp) rfl rfl (by simp [k1, k5, k4, k6, d7, d8, d9])
  have a8 := push (.bin .add (.bin .add (.slc (.var 2) none (some (.var 3))) (.tup [.idx (.var 5) (.call "_law_draw" [.var 0, .cst (.int 11)])])) (.slc (.var 2) (some (.bin .add (.var 3) (.cst (.int 1)))) none)) [.tup E1, .tup E3, .tup E5, .tup E6, .tup E9] (.tup E11) [.v H, .v (.tup [.tup A0, .tup B0]), .v (.tup R), .v (.int at'), .v (.tup [.int q1, .int q2]), .ol OD, .ol [.tup E1, .tup E3, .tup E5, .tup E6, .tup E9]] [.v H, .v (.tup [.tup A0, .tup B0]), .v (.tup R), .v (.int at'), .v (.tup [.int q1, .int q2]), .ol OD, .ol [.tup E1, .tup E3, .tup E5, .tup E6, .tup E9]] st4 st5 (by simp) rfl rfl (by simp [k1, k2, e5, hbo, d10, d11, s1])
  have ab : ∀ (t : SS), t.sl[6]? = some (.ol [.tup E1, .tup E3, .tup E5, .tup E6, .tup E9, .tup E11]) → binV .add (.bw 6) (.nl [.lst R, .tup P1, .non, O2]) t = some (.nl [.tup E1, .tup E3, .tup E5, .tup E6, .tup E9, .tup E11, .lst R, .tup P1, .non, O2]) := fun t h => by
    rw [add_bn h (by rw [sizeLine_eq]; simp)]; rfl
  rw [x_cons, a1, r_ok, thenS_nx, x_cons, a2, r_ok, thenS_nx, x_cons, a3, r_ok, thenS_nx, x_cons, a4, r_ok, thenS_nx, x_cons, a5, r_ok, thenS_nx]
  show finD (Mq.execs L _ ⟨[.v H, .v (.tup [.tup A0, .tup B0]), .v (.tup R), .v (.int at'), .v (.tup [.int q1, .int q2]), .ol OD, .ol [.tup E1, .tup E3, .tup E5]], st4⟩) = _
  rw [x_cons, a6, r_ok, thenS_nx]
  show finD (Mq.execs L _ ⟨[.v H, .v (.tup [.tup A0, .tup B0]), .v (.tup R), .v (.int at'), .v (.tup [.int q1, .int q2]), .ol OD, .ol [.tup E1, .tup E3, .tup E5, .tup E6]], st4⟩) = _
  rw [x_cons, a7, r_ok, thenS_nx]
  show finD (Mq.execs L _ ⟨[.v H, .v (.tup [.tup A0, .tup B0]), .v (.tup R), .v (.int at'), .v (.tup [.int q1, .int q2]), .ol OD, .ol [.tup E1, .tup E3, .tup E5, .tup E6, .tup E9]], st4⟩) = _
  rw [x_cons, a8, r_ok, thenS_nx]
  show finD (Mq.execs L _ ⟨[.v H, .v (.tup [.tup A0, .tup B0]), .v (.tup R), .v (.int at'), .v (.tup [.int q1, .int q2]), .ol OD, .ol [.tup E1, .tup E3, .tup E5, .tup E6, .tup E9, .tup E11]], st5⟩) = _
  have rt : ∀ (s : SS), rds s (.v (.tup R)) = some R := fun _ => rfl
  simp [rt, k1, e6, s4, ab, e7, hx]
end K06

namespace K06
open PySem L2 Mq
theorem pl_pr (p : Nat × Nat) : pl (prD p) = true := by unfold prD; simp [pl, plL]
theorem pl_row (ps : List (Nat × Nat)) : plL (ps.map prD) = true := plL_of fun x hx => by
  obtain ⟨p, _, rfl⟩ := List.mem_map.mp hx
  exact pl_pr p
theorem spo_ok (k : Nat) (st : List MO) (n b : Nat) (mo : MO) (hn : n < st.length) (hh : Hand b mo) (hb : b + 100 ≤ 1000000) (u : Rat) (s : St) (h1 : 1 ≤ s.1.length) (h2 : s.1.length ≤ 100) (h3 : 1 ≤ s.2.length) (h4 : s.2.length ≤ 100) (ps : List (Nat × Nat)) (hz : ps.length ≤ 1000) :
    ∃ (x : Dt) (mo' : MO), (FP PP (k + 3)).call "_law_spoiled" [.ref n, stD u s, .tup (ps.map prD)] (st.set n mo) = .ok (.v x) (st.set n mo') ∧ Hand (b + 7) mo' ∧ pl x = true ∧ lenT x ≤ 10000 := by
  obtain ⟨r1, m1, e1, hh1, p1, q1⟩ := dr (k + 1) st n b mo ((ps.length : Int) + 1) hn hh (by omega) (by omega) (.of40 (by omega))
  obtain ⟨r2, m2, e2, hh2, p2, q2⟩ := dr (k + 1) st n (b + 1) m1 s.1.length hn hh1 (by omega) (by omega) (.of40 (by omega))
  obtain ⟨r3, m3, e3, hh3, p3, q3⟩ := dr (k + 1) st n (b + 2) m2 s.2.length hn hh2 (by omega) (by omega) (.of40 (by omega))
  obtain ⟨O1, m4, e4, hh4, pO1, zO1⟩ := odd_ok k st n (b + 3) m3 hn hh3 (by omega)
  obtain ⟨r5, m5, e5, hh5, p5, q5⟩ := dr (k + 1) st n (b + 4) m4 11 hn hh4 (by omega) (by omega) (.of40 (by omega))
  obtain ⟨O2, m6, e6, hh6, pO2, zO2⟩ := odd_ok k st n (b + 5) m5 hn hh5 (by omega)
  obtain ⟨r7, m7, e7, hh7, p7, q7⟩ := dr (k + 1) st n (b + 6) m6 10 hn hh6 (by omega) (by omega) (.of40 (by omega))
  have lA : (s.1.map (fm u)).length = s.1.length := List.length_map ..
  have lB : (s.2.map (fm u)).length = s.2.length := List.length_map ..
  have lR : (ps.map prD).length = ps.length := List.length_map ..
  have hR := pl_row ps
  obtain ⟨Bad, hBm, hBe⟩ := at_mem (l := [.tup [.int (s.1.map (fm u)).length, .int 0], .tup [.int 0, .int (s.2.map (fm u)).length], .tup [.int 0, .int (-1)], .tup [.bl true, .int 0], .tup [.int 0, .bl false], .lst [.int 0, .int 0], .tup [.int 0], .tup [.int 0, .int 0, .int 0], .non, .int 0, O1]) p5 (by exact q5)
  have pBad : pl Bad = true := by
    simp only [List.mem_cons, List.not_mem_nil, or_false] at hBm
    rcases hBm with rfl | rfl | rfl | rfl | rfl | rfl | rfl | rfl | rfl | rfl | rfl <;> first | exact pO1 | simp [pl, plL]
  have pq : plL [.tup [.int r2, .int r3]] = true := by simp [pl, plL]
  have pB : plL [Bad] = true := by simp [plL, pBad]
  have cu := fun lo hi => plL_cut hR lo hi
  have cl := fun lo hi => (cut_len (ps.map prD) lo hi)
  rw [lR] at cl
  obtain ⟨x, hxm, hxe⟩ := at_mem (l := [.tup (cutD (ps.map prD) none (some r1) ++ cutD (ps.map prD) (some (r1 + 1)) none), .tup (cutD (ps.map prD) none (some r1) ++ [.tup [.int r2, .int r3]] ++ cutD (ps.map prD) (some r1) none), .tup (cutD (ps.map prD) none (some r1) ++ cutD (ps.map prD) (some r1) (some (r1 + 1)) ++ cutD (ps.map prD) (some r1) none), .tup (cutD (ps.map prD) none (some r1) ++ [.tup [.int r2, .int r3]] ++ cutD (ps.map prD) (some (r1 + 1)) none),
      .tup (cutD (ps.map prD) none (some r1) ++ cutD (ps.map prD) (some (r1 + 1)) (some (r1 + 2)) ++ cutD (ps.map prD) (some r1) (some (r1 + 1)) ++ cutD (ps.map prD) (some (r1 + 2)) none), .tup (cutD (ps.map prD) none (some r1) ++ [Bad] ++ cutD (ps.map prD) (some (r1 + 1)) none), .lst (ps.map prD), .tup (cutD (ps.map prD) none (some r1)), .non, O2]) p7 (by exact q7)
  have px : pl x = true ∧ lenT x ≤ 10000 := by
    have c1 := cl none (some r1)
    have c2 := cl (some (r1 + 1)) none
    have c3 := cl (some r1) none
    have c4 := cl (some r1) (some (r1 + 1))
    have c5 := cl (some (r1 + 1)) (some (r1 + 2))
    have c6 := cl (some (r1 + 2)) none
    simp only [List.mem_cons, List.not_mem_nil, or_false] at hxm
    rcases hxm with rfl | rfl | rfl | rfl | rfl | rfl | rfl | rfl | rfl | rfl
    · exact ⟨by rw [pl_tup]; exact plL_app (cu _ _) (cu _ _), by unfold lenT; simp only [List.length_append]; omega⟩
    · exact ⟨by rw [pl_tup]; exact plL_app (plL_app (cu _ _) pq) (cu _ _), by unfold lenT; simp only [List.length_append, List.length_singleton]; omega⟩
    · exact ⟨by rw [pl_tup]; exact plL_app (plL_app (cu _ _) (cu _ _)) (cu _ _), by unfold lenT; simp only [List.length_append]; omega⟩
    · exact ⟨by rw [pl_tup]; exact plL_app (plL_app (cu _ _) pq) (cu _ _), by unfold lenT; simp only [List.length_append, List.length_singleton]; omega⟩
    · exact ⟨by rw [pl_tup]; exact plL_app (plL_app (plL_app (cu _ _) (cu _ _)) (cu _ _)) (cu _ _), by unfold lenT; simp only [List.length_append]; omega⟩
    · exact ⟨by rw [pl_tup]; exact plL_app (plL_app (cu _ _) pB) (cu _ _), by unfold lenT; simp only [List.length_append, List.length_singleton]; omega⟩
    · exact ⟨by unfold pl; rfl, show (0 : Nat) ≤ 10000 by decide⟩
    · exact ⟨by rw [pl_tup]; exact cu _ _, by unfold lenT; simp only; omega⟩
    · exact ⟨by unfold pl; rfl, show (0 : Nat) ≤ 10000 by decide⟩
    · exact ⟨pO2, by omega⟩
  refine ⟨x, m7, ?_, hh7, px⟩
  rw [c_law_spoiled]
  exact spo_run (FP PP (k + 2)) _ _ _ _ _ _ _ _ (.ref n) O1 O2 x Bad (s.1.map (fm u)) (s.2.map (fm u)) (ps.map prD) r1 r2 r3 r5 r7 (by omega) (by rw [lR]; exact e1) (by rw [lA]; exact e2) (by rw [lB]; exact e3) e4 e5 e6 e7 hBe hxe
/-! ### right rows -/
theorem prOf_can {s : St} {p : Nat × Nat} (h : can s p) : prOf s (prD p) = some p := by
  have c1 := can_1 h
  have c2 := can_2 h
  unfold prOf prD
  simp only [Int.toNat_natCast]
  rw [if_pos ⟨⟨by simp [inN]; omega, by simp [inN]; omega⟩, h⟩]
theorem rowOf_row : ∀ (ps : List (Nat × Nat)) (s : St), Row s ps → rowOf s (ps.map prD) = some (gos s ps)
  | [], s, _ => rfl
  | p :: r, s, h => by
    show (match prOf s (prD p) with | some p => rowOf (go s p) (r.map prD) | none => none) = _
    rw [prOf_can h.1]
    exact rowOf_row r (go s p) h.2
theorem rowOf_len : ∀ (ys : List Dt) (s s' : St), rowOf s ys = some s' → s'.1.length = s.1.length
  | [], s, s', h => by cases h; rfl
  | y :: r, s, s', h => by
    have h : (match prOf s y with | some p => rowOf (go s p) r | none => none) = some s' := h
    cases hq : prOf s y with
    | none => rw [hq] at h; cases h
    | some p =>
      rw [hq] at h
      exact (rowOf_len r (go s p) s' h).trans go_l1
theorem rowT_len {s s' : St} {x : Dt} (h : rowT s x = some s') : s'.1.length = s.1.length := by
  unfold rowT at h
  split at h
  · exact rowOf_len _ _ _ h
  · cases h
theorem qz_quits {s : St} (h : Quits s) : qz s = true := by
  unfold qz
  rw [h.1]
  simp
theorem made_run (L : Fns) (st : List MO) (X Y E : Dt) (e : L.make "Evening" [X, Y] st = .ok (.v E) st) : runD L d_law_made [.tup [X, Y]] st = .ok (.v E) st := by
  unfold runD d_law_made
  simp [slots, e]
theorem way_run (L : Fns) (st st' : List MO) (H R : Dt) (X Y : List Dt) (e : L.call "_law_row" [H, .tup [.tup X, .tup Y], .int ((X.length : Int) + Y.length)] st = .ok (.v R) st') : runD L d_law_way [H, .tup [.tup X, .tup Y]] st = .ok (.v R) st' := by
  unfold runD d_law_way
  simp [slots, e]
/-! ### the turns -/
def inB : List MS := [.asg 7 (.idx (.lst [.var 5, .idx (.call "_law_row" [.var 1, .var 3, .call "_law_draw" [.var 1, .cst (.int 8)]]) (.cst (.int 0))]) (.call "_law_draw" [.var 1, .cst (.int 2)])), .asg 8 (.call "_law_spoiled" [.var 1, .var 3, .var 7]), .asg 9 (.tup [.call "is_row" [.var 4, .var 8], .call "is_way" [.var 4, .var 8]]), .ifs (.bool false [.cmp .ne (.var 9) (.call "_law_due" [.var 3, .var 8]), .not (.isi (.idx (.var 9) (.cst (.int 0))) "bool"), .not (.isi (.idx (.var 9) (.cst (.int 1))) "bool")]) [.ret (.cst (.bl false))] []]
theorem in_run (L : Fns) (hL : L.isi = isiOf isiT) (T H S E Wy R2 X2 Y2 Rw x : Dt) (v1 v2 : Bool) (r i : Int) (x2 x6 s7 s8 s9 : Sl) (st st1 st2 st3 st4 st5 st6 : List MO) (c1 : L.call "_law_draw" [H, .int 8] st = .ok (.v (.int r)) st1) (c2 : L.call "_law_row" [H, S, .int r] st1 = .ok (.v (.tup [R2, X2, Y2])) st2) (c3 : L.call "_law_draw" [H, .int 2] st2 = .ok (.v (.int i)) st3)
    (hi : atI [Wy, R2] i = some Rw) (c4 : L.call "_law_spoiled" [H, S, Rw] st3 = .ok (.v x) st4) (c5 : L.call "is_row" [E, x] st4 = .ok (.v (.bl v1)) st5) (c6 : L.call "is_way" [E, x] st5 = .ok (.v (.bl v2)) st6) (c7 : L.call "_law_due" [S, x] st6 = .ok (.v (.tup [.bl v1, .bl v2])) st6) :
    Mq.execs L inB ⟨[.v T, .v H, x2, .v S, .v E, .v Wy, x6, s7, s8, s9], st⟩ = .ok .nx ⟨[.v T, .v H, x2, .v S, .v E, .v Wy, x6, .v Rw, .v x, .v (.tup [.bl v1, .bl v2])], st6⟩ := by
  have s2 : (2 : Nat) ≤ sizeLine := by decide
  have b := fun (v : Bool) (s : SS) => isi_bool (x := .bl v) (s := s) hL (by unfold pl; rfl)
  have b' : ∀ (v : Bool) (s : SS), isiF L "bool" (.v (.bl v)) s = .ok (.v (.bl true)) s := b
  have ns : ∀ s : SS, cmpV .ne (.v (.tup [.bl v1, .bl v2])) (.v (.tup [.bl v1, .bl v2])) s = some false := fun s => ne_self rfl
  unfold inB
  simp [c1, c2, c3, hi, c4, c5, c6, c7, s2, ns, b']
def inP (T : Dt) (x2 : Sl) (S E Wy : Dt) (b : Nat) (j : Nat) (t : SS) : Prop := ∃ (mo : MO) (st : List MO) (x6 s7 s8 s9 : Sl), t = ⟨[.v T, .v (.ref 0), x2, .v S, .v E, .v Wy, x6, s7, s8, s9], mo :: st⟩ ∧ Hand (b + j * 20) mo
theorem in_body (k : Nat) (T : Dt) (x2 x : Sl) {u : Rat} {N : Nat} (hu : Un u N) {s : St} (hl : Le N s) (h1 : 1 ≤ s.1.length) (h2 : s.1.length ≤ 100) (h3 : 1 ≤ s.2.length) (h4 : s.2.length ≤ 100) (ws : List (Nat × Nat)) (hws : ws.length ≤ 300) (b : Nat) (hb : b + 2000 ≤ 1000000) (j : Nat) (hj : j < 8) (t : SS) (h : inP T x2 (stD u s) (evS u s) (.tup (ws.map prD)) b j t) :
    ∃ t2, Mq.execs (FP PP (k + 6)) inB (t.set 6 x) = .ok .nx t2 ∧ inP T x2 (stD u s) (evS u s) (.tup (ws.map prD)) b (j + 1) t2 := by
  obtain ⟨mo, st, x6, s7, s8, s9, rfl, hh⟩ := h
  have hn : ∀ m : MO, 0 < (m :: st).length := fun m => Nat.zero_lt_succ _
  obtain ⟨r, m1, e1, hh1, p1, q1⟩ := dr (k + 5) (mo :: st) 0 (b + j * 20) mo 8 (hn _) hh (by omega) (by omega) (.of40 (by omega))
  obtain ⟨r, rfl⟩ := Int.eq_ofNat_of_zero_le p1
  obtain ⟨ps, m2, e2, hh2, hr, hle, _⟩ := lawrow_ok (k + 1) (m1 :: st) 0 (b + j * 20 + 1) r m1 (hn _) hh1 hu hl h2 h4 (by omega) (by omega)
  obtain ⟨i, m3, e3, hh3, p3, q3⟩ := dr (k + 5) (m2 :: st) 0 (b + j * 20 + 1 + r) m2 2 (hn _) hh2 (by omega) (by omega) (.of40 (by omega))
  have hsel : ∃ qs : List (Nat × Nat), qs.length ≤ 1000 ∧ atI [Dt.tup (ws.map prD), Dt.tup (ps.map prD)] i = some (Dt.tup (qs.map prD)) := by
    obtain ⟨i, rfl⟩ := Int.eq_ofNat_of_zero_le p3
    have : i = 0 ∨ i = 1 := by omega
    rcases this with rfl | rfl
    · exact ⟨ws, by omega, at_n (k := 0) rfl rfl⟩
    · exact ⟨ps, by omega, at_n (k := 1) rfl rfl⟩
  obtain ⟨qs, hqs, hsel⟩ := hsel
  obtain ⟨y, m4, e4, hh4, hp, hz⟩ := spo_ok (k + 3) (m3 :: st) 0 (b + j * 20 + 1 + r + 1) m3 (hn _) hh3 (by omega) u s h1 h2 h3 h4 qs hqs
  obtain ⟨ea, e5⟩ := isrow_any k (m4 :: st) hu hl y hp hz
  obtain ⟨eb, e6⟩ := isway_any k (m4 :: st ++ ea) hu hl (by omega) y hp hz (fun s' hs => by rw [rowT_len hs]; omega)
  have e7 := due_any (k + 1) (m4 :: st ++ ea ++ eb) hu hl (by omega) y hp
  refine ⟨_, in_run (FP PP (k + 6)) (fp_isi _) T (.ref 0) (stD u s) (evS u s) (.tup (ws.map prD)) (.tup (ps.map prD)) _ _ (.tup (qs.map prD)) y _ _ r i x2 x s7 s8 s9 (mo :: st) (m1 :: st) (m2 :: st) (m3 :: st) (m4 :: st) _ _ e1 (by rw [c_law_row]; exact e2) e3 hsel e4 (by rw [c_is_row]; exact e5) (by rw [c_is_way]; exact e6) (by rw [c_law_due]; exact e7), m4, st ++ ea ++ eb, x, _, _, _, rfl, hh4.mono (by omega)⟩
def outB : List MS := [.asg 3 (.call "_law_sums" [.var 1, .cst (.int 5), .cst (.int 12)]), .asg 4 (.call "_law_made" [.var 3]), .asg 5 (.idx (.call "_law_way" [.var 1, .var 3]) (.cst (.int 0))), .ifs (.bool false [.cmp .notn (.call "is_way" [.var 4, .var 5]) (.cst (.bl true)), .cmp .notn (.call "is_row" [.var 4, .var 5]) (.cst (.bl true))]) [.ret (.cst (.bl false))] [], .ifs (.cmp .notn (.call "is_row" [.var 4, .tup []]) (.cst (.bl true))) [.ret (.cst (.bl false))] [], .forr (.n 6) (.rng [.cst (.int 8)]) inB]
theorem out_run (L : Fns) (T H E Wy W2 W3 : Dt) (X Y : List Dt) (x2 s3 s4 s5 s6 s7 s8 s9 : Sl) (st st1 st2 st3 st4 st5 : List MO) (t2 : SS) (c1 : L.call "_law_sums" [H, .int 5, .int 12] st = .ok (.v (.tup [.tup X, .tup Y])) st1) (c2 : L.call "_law_made" [.tup [.tup X, .tup Y]] st1 = .ok (.v E) st1) (c3 : L.call "_law_way" [H, .tup [.tup X, .tup Y]] st1 = .ok (.v (.tup [Wy, W2, W3])) st2)
    (c4 : L.call "is_way" [E, Wy] st2 = .ok (.v (.bl true)) st3) (c5 : L.call "is_row" [E, Wy] st3 = .ok (.v (.bl true)) st4) (c6 : L.call "is_row" [E, .tup []] st4 = .ok (.v (.bl true)) st5)
    (hf : forL (fun _ => true) (fun s x => bindT (.n 6) x s) (fun s => Mq.execs L inB s) (rngI 0 8) ⟨[.v T, .v H, x2, .v (.tup [.tup X, .tup Y]), .v E, .v Wy, s6, s7, s8, s9], st5⟩ = .ok .nx t2) :
    Mq.execs L outB ⟨[.v T, .v H, x2, s3, s4, s5, s6, s7, s8, s9], st⟩ = .ok .nx t2 := by
  have s0 : (0 : Nat) ≤ sizeLine := by decide
  have nb : ∀ s : SS, cmpV .notn (.v (.bl true)) (.v (.bl true)) s = some false := fun _ => rfl
  have a1 : Mq.exec L (.asg 3 (.call "_law_sums" [.var 1, .cst (.int 5), .cst (.int 12)])) ⟨[.v T, .v H, x2, s3, s4, s5, s6, s7, s8, s9], st⟩ = .ok .nx ⟨[.v T, .v H, x2, .v (.tup [.tup X, .tup Y]), s4, s5, s6, s7, s8, s9], st1⟩ := by simp [c1]
  have a2 : Mq.exec L (.asg 4 (.call "_law_made" [.var 3])) ⟨[.v T, .v H, x2, .v (.tup [.tup X, .tup Y]), s4, s5, s6, s7, s8, s9], st1⟩ = .ok .nx ⟨[.v T, .v H, x2, .v (.tup [.tup X, .tup Y]), .v E, s5, s6, s7, s8, s9], st1⟩ := by simp [c2]
  have a3 : Mq.exec L (.asg 5 (.idx (.call "_law_way" [.var 1, .var 3]) (.cst (.int 0)))) ⟨[.v T, .v H, x2, .v (.tup [.tup X, .tup Y]), .v E, s5, s6, s7, s8, s9], st1⟩ = .ok .nx ⟨[.v T, .v H, x2, .v (.tup [.tup X, .tup Y]), .v E, .v Wy, s6, s7, s8, s9], st2⟩ := by simp [c3]
  have a4 : Mq.exec L (.ifs (.bool false [.cmp .notn (.call "is_way" [.var 4, .var 5]) (.cst (.bl true)), .cmp .notn (.call "is_row" [.var 4, .var 5]) (.cst (.bl true))]) [.ret (.cst (.bl false))] []) ⟨[.v T, .v H, x2, .v (.tup [.tup X, .tup Y]), .v E, .v Wy, s6, s7, s8, s9], st2⟩ = .ok .nx ⟨[.v T, .v H, x2, .v (.tup [.tup X, .tup Y]), .v E, .v Wy, s6, s7, s8, s9], st4⟩ := by simp [c4, c5, nb]
  have a5 : Mq.exec L (.ifs (.cmp .notn (.call "is_row" [.var 4, .tup []]) (.cst (.bl true))) [.ret (.cst (.bl false))] []) ⟨[.v T, .v H, x2, .v (.tup [.tup X, .tup Y]), .v E, .v Wy, s6, s7, s8, s9], st4⟩ = .ok .nx ⟨[.v T, .v H, x2, .v (.tup [.tup X, .tup Y]), .v E, .v Wy, s6, s7, s8, s9], st5⟩ := by simp [c6, nb]
  have h6 : evI L (.rng [.cst (.int 8)]) ⟨[.v T, .v H, x2, .v (.tup [.tup X, .tup Y]), .v E, .v Wy, s6, s7, s8, s9], st5⟩ = .ok ⟨rngI 0 8, .v .non, []⟩ ⟨[.v T, .v H, x2, .v (.tup [.tup X, .tup Y]), .v E, .v Wy, s6, s7, s8, s9], st5⟩ := i_rng (by simp) (by simp [rngOk])
  unfold outB
  rw [x_cons, a1, r_ok, thenS_nx, x_cons, a2, r_ok, thenS_nx, x_cons, a3, r_ok, thenS_nx, x_cons, a4, r_ok, thenS_nx, x_cons, a5, r_ok, thenS_nx, x_cons, x_for, h6, r_ok]
  show ((Out.fix (fun s' => s') (forL (fun _ => true) (fun s x => bindT (.n 6) x s) (fun s => Mq.execs L inB s) (rngI 0 8) ⟨_, st5⟩)).bind _) = _
  rw [hf, r_fix, r_ok, thenS_nx, x_nil]
def lawP (T : Dt) (j : Nat) (s : SS) : Prop := ∃ (mo : MO) (st : List MO) (x s3 s4 s5 s6 s7 s8 s9 : Sl), s = ⟨[.v T, .v (.ref 0), x, s3, s4, s5, s6, s7, s8, s9], mo :: st⟩ ∧ Hand (j * 1000) mo
theorem law_body (k : Nat) (T : Dt) (x : Sl) (j : Nat) (hj : j < 2) (s : SS) (h : lawP T j s) :
    ∃ s2, Mq.execs (FP PP (k + 6)) outB (s.set 2 x) = .ok .nx s2 ∧ lawP T (j + 1) s2 := by
  obtain ⟨mo, st, x0, s3, s4, s5, s6, s7, s8, s9, rfl, hh⟩ := h
  have hn : ∀ m : MO, 0 < (m :: st).length := fun m => Nat.zero_lt_succ _
  obtain ⟨xs, ys, full, u, m1, e1, hh1, t, hu, _⟩ := sums2_ok (k + 2) (mo :: st) 0 (j * 1000) 5 12 mo (hn _) hh (by omega) (by omega) (by omega) (by omega) (by omega)
  rw [map_fm, map_fm] at e1
  have So := side_mu hu t.a t.b t.e t.g t.i
  have Sd := side_mu hu t.c t.d t.f t.h t.i
  have eq : (xs.map (mu u)).sum = (ys.map (mu u)).sum := by rw [mu_sum, mu_sum, t.e, t.f]
  have e2 := make_ok k (m1 :: st) (xs.map (mu u)) (ys.map (mu u)) So Sd eq
  rw [map_fm, map_fm] at e2
  have hl : Le (2 ^ 60) (xs, ys) := ⟨fun x hx => by have h : x ≤ xs.sum := mem_le hx; have := t.e; have := t.i; omega, fun x hx => by have h : x ≤ ys.sum := mem_le hx; have := t.f; have := t.i; omega⟩
  have ta := t.a
  have tb := t.b
  have tc := t.c
  have td := t.d
  obtain ⟨ws, m2, e3, hh2, hr, hle, hq⟩ := lawrow_ok k (m1 :: st) 0 (j * 1000 + 301) (xs.length + ys.length) m1 (hn _) hh1 hu hl t.b t.d (by omega) (by omega)
  have hQ := way_quits hr (by rw [t.e, t.f]) hq
  have rT : rowT (xs, ys) (.tup (ws.map prD)) = some (gos (xs, ys) ws) := rowOf_row ws (xs, ys) hr
  have pW : pl (.tup (ws.map prD)) = true := by rw [pl_tup]; exact pl_row ws
  have zW : lenT (.tup (ws.map prD)) ≤ 10000 := by show (ws.map prD).length ≤ 10000; rw [List.length_map]; omega
  obtain ⟨ea, e4⟩ := isway_any k (m2 :: st) hu hl (by show xs.length ≤ 10000; omega) _ pW zW (fun s' hs => by rw [rowT_len hs]; show xs.length ≤ 10000; omega)
  obtain ⟨eb, e5⟩ := isrow_any k (m2 :: st ++ ea) hu hl _ pW zW
  obtain ⟨ec, e6⟩ := isrow_any k (m2 :: st ++ ea ++ eb) hu hl (.tup []) (by rw [pl_tup]; unfold plL; rfl) (by decide)
  rw [rT] at e4 e5
  have e4' : runD (FP PP (k + 5)) d_is_way [evS u (xs, ys), .tup (ws.map prD)] (m2 :: st) = .ok (.v (.bl true)) (m2 :: st ++ ea) := by
    have : qz (gos (xs, ys) ws) = true := qz_quits hQ
    rw [← this]; exact e4
  obtain ⟨t2, ef, m3, st3, y6, y7, y8, y9, rfl, hh3⟩ := for_inv (ck := fun _ => true) (tg := fun s x => bindT (.n 6) x s) (b := fun s => Mq.execs (FP PP (k + 6)) inB s) (inP T x (stD u (xs, ys)) (evS u (xs, ys)) (.tup (ws.map prD)) (j * 1000 + 301 + (xs.length + ys.length))) (rngI 0 8) 0 ⟨[.v T, .v (.ref 0), x, .v (stD u (xs, ys)), .v (evS u (xs, ys)), .v (.tup (ws.map prD)), s6, s7, s8, s9], m2 :: st ++ ea ++ eb ++ ec⟩ ⟨m2, st ++ ea ++ eb ++ ec, _, _, _, _, rfl, hh2⟩ fun i y t' _ hx hp => by
    have hi : i < 8 := by
      have := (List.getElem?_eq_some_iff.mp hx).1
      rw [show (rngI 0 8).length = 8 from rfl] at this; omega
    obtain ⟨t2, e, p⟩ := in_body k T x (.v y) hu hl ta tb tc td ws (by omega) (j * 1000 + 301 + (xs.length + ys.length)) (by omega) i hi t' hp
    exact ⟨_, t2, by rw [bindT], .inl e, rfl, p⟩
  have lX : (xs.map (fm u)).length = xs.length := List.length_map ..
  have lY : (ys.map (fm u)).length = ys.length := List.length_map ..
  have er := out_run (FP PP (k + 6)) T (.ref 0) (evS u (xs, ys)) (.tup (ws.map prD)) _ _ (xs.map (fm u)) (ys.map (fm u)) x s3 s4 s5 s6 s7 s8 s9 (mo :: st) (m1 :: st) (m2 :: st) _ _ _ _ e1 (by rw [c_law_made]; exact made_run _ _ _ _ _ e2) (by
      rw [c_law_way]
      refine way_run _ _ _ _ _ _ _ ?_
      have q : (((xs.length + ys.length : Nat) : Int)) = (xs.map (fm u)).length + (ys.map (fm u)).length := by rw [lX, lY]; omega
      rw [q] at e3
      rw [c_law_row]
      exact e3) (by rw [c_is_way]; exact e4') (by rw [c_is_row]; exact e5) (by rw [c_is_row]; exact e6) ef
  refine ⟨_, er, m3, st3, x, _, _, _, _, _, _, _, rfl, hh3.mono ?_⟩
  show j * 1000 + 301 + (xs.length + ys.length) + (0 + (rngI 0 8).length) * 20 ≤ (j + 1) * 1000
  rw [show (rngI 0 8).length = 8 from rfl]
  omega
theorem runs : Runs PP d_law 110 := fun ns hns => by
  obtain ⟨xs, e, cs, rfl, hl, hc⟩ := hand_ok (FP PP 109) [] ns hns
  have hd : Hand 0 (.l [.lst (cs.map .int), .int 0, .int 0, .int (1 + cs.length), .int 0]) := ⟨cs, 0, 0, _, 0, rfl, hc, by omega, by omega, by omega, by omega, by omega, by omega⟩
  generalize hmo : MO.l [.lst (cs.map .int), .int 0, .int 0, .int (1 + cs.length), .int 0] = mo at *
  have hl4 : (rngI 0 2).length = 2 := rfl
  generalize hT : Dt.rol (ns.map Dt.int) = T at *
  have hP : lawP T 0 ⟨[.v T, .v (.ref 0), .un, .un, .un, .un, .un, .un, .un, .un], [mo]⟩ := ⟨mo, [], _, _, _, _, _, _, _, _, rfl, by simpa using hd⟩
  obtain ⟨s', ef, mo', st', x, s3, s4, s5, s6, s7, s8, s9, rfl, _⟩ := for_inv (ck := fun _ => true) (tg := fun s x => bindT (.n 2) x s) (b := fun s => Mq.execs (FP PP 110) outB s) (lawP T) (rngI 0 2) 0 _ hP fun j x s _ hx hp => by
    have hj : j < 2 := by
      have := (List.getElem?_eq_some_iff.mp hx).1
      rw [hl4] at this; omega
    obtain ⟨s2, e2, p2⟩ := law_body 104 _ (.v x) j hj s hp
    exact ⟨_, s2, by rw [bindT], .inl e2, rfl, p2⟩
  refine ⟨mo' :: st', ?_⟩
  unfold runD d_law
  have sl0 : slots 10 ([T].map Sl.v) = [.v T, .un, .un, .un, .un, .un, .un, .un, .un, .un] := rfl
  show finD (Mq.execs _ (_ :: .forr (.n 2) _ outB :: [_]) ⟨slots 10 _, _⟩) = _
  rw [sl0]
  have ch : (FP PP 110).call "_law_hand" [T] [] = .ok (.nl [.lst (cs.map .int), .int 0, .int 0, .int (1 + cs.length), .int 0]) [] := by
    rw [c_law_hand 109]; exact e
  have a1 : Mq.exec (FP PP 110) (.asg 1 (.alloc (.call "_law_hand" [.var 0]))) ⟨[.v T, .un, .un, .un, .un, .un, .un, .un, .un, .un], []⟩ = .ok .nx ⟨[.v T, .v (.ref 0), .un, .un, .un, .un, .un, .un, .un, .un], [mo]⟩ := by
    simp [ch, hmo]
  have h3 : evI (FP PP 110) (.rng [.cst (.int 2)]) ⟨[.v T, .v (.ref 0), .un, .un, .un, .un, .un, .un, .un, .un], [mo]⟩ = .ok ⟨rngI 0 2, .v .non, []⟩ ⟨[.v T, .v (.ref 0), .un, .un, .un, .un, .un, .un, .un, .un], [mo]⟩ := i_rng (by simp) (by simp [rngOk])
  rw [x_cons, a1, r_ok, thenS_nx, x_cons, x_for, h3, r_ok]
  show finD ((Out.fix (fun s' => s') (forL (fun _ => true) (fun s x => bindT (.n 2) x s) (fun s => Mq.execs (FP PP 110) outB s) (rngI 0 2) ⟨_, [mo]⟩)).bind _) = _
  rw [ef, r_fix, r_ok, thenS_nx]
  show finD (Mq.execs _ [_] ⟨_, mo' :: st'⟩) = _
  simp
end K06

namespace K06
open PySem L2 Mq
theorem pc_ok : pC PP S0 = true := by decide +kernel
theorem all_mk {K : PySem.W.Frag} {mg : Str → Option Value} {h : Heap} (X : K.In h) (N : h.Ns mainGlobals mg) {f0 f1 f2 f3 f4 f5 f6 f7 f8 f9 f10 f11 f12 f13 f14 f15 f16 f17 f18 f19 f20 f21 f22 f23 f24 f25 f26 f27 f28 f29 f30 f31 f32 f33 f34 f35 f36 f37 f38 f39 f40 f41 f42 f43 C0 C1 g1a : Addr} {oc0 kV0 dc0 pm0 cd0 ct0 oc1 kV1 dc1 pm1 cd1 ct1 oc2 kV2 dc2 pm2 cd2 ct2 oc3 kV3 dc3 pm3 cd3 ct3 oc4 kV4 dc4 pm4 cd4 ct4 oc5 kV5 dc5 pm5 cd5 ct5 oc6 kV6 dc6 pm6 cd6 ct6 oc7 kV7 dc7 pm7 cd7 ct7 oc8 kV8 dc8 pm8 cd8 ct8 oc9 kV9 dc9 pm9 cd9 ct9 oc10 kV10 dc10 pm10 cd10 ct10 oc11 kV11 dc11 pm11 cd11 ct11 oc12 kV12 dc12 pm12 cd12 ct12 oc13 kV13 dc13 pm13 cd13 ct13 oc14 kV14 dc14 pm14 cd14 ct14 oc15 kV15 dc15 pm15 cd15 ct15 oc16 kV16 dc16 pm16 cd16 ct16 oc17 kV17 dc17 pm17 cd17 ct17 oc18 kV18 dc18 pm18 cd18 ct18 oc19 kV19 dc19 pm19 cd19 ct19 oc20 kV20 dc20 pm20 cd20 ct20 oc21 kV21 dc21 pm21 cd21 ct21 oc22 kV22 dc22 pm22 cd22 ct22 oc23 kV23 dc23 pm23 cd23 ct23 oc24 kV24 dc24 pm24 cd24 ct24 oc25 kV25 dc25 pm25 cd25 ct25 oc26 kV26 dc26 pm26 cd26 ct26 oc27 kV27 dc27 pm27 cd27 ct27 oc28 kV28 dc28 pm28 cd28 ct28 oc29 kV29 dc29 pm29 cd29 ct29 oc30 kV30 dc30 pm30 cd30 ct30 oc31 kV31 dc31 pm31 cd31 ct31 oc32 kV32 dc32 pm32 cd32 ct32 oc33 kV33 dc33 pm33 cd33 ct33 oc34 kV34 dc34 pm34 cd34 ct34 oc35 kV35 dc35 pm35 cd35 ct35 oc36 kV36 dc36 pm36 cd36 ct36 oc37 kV37 dc37 pm37 cd37 ct37 oc38 kV38 dc38 pm38 cd38 ct38 oc39 kV39 dc39 pm39 cd39 ct39 oc40 kV40 dc40 pm40 cd40 ct40 oc41 kV41 dc41 pm41 cd41 ct41 oc42 kV42 dc42 pm42 cd42 ct42 oc43 kV43 dc43 pm43 cd43 ct43 : Value} {od0 an0 od1 an1 od2 an2 od3 an3 od4 an4 od5 an5 od6 an6 od7 an7 od8 an8 od9 an9 od10 an10 od11 an11 od12 an12 od13 an13 od14 an14 od15 an15 od16 an16 od17 an17 od18 an18 od19 an19 od20 an20 od21 an21 od22 an22 od23 an23 od24 an24 od25 an25 od26 an26 od27 an27 od28 an28 od29 an29 od30 an30 od31 an31 od32 an32 od33 an33 od34 an34 od35 an35 od36 an36 od37 an37 od38 an38 od39 an39 od40 an40 od41 an41 od42 an42 od43 an43 g1o : Option Addr} {sl0 sl1 sl2 sl3 sl4 sl5 sl6 sl7 sl8 sl9 sl10 sl11 sl12 sl13 sl14 sl15 sl16 sl17 sl18 sl19 sl20 sl21 sl22 sl23 sl24 sl25 sl26 sl27 sl28 sl29 sl30 sl31 sl32 sl33 sl34 sl35 sl36 sl37 sl38 sl39 sl40 sl41 sl42 sl43 g1s : Array (Option Value)} {g0t g1t1 g1t0 : Tok} {g1n : Nat}
    (aC0 : PySem.W.nsIn K mainGlobals "Evening" = some (some (.ref C0)))
    (mk0 : PySem.W.makesIn K C0 = true)
    (kc0 : PySem.W.keepIn K (.ref C0) = true)
    (pg0 : PySem.W.plainGet K C0 Str.empty = true)
    (hd0 : PySem.W.hasDictIn K C0 = true)
    (po0 : PySem.W.plainOver K C0 = true)
    (sa0 : PySem.W.findIn K (.ref C0) "__setattr__" = some (some (.builtin "object.__setattr__")))
    (ha0 : PySem.W.findIn K (.ref C0) "__class__" = some (some (.builtin "object.__class__")))
    (hm0 : PySem.W.mroIn K C0 (.type "object") = some true)
    (na0_0 : PySem.W.findIn K (.ref C0) "due" = some none)
    (na0_1 : PySem.W.findIn K (.ref C0) "due_left" = some none)
    (na0_2 : PySem.W.findIn K (.ref C0) "owed" = some none)
    (na0_3 : PySem.W.findIn K (.ref C0) "owed_left" = some none)
    (aC1 : PySem.W.nsIn K mainGlobals "State" = some (some (.ref C1)))
    (mk1 : PySem.W.makesIn K C1 = true)
    (kc1 : PySem.W.keepIn K (.ref C1) = true)
    (pg1 : PySem.W.plainGet K C1 Str.empty = true)
    (hd1 : PySem.W.hasDictIn K C1 = true)
    (po1 : PySem.W.plainOver K C1 = true)
    (sa1 : PySem.W.findIn K (.ref C1) "__setattr__" = some (some (.builtin "object.__setattr__")))
    (ha1 : PySem.W.findIn K (.ref C1) "__class__" = some (some (.builtin "object.__class__")))
    (hm1 : PySem.W.mroIn K C1 (.type "object") = some true)
    (na1_0 : PySem.W.findIn K (.ref C1) "due" = some none)
    (na1_1 : PySem.W.findIn K (.ref C1) "due_left" = some none)
    (na1_2 : PySem.W.findIn K (.ref C1) "owed" = some none)
    (na1_3 : PySem.W.findIn K (.ref C1) "owed_left" = some none)
    (hn : PySem.W.specialIn K (.builtin "object.__class__") "__get__" = some (some (.builtin "getset_descriptor.__get__")))
    (htk : PySem.W.takesIn K (.builtin "object.__class__") = some true)
    (z0 : PySem.W.nsIn K mainGlobals "abs" = some none)
    (z1 : PySem.W.nsIn K mainGlobals "all" = some none)
    (z2 : PySem.W.nsIn K mainGlobals "int" = some none)
    (z3 : PySem.W.nsIn K mainGlobals "isinstance" = some none)
    (z4 : PySem.W.nsIn K mainGlobals "len" = some none)
    (z5 : PySem.W.nsIn K mainGlobals "list" = some none)
    (z6 : PySem.W.nsIn K mainGlobals "max" = some none)
    (z7 : PySem.W.nsIn K mainGlobals "min" = some none)
    (z8 : PySem.W.nsIn K mainGlobals "range" = some none)
    (z9 : PySem.W.nsIn K mainGlobals "tuple" = some none)
    (zt0 : PySem.W.nsIn K mainGlobals "bool" = some none)
    (zt1 : PySem.W.nsIn K mainGlobals "int" = some none)
    (zt2 : PySem.W.nsIn K mainGlobals "tuple" = some none)
    (qg0 : PySem.W.nsIn K mainGlobals "MOST_SIDE" = some (some (.int 100 g0t)))
    (qg1 : PySem.W.nsIn K mainGlobals "ZERO" = some (some (.ref g1a)))
    (qg1l : K.lookup g1a = some ⟨.type "tuple", g1o, .seq #[.int 0 g1t0, .int 1 g1t1] g1n, g1s⟩)
    (a0 : PySem.W.nsIn K mainGlobals "_law_draw" = some (some (.ref f0)))
    (l0 : K.lookup f0 = some ⟨oc0, od0, .func (PySem.W.fnOf "_law_draw" "_law_draw" (defArgs s_law_draw) (defBody s_law_draw) (defScope s_law_draw) .none kV0 dc0 pm0 an0 cd0 ct0), sl0⟩)
    (c0 : PySem.W.codeIn K cd0 "_law_draw" = true)
    (k0 : PySem.W.keepIn K (.ref f0) = true)
    (a1 : PySem.W.nsIn K mainGlobals "_law_is_below" = some (some (.ref f1)))
    (l1 : K.lookup f1 = some ⟨oc1, od1, .func (PySem.W.fnOf "_law_is_below" "_law_is_below" (defArgs s_law_is_below) (defBody s_law_is_below) (defScope s_law_is_below) .none kV1 dc1 pm1 an1 cd1 ct1), sl1⟩)
    (c1 : PySem.W.codeIn K cd1 "_law_is_below" = true)
    (k1 : PySem.W.keepIn K (.ref f1) = true)
    (a2 : PySem.W.nsIn K mainGlobals "_law_common" = some (some (.ref f2)))
    (l2 : K.lookup f2 = some ⟨oc2, od2, .func (PySem.W.fnOf "_law_common" "_law_common" (defArgs s_law_common) (defBody s_law_common) (defScope s_law_common) .none kV2 dc2 pm2 an2 cd2 ct2), sl2⟩)
    (c2 : PySem.W.codeIn K cd2 "_law_common" = true)
    (k2 : PySem.W.keepIn K (.ref f2) = true)
    (a3 : PySem.W.nsIn K mainGlobals "_law_fraction" = some (some (.ref f3)))
    (l3 : K.lookup f3 = some ⟨oc3, od3, .func (PySem.W.fnOf "_law_fraction" "_law_fraction" (defArgs s_law_fraction) (defBody s_law_fraction) (defScope s_law_fraction) .none kV3 dc3 pm3 an3 cd3 ct3), sl3⟩)
    (c3 : PySem.W.codeIn K cd3 "_law_fraction" = true)
    (k3 : PySem.W.keepIn K (.ref f3) = true)
    (a4 : PySem.W.nsIn K mainGlobals "_law_less" = some (some (.ref f4)))
    (l4 : K.lookup f4 = some ⟨oc4, od4, .func (PySem.W.fnOf "_law_less" "_law_less" (defArgs s_law_less) (defBody s_law_less) (defScope s_law_less) .none kV4 dc4 pm4 an4 cd4 ct4), sl4⟩)
    (c4 : PySem.W.codeIn K cd4 "_law_less" = true)
    (k4 : PySem.W.keepIn K (.ref f4) = true)
    (a5 : PySem.W.nsIn K mainGlobals "_law_go" = some (some (.ref f5)))
    (l5 : K.lookup f5 = some ⟨oc5, od5, .func (PySem.W.fnOf "_law_go" "_law_go" (defArgs s_law_go) (defBody s_law_go) (defScope s_law_go) .none kV5 dc5 pm5 an5 cd5 ct5), sl5⟩)
    (c5 : PySem.W.codeIn K cd5 "_law_go" = true)
    (k5 : PySem.W.keepIn K (.ref f5) = true)
    (a6 : PySem.W.nsIn K mainGlobals "_law_is_number" = some (some (.ref f6)))
    (l6 : K.lookup f6 = some ⟨oc6, od6, .func (PySem.W.fnOf "_law_is_number" "_law_is_number" (defArgs s_law_is_number) (defBody s_law_is_number) (defScope s_law_is_number) .none kV6 dc6 pm6 an6 cd6 ct6), sl6⟩)
    (c6 : PySem.W.codeIn K cd6 "_law_is_number" = true)
    (k6 : PySem.W.keepIn K (.ref f6) = true)
    (a7 : PySem.W.nsIn K mainGlobals "_law_due" = some (some (.ref f7)))
    (l7 : K.lookup f7 = some ⟨oc7, od7, .func (PySem.W.fnOf "_law_due" "_law_due" (defArgs s_law_due) (defBody s_law_due) (defScope s_law_due) .none kV7 dc7 pm7 an7 cd7 ct7), sl7⟩)
    (c7 : PySem.W.codeIn K cd7 "_law_due" = true)
    (k7 : PySem.W.keepIn K (.ref f7) = true)
    (a8 : PySem.W.nsIn K mainGlobals "_law_hand" = some (some (.ref f8)))
    (l8 : K.lookup f8 = some ⟨oc8, od8, .func (PySem.W.fnOf "_law_hand" "_law_hand" (defArgs s_law_hand) (defBody s_law_hand) (defScope s_law_hand) .none kV8 dc8 pm8 an8 cd8 ct8), sl8⟩)
    (c8 : PySem.W.codeIn K cd8 "_law_hand" = true)
    (k8 : PySem.W.keepIn K (.ref f8) = true)
    (a9 : PySem.W.nsIn K mainGlobals "common_divisor" = some (some (.ref f9)))
    (l9 : K.lookup f9 = some ⟨oc9, od9, .func (PySem.W.fnOf "common_divisor" "common_divisor" (defArgs s_common_divisor) (defBody s_common_divisor) (defScope s_common_divisor) .none kV9 dc9 pm9 an9 cd9 ct9), sl9⟩)
    (c9 : PySem.W.codeIn K cd9 "common_divisor" = true)
    (k9 : PySem.W.keepIn K (.ref f9) = true)
    (a10 : PySem.W.nsIn K mainGlobals "is_integer" = some (some (.ref f10)))
    (l10 : K.lookup f10 = some ⟨oc10, od10, .func (PySem.W.fnOf "is_integer" "is_integer" (defArgs s_is_integer) (defBody s_is_integer) (defScope s_is_integer) .none kV10 dc10 pm10 an10 cd10 ct10), sl10⟩)
    (c10 : PySem.W.codeIn K cd10 "is_integer" = true)
    (k10 : PySem.W.keepIn K (.ref f10) = true)
    (a11 : PySem.W.nsIn K mainGlobals "is_pair" = some (some (.ref f11)))
    (l11 : K.lookup f11 = some ⟨oc11, od11, .func (PySem.W.fnOf "is_pair" "is_pair" (defArgs s_is_pair) (defBody s_is_pair) (defScope s_is_pair) .none kV11 dc11 pm11 an11 cd11 ct11), sl11⟩)
    (c11 : PySem.W.codeIn K cd11 "is_pair" = true)
    (k11 : PySem.W.keepIn K (.ref f11) = true)
    (a12 : PySem.W.nsIn K mainGlobals "is_fraction" = some (some (.ref f12)))
    (l12 : K.lookup f12 = some ⟨oc12, od12, .func (PySem.W.fnOf "is_fraction" "is_fraction" (defArgs s_is_fraction) (defBody s_is_fraction) (defScope s_is_fraction) .none kV12 dc12 pm12 an12 cd12 ct12), sl12⟩)
    (c12 : PySem.W.codeIn K cd12 "is_fraction" = true)
    (k12 : PySem.W.keepIn K (.ref f12) = true)
    (a13 : PySem.W.nsIn K mainGlobals "is_amount" = some (some (.ref f13)))
    (l13 : K.lookup f13 = some ⟨oc13, od13, .func (PySem.W.fnOf "is_amount" "is_amount" (defArgs s_is_amount) (defBody s_is_amount) (defScope s_is_amount) .none kV13 dc13 pm13 an13 cd13 ct13), sl13⟩)
    (c13 : PySem.W.codeIn K cd13 "is_amount" = true)
    (k13 : PySem.W.keepIn K (.ref f13) = true)
    (a14 : PySem.W.nsIn K mainGlobals "are_sums" = some (some (.ref f14)))
    (l14 : K.lookup f14 = some ⟨oc14, od14, .func (PySem.W.fnOf "are_sums" "are_sums" (defArgs s_are_sums) (defBody s_are_sums) (defScope s_are_sums) .none kV14 dc14 pm14 an14 cd14 ct14), sl14⟩)
    (c14 : PySem.W.codeIn K cd14 "are_sums" = true)
    (k14 : PySem.W.keepIn K (.ref f14) = true)
    (a15 : PySem.W.nsIn K mainGlobals "made" = some (some (.ref f15)))
    (l15 : K.lookup f15 = some ⟨oc15, od15, .func (PySem.W.fnOf "made" "made" (defArgs s_made) (defBody s_made) (defScope s_made) .none kV15 dc15 pm15 an15 cd15 ct15), sl15⟩)
    (c15 : PySem.W.codeIn K cd15 "made" = true)
    (k15 : PySem.W.keepIn K (.ref f15) = true)
    (a16 : PySem.W.nsIn K mainGlobals "plus" = some (some (.ref f16)))
    (l16 : K.lookup f16 = some ⟨oc16, od16, .func (PySem.W.fnOf "plus" "plus" (defArgs s_plus) (defBody s_plus) (defScope s_plus) .none kV16 dc16 pm16 an16 cd16 ct16), sl16⟩)
    (c16 : PySem.W.codeIn K cd16 "plus" = true)
    (k16 : PySem.W.keepIn K (.ref f16) = true)
    (a17 : PySem.W.nsIn K mainGlobals "total_of" = some (some (.ref f17)))
    (l17 : K.lookup f17 = some ⟨oc17, od17, .func (PySem.W.fnOf "total_of" "total_of" (defArgs s_total_of) (defBody s_total_of) (defScope s_total_of) .none kV17 dc17 pm17 an17 cd17 ct17), sl17⟩)
    (c17 : PySem.W.codeIn K cd17 "total_of" = true)
    (k17 : PySem.W.keepIn K (.ref f17) = true)
    (a18_0 : PySem.W.findIn K (.ref C0) "__init__" = some (some (.ref f18)))
    (i18 : PySem.W.isFn K (.ref f18) = true)
    (l18 : K.lookup f18 = some ⟨oc18, od18, .func (PySem.W.fnOf "__init__" "Evening.__init__" (defArgs s_Evening__init_) (defBody s_Evening__init_) (defScope s_Evening__init_) .none kV18 dc18 pm18 an18 cd18 ct18), sl18⟩)
    (c18 : PySem.W.codeIn K cd18 "Evening.__init__" = true)
    (k18 : PySem.W.keepIn K (.ref f18) = true)
    (a19 : PySem.W.nsIn K mainGlobals "_law_made" = some (some (.ref f19)))
    (l19 : K.lookup f19 = some ⟨oc19, od19, .func (PySem.W.fnOf "_law_made" "_law_made" (defArgs s_law_made) (defBody s_law_made) (defScope s_law_made) .none kV19 dc19 pm19 an19 cd19 ct19), sl19⟩)
    (c19 : PySem.W.codeIn K cd19 "_law_made" = true)
    (k19 : PySem.W.keepIn K (.ref f19) = true)
    (a20 : PySem.W.nsIn K mainGlobals "_law_pairs" = some (some (.ref f20)))
    (l20 : K.lookup f20 = some ⟨oc20, od20, .func (PySem.W.fnOf "_law_pairs" "_law_pairs" (defArgs s_law_pairs) (defBody s_law_pairs) (defScope s_law_pairs) .none kV20 dc20 pm20 an20 cd20 ct20), sl20⟩)
    (c20 : PySem.W.codeIn K cd20 "_law_pairs" = true)
    (k20 : PySem.W.keepIn K (.ref f20) = true)
    (a21 : PySem.W.nsIn K mainGlobals "_law_row" = some (some (.ref f21)))
    (l21 : K.lookup f21 = some ⟨oc21, od21, .func (PySem.W.fnOf "_law_row" "_law_row" (defArgs s_law_row) (defBody s_law_row) (defScope s_law_row) .none kV21 dc21 pm21 an21 cd21 ct21), sl21⟩)
    (c21 : PySem.W.codeIn K cd21 "_law_row" = true)
    (k21 : PySem.W.keepIn K (.ref f21) = true)
    (a22 : PySem.W.nsIn K mainGlobals "_law_odd" = some (some (.ref f22)))
    (l22 : K.lookup f22 = some ⟨oc22, od22, .func (PySem.W.fnOf "_law_odd" "_law_odd" (defArgs s_law_odd) (defBody s_law_odd) (defScope s_law_odd) .none kV22 dc22 pm22 an22 cd22 ct22), sl22⟩)
    (c22 : PySem.W.codeIn K cd22 "_law_odd" = true)
    (k22 : PySem.W.keepIn K (.ref f22) = true)
    (a23 : PySem.W.nsIn K mainGlobals "_law_spoiled" = some (some (.ref f23)))
    (l23 : K.lookup f23 = some ⟨oc23, od23, .func (PySem.W.fnOf "_law_spoiled" "_law_spoiled" (defArgs s_law_spoiled) (defBody s_law_spoiled) (defScope s_law_spoiled) .none kV23 dc23 pm23 an23 cd23 ct23), sl23⟩)
    (c23 : PySem.W.codeIn K cd23 "_law_spoiled" = true)
    (k23 : PySem.W.keepIn K (.ref f23) = true)
    (a24 : PySem.W.nsIn K mainGlobals "_law_cut" = some (some (.ref f24)))
    (l24 : K.lookup f24 = some ⟨oc24, od24, .func (PySem.W.fnOf "_law_cut" "_law_cut" (defArgs s_law_cut) (defBody s_law_cut) (defScope s_law_cut) .none kV24 dc24 pm24 an24 cd24 ct24), sl24⟩)
    (c24 : PySem.W.codeIn K cd24 "_law_cut" = true)
    (k24 : PySem.W.keepIn K (.ref f24) = true)
    (a25 : PySem.W.nsIn K mainGlobals "_law_numbers" = some (some (.ref f25)))
    (l25 : K.lookup f25 = some ⟨oc25, od25, .func (PySem.W.fnOf "_law_numbers" "_law_numbers" (defArgs s_law_numbers) (defBody s_law_numbers) (defScope s_law_numbers) .none kV25 dc25 pm25 an25 cd25 ct25), sl25⟩)
    (c25 : PySem.W.codeIn K cd25 "_law_numbers" = true)
    (k25 : PySem.W.keepIn K (.ref f25) = true)
    (a26 : PySem.W.nsIn K mainGlobals "_law_times" = some (some (.ref f26)))
    (l26 : K.lookup f26 = some ⟨oc26, od26, .func (PySem.W.fnOf "_law_times" "_law_times" (defArgs s_law_times) (defBody s_law_times) (defScope s_law_times) .none kV26 dc26 pm26 an26 cd26 ct26), sl26⟩)
    (c26 : PySem.W.codeIn K cd26 "_law_times" = true)
    (k26 : PySem.W.keepIn K (.ref f26) = true)
    (a27 : PySem.W.nsIn K mainGlobals "_law_unit" = some (some (.ref f27)))
    (l27 : K.lookup f27 = some ⟨oc27, od27, .func (PySem.W.fnOf "_law_unit" "_law_unit" (defArgs s_law_unit) (defBody s_law_unit) (defScope s_law_unit) .none kV27 dc27 pm27 an27 cd27 ct27), sl27⟩)
    (c27 : PySem.W.codeIn K cd27 "_law_unit" = true)
    (k27 : PySem.W.keepIn K (.ref f27) = true)
    (a28 : PySem.W.nsIn K mainGlobals "_law_sums" = some (some (.ref f28)))
    (l28 : K.lookup f28 = some ⟨oc28, od28, .func (PySem.W.fnOf "_law_sums" "_law_sums" (defArgs s_law_sums) (defBody s_law_sums) (defScope s_law_sums) .none kV28 dc28 pm28 an28 cd28 ct28), sl28⟩)
    (c28 : PySem.W.codeIn K cd28 "_law_sums" = true)
    (k28 : PySem.W.keepIn K (.ref f28) = true)
    (a29 : PySem.W.nsIn K mainGlobals "_law_way" = some (some (.ref f29)))
    (l29 : K.lookup f29 = some ⟨oc29, od29, .func (PySem.W.fnOf "_law_way" "_law_way" (defArgs s_law_way) (defBody s_law_way) (defScope s_law_way) .none kV29 dc29 pm29 an29 cd29 ct29), sl29⟩)
    (c29 : PySem.W.codeIn K cd29 "_law_way" = true)
    (k29 : PySem.W.keepIn K (.ref f29) = true)
    (a30_1 : PySem.W.findIn K (.ref C1) "__init__" = some (some (.ref f30)))
    (i30 : PySem.W.isFn K (.ref f30) = true)
    (l30 : K.lookup f30 = some ⟨oc30, od30, .func (PySem.W.fnOf "__init__" "State.__init__" (defArgs s_State__init_) (defBody s_State__init_) (defScope s_State__init_) .none kV30 dc30 pm30 an30 cd30 ct30), sl30⟩)
    (c30 : PySem.W.codeIn K cd30 "State.__init__" = true)
    (k30 : PySem.W.keepIn K (.ref f30) = true)
    (a31 : PySem.W.nsIn K mainGlobals "is_within" = some (some (.ref f31)))
    (l31 : K.lookup f31 = some ⟨oc31, od31, .func (PySem.W.fnOf "is_within" "is_within" (defArgs s_is_within) (defBody s_is_within) (defScope s_is_within) .none kV31 dc31 pm31 an31 cd31 ct31), sl31⟩)
    (c31 : PySem.W.codeIn K cd31 "is_within" = true)
    (k31 : PySem.W.keepIn K (.ref f31) = true)
    (a32 : PySem.W.nsIn K mainGlobals "are_people" = some (some (.ref f32)))
    (l32 : K.lookup f32 = some ⟨oc32, od32, .func (PySem.W.fnOf "are_people" "are_people" (defArgs s_are_people) (defBody s_are_people) (defScope s_are_people) .none kV32 dc32 pm32 an32 cd32 ct32), sl32⟩)
    (c32 : PySem.W.codeIn K cd32 "are_people" = true)
    (k32 : PySem.W.keepIn K (.ref f32) = true)
    (a33 : PySem.W.nsIn K mainGlobals "may_pay" = some (some (.ref f33)))
    (l33 : K.lookup f33 = some ⟨oc33, od33, .func (PySem.W.fnOf "may_pay" "may_pay" (defArgs s_may_pay) (defBody s_may_pay) (defScope s_may_pay) .none kV33 dc33 pm33 an33 cd33 ct33), sl33⟩)
    (c33 : PySem.W.codeIn K cd33 "may_pay" = true)
    (k33 : PySem.W.keepIn K (.ref f33) = true)
    (a34 : PySem.W.nsIn K mainGlobals "gone" = some (some (.ref f34)))
    (l34 : K.lookup f34 = some ⟨oc34, od34, .func (PySem.W.fnOf "gone" "gone" (defArgs s_gone) (defBody s_gone) (defScope s_gone) .none kV34 dc34 pm34 an34 cd34 ct34), sl34⟩)
    (c34 : PySem.W.codeIn K cd34 "gone" = true)
    (k34 : PySem.W.keepIn K (.ref f34) = true)
    (a35 : PySem.W.nsIn K mainGlobals "is_row" = some (some (.ref f35)))
    (l35 : K.lookup f35 = some ⟨oc35, od35, .func (PySem.W.fnOf "is_row" "is_row" (defArgs s_is_row) (defBody s_is_row) (defScope s_is_row) .none kV35 dc35 pm35 an35 cd35 ct35), sl35⟩)
    (c35 : PySem.W.codeIn K cd35 "is_row" = true)
    (k35 : PySem.W.keepIn K (.ref f35) = true)
    (a36 : PySem.W.nsIn K mainGlobals "is_way" = some (some (.ref f36)))
    (l36 : K.lookup f36 = some ⟨oc36, od36, .func (PySem.W.fnOf "is_way" "is_way" (defArgs s_is_way) (defBody s_is_way) (defScope s_is_way) .none kV36 dc36 pm36 an36 cd36 ct36), sl36⟩)
    (c36 : PySem.W.codeIn K cd36 "is_way" = true)
    (k36 : PySem.W.keepIn K (.ref f36) = true)
    (a37 : PySem.W.nsIn K mainGlobals "law" = some (some (.ref f37)))
    (l37 : K.lookup f37 = some ⟨oc37, od37, .func (PySem.W.fnOf "law" "law" (defArgs s_law) (defBody s_law) (defScope s_law) .none kV37 dc37 pm37 an37 cd37 ct37), sl37⟩)
    (c37 : PySem.W.codeIn K cd37 "law" = true)
    (k37 : PySem.W.keepIn K (.ref f37) = true)
    (a38_1 : PySem.W.findIn K (.ref C1) "all_quits" = some (some (.ref f38)))
    (i38 : PySem.W.isFn K (.ref f38) = true)
    (l38 : K.lookup f38 = some ⟨oc38, od38, .func (PySem.W.fnOf "all_quits" "State.all_quits" (defArgs s_State_all_quits) (defBody s_State_all_quits) (defScope s_State_all_quits) .none kV38 dc38 pm38 an38 cd38 ct38), sl38⟩)
    (c38 : PySem.W.codeIn K cd38 "State.all_quits" = true)
    (k38 : PySem.W.keepIn K (.ref f38) = true)
    (a39 : PySem.W.nsIn K mainGlobals "is_less" = some (some (.ref f39)))
    (l39 : K.lookup f39 = some ⟨oc39, od39, .func (PySem.W.fnOf "is_less" "is_less" (defArgs s_is_less) (defBody s_is_less) (defScope s_is_less) .none kV39 dc39 pm39 an39 cd39 ct39), sl39⟩)
    (c39 : PySem.W.codeIn K cd39 "is_less" = true)
    (k39 : PySem.W.keepIn K (.ref f39) = true)
    (a40 : PySem.W.nsIn K mainGlobals "least_of" = some (some (.ref f40)))
    (l40 : K.lookup f40 = some ⟨oc40, od40, .func (PySem.W.fnOf "least_of" "least_of" (defArgs s_least_of) (defBody s_least_of) (defScope s_least_of) .none kV40 dc40 pm40 an40 cd40 ct40), sl40⟩)
    (c40 : PySem.W.codeIn K cd40 "least_of" = true)
    (k40 : PySem.W.keepIn K (.ref f40) = true)
    (a41_1 : PySem.W.findIn K (.ref C1) "amount_of" = some (some (.ref f41)))
    (i41 : PySem.W.isFn K (.ref f41) = true)
    (l41 : K.lookup f41 = some ⟨oc41, od41, .func (PySem.W.fnOf "amount_of" "State.amount_of" (defArgs s_State_amount_of) (defBody s_State_amount_of) (defScope s_State_amount_of) .none kV41 dc41 pm41 an41 cd41 ct41), sl41⟩)
    (c41 : PySem.W.codeIn K cd41 "State.amount_of" = true)
    (k41 : PySem.W.keepIn K (.ref f41) = true)
    (a42 : PySem.W.nsIn K mainGlobals "minus" = some (some (.ref f42)))
    (l42 : K.lookup f42 = some ⟨oc42, od42, .func (PySem.W.fnOf "minus" "minus" (defArgs s_minus) (defBody s_minus) (defScope s_minus) .none kV42 dc42 pm42 an42 cd42 ct42), sl42⟩)
    (c42 : PySem.W.codeIn K cd42 "minus" = true)
    (k42 : PySem.W.keepIn K (.ref f42) = true)
    (a43_1 : PySem.W.findIn K (.ref C1) "go" = some (some (.ref f43)))
    (i43 : PySem.W.isFn K (.ref f43) = true)
    (l43 : K.lookup f43 = some ⟨oc43, od43, .func (PySem.W.fnOf "go" "State.go" (defArgs s_State_go) (defBody s_State_go) (defScope s_State_go) .none kV43 dc43 pm43 an43 cd43 ct43), sl43⟩)
    (c43 : PySem.W.codeIn K cd43 "State.go" = true)
    (k43 : PySem.W.keepIn K (.ref f43) = true)
    : LawF PP S0 d_law "_law_script" K mg "law" := by
  have F0 : HD K (S0.on d_law_draw s_law_draw) d_law_draw f0 "_law_draw" "_law_draw" s_law_draw := hd_mk (h := h) l0 c0 k0 (fun _ _ _ _ _ _ us hl => match us, hl with | [_, _], _ => rfl) ck_law_draw
  have F1 : HD K (S0.on d_law_is_below s_law_is_below) d_law_is_below f1 "_law_is_below" "_law_is_below" s_law_is_below := hd_mk (h := h) l1 c1 k1 (fun _ _ _ _ _ _ us hl => match us, hl with | [_, _], _ => rfl) ck_law_is_below
  have F2 : HD K (S0.on d_law_common s_law_common) d_law_common f2 "_law_common" "_law_common" s_law_common := hd_mk (h := h) l2 c2 k2 (fun _ _ _ _ _ _ us hl => match us, hl with | [_, _], _ => rfl) ck_law_common
  have F3 : HD K (S0.on d_law_fraction s_law_fraction) d_law_fraction f3 "_law_fraction" "_law_fraction" s_law_fraction := hd_mk (h := h) l3 c3 k3 (fun _ _ _ _ _ _ us hl => match us, hl with | [_, _], _ => rfl) ck_law_fraction
  have F4 : HD K (S0.on d_law_less s_law_less) d_law_less f4 "_law_less" "_law_less" s_law_less := hd_mk (h := h) l4 c4 k4 (fun _ _ _ _ _ _ us hl => match us, hl with | [_, _], _ => rfl) ck_law_less
  have F5 : HD K (S0.on d_law_go s_law_go) d_law_go f5 "_law_go" "_law_go" s_law_go := hd_mk (h := h) l5 c5 k5 (fun _ _ _ _ _ _ us hl => match us, hl with | [_, _], _ => rfl) ck_law_go
  have F6 : HD K (S0.on d_law_is_number s_law_is_number) d_law_is_number f6 "_law_is_number" "_law_is_number" s_law_is_number := hd_mk (h := h) l6 c6 k6 (fun _ _ _ _ _ _ us hl => match us, hl with | [_, _], _ => rfl) ck_law_is_number
  have F7 : HD K (S0.on d_law_due s_law_due) d_law_due f7 "_law_due" "_law_due" s_law_due := hd_mk (h := h) l7 c7 k7 (fun _ _ _ _ _ _ us hl => match us, hl with | [_, _], _ => rfl) ck_law_due
  have F8 : HD K (S0.on d_law_hand s_law_hand) d_law_hand f8 "_law_hand" "_law_hand" s_law_hand := hd_mk (h := h) l8 c8 k8 (fun _ _ _ _ _ _ us hl => match us, hl with | [_], _ => rfl) ck_law_hand
  have F9 : HD K (S0.on d_common_divisor s_common_divisor) d_common_divisor f9 "common_divisor" "common_divisor" s_common_divisor := hd_mk (h := h) l9 c9 k9 (fun _ _ _ _ _ _ us hl => match us, hl with | [_, _], _ => rfl) ck_common_divisor
  have F10 : HD K (S0.on d_is_integer s_is_integer) d_is_integer f10 "is_integer" "is_integer" s_is_integer := hd_mk (h := h) l10 c10 k10 (fun _ _ _ _ _ _ us hl => match us, hl with | [_], _ => rfl) ck_is_integer
  have F11 : HD K (S0.on d_is_pair s_is_pair) d_is_pair f11 "is_pair" "is_pair" s_is_pair := hd_mk (h := h) l11 c11 k11 (fun _ _ _ _ _ _ us hl => match us, hl with | [_], _ => rfl) ck_is_pair
  have F12 : HD K (S0.on d_is_fraction s_is_fraction) d_is_fraction f12 "is_fraction" "is_fraction" s_is_fraction := hd_mk (h := h) l12 c12 k12 (fun _ _ _ _ _ _ us hl => match us, hl with | [_], _ => rfl) ck_is_fraction
  have F13 : HD K (S0.on d_is_amount s_is_amount) d_is_amount f13 "is_amount" "is_amount" s_is_amount := hd_mk (h := h) l13 c13 k13 (fun _ _ _ _ _ _ us hl => match us, hl with | [_], _ => rfl) ck_is_amount
  have F14 : HD K (S0.on d_are_sums s_are_sums) d_are_sums f14 "are_sums" "are_sums" s_are_sums := hd_mk (h := h) l14 c14 k14 (fun _ _ _ _ _ _ us hl => match us, hl with | [_], _ => rfl) ck_are_sums
  have F15 : HD K (S0.on d_made s_made) d_made f15 "made" "made" s_made := hd_mk (h := h) l15 c15 k15 (fun _ _ _ _ _ _ us hl => match us, hl with | [_, _], _ => rfl) ck_made
  have F16 : HD K (S0.on d_plus s_plus) d_plus f16 "plus" "plus" s_plus := hd_mk (h := h) l16 c16 k16 (fun _ _ _ _ _ _ us hl => match us, hl with | [_, _], _ => rfl) ck_plus
  have F17 : HD K (S0.on d_total_of s_total_of) d_total_of f17 "total_of" "total_of" s_total_of := hd_mk (h := h) l17 c17 k17 (fun _ _ _ _ _ _ us hl => match us, hl with | [_], _ => rfl) ck_total_of
  have F18 : HD K (S0.on d_Evening__init_ s_Evening__init_) d_Evening__init_ f18 "__init__" "Evening.__init__" s_Evening__init_ := hd_mk (h := h) l18 c18 k18 (fun _ _ _ _ _ _ us hl => match us, hl with | [_, _, _], _ => rfl) ck_Evening__init_
  have F19 : HD K (S0.on d_law_made s_law_made) d_law_made f19 "_law_made" "_law_made" s_law_made := hd_mk (h := h) l19 c19 k19 (fun _ _ _ _ _ _ us hl => match us, hl with | [_], _ => rfl) ck_law_made
  have F20 : HD K (S0.on d_law_pairs s_law_pairs) d_law_pairs f20 "_law_pairs" "_law_pairs" s_law_pairs := hd_mk (h := h) l20 c20 k20 (fun _ _ _ _ _ _ us hl => match us, hl with | [_], _ => rfl) ck_law_pairs
  have F21 : HD K (S0.on d_law_row s_law_row) d_law_row f21 "_law_row" "_law_row" s_law_row := hd_mk (h := h) l21 c21 k21 (fun _ _ _ _ _ _ us hl => match us, hl with | [_, _, _], _ => rfl) ck_law_row
  have F22 : HD K (S0.on d_law_odd s_law_odd) d_law_odd f22 "_law_odd" "_law_odd" s_law_odd := hd_mk (h := h) l22 c22 k22 (fun _ _ _ _ _ _ us hl => match us, hl with | [_], _ => rfl) ck_law_odd
  have F23 : HD K (S0.on d_law_spoiled s_law_spoiled) d_law_spoiled f23 "_law_spoiled" "_law_spoiled" s_law_spoiled := hd_mk (h := h) l23 c23 k23 (fun _ _ _ _ _ _ us hl => match us, hl with | [_, _, _], _ => rfl) ck_law_spoiled
  have F24 : HD K (S0.on d_law_cut s_law_cut) d_law_cut f24 "_law_cut" "_law_cut" s_law_cut := hd_mk (h := h) l24 c24 k24 (fun _ _ _ _ _ _ us hl => match us, hl with | [_, _, _], _ => rfl) ck_law_cut
  have F25 : HD K (S0.on d_law_numbers s_law_numbers) d_law_numbers f25 "_law_numbers" "_law_numbers" s_law_numbers := hd_mk (h := h) l25 c25 k25 (fun _ _ _ _ _ _ us hl => match us, hl with | [_, _, _], _ => rfl) ck_law_numbers
  have F26 : HD K (S0.on d_law_times s_law_times) d_law_times f26 "_law_times" "_law_times" s_law_times := hd_mk (h := h) l26 c26 k26 (fun _ _ _ _ _ _ us hl => match us, hl with | [_, _], _ => rfl) ck_law_times
  have F27 : HD K (S0.on d_law_unit s_law_unit) d_law_unit f27 "_law_unit" "_law_unit" s_law_unit := hd_mk (h := h) l27 c27 k27 (fun _ _ _ _ _ _ us hl => match us, hl with | [_], _ => rfl) ck_law_unit
  have F28 : HD K (S0.on d_law_sums s_law_sums) d_law_sums f28 "_law_sums" "_law_sums" s_law_sums := hd_mk (h := h) l28 c28 k28 (fun _ _ _ _ _ _ us hl => match us, hl with | [_, _, _], _ => rfl) ck_law_sums
  have F29 : HD K (S0.on d_law_way s_law_way) d_law_way f29 "_law_way" "_law_way" s_law_way := hd_mk (h := h) l29 c29 k29 (fun _ _ _ _ _ _ us hl => match us, hl with | [_, _], _ => rfl) ck_law_way
  have F30 : HD K (S0.on d_State__init_ s_State__init_) d_State__init_ f30 "__init__" "State.__init__" s_State__init_ := hd_mk (h := h) l30 c30 k30 (fun _ _ _ _ _ _ us hl => match us, hl with | [_, _], _ => rfl) ck_State__init_
  have F31 : HD K (S0.on d_is_within s_is_within) d_is_within f31 "is_within" "is_within" s_is_within := hd_mk (h := h) l31 c31 k31 (fun _ _ _ _ _ _ us hl => match us, hl with | [_, _, _], _ => rfl) ck_is_within
  have F32 : HD K (S0.on d_are_people s_are_people) d_are_people f32 "are_people" "are_people" s_are_people := hd_mk (h := h) l32 c32 k32 (fun _ _ _ _ _ _ us hl => match us, hl with | [_, _], _ => rfl) ck_are_people
  have F33 : HD K (S0.on d_may_pay s_may_pay) d_may_pay f33 "may_pay" "may_pay" s_may_pay := hd_mk (h := h) l33 c33 k33 (fun _ _ _ _ _ _ us hl => match us, hl with | [_, _, _], _ => rfl) ck_may_pay
  have F34 : HD K (S0.on d_gone s_gone) d_gone f34 "gone" "gone" s_gone := hd_mk (h := h) l34 c34 k34 (fun _ _ _ _ _ _ us hl => match us, hl with | [_, _], _ => rfl) ck_gone
  have F35 : HD K (S0.on d_is_row s_is_row) d_is_row f35 "is_row" "is_row" s_is_row := hd_mk (h := h) l35 c35 k35 (fun _ _ _ _ _ _ us hl => match us, hl with | [_, _], _ => rfl) ck_is_row
  have F36 : HD K (S0.on d_is_way s_is_way) d_is_way f36 "is_way" "is_way" s_is_way := hd_mk (h := h) l36 c36 k36 (fun _ _ _ _ _ _ us hl => match us, hl with | [_, _], _ => rfl) ck_is_way
  have F37 : HD K (S0.on d_law s_law) d_law f37 "law" "law" s_law := hd_mk (h := h) l37 c37 k37 (fun _ _ _ _ _ _ us hl => match us, hl with | [_], _ => rfl) ck_law
  have F38 : HD K (S0.on d_State_all_quits s_State_all_quits) d_State_all_quits f38 "all_quits" "State.all_quits" s_State_all_quits := hd_mk (h := h) l38 c38 k38 (fun _ _ _ _ _ _ us hl => match us, hl with | [_], _ => rfl) ck_State_all_quits
  have F39 : HD K (S0.on d_is_less s_is_less) d_is_less f39 "is_less" "is_less" s_is_less := hd_mk (h := h) l39 c39 k39 (fun _ _ _ _ _ _ us hl => match us, hl with | [_, _], _ => rfl) ck_is_less
  have F40 : HD K (S0.on d_least_of s_least_of) d_least_of f40 "least_of" "least_of" s_least_of := hd_mk (h := h) l40 c40 k40 (fun _ _ _ _ _ _ us hl => match us, hl with | [_, _], _ => rfl) ck_least_of
  have F41 : HD K (S0.on d_State_amount_of s_State_amount_of) d_State_amount_of f41 "amount_of" "State.amount_of" s_State_amount_of := hd_mk (h := h) l41 c41 k41 (fun _ _ _ _ _ _ us hl => match us, hl with | [_, _], _ => rfl) ck_State_amount_of
  have F42 : HD K (S0.on d_minus s_minus) d_minus f42 "minus" "minus" s_minus := hd_mk (h := h) l42 c42 k42 (fun _ _ _ _ _ _ us hl => match us, hl with | [_, _], _ => rfl) ck_minus
  have F43 : HD K (S0.on d_State_go s_State_go) d_State_go f43 "go" "State.go" s_State_go := hd_mk (h := h) l43 c43 k43 (fun _ _ _ _ _ _ us hl => match us, hl with | [_, _], _ => rfl) ck_State_go
  have HPP : HP ⟨K, fun n => [C0, C1][n]?, fun _ => none⟩ PP S0 K mg := hp_mk (T := isiT) (N := nfT) pc_ok rfl ⟨hc_mk pg0 hd0 po0 sa0 ha0 hn htk hm0 (List.forall_mem_cons.mpr ⟨na0_0, (List.forall_mem_cons.mpr ⟨na0_1, (List.forall_mem_cons.mpr ⟨na0_2, (List.forall_mem_cons.mpr ⟨na0_3, (fun _ h => nomatch h)⟩)⟩)⟩)⟩), ⟨hc_mk pg1 hd1 po1 sa1 ha1 hn htk hm1 (List.forall_mem_cons.mpr ⟨na1_0, (List.forall_mem_cons.mpr ⟨na1_1, (List.forall_mem_cons.mpr ⟨na1_2, (List.forall_mem_cons.mpr ⟨na1_3, (fun _ h => nomatch h)⟩)⟩)⟩)⟩), trivial⟩⟩
    (List.forall_mem_cons.mpr ⟨hdef_mk X N rfl a0 F0, (List.forall_mem_cons.mpr ⟨hdef_mk X N rfl a1 F1, (List.forall_mem_cons.mpr ⟨hdef_mk X N rfl a2 F2, (List.forall_mem_cons.mpr ⟨hdef_mk X N rfl a3 F3, (List.forall_mem_cons.mpr ⟨hdef_mk X N rfl a4 F4, (List.forall_mem_cons.mpr ⟨hdef_mk X N rfl a5 F5, (List.forall_mem_cons.mpr ⟨hdef_mk X N rfl a6 F6, (List.forall_mem_cons.mpr ⟨hdef_mk X N rfl a7 F7, (List.forall_mem_cons.mpr ⟨hdef_mk X N rfl a8 F8, (List.forall_mem_cons.mpr ⟨hdef_mk X N rfl a9 F9, (List.forall_mem_cons.mpr ⟨hdef_mk X N rfl a10 F10, (List.forall_mem_cons.mpr ⟨hdef_mk X N rfl a11 F11, (List.forall_mem_cons.mpr ⟨hdef_mk X N rfl a12 F12, (List.forall_mem_cons.mpr ⟨hdef_mk X N rfl a13 F13, (List.forall_mem_cons.mpr ⟨hdef_mk X N rfl a14 F14, (List.forall_mem_cons.mpr ⟨hdef_mk X N rfl a15 F15, (List.forall_mem_cons.mpr ⟨hdef_mk X N rfl a16 F16, (List.forall_mem_cons.mpr ⟨hdef_mk X N rfl a17 F17, (List.forall_mem_cons.mpr ⟨hdef_mk X N rfl a19 F19, (List.forall_mem_cons.mpr ⟨hdef_mk X N rfl a20 F20, (List.forall_mem_cons.mpr ⟨hdef_mk X N rfl a21 F21, (List.forall_mem_cons.mpr ⟨hdef_mk X N rfl a22 F22, (List.forall_mem_cons.mpr ⟨hdef_mk X N rfl a23 F23, (List.forall_mem_cons.mpr ⟨hdef_mk X N rfl a24 F24, (List.forall_mem_cons.mpr ⟨hdef_mk X N rfl a25 F25, (List.forall_mem_cons.mpr ⟨hdef_mk X N rfl a26 F26, (List.forall_mem_cons.mpr ⟨hdef_mk X N rfl a27 F27, (List.forall_mem_cons.mpr ⟨hdef_mk X N rfl a28 F28, (List.forall_mem_cons.mpr ⟨hdef_mk X N rfl a29 F29, (List.forall_mem_cons.mpr ⟨hdef_mk X N rfl a31 F31, (List.forall_mem_cons.mpr ⟨hdef_mk X N rfl a32 F32, (List.forall_mem_cons.mpr ⟨hdef_mk X N rfl a33 F33, (List.forall_mem_cons.mpr ⟨hdef_mk X N rfl a34 F34, (List.forall_mem_cons.mpr ⟨hdef_mk X N rfl a35 F35, (List.forall_mem_cons.mpr ⟨hdef_mk X N rfl a36 F36, (List.forall_mem_cons.mpr ⟨hdef_mk X N rfl a37 F37, (List.forall_mem_cons.mpr ⟨hdef_mk X N rfl a39 F39, (List.forall_mem_cons.mpr ⟨hdef_mk X N rfl a40 F40, (List.forall_mem_cons.mpr ⟨hdef_mk X N rfl a42 F42, (fun _ h => nomatch h)⟩)⟩)⟩)⟩)⟩)⟩)⟩)⟩)⟩)⟩)⟩)⟩)⟩)⟩)⟩)⟩)⟩)⟩)⟩)⟩)⟩)⟩)⟩)⟩)⟩)⟩)⟩)⟩)⟩)⟩)⟩)⟩)⟩)⟩)⟩)⟩)⟩)⟩)⟩)
    (List.forall_mem_cons.mpr ⟨⟨C0, f18, _, _, s_Evening__init_, PySem.W.mg_of X N aC0, ⟨mk0, a18_0, i18, kc0⟩, rfl, F18⟩, (List.forall_mem_cons.mpr ⟨⟨C1, f30, _, _, s_State__init_, PySem.W.mg_of X N aC1, ⟨mk1, a30_1, i30, kc1⟩, rfl, F30⟩, (fun _ h => nomatch h)⟩)⟩)
    (List.forall_mem_cons.mpr ⟨⟨C1, f38, _, s_State_all_quits, rfl, ⟨a38_1, i38, k38⟩, F38⟩, (List.forall_mem_cons.mpr ⟨⟨C1, f41, _, s_State_amount_of, rfl, ⟨a41_1, i41, k41⟩, F41⟩, (List.forall_mem_cons.mpr ⟨⟨C1, f43, _, s_State_go, rfl, ⟨a43_1, i43, k43⟩, F43⟩, (fun _ h => nomatch h)⟩)⟩)⟩)
    (List.forall_mem_cons.mpr ⟨glo_int X N qg0 (by rfl), (List.forall_mem_cons.mpr ⟨glo_tup (vs := [.int 0, .int 1]) X N rfl qg1 qg1l (by simp) (.cons ⟨g1t0, rfl⟩ (.cons ⟨g1t1, rfl⟩ (.nil))) (fun _ _ => .cons (.int _) (.cons (.int _) (.nil))) (by rfl), (fun _ h => nomatch h)⟩)⟩)
    (fun X0 hm => (List.forall_mem_cons.mpr ⟨ty_b (hm ▸ PySem.W.mg_none_of X N zt0) (by rfl) (by decide +kernel), (List.forall_mem_cons.mpr ⟨ty_b (hm ▸ PySem.W.mg_none_of X N zt1) (by rfl) (by decide +kernel), (List.forall_mem_cons.mpr ⟨ty_b (hm ▸ PySem.W.mg_none_of X N zt2) (by rfl) (by decide +kernel), (fun _ h => nomatch h)⟩)⟩)⟩))
    (List.forall_mem_cons.mpr ⟨PySem.W.mg_none_of X N z0, (List.forall_mem_cons.mpr ⟨PySem.W.mg_none_of X N z1, (List.forall_mem_cons.mpr ⟨PySem.W.mg_none_of X N z2, (List.forall_mem_cons.mpr ⟨PySem.W.mg_none_of X N z3, (List.forall_mem_cons.mpr ⟨PySem.W.mg_none_of X N z4, (List.forall_mem_cons.mpr ⟨PySem.W.mg_none_of X N z5, (List.forall_mem_cons.mpr ⟨PySem.W.mg_none_of X N z6, (List.forall_mem_cons.mpr ⟨PySem.W.mg_none_of X N z7, (List.forall_mem_cons.mpr ⟨PySem.W.mg_none_of X N z8, (List.forall_mem_cons.mpr ⟨PySem.W.mg_none_of X N z9, (fun _ h => nomatch h)⟩)⟩)⟩)⟩)⟩)⟩)⟩)⟩)⟩)⟩) rfl
    (List.forall_mem_cons.mpr ⟨(fun h => absurd h (by decide +kernel)), (List.forall_mem_cons.mpr ⟨(fun h => absurd h (by decide +kernel)), (List.forall_mem_cons.mpr ⟨(fun h => absurd h (by decide +kernel)), (fun _ h => nomatch h)⟩)⟩)⟩)
    (fun _ h => nomatch h)
  exact ⟨_, f37, _, "law", s_law, HPP, PySem.W.mg_of X N a37, fun_mk (st := s_law) l37 c37 k37, ck_law, fun s v => .of_eq rfl⟩
-- run
end K06
open PySem PySem.W PyProof.Rows in
theorem PySem.Challenge.cw_quitsways_k06_whole_rows_and_ways_judged_holds : PySem.Challenge.rw_quitsways_k06_whole_rows_and_ways_judged.Holds := by
  w_on; o_law; k_head; (case hw => w_witness2)
  k_fill
  refine Mq.law_walk (l := PySem.Challenge.rw_quitsways_k06_whole_rows_and_ways_judged) K06.PP K06.S0 K06.d_law "_law_script" 110 rfl rfl ⟨rfl, by decide, by decide⟩ K06.runs rfl (fun w h Y => PySem.W.kIn_of Y) ?F
  case F =>
    intro w mg h KX G
    refine' K06.all_mk KX G ?aC0 ?mk0 ?kc0 ?pg0 ?hd0 ?po0 ?sa0 ?ha0 ?hm0 ?na0_0 ?na0_1 ?na0_2 ?na0_3 ?aC1 ?mk1 ?kc1 ?pg1 ?hd1 ?po1 ?sa1 ?ha1 ?hm1 ?na1_0 ?na1_1 ?na1_2 ?na1_3 ?hn ?htk ?z0 ?z1 ?z2 ?z3 ?z4 ?z5 ?z6 ?z7 ?z8 ?z9 ?zt0 ?zt1 ?zt2 ?qg0 ?qg1 ?qg1l ?a0 ?l0 ?c0 ?k0 ?a1 ?l1 ?c1 ?k1 ?a2 ?l2 ?c2 ?k2 ?a3 ?l3 ?c3 ?k3 ?a4 ?l4 ?c4 ?k4 ?a5 ?l5 ?c5 ?k5 ?a6 ?l6 ?c6 ?k6 ?a7 ?l7 ?c7 ?k7 ?a8 ?l8 ?c8 ?k8 ?a9 ?l9 ?c9 ?k9 ?a10 ?l10 ?c10 ?k10 ?a11 ?l11 ?c11 ?k11 ?a12 ?l12 ?c12 ?k12 ?a13 ?l13 ?c13 ?k13 ?a14 ?l14 ?c14 ?k14 ?a15 ?l15 ?c15 ?k15 ?a16 ?l16 ?c16 ?k16 ?a17 ?l17 ?c17 ?k17 ?a18_0 ?i18 ?l18 ?c18 ?k18 ?a19 ?l19 ?c19 ?k19 ?a20 ?l20 ?c20 ?k20 ?a21 ?l21 ?c21 ?k21 ?a22 ?l22 ?c22 ?k22 ?a23 ?l23 ?c23 ?k23 ?a24 ?l24 ?c24 ?k24 ?a25 ?l25 ?c25 ?k25 ?a26 ?l26 ?c26 ?k26 ?a27 ?l27 ?c27 ?k27 ?a28 ?l28 ?c28 ?k28 ?a29 ?l29 ?c29 ?k29 ?a30_1 ?i30 ?l30 ?c30 ?k30 ?a31 ?l31 ?c31 ?k31 ?a32 ?l32 ?c32 ?k32 ?a33 ?l33 ?c33 ?k33 ?a34 ?l34 ?c34 ?k34 ?a35 ?l35 ?c35 ?k35 ?a36 ?l36 ?c36 ?k36 ?a37 ?l37 ?c37 ?k37 ?a38_1 ?i38 ?l38 ?c38 ?k38 ?a39 ?l39 ?c39 ?k39 ?a40 ?l40 ?c40 ?k40 ?a41_1 ?i41 ?l41 ?c41 ?k41 ?a42 ?l42 ?c42 ?k42 ?a43_1 ?i43 ?l43 ?c43 ?k43
    (case aC0 => k_is)
    (case mk0 => k_is)
    (case kc0 => k_is)
    (case pg0 => k_is)
    (case hd0 => k_is)
    (case po0 => k_is)
    (case sa0 => k_is)
    (case ha0 => k_is)
    (case hm0 => k_is)
    (case na0_0 => k_is)
    (case na0_1 => k_is)
    (case na0_2 => k_is)
    (case na0_3 => k_is)
    (case aC1 => k_is)
    (case mk1 => k_is)
    (case kc1 => k_is)
    (case pg1 => k_is)
    (case hd1 => k_is)
    (case po1 => k_is)
    (case sa1 => k_is)
    (case ha1 => k_is)
    (case hm1 => k_is)
    (case na1_0 => k_is)
    (case na1_1 => k_is)
    (case na1_2 => k_is)
    (case na1_3 => k_is)
    (case hn => k_is)
    (case htk => k_is)
    (case z0 => k_is)
    (case z1 => k_is)
    (case z2 => k_is)
    (case z3 => k_is)
    (case z4 => k_is)
    (case z5 => k_is)
    (case z6 => k_is)
    (case z7 => k_is)
    (case z8 => k_is)
    (case z9 => k_is)
    (case zt0 => k_is)
    (case zt1 => k_is)
    (case zt2 => k_is)
    (case qg0 => k_is)
    (case qg1 => k_is)
    (case qg1l => k_is)
    (case a0 => k_is)
    (case l0 => k_is)
    (case c0 => k_is)
    (case k0 => k_is)
    (case a1 => k_is)
    (case l1 => k_is)
    (case c1 => k_is)
    (case k1 => k_is)
    (case a2 => k_is)
    (case l2 => k_is)
    (case c2 => k_is)
    (case k2 => k_is)
    (case a3 => k_is)
    (case l3 => k_is)
    (case c3 => k_is)
    (case k3 => k_is)
    (case a4 => k_is)
    (case l4 => k_is)
    (case c4 => k_is)
    (case k4 => k_is)
    (case a5 => k_is)
    (case l5 => k_is)
    (case c5 => k_is)
    (case k5 => k_is)
    (case a6 => k_is)
    (case l6 => k_is)
    (case c6 => k_is)
    (case k6 => k_is)
    (case a7 => k_is)
    (case l7 => k_is)
    (case c7 => k_is)
    (case k7 => k_is)
    (case a8 => k_is)
    (case l8 => k_is)
    (case c8 => k_is)
    (case k8 => k_is)
    (case a9 => k_is)
    (case l9 => k_is)
    (case c9 => k_is)
    (case k9 => k_is)
    (case a10 => k_is)
    (case l10 => k_is)
    (case c10 => k_is)
    (case k10 => k_is)
    (case a11 => k_is)
    (case l11 => k_is)
    (case c11 => k_is)
    (case k11 => k_is)
    (case a12 => k_is)
    (case l12 => k_is)
    (case c12 => k_is)
    (case k12 => k_is)
    (case a13 => k_is)
    (case l13 => k_is)
    (case c13 => k_is)
    (case k13 => k_is)
    (case a14 => k_is)
    (case l14 => k_is)
    (case c14 => k_is)
    (case k14 => k_is)
    (case a15 => k_is)
    (case l15 => k_is)
    (case c15 => k_is)
    (case k15 => k_is)
    (case a16 => k_is)
    (case l16 => k_is)
    (case c16 => k_is)
    (case k16 => k_is)
    (case a17 => k_is)
    (case l17 => k_is)
    (case c17 => k_is)
    (case k17 => k_is)
    (case a18_0 => k_is)
    (case i18 => k_is)
    (case l18 => k_is)
    (case c18 => k_is)
    (case k18 => k_is)
    (case a19 => k_is)
    (case l19 => k_is)
    (case c19 => k_is)
    (case k19 => k_is)
    (case a20 => k_is)
    (case l20 => k_is)
    (case c20 => k_is)
    (case k20 => k_is)
    (case a21 => k_is)
    (case l21 => k_is)
    (case c21 => k_is)
    (case k21 => k_is)
    (case a22 => k_is)
    (case l22 => k_is)
    (case c22 => k_is)
    (case k22 => k_is)
    (case a23 => k_is)
    (case l23 => k_is)
    (case c23 => k_is)
    (case k23 => k_is)
    (case a24 => k_is)
    (case l24 => k_is)
    (case c24 => k_is)
    (case k24 => k_is)
    (case a25 => k_is)
    (case l25 => k_is)
    (case c25 => k_is)
    (case k25 => k_is)
    (case a26 => k_is)
    (case l26 => k_is)
    (case c26 => k_is)
    (case k26 => k_is)
    (case a27 => k_is)
    (case l27 => k_is)
    (case c27 => k_is)
    (case k27 => k_is)
    (case a28 => k_is)
    (case l28 => k_is)
    (case c28 => k_is)
    (case k28 => k_is)
    (case a29 => k_is)
    (case l29 => k_is)
    (case c29 => k_is)
    (case k29 => k_is)
    (case a30_1 => k_is)
    (case i30 => k_is)
    (case l30 => k_is)
    (case c30 => k_is)
    (case k30 => k_is)
    (case a31 => k_is)
    (case l31 => k_is)
    (case c31 => k_is)
    (case k31 => k_is)
    (case a32 => k_is)
    (case l32 => k_is)
    (case c32 => k_is)
    (case k32 => k_is)
    (case a33 => k_is)
    (case l33 => k_is)
    (case c33 => k_is)
    (case k33 => k_is)
    (case a34 => k_is)
    (case l34 => k_is)
    (case c34 => k_is)
    (case k34 => k_is)
    (case a35 => k_is)
    (case l35 => k_is)
    (case c35 => k_is)
    (case k35 => k_is)
    (case a36 => k_is)
    (case l36 => k_is)
    (case c36 => k_is)
    (case k36 => k_is)
    (case a37 => k_is)
    (case l37 => k_is)
    (case c37 => k_is)
    (case k37 => k_is)
    (case a38_1 => k_is)
    (case i38 => k_is)
    (case l38 => k_is)
    (case c38 => k_is)
    (case k38 => k_is)
    (case a39 => k_is)
    (case l39 => k_is)
    (case c39 => k_is)
    (case k39 => k_is)
    (case a40 => k_is)
    (case l40 => k_is)
    (case c40 => k_is)
    (case k40 => k_is)
    (case a41_1 => k_is)
    (case i41 => k_is)
    (case l41 => k_is)
    (case c41 => k_is)
    (case k41 => k_is)
    (case a42 => k_is)
    (case l42 => k_is)
    (case c42 => k_is)
    (case k42 => k_is)
    (case a43_1 => k_is)
    (case i43 => k_is)
    (case l43 => k_is)
    (case c43 => k_is)
    (case k43 => k_is)
