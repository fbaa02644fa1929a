import PyProof.Rows.All
import Wide.All
import OpenK.AllK
import Wide.FinOn
import HandS.ForMost
import HandS.Exc
import HandS.Wide
import HandS.TupAny
import HandS.IsInst
import HandS.Style
import KE.SortData
import KE.DataCmp
import HandS.TupMul
import HandS.TupLe
import HandS.ExcOwn
import HandS.WordsExc
import HandS.SortRule
import HandS.SortInts
import KE.KTupSum
import KE.DataMinMax
import HandS.Iter
import HandS.Zip
import KE.GoesMore
import PyProof.InstNe
import HandS.OwnEq
import HandS.Dict
import HandS.TryMany
import HandS.RaiseMore
import HandS.Conv
import PyProof.ExcBaseAll.ValueError
import HandS.TupSets
import HandS.Keys
import HandS.ExcIs
import HandS.Codes
import KE.RegKTryMore
import HandS.Ends
import PySem.Challenge.RW_quitsways_k38_whole_units_of_evenings
set_option Elab.async false
set_option linter.all false
set_option maxRecDepth 100000
set_option maxHeartbeats 9000000
noncomputable section
/-! MqSem: a small language of Python's, its trees and its meaning over plain data. -/
namespace Mq
open PySem

/-- data -/
inductive Dt where
  | non | bl (b : Bool) | int (i : Int) | str (x : Str)
  | tup (xs : List Dt) | lst (xs : List Dt) | rol (xs : List Dt)
  | ins (c : Nat) (ns : List Str) (vs : List Dt)
  | ref (n : Nat)
  | dct
  deriving Inhabited

/-- what an expression gives: a datum, a list just made, the list that a slot owns -/
inductive RV where
  | v (d : Dt) | nl (xs : List Dt) | bw (i : Nat)
  deriving Inhabited
/-- a slot: empty, a datum, an own list, an own list that is walked, an own instance -/
inductive Sl where
  | un | v (d : Dt) | ol (xs : List Dt) | lk (xs : List Dt) | oi (c : Nat) (ns : List Str) (vs : List Dt)
  /-- the exception in hand, of a class number -/
  | xc (c : Nat)
  deriving Inhabited
/-- a store's object -/
inductive MO where
  | l (xs : List Dt) | i (c : Nat) (ns : List Str) (vs : List Dt)
  deriving Inhabited
structure SS where
  sl : List Sl
  st : List MO
  deriving Inhabited

inductive Out (s a : Type) where
  | ok (x : a) (t : s) | ex (c : Nat) (fs : List Dt) (t : s) | no
def Out.bind {s a b : Type} (x : Out s a) (f : a → s → Out s b) : Out s b := match x with
  | .ok y t => f y t
  | .ex c fs t => .ex c fs t
  | .no => .no

abbrev FR := Out (List MO) RV
/-- the class of a value -/
inductive Ty where
  | b (t : String) | c (n : Nat)
  deriving DecidableEq
/-- what is known of the defs: by name; classes' makings; methods -/
structure Fns where
  call : Str → List Dt → List MO → FR
  make : Str → List Dt → List MO → FR
  meth : Nat → Str → List Dt → List MO → FR
  hasM : Nat → Str → Bool
  glob : Str → Option Dt
  isi : Ty → Str → Option Bool
  nf : Nat → Ty → Bool
  /-- whether an exception of a class is of a named class -/
  xis : Nat → Str → Option Bool

inductive Bop where
  | add | sub | mul | fdiv | mod | pow | shl | shr | band | bor | bxor
  deriving DecidableEq
inductive Cop where
  | eq | ne | lt | le | gt | ge | isin | notin | isn | notn
  deriving DecidableEq
inductive Tg where
  | n (i : Nat) | t (ts : List Tg)

mutual
inductive ME where
  | var (i : Nat) | cst (d : Dt) | glo (x : Str)
  | bin (op : Bop) (a b : ME) | neg (a : ME)
  | cmp (op : Cop) (a b : ME) | cmp2 (o1 o2 : Cop) (a b c : ME)
  | bool (isAnd : Bool) (es : List ME) | not (a : ME) | ite (c a b : ME)
  | tup (es : List ME) | lst (es : List ME)
  | idx (a b : ME) | slc (a : ME) (lo hi : Option ME) | fld (a : ME) (f : Str)
  | call (x : Str) (es : List ME) | make (x : Str) (es : List ME) | meth (a : ME) (m : Str) (es : List ME)
  | bif (x : Str) (es : List ME) | bme (a : ME) (m : Str) (es : List ME) | isi (a : ME) (t : Str)
  | lc (elt : ME) (tg : Tg) (src : MI) (cond : Option ME) (own : List Nat)
  | alloc (a : ME) | rev (a : ME) | trg (a : ME) | ieq (neg : Bool) (a b : ME) | dct (o : Option (Str × Str)) | isx (i : Nat) (t : Str) | lrg (a : ME) | lr2 (a b : ME) | isi2 (a : ME) (t u : Str) | sst (a : ME)
  | lc2 (elt : ME) (tg : Tg) (src : MI) (cond : Option ME) (tg1 : Tg) (src1 : MI) (cond1 : Option ME) (own own1 : List Nat)
  | nevE
/-- what is walked -/
inductive MI where
  | seq (fz : Bool) (e : ME) | rng (es : List ME) | enum (fz : Bool) (e : ME) | zip (es : List ME)
end
mutual
inductive MS where
  | asg (i : Nat) (e : ME) | par (i j : Nat) (a b : ME) | unp (t : Tg) (e : ME)
  | seti (a b e : ME) | setf (a : ME) (f : Str) (e : ME) | aug (i : Nat) (op : Bop) (e : ME)
  | augi (a b : ME) (op : Bop) (e : ME) | augf (a : ME) (f : Str) (op : Bop) (e : ME)
  | expr (e : ME) | ret (e : ME) | retN | brk | cont | pass | nev
  | ifs (c : ME) (a b : List MS) | whl (fuel : Nat) (c : ME) (body : List MS) | forr (tg : Tg) (src : MI) (body : List MS)
  | rais (x : Str) (c : Nat) | tryx (body : List MS) (hs : MH)
/-- except clauses -/
inductive MH where
  | nil | cons (x : Str) (b : List MS) (r : MH) | as (x : Str) (i : Nat) (b : List MS)
end

/-! ### equality, order of data -/
mutual
def deq : Dt → Dt → Bool
  | .non, .non => true
  | .bl a, .bl b => a == b
  | .bl a, .int b => (if a then 1 else 0) == b
  | .int a, .bl b => a == (if b then 1 else 0)
  | .int a, .int b => a == b
  | .str a, .str b => a == b
  | .tup a, .tup b => deqL a b
  | .lst a, .lst b => deqL a b
  | .lst a, .rol b => deqL a b
  | .rol a, .lst b => deqL a b
  | .rol a, .rol b => deqL a b
  | _, _ => false
def deqL : List Dt → List Dt → Bool
  | [], [] => true
  | a :: r, b :: q => deq a b && deqL r q
  | _, _ => false
end
/- plain to a depth: no instance, no object of the store within -/
mutual
def flat : Nat → Dt → Bool
  | _, .non => true | _, .bl _ => true | _, .int _ => true | _, .str x => PyData.strOk x
  | 0, _ => false
  | n + 1, .tup xs => flatL n xs
  | n + 1, .lst xs => flatL n xs
  | n + 1, .rol xs => flatL n xs
  | _ + 1, .ins _ _ _ => false
  | _ + 1, .ref _ => false
  | _ + 1, .dct => false
def flatL : Nat → List Dt → Bool
  | _, [] => true
  | n, x :: r => flat n x && flatL n r
end

/-! ### reading -/
def SS.set (s : SS) (i : Nat) (x : Sl) : SS := { s with sl := s.sl.set i x }
def SS.setO (s : SS) (n : Nat) (x : MO) : SS := { s with st := s.st.set n x }
/-- the tracked list that a value stands for, now -/
def rdt (s : SS) : RV → Option (List Dt)
  | .v (.lst xs) => some xs
  | .v (.ref n) => match s.st[n]? with | some (.l xs) => some xs | _ => none
  | .v _ => none
  | .nl xs => some xs
  | .bw i => match s.sl[i]? with | some (.ol xs) => some xs | some (.lk xs) => some xs | some (.v (.lst xs)) => some xs | _ => none
/-- .. or a list that is read alone -/
def rdl (s : SS) : RV → Option (List Dt)
  | .v (.rol xs) => some xs
  | r => rdt s r
/-- .. or a tuple -/
def rds (s : SS) : RV → Option (List Dt)
  | .v (.tup xs) => some xs
  | r => rdl s r
/-- a snapshot as a datum -/
def rdD (s : SS) : RV → Option Dt
  | .v (.ref n) => (rdt s (.v (.ref n))).map .lst
  | .v d => some d
  | r => (rdt s r).map .lst
/-- made a datum: a new list, an own list stay as they are for ever -/
def val (r : RV) (s : SS) : Out SS Dt := match r with
  | .v d => .ok d s
  | .nl xs => .ok (.lst xs) s
  | .bw i => match s.sl[i]? with
    | some (.ol xs) => .ok (.lst xs) (s.set i (.v (.lst xs)))
    | some (.v (.lst xs)) => .ok (.lst xs) s
    | _ => .no
/-- what a slot becomes that is given a value -/
def toSl (r : RV) (s : SS) : Out SS Sl := match r with
  | .nl xs => .ok (.ol xs) s
  | r => (val r s).bind fun d s => .ok (.v d) s
/-- what is handed back -/
def toRet (r : RV) (s : SS) : Out SS RV := match r with
  | .bw i => match s.sl[i]? with
    | some (.ol xs) => .ok (.nl xs) s
    | some (.v (.lst xs)) => .ok (.v (.lst xs)) s
    | _ => .no
  | r => .ok r s

def bitsOk (i j : Int) : Bool := decide (i.natAbs.log2 + j.natAbs.log2 < 1000000)
def smallDiv (j : Int) : Bool := decide (0 < j) && decide (j.natAbs.log2 < 9000)
def powOk (i j : Int) : Bool := decide (0 ≤ j) && decide (j ≤ 1000000) && decide (i.natAbs < 2 ^ 64)
def binI (op : Bop) (i j : Int) : Option Int := match op with
  | .add => some (i + j)
  | .sub => some (i - j)
  | .mul => if bitsOk i j then some (i * j) else none
  | .fdiv => if smallDiv j then some (i / j) else none
  | .mod => if 0 < j then some (i % j) else none
  | .pow => if powOk i j then some (i ^ j.toNat) else none
  | .shl => if powOk i j then some (i * 2 ^ j.toNat) else none
  | .shr => if 0 ≤ j then some (i / 2 ^ j.toNat) else none
  | .band => some (Builtin.bitAnd i j)
  | .bor => some (Builtin.bitOr i j)
  | .bxor => some (Builtin.bitXor i j)
/-- what a list times a number asks; the kernel is not to look into it -/
theorem exMulFits : ∃ f : Nat → Int → Bool, ∀ n k, f n k = decide (-(2 ^ 63) ≤ k ∧ k < 2 ^ 63 ∧ n * k.toNat ≤ sizeLine) := ⟨_, fun _ _ => rfl⟩
def mulFits : Nat → Int → Bool := Classical.choose exMulFits
theorem mulFits_iff {n : Nat} {k : Int} : mulFits n k = true ↔ -(2 ^ 63) ≤ k ∧ k < 2 ^ 63 ∧ n * k.toNat ≤ sizeLine := by
  rw [show mulFits n k = _ from Classical.choose_spec exMulFits n k, decide_eq_true_eq]
def binL (op : Bop) (a b : RV) (s : SS) : Option RV := match op with
  | .add => match rdt s a, rdt s b with
    | some x, some y => if x.length + y.length ≤ sizeLine then some (.nl (x ++ y)) else none
    | _, _ => none
  | .mul => match rdt s a, b with
    | some x, .v (.int k) => if mulFits x.length k = true then some (.nl (List.replicate k.toNat x).flatten) else none
    | _, _ => none
  | _ => none
def binV (op : Bop) (a b : RV) (s : SS) : Option RV := match a, b with
  | .v (.int i), .v (.int j) => (binI op i j).map fun k => .v (.int k)
  | .v (.str x), .v (.str y) => match op with
    | .add => if x.length + y.length ≤ sizeLine then some (.v (.str (x ++ y))) else none
    | _ => none
  | .v (.tup x), .v (.tup y) => match op with
    | .add => if x.length + y.length ≤ sizeLine then some (.v (.tup (x ++ y))) else none
    | _ => none
  | .v (.tup x), .v (.int k) => match op with
    | .mul => if k = 1 then some (.v (.tup x)) else if x ≠ [] ∧ 2 ≤ k ∧ k ≤ 1000 ∧ x.length ≤ 1000 then some (.v (.tup (List.replicate k.toNat x).flatten)) else none
    | _ => none
  | a, b => binL op a b s
mutual
def py : Dt → PyData
  | .non => .none
  | .bl b => .bool b
  | .int i => .int i
  | .str x => .str x
  | .tup xs => .tuple (pyL xs)
  | .lst xs => .list (pyL xs)
  | .rol xs => .list (pyL xs)
  | .ins _ _ _ => .dict []
  | .ref _ => .dict []
  | .dct => .dict []
def pyL : List Dt → List PyData
  | [] => []
  | x :: r => py x :: pyL r
end
/-- < <= > >= of texts, of data that are alike place by place -/
def ordF (op : Cop) (a b : Dt) : Option Bool := match op with
  | .lt => some (PySem.W.dataLt (py a) (py b))
  | .le => some (!PySem.W.dataLt (py b) (py a))
  | .gt => some (PySem.W.dataLt (py b) (py a))
  | .ge => some (!PySem.W.dataLt (py a) (py b))
  | _ => none
def ordD (op : Cop) (a b : Dt) : Option Bool := if flat 40 a && flat 40 b && PySem.W.alike (py a) (py b) then ordF op a b else none
def isTupC : Dt → Bool
  | .tup (_ :: _) => true
  | _ => false
def notNT : Dt → Bool
  | .non => false | .tup _ => false | _ => true
/-- what can be sorted -/
def srtOk (xs : List Dt) : Bool := flatL 39 xs && (xs.all fun a => xs.all fun b => PySem.W.alike (py a) (py b)) && (xs.all isTupC || xs.all notNT)
def dle (a b : Dt) : Bool := !PySem.W.dataLt (py b) (py a)
def allInts : List Dt → Option (List Int)
  | [] => some []
  | .int i :: r => (allInts r).map (i :: ·)
  | _ => none
/-- tuples of ints, in their order -/
def lexC (op : Cop) : List Int → List Int → Bool
  | [], [] => (match op with | .le => true | .ge => true | _ => false)
  | [], _ :: _ => (match op with | .lt => true | .le => true | _ => false)
  | _ :: _, [] => (match op with | .gt => true | .ge => true | _ => false)
  | x :: xs, y :: ys => if x = y then lexC op xs ys else (match op with | .lt => decide (x < y) | .le => decide (x ≤ y) | .gt => decide (y < x) | .ge => decide (y ≤ x) | _ => false)
def ordT (op : Cop) (xs ys : List Dt) : Option Bool := match allInts xs, allInts ys with
  | some a, some b => some (lexC op a b)
  | _, _ => none
def ordTD (op : Cop) (xs ys : List Dt) : Option Bool := match ordT op xs ys with | some b => some b | none => ordD op (.tup xs) (.tup ys)
def cmpV (op : Cop) (a b : RV) (s : SS) : Option Bool := match op, a, b with
  | .lt, .v (.int i), .v (.int j) => some (decide (i < j))
  | .le, .v (.int i), .v (.int j) => some (decide (i ≤ j))
  | .gt, .v (.int i), .v (.int j) => some (decide (j < i))
  | .ge, .v (.int i), .v (.int j) => some (decide (j ≤ i))
  | .eq, a, b => match rdD s a, rdD s b with
    | some x, some y => if flat 40 x && flat 40 y then some (deq x y) else none
    | _, _ => none
  | .ne, a, b => match rdD s a, rdD s b with
    | some x, some y => if flat 40 x && flat 40 y then some (!deq x y) else none
    | _, _ => none
  | .isn, .v a, .v .non => some (match a with | .non => true | _ => false)
  | .notn, .v a, .v .non => some (match a with | .non => false | _ => true)
  | .isn, .v (.bl a), .v (.bl b) => some (a == b)
  | .notn, .v (.bl a), .v (.bl b) => some (!(a == b))
  | .isin, .v x, b => match rds s b with
    | some ys => if flat 40 x && flatL 39 ys then some (ys.any fun y => deq y x) else none
    | none => none
  | .notin, .v x, b => match rds s b with
    | some ys => if flat 40 x && flatL 39 ys then some (!(ys.any fun y => deq y x)) else none
    | none => none
  | .lt, .v (.tup xs), .v (.tup ys) => ordTD .lt xs ys
  | .lt, .v (.str x), .v (.str y) => ordD .lt (.str x) (.str y)
  | .le, .v (.tup xs), .v (.tup ys) => ordTD .le xs ys
  | .le, .v (.str x), .v (.str y) => ordD .le (.str x) (.str y)
  | .gt, .v (.tup xs), .v (.tup ys) => ordTD .gt xs ys
  | .gt, .v (.str x), .v (.str y) => ordD .gt (.str x) (.str y)
  | .ge, .v (.tup xs), .v (.tup ys) => ordTD .ge xs ys
  | .ge, .v (.str x), .v (.str y) => ordD .ge (.str x) (.str y)
  | _, _, _ => none
def cutD (xs : List Dt) (lo hi : Option Int) : List Dt := (xs.drop (HT.sIx xs.length 0 lo)).take (HT.sIx xs.length xs.length hi - HT.sIx xs.length 0 lo)
def idxV (a b : RV) (s : SS) : Option RV := match a, b with
  | .v (.str z), .v (.int i) => if z.length ≤ sizeLine then (L2.atI z.cps.toList i).map fun c => .v (.str ⟨#[c]⟩) else none
  | a, .v (.int i) => match rds s a with
    | some xs => (L2.atI xs i).map .v
    | none => none
  | _, _ => none
def slcV (a : RV) (lo hi : Option Int) (s : SS) : Option RV := match a with
  | .v (.tup xs) => some (.v (.tup (cutD xs lo hi)))
  | a => match rdl s a with
    | some xs => some (.nl (cutD xs lo hi))
    | none => none
def lkF (f : Str) : List Str → List Dt → Option Dt
  | n :: ns, d :: ds => if n = f then some d else lkF f ns ds
  | _, _ => none
def putN (f : Str) : List Str → List Str
  | [] => [f]
  | n :: ns => if n = f then n :: ns else n :: putN f ns
def putD (f : Str) (y : Dt) : List Str → List Dt → List Dt
  | n :: ns, d :: ds => if n = f then y :: ds else d :: putD f y ns ds
  | _, _ => [y]
def fldV (a : RV) (f : Str) (s : SS) : Option Dt := match a with
  | .v (.ins _ ns vs) => lkF f ns vs
  | .v (.ref n) => match s.st[n]? with | some (.i _ ns vs) => lkF f ns vs | _ => none
  | .bw i => match s.sl[i]? with | some (.oi _ ns vs) => lkF f ns vs | _ => none
  | _ => none
/-- the class of an instance whose method m is asked -/
def mcls (a : RV) (m : Str) (s : SS) : Option Nat := match a with
  | .v (.ins c ns _) => if ns.contains m then none else some c
  | .v (.ref n) => match s.st[n]? with | some (.i c ns _) => if ns.contains m then none else some c | _ => none
  | _ => none
def tyV (a : RV) (s : SS) : Option Ty := match a with
  | .v .non => some (.b "NoneType")
  | .v (.bl _) => some (.b "bool")
  | .v (.int _) => some (.b "int")
  | .v (.str _) => some (.b "str")
  | .v (.tup _) => some (.b "tuple")
  | .v (.lst _) => some (.b "list")
  | .v (.rol _) => none
  | .v (.ins c _ _) => some (.c c)
  | .v .dct => some (.b "dict")
  | .v (.ref n) => match s.st[n]? with | some (.l _) => some (.b "list") | some (.i c _ _) => some (.c c) | none => none
  | .nl _ => some (.b "list")
  | .bw i => match s.sl[i]? with | some (.ol _) => some (.b "list") | some (.lk _) => some (.b "list") | some (.v (.lst _)) => some (.b "list") | _ => none
def allBls : List Dt → Option (List Bool)
  | [] => some []
  | .bl i :: r => (allBls r).map (i :: ·)
  | _ => none
def isort (ns : List Int) : List Int := ns.mergeSort fun a b => decide (a ≤ b)
/-- pairs, in their order -/
def lexLe (p q : Int × Int) : Bool := decide (p.1 < q.1) || (decide (p.1 = q.1) && decide (p.2 ≤ q.2))
def psort (ps : List (Int × Int)) : List (Int × Int) := ps.mergeSort lexLe
def prI (p : Int × Int) : Dt := .tup [.int p.1, .int p.2]
def allPrs : List Dt → Option (List (Int × Int))
  | [] => some []
  | .tup [.int a, .int b] :: r => (allPrs r).map fun q => (a, b) :: q
  | _ :: _ => none
def minL : List Int → Option Int
  | [] => none
  | [x] => some x
  | x :: r => (minL r).map fun m => if x ≤ m then x else m
def maxL : List Int → Option Int
  | [] => none
  | [x] => some x
  | x :: r => (maxL r).map fun m => if m ≤ x then x else m
def bLen (a : RV) (s : SS) : Option RV := match a with
  | .v (.str z) => if z.length ≤ sizeLine then some (.v (.int z.length)) else none
  | a => (rds s a).map fun xs => .v (.int xs.length)
def bAbs (a : RV) : Option RV := match a with | .v (.int i) => some (.v (.int (if i < 0 then -i else i))) | _ => none
def bInt (a : RV) : Option RV := match a with | .v (.int i) => some (.v (.int i)) | .v (.bl k) => some (.v (.int (if k then 1 else 0))) | _ => none
def bTup (a : RV) (s : SS) : Option RV := match a with | .v (.tup xs) => some (.v (.tup xs)) | a => (rdl s a).map fun xs => .v (.tup xs)
def srtV (a : RV) (s : SS) : Option RV := match (rds s a).bind allInts with
  | some ns => some (.nl ((isort ns).map .int))
  | none => match (rds s a).bind allPrs with
    | some ps => some (.nl ((psort ps).map prI))
    | none => (rds s a).bind fun xs => if srtOk xs then some (.nl (xs.mergeSort dle)) else none
/-- built-in functions and types of one argument -/
def bif1 (f : Str) (a : RV) (s : SS) : Option RV :=
  if f = "len" then bLen a s
  else if f = "abs" then bAbs a
  else if f = "int" then bInt a
  else if f = "tuple" then bTup a s
  else if f = "list" then (rds s a).map fun xs => .nl xs
  else if f = "all" then ((rdl s a).bind allBls).map fun bs => .v (.bl (bs.all id))
  else if f = "any" then ((rdl s a).bind allBls).map fun bs => .v (.bl (bs.any id))
  else if f = "sum" then ((rds s a).bind allInts).map fun ns => .v (.int ns.sum)
  else if f = "min" then (((rds s a).bind allInts).bind minL).map fun m => .v (.int m)
  else if f = "max" then (((rds s a).bind allInts).bind maxL).map fun m => .v (.int m)
  else if f = "sorted" then srtV a s
  else none
def bif2 (f : Str) (a b : Dt) : Option RV := match a, b with
  | .int i, .int j => if f = "min" then some (.v (.int (if j < i then j else i))) else if f = "max" then some (.v (.int (if j > i then j else i))) else none
  | _, _ => none
/-- a list is changed -/
def wrL (r : RV) (f : List Dt → Option (List Dt × Dt)) (s : SS) : Out SS Dt := match r with
  | .bw i => match s.sl[i]? with
    | some (.ol xs) => match f xs with | some (ys, d) => .ok d (s.set i (.ol ys)) | none => .no
    | _ => .no
  | .v (.ref n) => match s.st[n]? with
    | some (.l xs) => match f xs with | some (ys, d) => .ok d (s.setO n (.l ys)) | none => .no
    | _ => .no
  | _ => .no
def appF (y : Dt) (xs : List Dt) : Option (List Dt × Dt) := if xs.length < sizeLine then some (xs ++ [y], .non) else none
def setF (k : Int) (y : Dt) (xs : List Dt) : Option (List Dt × Dt) := (L2.ixN xs.length k).map fun j => (xs.set j y, .non)
def popAtF (k : Int) (xs : List Dt) : Option (List Dt × Dt) := if -(2 ^ 63) ≤ k ∧ k < 2 ^ 63 then (seqIndex? k xs.length).bind fun j => xs[j]?.map fun y => (xs.eraseIdx j, y) else none
def popF (xs : List Dt) : Option (List Dt × Dt) := xs[xs.length - 1]?.map fun y => (xs.dropLast, y)
def extF (ys xs : List Dt) : Option (List Dt × Dt) := if xs.length + ys.length ≤ sizeLine then some (xs ++ ys, .non) else none

def popDF (d : Dt) (xs : List Dt) : Option (List Dt × Dt) := match d with | .int k => popAtF k xs | _ => none
def extDF (d : Dt) (xs : List Dt) : Option (List Dt × Dt) := match d with | .lst ys => extF ys xs | _ => none
/-- a list's method of one argument -/
def mthF (m : Str) (d : Dt) (xs : List Dt) : Option (List Dt × Dt) :=
  if m = "append" then appF d xs
  else if m = "pop" then popDF d xs
  else if m = "extend" then extDF d xs
  else none
def liftF (r : FR) (s : SS) : Out SS RV := match r with
  | .ok v st => .ok v { s with st := st }
  | .ex c fs st => .ex c fs { s with st := st }
  | .no => .no
def lift (r : Option RV) (s : SS) : Out SS RV := match r with | some v => .ok v s | none => .no
def liftB (r : Option Bool) (s : SS) : Out SS RV := match r with | some b => .ok (.v (.bl b)) s | none => .no

/-! ### targets -/
mutual
def bindT : Tg → Dt → SS → Out SS Unit
  | .n i, d, s => .ok () (s.set i (.v d))
  | .t ts, d, s => match d with
    | .tup xs => bindTs ts xs s
    | _ => .no
def bindTs : List Tg → List Dt → SS → Out SS Unit
  | [], [], s => .ok () s
  | t :: ts, d :: ds, s => (bindT t d s).bind fun _ s => bindTs ts ds s
  | _, _, _ => .no
end
/-- the block's own slots, emptied (they hold data alone) -/
def wipeS : List Nat → SS → SS
  | [], s => s
  | i :: r, s => (wipeS r s).set i .un
def backS (s0 : SS) : List Nat → SS → SS
  | [], s => s
  | i :: r, s => (backS s0 r s).set i (s0.sl.getD i .un)
def wipeOk (own : List Nat) (s : SS) : Bool := own.all fun i => match s.sl[i]? with | some .un => true | some (.v _) => true | _ => false
/-- an own list is walked: locked meanwhile -/
def lock (r : RV) (s : SS) : SS := match r with
  | .bw i => match s.sl[i]? with | some (.ol xs) => s.set i (.lk xs) | _ => s
  | _ => s
def unlock (r : RV) (s0 s : SS) : SS := match r with
  | .bw i => match s0.sl[i]?, s.sl[i]? with | some (.ol _), some (.lk ys) => s.set i (.ol ys) | _, _ => s
  | _ => s
mutual
def decD : (a b : Dt) → Decidable (a = b)
  | .non, b => by cases b <;> first | exact Decidable.isTrue rfl | exact Decidable.isFalse (fun h => nomatch h)
  | .bl x, b => by
    cases b with
    | bl y => exact if h : x = y then Decidable.isTrue (by rw [h]) else Decidable.isFalse fun e => h (Dt.bl.inj e)
    | _ => exact Decidable.isFalse (fun h => nomatch h)
  | .int x, b => by
    cases b with
    | int y => exact if h : x = y then Decidable.isTrue (by rw [h]) else Decidable.isFalse fun e => h (Dt.int.inj e)
    | _ => exact Decidable.isFalse (fun h => nomatch h)
  | .str x, b => by
    cases b with
    | str y => exact if h : x = y then Decidable.isTrue (by rw [h]) else Decidable.isFalse fun e => h (Dt.str.inj e)
    | _ => exact Decidable.isFalse (fun h => nomatch h)
  | .tup x, b => by
    cases b with
    | tup y => exact match decDL x y with | Decidable.isTrue h => Decidable.isTrue (by rw [h]) | Decidable.isFalse h => Decidable.isFalse fun e => h (Dt.tup.inj e)
    | _ => exact Decidable.isFalse (fun h => nomatch h)
  | .lst x, b => by
    cases b with
    | lst y => exact match decDL x y with | Decidable.isTrue h => Decidable.isTrue (by rw [h]) | Decidable.isFalse h => Decidable.isFalse fun e => h (Dt.lst.inj e)
    | _ => exact Decidable.isFalse (fun h => nomatch h)
  | .rol x, b => by
    cases b with
    | rol y => exact match decDL x y with | Decidable.isTrue h => Decidable.isTrue (by rw [h]) | Decidable.isFalse h => Decidable.isFalse fun e => h (Dt.rol.inj e)
    | _ => exact Decidable.isFalse (fun h => nomatch h)
  | .ins c ns vs, b => by
    cases b with
    | ins c' ns' vs' => exact if h : c = c' ∧ ns = ns' then (match decDL vs vs' with | Decidable.isTrue h' => Decidable.isTrue (by rw [h.1, h.2, h']) | Decidable.isFalse h' => Decidable.isFalse fun e => h' (Dt.ins.inj e).2.2) else Decidable.isFalse fun e => h ⟨(Dt.ins.inj e).1, (Dt.ins.inj e).2.1⟩
    | _ => exact Decidable.isFalse (fun h => nomatch h)
  | .dct, b => by
    cases b with
    | dct => exact Decidable.isTrue rfl
    | _ => exact Decidable.isFalse (fun h => nomatch h)
  | .ref x, b => by
    cases b with
    | ref y => exact if h : x = y then Decidable.isTrue (by rw [h]) else Decidable.isFalse fun e => h (Dt.ref.inj e)
    | _ => exact Decidable.isFalse (fun h => nomatch h)
def decDL : (a b : List Dt) → Decidable (a = b)
  | [], [] => Decidable.isTrue rfl
  | [], _ :: _ => Decidable.isFalse (fun h => nomatch h)
  | _ :: _, [] => Decidable.isFalse (fun h => nomatch h)
  | x :: r, y :: q => match decD x y, decDL r q with
    | Decidable.isTrue h, Decidable.isTrue k => Decidable.isTrue (by rw [h, k])
    | Decidable.isFalse h, _ => Decidable.isFalse fun e => h (List.cons.inj e).1
    | _, Decidable.isFalse k => Decidable.isFalse fun e => k (List.cons.inj e).2
end
instance : DecidableEq Dt := decD
/-- a pair is put into an ascending list, once -/
def insP (p : Int × Int) : List (Int × Int) → List (Int × Int)
  | [] => [p]
  | q :: r => if p = q then q :: r else if lexLe p q = true then p :: q :: r else q :: insP p r
/-- sorted(set(..)) of pairs -/
def ssetP : List (Int × Int) → List (Int × Int)
  | [] => []
  | p :: r => insP p (ssetP r)
def posP (p : Int × Int) : Bool := decide (0 ≤ p.1) && decide (0 ≤ p.2)
def sstV (a : RV) (s : SS) : Option RV := match (rdl s a).bind allPrs with
  | some ps => if decide (ps.length < 64) && ps.all posP then some (.nl ((ssetP ps).map prI)) else none
  | none => none
/-- what is walked: its items, the value that must stand meanwhile -/
structure IV where
  xs : List Dt
  src : RV
  ys : List Dt
/-- a list of the store stands as it stood -/
def chk (xs : List Dt) (r : RV) (s : SS) : Bool := match r with
  | .v (.ref n) => (match s.st[n]? with | some (.l ys) => decide (xs = ys) | _ => false)
  | _ => true

def lcLoop (ck : SS → Bool) (tg : SS → Dt → Out SS Unit) (own : List Nat) (c : SS → Out SS Bool) (e : SS → Out SS Dt) : List Dt → List Dt → SS → Out SS (List Dt)
  | [], acc, s => .ok acc s
  | x :: xs, acc, s => (tg (wipeS own s) x).bind fun _ s => (c s).bind fun b s =>
      if b then (e s).bind fun d s => if acc.length < sizeLine ∧ ck s then lcLoop ck tg own c e xs (acc ++ [d]) s else .no
      else if ck s then lcLoop ck tg own c e xs acc s else .no

/-- a source that stands for ever -/
def frzIV (iv : IV) : Bool := match iv.src with
  | .v (.ref _) => false
  | .v _ => true
  | _ => false
/-- a comprehension of two clauses -/
def lc2Loop (ck : SS → Bool) (tg : SS → Dt → Out SS Unit) (own : List Nat) (c : SS → Out SS Bool) (src1 : SS → Out SS IV) (lp : List Dt → List Dt → SS → Out SS (List Dt)) : List Dt → List Dt → SS → Out SS (List Dt)
  | [], acc, s => .ok acc s
  | x :: xs, acc, s => (tg (wipeS own s) x).bind fun _ s => (c s).bind fun b s =>
      if b then (src1 s).bind fun iv s => if frzIV iv && ck s then (lp iv.xs acc s).bind fun acc s => if ck s then lc2Loop ck tg own c src1 lp xs acc s else .no else .no
      else if ck s then lc2Loop ck tg own c src1 lp xs acc s else .no

inductive Fl where
  | nx | ret (r : RV) | bk | ct
def whN (c : SS → Out SS Bool) (b : SS → Out SS Fl) : Nat → SS → Out SS Fl
  | 0, _ => .no
  | n + 1, s => (c s).bind fun k s => if k then (b s).bind fun f s => (match f with
      | .nx => whN c b n s
      | .ct => whN c b n s
      | .bk => .ok .nx s
      | .ret r => .ok (.ret r) s) else .ok .nx s
def forL (ck : SS → Bool) (tg : SS → Dt → Out SS Unit) (b : SS → Out SS Fl) : List Dt → SS → Out SS Fl
  | [], s => .ok .nx s
  | x :: xs, s => (tg s x).bind fun _ s => (b s).bind fun f s => (match f with
      | .nx => if ck s then forL ck tg b xs s else .no
      | .ct => if ck s then forL ck tg b xs s else .no
      | .bk => .ok .nx s
      | .ret r => .ok (.ret r) s)
/-- where nothing may be raised -/
def Out.noex {s a : Type} (x : Out s a) : Out s a := match x with
  | .ok y t => .ok y t
  | .ex _ _ _ => .no
  | .no => .no
/-- what is done to the state at every end -/
def Out.fix {a : Type} (f : SS → SS) (x : Out SS a) : Out SS a := match x with
  | .ok y s => .ok y (f s)
  | .ex c fs s => .ex c fs (f s)
  | .no => .no

def asB (r : RV) (s : SS) : Out SS Bool := match r with | .v (.bl b) => .ok b s | _ => .no
/-- an instance's own == -/
def ieqF (G : Fns) (neg : Bool) (x y : RV) (s : SS) : Out SS RV := match x, tyV y s with
  | .v (.ins c ns vs), some ty => if G.hasM c "__eq__" && G.nf c ty then
      (val y s).bind fun d s => ((liftF (G.meth c "__eq__" [.ins c ns vs, d] s.st) s).noex.bind asB).bind fun k s => .ok (.v (.bl (k != neg))) s
    else .no
  | _, _ => .no
/-- no exception is in hand any more -/
def clrS : Sl → Sl
  | .xc _ => .un
  | x => x
def clrX (s : SS) : SS := { s with sl := s.sl.map clrS }
/-! ### the meaning -/
def rngI (lo hi : Int) : List Dt := (List.range (hi - lo).toNat).map fun i => Dt.int (lo + (i : Nat))
/-- downwards -/
def rngD (lo hi : Int) : List Dt := (List.range (lo - hi).toNat).map fun i => Dt.int (lo - (i : Nat))
def rngOk (i : Int) : Bool := decide (-(2 ^ 62) ≤ i) && decide (i < 2 ^ 62)
def enumL : Nat → List Dt → List Dt
  | _, [] => []
  | n, x :: r => .tup [.int n, x] :: enumL (n + 1) r
mutual
def ev (G : Fns) : ME → SS → Out SS RV
  | .var i, s => match s.sl[i]? with
    | some (.v d) => .ok (.v d) s
    | some (.ol _) => .ok (.bw i) s
    | some (.lk _) => .ok (.bw i) s
    | some (.oi _ _ _) => .ok (.bw i) s
    | _ => .no
  | .cst d, s => .ok (.v d) s
  | .glo x, s => match G.glob x with | some d => .ok (.v d) s | none => .no
  | .bin op a b, s => (ev G a s).bind fun x s => (ev G b s).bind fun y s => lift (binV op x y s) s
  | .neg a, s => (ev G a s).bind fun x s => match x with | .v (.int i) => .ok (.v (.int (-i))) s | _ => .no
  | .cmp op a b, s => (ev G a s).bind fun x s => (ev G b s).bind fun y s => liftB (cmpV op x y s) s
  | .cmp2 o1 o2 a b c, s => (ev G a s).bind fun x s => (ev G b s).bind fun y s => match cmpV o1 x y s with
    | some true => (ev G c s).bind fun z s => liftB (cmpV o2 y z s) s
    | some false => .ok (.v (.bl false)) s
    | none => .no
  | .bool isAnd es, s => evB G isAnd es s
  | .not a, s => (ev G a s).bind fun x s => (asB x s).bind fun b s => .ok (.v (.bl (!b))) s
  | .ite c a b, s => (ev G c s).bind fun x s => (asB x s).bind fun k s => if k then ev G a s else ev G b s
  | .tup es, s => (evs G es s).bind fun ds s => if ds.length ≤ sizeLine then .ok (.v (.tup ds)) s else .no
  | .lst es, s => (evs G es s).bind fun ds s => if ds.length ≤ sizeLine then .ok (.nl ds) s else .no
  | .idx a b, s => (ev G a s).bind fun x s => (ev G b s).bind fun y s => lift (idxV x y s) s
  | .slc a lo hi, s => (ev G a s).bind fun x s => (evO G lo s).bind fun l s => (evO G hi s).bind fun h s => lift (slcV x l h s) s
  | .fld a f, s => (ev G a s).bind fun x s => lift ((fldV x f s).map .v) s
  | .call x es, s => (evs G es s).bind fun ds s => liftF (G.call x ds s.st) s
  | .make x es, s => (evs G es s).bind fun ds s => liftF (G.make x ds s.st) s
  | .meth a m es, s => (ev G a s).bind fun x s => match x, mcls x m s with
    | .v d, some c => if G.hasM c m then (evs G es s).bind fun ds s => liftF (G.meth c m (d :: ds) s.st) s else .no
    | _, _ => .no
  | .bif x es, s => match es with
    | [a] => (ev G a s).bind fun r s => lift (bif1 x r s) s
    | [a, b] => (ev G a s).bind fun r s => (val r s).bind fun d s => (ev G b s).bind fun r s => (val r s).bind fun d' s => lift (bif2 x d d') s
    | _ => .no
  | .bme a m es, s => (ev G a s).bind fun r s => match rdt s r with
    | none => .no
    | some _ => match es with
      | [] => if m = "pop" then (wrL r popF s).bind fun d s => .ok (.v d) s else .no
      | [e] => (ev G e s).bind fun y s => (val y s).bind fun d s => (wrL r (mthF m d) s).bind fun d s => .ok (.v d) s
      | _ => .no
  | .isi a t, s => (ev G a s).bind fun x s => match (tyV x s).bind fun ty => G.isi ty t with
    | some b => .ok (.v (.bl b)) s
    | none => .no
  | .lc elt tg src cond own, s => (evI G src s).bind fun iv s =>
    if wipeOk own s then
      ((lcLoop (chk iv.ys iv.src) (fun s x => bindT tg x s) own (fun s => match cond with | none => .ok true s | some c => ((ev G c s).bind asB).noex) (fun s => ((ev G elt s).bind val).noex) iv.xs [] (lock iv.src s)).fix fun s' => unlock iv.src s (backS s own s')).bind fun acc s => .ok (.nl acc) s
    else .no
  | .nevE, _ => .no
  | .lc2 elt tg src cond tg1 src1 cond1 own own1, s => (evI G src s).bind fun iv s =>
    if wipeOk own s then
      ((lc2Loop (chk iv.ys iv.src) (fun s x => bindT tg x s) own (fun s => match cond with | none => .ok true s | some c => ((ev G c s).bind asB).noex) (fun s => (evI G src1 s).noex)
        (lcLoop (chk iv.ys iv.src) (fun s x => bindT tg1 x s) own1 (fun s => match cond1 with | none => .ok true s | some c => ((ev G c s).bind asB).noex) (fun s => ((ev G elt s).bind val).noex)) iv.xs [] (lock iv.src s)).fix fun s' => unlock iv.src s (backS s own s')).bind fun acc s => .ok (.nl acc) s
    else .no
  | .alloc a, s => (ev G a s).bind fun x s => match x with
    | .nl xs => .ok (.v (.ref s.st.length)) { s with st := s.st ++ [.l xs] }
    | _ => .no
  | .dct _, s => .ok (.v .dct) s
  | .isx i t, s => match s.sl[i]? with
    | some (.xc c) => (match G.xis c t with
      | some b => .ok (.v (.bl b)) s
      | none => .no)
    | _ => .no
  | .ieq neg a b, s => (ev G a s).bind fun x s => (ev G b s).bind fun y s => ieqF G neg x y s
  | .trg a, s => (ev G a s).bind fun x s => match x with
    | .v (.int j) => if rngOk j && decide (j ≤ 1000000) then .ok (.v (.tup (rngI 0 j))) s else .no
    | _ => .no
  | .lrg a, s => (ev G a s).bind fun x s => match x with
    | .v (.int j) => if rngOk j && decide (j ≤ 1000000) then .ok (.nl (rngI 0 j)) s else .no
    | _ => .no
  | .lr2 a b, s => (ev G a s).bind fun x s => match x with
    | .v (.int i) => (ev G b s).bind fun y s => (match y with
      | .v (.int j) => if rngOk i && rngOk j && decide (j - i ≤ 1000000) then .ok (.nl (rngI i j)) s else .no
      | _ => .no)
    | _ => .no
  | .isi2 a t u, s => (ev G a s).bind fun x s => match x with
    | .v d => (match (tyV (.v d) s).bind fun ty => (G.isi ty t).bind fun b => (G.isi ty u).map fun c => b || c with
      | some b => .ok (.v (.bl b)) s
      | none => .no)
    | _ => .no
  | .sst a, s => (ev G a s).bind fun x s => lift (sstV x s) s
  | .rev a, s => (ev G a s).bind fun x s => match x with
    | .v (.tup xs) => .ok (.v (.tup xs.reverse)) s
    | x => match rdl s x with
      | some xs => .ok (.nl xs.reverse) s
      | none => .no
def evB (G : Fns) (isAnd : Bool) : List ME → SS → Out SS RV
  | [], _ => .no
  | [a], s => ev G a s
  | a :: r, s => (ev G a s).bind fun x s => (asB x s).bind fun k s => if k == isAnd then evB G isAnd r s else .ok (.v (.bl k)) s
def evs (G : Fns) : List ME → SS → Out SS (List Dt)
  | [], s => .ok [] s
  | e :: r, s => (ev G e s).bind fun x s => (val x s).bind fun d s => (evs G r s).bind fun ds s => .ok (d :: ds) s
def evO (G : Fns) : Option ME → SS → Out SS (Option Int)
  | none, s => .ok none s
  | some e, s => (ev G e s).bind fun x s => match x with | .v (.int i) => .ok (some i) s | _ => .no
def evI (G : Fns) : MI → SS → Out SS IV
  | .seq fz e, s => (ev G e s).bind fun r s => if fz then (val r s).bind fun d s => (match rds s (.v d) with | some xs => .ok ⟨xs, .v d, xs⟩ s | none => .no)
      else match rds s r with | some xs => .ok ⟨xs, r, xs⟩ s | none => .no
  | .rng es, s => (evs G es s).bind fun ds s => match ds with
    | [.int j] => if rngOk j then .ok ⟨rngI 0 j, .v .non, []⟩ s else .no
    | [.int i, .int j] => if rngOk i && rngOk j then .ok ⟨rngI i j, .v .non, []⟩ s else .no
    | [.int i, .int j, .int c] => if rngOk i && rngOk j && c == -1 then .ok ⟨rngD i j, .v .non, []⟩ s else .no
    | _ => .no
  | .enum fz e, s => (ev G e s).bind fun r s => if fz then (val r s).bind fun d s => (match rds s (.v d) with | some xs => .ok ⟨enumL 0 xs, .v d, xs⟩ s | none => .no)
      else match rds s r with | some xs => .ok ⟨enumL 0 xs, r, xs⟩ s | none => .no
  | .zip es, s => (evs G es s).bind fun ds s => match ds with
    | [.lst xs, .lst ys] => .ok ⟨(xs.zip ys).map fun p => .tup [p.1, p.2], .v .non, []⟩ s
    | [.tup xs, .tup ys] => .ok ⟨(xs.zip ys).map fun p => .tup [p.1, p.2], .v .non, []⟩ s
    | _ => .no
end
/-- a field is set -/
def wrF (r : RV) (f : Str) (d : Dt) (s : SS) : Out SS Unit := match r with
  | .bw i => match s.sl[i]? with
    | some (.oi c ns vs) => if ns.length < 1000 then .ok () (s.set i (.oi c (putN f ns) (putD f d ns vs))) else .no
    | _ => .no
  | .v (.ref n) => match s.st[n]? with
    | some (.i c ns vs) => if ns.length < 1000 then .ok () (s.setO n (.i c (putN f ns) (putD f d ns vs))) else .no
    | _ => .no
  | _ => .no
def icls (r : RV) (s : SS) : Option Nat := match r with
  | .bw i => match s.sl[i]? with | some (.oi c _ _) => some c | _ => none
  | .v (.ref n) => match s.st[n]? with | some (.i c _ _) => some c | _ => none
  | _ => none
def asI (r : RV) (s : SS) : Out SS Int := match r with | .v (.int i) => .ok i s | _ => .no
def augI (op : Bop) (x y : Int) (s : SS) : Out SS Int := match op with
  | .add => .ok (x + y) s
  | .sub => .ok (x - y) s
  | _ => .no
mutual
def exec (G : Fns) : MS → SS → Out SS Fl
  | .asg i e, s => (ev G e s).bind fun r s => (toSl r s).bind fun x s => .ok .nx (s.set i x)
  | .par i j a b, s => (evs G [a, b] s).bind fun ds s => match ds with
    | [x, y] => .ok .nx ((s.set i (.v x)).set j (.v y))
    | _ => .no
  | .unp t e, s => (ev G e s).bind fun r s => (val r s).bind fun d s => (bindT t d s).bind fun _ s => .ok .nx s
  | .seti a b e, s => (ev G e s).bind fun y s => (val y s).bind fun d s => (ev G a s).bind fun r s => (ev G b s).bind fun k s => (asI k s).bind fun k s => (wrL r (setF k d) s).bind fun _ s => .ok .nx s
  | .setf a f e, s => (ev G e s).bind fun y s => (val y s).bind fun d s => (ev G a s).bind fun r s => (wrF r f d s).bind fun _ s => .ok .nx s
  | .aug i op e, s => match s.sl[i]? with
    | some (.v (.int x)) => (ev G e s).bind fun r s => (asI r s).bind fun y s => (augI op x y s).bind fun z s => .ok .nx (s.set i (.v (.int z)))
    | _ => .no
  | .augi a b op e, s => (ev G a s).bind fun r s => (ev G b s).bind fun k s => (asI k s).bind fun k s => match (rdt s r).bind fun xs => L2.atI xs k with
    | some (.int x) => (ev G e s).bind fun y s => (asI y s).bind fun y s => (augI op x y s).bind fun z s => (wrL r (setF k (.int z)) s).bind fun _ s => .ok .nx s
    | _ => .no
  | .augf a f op e, s => (ev G a s).bind fun r s => match fldV r f s, icls r s with
    | some (.int x), some c => (ev G e s).bind fun y s => (asI y s).bind fun y s => (augI op x y s).bind fun z s => if icls r s = some c then (wrF r f (.int z) s).bind fun _ s => .ok .nx s else .no
    | _, _ => .no
  | .expr e, s => (ev G e s).bind fun _ s => .ok .nx s
  | .ret e, s => (ev G e s).bind fun r s => (toRet r s).bind fun r s => .ok (.ret r) s
  | .retN, s => .ok (.ret (.v .non)) s
  | .brk, s => .ok .bk s
  | .cont, s => .ok .ct s
  | .pass, s => .ok .nx s
  | .nev, _ => .no
  | .ifs c a b, s => (ev G c s).bind fun x s => (asB x s).bind fun k s => if k then execs G a s else execs G b s
  | .rais _ c, s => .ex c [] s
  | .tryx b hs, s => match execs G b s with
    | .ok f s => .ok f s
    | .ex c fs s => execH G hs c fs s
    | .no => .no
  | .whl n c b, s => whN (fun s => (ev G c s).bind asB) (fun s => execs G b s) n s
  | .forr tg src b, s => (evI G src s).bind fun iv s => (forL (chk iv.ys iv.src) (fun s x => bindT tg x s) (fun s => execs G b s) iv.xs (lock iv.src s)).fix fun s' => unlock iv.src s s'
def execs (G : Fns) : List MS → SS → Out SS Fl
  | [], s => .ok .nx s
  | m :: r, s => (exec G m s).bind fun f s => match f with
    | .nx => execs G r s
    | f => .ok f s
def execH (G : Fns) : MH → Nat → List Dt → SS → Out SS Fl
  | .nil, c, fs, s => .ex c fs s
  | .cons x b r, c, fs, s => match G.xis c x with
    | some true => (execs G b s).noex
    | some false => execH G r c fs s
    | none => .no
  | .as x i b, c, fs, s => match fs with
    | [] => (match G.xis c x with
      | some true => ((execs G b (s.set i (.xc c))).noex).fix fun t => (clrX t).set i .un
      | some false => .ex c [] s
      | none => .no)
    | _ :: _ => .no
end
end Mq

/-! MqMul: a tuple once. -/
namespace L2
open PySem PySem.Spec PyProof.Rows
theorem tup_once (l : Addr) (its : Array Value) (n : Nat) (dd : Option Addr) (sl : Array (Option Value)) (u : Tok) :
    Meets (Builtin.«tuple.__mul__» ⟨[.ref l, .int 1 u], []⟩) (fun _ R s => s.heap.get? l = some { cls := .type "tuple", dict := dd, data := .seq its n, slots := sl } ∧ R (.ok (.ret (.ref l))) s) :=
  .of_wp fun prog w A R s z => by
    obtain ⟨hp, g, d, tk, os⟩ := s
    obtain ⟨hl, z⟩ := z
    have f1 := AutoSeq1.idx_int
    have o1 : (its.isEmpty || (1 : Int) == 1) = true := by cases its.isEmpty <;> rfl
    wp_walk using wpAny_loadPart' hl
    repeat (first
      | (refine wpAny_ite_false (decide_eq_false (by decide)) ?_; wp_walk using wpAny_loadPart' hl)
      | (refine wpAny_ite_true (decide_eq_true o1) ?_; wp_walk using wpAny_loadPart' hl))
    exact ⟨_, rfl, z⟩
/-- a tuple once is the tuple itself -/
def rOnce (K : PySem.W.Frag) : R2 := fun x y H Q => ∃ l xs, x = .ref l ∧ y = .int 1 ∧ SqT K H l xs ∧ Q (.ref l) H
section
variable {X : Cx}
theorem op_once : OpR X (binaryOp .Mult) (rOnce X.K) := by
  intro pins s σ H x y v u Q I rx ry h
  obtain ⟨l, xs, rfl, rfl, hT, q⟩ := h
  cases rx
  obtain ⟨t, rfl⟩ := ry
  obtain ⟨its, r, ⟨⟨cls, dd, data, sl⟩, ho, hc, n, hd⟩, hs⟩ := I.tuple hT
  simp only at hc hd
  subst hc hd
  have body : wpAny (model X.prog X.w) X.A (call (.builtin "tuple.__mul__") [.ref l, .int 1 t]) (EP X pins σ Q) X.xe s :=
    call_meets F.slot_tuple_mul ⟨_, ho, rfl⟩ F.entry_tuple_mul (F.args_tuple_mul_2 _ _) (tup_once l its.toArray n dd sl t) ⟨ho, .ref l, H, I, rfl, q⟩
  exact wpAny_binaryOp_repeat_ref (T := "tuple") (U := "int") (by decide) ⟨_, ho, rfl⟩ (fun s' => typeIs_int s' 1 t) noFill_tuple_mul F.fills_int_mul F.slot_int_rmul repeat_tuple F.slot_int_index.lookup
    (call_meets F.slot_int_rmul (typeIs_int s 1 t) F.entry_int_rmul (F.args_int_rmul_2 _ _) (int_rmul_tuple 1 t l its.toArray n dd sl) ⟨ho, rfl, ⟨_, ho, rfl⟩, body⟩)
end
end L2

/-! MqRel: how data lie in the heap; worlds. -/
namespace Mq
open PySem L2

structure Gx where
  K : PySem.W.Frag
  cls : Nat → Option Addr
  exc : Nat → Option (Addr × List Str)
  /-- the exception in hand, its class -/
  xa : Option (Addr × Addr)

mutual
inductive Rep (G : Gx) (F : Hp) (A : List Addr) : V → Dt → Prop
  | non : Rep G F A .non .non
  | bl (b : Bool) : Rep G F A (.bl b) (.bl b)
  | int (i : Int) : Rep G F A (.int i) (.int i)
  | str (x : Str) : Rep G F A (.str x) (.str x)
  | tup {a : Addr} {vs : List V} {ds : List Dt} : SqT G.K F a vs → RepL G F A vs ds → Rep G F A (.ref a) (.tup ds)
  | lst {a : Addr} {vs : List V} {ds : List Dt} : F a = some (.lst vs) → RepL G F A vs ds → Rep G F A (.ref a) (.lst ds)
  | rol {a : Addr} {vs : List V} {ds : List Dt} : SqL G.K F a vs → RepL G F A vs ds → Rep G F A (.ref a) (.rol ds)
  | ins {a C dx : Addr} {c : Nat} {fl : List (Str × V)} {ds : List Dt} : G.cls c = some C → F a = some (.ins C dx fl) → RepL G F A (fl.map (·.2)) ds → Rep G F A (.ref a) (.ins c (fl.map (·.1)) ds)
  | ref {a : Addr} {n : Nat} : A[n]? = some a → Rep G F A (.ref a) (.ref n)
  | dct {a : Addr} {kvs : List (Key × V)} : F a = some (.dK kvs) → Rep G F A (.ref a) .dct
inductive RepL (G : Gx) (F : Hp) (A : List Addr) : List V → List Dt → Prop
  | nil : RepL G F A [] []
  | cons {v : V} {vs : List V} {d : Dt} {ds : List Dt} : Rep G F A v d → RepL G F A vs ds → RepL G F A (v :: vs) (d :: ds)
end

def Ax (A A' : List Addr) : Prop := ∀ (n : Nat) (a : Addr), A[n]? = some a → A'[n]? = some a
theorem Ax.refl (A : List Addr) : Ax A A := fun _ _ h => h
theorem Ax.trans {A B C : List Addr} (h : Ax A B) (k : Ax B C) : Ax A C := fun n a e => k n a (h n a e)
theorem Ax.app (A B : List Addr) : Ax A (A ++ B) := fun n a e => by
  have h := (List.getElem?_eq_some_iff.mp e).1
  rw [List.getElem?_append_left h]; exact e
theorem sqt_mono {K : PySem.W.Frag} {F F' : Hp} {a : Addr} {xs : List V} (h : Same F F') : SqT K F a xs → SqT K F' a xs
  | .inl (.inl e) => .inl (.inl (h _ _ e))
  | .inl (.inr ⟨o, e⟩) => .inl (.inr ⟨o, h _ _ e⟩)
  | .inr e => .inr e
theorem sql_mono {K : PySem.W.Frag} {F F' : Hp} {a : Addr} {xs : List V} (h : Same F F') : SqL K F a xs → SqL K F' a xs
  | .inl (.inl e) => .inl (.inl (h _ _ e))
  | .inl (.inr ⟨o, e⟩) => .inl (.inr ⟨o, h _ _ e⟩)
  | .inr e => .inr e
section
variable {G : Gx} {F F' : Hp} {A A' : List Addr}
mutual
theorem Rep.mono (h : Same F F') (k : Ax A A') : ∀ {v : V} {d : Dt}, Rep G F A v d → Rep G F' A' v d
  | _, _, .non => .non
  | _, _, .bl b => .bl b
  | _, _, .int i => .int i
  | _, _, .str x => .str x
  | _, _, .tup s r => .tup (sqt_mono h s) (RepL.mono h k r)
  | _, _, .lst s r => .lst (h _ _ s) (RepL.mono h k r)
  | _, _, .rol s r => .rol (sql_mono h s) (RepL.mono h k r)
  | _, _, .ins c s r => .ins c (h _ _ s) (RepL.mono h k r)
  | _, _, .ref e => .ref (k _ _ e)
  | _, _, .dct e => .dct (h _ _ e)
theorem RepL.mono (h : Same F F') (k : Ax A A') : ∀ {vs : List V} {ds : List Dt}, RepL G F A vs ds → RepL G F' A' vs ds
  | _, _, .nil => .nil
  | _, _, .cons a r => .cons (Rep.mono h k a) (RepL.mono h k r)
end
theorem RepL.length : ∀ {vs : List V} {ds : List Dt}, RepL G F A vs ds → vs.length = ds.length
  | _, _, .nil => rfl
  | _, _, .cons _ r => by simp [RepL.length r]
theorem RepL.get : ∀ {vs : List V} {ds : List Dt} {i : Nat} {d : Dt}, RepL G F A vs ds → ds[i]? = some d → ∃ v, vs[i]? = some v ∧ Rep G F A v d
  | _, _, _, _, .nil, e => by simp at e
  | _, _, 0, _, .cons r _, e => by simp at e; subst e; exact ⟨_, rfl, r⟩
  | _, _, i + 1, d, .cons _ t, e => by
    obtain ⟨u, h1, h2⟩ := RepL.get (i := i) (d := d) t (by simpa using e)
    exact ⟨u, by simpa using h1, h2⟩
theorem RepL.getV : ∀ {vs : List V} {ds : List Dt} {i : Nat} {v : V}, RepL G F A vs ds → vs[i]? = some v → ∃ d, ds[i]? = some d ∧ Rep G F A v d
  | _, _, _, _, .nil, e => by simp at e
  | _, _, 0, _, .cons r _, e => by simp at e; subst e; exact ⟨_, rfl, r⟩
  | _, _, i + 1, d, .cons _ t, e => by
    obtain ⟨u, h1, h2⟩ := RepL.getV (i := i) (v := d) t (by simpa using e)
    exact ⟨u, by simpa using h1, h2⟩
theorem RepL.append : ∀ {vs us : List V} {ds es : List Dt}, RepL G F A vs ds → RepL G F A us es → RepL G F A (vs ++ us) (ds ++ es)
  | _, _, _, _, .nil, s => s
  | _, _, _, _, .cons r t, s => .cons r (RepL.append t s)
theorem RepL.take : ∀ {vs : List V} {ds : List Dt} (n : Nat), RepL G F A vs ds → RepL G F A (vs.take n) (ds.take n)
  | _, _, 0, _ => .nil
  | _, _, _ + 1, .nil => .nil
  | _, _, n + 1, .cons r t => .cons r (RepL.take n t)
theorem RepL.drop : ∀ {vs : List V} {ds : List Dt} (n : Nat), RepL G F A vs ds → RepL G F A (vs.drop n) (ds.drop n)
  | _, _, 0, r => r
  | _, _, _ + 1, .nil => .nil
  | _, _, n + 1, .cons _ t => RepL.drop n t
theorem RepL.set {v : V} {d : Dt} (r : Rep G F A v d) : ∀ {vs : List V} {ds : List Dt} (i : Nat), RepL G F A vs ds → RepL G F A (vs.set i v) (ds.set i d)
  | _, _, _, .nil => .nil
  | _, _, 0, .cons _ t => .cons r t
  | _, _, i + 1, .cons q t => .cons q (RepL.set r i t)
theorem RepL.eraseIdx : ∀ {vs : List V} {ds : List Dt} (i : Nat), RepL G F A vs ds → RepL G F A (vs.eraseIdx i) (ds.eraseIdx i)
  | _, _, _, .nil => .nil
  | _, _, 0, .cons _ t => t
  | _, _, i + 1, .cons q t => .cons q (RepL.eraseIdx i t)
theorem RepL.dropLast {vs : List V} {ds : List Dt} (h : RepL G F A vs ds) : RepL G F A vs.dropLast ds.dropLast := by
  rw [List.dropLast_eq_take, List.dropLast_eq_take, h.length]; exact h.take _
theorem RepL.rep {vs : List V} {ds : List Dt} (h : RepL G F A vs ds) : ∀ k : Nat, RepL G F A (List.replicate k vs).flatten (List.replicate k ds).flatten
  | 0 => .nil
  | k + 1 => by
    rw [List.replicate_succ, List.replicate_succ, List.flatten_cons, List.flatten_cons]
    exact h.append (RepL.rep h k)
theorem RepL.ints : ∀ (ns : List Int), RepL G F A (ns.map V.int) (ns.map Dt.int)
  | [] => .nil
  | n :: r => .cons (.int n) (RepL.ints r)
theorem repL_ints_inv : ∀ {vs : List V} {ds : List Dt} {ns : List Int}, RepL G F A vs ds → allInts ds = some ns → vs = ns.map V.int
  | _, _, ns, .nil, e => by simp [allInts] at e; subst e; rfl
  | _, _, ns, .cons (d := d) r t, e => by
    cases r <;> simp [allInts] at e
    obtain ⟨q, e1, e2⟩ := e
    subst e2
    simp [repL_ints_inv t e1]
theorem repL_bls_inv : ∀ {vs : List V} {ds : List Dt} {ns : List Bool}, RepL G F A vs ds → allBls ds = some ns → vs = ns.map V.bl
  | _, _, ns, .nil, e => by simp [allBls] at e; subst e; rfl
  | _, _, ns, .cons (d := d) r t, e => by
    cases r <;> simp [allBls] at e
    obtain ⟨q, e1, e2⟩ := e
    subst e2
    simp [repL_bls_inv t e1]
theorem Rep.inv_int {v : V} {i : Int} (h : Rep G F A v (.int i)) : v = .int i := by cases h; rfl
theorem Rep.inv_bl {v : V} {i : Bool} (h : Rep G F A v (.bl i)) : v = .bl i := by cases h; rfl
theorem Rep.inv_str {v : V} {i : Str} (h : Rep G F A v (.str i)) : v = .str i := by cases h; rfl
theorem Rep.inv_non {v : V} (h : Rep G F A v .non) : v = .non := by cases h; rfl
theorem Rep.inv_tup {v : V} {ds : List Dt} (h : Rep G F A v (.tup ds)) : ∃ a vs, v = .ref a ∧ SqT G.K F a vs ∧ RepL G F A vs ds := by
  cases h with | tup s r => exact ⟨_, _, rfl, s, r⟩
theorem Rep.inv_lst {v : V} {ds : List Dt} (h : Rep G F A v (.lst ds)) : ∃ a vs, v = .ref a ∧ F a = some (.lst vs) ∧ RepL G F A vs ds := by
  cases h with | lst s r => exact ⟨_, _, rfl, s, r⟩
theorem Rep.inv_rol {v : V} {ds : List Dt} (h : Rep G F A v (.rol ds)) : ∃ a vs, v = .ref a ∧ SqL G.K F a vs ∧ RepL G F A vs ds := by
  cases h with | rol s r => exact ⟨_, _, rfl, s, r⟩
theorem Rep.inv_ref {v : V} {n : Nat} (h : Rep G F A v (.ref n)) : ∃ a, v = .ref a ∧ A[n]? = some a := by
  cases h with | ref e => exact ⟨_, rfl, e⟩
theorem Rep.inv_dct {v : V} (h : Rep G F A v .dct) : ∃ a kvs, v = .ref a ∧ F a = some (.dK kvs) := by
  cases h with | dct e => exact ⟨_, _, rfl, e⟩
theorem Rep.inv_ins {v : V} {c : Nat} {ns : List Str} {ds : List Dt} (h : Rep G F A v (.ins c ns ds)) :
    ∃ a C dx fl, v = .ref a ∧ G.cls c = some C ∧ F a = some (.ins C dx fl) ∧ fl.map (·.1) = ns ∧ RepL G F A (fl.map (·.2)) ds := by
  cases h with | ins c s r => exact ⟨_, _, _, _, rfl, c, s, rfl, r⟩
end

structure Wd where
  F : Hp
  A : List Addr
  T : Hp
  L : Nat → Option Addr
  M : Option Addr

/-- the world w' goes on from w -/
structure Ext (w w' : Wd) : Prop where
  F : Same w.F w'.F
  A : Ax w.A w'.A
  T : w'.T = w.T
  L : w'.L = w.L
  M : w'.M = w.M
theorem Ext.refl (w : Wd) : Ext w w := ⟨Same.refl _, Ax.refl _, rfl, rfl, rfl⟩
theorem Ext.trans {a b c : Wd} (h : Ext a b) (k : Ext b c) : Ext a c := ⟨h.F.trans k.F, h.A.trans k.A, k.T.trans h.T, k.L.trans h.L, k.M.trans h.M⟩

def MRep (G : Gx) (w : Wd) (mo : MO) (o : Option HO) : Prop := match mo with
  | .l xs => ∃ vs, o = some (.lst vs) ∧ RepL G w.F w.A vs xs
  | .i c ns ds => ∃ C dx fl, G.cls c = some C ∧ o = some (.ins C dx fl) ∧ fl.map (·.1) = ns ∧ RepL G w.F w.A (fl.map (·.2)) ds
def SlR (G : Gx) (w : Wd) (H : Hp) (i : Nat) (x : Sl) (o : Option (Option V)) : Prop := match x with
  | .un => True
  | .v d => ∃ v, o = some (some v) ∧ Rep G w.F w.A v d
  | .ol xs => ∃ p vs, o = some (some (.ref p)) ∧ H p = some (.lst vs) ∧ RepL G w.F w.A vs xs
  | .lk xs => ∃ p vs, o = some (some (.ref p)) ∧ w.L i = some p ∧ w.T p = some (.lst vs) ∧ RepL G w.F w.A vs xs
  | .oi c ns ds => ∃ p C dx fl, o = some (some (.ref p)) ∧ G.cls c = some C ∧ H p = some (.ins C dx fl) ∧ fl.map (·.1) = ns ∧ RepL G w.F w.A (fl.map (·.2)) ds ∧ w.M = some p
  | .xc c => ∃ a C ns, o = some (some (.ref a)) ∧ G.xa = some (a, C) ∧ G.exc c = some (C, ns)
def isOwn : Sl → Bool
  | .ol _ => true
  | .oi _ _ _ => true
  | _ => false
def OwnAt (ρ : SS) (σ : L2.St) (i : Nat) (p : Addr) : Prop := σ[i]? = some (some (.ref p)) ∧ ∃ x, ρ.sl[i]? = some x ∧ isOwn x = true
/-- the world's part that hangs on no slots -/
structure Wok (G : Gx) (w : Wd) (st : List MO) (H : Hp) : Prop where
  subF : Same w.F H
  subT : Same w.T H
  dis : ∀ a, w.F a = none ∨ w.T a = none
  stL : w.A.length = st.length
  stR : ∀ (n : Nat) (a : Addr), w.A[n]? = some a → w.F a = none ∧ w.T a = none ∧ ∃ mo, st[n]? = some mo ∧ MRep G w mo (H a)
  stN : ∀ (n m : Nat) (a : Addr), w.A[n]? = some a → w.A[m]? = some a → n = m
structure Rel (G : Gx) (w : Wd) (ρ : SS) (σ : L2.St) (H : Hp) : Prop extends Wok G w ρ.st H where
  len : ρ.sl.length = σ.length
  sl : ∀ (i : Nat) (x : Sl), ρ.sl[i]? = some x → SlR G w H i x σ[i]?
  own : ∀ (i : Nat) (p : Addr), OwnAt ρ σ i p → w.F p = none ∧ w.T p = none ∧ p ∉ w.A
  ownN : ∀ i j p, OwnAt ρ σ i p → OwnAt ρ σ j p → i = j
  lT : ∀ i p, w.L i = some p → ∃ o, w.T p = some o
/-- an address that belongs to nobody -/
structure Free (w : Wd) (ρ : SS) (σ : L2.St) (p : Addr) : Prop where
  F : w.F p = none
  T : w.T p = none
  A : p ∉ w.A
  own : ∀ i, ¬ OwnAt ρ σ i p
def RR (G : Gx) (w : Wd) (ρ : SS) (σ : L2.St) (H : Hp) (r : RV) (v : V) : Prop := match r with
  | .v d => Rep G w.F w.A v d
  | .nl xs => ∃ p vs, v = .ref p ∧ H p = some (.lst vs) ∧ RepL G w.F w.A vs xs ∧ Free w ρ σ p
  | .bw i => σ[i]? = some (some v)

section
variable {G : Gx} {w w' : Wd} {ρ : SS} {σ : L2.St} {H H' : Hp} {p : Addr} {o : HO}
theorem mem_A {A : List Addr} {p : Addr} (h : p ∈ A) : ∃ n : Nat, A[n]? = some p := List.getElem?_of_mem h
theorem Wok.inA {st : List MO} (R : Wok G w st H) (h : p ∈ w.A) : ∃ o, H p = some o := by
  obtain ⟨n, e⟩ := mem_A h
  obtain ⟨_, _, mo, _, m⟩ := R.stR n p e
  cases mo with
  | l xs => obtain ⟨vs, e, _⟩ := m; exact ⟨_, e⟩
  | i c ns ds => obtain ⟨C, dx, fl, _, e, _⟩ := m; exact ⟨_, e⟩
theorem Rel.inOwn {i : Nat} (R : Rel G w ρ σ H) (h : OwnAt ρ σ i p) : ∃ o, H p = some o := by
  obtain ⟨e, x, ex, ho⟩ := h
  have s := R.sl i x ex
  cases x with
  | un => simp [isOwn] at ho
  | v d => simp [isOwn] at ho
  | ol xs => obtain ⟨q, vs, e1, e2, _⟩ := s; rw [e] at e1; cases e1; exact ⟨_, e2⟩
  | lk xs => simp [isOwn] at ho
  | oi c ns ds => obtain ⟨q, C, dx, fl, e1, _, e2, _⟩ := s; rw [e] at e1; cases e1; exact ⟨_, e2⟩
  | xc c => simp [isOwn] at ho
theorem none_of {a : Option HO} (h : ∀ o, ¬ a = some o) : a = none := by
  cases a with
  | none => rfl
  | some o => exact absurd rfl (h o)
/-- a new address belongs to nobody -/
theorem Rel.fresh (R : Rel G w ρ σ H) (h : H p = none) : Free w ρ σ p where
  F := none_of fun o e => by rw [R.subF _ _ e] at h; cases h
  T := none_of fun o e => by rw [R.subT _ _ e] at h; cases h
  A := fun m => by obtain ⟨o, e⟩ := R.inA m; rw [e] at h; cases h
  own := fun i m => by obtain ⟨o, e⟩ := R.inOwn m; rw [e] at h; cases h
theorem MRep.mono {mo : MO} {a : Option HO} (h : Same w.F w'.F) (k : Ax w.A w'.A) (m : MRep G w mo a) : MRep G w' mo a := by
  cases mo with
  | l xs => obtain ⟨vs, e, r⟩ := m; exact ⟨vs, e, r.mono h k⟩
  | i c ns ds => obtain ⟨C, dx, fl, c, e, n, r⟩ := m; exact ⟨C, dx, fl, c, e, n, r.mono h k⟩
theorem SlR.mono {i : Nat} {x : Sl} {a : Option (Option V)} (h : Same w.F w'.F) (k : Ax w.A w'.A) (hL : w'.L i = w.L i) (hM : w'.M = w.M) (hT : ∀ p o, w.L i = some p → w.T p = some o → w'.T p = some o) (m : SlR G w H i x a) : SlR G w' H i x a := by
  cases x with
  | un => trivial
  | v d => obtain ⟨v, e, r⟩ := m; exact ⟨v, e, r.mono h k⟩
  | ol xs => obtain ⟨p, vs, e1, e2, r⟩ := m; exact ⟨p, vs, e1, e2, r.mono h k⟩
  | lk xs => obtain ⟨p, vs, e1, e3, e2, r⟩ := m; exact ⟨p, vs, e1, by rw [hL]; exact e3, hT p _ e3 e2, r.mono h k⟩
  | oi c ns ds => obtain ⟨p, C, dx, fl, e1, c, e2, n, r⟩ := m; exact ⟨p, C, dx, fl, e1, c, e2, n, r.1.mono h k, hM.trans r.2⟩
  | xc c => exact m
theorem SlR.ext {i : Nat} {x : Sl} {a : Option (Option V)} (e : Ext w w') (m : SlR G w H i x a) : SlR G w' H i x a := m.mono e.F e.A (by rw [e.L]) e.M fun p o _ h => by rw [e.T]; exact h
theorem SlR.heap {i : Nat} {x : Sl} {a : Option (Option V)} (k : ∀ p, a = some (some (.ref p)) → isOwn x = true → H' p = H p) (m : SlR G w H i x a) : SlR G w H' i x a := by
  cases x with
  | un => trivial
  | v d => exact m
  | ol xs => obtain ⟨p, vs, e1, e2, r⟩ := m; exact ⟨p, vs, e1, (k p e1 rfl).trans e2, r⟩
  | lk xs => exact m
  | oi c ns ds => obtain ⟨p, C, dx, fl, e1, c, e2, n, r⟩ := m; exact ⟨p, C, dx, fl, e1, c, (k p e1 rfl).trans e2, n, r⟩
  | xc c => exact m
/-- what belongs to nobody may change -/
theorem Wok.outW {st : List MO} (R : Wok G w st H) (f1 : w.F p = none) (f2 : w.T p = none) (f3 : p ∉ w.A) : Wok G w st (upd H p o) where
  subF := fun a u e => by rw [upd_ne (ne_of_none e f1)]; exact R.subF _ _ e
  subT := fun a u e => by rw [upd_ne (ne_of_none e f2)]; exact R.subT _ _ e
  dis := R.dis
  stL := R.stL
  stR := fun n a e => by
    obtain ⟨h1, h2, h3⟩ := R.stR n a e
    have : a ≠ p := fun q => f3 (by rw [← q]; exact List.mem_of_getElem? e)
    rw [upd_ne this]; exact ⟨h1, h2, h3⟩
  stN := R.stN
theorem Rel.out (R : Rel G w ρ σ H) (f : Free w ρ σ p) : Rel G w ρ σ (upd H p o) where
  toWok := R.toWok.outW f.F f.T f.A
  len := R.len
  sl := fun i x e => (R.sl i x e).heap fun q eq ho => upd_ne fun z => f.own i ⟨by rw [← z]; exact eq, x, e, ho⟩
  own := R.own
  ownN := R.ownN
  lT := R.lT
theorem Rel.new (R : Rel G w ρ σ H) (h : H p = none) : Rel G w ρ σ (upd H p o) := R.out (R.fresh h)
/-- it stays as it is, for ever -/
def Wd.frz (w : Wd) (p : Addr) (o : HO) : Wd := { w with F := upd w.F p o }
theorem Wd.frz_ext (h : w.F p = none) : Ext w (w.frz p o) := ⟨fun a u e => by
  show upd w.F p o a = some u
  rw [upd_ne (ne_of_none e h)]; exact e, Ax.refl _, rfl, rfl, rfl⟩
theorem Wok.freeze {st : List MO} (R : Wok G w st H) (f1 : w.F p = none) (f2 : w.T p = none) (f3 : p ∉ w.A) (h : H p = some o) : Wok G (w.frz p o) st H where
  subF := fun a u e => by
    by_cases q : a = p
    · subst q
      have e' : upd w.F a o a = some u := e
      rw [upd_same] at e'; cases e'; exact h
    · have e' : upd w.F p o a = some u := e
      rw [upd_ne q] at e'; exact R.subF _ _ e'
  subT := R.subT
  dis := fun a => by
    by_cases q : a = p
    · subst q; exact .inr f2
    · rcases R.dis a with z | z
      · left; show upd w.F p o a = none; rw [upd_ne q]; exact z
      · exact .inr z
  stL := R.stL
  stR := fun n a e => by
    obtain ⟨h1, h2, mo, h3, h4⟩ := R.stR n a e
    have : a ≠ p := fun q => f3 (by rw [← q]; exact List.mem_of_getElem? e)
    refine ⟨?_, h2, mo, h3, h4.mono (Wd.frz_ext f1).F (Ax.refl _)⟩
    show upd w.F p o a = none
    rw [upd_ne this]; exact h1
  stN := R.stN
theorem Rel.freeze (R : Rel G w ρ σ H) (f : Free w ρ σ p) (h : H p = some o) : Rel G (w.frz p o) ρ σ H where
  toWok := R.toWok.freeze f.F f.T f.A h
  len := R.len
  sl := fun i x e => (R.sl i x e).ext (Wd.frz_ext f.F)
  own := fun i q e => by
    obtain ⟨h1, h2, h3⟩ := R.own i q e
    have : q ≠ p := fun z => f.own i (by rw [← z]; exact e)
    refine ⟨?_, h2, h3⟩
    show upd w.F p o q = none
    rw [upd_ne this]; exact h1
  ownN := R.ownN
  lT := R.lT
/-- it is put beside, and taken back -/
def Wd.pin (w : Wd) (p : Addr) (o : HO) : Wd := { w with T := upd w.T p o }
theorem Rel.pinned (R : Rel G w ρ σ H) (f : Free w ρ σ p) (h : H p = some o) : Rel G (w.pin p o) ρ σ H where
  subF := R.subF
  subT := fun a u e => by
    by_cases q : a = p
    · subst q
      have e' : upd w.T a o a = some u := e
      rw [upd_same] at e'; cases e'; exact h
    · have e' : upd w.T p o a = some u := e
      rw [upd_ne q] at e'; exact R.subT _ _ e'
  dis := fun a => by
    by_cases q : a = p
    · subst q; exact .inl f.F
    · rcases R.dis a with z | z
      · exact .inl z
      · right; show upd w.T p o a = none; rw [upd_ne q]; exact z
  stL := R.stL
  stR := fun n a e => by
    obtain ⟨h1, h2, mo, h3, h4⟩ := R.stR n a e
    have : a ≠ p := fun q => f.A (by rw [← q]; exact List.mem_of_getElem? e)
    refine ⟨h1, ?_, mo, h3, ?_⟩
    · show upd w.T p o a = none
      rw [upd_ne this]; exact h2
    · exact h4.mono (w := w) (w' := w.pin p o) (Same.refl _) (Ax.refl _)
  stN := R.stN
  len := R.len
  sl := fun i x e => (R.sl i x e).mono (w := w) (w' := w.pin p o) (Same.refl _) (Ax.refl _) rfl rfl fun q u _ h => by
    show upd w.T p o q = some u
    rw [upd_ne (ne_of_none h f.T)]; exact h
  own := fun i q e => by
    obtain ⟨h1, h2, h3⟩ := R.own i q e
    have : q ≠ p := fun z => f.own i (by rw [← z]; exact e)
    refine ⟨h1, ?_, h3⟩
    show upd w.T p o q = none
    rw [upd_ne this]; exact h2
  ownN := R.ownN
  lT := fun i q e => by
    obtain ⟨u, e⟩ := R.lT i q e
    refine ⟨u, ?_⟩
    show upd w.T p o q = some u
    rw [upd_ne (ne_of_none e f.T)]; exact e
/-- back to the lesser rest T -/
def Wd.unp (w : Wd) (v : Wd) : Wd := { w with T := v.T, L := v.L, M := v.M }
theorem Rel.less {v : Wd} (R : Rel G w ρ σ H) (h : Same v.T w.T) (hL : v.L = w.L) (hM : v.M = w.M) (hl : ∀ i p, v.L i = some p → ∃ o, v.T p = some o) : Rel G (w.unp v) ρ σ H where
  subF := R.subF
  subT := h.trans R.subT
  dis := fun a => by
    rcases R.dis a with z | z
    · exact .inl z
    · right; exact none_of fun o e => by rw [h _ _ e] at z; cases z
  stL := R.stL
  stR := fun n a e => by
    obtain ⟨h1, h2, mo, h3, h4⟩ := R.stR n a e
    exact ⟨h1, none_of fun o e => (by rw [h _ _ e] at h2; cases h2), mo, h3, h4.mono (w := w) (w' := w.unp v) (Same.refl _) (Ax.refl _)⟩
  stN := R.stN
  len := R.len
  sl := fun i x e => (R.sl i x e).mono (w := w) (w' := w.unp v) (Same.refl _) (Ax.refl _) (by show v.L i = w.L i; rw [hL]) hM fun q u e1 e2 => by
    obtain ⟨u', e3⟩ := hl i q (by rw [hL]; exact e1)
    have e4 := h _ _ e3
    rw [e2] at e4; cases e4; exact e3
  own := fun i q e => by
    obtain ⟨h1, h2, h3⟩ := R.own i q e
    exact ⟨h1, none_of fun o e => (by rw [h _ _ e] at h2; cases h2), h3⟩
  ownN := R.ownN
  lT := hl
/-- what stands in the rest is free of the rest that lacks it -/
theorem Rel.freeT {v : Wd} (R : Rel G w ρ σ H) (h : w.T p = some o) (n : v.T p = none) : Free (w.unp v) ρ σ p where
  F := by
    rcases R.dis p with z | z
    · exact z
    · rw [h] at z; cases z
  T := n
  A := fun m => by
    obtain ⟨k, e⟩ := mem_A m
    have := (R.stR k p e).2.1
    rw [h] at this; cases this
  own := fun i m => by
    have := (R.own i p m).2.1
    rw [h] at this; cases this
end
/-! ### an exception in hand -/
def Gx.hold (G : Gx) (x : Option (Addr × Addr)) : Gx := { G with xa := x }
section
variable {G : Gx} {F : Hp} {A : List Addr} {y : Option (Addr × Addr)}
mutual
theorem Rep.hold : ∀ {v : V} {d : Dt}, Rep G F A v d → Rep (G.hold y) F A v d
  | _, _, .non => .non
  | _, _, .bl b => .bl b
  | _, _, .int i => .int i
  | _, _, .str x => .str x
  | _, _, .tup s r => .tup s (RepL.hold r)
  | _, _, .lst s r => .lst s (RepL.hold r)
  | _, _, .rol s r => .rol s (RepL.hold r)
  | _, _, .ins c s r => .ins c s (RepL.hold r)
  | _, _, .ref e => .ref e
  | _, _, .dct e => .dct e
theorem RepL.hold : ∀ {vs : List V} {ds : List Dt}, RepL G F A vs ds → RepL (G.hold y) F A vs ds
  | _, _, .nil => .nil
  | _, _, .cons a r => .cons (Rep.hold a) (RepL.hold r)
end
theorem Rep.back {v : V} {d : Dt} (h : Rep (G.hold y) F A v d) : Rep G F A v d := Rep.hold (G := G.hold y) (y := G.xa) h
theorem RepL.back {vs : List V} {ds : List Dt} (h : RepL (G.hold y) F A vs ds) : RepL G F A vs ds := RepL.hold (G := G.hold y) (y := G.xa) h
variable {w : Wd} {ρ : SS} {σ : L2.St} {H : Hp}
theorem MRep.hold {mo : MO} {o : Option HO} (h : MRep G w mo o) : MRep (G.hold y) w mo o := by
  cases mo with
  | l xs => obtain ⟨vs, e, r⟩ := h; exact ⟨vs, e, r.hold⟩
  | i c ns ds => obtain ⟨C, dx, fl, c, e, n, r⟩ := h; exact ⟨C, dx, fl, c, e, n, r.hold⟩
theorem Wok.hold {st : List MO} (h : Wok G w st H) : Wok (G.hold y) w st H where
  subF := h.subF
  subT := h.subT
  dis := h.dis
  stL := h.stL
  stR := fun n a e => by
    obtain ⟨h1, h2, mo, h3, h4⟩ := h.stR n a e
    exact ⟨h1, h2, mo, h3, h4.hold⟩
  stN := h.stN
/-- no slot holds an exception -/
theorem SlR.hold {i : Nat} {x : Sl} {o : Option (Option V)} (hx : ∀ c, x ≠ .xc c) (h : SlR G w H i x o) : SlR (G.hold y) w H i x o := by
  cases x with
  | un => trivial
  | v d => obtain ⟨v, e, r⟩ := h; exact ⟨v, e, r.hold⟩
  | ol xs => obtain ⟨p, vs, e1, e2, r⟩ := h; exact ⟨p, vs, e1, e2, r.hold⟩
  | lk xs => obtain ⟨p, vs, e1, e3, e2, r⟩ := h; exact ⟨p, vs, e1, e3, e2, r.hold⟩
  | oi c ns ds => obtain ⟨p, C, dx, fl, e1, c, e2, n, r, m⟩ := h; exact ⟨p, C, dx, fl, e1, c, e2, n, r.hold, m⟩
  | xc c => exact absurd rfl (hx c)
theorem own_clr (x : Sl) : isOwn (clrS x) = isOwn x := by cases x <;> rfl
theorem Rel.hold (R : Rel G w ρ σ H) (h : G.xa = none) : Rel (G.hold y) w ρ σ H where
  toWok := R.toWok.hold
  len := R.len
  sl := fun i x e => (R.sl i x e).hold fun c q => by
    have s := R.sl i x e
    subst q
    obtain ⟨a, C, ns, _, z, _⟩ := s
    rw [h] at z; cases z
  own := R.own
  ownN := R.ownN
  lT := R.lT
theorem ownAt_clr {i : Nat} {p : Addr} (h : OwnAt (clrX ρ) σ i p) : OwnAt ρ σ i p := by
  obtain ⟨e, x, ex, ho⟩ := h
  have ex : (ρ.sl.map clrS)[i]? = some x := ex
  rw [List.getElem?_map] at ex
  cases q : ρ.sl[i]? with
  | none => rw [q] at ex; cases ex
  | some z =>
    rw [q] at ex
    cases ex
    exact ⟨e, z, q, by rw [← own_clr]; exact ho⟩
theorem Rel.clr (R : Rel (G.hold y) w ρ σ H) : Rel G w (clrX ρ) σ H where
  toWok := Wok.hold (G := G.hold y) (y := G.xa) R.toWok
  len := by
    show (ρ.sl.map clrS).length = σ.length
    rw [List.length_map]; exact R.len
  sl := fun i x e => by
    have e : (ρ.sl.map clrS)[i]? = some x := e
    rw [List.getElem?_map] at e
    cases q : ρ.sl[i]? with
    | none => rw [q] at e; cases e
    | some z =>
      rw [q] at e
      cases e
      have s := R.sl i z q
      have c : ∀ (z : Sl), SlR (G.hold y) w H i z σ[i]? → (∀ c, z ≠ .xc c) → SlR G w H i z σ[i]? := fun z s h => SlR.hold (G := G.hold y) (y := G.xa) h s
      cases z with
      | xc c => trivial
      | un => trivial
      | v d => exact c _ s fun _ h => nomatch h
      | ol xs => exact c _ s fun _ h => nomatch h
      | lk xs => exact c _ s fun _ h => nomatch h
      | oi a b d => exact c _ s fun _ h => nomatch h
  own := fun i p h => R.own i p (ownAt_clr h)
  ownN := fun i j p h k => R.ownN i j p (ownAt_clr h) (ownAt_clr k)
  lT := R.lT
end
end Mq

/-! MqGo: readings of meanings. -/
namespace Mq
open PySem L2

/-- an exception of the class number c with its fields -/
def XR (G : Gx) (w : Wd) (cls : Value) (d : Option Addr) (c : Nat) (fs : List Dt) : Prop :=
  ∃ C ns, G.exc c = some (C, ns) ∧ cls = .ref C ∧ ((ns = [] ∧ fs = [] ∧ d = none) ∨ ∃ dx fl, ns ≠ [] ∧ d = some dx ∧ w.F dx = some (.xd fl) ∧ fl.map (·.1) = ns ∧ RepL G w.F w.A (fl.map (·.2)) fs)
/-- from the world w on: what holds behind an outcome -/
def Go (G : Gx) (W : WX) (w : Wd) (σ : L2.St) {a : Type} (o : Out SS a) (k : a → SS → Wd → Hp → Prop) : Prop := match o with
  | .ok r ρ' => ∀ (H' : Hp) (w' : Wd), Ext w w' → Rel G w' ρ' σ H' → k r ρ' w' H'
  | .ex c fs ρ' => ∀ (cls : Value) (d : Option Addr) (H' : Hp) (w' : Wd), Ext w w' → Rel G w' ρ' σ H' → XR G w' cls d c fs → W cls d σ H'
  | .no => False
section
variable {G : Gx} {W : WX} {w w1 : Wd} {ρ : SS} {σ : L2.St} {H : Hp} {a b : Type}
theorem Go.bind {x : Out SS a} {f : a → SS → Out SS b} {k : b → SS → Wd → Hp → Prop} (h : Go G W w σ (x.bind f) k) :
    Go G W w σ x fun r ρ1 w1 _ => Go G W w1 σ (f r ρ1) k := by
  cases x with
  | no => exact h
  | ex c fs ρ' => exact h
  | ok r ρ1 =>
    intro H1 w1 e1 R1
    have h' : Go G W w σ (f r ρ1) k := h
    show Go G W w1 σ (f r ρ1) k
    cases q : f r ρ1 with
    | no => rw [q] at h'; exact h'
    | ex c fs ρ' => rw [q] at h'; exact fun cls d H' w' e R x => h' cls d H' w' (e1.trans e) R x
    | ok r2 ρ2 => rw [q] at h'; exact fun H' w' e R => h' H' w' (e1.trans e) R
theorem Go.mono {x : Out SS a} {k k' : a → SS → Wd → Hp → Prop} (h : Go G W w σ x k) (hk : ∀ r ρ' w' H', x = .ok r ρ' → Ext w w' → Rel G w' ρ' σ H' → k r ρ' w' H' → k' r ρ' w' H') : Go G W w σ x k' := by
  cases x with
  | no => exact h
  | ex c fs ρ' => exact h
  | ok r ρ' => exact fun H' w' e R => hk _ _ _ _ rfl e R (h H' w' e R)
theorem Go.here {r : a} {k : a → SS → Wd → Hp → Prop} (h : Go G W w σ (.ok r ρ) k) (R : Rel G w ρ σ H) : k r ρ w H := h H w (Ext.refl _) R
theorem Go.at {r : a} {k : a → SS → Wd → Hp → Prop} (h : Go G W w σ (.ok r ρ) k) (e : Ext w w1) (R : Rel G w1 ρ σ H) : k r ρ w1 H := h H w1 e R

/-- an expression's reading -/
def tE (G : Gx) (W : WX) (m : SS → Out SS RV) : TE := fun σ H Q => ∃ w ρ, Rel G w ρ σ H ∧ Go G W w σ (m ρ) fun r ρ' w' H' => ∀ v, RR G w' ρ' σ H' r v → Q v H'
/-- a test's -/
def tT (G : Gx) (W : WX) (m : SS → Out SS Bool) : TT := fun σ H Q => ∃ w ρ, Rel G w ρ σ H ∧ Go G W w σ (m ρ) fun r _ _ H' => Q r H'
/-- an argument list's: data -/
def tA (G : Gx) (W : WX) (m : SS → Out SS (List Dt)) : TA := fun σ H Q => ∃ w ρ, Rel G w ρ σ H ∧ Go G W w σ (m ρ) fun ds _ w' H' => ∀ vs, RepL G w'.F w'.A vs ds → Q vs H'
theorem _root_.L2.PE.imp {X : Cx} {e : Expr} {t t' : TE} (h : PE X e t) (hi : ∀ σ H Q, t' σ H Q → t σ H Q) : PE X e t' :=
  ⟨fun pins s σ H Q I q => h.run pins s σ H Q I (hi _ _ _ q)⟩
theorem _root_.L2.PT.imp {X : Cx} {e : Expr} {t t' : TT} (h : PT X e t) (hi : ∀ σ H Q, t' σ H Q → t σ H Q) : PT X e t' :=
  ⟨fun pins s σ H Q I q => h.run pins s σ H Q I (hi _ _ _ q)⟩
theorem _root_.L2.PW.imp {X : Cx} {e : Expr} {t t' : TT} (h : PW X e t) (hi : ∀ σ H Q, t' σ H Q → t σ H Q) : PW X e t' :=
  ⟨fun wh pins s σ H Q I q => h.run wh pins s σ H Q I (hi _ _ _ q)⟩
theorem _root_.L2.PA.imp {X : Cx} {e : List Expr} {t t' : TA} (h : PA X e t) (hi : ∀ σ H Q, t' σ H Q → t σ H Q) : PA X e t' :=
  ⟨fun p pins s σ H Q I q => h.run p pins s σ H Q I (hi _ _ _ q)⟩
theorem _root_.L2.PS.imp {X : Cx} {e : Stmt} {t t' : TS} (h : PS X e t) (hi : ∀ D σ H, t' D σ H → t D σ H) : PS X e t' :=
  ⟨fun pins s σ H D I q => h.run pins s σ H D I (hi _ _ _ q)⟩
theorem _root_.L2.PSs.imp {X : Cx} {e : List Stmt} {t t' : TS} (h : PSs X e t) (hi : ∀ D σ H, t' D σ H → t D σ H) : PSs X e t' :=
  ⟨fun pins s σ H D I q => h.run pins s σ H D I (hi _ _ _ q)⟩

/-! ### the lists that stand for values -/
theorem RR.ext {w' : Wd} {r : RV} {v : V} {H' : Hp} {ρ' : SS} (h : RR G w ρ σ H r v) (e : Ext w w') (hn : ∀ xs, r ≠ .nl xs) : RR G w' ρ' σ H' r v := by
  cases r with
  | v d => exact Rep.mono e.F e.A h
  | nl xs => exact absurd rfl (hn xs)
  | bw i => exact h
/-- a list that is tracked -/
theorem rdt_ok {r : RV} {v : V} {xs : List Dt} (R : Rel G w ρ σ H) (h : RR G w ρ σ H r v) (e : rdt ρ r = some xs) : ∃ p vs, v = .ref p ∧ H p = some (.lst vs) ∧ RepL G w.F w.A vs xs := by
  cases r with
  | nl ys => simp [rdt] at e; subst e; obtain ⟨p, vs, e1, e2, r, _⟩ := h; exact ⟨p, vs, e1, e2, r⟩
  | v d =>
    cases d <;> simp [rdt] at e
    · subst e; obtain ⟨a, vs, e1, e2, r⟩ := Rep.inv_lst h; exact ⟨a, vs, e1, R.subF _ _ e2, r⟩
    · rename_i n
      obtain ⟨a, e1, e2⟩ := Rep.inv_ref h
      obtain ⟨_, _, mo, e3, m⟩ := R.stR n a e2
      rw [e3] at e
      cases mo with
      | l ys => simp at e; subst e; obtain ⟨vs, e4, r⟩ := m; exact ⟨a, vs, e1, e4, r⟩
      | i c ns ds => simp at e
  | bw i =>
    have hv : σ[i]? = some (some v) := h
    simp only [rdt] at e
    cases q : ρ.sl[i]? with
    | none => rw [q] at e; simp at e
    | some x =>
      rw [q] at e
      have s := R.sl i x q
      cases x with
      | un => simp at e
      | oi c ns ds => simp at e
      | xc c => simp at e
      | ol ys => simp at e; subst e; obtain ⟨p, vs, e1, e2, r⟩ := s; rw [hv] at e1; cases e1; exact ⟨p, vs, rfl, e2, r⟩
      | lk ys => simp at e; subst e; obtain ⟨p, vs, e1, _, e2, r⟩ := s; rw [hv] at e1; cases e1; exact ⟨p, vs, rfl, R.subT _ _ e2, r⟩
      | v d =>
        cases d <;> simp at e
        subst e
        obtain ⟨v', e1, r⟩ := s
        rw [hv] at e1; cases e1
        obtain ⟨a, vs, e1, e2, r⟩ := Rep.inv_lst r
        exact ⟨a, vs, e1, R.subF _ _ e2, r⟩
theorem rdl_ok {r : RV} {v : V} {xs : List Dt} (R : Rel G w ρ σ H) (h : RR G w ρ σ H r v) (e : rdl ρ r = some xs) : ∃ p vs, v = .ref p ∧ SqL G.K H p vs ∧ RepL G w.F w.A vs xs := by
  have old : rdt ρ r = some xs → ∃ p vs, v = .ref p ∧ SqL G.K H p vs ∧ RepL G w.F w.A vs xs := fun e => by
    obtain ⟨p, vs, e1, e2, r⟩ := rdt_ok R h e; exact ⟨p, vs, e1, SqL.of e2, r⟩
  cases r with
  | nl ys => exact old e
  | bw i => exact old e
  | v d =>
    cases d with
    | rol ys => simp [rdl] at e; subst e; obtain ⟨a, vs, e1, e2, r⟩ := Rep.inv_rol h; exact ⟨a, vs, e1, sql_mono R.subF e2, r⟩
    | _ => exact old e
theorem rds_ok {r : RV} {v : V} {xs : List Dt} (R : Rel G w ρ σ H) (h : RR G w ρ σ H r v) (e : rds ρ r = some xs) : ∃ p vs, v = .ref p ∧ (SqL G.K H p vs ∨ SqT G.K H p vs) ∧ RepL G w.F w.A vs xs := by
  have old : rdl ρ r = some xs → ∃ p vs, v = .ref p ∧ (SqL G.K H p vs ∨ SqT G.K H p vs) ∧ RepL G w.F w.A vs xs := fun e => by
    obtain ⟨p, vs, e1, e2, r⟩ := rdl_ok R h e; exact ⟨p, vs, e1, .inl e2, r⟩
  cases r with
  | nl ys => exact old e
  | bw i => exact old e
  | v d =>
    cases d with
    | tup ys => simp [rds] at e; subst e; obtain ⟨a, vs, e1, e2, r⟩ := Rep.inv_tup h; exact ⟨a, vs, e1, .inr (sqt_mono R.subF e2), r⟩
    | _ => exact old e
/-- a value is made a datum -/
theorem val_ok {r : RV} {v : V} {k : Dt → SS → Wd → Hp → Prop} (R : Rel G w ρ σ H) (h : RR G w ρ σ H r v) (g : Go G W w σ (val r ρ) k) :
    ∃ d ρ' w', val r ρ = .ok d ρ' ∧ Ext w w' ∧ Rel G w' ρ' σ H ∧ Rep G w'.F w'.A v d ∧ k d ρ' w' H := by
  have own : ∀ (i : Nat) (xs : List Dt) (x : Sl), r = .bw i → ρ.sl[i]? = some x → x = .ol xs → val r ρ = .ok (.lst xs) (ρ.set i (.v (.lst xs))) →
      ∃ d ρ' w', val r ρ = .ok d ρ' ∧ Ext w w' ∧ Rel G w' ρ' σ H ∧ Rep G w'.F w'.A v d ∧ k d ρ' w' H := by
    intro i xs x er ex ho ev
    subst er
    have hv : σ[i]? = some (some v) := h
    obtain ⟨p, vs, e1, e2, r⟩ : ∃ p vs, v = .ref p ∧ H p = some (.lst vs) ∧ RepL G w.F w.A vs xs := rdt_ok R h (by
      simp only [rdt, ex]
      subst ho; rfl)
    subst e1
    have oa : OwnAt ρ σ i p := ⟨hv, x, ex, by subst ho; rfl⟩
    obtain ⟨f1, f2, f3⟩ := R.own i p oa
    have hi : i < ρ.sl.length := (List.getElem?_eq_some_iff.mp ex).1
    have rep : Rep G (w.frz p (.lst vs)).F (w.frz p (.lst vs)).A (.ref p) (.lst xs) := .lst (by show upd w.F p _ p = _; exact upd_same) (r.mono (Wd.frz_ext f1).F (Ax.refl _))
    have ot : ∀ (j : Nat) (x' : Sl), (ρ.set i (.v (.lst xs))).sl[j]? = some x' → (j = i ∧ x' = .v (.lst xs)) ∨ (j ≠ i ∧ ρ.sl[j]? = some x') := fun j x' e => by
      have e : (ρ.sl.set i (.v (.lst xs)))[j]? = some x' := e
      by_cases q : j = i
      · subst q; rw [List.getElem?_set_self hi] at e; cases e; exact .inl ⟨rfl, rfl⟩
      · rw [List.getElem?_set_ne (Ne.symm q)] at e; exact .inr ⟨q, e⟩
    have oo : ∀ j q, OwnAt (ρ.set i (.v (.lst xs))) σ j q → j ≠ i ∧ OwnAt ρ σ j q := fun j q ⟨e, x', ex', ho'⟩ => by
      rcases ot j x' ex' with ⟨_, z⟩ | ⟨z, ez⟩
      · subst z; simp [isOwn] at ho'
      · exact ⟨z, e, x', ez, ho'⟩
    have R' : Rel G (w.frz p (.lst vs)) (ρ.set i (.v (.lst xs))) σ H := {
      toWok := R.toWok.freeze f1 f2 f3 e2
      len := by show (ρ.sl.set i _).length = _; rw [List.length_set]; exact R.len
      sl := fun j x' e => by
        rcases ot j x' e with ⟨z, z'⟩ | ⟨z, ez⟩
        · subst z; subst z'; exact ⟨_, hv, rep⟩
        · exact (R.sl j x' ez).ext (Wd.frz_ext f1)
      own := fun j q e => by
        obtain ⟨z, e'⟩ := oo j q e
        obtain ⟨g1, g2, g3⟩ := R.own j q e'
        have : q ≠ p := fun y => z (R.ownN j i p (y ▸ e') oa)
        refine ⟨?_, g2, g3⟩
        show upd w.F p _ q = none
        rw [upd_ne this]; exact g1
      ownN := fun j j' q e e' => R.ownN j j' q (oo j q e).2 (oo j' q e').2
      lT := R.lT }
    refine ⟨.lst xs, _, w.frz p (.lst vs), ev, Wd.frz_ext f1, R', rep, ?_⟩
    rw [ev] at g
    exact g.at (Wd.frz_ext f1) R'
  cases r with
  | v d => exact ⟨d, ρ, w, rfl, Ext.refl _, R, h, g.here R⟩
  | nl xs =>
    obtain ⟨p, vs, e1, e2, r, f⟩ := h
    subst e1
    have rep : Rep G (w.frz p (.lst vs)).F (w.frz p (.lst vs)).A (.ref p) (.lst xs) := .lst (by show upd w.F p _ p = _; exact upd_same) (r.mono (Wd.frz_ext f.F).F (Ax.refl _))
    exact ⟨.lst xs, ρ, w.frz p (.lst vs), rfl, Wd.frz_ext f.F, R.freeze f e2, rep, g.at (Wd.frz_ext f.F) (R.freeze f e2)⟩
  | bw i =>
    cases q : ρ.sl[i]? with
    | none => simp [val, q, Go] at g
    | some x =>
      cases x with
      | un => simp [val, q, Go] at g
      | oi c ns ds => simp [val, q, Go] at g
      | xc c => simp [val, q, Go] at g
      | ol xs => exact own i xs _ rfl q rfl (by simp [val, q])
      | lk xs => simp [val, q, Go] at g
      | v d =>
        cases d with
        | lst xs =>
          have ev : val (.bw i) ρ = .ok (.lst xs) ρ := by simp [val, q]
          have hv : σ[i]? = some (some v) := h
          obtain ⟨v', e1, r⟩ := R.sl i _ q
          rw [hv] at e1; cases e1
          rw [ev] at g
          exact ⟨.lst xs, ρ, w, ev, Ext.refl _, R, r, g.here R⟩
        | _ => simp [val, q, Go] at g
/-! ### a value kept while another one is reckoned -/
theorem pend {r : RV} {v : V} {o : Out SS a} {k : a → SS → Wd → Hp → Prop} (R : Rel G w ρ σ H) (h : RR G w ρ σ H r v) (g : Go G W w σ o k) :
    ∃ w1, Rel G w1 ρ σ H ∧ w1.F = w.F ∧ w1.A = w.A ∧ Go G W w1 σ o fun r2 ρ2 w2 H2 => ∃ w3, Ext w w3 ∧ Rel G w3 ρ2 σ H2 ∧ RR G w3 ρ2 σ H2 r v ∧ w3.F = w2.F ∧ w3.A = w2.A ∧ (∀ r' v', RR G w2 ρ2 σ H2 r' v' → RR G w3 ρ2 σ H2 r' v') ∧ k r2 ρ2 w3 H2 := by
  have easy : (∀ xs, r ≠ .nl xs) → ∃ w1, Rel G w1 ρ σ H ∧ w1.F = w.F ∧ w1.A = w.A ∧ Go G W w1 σ o fun r2 ρ2 w2 H2 => ∃ w3, Ext w w3 ∧ Rel G w3 ρ2 σ H2 ∧ RR G w3 ρ2 σ H2 r v ∧ w3.F = w2.F ∧ w3.A = w2.A ∧ (∀ r' v', RR G w2 ρ2 σ H2 r' v' → RR G w3 ρ2 σ H2 r' v') ∧ k r2 ρ2 w3 H2 :=
    fun hn => ⟨w, R, rfl, rfl, g.mono fun r2 ρ2 w2 H2 _ e R2 q => ⟨w2, e, R2, h.ext e hn, rfl, rfl, fun _ _ z => z, q⟩⟩
  cases r with
  | v d => exact easy fun _ z => nomatch z
  | bw i => exact easy fun _ z => nomatch z
  | nl xs =>
    obtain ⟨p, vs, e1, e2, rl, f⟩ := h
    subst e1
    have back : ∀ {ρ2 : SS} {w2 : Wd} {H2 : Hp}, Ext (w.pin p (.lst vs)) w2 → Rel G w2 ρ2 σ H2 → Ext w (w2.unp w) ∧ Rel G (w2.unp w) ρ2 σ H2 ∧ H2 p = some (.lst vs) ∧ Free (w2.unp w) ρ2 σ p := fun {ρ2 w2 H2} e R2 => by
      have eT : w2.T = upd w.T p (.lst vs) := e.T
      have s : Same w.T w2.T := fun b u q => by rw [eT, upd_ne (ne_of_none q f.T)]; exact q
      have hp : w2.T p = some (.lst vs) := by rw [eT]; exact upd_same
      exact ⟨⟨e.F, e.A, rfl, rfl, rfl⟩, R2.less s e.L.symm e.M.symm R.lT, R2.subT _ _ hp, R2.freeT hp f.T⟩
    refine ⟨w.pin p (.lst vs), R.pinned f e2, rfl, rfl, ?_⟩
    cases o with
    | no => exact g
    | ex c fs ρ' => exact fun cls d H' w' e R2 x => let ⟨e', R', _, _⟩ := back e R2; g cls d H' _ e' R' x
    | ok r2 ρ2 =>
      intro H2 w2 e R2
      obtain ⟨e', R', hp, f'⟩ := back e R2
      refine ⟨_, e', R', ⟨p, vs, rfl, hp, rl.mono e.F e.A, f'⟩, rfl, rfl, fun r' v' z => ?_, g H2 _ e' R'⟩
      cases r' with
      | v d => exact z
      | bw i => exact z
      | nl ys =>
        obtain ⟨q, us, z1, z2, z3, z4⟩ := z
        exact ⟨q, us, z1, z2, z3, ⟨z4.F, none_of fun u hu => (by
          have s : Same w.T w2.T := fun b u q => by rw [show w2.T = upd w.T p (.lst vs) from e.T, upd_ne (ne_of_none q f.T)]; exact q
          have := z4.T
          rw [s _ _ hu] at this; cases this), z4.A, z4.own⟩⟩
end
end Mq

/-! MqOp: operators by values. -/
namespace Mq
open PySem L2
section
variable {G : Gx} {W : WX} {w w1 : Wd} {ρ : SS} {σ : L2.St} {H : Hp}
theorem RepL.nil_iff {F : Hp} {A : List Addr} {vs : List V} {ds : List Dt} (r : RepL G F A vs ds) : vs = [] ↔ ds = [] := by
  cases r <;> simp
theorem Rel.newF {p : Addr} {o : HO} (R : Rel G w ρ σ H) (h : H p = none) : Ext w (w.frz p o) ∧ Rel G (w.frz p o) ρ σ (upd H p o) ∧ (w.frz p o).F p = some o :=
  ⟨Wd.frz_ext (R.fresh h).F, (R.new h).freeze (R.fresh h) upd_same, by show upd w.F p o p = _; exact upd_same⟩
/-- a new list -/
theorem fin_nl {xs : List Dt} {vs : List V} {p : Addr} {Q : VK} (R : Rel G w ρ σ H) (rl : RepL G w.F w.A vs xs) (h : H p = none) (q : ∀ v H' w', Ext w w' → Rel G w' ρ σ H' → RR G w' ρ σ H' (.nl xs) v → Q v H') : Q (.ref p) (upd H p (.lst vs)) :=
  q _ _ w (Ext.refl _) (R.new h) ⟨p, vs, rfl, upd_same, rl, R.fresh h⟩
/-- a new tuple -/
theorem fin_tup {xs : List Dt} {vs : List V} {p : Addr} {Q : VK} (R : Rel G w ρ σ H) (rl : RepL G w.F w.A vs xs) (h : H p = none) (q : ∀ v H' w', Ext w w' → Rel G w' ρ σ H' → RR G w' ρ σ H' (.v (.tup xs)) v → Q v H') : Q (.ref p) (upd H p (.tup vs)) := by
  obtain ⟨e, R', eF⟩ := R.newF (o := .tup vs) h
  exact q _ _ _ e R' (.tup (SqT.of eF) (rl.mono e.F e.A))
theorem fin_d {d : Dt} {v : V} {Q : VK} (R : Rel G w ρ σ H) (r : Rep G w.F w.A v d) (q : ∀ v H' w', Ext w w' → Rel G w' ρ σ H' → RR G w' ρ σ H' (.v d) v → Q v H') : Q v H := q _ _ w (Ext.refl _) R r

def bop : Bop → Operator
  | .add => .Add | .sub => .Sub | .mul => .Mult | .fdiv => .FloorDiv | .mod => .Mod | .pow => .Pow | .shl => .LShift | .shr => .RShift | .band => .BitAnd | .bor => .BitOr | .bxor => .BitXor
def rBin (K : PySem.W.Frag) : Bop → R2
  | .add => fun x y H Q => rI0 (fun i j => .int (i + j)) x y H Q ∨ (∃ i j, x = .str i ∧ y = .str j ∧ i.length + j.length ≤ sizeLine ∧ Q (.str (i ++ j)) H) ∨ rCatA K x y H Q ∨ rCat x y H Q
  | .sub => rI0 fun i j => .int (i - j)
  | .mul => fun x y H Q => rI CMulW (fun i j => .int (i * j)) x y H Q ∨ rRep x y H Q ∨ rOnce K x y H Q ∨ rRepT K x y H Q
  | .fdiv => rI CDivW fun i j => .int (i / j)
  | .mod => rI (fun _ j => 0 < j) fun i j => .int (i % j)
  | .pow => rI CPow fun i j => .int (i ^ j.toNat)
  | .shl => rI CPow fun i j => .int (i * 2 ^ j.toNat)
  | .shr => rI (fun _ j => 0 ≤ j) fun i j => .int (i / 2 ^ j.toNat)
  | .band => rI0 fun i j => .int (Builtin.bitAnd i j)
  | .bor => rI0 fun i j => .int (Builtin.bitOr i j)
  | .bxor => rI0 fun i j => .int (Builtin.bitXor i j)
theorem op_bin {X : Cx} : ∀ op : Bop, OpR X (binaryOp (bop op)) (rBin X.K op)
  | .add => op_add.or (op_add_str.or (op_catA.or op_cat))
  | .sub => op_sub
  | .mul => op_mulW.or (op_rep.or (op_once.or op_repT))
  | .fdiv => op_fdivW
  | .mod => op_mod
  | .pow => op_pow
  | .shl => op_shl
  | .shr => op_shr
  | .band => op_and
  | .bor => op_or
  | .bxor => op_xor
theorem bin_int {op : Bop} {i j k : Int} {K : PySem.W.Frag} {Q : VK} (h : binI op i j = some k) (q : Q (.int k) H) : rBin K op (.int i) (.int j) H Q := by
  cases op
  case add => simp [binI] at h; subst h; exact .inl ⟨i, j, rfl, rfl, q⟩
  case sub => simp [binI] at h; subst h; exact ⟨i, j, rfl, rfl, q⟩
  case mul =>
    simp only [binI, Option.ite_none_right_eq_some] at h
    obtain ⟨c, h⟩ := h; cases h
    exact .inl ⟨i, j, rfl, rfl, by unfold CMulW; simpa [bitsOk] using c, q⟩
  case fdiv =>
    simp only [binI, Option.ite_none_right_eq_some] at h
    obtain ⟨c, h⟩ := h; cases h
    exact ⟨i, j, rfl, rfl, by unfold CDivW; simpa [smallDiv] using c, q⟩
  case mod =>
    simp only [binI, Option.ite_none_right_eq_some] at h
    obtain ⟨c, h⟩ := h; cases h
    exact ⟨i, j, rfl, rfl, c, q⟩
  case pow =>
    simp only [binI, Option.ite_none_right_eq_some] at h
    obtain ⟨c, h⟩ := h; cases h
    simp only [powOk, Bool.and_eq_true, decide_eq_true_eq] at c
    exact ⟨i, j, rfl, rfl, ⟨c.1.1, c.1.2, c.2⟩, q⟩
  case shl =>
    simp only [binI, Option.ite_none_right_eq_some] at h
    obtain ⟨c, h⟩ := h; cases h
    simp only [powOk, Bool.and_eq_true, decide_eq_true_eq] at c
    exact ⟨i, j, rfl, rfl, ⟨c.1.1, c.1.2, c.2⟩, q⟩
  case shr =>
    simp only [binI, Option.ite_none_right_eq_some] at h
    obtain ⟨c, h⟩ := h; cases h
    exact ⟨i, j, rfl, rfl, c, q⟩
  case band => simp [binI] at h; subst h; exact ⟨i, j, rfl, rfl, q⟩
  case bor => simp [binI] at h; subst h; exact ⟨i, j, rfl, rfl, q⟩
  case bxor => simp [binI] at h; subst h; exact ⟨i, j, rfl, rfl, q⟩
theorem bin_list {op : Bop} {x y z : RV} {vx vy : V} {K : PySem.W.Frag} {Q : VK} (R : Rel G w ρ σ H) (hx : RR G w ρ σ H x vx) (hy : RR G w ρ σ H y vy) (h : binL op x y ρ = some z)
    (q : ∀ v H' w', Ext w w' → Rel G w' ρ σ H' → RR G w' ρ σ H' z v → Q v H') : rBin K op vx vy H Q := by
  cases op
  case add =>
    simp only [binL] at h
    cases e1 : rdt ρ x with
    | none => simp [e1] at h
    | some xs =>
      cases e2 : rdt ρ y with
      | none => simp [e1, e2] at h
      | some ys =>
        simp only [e1, e2, Option.ite_none_right_eq_some] at h
        obtain ⟨c, h⟩ := h; cases h
        obtain ⟨p, vs, rfl, hp, r1⟩ := rdt_ok R hx e1
        obtain ⟨p', us, rfl, hp', r2⟩ := rdt_ok R hy e2
        exact .inr (.inr (.inr ⟨p, p', vs, us, rfl, rfl, hp, hp', by rw [r1.length, r2.length]; exact c, fun n hn => fin_nl R (r1.append r2) hn q⟩))
  case mul =>
    simp only [binL] at h
    cases e1 : rdt ρ x with
    | none => simp [e1] at h
    | some xs =>
      cases y with
      | nl _ => simp [e1] at h
      | bw _ => simp [e1] at h
      | v d =>
        cases d with
        | int k =>
          simp only [e1, Option.ite_none_right_eq_some] at h
          obtain ⟨c, h⟩ := h; cases h
          have c := mulFits_iff.mp c
          obtain ⟨p, vs, rfl, hp, r1⟩ := rdt_ok R hx e1
          obtain rfl := Rep.inv_int hy
          exact .inr (.inl ⟨p, k, vs, rfl, rfl, hp, c.1, c.2.1, by rw [r1.length]; exact c.2.2, fun n hn => fin_nl R (r1.rep _) hn q⟩)
        | _ => simp [e1] at h
  all_goals simp [binL] at h
theorem bin_step {op : Bop} {x y z : RV} {vx vy : V} {Q : VK} (R : Rel G w ρ σ H) (hx : RR G w ρ σ H x vx) (hy : RR G w ρ σ H y vy) (h : binV op x y ρ = some z)
    (q : ∀ v H' w', Ext w w' → Rel G w' ρ σ H' → RR G w' ρ σ H' z v → Q v H') : rBin G.K op vx vy H Q := by
  unfold binV at h
  split at h
  · rename_i i j
    cases e : binI op i j with
    | none => simp [e] at h
    | some k =>
      simp [e] at h; subst h
      obtain rfl := Rep.inv_int hx
      obtain rfl := Rep.inv_int hy
      exact bin_int e (fin_d R (.int k) q)
  · split at h
    · simp only [Option.ite_none_right_eq_some] at h
      obtain ⟨c, h⟩ := h; cases h
      obtain rfl := Rep.inv_str hx
      obtain rfl := Rep.inv_str hy
      exact .inr (.inl ⟨_, _, rfl, rfl, c, fin_d R (.str _) q⟩)
    · simp at h
  · split at h
    · simp only [Option.ite_none_right_eq_some] at h
      obtain ⟨c, h⟩ := h; cases h
      obtain ⟨a, vs, rfl, s1, r1⟩ := Rep.inv_tup hx
      obtain ⟨b, us, rfl, s2, r2⟩ := Rep.inv_tup hy
      refine .inr (.inr (.inl ⟨a, b, vs, us, rfl, rfl, sqt_mono R.subF s1, sqt_mono R.subF s2, by rw [r1.length, r2.length]; exact c, fun e => ?_, fun e1 e2 => ?_, fun e1 e2 n hn => fin_tup R (r1.append r2) hn q⟩))
      · have := r1.nil_iff.mp e
        subst this
        exact fin_d R hy q
      · have := r2.nil_iff.mp e2
        subst this
        rw [List.append_nil] at q
        exact fin_d R hx q
    · simp at h
  · split at h
    · obtain ⟨a, vs, rfl, s1, r1⟩ := Rep.inv_tup hx
      obtain rfl := Rep.inv_int hy
      split at h
      · rename_i e
        subst e
        cases h
        exact .inr (.inr (.inl ⟨a, vs, rfl, rfl, sqt_mono R.subF s1, fin_d R hx q⟩))
      · simp only [Option.ite_none_right_eq_some] at h
        obtain ⟨c, h⟩ := h; cases h
        exact .inr (.inr (.inr ⟨a, _, vs, rfl, rfl, sqt_mono R.subF s1, fun e => c.1 (r1.nil_iff.mp e), c.2.1, c.2.2.1, by rw [r1.length]; exact c.2.2.2, fun n hn => fin_tup R (r1.rep _) hn q⟩))
    · simp at h
  · exact bin_list R hx hy h q

/-! ### comparisons -/
mutual
theorem flat_canLay : ∀ (n : Nat) (d : Dt), flat n d = true → (py d).canLay0 = true
  | _, .non, _ => by simp [py, PyData.canLay0]
  | _, .bl _, _ => by simp [py, PyData.canLay0]
  | _, .int _, _ => by simp [py, PyData.canLay0]
  | _, .str x, h => by simp [py, PyData.canLay0]; simpa [flat] using h
  | n + 1, .tup xs, h => by simp only [py, PyData.canLay0]; exact flatL_canLay n xs (by simpa [flat] using h)
  | n + 1, .lst xs, h => by simp only [py, PyData.canLay0]; exact flatL_canLay n xs (by simpa [flat] using h)
  | n + 1, .rol xs, h => by simp only [py, PyData.canLay0]; exact flatL_canLay n xs (by simpa [flat] using h)
  | 0, .tup xs, h => by simp [flat] at h
  | 0, .lst xs, h => by simp [flat] at h
  | 0, .rol xs, h => by simp [flat] at h
  | 0, .ins _ _ _, h => by simp [flat] at h
  | 0, .ref _, h => by simp [flat] at h
  | n + 1, .ins _ _ _, h => by simp [flat] at h
  | n + 1, .ref _, h => by simp [flat] at h
  | 0, .dct, h => by simp [flat] at h
  | n + 1, .dct, h => by simp [flat] at h
theorem flatL_canLay : ∀ (n : Nat) (ds : List Dt), flatL n ds = true → PyData.canLayAll0 (pyL ds) = true
  | _, [], _ => by simp [pyL, PyData.canLayAll0]
  | n, x :: r, h => by
    simp only [flatL, Bool.and_eq_true] at h
    simp only [pyL, PyData.canLayAll0, Bool.and_eq_true]
    exact ⟨flat_canLay n x h.1, flatL_canLay n r h.2⟩
end
mutual
theorem flat_depth : ∀ (n : Nat) (d : Dt), flat n d = true → (py d).depth ≤ n
  | _, .non, _ => by simp [py, PyData.depth]
  | _, .bl _, _ => by simp [py, PyData.depth]
  | _, .int _, _ => by simp [py, PyData.depth]
  | _, .str x, h => by simp [py, PyData.depth]
  | n + 1, .tup xs, h => by simp only [py, PyData.depth]; exact Nat.succ_le_succ (flatL_depth n xs (by simpa [flat] using h))
  | n + 1, .lst xs, h => by simp only [py, PyData.depth]; exact Nat.succ_le_succ (flatL_depth n xs (by simpa [flat] using h))
  | n + 1, .rol xs, h => by simp only [py, PyData.depth]; exact Nat.succ_le_succ (flatL_depth n xs (by simpa [flat] using h))
  | 0, .tup xs, h => by simp [flat] at h
  | 0, .lst xs, h => by simp [flat] at h
  | 0, .rol xs, h => by simp [flat] at h
  | 0, .ins _ _ _, h => by simp [flat] at h
  | 0, .ref _, h => by simp [flat] at h
  | n + 1, .ins _ _ _, h => by simp [flat] at h
  | n + 1, .ref _, h => by simp [flat] at h
  | 0, .dct, h => by simp [flat] at h
  | n + 1, .dct, h => by simp [flat] at h
theorem flatL_depth : ∀ (n : Nat) (ds : List Dt), flatL n ds = true → PyData.depthAll (pyL ds) ≤ n
  | _, [], _ => by simp [pyL, PyData.depthAll]
  | n, x :: r, h => by
    simp only [flatL, Bool.and_eq_true] at h
    simp only [pyL, PyData.depthAll]
    exact Nat.max_le.mpr ⟨flat_depth n x h.1, flatL_depth n r h.2⟩
end
theorem flat_shaped {n : Nat} {d : Dt} (hn : n ≤ 64) (h : flat n d = true) : SeqAt.shaped (py d) = true := by
  unfold SeqAt.shaped
  rw [flat_canLay n d h, Bool.true_and]
  exact decide_eq_true (Nat.le_trans (flat_depth n d h) hn)
mutual
theorem eqv_py : ∀ a b : Dt, PyData.eqv (py a) (py b) = deq a b
  | .non, b => by cases b <;> simp [py, PyData.eqv, deq]
  | .bl _, b => by cases b <;> simp [py, PyData.eqv, deq]
  | .int _, b => by cases b <;> simp [py, PyData.eqv, deq]
  | .str _, b => by cases b <;> simp [py, PyData.eqv, deq]
  | .ins _ _ _, b => by cases b <;> simp [py, PyData.eqv, deq]
  | .ref _, b => by cases b <;> simp [py, PyData.eqv, deq]
  | .dct, b => by cases b <;> simp [py, PyData.eqv, deq]
  | .tup xs, b => by cases b <;> simp [py, PyData.eqv, deq, eqvL_py xs]
  | .lst xs, b => by cases b <;> simp [py, PyData.eqv, deq, eqvL_py xs]
  | .rol xs, b => by cases b <;> simp [py, PyData.eqv, deq, eqvL_py xs]
theorem eqvL_py : ∀ a b : List Dt, PyData.eqvAll (pyL a) (pyL b) = deqL a b
  | [], b => by cases b <;> simp [pyL, PyData.eqvAll, deqL]
  | x :: r, b => by cases b <;> simp [pyL, PyData.eqvAll, deqL, eqv_py x, eqvL_py r]
end
mutual
theorem dp_of {F : Hp} {A : List Addr} (s : Same F H) : ∀ {v : V} {d : Dt} {n : Nat}, Rep G F A v d → flat n d = true → Dp G.K H v (py d)
  | _, _, _, .non, _ => by simp only [py]; exact .non
  | _, _, _, .bl b, _ => by simp only [py]; exact .bl b
  | _, _, _, .int i, _ => by simp only [py]; exact .int i
  | _, _, _, .str x, _ => by simp only [py]; exact .str x
  | _, _, 0, .tup q r, h => by simp [flat] at h
  | _, _, 0, .lst q r, h => by simp [flat] at h
  | _, _, 0, .rol q r, h => by simp [flat] at h
  | _, _, n + 1, .tup q r, h => by simp only [py]; exact .tup (sqt_mono s q) (dpL_of s r (n := n) (by simpa [flat] using h))
  | _, _, n + 1, .lst q r, h => by simp only [py]; exact .lst (SqL.of (s _ _ q)) (dpL_of s r (n := n) (by simpa [flat] using h))
  | _, _, n + 1, .rol q r, h => by simp only [py]; exact .lst (sql_mono s q) (dpL_of s r (n := n) (by simpa [flat] using h))
  | _, _, n, .ins _ _ _, h => by cases n <;> simp [flat] at h
  | _, _, n, .ref _, h => by cases n <;> simp [flat] at h
  | _, _, n, .dct _, h => by cases n <;> simp [flat] at h
theorem dpL_of {F : Hp} {A : List Addr} (s : Same F H) : ∀ {vs : List V} {ds : List Dt} {n : Nat}, RepL G F A vs ds → flatL n ds = true → DpAll G.K H vs (pyL ds)
  | _, _, _, .nil, _ => by simp only [pyL]; exact .nil
  | _, _, n, .cons a r, h => by
    simp only [flatL, Bool.and_eq_true] at h
    simp only [pyL]
    exact .cons (dp_of s a h.1) (dpL_of s r h.2)
end
theorem rdD_dp {r : RV} {v : V} {d : Dt} {n : Nat} (R : Rel G w ρ σ H) (h : RR G w ρ σ H r v) (e : rdD ρ r = some d) (f : flat n d = true) : Dp G.K H v (py d) := by
  have lst : ∀ xs, rdt ρ r = some xs → d = .lst xs → Dp G.K H v (py d) := fun xs e1 e2 => by
    obtain ⟨p, vs, rfl, hp, rl⟩ := rdt_ok R h e1
    subst e2
    cases n with
    | zero => simp [flat] at f
    | succ n =>
      simp only [py]
      exact .lst (SqL.of hp) (dpL_of R.subF rl (n := n) (by simpa [flat] using f))
  cases r with
  | nl xs => simp only [rdD, Option.map_eq_some_iff] at e; obtain ⟨xs, e1, e2⟩ := e; exact lst xs e1 e2.symm
  | bw i => simp only [rdD, Option.map_eq_some_iff] at e; obtain ⟨xs, e1, e2⟩ := e; exact lst xs e1 e2.symm
  | v d' =>
    cases d' with
    | ref k => simp only [rdD, Option.map_eq_some_iff] at e; obtain ⟨xs, e1, e2⟩ := e; exact lst xs e1 e2.symm
    | _ => simp only [rdD, Option.some.injEq] at e; subst e; exact dp_of R.subF h f
theorem flat0_V {F : Hp} {A : List Addr} : ∀ {d : Dt} {v : V}, Rep G F A v d → flat 0 d = true → flatV v = true ∧ ∀ {d' : Dt} {v' : V}, Rep G F A v' d' → flat 0 d' = true → eqV v v' = deq d d'
  | _, _, .non, _ => ⟨rfl, fun r h => by cases r <;> simp [flat] at h <;> rfl⟩
  | _, _, .bl b, _ => ⟨rfl, fun r h => by cases r <;> simp [flat] at h <;> rfl⟩
  | _, _, .int b, _ => ⟨rfl, fun r h => by cases r <;> simp [flat] at h <;> rfl⟩
  | _, _, .str b, _ => ⟨rfl, fun r h => by cases r <;> simp [flat] at h <;> rfl⟩
  | _, _, .tup _ _, h => by simp [flat] at h
  | _, _, .lst _ _, h => by simp [flat] at h
  | _, _, .rol _ _, h => by simp [flat] at h
  | _, _, .ins _ _ _, h => by simp [flat] at h
  | _, _, .ref _, h => by simp [flat] at h
theorem inV_of {F : Hp} {A : List Addr} {d : Dt} {v : V} (r : Rep G F A v d) (h : flat 0 d = true) : ∀ {vs : List V} {ds : List Dt}, RepL G F A vs ds → flatL 0 ds = true → vs.all flatV = true ∧ inV v vs = ds.any fun y => deq y d
  | _, _, .nil, _ => ⟨rfl, rfl⟩
  | _, _, .cons a t, e => by
    simp only [flatL, Bool.and_eq_true] at e
    obtain ⟨h1, h2⟩ := inV_of r h t e.2
    obtain ⟨g1, g2⟩ := flat0_V a e.1
    refine ⟨by simp [g1, h1], ?_⟩
    unfold inV at h2 ⊢
    rw [List.any_cons, List.any_cons, h2, g2 r h]

def ordI (op : Cop) (x y : Int) : Bool := match op with | .lt => decide (x < y) | .le => decide (x ≤ y) | .gt => decide (y < x) | .ge => decide (y ≤ x) | _ => false
def ordN (op : Cop) (x y : Nat) : Bool := match op with | .lt => decide (x < y) | .le => decide (x ≤ y) | .gt => decide (x > y) | .ge => decide (x ≥ y) | _ => false
theorem lexC_cons {op : Cop} {x y : Int} {xs ys : List Int} : lexC op (x :: xs) (y :: ys) = if x = y then lexC op xs ys else ordI op x y := by cases op <;> rfl
theorem lexAt_C (op : Cop) : ∀ (ns ms : List Int) (i : Nat) (e r : Nat → Bool), (∀ j, e (i + j) = decide (ns.getD j 0 = ms.getD j 0)) → (∀ j, r (i + j) = ordI op (ns.getD j 0) (ms.getD j 0)) → Ob.lexAt e r (ordN op ns.length ms.length) i (min ns.length ms.length) = lexC op ns ms
  | [], [], _, _, _, _, _ => by cases op <;> rfl
  | [], _ :: _, _, _, _, _, _ => by cases op <;> simp [Ob.lexAt, lexC, ordN]
  | _ :: _, [], _, _, _, _, _ => by cases op <;> simp [Ob.lexAt, lexC, ordN]
  | x :: xs, y :: ys, i, e, r, he, hr => by
    have ih := lexAt_C op xs ys (i + 1) e r (fun j => by have := he (j + 1); rwa [show i + (j + 1) = i + 1 + j by omega] at this) (fun j => by have := hr (j + 1); rwa [show i + (j + 1) = i + 1 + j by omega] at this)
    have z : ordN op (x :: xs).length (y :: ys).length = ordN op xs.length ys.length := by cases op <;> simp [ordN]
    have e0 : e i = decide (x = y) := he 0
    have r0 : r i = ordI op x y := hr 0
    rw [z, lexC_cons, show min (x :: xs).length (y :: ys).length = min xs.length ys.length + 1 by simp only [List.length_cons]; omega, Ob.lexAt_succ, ih, e0, r0]
    by_cases q : x = y
    · simp [q]
    · simp [q]
def rLexT (K : PySem.W.Frag) (op : Cop) : R2 := fun x y H Q => ∃ (a b : Addr) (ns ms : List Int), x = .ref a ∧ y = .ref b ∧ SqT K H a (ns.map V.int) ∧ SqT K H b (ms.map V.int) ∧ Q (.bl (lexC op ns ms)) H
theorem allInts_rep {F : Hp} {A : List Addr} {vs : List V} {xs : List Dt} {ns : List Int} (rl : RepL G F A vs xs) (h : allInts xs = some ns) : vs = ns.map V.int := repL_ints_inv rl h
theorem op_lex_lt {X : Cx} (hu : X.A.units < cLine) : OpR X (compareOp .Lt) (rLexT X.K .lt) := by
  intro pins s σ H x y v u Q I rx ry h
  obtain ⟨a, b, ns, ms, rfl, rfl, ha, hb, q⟩ := h
  cases rx
  cases ry
  obtain ⟨t1, r1, p1, _⟩ := I.tuple ha
  obtain ⟨t2, r2, p2, _⟩ := I.tuple hb
  have i1 : PyProof.Rows.IntsAre t1 ns := Vals.ints r1
  have i2 : PyProof.Rows.IntsAre t2 ms := Vals.ints r2
  have z1 : t1.toArray.size = ns.length := by rw [List.size_toArray]; exact i1.length
  have z2 : t2.toArray.size = ms.length := by rw [List.size_toArray]; exact i2.length
  have g1 : ∀ j (h1 : j < t1.toArray.size), ∃ t, t1.toArray[j] = .int (ns.getD j 0) t := fun j h1 => PyProof.Rows.IntsAre.int_at i1 _ _ (by simp at h1; simp [h1])
  have g2 : ∀ j (h1 : j < t2.toArray.size), ∃ t, t2.toArray[j] = .int (ms.getD j 0) t := fun j h1 => PyProof.Rows.IntsAre.int_at i2 _ _ (by simp at h1; simp [h1])
  have R := Ob.RcOp.tuples_lt (A := X.A) (s := s) (e := fun j => decide (ns.getD j 0 = ms.getD j 0)) (r := fun j => ordI .lt (ns.getD j 0) (ms.getD j 0)) p1 p2 hu (fun j h1 h2 => by
    obtain ⟨u1, e1⟩ := g1 j h1
    obtain ⟨u2, e2⟩ := g2 j h2
    have hz : (ns.getD j 0 == ms.getD j 0) = decide (ns.getD j 0 = ms.getD j 0) := by
      by_cases q : ns.getD j 0 = ms.getD j 0
      · rw [decide_eq_true q]; exact beq_iff_eq.mpr q
      · rw [decide_eq_false q]; exact beq_eq_false_iff_ne.mpr q
    rw [e1, e2, ← hz]
    exact SeqAt.EqAt.int_int _ _ _ _) (fun j h1 h2 _ => by
    obtain ⟨u1, e1⟩ := g1 j h1
    obtain ⟨u2, e2⟩ := g2 j h2
    rw [e1, e2]
    exact Ob.RcOp.lt_int _ _ _ _)
  rw [z1, z2] at R
  have le := lexAt_C .lt ns ms 0 (fun j => decide (ns.getD j 0 = ms.getD j 0)) (fun j => ordI .lt (ns.getD j 0) (ms.getD j 0)) (fun j => by rw [Nat.zero_add]) (fun j => by rw [Nat.zero_add])
  have R' : Ob.RcOp .Lt X.A s (.ref a) (.ref b) (lexC .lt ns ms) := by rw [← le]; exact R
  exact R' X.prog X.w X.xe (EP X pins σ Q) ⟨.bl _, H, I, rfl, q⟩
theorem op_lex_le {X : Cx} (hu : X.A.units < cLine) : OpR X (compareOp .LtE) (rLexT X.K .le) := by
  intro pins s σ H x y v u Q I rx ry h
  obtain ⟨a, b, ns, ms, rfl, rfl, ha, hb, q⟩ := h
  cases rx
  cases ry
  obtain ⟨t1, r1, p1, _⟩ := I.tuple ha
  obtain ⟨t2, r2, p2, _⟩ := I.tuple hb
  have i1 : PyProof.Rows.IntsAre t1 ns := Vals.ints r1
  have i2 : PyProof.Rows.IntsAre t2 ms := Vals.ints r2
  have z1 : t1.toArray.size = ns.length := by rw [List.size_toArray]; exact i1.length
  have z2 : t2.toArray.size = ms.length := by rw [List.size_toArray]; exact i2.length
  have g1 : ∀ j (h1 : j < t1.toArray.size), ∃ t, t1.toArray[j] = .int (ns.getD j 0) t := fun j h1 => PyProof.Rows.IntsAre.int_at i1 _ _ (by simp at h1; simp [h1])
  have g2 : ∀ j (h1 : j < t2.toArray.size), ∃ t, t2.toArray[j] = .int (ms.getD j 0) t := fun j h1 => PyProof.Rows.IntsAre.int_at i2 _ _ (by simp at h1; simp [h1])
  have R := Ob.RcOp.tuples_le (A := X.A) (s := s) (e := fun j => decide (ns.getD j 0 = ms.getD j 0)) (r := fun j => ordI .le (ns.getD j 0) (ms.getD j 0)) p1 p2 hu (fun j h1 h2 => by
    obtain ⟨u1, e1⟩ := g1 j h1
    obtain ⟨u2, e2⟩ := g2 j h2
    have hz : (ns.getD j 0 == ms.getD j 0) = decide (ns.getD j 0 = ms.getD j 0) := by
      by_cases q : ns.getD j 0 = ms.getD j 0
      · rw [decide_eq_true q]; exact beq_iff_eq.mpr q
      · rw [decide_eq_false q]; exact beq_eq_false_iff_ne.mpr q
    rw [e1, e2, ← hz]
    exact SeqAt.EqAt.int_int _ _ _ _) (fun j h1 h2 _ => by
    obtain ⟨u1, e1⟩ := g1 j h1
    obtain ⟨u2, e2⟩ := g2 j h2
    rw [e1, e2]
    exact Ob.RcOp.le_int _ _ _ _)
  rw [z1, z2] at R
  have le := lexAt_C .le ns ms 0 (fun j => decide (ns.getD j 0 = ms.getD j 0)) (fun j => ordI .le (ns.getD j 0) (ms.getD j 0)) (fun j => by rw [Nat.zero_add]) (fun j => by rw [Nat.zero_add])
  have R' : Ob.RcOp .LtE X.A s (.ref a) (.ref b) (lexC .le ns ms) := by rw [← le]; exact R
  exact R' X.prog X.w X.xe (EP X pins σ Q) ⟨.bl _, H, I, rfl, q⟩
theorem op_lex_gt {X : Cx} (hu : X.A.units < cLine) : OpR X (compareOp .Gt) (rLexT X.K .gt) := by
  intro pins s σ H x y v u Q I rx ry h
  obtain ⟨a, b, ns, ms, rfl, rfl, ha, hb, q⟩ := h
  cases rx
  cases ry
  obtain ⟨t1, r1, p1, _⟩ := I.tuple ha
  obtain ⟨t2, r2, p2, _⟩ := I.tuple hb
  have i1 : PyProof.Rows.IntsAre t1 ns := Vals.ints r1
  have i2 : PyProof.Rows.IntsAre t2 ms := Vals.ints r2
  have z1 : t1.toArray.size = ns.length := by rw [List.size_toArray]; exact i1.length
  have z2 : t2.toArray.size = ms.length := by rw [List.size_toArray]; exact i2.length
  have g1 : ∀ j (h1 : j < t1.toArray.size), ∃ t, t1.toArray[j] = .int (ns.getD j 0) t := fun j h1 => PyProof.Rows.IntsAre.int_at i1 _ _ (by simp at h1; simp [h1])
  have g2 : ∀ j (h1 : j < t2.toArray.size), ∃ t, t2.toArray[j] = .int (ms.getD j 0) t := fun j h1 => PyProof.Rows.IntsAre.int_at i2 _ _ (by simp at h1; simp [h1])
  have R := Ob.RcOp.tuples_gt (A := X.A) (s := s) (e := fun j => decide (ns.getD j 0 = ms.getD j 0)) (r := fun j => ordI .gt (ns.getD j 0) (ms.getD j 0)) p1 p2 hu (fun j h1 h2 => by
    obtain ⟨u1, e1⟩ := g1 j h1
    obtain ⟨u2, e2⟩ := g2 j h2
    have hz : (ns.getD j 0 == ms.getD j 0) = decide (ns.getD j 0 = ms.getD j 0) := by
      by_cases q : ns.getD j 0 = ms.getD j 0
      · rw [decide_eq_true q]; exact beq_iff_eq.mpr q
      · rw [decide_eq_false q]; exact beq_eq_false_iff_ne.mpr q
    rw [e1, e2, ← hz]
    exact SeqAt.EqAt.int_int _ _ _ _) (fun j h1 h2 _ => by
    obtain ⟨u1, e1⟩ := g1 j h1
    obtain ⟨u2, e2⟩ := g2 j h2
    rw [e1, e2]
    exact Ob.RcOp.gt_int _ _ _ _)
  rw [z1, z2] at R
  have le := lexAt_C .gt ns ms 0 (fun j => decide (ns.getD j 0 = ms.getD j 0)) (fun j => ordI .gt (ns.getD j 0) (ms.getD j 0)) (fun j => by rw [Nat.zero_add]) (fun j => by rw [Nat.zero_add])
  have R' : Ob.RcOp .Gt X.A s (.ref a) (.ref b) (lexC .gt ns ms) := by rw [← le]; exact R
  exact R' X.prog X.w X.xe (EP X pins σ Q) ⟨.bl _, H, I, rfl, q⟩
theorem op_lex_ge {X : Cx} (hu : X.A.units < cLine) : OpR X (compareOp .GtE) (rLexT X.K .ge) := by
  intro pins s σ H x y v u Q I rx ry h
  obtain ⟨a, b, ns, ms, rfl, rfl, ha, hb, q⟩ := h
  cases rx
  cases ry
  obtain ⟨t1, r1, p1, _⟩ := I.tuple ha
  obtain ⟨t2, r2, p2, _⟩ := I.tuple hb
  have i1 : PyProof.Rows.IntsAre t1 ns := Vals.ints r1
  have i2 : PyProof.Rows.IntsAre t2 ms := Vals.ints r2
  have z1 : t1.toArray.size = ns.length := by rw [List.size_toArray]; exact i1.length
  have z2 : t2.toArray.size = ms.length := by rw [List.size_toArray]; exact i2.length
  have g1 : ∀ j (h1 : j < t1.toArray.size), ∃ t, t1.toArray[j] = .int (ns.getD j 0) t := fun j h1 => PyProof.Rows.IntsAre.int_at i1 _ _ (by simp at h1; simp [h1])
  have g2 : ∀ j (h1 : j < t2.toArray.size), ∃ t, t2.toArray[j] = .int (ms.getD j 0) t := fun j h1 => PyProof.Rows.IntsAre.int_at i2 _ _ (by simp at h1; simp [h1])
  have R := Ob.RcOp.tuples_ge (A := X.A) (s := s) (e := fun j => decide (ns.getD j 0 = ms.getD j 0)) (r := fun j => ordI .ge (ns.getD j 0) (ms.getD j 0)) p1 p2 hu (fun j h1 h2 => by
    obtain ⟨u1, e1⟩ := g1 j h1
    obtain ⟨u2, e2⟩ := g2 j h2
    have hz : (ns.getD j 0 == ms.getD j 0) = decide (ns.getD j 0 = ms.getD j 0) := by
      by_cases q : ns.getD j 0 = ms.getD j 0
      · rw [decide_eq_true q]; exact beq_iff_eq.mpr q
      · rw [decide_eq_false q]; exact beq_eq_false_iff_ne.mpr q
    rw [e1, e2, ← hz]
    exact SeqAt.EqAt.int_int _ _ _ _) (fun j h1 h2 _ => by
    obtain ⟨u1, e1⟩ := g1 j h1
    obtain ⟨u2, e2⟩ := g2 j h2
    rw [e1, e2]
    exact Ob.RcOp.ge_int _ _ _ _)
  rw [z1, z2] at R
  have le := lexAt_C .ge ns ms 0 (fun j => decide (ns.getD j 0 = ms.getD j 0)) (fun j => ordI .ge (ns.getD j 0) (ms.getD j 0)) (fun j => by rw [Nat.zero_add]) (fun j => by rw [Nat.zero_add])
  have R' : Ob.RcOp .GtE X.A s (.ref a) (.ref b) (lexC .ge ns ms) := by rw [← le]; exact R
  exact R' X.prog X.w X.xe (EP X pins σ Q) ⟨.bl _, H, I, rfl, q⟩
def ordP (op : Cop) (a b : PyData) : Option Bool := match op with
  | .lt => some (PySem.W.dataLt a b)
  | .le => some (!PySem.W.dataLt b a)
  | .gt => some (PySem.W.dataLt b a)
  | .ge => some (!PySem.W.dataLt a b)
  | _ => none
theorem ordF_P (op : Cop) (a b : Dt) : ordF op a b = ordP op (py a) (py b) := by cases op <;> rfl
def rOrdD (K : PySem.W.Frag) (op : Cop) : R2 := fun x y H Q => ∃ da db b, Dp K H x da ∧ Dp K H y db ∧ PySem.W.alike da db = true ∧ da ≠ .none ∧ da.depth ≤ 40 ∧ ordP op da db = some b ∧ Q (.bl b) H
theorem op_dat_lt {X : Cx} (hu : X.A.units + 64 < cLine) : OpR X (compareOp .Lt) (rOrdD X.K .lt) := by
  intro pins s σ H x y v u Q I rx ry h
  obtain ⟨da, db, b, ha, hb, al, hn, hd, e, q⟩ := h
  obtain ⟨as, r1⟩ := Dp.reads I da x v ha rx
  obtain ⟨bs, r2⟩ := Dp.reads I db y u hb ry
  simp only [ordP, Option.some.injEq] at e
  subst e
  exact PySem.W.lt_data r1 r2 al hn (by have := Nat.min_le_left da.depth db.depth; omega) ⟨.bl _, H, I, rfl, q⟩
theorem op_dat_le {X : Cx} (hu : X.A.units + 64 < cLine) : OpR X (compareOp .LtE) (rOrdD X.K .le) := by
  intro pins s σ H x y v u Q I rx ry h
  obtain ⟨da, db, b, ha, hb, al, hn, hd, e, q⟩ := h
  obtain ⟨as, r1⟩ := Dp.reads I da x v ha rx
  obtain ⟨bs, r2⟩ := Dp.reads I db y u hb ry
  simp only [ordP, Option.some.injEq] at e
  subst e
  exact PySem.W.le_data r1 r2 al hn (by have := Nat.min_le_left da.depth db.depth; omega) ⟨.bl _, H, I, rfl, q⟩
theorem op_dat_gt {X : Cx} (hu : X.A.units + 64 < cLine) : OpR X (compareOp .Gt) (rOrdD X.K .gt) := by
  intro pins s σ H x y v u Q I rx ry h
  obtain ⟨da, db, b, ha, hb, al, hn, hd, e, q⟩ := h
  obtain ⟨as, r1⟩ := Dp.reads I da x v ha rx
  obtain ⟨bs, r2⟩ := Dp.reads I db y u hb ry
  simp only [ordP, Option.some.injEq] at e
  subst e
  exact PySem.W.gt_data r1 r2 al hn (by have := Nat.min_le_left da.depth db.depth; omega) ⟨.bl _, H, I, rfl, q⟩
theorem op_dat_ge {X : Cx} (hu : X.A.units + 64 < cLine) : OpR X (compareOp .GtE) (rOrdD X.K .ge) := by
  intro pins s σ H x y v u Q I rx ry h
  obtain ⟨da, db, b, ha, hb, al, hn, hd, e, q⟩ := h
  obtain ⟨as, r1⟩ := Dp.reads I da x v ha rx
  obtain ⟨bs, r2⟩ := Dp.reads I db y u hb ry
  simp only [ordP, Option.some.injEq] at e
  subst e
  exact PySem.W.ge_data r1 r2 al hn (by have := Nat.min_le_left da.depth db.depth; omega) ⟨.bl _, H, I, rfl, q⟩
/-- x in a list or a tuple, data of any depth -/
def rInA (K : PySem.W.Frag) (neg : Bool) : R2 := fun x y H Q => ∃ d ds, Dp K H x d ∧ (Dp K H y (.list ds) ∨ Dp K H y (.tuple ds)) ∧ d.canLay0 = true ∧ PyData.canLayAll0 ds = true ∧ d.depth ≤ 40 ∧ Q (.bl ((ds.any fun z => PyData.eqv z d) != neg)) H
theorem op_inA {X : Cx} (hu : X.A.units + 64 < cLine) : OpR X (compareOp .In) (rInA X.K false) := by
  intro pins s σ H x y v u Q I rx ry h
  obtain ⟨d, ds, hd, he, sd, se, dd, q⟩ := h
  rw [Bool.bne_false] at q
  obtain ⟨as, r1⟩ := Dp.reads I d x v hd rx
  have hr : X.A.units + 1 + min (PyData.depthAll ds) d.depth < cLine := by omega
  rcases he with he | he
  · obtain ⟨bs, r2⟩ := Dp.reads I (.list ds) y u he ry
    exact SeqAt.in_list_reads r2 r1 se sd hr ⟨.bl _, H, I, rfl, q⟩
  · obtain ⟨bs, r2⟩ := Dp.reads I (.tuple ds) y u he ry
    exact SeqAt.in_tuple_reads r2 r1 se sd hr ⟨.bl _, H, I, rfl, q⟩
theorem op_notInA {X : Cx} (hu : X.A.units + 64 < cLine) : OpR X (compareOp .NotIn) (rInA X.K true) := by
  intro pins s σ H x y v u Q I rx ry h
  obtain ⟨d, ds, hd, he, sd, se, dd, q⟩ := h
  rw [Bool.bne_true] at q
  obtain ⟨as, r1⟩ := Dp.reads I d x v hd rx
  have hr : X.A.units + 1 + min (PyData.depthAll ds) d.depth < cLine := by omega
  rcases he with he | he
  · obtain ⟨bs, r2⟩ := Dp.reads I (.list ds) y u he ry
    exact SeqAt.notIn_list_reads r2 r1 se sd hr ⟨.bl _, H, I, rfl, q⟩
  · obtain ⟨bs, r2⟩ := Dp.reads I (.tuple ds) y u he ry
    exact SeqAt.notIn_tuple_reads r2 r1 se sd hr ⟨.bl _, H, I, rfl, q⟩
theorem any_py (d : Dt) : ∀ ds : List Dt, ((pyL ds).any fun z => PyData.eqv z (py d)) = ds.any fun y => deq y d
  | [] => by simp [pyL]
  | x :: r => by simp only [pyL, List.any_cons, eqv_py, any_py d r]
def cop : Cop → CmpOp
  | .eq => .Eq | .ne => .NotEq | .lt => .Lt | .le => .LtE | .gt => .Gt | .ge => .GtE | .isin => .In | .notin => .NotIn | .isn => .Is | .notn => .IsNot
def rCmp (K : PySem.W.Frag) : Cop → R2
  | .eq => rEqD K
  | .ne => rNeD K
  | .lt => fun x y H Q => (rI0 fun i j => .bl (decide (i < j))) x y H Q ∨ (rLexT K .lt x y H Q ∨ rOrdD K .lt x y H Q)
  | .le => fun x y H Q => (rI0 fun i j => .bl (decide (i ≤ j))) x y H Q ∨ (rLexT K .le x y H Q ∨ rOrdD K .le x y H Q)
  | .gt => fun x y H Q => (rI0 fun i j => .bl (decide (j < i))) x y H Q ∨ (rLexT K .gt x y H Q ∨ rOrdD K .gt x y H Q)
  | .ge => fun x y H Q => (rI0 fun i j => .bl (decide (j ≤ i))) x y H Q ∨ (rLexT K .ge x y H Q ∨ rOrdD K .ge x y H Q)
  | .isin => rInA K false
  | .notin => rInA K true
  | .isn => fun x y H Q => (y = .non ∧ Q (.bl (decide (x = .non))) H) ∨ ∃ a b, x = .bl a ∧ y = .bl b ∧ Q (.bl (a == b)) H
  | .notn => fun x y H Q => (y = .non ∧ Q (.bl (!decide (x = .non))) H) ∨ ∃ a b, x = .bl a ∧ y = .bl b ∧ Q (.bl (!(a == b))) H
theorem op_isB {X : Cx} : OpR X (compareOp .Is) (fun x y H Q => ∃ a b, x = .bl a ∧ y = .bl b ∧ Q (.bl (a == b)) H) := by
  intro pins s σ H x y v u Q I rx ry h
  obtain ⟨a, b, rfl, rfl, q⟩ := h
  cases rx; cases ry
  cases a <;> cases b <;> exact wpAny_pure ⟨.bl _, H, I, rfl, q⟩
theorem op_notB {X : Cx} : OpR X (compareOp .IsNot) (fun x y H Q => ∃ a b, x = .bl a ∧ y = .bl b ∧ Q (.bl (!(a == b))) H) := by
  intro pins s σ H x y v u Q I rx ry h
  obtain ⟨a, b, rfl, rfl, q⟩ := h
  cases rx; cases ry
  cases a <;> cases b <;> exact wpAny_pure ⟨.bl _, H, I, rfl, q⟩
theorem op_cmp {X : Cx} (hu : X.A.units + 64 < cLine) : ∀ op : Cop, OpR X (compareOp (cop op)) (rCmp X.K op)
  | .eq => op_eqD hu
  | .ne => op_neD hu
  | .lt => op_lt.or ((op_lex_lt (by omega)).or (op_dat_lt hu))
  | .le => op_le.or ((op_lex_le (by omega)).or (op_dat_le hu))
  | .gt => op_gt.or ((op_lex_gt (by omega)).or (op_dat_gt hu))
  | .ge => op_ge.or ((op_lex_ge (by omega)).or (op_dat_ge hu))
  | .isin => op_inA hu
  | .notin => op_notInA hu
  | .isn => op_isN.or op_isB
  | .notn => op_notN.or op_notB
def isNonD : Dt → Bool
  | .non => true
  | _ => false
theorem non_iff {F : Hp} {A : List Addr} {d : Dt} {v : V} (r : Rep G F A v d) : decide (v = .non) = isNonD d := by
  cases r <;> simp [isNonD]
theorem dat_step {op : Cop} {x y : Dt} {b : Bool} {vx vy : V} {Q : VK} (R : Rel G w ρ σ H) (hx : RR G w ρ σ H (.v x) vx) (hy : RR G w ρ σ H (.v y) vy) (hn : py x ≠ .none) (h : ordD op x y = some b) (q : Q (.bl b) H) : rOrdD G.K op vx vy H Q := by
  unfold ordD at h
  simp only [Option.ite_none_right_eq_some, Bool.and_eq_true] at h
  obtain ⟨⟨⟨c1, c2⟩, al⟩, h⟩ := h
  rw [ordF_P] at h
  exact ⟨_, _, b, dp_of R.subF hx c1, dp_of R.subF hy c2, al, hn, flat_depth _ _ c1, h, q⟩
theorem tup_step {op : Cop} {xs ys : List Dt} {b : Bool} {vx vy : V} {Q : VK} (R : Rel G w ρ σ H) (hx : RR G w ρ σ H (.v (.tup xs)) vx) (hy : RR G w ρ σ H (.v (.tup ys)) vy) (h : ordTD op xs ys = some b) (q : Q (.bl b) H) : rLexT G.K op vx vy H Q ∨ rOrdD G.K op vx vy H Q := by
  unfold ordTD at h
  split at h
  · rename_i b' e
    cases h
    left
    unfold ordT at e
    split at e
    · rename_i a b e1 e2
      cases e
      obtain ⟨p1, us1, rfl, s1, r1⟩ := Rep.inv_tup hx
      obtain ⟨p2, us2, rfl, s2, r2⟩ := Rep.inv_tup hy
      rw [allInts_rep r1 e1] at s1
      rw [allInts_rep r2 e2] at s2
      exact ⟨p1, p2, a, b, rfl, rfl, sqt_mono R.subF s1, sqt_mono R.subF s2, q⟩
    · cases e
  · exact .inr (dat_step R hx hy (fun z => nomatch z) h q)
theorem cmp_step {op : Cop} {x y : RV} {b : Bool} {vx vy : V} {Q : VK} (R : Rel G w ρ σ H) (hx : RR G w ρ σ H x vx) (hy : RR G w ρ σ H y vy) (h : cmpV op x y ρ = some b) (q : Q (.bl b) H) : rCmp G.K op vx vy H Q := by
  unfold cmpV at h
  split at h
  · obtain rfl := Rep.inv_int hx; obtain rfl := Rep.inv_int hy; cases h; exact .inl ⟨_, _, rfl, rfl, q⟩
  · obtain rfl := Rep.inv_int hx; obtain rfl := Rep.inv_int hy; cases h; exact .inl ⟨_, _, rfl, rfl, q⟩
  · obtain rfl := Rep.inv_int hx; obtain rfl := Rep.inv_int hy; cases h; exact .inl ⟨_, _, rfl, rfl, q⟩
  · obtain rfl := Rep.inv_int hx; obtain rfl := Rep.inv_int hy; cases h; exact .inl ⟨_, _, rfl, rfl, q⟩
  · split at h
    · rename_i e1 e2
      simp only [Option.ite_none_right_eq_some, Bool.and_eq_true] at h
      obtain ⟨⟨c1, c2⟩, h⟩ := h; cases h
      refine ⟨_, _, rdD_dp R hx e1 c1, rdD_dp R hy e2 c2, flat_shaped (by decide) c1, flat_shaped (by decide) c2, ?_⟩
      rw [eqv_py]; exact q
    · simp at h
  · split at h
    · rename_i e1 e2
      simp only [Option.ite_none_right_eq_some, Bool.and_eq_true] at h
      obtain ⟨⟨c1, c2⟩, h⟩ := h; cases h
      refine ⟨_, _, rdD_dp R hx e1 c1, rdD_dp R hy e2 c2, flat_shaped (by decide) c1, flat_shaped (by decide) c2, ?_⟩
      rw [eqv_py]; exact q
    · simp at h
  · obtain rfl := Rep.inv_non hy
    refine .inl ⟨rfl, ?_⟩
    rw [non_iff hx]; cases h
    rename_i d
    cases d <;> exact q
  · obtain rfl := Rep.inv_non hy
    refine .inl ⟨rfl, ?_⟩
    rw [non_iff hx]; cases h
    rename_i d
    cases d <;> exact q
  · obtain rfl := Rep.inv_bl hx; obtain rfl := Rep.inv_bl hy; cases h; exact .inr ⟨_, _, rfl, rfl, q⟩
  · obtain rfl := Rep.inv_bl hx; obtain rfl := Rep.inv_bl hy; cases h; exact .inr ⟨_, _, rfl, rfl, q⟩
  · split at h
    · rename_i e1
      simp only [Option.ite_none_right_eq_some, Bool.and_eq_true] at h
      obtain ⟨⟨c1, c2⟩, h⟩ := h; cases h
      obtain ⟨p, vs, rfl, hp, rl⟩ := rds_ok R hy e1
      refine ⟨py _, pyL _, dp_of R.subF hx c1, ?_, flat_canLay _ _ c1, flatL_canLay _ _ c2, flat_depth _ _ c1, ?_⟩
      · rcases hp with hp | hp
        · exact .inl (.lst hp (dpL_of R.subF rl c2))
        · exact .inr (.tup hp (dpL_of R.subF rl c2))
      · rw [any_py]; simpa using q
    · simp at h
  · split at h
    · rename_i e1
      simp only [Option.ite_none_right_eq_some, Bool.and_eq_true] at h
      obtain ⟨⟨c1, c2⟩, h⟩ := h; cases h
      obtain ⟨p, vs, rfl, hp, rl⟩ := rds_ok R hy e1
      refine ⟨py _, pyL _, dp_of R.subF hx c1, ?_, flat_canLay _ _ c1, flatL_canLay _ _ c2, flat_depth _ _ c1, ?_⟩
      · rcases hp with hp | hp
        · exact .inl (.lst hp (dpL_of R.subF rl c2))
        · exact .inr (.tup hp (dpL_of R.subF rl c2))
      · rw [any_py]; simpa using q
    · simp at h
  · exact .inr (tup_step R hx hy h q)
  · exact .inr (.inr (dat_step R hx hy (fun z => nomatch z) h q))
  · exact .inr (tup_step R hx hy h q)
  · exact .inr (.inr (dat_step R hx hy (fun z => nomatch z) h q))
  · exact .inr (tup_step R hx hy h q)
  · exact .inr (.inr (dat_step R hx hy (fun z => nomatch z) h q))
  · exact .inr (tup_step R hx hy h q)
  · exact .inr (.inr (dat_step R hx hy (fun z => nomatch z) h q))
  · simp at h
end
end Mq

/-! MqExp: expressions. -/
namespace Mq
open PySem L2
/-- a test's meaning -/
def tst (m : SS → Out SS RV) : SS → Out SS Bool := fun s => (m s).bind asB
section
variable {G : Gx} {W : WX} {w w1 : Wd} {ρ : SS} {σ : L2.St} {H : Hp} {X : Cx} {pos : Pos} {L : Fns}

theorem go_bl {b : Bool} {k : RV → SS → Wd → Hp → Prop} (R : Rel G w ρ σ H) (g : Go G W w σ (.ok (.v (.bl b)) ρ) fun r ρ' w' H' => ∀ v, RR G w' ρ' σ H' r v → k r ρ' w' H') : k (.v (.bl b)) ρ w H := g.here R _ (Rep.bl b)
/-- a test by its value -/
theorem tE_of_tT {m : SS → Out SS RV} {Q : Bool → Hp → Prop} (h : tT G W (tst m) σ H Q) : tE G W m σ H fun x H1 => ∃ c, x = .bl c ∧ Q c H1 := by
  obtain ⟨w, ρ, R, g⟩ := h
  refine ⟨w, ρ, R, g.bind.mono fun r ρ' w' H' _ e R' q v hv => ?_⟩
  unfold asB at q
  split at q
  · obtain rfl := Rep.inv_bl hv
    exact ⟨_, rfl, q.here R'⟩
  · exact q.elim
theorem sv_var {i : Nat} {x : Str} (hN : X.N[i]? = some x) (hv : Vis X.env.scope x) (hd : (x == ("__debug__" : Str)) = false) (hcd : (x == ("__classdict__" : Str)) = false) : PE X (.Name x pos) (tE G W (ev L (.var i))) := by
  refine (pe_var hN hv hd hcd).imp fun σ H Q h => ?_
  obtain ⟨w, ρ, R, g⟩ := h
  rw [ev] at g
  cases q : ρ.sl[i]? with
  | none => rw [q] at g; exact g.elim
  | some x =>
    rw [q] at g
    have s := R.sl i x q
    cases x with
    | un => exact g.elim
    | v d => obtain ⟨v, e, r⟩ := s; exact ⟨v, e, g.here R v r⟩
    | ol xs => obtain ⟨p, vs, e, _⟩ := s; exact ⟨_, e, g.here R _ e⟩
    | lk xs => obtain ⟨p, vs, e, _⟩ := s; exact ⟨_, e, g.here R _ e⟩
    | oi c ns ds => obtain ⟨p, C, dx, fl, e, _⟩ := s; exact ⟨_, e, g.here R _ e⟩
    | xc c => exact g.elim
theorem sv_cst {e : Expr} {d : Dt} {v : V} (h : PE X e (tC v)) (r : ∀ F A, Rep G F A v d) : PE X e (tE G W (ev L (.cst d))) :=
  h.imp fun σ H Q h => by
    obtain ⟨w, ρ, R, g⟩ := h
    rw [ev] at g
    exact g.here R v (r _ _)
theorem sv_glo {x : Str} {u : Value} {v : V} {d : Dt} (hg : Gl X x) (hm : X.mg x = some u) (rv : RelV v u) (r : ∀ F A, Rep G F A v d) (hd : (x == ("__debug__" : Str)) = false) (hL : L.glob x = some d) : PE X (.Name x pos) (tE G W (ev L (.glo x))) :=
  (pe_glob hg hm rv hd).imp fun σ H Q h => by
    obtain ⟨w, ρ, R, g⟩ := h
    rw [ev, hL] at g
    exact g.here R v (r _ _)

/-- two operands -/
theorem two {ma mb : SS → Out SS RV} {f : RV → RV → SS → Out SS RV} {r : R2} {Q : VK}
    (step : ∀ (w : Wd) (ρ : SS) (H : Hp) (x y : RV) (vx vy : V), Rel G w ρ σ H → RR G w ρ σ H x vx → RR G w ρ σ H y vy → Go G W w σ (f x y ρ) (fun z ρ' w' H' => ∀ v, RR G w' ρ' σ H' z v → Q v H') → r vx vy H Q)
    (h : tE G W (fun s => (ma s).bind fun x s => (mb s).bind fun y s => f x y s) σ H Q) : tOp r (tE G W ma) (tE G W mb) σ H Q := by
  obtain ⟨w, ρ, R, g⟩ := h
  refine ⟨w, ρ, R, g.bind.mono fun x ρ1 w1 H1 _ e1 R1 q vx hx => ?_⟩
  obtain ⟨w1', R1', _, _, g2⟩ := pend R1 hx q.bind
  refine ⟨w1', ρ1, R1', g2.mono fun y ρ2 w2 H2 _ e2 R2 q2 vy hy => ?_⟩
  obtain ⟨w3, e3, R3, hx3, _, _, hyy, q3⟩ := q2
  exact step w3 ρ2 H2 x y vx vy R3 hx3 (hyy _ _ hy) q3
theorem lift_some {z : Option RV} {k : RV → SS → Wd → Hp → Prop} (g : Go G W w σ (lift z ρ) k) : ∃ r, z = some r ∧ Go G W w σ (.ok r ρ) k := by
  cases z with
  | none => exact g.elim
  | some r => exact ⟨r, rfl, g⟩
theorem liftB_some {z : Option Bool} {k : RV → SS → Wd → Hp → Prop} (g : Go G W w σ (liftB z ρ) k) : ∃ r, z = some r ∧ Go G W w σ (.ok (.v (.bl r)) ρ) k := by
  cases z with
  | none => exact g.elim
  | some r => exact ⟨r, rfl, g⟩
theorem sv_bin {op : Bop} {a b : Expr} {ma mb : ME} (hK : X.K = G.K) (ha : PE X a (tE G W (ev L ma))) (hb : PE X b (tE G W (ev L mb))) : PE X (.BinOp a (bop op) b pos) (tE G W (ev L (.bin op ma mb))) := by
  refine (pe_op (op_bin op) ha hb).imp fun σ H Q h => ?_
  rw [hK]
  refine two (f := fun x y s => lift (binV op x y s) s) (fun w ρ H x y vx vy R hx hy g => ?_) (by
    obtain ⟨w, ρ, R, g⟩ := h
    rw [ev] at g
    exact ⟨w, ρ, R, g⟩)
  obtain ⟨z, ez, g⟩ := lift_some g
  exact bin_step R hx hy ez fun v H' w' e R' r => g.at e R' v r
theorem sv_neg {a : Expr} {ma : ME} (ha : PE X a (tE G W (ev L ma))) : PE X (.UnaryOp .USub a pos) (tE G W (ev L (.neg ma))) := by
  refine (pe_un un_neg ha).imp fun σ H Q h => ?_
  obtain ⟨w, ρ, R, g⟩ := h
  rw [ev] at g
  refine ⟨w, ρ, R, g.bind.mono fun x ρ1 w1 H1 _ e1 R1 q v hv => ?_⟩
  split at q
  · obtain rfl := Rep.inv_int hv
    exact ⟨_, rfl, q.here R1 _ (.int _)⟩
  · exact q.elim
theorem cmp_tOp {op : Cop} {ma mb : ME} {Q : VK} (h : tE G W (ev L (.cmp op ma mb)) σ H Q) : tOp (rCmp G.K op) (tE G W (ev L ma)) (tE G W (ev L mb)) σ H Q := by
  refine two (f := fun x y s => liftB (cmpV op x y s) s) (fun w ρ H x y vx vy R hx hy g => ?_) (by
    obtain ⟨w, ρ, R, g⟩ := h
    rw [ev] at g
    exact ⟨w, ρ, R, g⟩)
  obtain ⟨z, ez, g⟩ := liftB_some g
  exact cmp_step R hx hy ez (g.here R _ (.bl _))
theorem sv_cmp {op : Cop} {a b : Expr} {ma mb : ME} (hK : X.K = G.K) (hu : X.A.units + 64 < cLine) (hm : behindInMarks (cop op) b = false) (ha : PE X a (tE G W (ev L ma))) (hb : PE X b (tE G W (ev L mb))) :
    PE X (.Compare a [cop op] [b] pos) (tE G W (ev L (.cmp op ma mb))) :=
  (pe_cmpR (op_cmp hu op) ha hb hm).imp fun σ H Q h => by rw [hK]; exact cmp_tOp h
theorem st_cmp {op : Cop} {a b : Expr} {ma mb : ME} (hK : X.K = G.K) (hu : X.A.units + 64 < cLine) (hm : behindInMarks (cop op) b = false) (ha : PE X a (tE G W (ev L ma))) (hb : PE X b (tE G W (ev L mb))) :
    PT X (.Compare a [cop op] [b] pos) (tT G W (tst (ev L (.cmp op ma mb)))) :=
  (pt_cmpR (op_cmp hu op) ha hb hm).imp fun σ H Q h => by rw [hK]; exact cmp_tOp (tE_of_tT h)
theorem cmp2_tChain {o1 o2 : Cop} {ma mb mc : ME} {Q : VK} (h : tE G W (ev L (.cmp2 o1 o2 ma mb mc)) σ H Q) : tChain (rCmp G.K o1) (rCmp G.K o2) (tE G W (ev L ma)) (tE G W (ev L mb)) (tE G W (ev L mc)) σ H Q := by
  obtain ⟨w, ρ, R, g⟩ := h
  rw [ev] at g
  refine ⟨w, ρ, R, g.bind.mono fun x ρ1 w1 H1 _ e1 R1 q vx hx => ?_⟩
  obtain ⟨w1', R1', _, _, g2⟩ := pend R1 hx q.bind
  refine ⟨w1', ρ1, R1', g2.mono fun y ρ2 w2 H2 _ e2 R2 q2 vy hy => ?_⟩
  obtain ⟨w3, e3, R3, hx3, _, _, hyy, q3⟩ := q2
  cases ec : cmpV o1 x y ρ2 with
  | none => rw [ec] at q3; exact q3.elim
  | some b =>
    rw [ec] at q3
    refine cmp_step R3 hx3 (hyy _ _ hy) ec ⟨b, rfl, ?_⟩
    cases b with
    | false => rw [if_neg Bool.false_ne_true]; exact q3.here R3 _ (.bl _)
    | true =>
      rw [if_pos rfl]
      obtain ⟨w4, R4, _, _, g4⟩ := pend R3 (hyy _ _ hy) q3.bind
      refine ⟨w4, ρ2, R4, g4.mono fun z ρ3 w5 H3 _ e5 R5 q5 vz hz => ?_⟩
      obtain ⟨w6, e6, R6, hy6, _, _, hzz, q6⟩ := q5
      obtain ⟨b, eb, q6⟩ := liftB_some q6
      exact cmp_step R6 hy6 (hzz _ _ hz) eb (q6.here R6 _ (.bl _))
theorem sv_cmp2 {o1 o2 : Cop} {a b c : Expr} {ma mb mc : ME} (hK : X.K = G.K) (hu : X.A.units + 64 < cLine) (hm : lastMarks [cop o1, cop o2] [b, c] = false) (ha : PE X a (tE G W (ev L ma))) (hb : PE X b (tE G W (ev L mb))) (hc : PE X c (tE G W (ev L mc))) :
    PE X (.Compare a [cop o1, cop o2] [b, c] pos) (tE G W (ev L (.cmp2 o1 o2 ma mb mc))) :=
  (pe_chain (op_cmp hu o1) (op_cmp hu o2) ha hb hc hm).imp fun σ H Q h => by rw [hK]; exact cmp2_tChain h
theorem st_cmp2 {o1 o2 : Cop} {a b c : Expr} {ma mb mc : ME} (hK : X.K = G.K) (hu : X.A.units + 64 < cLine) (hm : lastMarks [cop o1, cop o2] [b, c] = false) (ha : PE X a (tE G W (ev L ma))) (hb : PE X b (tE G W (ev L mb))) (hc : PE X c (tE G W (ev L mc))) :
    PT X (.Compare a [cop o1, cop o2] [b, c] pos) (tT G W (tst (ev L (.cmp2 o1 o2 ma mb mc)))) :=
  (pt_chain (op_cmp hu o1) (op_cmp hu o2) ha hb hc hm).imp fun σ H Q h => by rw [hK]; exact cmp2_tChain (tE_of_tT h)
theorem sv_not {a : Expr} {ma : ME} (ha : PE X a (tE G W (ev L ma))) : PE X (.UnaryOp .Not a pos) (tE G W (ev L (.not ma))) := by
  refine (pe_not ha).imp fun σ H Q h => ?_
  obtain ⟨w, ρ, R, g⟩ := h
  rw [ev] at g
  refine ⟨w, ρ, R, g.bind.mono fun x ρ1 w1 H1 _ e1 R1 q v hv => ?_⟩
  unfold asB at q
  split at q
  · obtain rfl := Rep.inv_bl hv
    exact ⟨_, rfl, q.bind.here R1 |>.here R1 _ (.bl _)⟩
  · exact q.elim
theorem asB_here {b : Bool} {a : Type} {f : Bool → SS → Out SS a} {k : a → SS → Wd → Hp → Prop} (g : Go G W w σ ((asB (.v (.bl b)) ρ).bind f) k) : Go G W w σ (f b ρ) k := g
theorem st_not {a : Expr} {ma : ME} (ha : PT X a (tT G W (tst (ev L ma)))) : PT X (.UnaryOp .Not a pos) (tT G W (tst (ev L (.not ma)))) := by
  refine (pt_not ha).imp fun σ H Q h => ?_
  obtain ⟨w, ρ, R, g⟩ := h
  unfold tst at g
  rw [ev] at g
  refine ⟨w, ρ, R, ?_⟩
  unfold tst
  cases q : ev L ma ρ with
  | no => rw [q] at g; exact g
  | ex c fs s => rw [q] at g; exact g
  | ok x ρ1 =>
    rw [q] at g
    cases x with
    | nl xs => exact g
    | bw i => exact g
    | v d => cases d <;> exact g
theorem sv_ite {c a b : Expr} {mc ma mb : ME} (hc : PT X c (tT G W (tst (ev L mc)))) (ha : PE X a (tE G W (ev L ma))) (hb : PE X b (tE G W (ev L mb))) : PE X (.IfExp c a b pos) (tE G W (ev L (.ite mc ma mb))) := by
  refine (pe_ifExp hc ha hb).imp fun σ H Q h => ?_
  obtain ⟨w, ρ, R, g⟩ := h
  rw [ev] at g
  have g' : Go G W w σ ((tst (ev L mc) ρ).bind fun k s => if k then ev L ma s else ev L mb s) fun r ρ' w' H' => ∀ v, RR G w' ρ' σ H' r v → Q v H' := by
    unfold tst
    cases q : ev L mc ρ with
    | no => rw [q] at g; exact g
    | ex c fs s => rw [q] at g; exact g
    | ok x ρ1 => rw [q] at g; exact g
  refine ⟨w, ρ, R, g'.bind.mono fun k ρ1 w1 H1 _ e1 R1 q => ?_⟩
  cases k with
  | false => rw [if_neg Bool.false_ne_true]; exact ⟨w1, ρ1, R1, q⟩
  | true => rw [if_pos rfl]; exact ⟨w1, ρ1, R1, q⟩

/-! ### argument lists, displays -/
theorem sa_nil : PA X [] (tA G W (evs L [])) := pa_nil.imp fun σ H Q h => by
  obtain ⟨w, ρ, R, g⟩ := h
  rw [evs] at g
  exact g.here R _ .nil
theorem sa_cons {e : Expr} {es : List Expr} {m : ME} {ms : List ME} (hs : starEach (e :: es) X.env = (false, eval e X.env) :: starEach es X.env) (h1 : PE X e (tE G W (ev L m))) (h2 : PA X es (tA G W (evs L ms))) : PA X (e :: es) (tA G W (evs L (m :: ms))) :=
  (pa_cons h1 h2 hs).imp fun σ H Q h => by
    obtain ⟨w, ρ, R, g⟩ := h
    rw [evs] at g
    refine ⟨w, ρ, R, g.bind.mono fun x ρ1 w1 H1 _ e1 R1 q vx hx => ?_⟩
    obtain ⟨d, ρ2, w2, ev2, e2, R2, rep, q2⟩ := val_ok R1 hx q.bind
    refine ⟨w2, ρ2, R2, q2.bind.mono fun ds ρ3 w3 H3 _ e3 R3 q3 vs hvs => ?_⟩
    exact q3.here R3 _ (.cons (rep.mono e3.F e3.A) hvs)
theorem sv_tup {es : List Expr} {ms : List ME} {x1} (h : PA X es (tA G W (evs L ms))) : PE X (.Tuple es x1 pos) (tE G W (ev L (.tup ms))) :=
  (pe_tup h).imp fun σ H Q h => by
    obtain ⟨w, ρ, R, g⟩ := h
    rw [ev] at g
    refine ⟨w, ρ, R, g.bind.mono fun ds ρ1 w1 H1 _ e1 R1 q vs hvs => ?_⟩
    split at q
    · rename_i c
      exact ⟨by rw [hvs.length]; exact c, fun p hp => fin_tup R1 hvs hp fun v H' w' e R' r => q.at e R' v r⟩
    · exact q.elim
theorem sv_lst {es : List Expr} {ms : List ME} (h : PA X es (tA G W (evs L ms))) : PE X (.List es pos) (tE G W (ev L (.lst ms))) :=
  (pe_lst h).imp fun σ H Q h => by
    obtain ⟨w, ρ, R, g⟩ := h
    rw [ev] at g
    refine ⟨w, ρ, R, g.bind.mono fun ds ρ1 w1 H1 _ e1 R1 q vs hvs => ?_⟩
    split at q
    · rename_i c
      exact ⟨by rw [hvs.length]; exact c, fun p hp => fin_nl R1 hvs hp fun v H' w' e R' r => q.at e R' v r⟩
    · exact q.elim
/-! ### subscripts, fields -/
theorem atI_rep {F : Hp} {A : List Addr} {vs : List V} {ds : List Dt} {i : Int} {d : Dt} (r : RepL G F A vs ds) (h : atI ds i = some d) : ∃ v, atI vs i = some v ∧ Rep G F A v d := by
  unfold atI at h ⊢
  rw [r.length]
  cases q : ixN ds.length i with
  | none => rw [q] at h; simp at h
  | some j =>
    rw [q] at h
    exact r.get h
theorem rds_idx {r : RV} {vx : V} {xs : List Dt} {i : Int} {d : Dt} {Q : VK} (R : Rel G w ρ σ H) (hx : RR G w ρ σ H r vx) (e : rds ρ r = some xs) (ha : atI xs i = some d) (q : ∀ v, Rep G w.F w.A v d → Q v H) : rIx G.K vx (.int i) H Q := by
  obtain ⟨p, vs, rfl, hp, rl⟩ := rds_ok R hx e
  obtain ⟨v, e1, rv⟩ := atI_rep rl ha
  rcases hp with hp | hp
  · exact .inl ⟨p, vs, i, v, rfl, rfl, hp, e1, q v rv⟩
  · exact .inr (.inl ⟨p, vs, i, v, rfl, rfl, hp, e1, q v rv⟩)
theorem idx_step {x y z : RV} {vx vy : V} {Q : VK} (R : Rel G w ρ σ H) (hx : RR G w ρ σ H x vx) (hy : RR G w ρ σ H y vy) (h : idxV x y ρ = some z) (q : ∀ v, RR G w ρ σ H z v → Q v H) : rIx G.K vx vy H Q := by
  unfold idxV at h
  split at h
  · simp only [Option.ite_none_right_eq_some, Option.map_eq_some_iff] at h
    obtain ⟨c, ch, h1, rfl⟩ := h
    obtain rfl := Rep.inv_str hx
    obtain rfl := Rep.inv_int hy
    exact .inr (.inr ⟨_, _, _, rfl, rfl, c, h1, q _ (.str _)⟩)
  · split at h
    · rename_i e
      simp only [Option.map_eq_some_iff] at h
      obtain ⟨d, h1, rfl⟩ := h
      obtain rfl := Rep.inv_int hy
      exact rds_idx R hx e h1 q
    · simp at h
  · simp at h
theorem sv_idx {a b : Expr} {ma mb : ME} (hK : X.K = G.K) (hs : PlainIx b) (ha : PE X a (tE G W (ev L ma))) (hb : PE X b (tE G W (ev L mb))) : PE X (.Subscript a b pos) (tE G W (ev L (.idx ma mb))) := by
  refine (pe_ix ix_seq ha hb hs).imp fun σ H Q h => ?_
  rw [hK]
  refine two (f := fun x y s => lift (idxV x y s) s) (fun w ρ H x y vx vy R hx hy g => ?_) (by
    obtain ⟨w, ρ, R, g⟩ := h
    rw [ev] at g
    exact ⟨w, ρ, R, g⟩)
  obtain ⟨z, ez, g⟩ := lift_some g
  exact idx_step R hx hy ez fun v r => g.here R v r
def tOi (G : Gx) (W : WX) (m : SS → Out SS (Option Int)) : TO := fun σ H Q => ∃ w ρ, Rel G w ρ σ H ∧ Go G W w σ (m ρ) fun o _ _ H' => Q o H'
theorem _root_.L2.PO.imp {X : Cx} {e : Option Expr} {t t' : TO} (h : PO X e t) (hi : ∀ σ H Q, t' σ H Q → t σ H Q) : PO X e t' :=
  ⟨fun pins s σ H Q I q => h.run pins s σ H Q I (hi _ _ _ q)⟩
theorem so_none : PO X none (tOi G W (evO L none)) := po_none.imp fun σ H Q h => by
  obtain ⟨w, ρ, R, g⟩ := h
  rw [evO] at g
  exact g.here R
theorem so_some {e : Expr} {m : ME} (he : PE X e (tE G W (ev L m))) : PO X (some e) (tOi G W (evO L (some m))) := (po_some he).imp fun σ H Q h => by
  obtain ⟨w, ρ, R, g⟩ := h
  rw [evO] at g
  refine ⟨w, ρ, R, g.bind.mono fun x ρ1 w1 H1 _ e1 R1 q v hv => ?_⟩
  split at q
  · obtain rfl := Rep.inv_int hv
    exact ⟨_, rfl, q.here R1⟩
  · exact q.elim
def rSlc (K : PySem.W.Frag) : V → Option Int → Option Int → Hp → VK → Prop := fun x lo hi H Q => rSlL K x lo hi H Q ∨ rSlA K x lo hi H Q
theorem RepL.cut {F : Hp} {A : List Addr} {vs : List V} {ds : List Dt} (r : RepL G F A vs ds) (lo hi : Option Int) : RepL G F A (cutV vs lo hi) (cutD ds lo hi) := by
  unfold cutV cutD
  rw [r.length]
  exact (r.drop _).take _
theorem cut_all {a : Type} (xs : List a) (i j : Nat) (h1 : i = 0) (h2 : j = xs.length) : (xs.drop i).take (j - i) = xs := by
  subst h1; subst h2; simp
theorem slc_step {x z : RV} {lo hi : Option Int} {vx : V} {Q : VK} (R : Rel G w ρ σ H) (hx : RR G w ρ σ H x vx) (h : slcV x lo hi ρ = some z) (q : ∀ v H' w', Ext w w' → Rel G w' ρ σ H' → RR G w' ρ σ H' z v → Q v H') : rSlc G.K vx lo hi H Q := by
  have lst : ∀ xs, rdl ρ x = some xs → z = .nl (cutD xs lo hi) → rSlc G.K vx lo hi H Q := fun xs e1 e2 => by
    obtain ⟨p, vs, rfl, hp, rl⟩ := rdl_ok R hx e1
    subst e2
    exact .inl ⟨p, vs, rfl, hp, fun n hn => fin_nl R (rl.cut lo hi) hn q⟩
  unfold slcV at h
  split at h
  · cases h
    obtain ⟨a, vs, rfl, s1, r1⟩ := Rep.inv_tup hx
    refine .inr ⟨a, vs, rfl, sqt_mono R.subF s1, fun c => ?_, fun c n hn => fin_tup R (r1.cut lo hi) hn q⟩
    have e : ∀ xs : List Dt, xs.length = vs.length → cutD xs lo hi = xs := fun xs hl => by
      unfold cutD
      rw [hl]
      exact cut_all _ _ _ c.1 (c.2.trans hl.symm)
    rw [e _ r1.length.symm] at q
    exact fin_d R hx q
  · split at h
    · rename_i e; cases h; exact lst _ e rfl
    · simp at h
theorem sv_slc {a : Expr} {lo hi : Option Expr} {ma : ME} {ml mh : Option ME} {p2 : Pos} (hK : X.K = G.K) (ha : PE X a (tE G W (ev L ma))) (hl : PO X lo (tOi G W (evO L ml))) (hh : PO X hi (tOi G W (evO L mh))) : PE X (.Subscript a (.Slice lo hi none p2) pos) (tE G W (ev L (.slc ma ml mh))) := by
  refine (pe_slice (r := rSlc X.K) (sl_list.or sl_tupA) ha hl hh).imp fun σ H Q h => ?_
  rw [hK]
  obtain ⟨w, ρ, R, g⟩ := h
  rw [ev] at g
  refine ⟨w, ρ, R, g.bind.mono fun x ρ1 w1 H1 _ e1 R1 q vx hx => ?_⟩
  obtain ⟨w2, R2, _, _, g2⟩ := pend R1 hx q.bind
  refine ⟨w2, ρ1, R2, g2.mono fun l ρ3 w3 H3 _ e3 R3 q3 => ?_⟩
  obtain ⟨w4, e4, R4, hx4, _, _, _, q4⟩ := q3
  obtain ⟨w5, R5, _, _, g5⟩ := pend R4 hx4 q4.bind
  refine ⟨w5, ρ3, R5, g5.mono fun u ρ6 w6 H6 _ e6 R6 q6 => ?_⟩
  obtain ⟨w7, e7, R7, hx7, _, _, _, q7⟩ := q6
  obtain ⟨z, ez, q7⟩ := lift_some q7
  exact slc_step R7 hx7 ez fun v H' w' e R' r => q7.at e R' v r
theorem lkF_rep {F : Hp} {A : List Addr} {f : Str} {d : Dt} : ∀ {fl : List (Str × V)} {ds : List Dt}, RepL G F A (fl.map (·.2)) ds → lkF f (fl.map (·.1)) ds = some d → ∃ v, fl.lookup f = some v ∧ Rep G F A v d
  | [], _, .nil, h => by simp [lkF] at h
  | (n, v) :: r, _, .cons a t, h => by
    simp only [List.map_cons, lkF] at h
    by_cases c : n = f
    · rw [if_pos c] at h; cases h; subst c
      exact ⟨v, by simp [List.lookup], a⟩
    · rw [if_neg c] at h
      obtain ⟨v', e, rr⟩ := lkF_rep t h
      have : (f == n) = false := by simpa using Ne.symm c
      exact ⟨v', by simp [List.lookup, this, e], rr⟩
theorem fldV_ok {x : RV} {f : Str} {d : Dt} {vx : V} (R : Rel G w ρ σ H) (hx : RR G w ρ σ H x vx) (h : fldV x f ρ = some d) : ∃ a c C dx fl v, vx = .ref a ∧ G.cls c = some C ∧ H a = some (.ins C dx fl) ∧ fl.lookup f = some v ∧ Rep G w.F w.A v d := by
  unfold fldV at h
  split at h
  · obtain ⟨a, C, dx, fl, rfl, hC, hF, en, rl⟩ := Rep.inv_ins hx
    subst en
    obtain ⟨v, e, r⟩ := lkF_rep rl h
    exact ⟨a, _, C, dx, fl, v, rfl, hC, R.subF _ _ hF, e, r⟩
  · split at h
    · rename_i e
      obtain ⟨a, rfl, e2⟩ := Rep.inv_ref hx
      obtain ⟨_, _, mo, e3, m⟩ := R.stR _ a e2
      rw [e] at e3; cases e3
      obtain ⟨C, dx, fl, hC, hF, en, rl⟩ := m
      subst en
      obtain ⟨v, e, r⟩ := lkF_rep rl h
      exact ⟨a, _, C, dx, fl, v, rfl, hC, hF, e, r⟩
    · simp at h
  · split at h
    · rename_i e
      have hv : σ[_]? = some (some vx) := hx
      obtain ⟨p, C, dx, fl, e1, hC, hF, en, rl, _⟩ := R.sl _ _ e
      rw [hv] at e1; cases e1
      subst en
      obtain ⟨v, e, r⟩ := lkF_rep rl h
      exact ⟨p, _, C, dx, fl, v, rfl, hC, hF, e, r⟩
    · simp at h
  · simp at h
theorem sv_fld {a : Expr} {f : Str} {ma : ME} (hK : X.K = G.K) (hc : ∀ c C, G.cls c = some C → Cls G.K C) (hn : ∀ c C, G.cls c = some C → NoAttr G.K C f) (hb : attributeBase a f X.env (eval a X.env) = eval a X.env) (ha : PE X a (tE G W (ev L ma))) : PE X (.Attribute a f pos) (tE G W (ev L (.fld ma f))) := by
  refine (pe_fld ha hb).imp fun σ H Q h => ?_
  rw [hK]
  obtain ⟨w, ρ, R, g⟩ := h
  rw [ev] at g
  refine ⟨w, ρ, R, g.bind.mono fun x ρ1 w1 H1 _ e1 R1 q vx hx => ?_⟩
  obtain ⟨z, ez, q⟩ := lift_some q
  simp only [Option.map_eq_some_iff] at ez
  obtain ⟨d, ed, rfl⟩ := ez
  obtain ⟨p, c, C, dx, fl, v, rfl, hC, hH, e, r⟩ := fldV_ok R1 hx ed
  exact ⟨p, C, dx, fl, v, rfl, hH, hc c C hC, hn c C hC, e, q.here R1 v r⟩
end
end Mq

/-! MqCall: calls of defs, methods, classes. -/
namespace Mq
open PySem L2
/-- what a def hands back -/
def RF (G : Gx) (w : Wd) (H : Hp) (r : RV) (v : V) : Prop := match r with
  | .v d => Rep G w.F w.A v d
  | .nl xs => ∃ p vs, v = .ref p ∧ H p = some (.lst vs) ∧ RepL G w.F w.A vs xs ∧ w.F p = none ∧ w.T p = none ∧ p ∉ w.A
  | .bw _ => False
/-- a def's promise by its meaning -/
def spD (G : Gx) (n : Nat) (f : List Dt → List MO → FR) : Sp := fun vs H Q E => vs.length = n ∧ ∃ w st ds, w.L = (fun _ => none) ∧ Wok G w st H ∧ RepL G w.F w.A vs ds ∧ match f ds st with
  | .ok r st' => ∀ v H' w', Ext w w' → Wok G w' st' H' → RF G w' H' r v → Q v H'
  | .ex c fs st' => ∀ cls d H' w', Ext w w' → Wok G w' st' H' → XR G w' cls d c fs → E cls d H'
  | .no => False
/-- an __init__'s, of an instance that is made and then stays as it is -/
def spI (G : Gx) (n c : Nat) (f : List Dt → List MO → Out (List MO) (List Str × List Dt)) : Sp := fun vs H Q E => vs.length = n + 1 ∧ ∃ w st ds p C dx us, w.L = (fun _ => none) ∧ w.M = some p ∧ Wok G w st H ∧ vs = .ref p :: us ∧ RepL G w.F w.A us ds ∧ G.cls c = some C ∧ H p = some (.ins C dx []) ∧ w.F p = none ∧ w.T p = none ∧ p ∉ w.A ∧ match f ds st with
  | .ok r st' => ∀ H' w' fl dx', Ext w w' → Wok G w' st' H' → H' p = some (.ins C dx' fl) → fl.map (·.1) = r.1 → RepL G w'.F w'.A (fl.map (·.2)) r.2 → w'.F p = none → w'.T p = none → p ∉ w'.A → Q .non H'
  | .ex c fs st' => ∀ cls d H' w', Ext w w' → Wok G w' st' H' → XR G w' cls d c fs → E cls d H'
  | .no => False
section
variable {G : Gx} {W : WX} {w w1 : Wd} {ρ : SS} {σ : L2.St} {H : Hp} {X : Cx} {pos : Pos} {L : Fns}
open Classical in
/-- all that is neither data nor the store -/
noncomputable def restT (w : Wd) (H : Hp) : Hp := fun a => if w.F a = none ∧ a ∉ w.A then H a else none
theorem restT_some {a : Addr} {o : HO} (h : restT w H a = some o) : w.F a = none ∧ a ∉ w.A ∧ H a = some o := by
  unfold restT at h
  split at h
  · rename_i c; exact ⟨c.1, c.2, h⟩
  · cases h
theorem restT_of {a : Addr} {o : HO} (h1 : w.F a = none) (h2 : a ∉ w.A) (h : H a = some o) : restT w H a = some o := by
  unfold restT
  rw [if_pos ⟨h1, h2⟩]; exact h
noncomputable def Wd.inn (w : Wd) (H : Hp) : Wd := { w with T := restT w H, L := fun _ => none, M := none }
theorem Wok.enter {st : List MO} (R : Wok G w st H) : Wok G (w.inn H) st H where
  subF := R.subF
  subT := fun a o e => (restT_some e).2.2
  dis := fun a => by
    cases q : w.F a with
    | none => exact .inl q
    | some o => right; exact none_of fun u e => (by have := (restT_some e).1; rw [q] at this; cases this)
  stL := R.stL
  stR := fun n a e => by
    obtain ⟨h1, h2, mo, h3, h4⟩ := R.stR n a e
    exact ⟨h1, none_of fun u z => (restT_some z).2.1 (List.mem_of_getElem? e), mo, h3, h4.mono (w := w) (w' := w.inn H) (Same.refl _) (Ax.refl _)⟩
  stN := R.stN
/-- behind a call -/
theorem Rel.back {w2 : Wd} {st2 : List MO} {H2 : Hp} (R : Rel G w ρ σ H) (e : Ext (w.inn H) w2) (R2 : Wok G w2 st2 H2) :
    Ext w (w2.unp w) ∧ Rel G (w2.unp w) { ρ with st := st2 } σ H2 ∧ ∀ p, w2.F p = none → w2.T p = none → p ∉ w2.A → Free (w2.unp w) { ρ with st := st2 } σ p := by
  have eT : w2.T = restT w H := e.T
  have sT : Same w.T w2.T := fun a o h => by
    rw [eT]
    refine restT_of ?_ ?_ (R.subT _ _ h)
    · rcases R.dis a with z | z
      · exact z
      · rw [h] at z; cases z
    · intro m
      obtain ⟨n, en⟩ := mem_A m
      have := (R.stR n a en).2.1
      rw [h] at this; cases this
  have kp : ∀ i p, OwnAt ρ σ i p → ∃ o, H p = some o ∧ w2.T p = some o := fun i p h => by
    obtain ⟨o, ho⟩ := R.inOwn h
    obtain ⟨h1, _, h3⟩ := R.own i p h
    exact ⟨o, ho, by rw [eT]; exact restT_of h1 h3 ho⟩
  have E : Ext w (w2.unp w) := ⟨e.F, e.A, rfl, rfl, rfl⟩
  have RR : Rel G (w2.unp w) { ρ with st := st2 } σ H2 := {
    subF := R2.subF
    subT := sT.trans R2.subT
    dis := fun a => by
      rcases R2.dis a with z | z
      · exact .inl z
      · right; exact none_of fun o h => (by rw [sT _ _ h] at z; cases z)
    stL := R2.stL
    stR := fun n a en => by
      obtain ⟨h1, h2, mo, h3, h4⟩ := R2.stR n a en
      exact ⟨h1, none_of fun o h => (by rw [sT _ _ h] at h2; cases h2), mo, h3, h4.mono (w := w2) (w' := w2.unp w) (Same.refl _) (Ax.refl _)⟩
    stN := R2.stN
    len := R.len
    sl := fun i x ex => ((R.sl i x ex).ext (w' := w2.unp w) E).heap fun p ep ho => by
      obtain ⟨o, h1, h2⟩ := kp i p ⟨ep, x, ex, ho⟩
      rw [h1, R2.subT _ _ h2]
    own := fun i p h => by
      obtain ⟨o, h1, h2⟩ := kp i p h
      refine ⟨?_, (R.own i p h).2.1, fun m => ?_⟩
      · rcases R2.dis p with z | z
        · exact z
        · rw [h2] at z; cases z
      · obtain ⟨n, en⟩ := mem_A m
        have := (R2.stR n p en).2.1
        rw [h2] at this; cases this
    ownN := R.ownN
    lT := R.lT }
  refine ⟨E, RR, fun p h1 h2 h3 => ⟨h1, none_of fun o h => (by rw [sT _ _ h] at h2; cases h2), h3, fun i m => ?_⟩⟩
  obtain ⟨o, _, h⟩ := kp i p m
  rw [h] at h2; cases h2
theorem RF.rr {w2 : Wd} {st2 : List MO} {H2 : Hp} {r : RV} {v : V} (f : ∀ p, w2.F p = none → w2.T p = none → p ∉ w2.A → Free (w2.unp w) { ρ with st := st2 } σ p) (h : RF G w2 H2 r v) : RR G (w2.unp w) { ρ with st := st2 } σ H2 r v := by
  cases r with
  | v d => exact h
  | nl xs => obtain ⟨p, vs, e1, e2, rl, f1, f2, f3⟩ := h; exact ⟨p, vs, e1, e2, rl, f p f1 f2 f3⟩
  | bw i => exact h.elim
theorem XR.unp {w2 v : Wd} {cls : Value} {d : Option Addr} {c : Nat} {fs : List Dt} (h : XR G w2 cls d c fs) : XR G (w2.unp v) cls d c fs := h
/-- the callee's promise from the caller's state -/
theorem spD_of {n : Nat} {f : List Dt → List MO → FR} {ds : List Dt} {vs : List V} {Q : VK} (R : Rel G w ρ σ H) (hv : RepL G w.F w.A vs ds) (hn : ds.length = n) (g : Go G W w σ (liftF (f ds ρ.st) ρ) fun r ρ' w' H' => ∀ v, RR G w' ρ' σ H' r v → Q v H') : spD G n f vs H Q (WE W σ) := by
  refine ⟨by rw [hv.length]; exact hn, w.inn H, ρ.st, ds, rfl, R.toWok.enter, hv, ?_⟩
  cases q : f ds ρ.st with
  | no => rw [q] at g; exact g
  | ok r st' =>
    rw [q] at g
    intro v H' w' e R' rf
    obtain ⟨e', R'', fr⟩ := R.back e R'
    exact g H' _ e' R'' v (rf.rr fr)
  | ex c fs st' =>
    rw [q] at g
    intro cls d H' w' e R' x
    obtain ⟨e', R'', fr⟩ := R.back e R'
    exact g cls d H' _ e' R'' x.unp
theorem evs_len : ∀ {ms : List ME} {s s' : SS} {ds : List Dt}, evs L ms s = .ok ds s' → ds.length = ms.length
  | [], s, s', ds, h => by rw [evs] at h; cases h; rfl
  | m :: ms, s, s', ds, h => by
    rw [evs] at h
    cases q : ev L m s with
    | no => rw [q] at h; cases h
    | ex c fs t => rw [q] at h; cases h
    | ok r t =>
      rw [q] at h
      have h : (val r t).bind (fun d s => (evs L ms s).bind fun ds s => .ok (d :: ds) s) = .ok ds s' := h
      cases q2 : val r t with
      | no => rw [q2] at h; cases h
      | ex c fs t => rw [q2] at h; cases h
      | ok d t2 =>
        rw [q2] at h
        have h : (evs L ms t2).bind (fun ds s => .ok (d :: ds) s) = .ok ds s' := h
        cases q3 : evs L ms t2 with
        | no => rw [q3] at h; cases h
        | ex c fs t => rw [q3] at h; cases h
        | ok ds' t3 =>
          rw [q3] at h
          cases h
          simp [evs_len q3]
/-- a def that may be called by its name -/
structure Def (G : Gx) (X : Cx) (k : Nat) (x : Str) (n : Nat) (f : List Dt → List MO → FR) : Prop where
  ex : ∃ a fd ps, X.mg x = some (.ref a) ∧ PySem.W.keepIn X.K (.ref a) = true ∧ Binds X.K fd ps [] ∧ FnOk X.prog X.w X.K X.mg X.base (L2.CX X.prog X.w) k a fd ps (spD G n f)
theorem sv_call {x : Str} {p : Pos} {e : Expr} {es : List Expr} {ms : List ME} {k : Nat} (hr : Room k X.A) (tk : Takes X W) (hd : Def G X k x (es.length + 1) (L.call x)) (hl : ms.length = es.length + 1) (hg : Gl X x) (ha : PA X (e :: es) (tA G W (evs L ms)))
    (hdb : (x == ("__debug__" : Str)) = false) (he : starEach (e :: es) X.env = (false, eval e X.env) :: starEach es X.env) (hpl : (backTo pos (starEach es X.env)).any (·.1) = false) :
    PE X (.Call (.Name x p) (e :: es) [] pos) (tE G W (ev L (.call x ms))) := by
  obtain ⟨a, fd, ps, hm, hk, hb, F⟩ := hd.ex
  refine (pe_callS (E := WE W) F hr hg hm hk hb (fun σ => passAt tk σ) ha hdb he hpl).imp fun σ H Q h => ?_
  obtain ⟨w, ρ, R, g⟩ := h
  rw [ev] at g
  refine ⟨w, ρ, R, g.bind.mono fun ds ρ1 w1 H1 eo e1 R1 q vs hvs => ?_⟩
  exact spD_of R1 hvs (by rw [evs_len eo]; exact hl) q
theorem sv_call0 {x : Str} {p : Pos} {k : Nat} (hr : Room k X.A) (tk : Takes X W) (hd : Def G X k x 0 (L.call x)) (hg : Gl X x) (hdb : (x == ("__debug__" : Str)) = false) : PE X (.Call (.Name x p) [] [] pos) (tE G W (ev L (.call x []))) := by
  obtain ⟨a, fd, ps, hm, hk, hb, F⟩ := hd.ex
  have pe : PE X (.Call (.Name x p) [] [] pos) (tCallS (spD G 0 (L.call x)) (WE W) tNil) := by
    refine ⟨fun pins s σ H Q I h => ?_⟩
    refine wpAny_Call_Name_kw (ld_glob I hg hm ?_ hdb)
    exact PySem.W.callWith_K0 I.kIn hk (run_fnS (E := WE W) (us := []) F hr hb (passAt tk σ) I .nil h)
  refine pe.imp fun σ H Q h => ?_
  obtain ⟨w, ρ, R, g⟩ := h
  rw [ev, evs] at g
  exact spD_of R .nil rfl g
/-! ### methods -/
/-- o.m(..), o's class found there -/
def tMethD (X : Cx) (k : Nat) (E : L2.St → XK) (m : Str) (te : TE) (t : TA) : TE := fun σ H Q => te σ H fun x H1 => ∃ a C dx fs g fd ps sp, x = .ref a ∧ H1 a = some (.ins C dx fs) ∧ Cls X.K C ∧ Meth X.K C m g ∧ fs.lookup m = none ∧ Binds X.K fd ps [] ∧ FnOk X.prog X.w X.K X.mg X.base (L2.CX X.prog X.w) k g fd ps sp ∧
  t σ H1 fun vs H2 => sp (x :: vs) H2 Q (E σ)
theorem meth_form {o : Expr} {m : Str} {apos : Pos} {args : List Expr} (hb : attributeBase o m X.env (eval o X.env) = eval o X.env) (hline : (apos.endLine == pos.line) = true)
    (hf : methodCallForm (args.length + 0) (backTo pos (starEach args X.env)) [] = true) :
    eval (.Call (.Attribute o m apos) args [] pos) X.env = (do
      let ov ← eval o X.env
      standAt apos.atName
      let (f, first) ← holding [ov] (getMethod ov m (do return (← importBound o X.env).getD true))
      callWith pos f first (backTo pos (starEach args X.env)) (backToKw pos (keywordEach [] X.env))) := by
  have e : eval (.Call (.Attribute o m apos) args [] pos) X.env = (do
      let ov ← attributeBase o m X.env (eval o X.env)
      standAt apos.atName
      methodCall o m apos pos X.env ov (args.length + ([] : List Keyword).length) (backTo pos (starEach args X.env)) (backToKw pos (keywordEach [] X.env))) := rfl
  rw [e, hb]
  have e2 : ∀ ov, methodCall o m apos pos X.env ov (args.length + ([] : List Keyword).length) (backTo pos (starEach args X.env)) (backToKw pos (keywordEach [] X.env)) = (do
      let (f, first) ← holding [ov] (getMethod ov m (do return (← importBound o X.env).getD true))
      callWith pos f first (backTo pos (starEach args X.env)) (backToKw pos (keywordEach [] X.env))) := fun ov => by
    unfold methodCall
    have hf' : methodCallForm (args.length + ([] : List Keyword).length) (backTo pos (starEach args X.env)) (backToKw pos (keywordEach [] X.env)) = true := hf
    rw [hf']
    have h1 : calleeOf true o X.env ov m = getMethod ov m (do return (← importBound o X.env).getD true) := rfl
    have h2 : methodCallPos true o X.env apos pos = pure pos := by
      unfold methodCallPos
      rw [hline]; rfl
    rw [h1, h2]; rfl
  exact congrArg _ (funext fun ov => congrArg _ (funext fun _ => e2 ov))
theorem pe_methD {o e : Expr} {es : List Expr} {m : Str} {apos : Pos} {k : Nat} {te : TE} {t : TA} (hr : Room k X.A) (tk : Takes X W) (he : PE X o te) (ha : PA X (e :: es) t) (hb : attributeBase o m X.env (eval o X.env) = eval o X.env) (hline : (apos.endLine == pos.line) = true)
    (hf : methodCallForm ((e :: es).length + 0) (backTo pos (starEach (e :: es) X.env)) [] = true) (hst : starEach (e :: es) X.env = (false, eval e X.env) :: starEach es X.env) (hpl : (backTo pos (starEach es X.env)).any (·.1) = false) :
    PE X (.Call (.Attribute o m apos) (e :: es) [] pos) (tMethD X k (WE W) m te t) := by
  refine ⟨fun pins s σ H Q I h => ?_⟩
  refine PySem.W.methodCall_KW (pl := (do return (← importBound o X.env).getD true)) (thn (he.run pins s σ H _ I h) fun u s1 ⟨x, H1, I1, rx, a, C, dx, fs, g, fd, ps, sp, ex, ea, c, hm, l, hbd, F, q⟩ => ?_) (meth_form hb hline hf)
  subst ex
  obtain rfl : u = Value.ref a := rx
  refine getmeth_ok I1 ea c hm l ?_
  refine PySem.W.callWith_K (first := [.ref a]) (h₀ := X.base) I1.ok.mod.kin hm.kp (thn (ha.run pos pins s1 σ H1 _ I1 q) fun us s2 ⟨vs, H2, I2, r, q2⟩ => ⟨I2.kIn, ?_⟩) hst hpl
  exact run_fnS (E := WE W) (us := .ref a :: us) (vs := .ref a :: vs) F hr hbd (passAt tk σ) I2 (.cons rfl r) q2
theorem pe_methD0 {o : Expr} {m : Str} {apos : Pos} {k : Nat} {te : TE} (hr : Room k X.A) (tk : Takes X W) (he : PE X o te) (hb : attributeBase o m X.env (eval o X.env) = eval o X.env) (hline : (apos.endLine == pos.line) = true) :
    PE X (.Call (.Attribute o m apos) [] [] pos) (tMethD X k (WE W) m te tNil) := by
  refine ⟨fun pins s σ H Q I h => ?_⟩
  refine PySem.W.methodCall_KW (pl := (do return (← importBound o X.env).getD true)) (thn (he.run pins s σ H _ I h) fun u s1 ⟨x, H1, I1, rx, a, C, dx, fs, g, fd, ps, sp, ex, ea, c, hm, l, hbd, F, q⟩ => ?_) (meth_form hb hline rfl)
  subst ex
  obtain rfl : u = Value.ref a := rx
  refine getmeth_ok I1 ea c hm l ?_
  exact PySem.W.callWith_K0 (first := [.ref a]) I1.kIn hm.kp (run_fnS (E := WE W) (us := [.ref a]) (vs := [.ref a]) F hr hbd (passAt tk σ) I1 (.cons rfl .nil) q)
/-- what is known of a method m of the class number c -/
structure DefM (G : Gx) (X : Cx) (k c : Nat) (m : Str) (n : Nat) (f : List Dt → List MO → FR) : Prop where
  ex : ∀ C, G.cls c = some C → ∃ g fd ps, Cls G.K C ∧ Meth G.K C m g ∧ Binds X.K fd ps [] ∧ FnOk X.prog X.w X.K X.mg X.base (L2.CX X.prog X.w) k g fd ps (spD G n f)
theorem lookup_none {f : Str} : ∀ {fl : List (Str × V)}, (fl.map (·.1)).contains f = false → fl.lookup f = none
  | [], _ => rfl
  | (n, v) :: r, h => by
    simp only [List.map_cons, List.contains_cons, Bool.or_eq_false_iff] at h
    simp only [List.lookup, h.1]
    exact lookup_none h.2
theorem mcls_ok {x : RV} {m : Str} {c : Nat} {vx : V} (R : Rel G w ρ σ H) (hx : RR G w ρ σ H x vx) (h : mcls x m ρ = some c) : ∃ a C dx fl, vx = .ref a ∧ G.cls c = some C ∧ H a = some (.ins C dx fl) ∧ fl.lookup m = none := by
  unfold mcls at h
  split at h
  · split at h
    · simp at h
    · rename_i hn
      cases h
      obtain ⟨a, C, dx, fl, rfl, hC, hF, en, rl⟩ := Rep.inv_ins hx
      subst en
      exact ⟨a, C, dx, fl, rfl, hC, R.subF _ _ hF, lookup_none (by simpa using hn)⟩
  · split at h
    · rename_i e
      split at h
      · simp at h
      · rename_i hn
        cases h
        obtain ⟨a, rfl, e2⟩ := Rep.inv_ref hx
        obtain ⟨_, _, mo, e3, mm⟩ := R.stR _ a e2
        rw [e] at e3; cases e3
        obtain ⟨C, dx, fl, hC, hF, en, rl⟩ := mm
        subst en
        exact ⟨a, C, dx, fl, rfl, hC, hF, lookup_none (by simpa using hn)⟩
    · simp at h
  · simp at h
theorem meth_red {x : RV} {m : Str} {es : List ME} {k : RV → SS → Wd → Hp → Prop} (g : Go G W w σ (match x, mcls x m ρ with
    | .v d, some c => if L.hasM c m then (evs L es ρ).bind fun ds s => liftF (L.meth c m (d :: ds) s.st) s else .no
    | _, _ => .no) k) : ∃ d c, x = .v d ∧ mcls x m ρ = some c ∧ L.hasM c m = true ∧ Go G W w σ ((evs L es ρ).bind fun ds s => liftF (L.meth c m (d :: ds) s.st) s) k := by
  split at g
  · rename_i d c e
    split at g
    · rename_i h; exact ⟨d, c, rfl, e, h, g⟩
    · exact g.elim
  · exact g.elim
theorem sv_meth {o e : Expr} {es : List Expr} {m : Str} {mo : ME} {ms : List ME} {apos : Pos} {k : Nat} (hK : X.K = G.K) (hr : Room k X.A) (tk : Takes X W) (hM : ∀ c, L.hasM c m = true → DefM G X k c m (es.length + 2) (L.meth c m)) (hl : ms.length = es.length + 1)
    (he : PE X o (tE G W (ev L mo))) (ha : PA X (e :: es) (tA G W (evs L ms))) (hb : attributeBase o m X.env (eval o X.env) = eval o X.env) (hline : (apos.endLine == pos.line) = true)
    (hf : methodCallForm ((e :: es).length + 0) (backTo pos (starEach (e :: es) X.env)) [] = true) (hst : starEach (e :: es) X.env = (false, eval e X.env) :: starEach es X.env) (hpl : (backTo pos (starEach es X.env)).any (·.1) = false) :
    PE X (.Call (.Attribute o m apos) (e :: es) [] pos) (tE G W (ev L (.meth mo m ms))) := by
  refine (pe_methD (k := k) hr tk he ha hb hline hf hst hpl).imp fun σ H Q h => ?_
  obtain ⟨w, ρ, R, g⟩ := h
  rw [ev] at g
  refine ⟨w, ρ, R, g.bind.mono fun x ρ1 w1 H1 _ e1 R1 q vx hx => ?_⟩
  obtain ⟨d, c, rfl, ec, hh, q⟩ := meth_red q
  obtain ⟨a, C, dx, fl, rfl, hC, hH, hlk⟩ := mcls_ok R1 hx ec
  obtain ⟨g', fd, ps, hc, hm, hbd, F⟩ := (hM c hh).ex C hC
  refine ⟨a, C, dx, fl, g', fd, ps, _, rfl, hH, by rw [hK]; exact hc, by rw [hK]; exact hm, hlk, hbd, F, ?_⟩
  obtain ⟨w2, R2, eF, eA, g2⟩ := pend R1 hx q.bind
  refine ⟨w2, ρ1, R2, g2.mono fun ds ρ3 w3 H3 eo e3 R3 q3 vs hvs => ?_⟩
  obtain ⟨w4, e4, R4, hx4, eF4, eA4, _, q4⟩ := q3
  refine spD_of R4 (.cons hx4 ?_) (by simp [evs_len eo, hl]) q4
  rw [eF4, eA4]; exact hvs
theorem sv_meth0 {o : Expr} {m : Str} {mo : ME} {apos : Pos} {k : Nat} (hK : X.K = G.K) (hr : Room k X.A) (tk : Takes X W) (hM : ∀ c, L.hasM c m = true → DefM G X k c m 1 (L.meth c m))
    (he : PE X o (tE G W (ev L mo))) (hb : attributeBase o m X.env (eval o X.env) = eval o X.env) (hline : (apos.endLine == pos.line) = true) :
    PE X (.Call (.Attribute o m apos) [] [] pos) (tE G W (ev L (.meth mo m []))) := by
  refine (pe_methD0 (k := k) hr tk he hb hline).imp fun σ H Q h => ?_
  obtain ⟨w, ρ, R, g⟩ := h
  rw [ev] at g
  refine ⟨w, ρ, R, g.bind.mono fun x ρ1 w1 H1 _ e1 R1 q vx hx => ?_⟩
  obtain ⟨d, c, rfl, ec, hh, q⟩ := meth_red q
  obtain ⟨a, C, dx, fl, rfl, hC, hH, hlk⟩ := mcls_ok R1 hx ec
  obtain ⟨g', fd, ps, hc, hm, hbd, F⟩ := (hM c hh).ex C hC
  refine ⟨a, C, dx, fl, g', fd, ps, _, rfl, hH, by rw [hK]; exact hc, by rw [hK]; exact hm, hlk, hbd, F, ?_⟩
  rw [evs] at q
  exact spD_of R1 (.cons hx .nil) rfl q
/-! ### instances made -/
theorem run_makeS {k : Nat} {f C : Addr} {fd : FuncData} {ps : List Str} {sp : Sp} {E : L2.St → XK} {pins : List (Addr × Obj)} {s : Shared} {Q : VK} {us : List Value} {vs : List V} (M : Mk X.K C f) (F : FnOk X.prog X.w X.K X.mg X.base (L2.CX X.prog X.w) k f fd ps sp) (hr : Room (k + 1) X.A) (hb : Binds X.K fd ps [])
    (hx : PassesAt (L2.CX X.prog X.w) X σ (E σ)) (I : Inv X pins σ H s) (r : Vals vs us)
    (h : ∀ x dx, H x = none → H dx = none → dx ≠ x → sp (.ref x :: vs) (upd (upd H dx (.own x)) x (.ins C dx [])) (fun v H2 => v = .non ∧ Q (.ref x) H2) (E σ)) :
    wpAny (model X.prog X.w) X.A (PySem.call (.ref C) us) (EP X pins σ Q) X.xe s := by
  have hq := h (s.heap.objs.size + 1) s.heap.objs.size (I.hok.fresh (Nat.le_succ _)) (I.hok.fresh (Nat.le_refl _)) (Nat.ne_of_lt (Nat.lt_succ_self _))
  have I2 := Inv.made (C := C) I
  have r2 : Vals (V.ref (s.heap.objs.size + 1) :: vs) (Value.ref (s.heap.objs.size + 1) :: us) := .cons rfl r
  have hl : (Value.ref (s.heap.objs.size + 1) :: us).length = ps.length := by
    have e := r2.length
    rw [F.len _ _ _ _ hq] at e
    exact e.symm
  have b := hb { s with heap := (s.heap.push PySem.W.emptyDict).push (PySem.W.instObj C s.heap.objs.size) } (Value.ref (s.heap.objs.size + 1) :: us) I2.kIn (by rw [List.append_nil]; exact hl)
  rw [List.append_nil] at b
  refine wpAny_call (make_map (f := f) I.kIn M.makes M.init (beq_iff_eq.mp M.fn) (codeAny_mono (F.run _ X.stack _ _ ⟨Value.ref (s.heap.objs.size + 1) :: us, []⟩ (Value.ref (s.heap.objs.size + 1) :: us) _ _ (E σ) (hr.make C us [])
    (I2.env0.make C us []) b r2 hq) fun r s' hq' => ?_))
  cases r with
  | error e => exact hx pins _ _ e s' I2 hq'
  | ok fl =>
    cases fl with
    | ret u =>
      obtain ⟨v, H', I3, rv, ev, q3⟩ := I2.after hq'
      subst ev
      exact ⟨rv, ⟨V.ref (s.heap.objs.size + 1), H', I3, rfl, q3⟩⟩
    | next => exact False.elim hq'
    | brk => exact False.elim hq'
    | cont => exact False.elim hq'
def tMakeS (C : Addr) (sp : Sp) (E : L2.St → XK) (t : TA) : TE := fun σ H Q => t σ H fun vs H1 => ∀ x dx, H1 x = none → H1 dx = none → dx ≠ x →
  sp (.ref x :: vs) (upd (upd H1 dx (.own x)) x (.ins C dx [])) (fun v H2 => v = .non ∧ Q (.ref x) H2) (E σ)
theorem pe_makeS {k : Nat} {f C : Addr} {fd : FuncData} {ps : List Str} {sp : Sp} {E : L2.St → XK} {x : Str} {p : Pos} {e : Expr} {es : List Expr} {t : TA} (M : Mk X.K C f) (F : FnOk X.prog X.w X.K X.mg X.base (L2.CX X.prog X.w) k f fd ps sp) (hr : Room (k + 1) X.A) (hg : Gl X x) (hm : X.mg x = some (.ref C)) (hb : Binds X.K fd ps []) (hx : ∀ σ, PassesAt (L2.CX X.prog X.w) X σ (E σ))
    (ha : PA X (e :: es) t) (hdb : (x == ("__debug__" : Str)) = false) (he : starEach (e :: es) X.env = (false, eval e X.env) :: starEach es X.env) (hpl : (backTo pos (starEach es X.env)).any (·.1) = false) :
    PE X (.Call (.Name x p) (e :: es) [] pos) (tMakeS C sp E t) := by
  refine ⟨fun pins s σ H Q I h => ?_⟩
  refine wpAny_Call_Name_kw (ld_glob I hg hm ?_ hdb)
  refine PySem.W.callWith_K (h₀ := X.base) I.ok.mod.kin M.kp (thn (ha.run pos pins s σ H _ I h) fun us s1 ⟨vs, H1, I1, r, q⟩ => ⟨I1.kIn, ?_⟩) he hpl
  exact run_makeS M F hr hb (hx σ) I1 r q
theorem pe_makeS0 {k : Nat} {f C : Addr} {fd : FuncData} {ps : List Str} {sp : Sp} {E : L2.St → XK} {x : Str} {p : Pos} (M : Mk X.K C f) (F : FnOk X.prog X.w X.K X.mg X.base (L2.CX X.prog X.w) k f fd ps sp) (hr : Room (k + 1) X.A) (hg : Gl X x) (hm : X.mg x = some (.ref C)) (hb : Binds X.K fd ps []) (hx : ∀ σ, PassesAt (L2.CX X.prog X.w) X σ (E σ))
    (hdb : (x == ("__debug__" : Str)) = false) : PE X (.Call (.Name x p) [] [] pos) (tMakeS C sp E tNil) := by
  refine ⟨fun pins s σ H Q I h => ?_⟩
  refine wpAny_Call_Name_kw (ld_glob I hg hm ?_ hdb)
  exact PySem.W.callWith_K0 I.kIn M.kp (run_makeS (us := []) M F hr hb (hx σ) I .nil h)
end
/-- a class whose instances stand in the store -/
def mkS (c : Nat) (f : List Dt → List MO → FR) (ds : List Dt) (st : List MO) : FR := match f (.ref st.length :: ds) (st ++ [.i c [] []]) with
  | .ok (.v .non) st' => .ok (.v (.ref st.length)) st'
  | .ok _ _ => .no
  | .ex c fs st' => .ex c fs st'
  | .no => .no
/-- a class whose instances stay as they are made -/
def mkI (c : Nat) (f : List Dt → List MO → Out (List MO) (List Str × List Dt)) (ds : List Dt) (st : List MO) : FR := match f ds st with
  | .ok r st' => .ok (.v (.ins c r.1 r.2)) st'
  | .ex c fs st' => .ex c fs st'
  | .no => .no
/-- what is known of a class that is made by its name -/
structure Mkd (G : Gx) (X : Cx) (k : Nat) (x : Str) (n : Nat) (f : List Dt → List MO → FR) : Prop where
  ex : ∃ C a fd ps c, X.mg x = some (.ref C) ∧ Mk X.K C a ∧ Binds X.K fd ps [] ∧ G.cls c = some C ∧
    ((∃ fi, FnOk X.prog X.w X.K X.mg X.base (L2.CX X.prog X.w) k a fd ps (spD G (n + 1) fi) ∧ f = mkS c fi) ∨ ∃ fi, FnOk X.prog X.w X.K X.mg X.base (L2.CX X.prog X.w) k a fd ps (spI G n c fi) ∧ f = mkI c fi)
section
variable {G : Gx} {W : WX} {w w1 : Wd} {ρ : SS} {σ : L2.St} {H : Hp} {X : Cx} {pos : Pos} {L : Fns}
theorem mkS_of {n c : Nat} {C x dx : Addr} {fi : List Dt → List MO → FR} {ds : List Dt} {vs : List V} {Q : VK} (R : Rel G w ρ σ H) (hC : G.cls c = some C) (hv : RepL G w.F w.A vs ds) (hn : ds.length = n) (h1 : H x = none) (h2 : H dx = none) (h3 : dx ≠ x)
    (g : Go G W w σ (liftF (mkS c fi ds ρ.st) ρ) fun r ρ' w' H' => ∀ v, RR G w' ρ' σ H' r v → Q v H') :
    spD G (n + 1) fi (.ref x :: vs) (upd (upd H dx (.own x)) x (.ins C dx [])) (fun v H2 => v = .non ∧ Q (.ref x) H2) (WE W σ) := by
  have h1' : (upd H dx (.own x)) x = none := by rw [upd_ne (Ne.symm h3)]; exact h1
  have R1 : Rel G w ρ σ (upd (upd H dx (.own x)) x (.ins C dx [])) := (R.new h2).new h1'
  have f := R.fresh h1
  have inn : Wok G { w.inn (upd (upd H dx (.own x)) x (.ins C dx [])) with A := w.A ++ [x], T := fun a => if a = x then none else restT w (upd (upd H dx (.own x)) x (.ins C dx [])) a } (ρ.st ++ [.i c [] []]) (upd (upd H dx (.own x)) x (.ins C dx [])) := by
    have E := R1.toWok.enter
    refine ⟨E.subF, fun a o e => ?_, fun a => ?_, ?_, fun k a e => ?_, fun k m a e1 e2 => ?_⟩
    · have e : (if a = x then none else restT w _ a) = some o := e
      by_cases q : a = x
      · rw [if_pos q] at e; cases e
      · rw [if_neg q] at e; exact E.subT _ _ e
    · rcases E.dis a with z | z
      · exact .inl z
      · right; show (if a = x then none else restT w _ a) = none
        split
        · rfl
        · exact z
    · show (w.A ++ [x]).length = (ρ.st ++ [MO.i c [] []]).length
      rw [List.length_append, List.length_append, R.stL]; rfl
    · have e : (w.A ++ [x])[k]? = some a := e
      by_cases hk : k < w.A.length
      · rw [List.getElem?_append_left hk] at e
        obtain ⟨z1, z2, mo, z3, z4⟩ := E.stR k a e
        refine ⟨z1, ?_, mo, by rw [List.getElem?_append_left (R.stL ▸ hk)]; exact z3, MRep.mono (w := w.inn (upd (upd H dx (.own x)) x (.ins C dx []))) (fun _ _ h => h) (Ax.app _ _) z4⟩
        show (if a = x then none else restT w _ a) = none
        split
        · rfl
        · exact z2
      · have hk' : k = w.A.length := by
          have := (List.getElem?_eq_some_iff.mp e).1
          simp at this; omega
        subst hk'
        rw [List.getElem?_append_right (Nat.le_refl _), Nat.sub_self] at e
        cases e
        refine ⟨f.F, by show (if x = x then none else _) = none; rw [if_pos rfl], .i c [] [], ?_, C, dx, [], hC, upd_same, rfl, .nil⟩
        rw [R.stL, List.getElem?_append_right (Nat.le_refl _), Nat.sub_self]; rfl
    · have e1 : (w.A ++ [x])[k]? = some a := e1
      have e2 : (w.A ++ [x])[m]? = some a := e2
      have lt1 := (List.getElem?_eq_some_iff.mp e1).1
      have lt2 := (List.getElem?_eq_some_iff.mp e2).1
      rw [List.length_append, List.length_singleton] at lt1 lt2
      have at_ : ∀ j, j < w.A.length + 1 → (w.A ++ [x])[j]? = some a → (j < w.A.length ∧ w.A[j]? = some a) ∨ (j = w.A.length ∧ a = x) := fun j hj e => by
        by_cases hk : j < w.A.length
        · rw [List.getElem?_append_left hk] at e; exact .inl ⟨hk, e⟩
        · have : j = w.A.length := by omega
          subst this
          rw [List.getElem?_append_right (Nat.le_refl _), Nat.sub_self] at e
          cases e; exact .inr ⟨rfl, rfl⟩
      rcases at_ k lt1 e1 with ⟨a1, a2⟩ | ⟨a1, a2⟩
      · rcases at_ m lt2 e2 with ⟨b1, b2⟩ | ⟨b1, b2⟩
        · exact R.stN k m a a2 b2
        · subst b2; exact absurd (List.mem_of_getElem? a2) f.A
      · rcases at_ m lt2 e2 with ⟨b1, b2⟩ | ⟨b1, b2⟩
        · subst a2; exact absurd (List.mem_of_getElem? b2) f.A
        · omega
  have hx0 : Rep G w.F (w.A ++ [x]) (.ref x) (.ref ρ.st.length) := .ref (by rw [← R.stL, List.getElem?_append_right (Nat.le_refl _), Nat.sub_self]; rfl)
  refine ⟨by simp [hv.length, hn], _, _, .ref ρ.st.length :: ds, rfl, inn, .cons hx0 (hv.mono (Same.refl _) (Ax.app _ _)), ?_⟩
  -- behind the call
  have back : ∀ {w2 : Wd} {st2 : List MO} {H2 : Hp}, Ext { w.inn (upd (upd H dx (.own x)) x (.ins C dx [])) with A := w.A ++ [x], T := fun a => if a = x then none else restT w (upd (upd H dx (.own x)) x (.ins C dx [])) a } w2 → Wok G w2 st2 H2 →
      Ext w (w2.unp w) ∧ Rel G (w2.unp w) { ρ with st := st2 } σ H2 := fun {w2 st2 H2} e R2 => by
    have eT : w2.T = fun a => if a = x then none else restT w (upd (upd H dx (.own x)) x (.ins C dx [])) a := e.T
    have kT : ∀ a o, w.F a = none → a ∉ w.A → H a = some o → w2.T a = some o := fun a o q1 q2 q3 => by
      have n1 : a ≠ x := fun z => by rw [z, h1] at q3; cases q3
      have n2 : a ≠ dx := fun z => by rw [z, h2] at q3; cases q3
      rw [eT]
      show (if a = x then none else _) = _
      rw [if_neg n1]
      exact restT_of q1 q2 (by rw [upd_ne n1, upd_ne n2]; exact q3)
    have sT : Same w.T w2.T := fun a o h => by
      refine kT a o ?_ ?_ (R.subT _ _ h)
      · rcases R.dis a with z | z
        · exact z
        · rw [h] at z; cases z
      · intro m
        obtain ⟨n, en⟩ := mem_A m
        have := (R.stR n a en).2.1
        rw [h] at this; cases this
    have kp : ∀ i p, OwnAt ρ σ i p → ∃ o, H p = some o ∧ w2.T p = some o := fun i p h => by
      obtain ⟨o, ho⟩ := R.inOwn h
      obtain ⟨q1, _, q3⟩ := R.own i p h
      exact ⟨o, ho, kT p o q1 q3 ho⟩
    have EX : Ext w (w2.unp w) := ⟨e.F, (Ax.app _ _).trans e.A, rfl, rfl, rfl⟩
    refine ⟨EX, {
      subF := R2.subF
      subT := sT.trans R2.subT
      dis := fun a => by
        rcases R2.dis a with z | z
        · exact .inl z
        · right; exact none_of fun o h => (by rw [sT _ _ h] at z; cases z)
      stL := R2.stL
      stR := fun n a en => by
        obtain ⟨h1, h2, mo, h3, h4⟩ := R2.stR n a en
        exact ⟨h1, none_of fun o h => (by rw [sT _ _ h] at h2; cases h2), mo, h3, h4.mono (w := w2) (w' := w2.unp w) (Same.refl _) (Ax.refl _)⟩
      stN := R2.stN
      len := R.len
      sl := fun i x' ex => ((R.sl i x' ex).ext (w' := w2.unp w) EX).heap fun p ep ho => by
        obtain ⟨o, h1, h2⟩ := kp i p ⟨ep, x', ex, ho⟩
        rw [h1, R2.subT _ _ h2]
      own := fun i p h => by
        obtain ⟨o, h1, h2⟩ := kp i p h
        refine ⟨?_, (R.own i p h).2.1, fun m => ?_⟩
        · rcases R2.dis p with z | z
          · exact z
          · rw [h2] at z; cases z
        · obtain ⟨n, en⟩ := mem_A m
          have := (R2.stR n p en).2.1
          rw [h2] at this; cases this
      ownN := R.ownN
      lT := R.lT }⟩
  unfold mkS at g
  cases q : fi (.ref ρ.st.length :: ds) (ρ.st ++ [.i c [] []]) with
  | no => rw [q] at g; exact g
  | ex c' fs st' =>
    rw [q] at g
    intro cls d H' w' e R' x
    obtain ⟨e', R''⟩ := back e R'
    exact g cls d H' _ e' R'' x.unp
  | ok r st' =>
    rw [q] at g
    intro v H' w' e R' rf
    obtain ⟨e', R''⟩ := back e R'
    cases r with
    | nl xs => exact g.elim
    | bw i => exact g.elim
    | v d =>
      cases d <;> try exact g.elim
      obtain rfl := Rep.inv_non rf
      refine ⟨rfl, g H' _ e' R'' _ (hx0.mono ?_ e.A)⟩
      exact e.F
theorem mkI_of {n c : Nat} {C x dx : Addr} {fi : List Dt → List MO → Out (List MO) (List Str × List Dt)} {ds : List Dt} {vs : List V} {Q : VK} (R : Rel G w ρ σ H) (hC : G.cls c = some C) (hv : RepL G w.F w.A vs ds) (hn : ds.length = n) (h1 : H x = none) (h2 : H dx = none) (h3 : dx ≠ x)
    (g : Go G W w σ (liftF (mkI c fi ds ρ.st) ρ) fun r ρ' w' H' => ∀ v, RR G w' ρ' σ H' r v → Q v H') :
    spI G n c fi (.ref x :: vs) (upd (upd H dx (.own x)) x (.ins C dx [])) (fun v H2 => v = .non ∧ Q (.ref x) H2) (WE W σ) := by
  have h1' : (upd H dx (.own x)) x = none := by rw [upd_ne (Ne.symm h3)]; exact h1
  have R1 : Rel G w ρ σ (upd (upd H dx (.own x)) x (.ins C dx [])) := (R.new h2).new h1'
  have f := R.fresh h1
  -- the instance stands beside what is kept
  have E := R1.toWok.enter
  have inn : Wok G { w.inn (upd (upd H dx (.own x)) x (.ins C dx [])) with M := some x, T := fun a => if a = x then none else restT w (upd (upd H dx (.own x)) x (.ins C dx [])) a } ρ.st (upd (upd H dx (.own x)) x (.ins C dx [])) := by
    refine ⟨E.subF, fun a o e => ?_, fun a => ?_, E.stL, fun k a e => ?_, E.stN⟩
    · have e : (if a = x then none else restT w _ a) = some o := e
      by_cases q : a = x
      · rw [if_pos q] at e; cases e
      · rw [if_neg q] at e; exact E.subT _ _ e
    · rcases E.dis a with z | z
      · exact .inl z
      · right; show (if a = x then none else restT w _ a) = none
        split
        · rfl
        · exact z
    · obtain ⟨z1, z2, mo, z3, z4⟩ := E.stR k a e
      refine ⟨z1, ?_, mo, z3, z4.mono (Same.refl _) (Ax.refl _)⟩
      show (if a = x then none else restT w _ a) = none
      split
      · rfl
      · exact z2
  refine ⟨by simp [hv.length, hn], _, _, ds, x, C, dx, vs, rfl, rfl, inn, rfl, hv, hC, upd_same, f.F, by show (if x = x then none else _) = none; rw [if_pos rfl], f.A, ?_⟩
  have back : ∀ {w2 : Wd} {st2 : List MO} {H2 : Hp}, Ext { w.inn (upd (upd H dx (.own x)) x (.ins C dx [])) with M := some x, T := fun a => if a = x then none else restT w (upd (upd H dx (.own x)) x (.ins C dx [])) a } w2 → Wok G w2 st2 H2 →
      Ext w (w2.unp w) ∧ Rel G (w2.unp w) { ρ with st := st2 } σ H2 ∧ (w2.F x = none → x ∉ w2.A → Free (w2.unp w) { ρ with st := st2 } σ x) := fun {w2 st2 H2} e R2 => by
    have eT : w2.T = fun a => if a = x then none else restT w (upd (upd H dx (.own x)) x (.ins C dx [])) a := e.T
    have kT : ∀ a o, w.F a = none → a ∉ w.A → H a = some o → w2.T a = some o := fun a o q1 q2 q3 => by
      have n1 : a ≠ x := fun z => by rw [z, h1] at q3; cases q3
      have n2 : a ≠ dx := fun z => by rw [z, h2] at q3; cases q3
      rw [eT]
      show (if a = x then none else _) = _
      rw [if_neg n1]
      exact restT_of q1 q2 (by rw [upd_ne n1, upd_ne n2]; exact q3)
    have sT : Same w.T w2.T := fun a o h => by
      refine kT a o ?_ ?_ (R.subT _ _ h)
      · rcases R.dis a with z | z
        · exact z
        · rw [h] at z; cases z
      · intro m
        obtain ⟨n, en⟩ := mem_A m
        have := (R.stR n a en).2.1
        rw [h] at this; cases this
    have kp : ∀ i p, OwnAt ρ σ i p → ∃ o, H p = some o ∧ w2.T p = some o := fun i p h => by
      obtain ⟨o, ho⟩ := R.inOwn h
      obtain ⟨q1, _, q3⟩ := R.own i p h
      exact ⟨o, ho, kT p o q1 q3 ho⟩
    have EX : Ext w (w2.unp w) := ⟨e.F, e.A, rfl, rfl, rfl⟩
    refine ⟨EX, {
      subF := R2.subF
      subT := sT.trans R2.subT
      dis := fun a => by
        rcases R2.dis a with z | z
        · exact .inl z
        · right; exact none_of fun o h => (by rw [sT _ _ h] at z; cases z)
      stL := R2.stL
      stR := fun n a en => by
        obtain ⟨h1, h2, mo, h3, h4⟩ := R2.stR n a en
        exact ⟨h1, none_of fun o h => (by rw [sT _ _ h] at h2; cases h2), mo, h3, h4.mono (w := w2) (w' := w2.unp w) (Same.refl _) (Ax.refl _)⟩
      stN := R2.stN
      len := R.len
      sl := fun i x' ex => ((R.sl i x' ex).ext (w' := w2.unp w) EX).heap fun p ep ho => by
        obtain ⟨o, h1, h2⟩ := kp i p ⟨ep, x', ex, ho⟩
        rw [h1, R2.subT _ _ h2]
      own := fun i p h => by
        obtain ⟨o, h1, h2⟩ := kp i p h
        refine ⟨?_, (R.own i p h).2.1, fun m => ?_⟩
        · rcases R2.dis p with z | z
          · exact z
          · rw [h2] at z; cases z
        · obtain ⟨n, en⟩ := mem_A m
          have := (R2.stR n p en).2.1
          rw [h2] at this; cases this
      ownN := R.ownN
      lT := R.lT }, fun n1 n2 => ⟨n1, none_of fun o h => ?_, n2, fun i m => ?_⟩⟩
    · have h : w.T x = some o := h
      rw [f.T] at h; cases h
    · obtain ⟨o, q, _⟩ := kp i x m
      rw [h1] at q; cases q
  unfold mkI at g
  cases q : fi ds ρ.st with
  | no => rw [q] at g; exact g
  | ex c' fs st' =>
    rw [q] at g
    intro cls d H' w' e R' x
    obtain ⟨e', R'', _⟩ := back e R'
    exact g cls d H' _ e' R'' x.unp
  | ok r st' =>
    rw [q] at g
    intro H' w' fl dx' e R' hx en rl n1 n2 n3
    obtain ⟨e', R'', fr⟩ := back e R'
    have fx := fr n1 n3
    refine ⟨rfl, g H' _ (e'.trans (Wd.frz_ext fx.F)) (R''.freeze fx hx) _ ?_⟩
    show Rep G _ _ _ (.ins c r.1 r.2)
    rw [← en]
    exact .ins hC (by show upd _ x _ x = _; exact upd_same) (rl.mono (Wd.frz_ext (w := w'.unp w) fx.F).F (Ax.refl _))
theorem sv_make {x : Str} {p : Pos} {e : Expr} {es : List Expr} {ms : List ME} {k : Nat} (hr : Room (k + 1) X.A) (tk : Takes X W) (hd : Mkd G X k x (es.length + 1) (L.make x)) (hl : ms.length = es.length + 1) (hg : Gl X x) (ha : PA X (e :: es) (tA G W (evs L ms)))
    (hdb : (x == ("__debug__" : Str)) = false) (he : starEach (e :: es) X.env = (false, eval e X.env) :: starEach es X.env) (hpl : (backTo pos (starEach es X.env)).any (·.1) = false) :
    PE X (.Call (.Name x p) (e :: es) [] pos) (tE G W (ev L (.make x ms))) := by
  obtain ⟨C, a, fd, ps, c, hm, M, hb, hC, F⟩ := hd.ex
  rcases F with ⟨fi, F, ef⟩ | ⟨fi, F, ef⟩
  · refine (pe_makeS (E := WE W) M F hr hg hm hb (fun σ => passAt tk σ) ha hdb he hpl).imp fun σ H Q h => ?_
    obtain ⟨w, ρ, R, g⟩ := h
    rw [ev, ef] at g
    exact ⟨w, ρ, R, g.bind.mono fun ds ρ1 w1 H1 eo e1 R1 q vs hvs x dx h1 h2 h3 => mkS_of R1 hC hvs (by rw [evs_len eo]; exact hl) h1 h2 h3 q⟩
  · refine (pe_makeS (E := WE W) M F hr hg hm hb (fun σ => passAt tk σ) ha hdb he hpl).imp fun σ H Q h => ?_
    obtain ⟨w, ρ, R, g⟩ := h
    rw [ev, ef] at g
    exact ⟨w, ρ, R, g.bind.mono fun ds ρ1 w1 H1 eo e1 R1 q vs hvs x dx h1 h2 h3 => mkI_of R1 hC hvs (by rw [evs_len eo]; exact hl) h1 h2 h3 q⟩
theorem sv_make0 {x : Str} {p : Pos} {k : Nat} (hr : Room (k + 1) X.A) (tk : Takes X W) (hd : Mkd G X k x 0 (L.make x)) (hg : Gl X x) (hdb : (x == ("__debug__" : Str)) = false) :
    PE X (.Call (.Name x p) [] [] pos) (tE G W (ev L (.make x []))) := by
  obtain ⟨C, a, fd, ps, c, hm, M, hb, hC, F⟩ := hd.ex
  rcases F with ⟨fi, F, ef⟩ | ⟨fi, F, ef⟩
  · refine (pe_makeS0 (E := WE W) M F hr hg hm hb (fun σ => passAt tk σ) hdb).imp fun σ H Q h => ?_
    obtain ⟨w, ρ, R, g⟩ := h
    rw [ev, evs, ef] at g
    exact fun x dx h1 h2 h3 => mkS_of R hC .nil rfl h1 h2 h3 g
  · refine (pe_makeS0 (E := WE W) M F hr hg hm hb (fun σ => passAt tk σ) hdb).imp fun σ H Q h => ?_
    obtain ⟨w, ρ, R, g⟩ := h
    rw [ev, evs, ef] at g
    exact fun x dx h1 h2 h3 => mkI_of R hC .nil rfl h1 h2 h3 g
end
end Mq

/-! MqSort: sorted of a list or tuple of pairs. -/
namespace Mq
open PySem L2 PySem.Spec PyProof.Rows
section
variable {prog : Program} {w : World} {A : Around} {E : Value → Shared → Prop} {s : Shared}
/-- a tuple's items are gathered into a new list -/
theorem gather_tup {l : Addr} {vs : List Value} {Q : List Value → Shared → Prop} (hl : s.heap.IsTuple l vs.toArray) (hz : vs.length ≤ sizeLine)
    (q : Q vs { s with heap := (s.heap.push (seqObj "list" #[] 0)).update s.heap.objs.size (Obj.mapSeq (· ++ vs.toArray)) }) : wpAny (model prog w) A (collect (.ref l)) Q E s := by
  obtain ⟨o, e0, ec, m, ed⟩ := hl
  unfold collect; refine wpAny_bind (wpAny_runValue (codeAny_builtin entry_proto_collect' ?_))
  show wpAny _ _ (do again (.builtin "list.__iadd__" ⟨[← newList [], Value.ref l], []⟩)) _ _ _
  refine wpAny_bind (wpAny_newList (wpAny_pure ⟨Code.quiet_builtin _ (by decide +kernel), codeAny_builtin entry_list_iadd' ?_⟩) (by decide +kernel))
  show wpAny _ _ (Builtin.List.listExtendWith (Value.ref s.heap.objs.size) (Value.ref l) (Value.ref s.heap.objs.size)) _ _ { s with heap := s.heap.push (seqObj "list" #[] 0) }
  have e1 : (s.heap.push (seqObj "list" #[] 0)).get? l = some o := Heap.get?_push_of_some _ e0
  unfold Builtin.List.listExtendWith; refine wpAny_bind (wpAny_typeOf (T := "tuple") ⟨o, e1, ec⟩ ?_)
  have tt : (Builtin.List.listSameRef (Value.ref s.heap.objs.size) (Value.ref l) || Value.type "tuple" == Value.type "list" || Value.type "tuple" == Value.type "tuple") = true := by
    have : (Value.type "tuple" == Value.type "tuple") = true := by rfl
    rw [this, Bool.or_true]
  rw [if_pos tt]; refine wpAny_bind (listItems_at e1 ed (wpAny_bind (listItems_at (xs := #[]) (n := 0) (Heap.get?_push_size _ rfl) rfl ?_)))
  rw [if_neg (by simp)]; refine wpAny_bind (listUpdate_at (xs := #[]) (n := 0) (Heap.get?_push_size _ rfl) rfl (wpAny_pure ?_) (Nat.zero_le _) (by show (#[] ++ vs.toArray).size ≤ _; simp only [Array.size_append, List.size_toArray, List.length_nil]; omega))
  show wpAny (model prog w) A (load s.heap.objs.size >>= fun o => match o.data with | .seq xs _ => pure xs.toList | _ => unsupported "internal:collect") Q E { s with heap := (s.heap.push (seqObj "list" #[] 0)).update s.heap.objs.size (Obj.mapSeq (· ++ vs.toArray)) }
  refine wpAny_bind (wpAny_load (get?_update_seq (Heap.get?_push_size _ rfl) _) ?_); show wpAny _ _ (pure ((#[] : Array Value) ++ vs.toArray).toList) Q E _
  have ev : ((#[] : Array Value) ++ vs.toArray).toList = vs := by simp
  rw [ev]; exact wpAny_pure q
/-- sorted of a tuple, by any order -/
theorem sorted_tupO {l : Addr} {vs : List Value} {lt : Value → Value → Bool} {Q : Value → Shared → Prop} (O : SrtO.Swo lt) (hl : s.heap.IsTuple l vs.toArray) (hz : vs.length ≤ sizeLine)
    (hS : 2 ≤ vs.length → ∀ (h₁ : Heap) (a : Addr), h₁.get? a = some (seqObj "list" vs.toArray 0) → (∀ b o, s.heap.get? b = some o → b ≠ a ∧ h₁.get? b = some o) → SrtO.SortableO prog w A.in1.in1 { s with heap := h₁ } a vs lt)
    (h : ∀ out : List Value, SrtO.Srtd lt out → SrtO.Stb lt out vs → Q (.ref (s.heap.objs.size + 1)) { s with heap := sortedAll s.heap vs out.toArray }) : wpAny (model prog w) A (call (.builtin "sorted") [.ref l]) Q E s := by
  refine Calls.call_function_entry kind_sorted plain_sorted entry_sorted (args_sorted1 _) ?_; unfold Builtin.«sorted»
  refine wpAny_bind (m := checkCount "sorted" 1 1 _) (wpAny_pure (wpAny_bind (gather_tup hl hz (wpAny_bind (wpAny_newList ?_ hz)))))
  let h1 := (s.heap.push (seqObj "list" #[] 0)).update s.heap.objs.size (Obj.mapSeq (· ++ vs.toArray))
  have z1 : h1.objs.size = s.heap.objs.size + 1 := by show ((s.heap.push _).update _ _).objs.size = _; rw [Heap.size_update, size_push']
  have z2 : (h1.push (seqObj "list" vs.toArray 0)).get? (s.heap.objs.size + 1) = some (seqObj "list" vs.toArray 0) := by rw [← z1]; exact Heap.get?_push_size _ rfl
  have z3 : ∀ b o, s.heap.get? b = some o → b ≠ s.heap.objs.size + 1 ∧ (h1.push (seqObj "list" vs.toArray 0)).get? b = some o := fun b o e => by
    have lt := Heap.lt_size e
    exact ⟨Nat.ne_of_lt (Nat.lt_succ_of_lt lt), Heap.get?_push_of_some _ ((Heap.get?_update_ne _ _ _ _ (Nat.ne_of_lt lt)).trans (Heap.get?_push_of_some _ e))⟩
  show wpAny _ _ _ _ _ { s with heap := h1.push (seqObj "list" vs.toArray 0) }
  rw [show ((s.heap.push (seqObj "list" #[] 0)).update s.heap.objs.size (Obj.mapSeq (· ++ vs.toArray))).objs.size = s.heap.objs.size + 1 from z1]
  exact wpAny_bind (wpAny_holding (wpAny_call_entry slot_list_sort ⟨_, z2, rfl⟩ entry_list_sort (SrtO.list_sort_ord O z2 hz (fun k => hS k _ _ z2 z3) fun out a b => ⟨_, rfl, wpAny_pure ⟨_, rfl, h out a b⟩⟩) (args_list_sort _)))
theorem pairs_tupO {l : Addr} {vs : List Value} {k : Value → Int × Int} {Q : Value → Shared → Prop} (hl : s.heap.IsTuple l vs.toArray) (hz : vs.length ≤ sizeLine) (hp : ∀ v ∈ vs, Srt.IsPair s.heap v (k v).1 (k v).2)
    (h : ∀ (h' : Heap) (d : Addr) (out : List Value), SrtO.Srtd (fun v u => SrtO.lexB (k v) (k u)) out → SrtO.Stb (fun v u => SrtO.lexB (k v) (k u)) out vs → (∀ b o, s.heap.get? b = some o → h'.get? b = some o) → s.heap.objs.size ≤ d → (∃ n, h'.get? d = some (seqObj "list" out.toArray n)) → Q (.ref d) { s with heap := h' }) :
    wpAny (model prog w) A (call (.builtin "sorted") [.ref l]) Q E s :=
  sorted_tupO (SrtO.swo_lex k) hl hz (fun h2 h₁ a ha kk => SrtO.pairs_sortableO (s := { s with heap := h₁ }) (by omega) (fun v hm => (hp v hm).keeps fun b o e _ => (kk b o e).2) fun o e => by
    rw [ha] at e; cases e
    exact fun c => absurd (Value.type.inj c) (by decide)) fun out hs hb => h _ _ out hs hb (fun b o e => sortedAll_old e) (Nat.le_succ _) (sortedAll_at s.heap vs out.toArray)
end
theorem psort_of {l ks : List (Int × Int)} (h : l.Perm ks) (k : l.Pairwise fun p q => lexLe p q = true) : l = psort ks := by
  have p2 : (psort ks).Perm ks := List.mergeSort_perm _ _
  have s2 : (psort ks).Pairwise fun p q => lexLe p q = true := by
    refine List.pairwise_mergeSort (fun a b c h1 h2 => ?_) (fun a b => ?_) ks
    · simp only [lexLe, Bool.or_eq_true, Bool.and_eq_true, decide_eq_true_eq] at *; omega
    · simp only [lexLe, Bool.or_eq_true, Bool.and_eq_true, decide_eq_true_eq] at *; omega
  refine List.Perm.eq_of_pairwise (fun a b _ _ h1 h2 => ?_) k s2 (h.trans p2.symm)
  simp only [lexLe, Bool.or_eq_true, Bool.and_eq_true, decide_eq_true_eq] at h1 h2
  exact Prod.ext (by omega) (by omega)
/-- sum of a tuple of ints -/
def rSumT (K : PySem.W.Frag) : List V → Hp → VK → Prop := fun vs H Q => ∃ (t : Addr) (ms : List Int), vs = [V.ref t] ∧ SqT K H t (ms.map V.int) ∧ Q (.int ms.sum) H
theorem cr_sumT {X : Cx} (hc : X.calm = true) : CallR X (.builtin "sum") (rSumT X.K) := by
  intro pins s σ H vs us Q I r h
  obtain ⟨t, ms, rfl, hs, q⟩ := h
  obtain ⟨its, rv, hl, _⟩ := I.tuple hs
  rw [Vals.ref1 r]
  have hl : s.heap.IsTuple t its.toArray := hl
  have hi := rv.ints
  obtain ⟨zs, ez⟩ := hi.allInts.items
  have hn : numsOf (intItems zs).toList = ms := by rw [← ez]; exact hi.numsOf
  rw [nums_intItems] at hn
  rw [ez] at hl
  refine PySem.W.ktm_sumG (I.ok.hd hc) hl fun h' tk t' hk => ?_
  rw [preSum_eq, List.take_of_length_le (by simp), hn]
  exact ⟨.int _, H, I.kept hk, ⟨_, rfl⟩, q⟩
/-- sorted of a tuple of ints -/
def rSortedIT (K : PySem.W.Frag) : List V → Hp → VK → Prop := fun vs H Q => ∃ (t : Addr) (ms : List Int), vs = [V.ref t] ∧ SqT K H t (ms.map V.int) ∧
  ∀ (ms' : List Int) (d : Addr), ms'.Perm ms → ms'.Pairwise (· ≤ ·) → H d = none → Q (.ref d) (upd H d (.lst (ms'.map V.int)))
theorem cr_sortedIT {X : Cx} : CallR X (.builtin "sorted") (rSortedIT X.K) := by
  intro pins s σ H vs us Q I r h
  obtain ⟨t, ms, rfl, hs, q⟩ := h
  obtain ⟨its, rv, hl, hz⟩ := I.tuple hs
  rw [Vals.ref1 r]
  have hi := rv.ints
  refine sorted_tupO SrtO.swo_int hl (by rw [← rv.length]; exact hz) (fun h2 h₁ a' _ _ => SrtO.ints_sortable hi h2) fun out h1 h2 => ?_
  obtain ⟨k1, k2, k3⟩ := SrtO.ints_out hi h1 h2
  obtain ⟨ep, he'⟩ := PyProof.Rows.sortedAll_at s.heap its out.toArray
  have hlen : ((out.map SrtO.iv).map V.int).length ≤ sizeLine := by
    rw [List.length_map, k2.length_eq]
    rwa [List.length_map] at hz
  exact ⟨.ref _, upd H (s.heap.objs.size + 1) (.lst ((out.map SrtO.iv).map V.int)), I.laid (t' := s.toks) (fun _ _ => PyProof.Rows.sortedAll_old) (Nat.le_succ _) ⟨hlen, out, ep, vals_of_ints k1, he'⟩, rfl, q _ _ k2 k3 (I.hok.fresh (Nat.le_succ _))⟩
/-- sorted of a list or a tuple of pairs -/
def rSortedQ (K : PySem.W.Frag) : List V → Hp → VK → Prop := fun vs H Q => ∃ (a : Addr) (xs : List V) (ks : List (Int × Int)), vs = [V.ref a] ∧ (SqL K H a xs ∨ SqT K H a xs) ∧ xs.length = ks.length ∧ (∀ z ∈ xs.zip ks, ∃ t, z.1 = V.ref t ∧ SqT K H t [.int z.2.1, .int z.2.2]) ∧
  ∀ (zs : List (V × (Int × Int))) (p : Addr), zs.Perm (xs.zip ks) → zs.map (·.2) = psort ks → H p = none → Q (.ref p) (upd H p (.lst (zs.map (·.1))))
theorem zip_fst {A B : Type} : ∀ {xs : List A} {ks : List B}, xs.length = ks.length → ∀ x ∈ xs, ∃ k, (x, k) ∈ xs.zip ks
  | y :: r, k :: q, h, x, hx => by
    rcases List.mem_cons.mp hx with rfl | hx
    · exact ⟨k, List.mem_cons_self ..⟩
    · obtain ⟨j, hj⟩ := zip_fst (xs := r) (ks := q) (by simpa using h) x hx
      exact ⟨j, List.mem_cons_of_mem _ hj⟩
theorem zip_fun {A B : Type} {f : A → B} : ∀ {xs : List A} {ks : List B}, xs.length = ks.length → (∀ z ∈ xs.zip ks, f z.1 = z.2) → ks = xs.map f ∧ xs.zip ks = xs.map fun x => (x, f x)
  | [], [], _, _ => ⟨rfl, rfl⟩
  | x :: r, k :: q, h, e => by
    obtain ⟨a, b⟩ := zip_fun (f := f) (xs := r) (ks := q) (by simpa using h) fun z hz => e z (List.mem_cons_of_mem _ hz)
    have e0 : f x = k := e (x, k) (List.mem_cons_self ..)
    rw [List.map_cons, List.map_cons, List.zip_cons_cons, e0, ← a, b]
    exact ⟨rfl, rfl⟩
open Classical in
/-- the pair that stands at a value -/
noncomputable def pairAt (K : PySem.W.Frag) (H : Hp) (v : V) : Int × Int := if h : ∃ ij : Int × Int, ∃ t, v = .ref t ∧ SqT K H t [.int ij.1, .int ij.2] then h.choose else (0, 0)
theorem cr_sortedQ {X : Cx} : CallR X (.builtin "sorted") (rSortedQ X.K) := by
  intro pins s σ H vs us Q I r h
  obtain ⟨a, xs, ks, rfl, hs, hl, hx, q⟩ := h
  obtain ⟨u, rfl, ru⟩ := vals1 r
  obtain rfl : u = Value.ref a := ru
  have hk : ∀ z ∈ xs.zip ks, pairAt X.K H z.1 = z.2 := fun z hz => by
    obtain ⟨t, e, ht⟩ := hx z hz
    have ex : ∃ ij : Int × Int, ∃ t, z.1 = .ref t ∧ SqT X.K H t [.int ij.1, .int ij.2] := ⟨z.2, t, e, ht⟩
    unfold pairAt
    rw [dif_pos ex]
    obtain ⟨t', e', ht'⟩ := ex.choose_spec
    rw [e] at e'; cases e'
    have := I.tuple_inj ht' ht
    simp only [List.cons.injEq, V.int.injEq, and_true] at this
    exact Prod.ext this.1 this.2
  obtain ⟨ek, ez⟩ := zip_fun hl hk
  have hx2 : ∀ x ∈ xs, ∃ t, x = V.ref t ∧ SqT X.K H t [.int (pairAt X.K H x).1, .int (pairAt X.K H x).2] := fun x m => by
    obtain ⟨k, hz⟩ := zip_fst hl x m
    obtain ⟨t, e, ht⟩ := hx _ hz
    rw [hk _ hz]
    exact ⟨t, e, ht⟩
  generalize pairAt X.K H = k at *
  obtain ⟨its, rv, hseq, hz⟩ : ∃ its : List Value, Vals xs its ∧ (s.heap.IsList a its.toArray ∨ s.heap.IsTuple a its.toArray) ∧ xs.length ≤ sizeLine := by
    rcases hs with hs | hs
    · obtain ⟨its, h1, h2, h3⟩ := I.list hs
      exact ⟨its, h1, .inl h2.isList, h3⟩
    · obtain ⟨its, h1, h2, h3⟩ := I.tuple hs
      exact ⟨its, h1, .inr h2, h3⟩
  obtain ⟨e1, e2⟩ := refs_back rv fun x m => let ⟨t, e, _⟩ := hx2 x m; ⟨t, e⟩
  have pr : ∀ v ∈ its, Srt.IsPair s.heap v (k (backV v)).1 (k (backV v)).2 := fun v hv => by
    obtain ⟨t, rfl⟩ := e2 v hv
    obtain ⟨t', e, ht⟩ := hx2 (V.ref t) (by rw [e1]; exact List.mem_map.mpr ⟨_, hv, rfl⟩)
    cases e
    obtain ⟨its2, r2, ⟨o, ho, hc, n, hd⟩, _⟩ := I.tuple ht
    obtain ⟨u1, u2, rfl, ⟨t1, rfl⟩, ⟨t2, rfl⟩⟩ := vals2 r2
    exact ⟨t, o, t1, t2, n, rfl, ho, hc, hd⟩
  have fin : ∀ (h' : Heap) (d : Addr) (out : List Value), SrtO.Srtd (fun v u => SrtO.lexB (k (backV v)) (k (backV u))) out → SrtO.Stb (fun v u => SrtO.lexB (k (backV v)) (k (backV u))) out its → (∀ b o, s.heap.get? b = some o → h'.get? b = some o) → s.heap.objs.size ≤ d → (∃ n, h'.get? d = some (seqObj "list" out.toArray n)) → EP X pins σ Q (.ref d) { s with heap := h' } := fun h' d out h1 h2 kp hd hn => by
    obtain ⟨n, hn⟩ := hn
    have hb : SrtO.Stb (ltP k) (out.map backV) xs := by rw [e1]; exact SrtO.Stb.map (ltP_swo k) backV h2
    have hsr : SrtO.Srtd (ltP k) (out.map backV) := SrtO.srtd_map h1
    have fz : ((out.map backV).map fun y => (y, k y)).map (·.1) = out.map backV := by rw [List.map_map]; exact List.map_id' _
    have sz : ((out.map backV).map fun y => (y, k y)).map (·.2) = psort ks := by
      rw [List.map_map]
      refine psort_of ?_ ?_
      · rw [ek]; exact hb.perm.map k
      · refine List.pairwise_map.mpr (hsr.imp fun {x y} h => ?_)
        have h : SrtO.lexB (k y) (k x) = false := h
        have := SrtO.lexB_no.mp h
        simp only [lexLe, Function.comp, Bool.or_eq_true, Bool.and_eq_true, decide_eq_true_eq]
        omega
    have fin := q ((out.map backV).map fun y => (y, k y)) d (by rw [ez]; exact hb.perm.map _) sz (I.hok.fresh hd)
    rw [fz] at fin
    exact ⟨.ref d, upd H d (.lst (out.map backV)), I.laid (t' := s.toks) kp hd ⟨by rw [hb.len]; exact hz, out, n, vals_back (fun u hu => e2 u (h2.perm.mem_iff.mp hu)), hn⟩, rfl, fin⟩
  rcases hseq with hl | hl
  · exact SrtO.sorted_pairsO (k := fun u => k (backV u)) hl (by rw [← rv.length]; exact hz) pr fin
  · exact pairs_tupO (k := fun u => k (backV u)) hl (by rw [← rv.length]; exact hz) pr fin
section
open PySem PySem.Calls PyProof.Rows
variable {prog : Program} {w : World} {A : Around} {E : Value → Shared → Prop} {s : Shared}
theorem sorted_tup_sort {l : Addr} {vs : List Value} {Q : Value → Shared → Prop} (hl : s.heap.IsTuple l vs.toArray) (hL : vs.length ≤ sizeLine)
    (body : ∀ E' : Value → Shared → Prop, wpAny (model prog w) A.in1.in1 (Builtin.«list.sort» ⟨[.ref (s.heap.objs.size + 1)], []⟩) (fun f s' => f = .done (.ret .none) ∧ Q (.ref (s.heap.objs.size + 1)) s') E' { s with heap := PySem.W.copyHeap s.heap vs }) :
    wpAny (model prog w) A (call (.builtin "sorted") [.ref l]) Q E s := by
  refine Calls.call_function_entry kind_sorted plain_sorted entry_sorted (args_sorted1 _) ?_; unfold Builtin.«sorted»
  refine wpAny_bind (m := checkCount "sorted" 1 1 _) (wpAny_pure (wpAny_bind (gather_tup hl hL (wpAny_bind (wpAny_newList ?_ hL)))))
  have hsz : ((s.heap.push (seqObj "list" #[] 0)).update s.heap.objs.size (Obj.mapSeq (· ++ vs.toArray))).objs.size = s.heap.objs.size + 1 := by
    rw [Heap.size_update, size_push']
  show wpAny _ _ _ _ _ { s with heap := PySem.W.copyHeap s.heap vs }
  rw [hsz]
  refine wpAny_bind (wpAny_holding (wpAny_call_entry slot_list_sort ⟨_, PySem.W.copyHeap_at s.heap vs, rfl⟩ entry_list_sort ?body (args_list_sort _)))
  case body =>
    show wpAny (model prog w) A.in1.in1 (Builtin.«list.sort» ⟨[.ref (s.heap.objs.size + 1)], []⟩) _ _ _
    refine wpAny_mono (body _) (fun f s' hf => ?_) fun _ _ e => e
    obtain ⟨rfl, hq⟩ := hf
    exact ⟨_, rfl, wpAny_pure ⟨_, rfl, hq⟩⟩
theorem sorted_tup_data {β : Type} {vs : List Value} {bs : List β} {enc : β → PyData} {R : Value → β → Prop} {l : Addr} {Q : Value → Shared → Prop} (hl : s.heap.IsTuple l vs.toArray) (e : PySem.W.EachIs R vs bs) (er : PySem.W.EachIs (fun v b => ∃ as, Reads s.heap v (enc b) as) vs bs) (hal : PySem.W.AllAlike (bs.map enc)) (hk : PySem.W.Sortable (bs.map enc)) (hL : bs.length ≤ sizeLine)
    (hu : ∀ b, b ∈ bs → A.units + 2 + (enc b).depth < cLine) (h : ∀ out, out.length = bs.length → PySem.W.EachIs R out (bs.mergeSort (PySem.W.dataLe false enc)) → Q (.ref (s.heap.objs.size + 1)) { s with heap := sortedAll s.heap vs (List.toArray out) }) :
    wpAny (model prog w) A (call (.builtin "sorted") [.ref l]) Q E s := by
  have er' : PySem.W.EachIs (fun v b => ∃ as, Reads (PySem.W.sortingHeap (PySem.W.copyHeap s.heap vs) (s.heap.objs.size + 1) vs) v (enc b) as) vs bs := er.mono fun _ _ ⟨as, r⟩ => ⟨as, PyProof.Rows.Reads.keeps (fun _ _ => PySem.W.sorting_copy_old) r⟩
  refine sorted_tup_sort hl (by rw [e.length]; exact hL) fun _ => PySem.W.list_sort_vals (s := { s with heap := PySem.W.copyHeap s.heap vs }) (PySem.W.copyHeap_at s.heap vs) (PySem.W.SortsAt.data (s := { s with heap := PySem.W.sortingHeap (PySem.W.copyHeap s.heap vs) (s.heap.objs.size + 1) vs }) (PySem.W.each_map (R := fun v d => ∃ as, Reads (PySem.W.sortingHeap (PySem.W.copyHeap s.heap vs) (s.heap.objs.size + 1) vs) v d as) enc er') hal hk (PySem.W.bound_map hu)) (by rw [e.length]; exact hL) ⟨rfl, ?_⟩
  exact h _ (by rw [PySem.W.sortVals_length false rfl]; exact e.length) (PySem.W.sortVals_data false e er' hal)
end
/-- sorted of data that are alike -/
def rSortedD (K : PySem.W.Frag) : List V → Hp → VK → Prop := fun vs H Q => ∃ (a : Addr) (bs : List (V × Dt)), vs = [V.ref a] ∧ (SqL K H a (bs.map (·.1)) ∨ SqT K H a (bs.map (·.1))) ∧ (∀ z ∈ bs, Dp K H z.1 (py z.2) ∧ (py z.2).depth ≤ 40) ∧ srtOk (bs.map (·.2)) = true ∧
  ∀ p : Addr, H p = none → Q (.ref p) (upd H p (.lst ((bs.mergeSort fun x y => dle x.2 y.2).map (·.1))))
theorem isTupC_py {d : Dt} (h : isTupC d = true) : ∃ x r, py d = .tuple (x :: r) := by
  cases d with
  | tup xs => cases xs with
    | nil => cases h
    | cons x r => exact ⟨py x, pyL r, rfl⟩
  | _ => cases h
theorem notNT_py {d : Dt} (h : notNT d = true) : py d ≠ .none ∧ ∀ xs, py d ≠ .tuple xs := by
  cases d <;> first | (cases h; done) | exact ⟨fun z => (by simp [py] at z), fun _ z => (by simp [py] at z)⟩
theorem srt_alike {bs : List Dt} (h : srtOk bs = true) : PySem.W.AllAlike (bs.map py) ∧ PySem.W.Sortable (bs.map py) := by
  unfold srtOk at h
  simp only [Bool.and_eq_true, Bool.or_eq_true, List.all_eq_true] at h
  obtain ⟨⟨_, h2⟩, h3⟩ := h
  refine ⟨fun d hd d' hd' => ?_, ?_⟩
  · obtain ⟨b, hb, rfl⟩ := List.mem_map.mp hd
    obtain ⟨b', hb', rfl⟩ := List.mem_map.mp hd'
    exact h2 b hb b' hb'
  · rcases h3 with h3 | h3
    · left; intro d hd
      obtain ⟨b, hb, rfl⟩ := List.mem_map.mp hd
      exact isTupC_py (h3 b hb)
    · right; intro d hd
      obtain ⟨b, hb, rfl⟩ := List.mem_map.mp hd
      exact notNT_py (h3 b hb)
theorem each_of_vals {R : Value → (V × Dt) → Prop} : ∀ {bs : List (V × Dt)} {its : List Value}, Vals (bs.map (·.1)) its → (∀ z ∈ bs, ∀ v, RelV z.1 v → R v z) → PySem.W.EachIs R its bs
  | [], _, .nil, _ => .nil
  | z :: bs, _, .cons r t, h => .cons (h z (List.mem_cons_self ..) _ r) (each_of_vals t fun y hy => h y (List.mem_cons_of_mem _ hy))
theorem vals_of_each : ∀ {bs : List (V × Dt)} {its : List Value}, PySem.W.EachIs (fun v z => RelV z.1 v) its bs → Vals (bs.map (·.1)) its
  | [], _, .nil => .nil
  | _ :: _, _, .cons r t => .cons r (vals_of_each t)
theorem cr_sortedD {X : Cx} (hu : X.A.units + 64 < cLine) : CallR X (.builtin "sorted") (rSortedD X.K) := by
  intro pins s σ H vs us Q I r h
  obtain ⟨a, bs, rfl, hs, hx, ok, q⟩ := h
  obtain ⟨u, rfl, ru⟩ := vals1 r
  obtain rfl : u = Value.ref a := ru
  obtain ⟨its, rv, hseq, hz⟩ : ∃ its : List Value, Vals (bs.map (·.1)) its ∧ (s.heap.IsList a its.toArray ∨ s.heap.IsTuple a its.toArray) ∧ (bs.map (·.1)).length ≤ sizeLine := by
    rcases hs with hs | hs
    · obtain ⟨its, h1, h2, h3⟩ := I.list hs
      exact ⟨its, h1, .inl h2.isList, h3⟩
    · obtain ⟨its, h1, h2, h3⟩ := I.tuple hs
      exact ⟨its, h1, .inr h2, h3⟩
  rw [List.length_map] at hz
  have e1 : PySem.W.EachIs (fun v (z : V × Dt) => RelV z.1 v) its bs := each_of_vals rv fun z _ v h => h
  have e2 : PySem.W.EachIs (fun v (z : V × Dt) => ∃ as, Reads s.heap v (py z.2) as) its bs := each_of_vals rv fun z hz v h => Dp.reads I _ _ _ (hx z hz).1 h
  obtain ⟨al, so⟩ := srt_alike ok
  rw [List.map_map] at al so
  have le : PySem.W.dataLe false (fun z : V × Dt => py z.2) = fun x y => dle x.2 y.2 := PySem.W.dataLe_eq false _
  have fin : ∀ out, out.length = bs.length → PySem.W.EachIs (fun v (z : V × Dt) => RelV z.1 v) out (bs.mergeSort (PySem.W.dataLe false fun z => py z.2)) → EP X pins σ Q (.ref (s.heap.objs.size + 1)) { s with heap := PyProof.Rows.sortedAll s.heap its (List.toArray out) } := fun out hl h => by
    rw [le] at h
    obtain ⟨n, hn⟩ := PyProof.Rows.sortedAll_at s.heap its out.toArray
    exact ⟨.ref _, upd H (s.heap.objs.size + 1) (.lst ((bs.mergeSort fun x y => dle x.2 y.2).map (·.1))), I.laid (t' := s.toks) (fun _ _ => PyProof.Rows.sortedAll_old) (Nat.le_succ _) ⟨by rw [List.length_map, List.length_mergeSort]; exact hz, out, n, vals_of_each h, hn⟩, rfl, q _ (I.hok.fresh (Nat.le_succ _))⟩
  rcases hseq with hl | hl
  · exact PySem.W.sorted_data (enc := fun z : V × Dt => py z.2) hl e1 e2 al so hz (fun b hb => by have := (hx b hb).2; omega) fin
  · exact sorted_tup_data (enc := fun z : V × Dt => py z.2) hl e1 e2 al so hz (fun b hb => by have := (hx b hb).2; omega) fin
/-- min, max of a tuple of ints -/
def rMinT (K : PySem.W.Frag) : List V → Hp → VK → Prop := fun vs H Q => ∃ (t : Addr) (ns : List Int), vs = [V.ref t] ∧ SqT K H t (ns.map V.int) ∧ 0 < ns.length ∧ ∀ m, m ∈ ns → (∀ y, y ∈ ns → m ≤ y) → Q (.int m) H
def rMaxT (K : PySem.W.Frag) : List V → Hp → VK → Prop := fun vs H Q => ∃ (t : Addr) (ns : List Int), vs = [V.ref t] ∧ SqT K H t (ns.map V.int) ∧ 0 < ns.length ∧ ∀ m, m ∈ ns → (∀ y, y ∈ ns → y ≤ m) → Q (.int m) H
theorem foldl_min : ∀ (ns : List Int) (n : Int), (ns.foldl min n) ∈ n :: ns ∧ ∀ y ∈ n :: ns, ns.foldl min n ≤ y
  | [], n => by simp
  | x :: r, n => by
    obtain ⟨h1, h2⟩ := foldl_min r (min n x)
    rw [List.foldl_cons]
    refine ⟨?_, fun y hy => ?_⟩
    · rcases List.mem_cons.mp h1 with h | h
      · rw [h]
        rcases Int.le_total n x with k | k
        · rw [Int.min_eq_left k]; exact List.mem_cons_self ..
        · rw [Int.min_eq_right k]; exact List.mem_cons_of_mem _ (List.mem_cons_self ..)
      · exact List.mem_cons_of_mem _ (List.mem_cons_of_mem _ h)
    · have h0 := h2 (min n x) (List.mem_cons_self ..)
      rcases List.mem_cons.mp hy with rfl | hy
      · exact Int.le_trans h0 (Int.min_le_left ..)
      · rcases List.mem_cons.mp hy with rfl | hy
        · exact Int.le_trans h0 (Int.min_le_right ..)
        · exact h2 y (List.mem_cons_of_mem _ hy)
theorem foldl_max : ∀ (ns : List Int) (n : Int), (ns.foldl max n) ∈ n :: ns ∧ ∀ y ∈ n :: ns, y ≤ ns.foldl max n
  | [], n => by simp
  | x :: r, n => by
    obtain ⟨h1, h2⟩ := foldl_max r (max n x)
    rw [List.foldl_cons]
    refine ⟨?_, fun y hy => ?_⟩
    · rcases List.mem_cons.mp h1 with h | h
      · rw [h]
        rcases Int.le_total n x with k | k
        · rw [Int.max_eq_right k]; exact List.mem_cons_of_mem _ (List.mem_cons_self ..)
        · rw [Int.max_eq_left k]; exact List.mem_cons_self ..
      · exact List.mem_cons_of_mem _ (List.mem_cons_of_mem _ h)
    · have h0 := h2 (max n x) (List.mem_cons_self ..)
      rcases List.mem_cons.mp hy with rfl | hy
      · exact Int.le_trans (Int.le_max_left ..) h0
      · rcases List.mem_cons.mp hy with rfl | hy
        · exact Int.le_trans (Int.le_max_right ..) h0
        · exact h2 y (List.mem_cons_of_mem _ hy)
theorem dpAll_ints {K : PySem.W.Frag} {H : Hp} : ∀ ns : List Int, DpAll K H (ns.map V.int) (ns.map PyData.int)
  | [] => .nil
  | n :: r => .cons (.int n) (dpAll_ints r)
theorem alikeAll_ints (n : Int) (ns : List Int) : PySem.W.AlikeAll (.int n :: ns.map .int) := by
  have h : ∀ x ∈ (PyData.int n :: ns.map PyData.int), ∃ k, x = .int k := fun x hx => by
    rcases List.mem_cons.mp hx with rfl | hx
    · exact ⟨_, rfl⟩
    · obtain ⟨k, _, rfl⟩ := List.mem_map.mp hx; exact ⟨k, rfl⟩
  refine ⟨fun x hx y hy => ?_, fun x hx => ?_⟩
  · obtain ⟨k, rfl⟩ := h x hx
    obtain ⟨l, rfl⟩ := h y hy
    rfl
  · obtain ⟨k, rfl⟩ := h x hx
    exact fun z => nomatch z
theorem reads_int {h : Heap} {v : Value} {k : Int} {as : List Addr} (r : Reads h v (.int k) as) : ∃ t, v = .int k t := by
  cases r; exact ⟨_, rfl⟩
theorem cr_minT {X : Cx} (hc : X.calm = true) (hu : X.A.units + 64 < cLine) : CallR X (.builtin "min") (rMinT X.K) := by
  intro pins s σ H vs us Q I r h
  obtain ⟨a, ns, rfl, hs, hne, q⟩ := h
  obtain ⟨its, rv, hl, _⟩ := I.tuple hs
  rw [Vals.ref1 r]
  cases ns with
  | nil => simp at hne
  | cons n ns =>
    obtain ⟨as, rd⟩ := Dp.readsAll I ((n :: ns).map PyData.int) _ _ (dpAll_ints (n :: ns)) rv
    have dz : PyData.depthAll (.int n :: ns.map .int) = 0 := PySem.W.depth_ints (n :: ns)
    refine PySem.W.min_tuple_data (x := .int n) (xs := ns.map .int) (I.ok.hd hc) hl (by simpa using rd) (alikeAll_ints n ns) (by rw [dz]; omega) fun i v h' tk bs hv hr hk => ?_
    rw [PySem.W.minD_ints] at hr
    obtain ⟨t, ht⟩ : ∃ t, v = Value.int (ns.foldl min n) t := reads_int hr
    subst ht
    obtain ⟨f1, f2⟩ := foldl_min ns n
    exact ⟨.int _, H, I.kept hk, ⟨_, rfl⟩, q _ f1 f2⟩
theorem cr_maxT {X : Cx} (hc : X.calm = true) (hu : X.A.units + 64 < cLine) : CallR X (.builtin "max") (rMaxT X.K) := by
  intro pins s σ H vs us Q I r h
  obtain ⟨a, ns, rfl, hs, hne, q⟩ := h
  obtain ⟨its, rv, hl, _⟩ := I.tuple hs
  rw [Vals.ref1 r]
  cases ns with
  | nil => simp at hne
  | cons n ns =>
    obtain ⟨as, rd⟩ := Dp.readsAll I ((n :: ns).map PyData.int) _ _ (dpAll_ints (n :: ns)) rv
    have dz : PyData.depthAll (.int n :: ns.map .int) = 0 := PySem.W.depth_ints (n :: ns)
    refine PySem.W.max_tuple_data (x := .int n) (xs := ns.map .int) (I.ok.hd hc) hl (by simpa using rd) (alikeAll_ints n ns) (by rw [dz]; omega) fun i v h' tk bs hv hr hk => ?_
    rw [PySem.W.maxD_ints] at hr
    obtain ⟨t, ht⟩ : ∃ t, v = Value.int (ns.foldl max n) t := reads_int hr
    subst ht
    obtain ⟨f1, f2⟩ := foldl_max ns n
    exact ⟨.int _, H, I.kept hk, ⟨_, rfl⟩, q _ f1 f2⟩
end Mq

/-! MqBif: built-in functions, methods of lists, isinstance. -/
namespace Mq
open PySem L2
theorem minL_of : ∀ {ns : List Int} {m : Int}, m ∈ ns → (∀ y, y ∈ ns → m ≤ y) → minL ns = some m
  | [], m, h, _ => by cases h
  | [x], m, h, _ => by simp at h; subst h; rfl
  | x :: y :: r, m, h, k => by
    have e : minL (x :: y :: r) = (minL (y :: r)).map fun m => if x ≤ m then x else m := rfl
    rw [e]
    obtain ⟨m', h1, h2⟩ : ∃ m', m' ∈ y :: r ∧ ∀ z, z ∈ y :: r → m' ≤ z := by
      clear h k e
      induction r generalizing y with
      | nil => exact ⟨y, by simp, by simp⟩
      | cons z r ih =>
        obtain ⟨m', h1, h2⟩ := ih z
        by_cases c : y ≤ m'
        · exact ⟨y, by simp, fun u hu => by
            rcases List.mem_cons.mp hu with q | q
            · subst q; exact Int.le_refl _
            · exact Int.le_trans c (h2 u q)⟩
        · exact ⟨m', List.mem_cons_of_mem _ h1, fun u hu => by
            rcases List.mem_cons.mp hu with q | q
            · subst q; omega
            · exact h2 u q⟩
    rw [minL_of h1 h2]
    simp only [Option.map_some, Option.some.injEq]
    have a1 := k x (by simp)
    have a2 := k m' (List.mem_cons_of_mem _ h1)
    rcases List.mem_cons.mp h with q | q
    · subst q; rw [if_pos a2]
    · have a3 := h2 m q
      split <;> omega
theorem maxL_of : ∀ {ns : List Int} {m : Int}, m ∈ ns → (∀ y, y ∈ ns → y ≤ m) → maxL ns = some m
  | [], m, h, _ => by cases h
  | [x], m, h, _ => by simp at h; subst h; rfl
  | x :: y :: r, m, h, k => by
    have e : maxL (x :: y :: r) = (maxL (y :: r)).map fun m => if m ≤ x then x else m := rfl
    rw [e]
    obtain ⟨m', h1, h2⟩ : ∃ m', m' ∈ y :: r ∧ ∀ z, z ∈ y :: r → z ≤ m' := by
      clear h k e
      induction r generalizing y with
      | nil => exact ⟨y, by simp, by simp⟩
      | cons z r ih =>
        obtain ⟨m', h1, h2⟩ := ih z
        by_cases c : m' ≤ y
        · exact ⟨y, by simp, fun u hu => by
            rcases List.mem_cons.mp hu with q | q
            · subst q; exact Int.le_refl _
            · exact Int.le_trans (h2 u q) c⟩
        · exact ⟨m', List.mem_cons_of_mem _ h1, fun u hu => by
            rcases List.mem_cons.mp hu with q | q
            · subst q; omega
            · exact h2 u q⟩
    rw [maxL_of h1 h2]
    simp only [Option.map_some, Option.some.injEq]
    have a1 := k x (by simp)
    have a2 := k m' (List.mem_cons_of_mem _ h1)
    rcases List.mem_cons.mp h with q | q
    · subst q; rw [if_pos a2]
    · have a3 := h2 m q
      split <;> omega
theorem isort_of {ns ns' : List Int} (h : ns'.Perm ns) (k : ns'.Pairwise (· ≤ ·)) : ns' = isort ns := by
  have p2 : (isort ns).Perm ns := List.mergeSort_perm _ _
  have s2 : (isort ns).Pairwise (· ≤ ·) := by
    have := List.pairwise_mergeSort (le := fun a b : Int => decide (a ≤ b)) (by intro a b c h1 h2; simp at *; omega) (by intro a b; simp; omega) ns
    exact this.imp (by intro a b h; simpa using h)
  exact List.Perm.eq_of_pairwise (le := (· ≤ ·)) (fun a b _ _ h1 h2 => Int.le_antisymm h1 h2) k s2 (h.trans p2.symm)
section
variable {G : Gx} {W : WX} {w w1 : Wd} {ρ : SS} {σ : L2.St} {H : Hp} {X : Cx} {pos : Pos} {L : Fns}
/-- what a built-in of one argument does -/
def B1 (G : Gx) (X : Cx) (x : Str) (r : List V → Hp → VK → Prop) : Prop :=
  ∀ (w : Wd) (ρ : SS) (σ : L2.St) (H : Hp) (a z : RV) (va : V) (Q : VK), Rel G w ρ σ H → RR G w ρ σ H a va → bif1 x a ρ = some z → (∀ v H' w', Ext w w' → Rel G w' ρ σ H' → RR G w' ρ σ H' z v → Q v H') → r [va] H Q
theorem ints_ok {a : RV} {va : V} {ns : List Int} (R : Rel G w ρ σ H) (h : RR G w ρ σ H a va) (e : (rdl ρ a).bind allInts = some ns) : ∃ p, va = .ref p ∧ SqL G.K H p (ns.map V.int) := by
  simp only [Option.bind_eq_some_iff] at e
  obtain ⟨ds, e1, e2⟩ := e
  obtain ⟨p, vs, rfl, hp, rl⟩ := rdl_ok R h e1
  rw [repL_ints_inv rl e2] at hp
  exact ⟨p, rfl, hp⟩
theorem bls_ok {a : RV} {va : V} {ns : List Bool} (R : Rel G w ρ σ H) (h : RR G w ρ σ H a va) (e : (rdl ρ a).bind allBls = some ns) : ∃ p, va = .ref p ∧ SqL G.K H p (ns.map V.bl) := by
  simp only [Option.bind_eq_some_iff] at e
  obtain ⟨ds, e1, e2⟩ := e
  obtain ⟨p, vs, rfl, hp, rl⟩ := rdl_ok R h e1
  rw [repL_bls_inv rl e2] at hp
  exact ⟨p, rfl, hp⟩
theorem b1_len (hK : X.K = G.K) : B1 G X "len" (fun xs H Q => ∃ x n, xs = [x] ∧ LenV X.K x H n ∧ Q (.int n) H) := by
  intro w ρ σ H a z va Q R ha h q
  rw [hK]
  have sq : ∀ xs, rds ρ a = some xs → z = .v (.int xs.length) → ∃ x n, [va] = [x] ∧ LenV G.K x H n ∧ Q (.int n) H := fun xs e1 e2 => by
    subst e2
    obtain ⟨p, vs, rfl, hp, rl⟩ := rds_ok R ha e1
    refine ⟨_, vs.length, rfl, ?_, ?_⟩
    · rcases hp with hp | hp
      · exact .inl ⟨vs, hp, rfl⟩
      · exact .inr ⟨vs, hp, rfl⟩
    · rw [rl.length]; exact fin_d R (.int _) q
  have e : bif1 "len" a ρ = bLen a ρ := rfl
  rw [e] at h
  unfold bLen at h
  split at h
  · simp only [Option.ite_none_right_eq_some] at h
    obtain ⟨c, h⟩ := h; cases h
    obtain rfl := Rep.inv_str ha
    exact ⟨_, _, rfl, ⟨c, rfl⟩, fin_d R (.int _) q⟩
  · simp only [Option.map_eq_some_iff] at h
    obtain ⟨xs, e1, e2⟩ := h
    exact sq xs e1 e2.symm
theorem b1_abs : B1 G X "abs" (fun xs H Q => ∃ i, xs = [.int i] ∧ Q (.int (if i < 0 then -i else i)) H) := by
  intro w ρ σ H a z va Q R ha h q
  have e : bif1 "abs" a ρ = bAbs a := rfl
  rw [e] at h
  unfold bAbs at h
  split at h
  · cases h
    obtain rfl := Rep.inv_int ha
    exact ⟨_, rfl, fin_d R (.int _) q⟩
  · simp at h
theorem b1_int : B1 G X "int" (fun xs H Q => (∃ i, xs = [.int i] ∧ Q (.int i) H) ∨ ∃ k, xs = [.bl k] ∧ Q (.int (if k then 1 else 0)) H) := by
  intro w ρ σ H a z va Q R ha h q
  have e : bif1 "int" a ρ = bInt a := rfl
  rw [e] at h
  unfold bInt at h
  split at h
  · cases h
    obtain rfl := Rep.inv_int ha
    exact .inl ⟨_, rfl, fin_d R (.int _) q⟩
  · cases h
    obtain rfl := Rep.inv_bl ha
    exact .inr ⟨_, rfl, fin_d R (.int _) q⟩
  · simp at h
theorem b1_tuple (hK : X.K = G.K) : B1 G X "tuple" (fun xs H Q => ∃ p ys, xs = [.ref p] ∧ ((SqL X.K H p ys ∧ ∀ l, H l = none → Q (.ref l) (upd H l (.tup ys))) ∨ (SqT X.K H p ys ∧ Q (.ref p) H))) := by
  intro w ρ σ H a z va Q R ha h q
  rw [hK]
  have e : bif1 "tuple" a ρ = bTup a ρ := rfl
  rw [e] at h
  unfold bTup at h
  split at h
  · cases h
    obtain ⟨p, vs, rfl, hp, rl⟩ := Rep.inv_tup ha
    exact ⟨p, vs, rfl, .inr ⟨sqt_mono R.subF hp, fin_d R ha q⟩⟩
  · simp only [Option.map_eq_some_iff] at h
    obtain ⟨xs, e1, e2⟩ := h
    subst e2
    obtain ⟨p, vs, rfl, hp, rl⟩ := rdl_ok R ha e1
    exact ⟨p, vs, rfl, .inl ⟨hp, fun l hl => fin_tup R rl hl q⟩⟩
theorem b1_list (hK : X.K = G.K) : B1 G X "list" (fun xs H Q => ∃ p ys, xs = [.ref p] ∧ (SqL X.K H p ys ∨ SqT X.K H p ys) ∧ ∀ l, H l = none → Q (.ref l) (upd H l (.lst ys))) := by
  intro w ρ σ H a z va Q R ha h q
  rw [hK]
  have e : bif1 "list" a ρ = (rds ρ a).map fun xs => .nl xs := rfl
  rw [e] at h
  simp only [Option.map_eq_some_iff] at h
  obtain ⟨xs, e1, e2⟩ := h
  subst e2
  obtain ⟨p, vs, rfl, hp, rl⟩ := rds_ok R ha e1
  exact ⟨p, vs, rfl, hp, fun l hl => fin_nl R rl hl q⟩
theorem b1_all (hK : X.K = G.K) : B1 G X "all" (rAll X.K) := by
  intro w ρ σ H a z va Q R ha h q
  rw [hK]
  have e : bif1 "all" a ρ = ((rdl ρ a).bind allBls).map fun bs => .v (.bl (bs.all id)) := rfl
  rw [e] at h
  simp only [Option.map_eq_some_iff] at h
  obtain ⟨bs, e1, e2⟩ := h
  subst e2
  obtain ⟨p, rfl, hp⟩ := bls_ok R ha e1
  exact ⟨p, bs, rfl, hp, fin_d R (.bl _) q⟩
theorem b1_any (hK : X.K = G.K) : B1 G X "any" (rAny X.K) := by
  intro w ρ σ H a z va Q R ha h q
  rw [hK]
  have e : bif1 "any" a ρ = ((rdl ρ a).bind allBls).map fun bs => .v (.bl (bs.any id)) := rfl
  rw [e] at h
  simp only [Option.map_eq_some_iff] at h
  obtain ⟨bs, e1, e2⟩ := h
  subst e2
  obtain ⟨p, rfl, hp⟩ := bls_ok R ha e1
  exact ⟨p, bs, rfl, hp, fin_d R (.bl _) q⟩
theorem intsA_ok {a : RV} {va : V} {ns : List Int} (R : Rel G w ρ σ H) (h : RR G w ρ σ H a va) (e : (rds ρ a).bind allInts = some ns) : ∃ p, va = .ref p ∧ (SqL G.K H p (ns.map V.int) ∨ SqT G.K H p (ns.map V.int)) := by
  simp only [Option.bind_eq_some_iff] at e
  obtain ⟨ds, e1, e2⟩ := e
  obtain ⟨p, vs, rfl, hp, rl⟩ := rds_ok R h e1
  rw [repL_ints_inv rl e2] at hp
  exact ⟨p, rfl, hp⟩
theorem b1_sum (hK : X.K = G.K) : B1 G X "sum" (fun vs H Q => rSum X.K vs H Q ∨ rSumT X.K vs H Q) := by
  intro w ρ σ H a z va Q R ha h q
  rw [hK]
  have e : bif1 "sum" a ρ = ((rds ρ a).bind allInts).map fun ns => .v (.int ns.sum) := rfl
  rw [e] at h
  simp only [Option.map_eq_some_iff] at h
  obtain ⟨bs, e1, e2⟩ := h
  subst e2
  obtain ⟨p, rfl, hp | hp⟩ := intsA_ok R ha e1
  · exact .inl ⟨p, bs, rfl, hp, fin_d R (.int _) q⟩
  · exact .inr ⟨p, bs, rfl, hp, fin_d R (.int _) q⟩
theorem b1_min (hK : X.K = G.K) : B1 G X "min" (fun vs H Q => rMin X.K vs H Q ∨ rMinT X.K vs H Q) := by
  intro w ρ σ H a z va Q R ha h q
  rw [hK]
  have e : bif1 "min" a ρ = (((rds ρ a).bind allInts).bind minL).map fun m => .v (.int m) := rfl
  rw [e] at h
  simp only [Option.map_eq_some_iff, Option.bind_eq_some_iff] at h
  obtain ⟨m, ⟨ns, e1, e3⟩, e2⟩ := h
  subst e2
  obtain ⟨p, rfl, hp⟩ := intsA_ok R ha (by simpa only [Option.bind_eq_some_iff] using e1)
  have h0 : 0 < ns.length := by
    cases ns with
    | nil => simp [minL] at e3
    | cons => simp
  have h1 : ∀ m', m' ∈ ns → (∀ y, y ∈ ns → m' ≤ y) → Q (.int m') H := fun m' h1 h2 => by
    rw [minL_of h1 h2] at e3; cases e3
    exact fin_d R (.int _) q
  rcases hp with hp | hp
  · exact .inl ⟨p, ns, rfl, hp, h0, h1⟩
  · exact .inr ⟨p, ns, rfl, hp, h0, h1⟩
theorem b1_max (hK : X.K = G.K) : B1 G X "max" (fun vs H Q => rMax X.K vs H Q ∨ rMaxT X.K vs H Q) := by
  intro w ρ σ H a z va Q R ha h q
  rw [hK]
  have e : bif1 "max" a ρ = (((rds ρ a).bind allInts).bind maxL).map fun m => .v (.int m) := rfl
  rw [e] at h
  simp only [Option.map_eq_some_iff, Option.bind_eq_some_iff] at h
  obtain ⟨m, ⟨ns, e1, e3⟩, e2⟩ := h
  subst e2
  obtain ⟨p, rfl, hp⟩ := intsA_ok R ha (by simpa only [Option.bind_eq_some_iff] using e1)
  have h0 : 0 < ns.length := by
    cases ns with
    | nil => simp [maxL] at e3
    | cons => simp
  have h1 : ∀ m', m' ∈ ns → (∀ y, y ∈ ns → y ≤ m') → Q (.int m') H := fun m' h1 h2 => by
    rw [maxL_of h1 h2] at e3; cases e3
    exact fin_d R (.int _) q
  rcases hp with hp | hp
  · exact .inl ⟨p, ns, rfl, hp, h0, h1⟩
  · exact .inr ⟨p, ns, rfl, hp, h0, h1⟩
theorem cr_or {X : Cx} {f : Value} {r1 r2 : List V → Hp → VK → Prop} (h1 : CallR X f r1) (h2 : CallR X f r2) : CallR X f fun vs H Q => r1 vs H Q ∨ r2 vs H Q := by
  intro pins s σ H vs us Q I r h
  rcases h with h | h
  · exact h1 pins s σ H vs us Q I r h
  · exact h2 pins s σ H vs us Q I r h
theorem prs_rep {F : Hp} {A : List Addr} : ∀ {vs : List V} {ds : List Dt} {ps : List (Int × Int)}, RepL G F A vs ds → allPrs ds = some ps → vs.length = ps.length ∧ ∀ z ∈ vs.zip ps, Rep G F A z.1 (prI z.2)
  | _, _, ps, .nil, e => by simp [allPrs] at e; subst e; exact ⟨rfl, fun _ h => nomatch h⟩
  | _, _, ps, .cons (d := d) (v := v) (vs := vs) r t, e => by
    unfold allPrs at e
    split at e
    · rename_i h; cases h
    · rename_i a b q h
      cases h
      simp only [Option.map_eq_some_iff] at e
      obtain ⟨qs, e1, rfl⟩ := e
      obtain ⟨h1, h2⟩ := prs_rep t e1
      refine ⟨by simp [h1], fun z hz => ?_⟩
      rw [List.zip_cons_cons] at hz
      rcases List.mem_cons.mp hz with rfl | hz
      · exact r
      · exact h2 z hz
    · cases e
theorem repL_zs {F : Hp} {A : List Addr} : ∀ {zs : List (V × (Int × Int))}, (∀ z ∈ zs, Rep G F A z.1 (prI z.2)) → RepL G F A (zs.map (·.1)) ((zs.map (·.2)).map prI)
  | [], _ => .nil
  | z :: r, h => .cons (h z (List.mem_cons_self ..)) (repL_zs fun x hx => h x (List.mem_cons_of_mem _ hx))
theorem repL_zip {F : Hp} {A : List Addr} : ∀ {vs : List V} {ds : List Dt}, RepL G F A vs ds → ∀ z ∈ vs.zip ds, Rep G F A z.1 z.2
  | _, _, .nil, _, h => nomatch h
  | _, _, .cons r t, z, h => by
    rw [List.zip_cons_cons] at h
    rcases List.mem_cons.mp h with rfl | h
    · exact r
    · exact repL_zip t z h
theorem repL_zd {F : Hp} {A : List Addr} : ∀ {zs : List (V × Dt)}, (∀ z ∈ zs, Rep G F A z.1 z.2) → RepL G F A (zs.map (·.1)) (zs.map (·.2))
  | [], _ => .nil
  | z :: r, h => .cons (h z (List.mem_cons_self ..)) (repL_zd fun x hx => h x (List.mem_cons_of_mem _ hx))
theorem flatL_mem {n : Nat} : ∀ {ds : List Dt}, flatL n ds = true → ∀ d ∈ ds, flat n d = true
  | _ :: _, h, d, m => by
    simp only [flatL, Bool.and_eq_true] at h
    rcases List.mem_cons.mp m with rfl | m
    · exact h.1
    · exact flatL_mem h.2 d m
theorem b1_sorted (hK : X.K = G.K) : B1 G X "sorted" (fun vs H Q => rSortedI X.K vs H Q ∨ (rSortedIT X.K vs H Q ∨ (rSortedQ X.K vs H Q ∨ rSortedD X.K vs H Q))) := by
  intro w ρ σ H a z va Q R ha h q
  rw [hK]
  have e : bif1 "sorted" a ρ = srtV a ρ := rfl
  rw [e] at h
  unfold srtV at h
  split at h
  · rename_i ns e1
    cases h
    simp only [Option.bind_eq_some_iff] at e1
    obtain ⟨ds, e1, e2⟩ := e1
    obtain ⟨p, vs, rfl, hp, rl⟩ := rds_ok R ha e1
    have ev := repL_ints_inv rl e2
    subst ev
    rcases hp with hp | hp
    · refine .inl ⟨p, ns, rfl, hp, fun ns' p' h1 h2 h3 => ?_⟩
      rw [isort_of h1 h2]
      exact fin_nl R (RepL.ints _) h3 q
    · refine .inr (.inl ⟨p, ns, rfl, hp, fun ns' p' h1 h2 h3 => ?_⟩)
      rw [isort_of h1 h2]
      exact fin_nl R (RepL.ints _) h3 q
  · split at h
    · rename_i ps e0
      cases h
      simp only [Option.bind_eq_some_iff] at e0
      obtain ⟨ds, e1, e2⟩ := e0
      obtain ⟨p, vs, rfl, hp, rl⟩ := rds_ok R ha e1
      obtain ⟨hl, hz⟩ := prs_rep rl e2
      refine .inr (.inr (.inl ⟨p, vs, ps, rfl, hp, hl, fun z m => ?_, fun zs p' h1 h2 h3 => ?_⟩))
      · obtain ⟨t, us, e3, hs, ru⟩ := (hz z m).inv_tup
        have : us = [.int z.2.1, .int z.2.2] := repL_ints_inv (ns := [z.2.1, z.2.2]) ru rfl
        subst this
        exact ⟨t, e3, sqt_mono R.subF hs⟩
      · rw [← h2] at q
        exact fin_nl R (repL_zs fun z m => hz z (h1.mem_iff.mp m)) h3 q
    · simp only [Option.bind_eq_some_iff, Option.ite_none_right_eq_some] at h
      obtain ⟨ds, e1, ok, e2⟩ := h
      cases e2
      obtain ⟨p, vs, rfl, hp, rl⟩ := rds_ok R ha e1
      have l1 := rl.length
      have z1 : (vs.zip ds).map (·.1) = vs := List.map_fst_zip (by omega)
      have z2 : (vs.zip ds).map (·.2) = ds := List.map_snd_zip (by omega)
      have rz : ∀ z ∈ vs.zip ds, Rep G w.F w.A z.1 z.2 := repL_zip rl
      have ok' := ok
      unfold srtOk at ok'
      simp only [Bool.and_eq_true] at ok'
      have fl := flatL_mem ok'.1.1
      refine .inr (.inr (.inr ⟨p, vs.zip ds, rfl, by rw [z1]; exact hp, fun z hz => ?_, by rw [z2]; exact ok, fun p' h3 => ?_⟩))
      · have := fl z.2 (List.of_mem_zip hz).2
        exact ⟨dp_of R.subF (rz z hz) this, Nat.le_trans (flat_depth _ _ this) (by decide)⟩
      · have e3 : ds.mergeSort dle = (((vs.zip ds).mergeSort fun x y => dle x.2 y.2).map (·.2)) := by
          rw [List.map_mergeSort (s := dle) (fun _ _ _ _ => rfl), z2]
        rw [e3] at q
        exact fin_nl R (repL_zd fun z m => rz z ((List.mergeSort_perm _ _).mem_iff.mp m)) h3 q
/-- the built-ins of one argument: the value of the name, the rule -/
structure Bf (G : Gx) (X : Cx) (x : Str) : Prop where
  ex : (∃ id r, bootBuiltins x = some (.builtin id) ∧ CallR X (.builtin id) r ∧ B1 G X x r) ∨ ∃ T r, bootBuiltins x = some (.type T) ∧ CallR X (.type T) r ∧ B1 G X x r
def bnames : List Str := ["len", "abs", "int", "tuple", "list", "all", "any", "sum", "min", "max", "sorted"]
theorem bf_all (hK : X.K = G.K) (hc : X.calm = true) (hu : X.A.units + 64 < cLine) : ∀ x ∈ bnames, Bf G X x := by
  intro x hx
  simp only [bnames, List.mem_cons, List.not_mem_nil, or_false] at hx
  rcases hx with rfl | rfl | rfl | rfl | rfl | rfl | rfl | rfl | rfl | rfl | rfl
  · exact ⟨.inl ⟨_, _, by decide +kernel, call_len, b1_len hK⟩⟩
  · exact ⟨.inl ⟨_, _, by decide +kernel, call_abs, b1_abs⟩⟩
  · exact ⟨.inr ⟨_, _, by decide +kernel, call_int1, b1_int⟩⟩
  · exact ⟨.inr ⟨_, _, by decide +kernel, call_tuple_of, b1_tuple hK⟩⟩
  · exact ⟨.inr ⟨_, _, by decide +kernel, call_list_of, b1_list hK⟩⟩
  · exact ⟨.inl ⟨_, _, by decide +kernel, cr_all hc, b1_all hK⟩⟩
  · exact ⟨.inl ⟨_, _, by decide +kernel, cr_any hc, b1_any hK⟩⟩
  · exact ⟨.inl ⟨_, _, by decide +kernel, cr_or (cr_sum hc) (cr_sumT hc), b1_sum hK⟩⟩
  · exact ⟨.inl ⟨_, _, by decide +kernel, cr_or (cr_min hc) (cr_minT hc hu), b1_min hK⟩⟩
  · exact ⟨.inl ⟨_, _, by decide +kernel, cr_or (cr_max hc) (cr_maxT hc hu), b1_max hK⟩⟩
  · exact ⟨.inl ⟨_, _, by decide +kernel, cr_or cr_sortedI (cr_or cr_sortedIT (cr_or cr_sortedQ (cr_sortedD hu))), b1_sorted hK⟩⟩
theorem sv_bif1 {x : Str} {e : Expr} {m : ME} {p : Pos} (hb : Bf G X x) (hg : Gl X x) (hm : X.mg x = none) (hn : x ≠ "__name__") (hdb : (x == ("__debug__" : Str)) = false) (hs : starEach [e] X.env = (false, eval e X.env) :: starEach [] X.env) (he : PE X e (tE G W (ev L m))) :
    PE X (.Call (.Name x p) [e] [] pos) (tE G W (ev L (.bif x [m]))) := by
  have fin : ∀ {r : List V → Hp → VK → Prop}, B1 G X x r → ∀ σ H Q, tE G W (ev L (.bif x [m])) σ H Q → tCB r (tCons (tE G W (ev L m)) tNil) σ H Q := fun {r} b σ H Q h => by
    obtain ⟨w, ρ, R, g⟩ := h
    rw [ev] at g
    refine ⟨w, ρ, R, g.bind.mono fun a ρ1 w1 H1 _ e1 R1 q va ha => ?_⟩
    obtain ⟨z, ez, q⟩ := lift_some q
    exact b w1 ρ1 σ H1 a z va Q R1 ha ez fun v H' w' e R' r => q.at e R' v r
  rcases hb.ex with ⟨id, r, hv, hc, b⟩ | ⟨T, r, hv, hc, b⟩
  · exact (pe_callB hc hg hm hv (pa_cons he pa_nil hs) hn hdb hs rfl).imp (fin b)
  · exact (pe_callTy hc hg hm hv (pa_cons he pa_nil hs) hn hdb hs rfl).imp (fin b)
/-- min, max of two -/
theorem sv_bif2 {x : Str} {a b : Expr} {ma mb : ME} {p : Pos} (hx : x = "min" ∨ x = "max") (hc : X.calm = true) (hg : Gl X x) (hm : X.mg x = none) (hs : starEach [a, b] X.env = (false, eval a X.env) :: starEach [b] X.env) (hs2 : starEach [b] X.env = (false, eval b X.env) :: starEach [] X.env) (ha : PE X a (tE G W (ev L ma))) (hb : PE X b (tE G W (ev L mb))) :
    PE X (.Call (.Name x p) [a, b] [] pos) (tE G W (ev L (.bif x [ma, mb]))) := by
  have fin : ∀ {r : List V → Hp → VK → Prop} {f : Int → Int → Int}, (∀ i j H Q, Q (.int (f i j)) H → r [.int i, .int j] H Q) → (∀ i j z, bif2 x (.int i) (.int j) = some z → z = .v (.int (f i j))) → ∀ σ H Q, tE G W (ev L (.bif x [ma, mb])) σ H Q → tCB r (tCons (tE G W (ev L ma)) (tCons (tE G W (ev L mb)) tNil)) σ H Q := fun {r f} hr hf σ H Q h => by
    obtain ⟨w, ρ, R, g⟩ := h
    rw [ev] at g
    refine ⟨w, ρ, R, g.bind.mono fun x1 ρ1 w1 H1 _ e1 R1 q va hva => ?_⟩
    obtain ⟨d, ρ2, w2, ev2, e2, R2, rep, q2⟩ := val_ok R1 hva q.bind
    refine ⟨w2, ρ2, R2, q2.bind.mono fun x3 ρ3 w3 H3 _ e3 R3 q3 vb hvb => ?_⟩
    obtain ⟨d', ρ4, w4, ev4, e4, R4, rep4, q4⟩ := val_ok R3 hvb q3.bind
    obtain ⟨z, ez, q4⟩ := lift_some q4
    have ez' := ez
    unfold bif2 at ez'
    split at ez'
    · obtain rfl := Rep.inv_int rep
      obtain rfl := Rep.inv_int rep4
      have := hf _ _ _ ez
      subst this
      exact hr _ _ _ _ (q4.here R4 _ (.int _))
    · simp at ez'
  rcases hx with rfl | rfl
  · refine (pe_callB (call_min2 hc) hg hm (by decide +kernel) (pa_cons ha (pa_cons hb pa_nil hs2) hs) (by decide) (by decide) hs (by rw [hs2]; rfl)).imp (fin (f := fun i j => if j < i then j else i) (fun i j H Q q => ⟨i, j, rfl, q⟩) fun i j z e => ?_)
    have e : some (RV.v (.int (if j < i then j else i))) = some z := e
    cases e; rfl
  · refine (pe_callB (call_max2 hc) hg hm (by decide +kernel) (pa_cons ha (pa_cons hb pa_nil hs2) hs) (by decide) (by decide) hs (by rw [hs2]; rfl)).imp (fin (f := fun i j => if j > i then j else i) (fun i j H Q q => ⟨i, j, rfl, q⟩) fun i j z e => ?_)
    have e : some (RV.v (.int (if j > i then j else i))) = some z := e
    cases e; rfl
/-! ### backwards -/
theorem RepL.rev {F : Hp} {A : List Addr} {vs : List V} {ds : List Dt} (r : RepL G F A vs ds) : RepL G F A vs.reverse ds.reverse := by
  induction vs generalizing ds with
  | nil => cases r; exact .nil
  | cons v vs ih =>
    cases r with
    | cons a t => rw [List.reverse_cons, List.reverse_cons]; exact (ih t).append (.cons a .nil)
end
end Mq

/-! MqMut: lists changed; isinstance; the store. -/
namespace Mq
open PySem L2
section
variable {G : Gx} {W : WX} {w w1 : Wd} {ρ : SS} {σ : L2.St} {H : Hp} {X : Cx} {pos : Pos} {L : Fns}
theorem setO_same {st : List MO} {n : Nat} {x y : MO} (h : st[n]? = some x) : (st.set n y)[n]? = some y := List.getElem?_set_self (List.getElem?_eq_some_iff.mp h).1
/-- an own list's slot -/
theorem Rel.wrOwn {i : Nat} {p : Addr} {us : List V} {xs ys : List Dt} (R : Rel G w ρ σ H) (e : ρ.sl[i]? = some (.ol xs)) (hv : σ[i]? = some (some (.ref p))) (r : RepL G w.F w.A us ys) : Rel G w (ρ.set i (.ol ys)) σ (upd H p (.lst us)) := by
  have oa : OwnAt ρ σ i p := ⟨hv, _, e, rfl⟩
  obtain ⟨f1, f2, f3⟩ := R.own i p oa
  have hi : i < ρ.sl.length := (List.getElem?_eq_some_iff.mp e).1
  have ot : ∀ (j : Nat) (x' : Sl), (ρ.set i (.ol ys)).sl[j]? = some x' → (j = i ∧ x' = .ol ys) ∨ (j ≠ i ∧ ρ.sl[j]? = some x') := fun j x' e => by
    have e : (ρ.sl.set i (.ol ys))[j]? = some x' := e
    by_cases q : j = i
    · subst q; rw [List.getElem?_set_self hi] at e; cases e; exact .inl ⟨rfl, rfl⟩
    · rw [List.getElem?_set_ne (Ne.symm q)] at e; exact .inr ⟨q, e⟩
  have oo : ∀ j q, OwnAt (ρ.set i (.ol ys)) σ j q → OwnAt ρ σ j q := fun j q ⟨e', x', ex', ho'⟩ => by
    rcases ot j x' ex' with ⟨z, _⟩ | ⟨z, ez⟩
    · subst z; rw [hv] at e'; cases e'; exact oa
    · exact ⟨e', x', ez, ho'⟩
  exact {
    toWok := R.toWok.outW f1 f2 f3
    len := by show (ρ.sl.set i _).length = _; rw [List.length_set]; exact R.len
    sl := fun j x' e' => by
      rcases ot j x' e' with ⟨z, z'⟩ | ⟨z, ez⟩
      · subst z; subst z'; exact ⟨p, us, hv, upd_same, r⟩
      · exact (R.sl j x' ez).heap fun q eq ho => upd_ne fun y => z (R.ownN j i p (y ▸ ⟨eq, x', ez, ho⟩) oa)
    own := fun j q h => R.own j q (oo j q h)
    ownN := fun j j' q h h' => R.ownN j j' q (oo j q h) (oo j' q h')
    lT := R.lT }
/-- an object of the store -/
theorem Rel.wrSt {n : Nat} {p : Addr} {mo : MO} {o : HO} (R : Rel G w ρ σ H) (e : w.A[n]? = some p) (m : MRep G w mo (some o)) : Rel G w (ρ.setO n mo) σ (upd H p o) := by
  obtain ⟨f1, f2, mo0, e0, m0⟩ := R.stR n p e
  have hn : n < ρ.st.length := (List.getElem?_eq_some_iff.mp e0).1
  exact {
    subF := fun a u q => by rw [upd_ne (ne_of_none q f1)]; exact R.subF _ _ q
    subT := fun a u q => by rw [upd_ne (ne_of_none q f2)]; exact R.subT _ _ q
    dis := R.dis
    stL := by show w.A.length = (ρ.st.set n mo).length; rw [List.length_set]; exact R.stL
    stR := fun k a ek => by
      obtain ⟨h1, h2, mo', h3, h4⟩ := R.stR k a ek
      by_cases q : k = n
      · subst q
        rw [e] at ek; cases ek
        exact ⟨f1, f2, mo, List.getElem?_set_self hn, by rw [upd_same]; exact m⟩
      · have : a ≠ p := fun z => q (R.stN k n a ek (z ▸ e))
        exact ⟨h1, h2, mo', by show (ρ.st.set n mo)[k]? = _; rw [List.getElem?_set_ne (Ne.symm q)]; exact h3, by rw [upd_ne this]; exact h4⟩
    stN := R.stN
    len := R.len
    sl := fun j x' e' => (R.sl j x' e').heap fun q eq ho => upd_ne fun y => (R.own j q ⟨eq, x', e', ho⟩).2.2 (y ▸ List.mem_of_getElem? e)
    own := R.own
    ownN := R.ownN
    lT := R.lT }
theorem wrL_ok {r : RV} {v : V} {f : List Dt → Option (List Dt × Dt)} {k : Dt → SS → Wd → Hp → Prop} (R : Rel G w ρ σ H) (hr : RR G w ρ σ H r v) (g : Go G W w σ (wrL r f ρ) k) :
    ∃ p vs xs ys d, v = .ref p ∧ H p = some (.lst vs) ∧ RepL G w.F w.A vs xs ∧ f xs = some (ys, d) ∧ ∀ us, RepL G w.F w.A us ys → ∃ ρ', wrL r f ρ = .ok d ρ' ∧ Rel G w ρ' σ (upd H p (.lst us)) ∧ k d ρ' w (upd H p (.lst us)) := by
  cases r with
  | nl xs => exact g.elim
  | bw i =>
    have hv : σ[i]? = some (some v) := hr
    simp only [wrL] at g
    cases q : ρ.sl[i]? with
    | none => rw [q] at g; exact g.elim
    | some x =>
      rw [q] at g
      cases x with
      | ol xs =>
        cases ef : f xs with
        | none => simp only [ef] at g; exact g.elim
        | some yd =>
          obtain ⟨ys, d⟩ := yd
          simp only [ef] at g
          obtain ⟨p, vs, e1, e2, r⟩ := R.sl i _ q
          rw [hv] at e1; cases e1
          refine ⟨p, vs, xs, ys, d, rfl, e2, r, ef, fun us ru => ⟨_, by simp only [wrL, q, ef], R.wrOwn q hv ru, ?_⟩⟩
          exact g.here (R.wrOwn q hv ru)
      | _ => exact g.elim
  | v d0 =>
    cases d0 with
    | ref n =>
      simp only [wrL] at g
      obtain ⟨p, rfl, e2⟩ := Rep.inv_ref hr
      obtain ⟨f1, f2, mo, e3, m⟩ := R.stR n p e2
      rw [e3] at g
      cases mo with
      | l xs =>
        cases ef : f xs with
        | none => simp only [ef] at g; exact g.elim
        | some yd =>
          obtain ⟨ys, d⟩ := yd
          simp only [ef] at g
          obtain ⟨vs, e4, r⟩ := m
          have R' : ∀ us, RepL G w.F w.A us ys → Rel G w (ρ.setO n (.l ys)) σ (upd H p (.lst us)) := fun us ru => R.wrSt e2 ⟨us, rfl, ru⟩
          exact ⟨p, vs, xs, ys, d, rfl, e4, r, ef, fun us ru => ⟨_, by simp only [wrL, e3, ef], R' us ru, g.here (R' us ru)⟩⟩
      | i c ns ds => exact g.elim
    | _ => exact g.elim
theorem rdt_ty {r : RV} {v : V} {xs : List Dt} (hK : X.K = G.K) (R : Rel G w ρ σ H) (h : RR G w ρ σ H r v) (e : rdt ρ r = some xs) : L2.tyV X.K "list" v H := by
  obtain ⟨p, vs, rfl, hp, _⟩ := rdt_ok R h e
  exact .inl ⟨rfl, vs, SqL.of hp⟩
/-- methods of lists, of one argument -/
def idM (m : Str) : String := if m = "append" then "list.append" else if m = "pop" then "list.pop" else "list.extend"
def rMth (m : Str) : V → List V → Hp → VK → Prop := if m = "append" then rAppend else if m = "pop" then rPopAt else rExtend
theorem mth_step {m : Str} {r : RV} {d : Dt} {vx vy : V} {Q : VK} (hm : m = "append" ∨ m = "pop" ∨ m = "extend") (R : Rel G w ρ σ H) (hr : RR G w ρ σ H r vx) (hd : Rep G w.F w.A vy d)
    (g : Go G W w σ ((wrL r (mthF m d) ρ).bind fun d s => .ok (.v d) s) fun r ρ' w' H' => ∀ v, RR G w' ρ' σ H' r v → Q v H') : rMth m vx [vy] H Q := by
  obtain ⟨p, vs, xs, ys, d', rfl, hp, rl, ef, fin⟩ := wrL_ok R hr g.bind
  rcases hm with rfl | rfl | rfl
  · have ef : appF d xs = some (ys, d') := ef
    unfold appF at ef
    simp only [Option.ite_none_right_eq_some, Option.some.injEq, Prod.mk.injEq] at ef
    obtain ⟨c, rfl, rfl⟩ := ef
    obtain ⟨ρ', _, R', q⟩ := fin (vs ++ [vy]) (rl.append (.cons hd .nil))
    exact ⟨p, vs, vy, rfl, rfl, hp, by rw [rl.length]; exact c, q.here R' _ .non⟩
  · have ef : popDF d xs = some (ys, d') := ef
    unfold popDF at ef
    split at ef
    · obtain rfl := Rep.inv_int hd
      unfold popAtF at ef
      simp only [Option.ite_none_right_eq_some, Option.bind_eq_some_iff, Option.map_eq_some_iff, Prod.mk.injEq] at ef
      obtain ⟨c, j, ej, y, ey, rfl, rfl⟩ := ef
      obtain ⟨v, ev, rv⟩ := rl.get ey
      obtain ⟨ρ', _, R', q⟩ := fin (vs.eraseIdx j) (rl.eraseIdx j)
      exact ⟨p, vs, _, j, v, rfl, rfl, hp, c.1, c.2, by rw [rl.length]; exact ej, ev, q.here R' _ rv⟩
    · cases ef
  · have ef : extDF d xs = some (ys, d') := ef
    unfold extDF at ef
    split at ef
    · obtain ⟨b, us, rfl, hb, rb⟩ := Rep.inv_lst hd
      unfold extF at ef
      simp only [Option.ite_none_right_eq_some, Option.some.injEq, Prod.mk.injEq] at ef
      obtain ⟨c, rfl, rfl⟩ := ef
      obtain ⟨ρ', _, R', q⟩ := fin (vs ++ us) (rl.append rb)
      exact ⟨p, b, vs, us, rfl, rfl, hp, R.subF _ _ hb, by rw [rl.length, rb.length]; exact c, q.here R' _ .non⟩
    · cases ef
theorem mt_mth {m : Str} (hm : m = "append" ∨ m = "pop" ∨ m = "extend") : MtR X (idM m) (rMth m) := by
  rcases hm with rfl | rfl | rfl
  · exact mt_append
  · exact mt_popAt
  · exact mt_extend
theorem slot_mth {m : Str} (hm : m = "append" ∨ m = "pop" ∨ m = "extend") : Slot "list" m (idM m) ∧ typeOf (.builtin (idM m)) = pure (.type "method_descriptor") := by
  rcases hm with rfl | rfl | rfl
  · exact ⟨PySem.F.slot_list_append, PySem.F.type_list_append⟩
  · exact ⟨PySem.F.slot_list_pop, PySem.F.type_list_pop⟩
  · exact ⟨PySem.F.slot_list_extend, PySem.F.type_list_extend⟩
theorem sv_bme {o e : Expr} {m : Str} {mo me : ME} {apos : Pos} (hm : m = "append" ∨ m = "pop" ∨ m = "extend") (hK : X.K = G.K) (hb : attributeBase o m X.env (eval o X.env) = eval o X.env) (hline : (apos.endLine == pos.line) = true)
    (hfew : ((backTo pos (starEach [e] X.env)).all (fun x => !x.1) && (backToKw pos (keywordEach [] X.env)).all (fun x => x.1.isSome) && decide ([e].length + ([] : List Keyword).length + (if ([] : List Keyword).isEmpty then 0 else 1) < 30)) = true)
    (hs : starEach [e] X.env = (false, eval e X.env) :: starEach [] X.env) (ho : PE X o (tE G W (ev L mo))) (he : PE X e (tE G W (ev L me))) : PE X (.Call (.Attribute o m apos) [e] [] pos) (tE G W (ev L (.bme mo m [me]))) := by
  refine (pe_bm PySem.F.plainAttrs_list (slot_mth hm).1 (slot_mth hm).2 (mt_mth hm) ho (pa_cons he pa_nil hs) hb hfew hline hs rfl).imp fun σ H Q h => ?_
  obtain ⟨w, ρ, R, g⟩ := h
  rw [ev] at g
  refine ⟨w, ρ, R, g.bind.mono fun x ρ1 w1 H1 _ e1 R1 q vx hx => ?_⟩
  cases er : rdt ρ1 x with
  | none => rw [er] at q; exact q.elim
  | some xs =>
    rw [er] at q
    refine ⟨rdt_ty hK R1 hx er, ?_⟩
    obtain ⟨w2, R2, _, _, g2⟩ := pend R1 hx q.bind
    refine ⟨w2, ρ1, R2, g2.mono fun y ρ3 w3 H3 _ e3 R3 q3 vy hy => ?_⟩
    obtain ⟨w4, e4, R4, hx4, _, _, hyy, q4⟩ := q3
    obtain ⟨d, ρ5, w5, ev5, e5, R5, rep, q5⟩ := val_ok R4 (hyy _ _ hy) q4.bind
    cases x with
    | nl ys => exact q5.elim
    | v d0 => exact mth_step hm R5 (hx4.ext e5 fun _ z => nomatch z) rep q5
    | bw i => exact mth_step hm R5 (hx4.ext e5 fun _ z => nomatch z) rep q5
theorem sv_pop0 {o : Expr} {mo : ME} {apos : Pos} (hK : X.K = G.K) (hb : attributeBase o "pop" X.env (eval o X.env) = eval o X.env) (hline : (apos.endLine == pos.line) = true)
    (ho : PE X o (tE G W (ev L mo))) : PE X (.Call (.Attribute o "pop" apos) [] [] pos) (tE G W (ev L (.bme mo "pop" []))) := by
  refine (pe_bm0 PySem.F.plainAttrs_list PySem.F.slot_list_pop PySem.F.type_list_pop (r := rPop) mt_pop ho hb hline).imp fun σ H Q h => ?_
  obtain ⟨w, ρ, R, g⟩ := h
  rw [ev] at g
  refine ⟨w, ρ, R, g.bind.mono fun x ρ1 w1 H1 _ e1 R1 q vx hx => ?_⟩
  cases er : rdt ρ1 x with
  | none => rw [er] at q; exact q.elim
  | some xs0 =>
    rw [er] at q
    refine ⟨rdt_ty hK R1 hx er, ?_⟩
    rw [if_pos rfl] at q
    obtain ⟨p, vs, xs, ys, d', rfl, hp, rl, ef, fin⟩ := wrL_ok R1 hx q.bind
    unfold popF at ef
    simp only [Option.map_eq_some_iff, Prod.mk.injEq] at ef
    obtain ⟨y, ey, rfl, rfl⟩ := ef
    obtain ⟨v, ev, rv⟩ := rl.get ey
    obtain ⟨ρ', _, R', q⟩ := fin vs.dropLast rl.dropLast
    exact ⟨p, vs, v, rfl, rfl, hp, by rw [rl.length]; exact ev, q.here R' _ rv⟩
/-! ### the store grows -/
theorem Rel.alloc {p : Addr} {vs : List V} {xs : List Dt} (R : Rel G w ρ σ H) (f : Free w ρ σ p) (hp : H p = some (.lst vs)) (r : RepL G w.F w.A vs xs) :
    Ext w { w with A := w.A ++ [p] } ∧ Rel G { w with A := w.A ++ [p] } { ρ with st := ρ.st ++ [.l xs] } σ H ∧ (w.A ++ [p])[ρ.st.length]? = some p := by
  have eE : Ext w { w with A := w.A ++ [p] } := ⟨Same.refl _, Ax.app _ _, rfl, rfl, rfl⟩
  have at_ : ∀ (j : Nat) (a : Addr), (w.A ++ [p])[j]? = some a → (j < w.A.length ∧ w.A[j]? = some a) ∨ (j = w.A.length ∧ a = p) := fun j a e => by
    have hj := (List.getElem?_eq_some_iff.mp e).1
    rw [List.length_append, List.length_singleton] at hj
    by_cases hk : j < w.A.length
    · rw [List.getElem?_append_left hk] at e; exact .inl ⟨hk, e⟩
    · have : j = w.A.length := by omega
      subst this
      rw [List.getElem?_append_right (Nat.le_refl _), Nat.sub_self] at e
      cases e; exact .inr ⟨rfl, rfl⟩
  refine ⟨eE, {
    subF := R.subF
    subT := R.subT
    dis := R.dis
    stL := by show (w.A ++ [p]).length = (ρ.st ++ [MO.l xs]).length; rw [List.length_append, List.length_append, R.stL]; rfl
    stR := fun k a e => by
      rcases at_ k a e with ⟨hk, e⟩ | ⟨rfl, rfl⟩
      · obtain ⟨z1, z2, mo, z3, z4⟩ := R.stR k a e
        exact ⟨z1, z2, mo, by show (ρ.st ++ [MO.l xs])[k]? = _; rw [List.getElem?_append_left (R.stL ▸ hk)]; exact z3, z4.mono (w := w) (w' := { w with A := w.A ++ [p] }) eE.F eE.A⟩
      · exact ⟨f.F, f.T, .l xs, by show (ρ.st ++ [MO.l xs])[w.A.length]? = _; rw [R.stL, List.getElem?_append_right (Nat.le_refl _), Nat.sub_self]; rfl, vs, hp, r.mono eE.F eE.A⟩
    stN := fun k m a e1 e2 => by
      rcases at_ k a e1 with ⟨a1, a2⟩ | ⟨a1, a2⟩
      · rcases at_ m a e2 with ⟨b1, b2⟩ | ⟨b1, b2⟩
        · exact R.stN k m a a2 b2
        · subst b2; exact absurd (List.mem_of_getElem? a2) f.A
      · rcases at_ m a e2 with ⟨b1, b2⟩ | ⟨b1, b2⟩
        · subst a2; exact absurd (List.mem_of_getElem? b2) f.A
        · omega
    len := R.len
    sl := fun i x e => (R.sl i x e).ext (w' := { w with A := w.A ++ [p] }) eE
    own := fun i q h => by
      obtain ⟨h1, h2, h3⟩ := R.own i q h
      refine ⟨h1, h2, fun m => ?_⟩
      have m : q ∈ w.A ++ [p] := m
      rcases List.mem_append.mp m with m | m
      · exact h3 m
      · have : q = p := by simpa using m
        subst this; exact f.own i h
    ownN := R.ownN
    lT := R.lT }, by rw [← R.stL, List.getElem?_append_right (Nat.le_refl _), Nat.sub_self]; rfl⟩
theorem sv_alloc {e : Expr} {m : ME} (he : PE X e (tE G W (ev L m))) : PE X e (tE G W (ev L (.alloc m))) := by
  refine he.imp fun σ H Q h => ?_
  obtain ⟨w, ρ, R, g⟩ := h
  rw [ev] at g
  refine ⟨w, ρ, R, g.bind.mono fun x ρ1 w1 H1 _ e1 R1 q v hv => ?_⟩
  cases x with
  | nl xs =>
    obtain ⟨p, vs, rfl, hp, r, f⟩ := hv
    obtain ⟨e2, R2, a2⟩ := R1.alloc f hp r
    exact q.at e2 R2 _ (.ref a2)
  | v d => exact q.elim
  | bw i => exact q.elim
/-! ### isinstance -/
def tyVal (G : Gx) : Ty → Option Value
  | .b t => some (.type t)
  | .c c => (G.cls c).map .ref
/-- what isinstance asks of an own class -/
structure InsT (K : PySem.W.Frag) (C : Addr) : Prop where
  cl : Cls K C
  ha : PySem.W.findIn K (.ref C) "__class__" = some (some (.builtin "object.__class__"))
  hn : PySem.W.specialIn K (.builtin "object.__class__") "__get__" = some (some (.builtin "getset_descriptor.__get__"))
  htk : PySem.W.takesIn K (.builtin "object.__class__") = some true
  hm : PySem.W.mroIn K C (.type "object") = some true
/-- a class's name in isinstance -/
structure IsiF (G : Gx) (X : Cx) (L : Fns) (t : Str) : Prop where
  ex : ∃ c u v, ClsV c u ∧ RelV c v ∧ (X.mg t = some v ∨ (X.mg t = none ∧ bootBuiltins t = some v)) ∧ ∀ ty b, L.isi ty t = some b → ∃ tv, tyVal G ty = some tv ∧ PySem.W.kitOne G.K tv u = some b
theorem tyx_lst {p : Addr} {vs : List V} (h : H p = some (.lst vs)) : TyX G.K H (.ref p) (.type "list") := .base (.lst h)
theorem tyx_tup {p : Addr} {vs : List V} (h : SqT G.K H p vs) : TyX G.K H (.ref p) (.type "tuple") := by
  rcases h with (h | ⟨o, h⟩) | ⟨o, its, n, e, c, _⟩
  · exact .base (.tup h)
  · exact .fTuple h
  · exact .kTuple e c
theorem tyV_ok {a : RV} {va : V} {ty : Ty} {tv : Value} (hI : ∀ c C, G.cls c = some C → InsT G.K C) (R : Rel G w ρ σ H) (ha : RR G w ρ σ H a va) (h : tyV a ρ = some ty) (hv : tyVal G ty = some tv) : TyX G.K H va tv := by
  have ins : ∀ {c : Nat} {C p dx : Addr} {fl : List (Str × V)}, G.cls c = some C → H p = some (.ins C dx fl) → tyVal G (.c c) = some tv → TyX G.K H (.ref p) tv := fun {c C p dx fl} h1 h2 h3 => by
    simp only [tyVal, h1, Option.map_some, Option.some.injEq] at h3
    subst h3
    have i := hI c C h1
    exact .base (.ins h2 i.cl i.ha i.hn i.htk i.hm)
  cases a with
  | nl xs =>
    simp only [tyV, Option.some.injEq] at h; subst h
    simp only [tyVal, Option.some.injEq] at hv; subst hv
    obtain ⟨p, vs, rfl, hp, _⟩ := ha
    exact tyx_lst hp
  | bw i =>
    have hl : ∀ xs, rdt ρ (.bw i) = some xs → ty = .b "list" → TyX G.K H va tv := fun xs e1 e2 => by
      subst e2
      simp only [tyVal, Option.some.injEq] at hv; subst hv
      obtain ⟨p, vs, rfl, hp, _⟩ := rdt_ok R ha e1
      exact tyx_lst hp
    simp only [tyV] at h
    split at h
    · rename_i e; cases h; exact hl _ (by simp only [rdt, e]; rfl) rfl
    · rename_i e; cases h; exact hl _ (by simp only [rdt, e]; rfl) rfl
    · rename_i e; cases h; exact hl _ (by simp only [rdt, e]; rfl) rfl
    · cases h
  | v d =>
    cases d with
    | non => simp only [tyV, Option.some.injEq] at h; subst h; simp only [tyVal, Option.some.injEq] at hv; subst hv; obtain rfl := Rep.inv_non ha; exact .base .non
    | bl b => simp only [tyV, Option.some.injEq] at h; subst h; simp only [tyVal, Option.some.injEq] at hv; subst hv; obtain rfl := Rep.inv_bl ha; exact .base (.bl b)
    | int b => simp only [tyV, Option.some.injEq] at h; subst h; simp only [tyVal, Option.some.injEq] at hv; subst hv; obtain rfl := Rep.inv_int ha; exact .base (.int b)
    | str b => simp only [tyV, Option.some.injEq] at h; subst h; simp only [tyVal, Option.some.injEq] at hv; subst hv; obtain rfl := Rep.inv_str ha; exact .base (.str b)
    | tup xs => simp only [tyV, Option.some.injEq] at h; subst h; simp only [tyVal, Option.some.injEq] at hv; subst hv; obtain ⟨p, vs, rfl, hp, _⟩ := Rep.inv_tup ha; exact tyx_tup (sqt_mono R.subF hp)
    | lst xs => simp only [tyV, Option.some.injEq] at h; subst h; simp only [tyVal, Option.some.injEq] at hv; subst hv; obtain ⟨p, vs, rfl, hp, _⟩ := Rep.inv_lst ha; exact tyx_lst (R.subF _ _ hp)
    | rol xs => simp [tyV] at h
    | dct => simp only [tyV, Option.some.injEq] at h; subst h; simp only [tyVal, Option.some.injEq] at hv; subst hv; obtain ⟨p, kvs, rfl, hp⟩ := Rep.inv_dct ha; exact .base (.dK (R.subF _ _ hp))
    | ins c ns vs =>
      simp only [tyV, Option.some.injEq] at h; subst h
      obtain ⟨p, C, dx, fl, rfl, hC, hF, _⟩ := Rep.inv_ins ha
      exact ins hC (R.subF _ _ hF) hv
    | ref n =>
      obtain ⟨p, rfl, e2⟩ := Rep.inv_ref ha
      obtain ⟨_, _, mo, e3, m⟩ := R.stR n p e2
      simp only [tyV, e3] at h
      cases mo with
      | l xs => simp only [Option.some.injEq] at h; subst h; simp only [tyVal, Option.some.injEq] at hv; subst hv; obtain ⟨vs, e, _⟩ := m; exact tyx_lst e
      | i c ns ds => simp only [Option.some.injEq] at h; subst h; obtain ⟨C, dx, fl, hC, hF, _⟩ := m; exact ins hC hF hv
theorem sv_isi {a : Expr} {t : Str} {ma : ME} {p q : Pos} (hK : X.K = G.K) (hI : ∀ c C, G.cls c = some C → InsT G.K C) (hf : IsiF G X L t) (hg : Gl X "isinstance") (hm : X.mg "isinstance" = none) (hgt : Gl X t) (htn : t ≠ "__name__") (htd : (t == ("__debug__" : Str)) = false)
    (hs : starEach [a, .Name t q] X.env = (false, eval a X.env) :: starEach [.Name t q] X.env) (ha : PE X a (tE G W (ev L ma))) :
    PE X (.Call (.Name "isinstance" p) [a, .Name t q] [] pos) (tE G W (ev L (.isi ma t))) := by
  obtain ⟨c, u, v, hcv, hrv, hvv, hk⟩ := hf.ex
  have pt : PE X (.Name t q) (tC c) := by
    rcases hvv with h | ⟨h1, h2⟩
    · exact pe_glob hgt h hrv htd
    · exact pe_bltn hgt h1 h2 hrv htn htd
  refine (pe_callB call_isi hg hm (by decide +kernel) (pa_cons ha (pa_cons pt pa_nil rfl) hs) (by decide) (by decide) hs rfl).imp fun σ H Q h => ?_
  obtain ⟨w, ρ, R, g⟩ := h
  rw [ev] at g
  refine ⟨w, ρ, R, g.bind.mono fun x ρ1 w1 H1 _ e1 R1 q va hva => ?_⟩
  show rIsi X.K [va, c] H1 Q
  cases eb : (tyV x ρ1).bind fun ty => L.isi ty t with
  | none => rw [eb] at q; exact q.elim
  | some b =>
    rw [eb] at q
    simp only [Option.bind_eq_some_iff] at eb
    obtain ⟨ty, e1, e2⟩ := eb
    obtain ⟨tv, e3, e4⟩ := hk ty b e2
    refine ⟨va, c, tv, u, b, rfl, hcv, ?_, ?_, q.here R1 _ (.bl b)⟩
    · rw [hK]; exact tyV_ok hI R1 hva e1 e3
    · rw [hK]; exact e4
/-- isinstance(x, (t, u)) -/
theorem sv_isi2 {a : Expr} {t t2 : Str} {ma : ME} {p q q2 q3 : Pos} {x1} (hK : X.K = G.K) (hI : ∀ c C, G.cls c = some C → InsT G.K C) (hf : IsiF G X L t) (hf2 : IsiF G X L t2) (hg : Gl X "isinstance") (hm : X.mg "isinstance" = none) (hgt : Gl X t) (htn : t ≠ "__name__") (htd : (t == ("__debug__" : Str)) = false) (hgt2 : Gl X t2) (htn2 : t2 ≠ "__name__") (htd2 : (t2 == ("__debug__" : Str)) = false)
    (hs : starEach [a, .Tuple [.Name t q, .Name t2 q2] x1 q3] X.env = (false, eval a X.env) :: starEach [.Tuple [.Name t q, .Name t2 q2] x1 q3] X.env) (ha : PE X a (tE G W (ev L ma))) :
    PE X (.Call (.Name "isinstance" p) [a, .Tuple [.Name t q, .Name t2 q2] x1 q3] [] pos) (tE G W (ev L (.isi2 ma t t2))) := by
  obtain ⟨c, u, v, hcv, hrv, hvv, hk⟩ := hf.ex
  obtain ⟨c2, u2, v2, hcv2, hrv2, hvv2, hk2⟩ := hf2.ex
  have pt : PE X (.Name t q) (tC c) := by
    rcases hvv with h | ⟨h1, h2⟩
    · exact pe_glob hgt h hrv htd
    · exact pe_bltn hgt h1 h2 hrv htn htd
  have pt2 : PE X (.Name t2 q2) (tC c2) := by
    rcases hvv2 with h | ⟨h1, h2⟩
    · exact pe_glob hgt2 h hrv2 htd2
    · exact pe_bltn hgt2 h1 h2 hrv2 htn2 htd2
  refine (pe_callB call_isiT hg hm (by decide +kernel) (pa_cons ha (pa_cons (pe_tup (pa_cons pt (pa_cons pt2 pa_nil rfl) rfl)) pa_nil rfl) hs) (by decide) (by decide) hs rfl).imp fun σ H Q h => ?_
  obtain ⟨w, ρ, R, g⟩ := h
  rw [ev] at g
  refine ⟨w, ρ, R, g.bind.mono fun x ρ1 w1 H1 _ e1 R1 q va hva => ?_⟩
  split at q
  · rename_i d _
    show ([c, c2] : List V).length ≤ sizeLine ∧ ∀ p, H1 p = none → rIsiT X.K [va, .ref p] (upd H1 p (.tup [c, c2])) Q
    refine ⟨by show 2 ≤ sizeLine; rw [sizeLine_eq]; decide, fun p hp => ?_⟩
    split at q
    · rename_i b eb
      simp only [Option.bind_eq_some_iff, Option.map_eq_some_iff] at eb
      obtain ⟨ty, e1, b1, e2, b2, e3, rfl⟩ := eb
      obtain ⟨tv, g3, g4⟩ := hk ty b1 e2
      obtain ⟨tv2, g5, g6⟩ := hk2 ty b2 e3
      rw [g3] at g5
      cases g5
      have hva' : RR G w1 ρ1 σ (upd H1 p (.tup [c, c2])) (.v d) va := RR.ext hva (Ext.refl _) fun _ h => nomatch h
      refine ⟨va, p, [c, c2], tv, [u, u2], b1 || b2, rfl, upd_same, .cons hcv (.cons hcv2 .nil), ?_, ?_, q.here (R1.new hp) _ (.bl _)⟩
      · rw [hK]; exact tyV_ok hI (R1.new hp) hva' e1 g3
      · rw [hK]
        refine kitAny_cons g4 (fun h => ?_) fun h => by rw [h]; rfl
        rw [h, Bool.false_or]
        exact kitAny_cons g6 (fun h => by rw [h]; exact kitAny_nil) fun h => h
    · exact q.elim
  · exact q.elim
end
end Mq

/-! MqEnum: enumerate of a tuple. -/
namespace PySem
open Sem (wp)
open AutoSeq1 (wpAny_loadPart')
abbrev enO (I : Addr) : Obj := { cls := .type "enumerate", data := .fields #[.none, .bool false, .ref I, rawInt 0, .none, .none] }
abbrev tiO (T : Addr) : Obj := { cls := .type "tuple_iterator", data := .fields #[.ref T, .int 0 0] }
theorem meets_enT (T : Addr) (zs : Array Value) (nn : Nat) (dd : Option Addr) (ss : Array (Option Value)) :
    Meets (Builtin.«enumerate.__new__» ⟨[.type "enumerate", .ref T], []⟩) (fun _ R s => s.heap.get? T = some { cls := .type "tuple", dict := dd, data := .seq zs nn, slots := ss } ∧
      R (.ok (.ret (.ref (s.heap.push (tiO T)).objs.size))) { s with heap := (s.heap.push (tiO T)).push (enO s.heap.objs.size) }) :=
  .of_wp fun prog w A R s h => by
    obtain ⟨hp, gg, dl, tk, os⟩ := s
    obtain ⟨hl, h⟩ := h
    have hs := sub_enumerate
    have hT : Heap.IsTuple (Shared.heap ⟨hp, gg, dl, tk, os⟩) T zs := ⟨_, hl, rfl, nn, rfl⟩
    wp_walk using wpAny_loadPart' hl
    refine wpAny_stack_any fun st => wpAny_pure ?_
    split
    · rename_i c _ _ _ _ _
      cases (c == Value.type "enumerate")
      · wp_walk using wpAny_loadPart' hl, wpAny_pyIter_tuple hT
        exact ⟨_, rfl, h⟩
      · wp_walk using wpAny_loadPart' hl, wpAny_pyIter_tuple hT
        exact ⟨_, rfl, h⟩
    · wp_walk using wpAny_loadPart' hl, wpAny_pyIter_tuple hT
      exact ⟨_, rfl, h⟩
section
variable {prog : Program} {w : World} {A : Around} {E : Value → Shared → Prop} {s : Shared}
theorem call_enT {T : Addr} {zs : Array Value} {Q : Value → Shared → Prop} (hT : s.heap.IsTuple T zs)
    (k : ∀ hp', IsEnum hp' (s.heap.objs.size + 1) s.heap.objs.size 0 .none → hp'.IsTupleIter s.heap.objs.size T 0 → (∀ b o, s.heap.get? b = some o → hp'.get? b = some o) → Q (.ref (s.heap.objs.size + 1)) { s with heap := hp' }) :
    wpAny (model prog w) A (call (.type "enumerate") [.ref T]) Q E s := by
  obtain ⟨⟨c, dd, dt, ss⟩, hl, hc, nn, hd⟩ := hT
  simp only at hc hd
  subst hc hd
  refine callType_new F.called_enumerate (by decide) (F.typeCall_enumerate_1 _) (F.newCall_enumerate_1 _) (fun obj => F.args_object_init_2 obj _) F.entry_enumerate_new (meets_enT T zs nn dd ss) ⟨hl, ?_⟩
  have z1 : (s.heap.push (tiO T)).objs.size = s.heap.objs.size + 1 := Heap.size_push ..
  show _ ∧ _
  rw [z1]
  have he : IsEnum ((s.heap.push (tiO T)).push (enO s.heap.objs.size)) (s.heap.objs.size + 1) s.heap.objs.size 0 .none := by
    have := Heap.get?_push_size (s.heap.push (tiO T)) (o := enO s.heap.objs.size) rfl
    rwa [z1] at this
  exact ⟨⟨_, he, rfl⟩, k _ he ⟨_, Heap.get?_push_of_some _ (Heap.get?_push_size _ rfl), rfl, rfl⟩ fun b o x => Heap.get?_push_of_some _ (Heap.get?_push_of_some _ x)⟩
end
end PySem
namespace L2
open PySem PySem.Spec PyProof.Rows
/-- the tuple at T, each item in a new pair -/
def IteT (K : PySem.W.Frag) (T : Addr) : It where
  go := fun i H => ∃ (zs : List V) (z : V), SqT K H T zs ∧ zs[i]? = some z
  yld := fun i H v H' => ∃ P z, v = .ref P ∧ H P = none ∧ H' = upd H P (.tup [.int (i : Nat), z]) ∧ ∀ zs, SqT K H T zs → zs[i]? = some z
  stop := fun i H => ∃ zs : List V, SqT K H T zs ∧ zs.length ≤ i
theorem turn_enT {P : Program} {w : World} {K : PySem.W.Frag} {elts : List Expr} {kk : Nat} {tpos : Pos} (T e I : Addr) :
    Turn P w K (.Tuple elts kk tpos) (IteT K T) [e, I] e (fun i h => (∃ z, IsEnum h e I ((i : Nat) : Int) z) ∧ h.IsTupleIter I T i ∧ e ≠ I) where
  mem := by simp
  obj := fun i h st b hb => by
    obtain ⟨⟨z, he⟩, ⟨o, ho, hc, hd⟩, _⟩ := st
    have hb' : b = e ∨ b = I := by simpa using hb
    rcases hb' with q | q
    · rw [q]; exact ⟨_, he, fun v z => nomatch z⟩
    · rw [q]; exact ⟨o, ho, fun v z => by rw [hd] at z; cases z⟩
  keep := fun i h h' st k => let ⟨⟨z, he⟩, hi, ne⟩ := st; ⟨⟨z, k e (by simp) _ he⟩, hi.at fun o q => k I (by simp) o q, ne⟩
  item := by
    intro X hP hw hK hc i pins s σ H E J hf st hg
    subst hP hw hK
    obtain ⟨⟨z0, he⟩, hit, ne⟩ := st
    obtain ⟨zs, z, hq, hz⟩ := hg
    obtain ⟨its, rv, pT, hs⟩ := J.tuple hq
    have pT : s.heap.IsTuple T its.toArray := pT
    obtain ⟨u, hu, ru⟩ := rv.get hz
    have n1 : T ≠ I := fun q => by
      obtain ⟨o, h1, h2, _⟩ := pT
      obtain ⟨o2, g1, g2, _⟩ := hit
      rw [q, g1] at h1; cases h1
      rw [h2] at g2
      exact absurd (Value.type.inj g2) (by decide)
    have n2 : e ≠ T := fun q => by
      obtain ⟨o, h1, h2, _⟩ := pT
      have he : s.heap.get? e = some _ := he
      rw [← q, he] at h1; cases h1
      exact absurd (Value.type.inj h2) (by decide)
    have le : e < s.heap.objs.size := Heap.lt_size he
    have lI : I < s.heap.objs.size := by obtain ⟨_, q, _⟩ := hit; exact Heap.lt_size q
    have hlt : i < its.toArray.size := by
      have := (List.getElem?_eq_some_iff.mp hu).1
      simpa using this
    refine wpAny_pyNext_enum_itemD (Draws.tuple (show X.A.in1.handled = none from J.ok.hd hc) I T n1 its.toArray) he ⟨hit, pT⟩ hlt ne (by simp [ne, n2]) fun x hp' tk hx ho st' hT hsz hk => ?_
    have ex : x = u := by
      rw [List.getElem?_toArray] at hx
      rw [hu] at hx; cases hx; rfl
    subst ex
    refine ⟨_, rfl, wpAny_letOwnedTupleGo_enum (s := { s with heap := hp', toks := tk + 1 }) ho fun hp2 he2 sb => ?_⟩
    have hT2 : hp2.get? s.heap.objs.size = some { cls := .type "tuple", data := .seq #[.int i tk, x] } := (sb.2 _ (Nat.ne_of_gt le)).trans hT
    have new : ObjOk X.prog X.w (upd H s.heap.objs.size (.tup [.int (i : Nat), z])) hp2 s.heap.objs.size (.tup [.int (i : Nat), z]) :=
      ⟨by show 2 ≤ sizeLine; decide, [.int i tk, x], .cons ⟨_, rfl⟩ (.cons ru .nil), ⟨_, hT2, rfl, _, rfl⟩⟩
    have J1 : Inv X pins σ (upd H s.heap.objs.size (.tup [.int (i : Nat), z])) { s with heap := hp2, toks := tk + 1 } :=
      J.turnedNew (ch := [e, I]) (fun b ob hb q => (sb.2 b (fun z => hb (by simp [z]))).trans (hk b ob (fun z => hb (by simp [z])) (fun z => hb (by simp [z])) q)) hf (Nat.le_refl _) new
    refine ⟨.ref s.heap.objs.size, _, J1, rfl, ⟨_, z, rfl, J.hok.fresh (Nat.le_refl _), rfl, fun ys hy => by rw [J.tuple_inj hy hq]; exact hz⟩, ⟨⟨x, ?_⟩, st'.1.at fun o q => (sb.2 I (Ne.symm ne)).trans q, ne⟩, fun b hb => ?_⟩
    · have e1 : ((i + 1 : Nat) : Int) = (i : Int) + 1 := Int.natCast_add i 1
      rw [e1]; exact he2
    · have hb' : b < s.heap.objs.size := by
        have q : b = e ∨ b = I := by simpa using hb
        rcases q with q | q
        · rw [q]; exact le
        · rw [q]; exact lI
      rw [upd_ne (Nat.ne_of_lt hb')]
      exact (hf b hb).1
  done := by
    intro X hP hw hK hc i pins s σ H E J hf st hg
    subst hP hw hK
    obtain ⟨⟨z0, he⟩, hit, ne⟩ := st
    obtain ⟨zs, hq, hz⟩ := hg
    obtain ⟨its, rv, pT, hs⟩ := J.tuple hq
    have pT : s.heap.IsTuple T its.toArray := pT
    obtain ⟨f0, f1, f2, f3, f4, f5⟩ := hf I (by simp)
    have hl := rv.length
    have hT : s.TypeIs (.ref e) "enumerate" := ⟨_, he, rfl⟩
    unfold pyNext
    refine wpAny_bind (wpAny_attempt (wpAny_callSpecial?_slot (name := Str.ofString "__next__") hT F.slot_enumerate_next (wpAny_call_entry F.slot_enumerate_next hT F.entry_enumerate_next ?_ (F.args_enumerate_next_1 _))))
    show wpAny _ _ (field (.ref e) 2 >>= _) _ _ _
    refine wpAny_bind (wpAny_field he rfl (x := .ref I) rfl ?_)
    refine wpAny_bind (wpAny_nextOf_tuple_end (show X.A.in1.handled = none from J.ok.hd hc) hit pT (by simp; omega) fun h' x he' hx' => ?_)
    obtain ⟨o, ho, hc'⟩ := hx'
    refine wpAny_bind (wpAny_isInstance (T := "StopIteration") (b := true) ⟨o, ho, hc'⟩ isSubtype_stop ?_)
    exact wpAny_pure ⟨rfl, J.turned (t' := s.toks) (fun b o hb q => he' b o hb q) f0 f1 f3 f4 f5⟩
  self := fun A i s Q E st h => let ⟨⟨_, he⟩, _⟩ := st; wpAny_pyIter_enum he h
def iEnumA (K : PySem.W.Frag) (ta : TA) : TI := fun σ H R => ta σ H fun vs H1 => ∃ T zs, vs = [.ref T] ∧ ((SqL K H1 T zs ∧ R (Ite K T) H1) ∨ (SqT K H1 T zs ∧ R (IteT K T) H1))
theorem pi_enumA {X : Cx} {e : Expr} {ta : TA} {p pos tpos : Pos} {elts : List Expr} {kk : Nat} (hg : Gl X "enumerate") (hm : X.mg "enumerate" = none) (ha : PA X [e] ta) (hs : starEach [e] X.env = [(false, eval e X.env)] := by rfl) :
    PI X (.Tuple elts kk tpos) (.Call (.Name "enumerate" p) [e] [] pos) (iEnumA X.K ta) := by
  refine ⟨fun pins s σ H R J h => ?_⟩
  refine Call_ (ld_blt J hg hm boot_enumerate (PyProof.Rows.callWith_type1 (thn (ha.run pos pins s σ H _ J h) fun us s1 ⟨vs, H1, J1, r1, q1⟩ => ?_) hs rfl))
  obtain ⟨T, zs, ex, q⟩ := q1
  subst ex
  cases r1 with
  | cons r rr =>
    cases rr
    cases r
    have ge : ∀ b, b ∈ [s1.heap.objs.size + 1, s1.heap.objs.size] → s1.heap.objs.size ≤ b := fun b hb => by
      have q : b = s1.heap.objs.size + 1 ∨ b = s1.heap.objs.size := by simpa using hb
      omega
    rcases q with ⟨hq, q⟩ | ⟨hq, q⟩
    · obtain ⟨its, rv, pL, hz⟩ := J1.list hq
      refine call_enumerate_list pL.isList fun hp' he hit hsz hk => wpAny_pyIter_enum he ?_
      have J2 : Inv X pins σ H1 { s1 with heap := hp' } := J1.kept (t' := s1.toks) hk
      exact ⟨s1.heap.objs.size + 1, [s1.heap.objs.size + 1, s1.heap.objs.size], _, _, H1, rfl, J2, turn_enum T (s1.heap.objs.size + 1) s1.heap.objs.size, ⟨⟨.none, he⟩, hit, Nat.succ_ne_self _⟩, fun b hb => J1.fpOk (ge b hb) (J1.hok.fresh (ge b hb)), q⟩
    · obtain ⟨its, rv, pT, hz⟩ := J1.tuple hq
      refine call_enT (show s1.heap.IsTuple T its.toArray from pT) fun hp' he hit hk => wpAny_pyIter_enum he ?_
      have J2 : Inv X pins σ H1 { s1 with heap := hp' } := J1.kept (t' := s1.toks) hk
      exact ⟨s1.heap.objs.size + 1, [s1.heap.objs.size + 1, s1.heap.objs.size], _, _, H1, rfl, J2, turn_enT T (s1.heap.objs.size + 1) s1.heap.objs.size, ⟨⟨.none, he⟩, hit, Nat.succ_ne_self _⟩, fun b hb => J1.fpOk (ge b hb) (J1.hok.fresh (ge b hb)), q⟩
end L2

/-! MqLoop: what is walked. -/
namespace Mq
open PySem L2
/-- the list that is walked stands -/
def Prot (G : Gx) (w : Wd) (ρ : SS) (r : RV) (v : V) (ys : List Dt) : Prop := match r with
  | .v (.ref n) => ∃ a, v = .ref a ∧ w.A[n]? = some a ∧ ρ.st[n]? = some (.l ys)
  | .v d => Rep G w.F w.A v d ∧ (d = .tup ys ∨ d = .lst ys ∨ d = .rol ys)
  | _ => ∃ p vs, v = .ref p ∧ (w.T p = some (.lst vs) ∨ w.F p = some (.lst vs)) ∧ RepL G w.F w.A vs ys
def SrcOk (G : Gx) (w : Wd) (ρ : SS) (r : RV) (v : V) (ys : List Dt) : Prop := r = .v .non ∨ Prot G w ρ r v ys
section
variable {G : Gx} {W : WX} {w w1 w' : Wd} {ρ ρ' : SS} {σ σ' : L2.St} {H : Hp} {X : Cx} {pos : Pos} {L : Fns} {r : RV} {v : V} {ys : List Dt}
theorem Prot.ext (h : Prot G w ρ r v ys) (e : Ext w w') (hc : chk ys r ρ' = true) : Prot G w' ρ' r v ys := by
  have rest : (∃ p vs, v = .ref p ∧ (w.T p = some (.lst vs) ∨ w.F p = some (.lst vs)) ∧ RepL G w.F w.A vs ys) → ∃ p vs, v = .ref p ∧ (w'.T p = some (.lst vs) ∨ w'.F p = some (.lst vs)) ∧ RepL G w'.F w'.A vs ys := by
    rintro ⟨p, vs, e1, e2, rl⟩
    refine ⟨p, vs, e1, ?_, rl.mono e.F e.A⟩
    rcases e2 with e2 | e2
    · exact .inl (by rw [e.T]; exact e2)
    · exact .inr (e.F _ _ e2)
  cases r with
  | nl xs => exact rest h
  | bw i => exact rest h
  | v d =>
    cases d with
    | ref n =>
      obtain ⟨a, e1, e2, e3⟩ := h
      refine ⟨a, e1, e.A _ _ e2, ?_⟩
      unfold chk at hc
      simp only at hc
      split at hc
      · rename_i zs ez
        have : ys = zs := of_decide_eq_true hc
        subst this; exact ez
      · cases hc
    | _ => exact ⟨h.1.mono e.F e.A, h.2⟩
theorem SrcOk.ext (h : SrcOk G w ρ r v ys) (e : Ext w w') (hc : chk ys r ρ' = true) : SrcOk G w' ρ' r v ys := h.imp id fun h => h.ext e hc
theorem Prot.read (h : Prot G w ρ r v ys) (R : Rel G w ρ σ H) : ∃ a vs, v = .ref a ∧ (SqL G.K H a vs ∨ SqT G.K H a vs) ∧ RepL G w.F w.A vs ys := by
  have rest : (∃ p vs, v = .ref p ∧ (w.T p = some (.lst vs) ∨ w.F p = some (.lst vs)) ∧ RepL G w.F w.A vs ys) → ∃ a vs, v = .ref a ∧ (SqL G.K H a vs ∨ SqT G.K H a vs) ∧ RepL G w.F w.A vs ys := by
    rintro ⟨p, vs, e1, e2, rl⟩
    refine ⟨p, vs, e1, .inl (SqL.of ?_), rl⟩
    rcases e2 with e2 | e2
    · exact R.subT _ _ e2
    · exact R.subF _ _ e2
  cases r with
  | nl xs => exact rest h
  | bw i => exact rest h
  | v d =>
    have data : Rep G w.F w.A v d ∧ (d = .tup ys ∨ d = .lst ys ∨ d = .rol ys) → ∃ a vs, v = .ref a ∧ (SqL G.K H a vs ∨ SqT G.K H a vs) ∧ RepL G w.F w.A vs ys := by
      rintro ⟨rp, q⟩
      rcases q with rfl | rfl | rfl
      · obtain ⟨a, vs, e1, e2, rl⟩ := Rep.inv_tup rp; exact ⟨a, vs, e1, .inr (sqt_mono R.subF e2), rl⟩
      · obtain ⟨a, vs, e1, e2, rl⟩ := Rep.inv_lst rp; exact ⟨a, vs, e1, .inl (SqL.of (R.subF _ _ e2)), rl⟩
      · obtain ⟨a, vs, e1, e2, rl⟩ := Rep.inv_rol rp; exact ⟨a, vs, e1, .inl (sql_mono R.subF e2), rl⟩
    cases d with
    | ref n =>
      obtain ⟨a, e1, e2, e3⟩ := h
      obtain ⟨_, _, mo, e4, m⟩ := R.stR n a e2
      rw [e3] at e4; cases e4
      obtain ⟨vs, e5, rl⟩ := m
      exact ⟨a, vs, e1, .inl (SqL.of e5), rl⟩
    | _ => exact data h
theorem Prot.readL (h : Prot G w ρ r v ys) (R : Rel G w ρ σ H) (hn : ∀ xs, r ≠ .v (.tup xs)) : ∃ a vs, v = .ref a ∧ SqL G.K H a vs ∧ RepL G w.F w.A vs ys := by
  have rest : (∃ p vs, v = .ref p ∧ (w.T p = some (.lst vs) ∨ w.F p = some (.lst vs)) ∧ RepL G w.F w.A vs ys) → ∃ a vs, v = .ref a ∧ SqL G.K H a vs ∧ RepL G w.F w.A vs ys := by
    rintro ⟨p, vs, e1, e2, rl⟩
    refine ⟨p, vs, e1, SqL.of ?_, rl⟩
    rcases e2 with e2 | e2
    · exact R.subT _ _ e2
    · exact R.subF _ _ e2
  cases r with
  | nl xs => exact rest h
  | bw i => exact rest h
  | v d =>
    have data : Rep G w.F w.A v d ∧ (d = .tup ys ∨ d = .lst ys ∨ d = .rol ys) → ∃ a vs, v = .ref a ∧ SqL G.K H a vs ∧ RepL G w.F w.A vs ys := by
      rintro ⟨rp, q⟩
      rcases q with rfl | rfl | rfl
      · exact absurd rfl (hn ys)
      · obtain ⟨a, vs, e1, e2, rl⟩ := Rep.inv_lst rp; exact ⟨a, vs, e1, SqL.of (R.subF _ _ e2), rl⟩
      · obtain ⟨a, vs, e1, e2, rl⟩ := Rep.inv_rol rp; exact ⟨a, vs, e1, sql_mono R.subF e2, rl⟩
    cases d with
    | ref n =>
      obtain ⟨a, e1, e2, e3⟩ := h
      obtain ⟨_, _, mo, e4, m⟩ := R.stR n a e2
      rw [e3] at e4; cases e4
      obtain ⟨vs, e5, rl⟩ := m
      exact ⟨a, vs, e1, SqL.of e5, rl⟩
    | _ => exact data h
/-- back from a walk: the world without what was put beside -/
def Exit (G : Gx) (w w1 : Wd) (ρ : SS) (r : RV) : Prop := ∀ (w' : Wd) (ρ' : SS) (σ' : L2.St) (H' : Hp), Ext w1 w' → Rel G w' ρ' σ' H' →
  ∃ w'', Ext w w'' ∧ Rel G w'' (unlock r ρ ρ') σ' H' ∧ w''.F = w'.F ∧ w''.A = w'.A ∧ (∀ p, w'.T p = none → w''.T p = none)
theorem Exit.same (hu : ∀ ρ', unlock r ρ ρ' = ρ') : Exit G w w ρ r := fun w' ρ' σ' H' e R => ⟨w', e, by rw [hu]; exact R, rfl, rfl, fun _ h => h⟩
theorem Same.pin {T : Hp} {p : Addr} {o : HO} (h : T p = none) : Same T (upd T p o) := fun b u q => by rw [upd_ne (ne_of_none q h)]; exact q
theorem protect (R : Rel G w ρ σ H) (h : RR G w ρ σ H r v) (e : rds ρ r = some ys) :
    ∃ w1, Rel G w1 (lock r ρ) σ H ∧ w1.F = w.F ∧ w1.A = w.A ∧ Prot G w1 (lock r ρ) r v ys ∧ Exit G w w1 ρ r := by
  cases r with
  | v d =>
    refine ⟨w, R, rfl, rfl, ?_, Exit.same fun _ => rfl⟩
    cases d with
    | ref n =>
      simp only [rds, rdl, rdt] at e
      obtain ⟨a, e1, e2⟩ := Rep.inv_ref h
      split at e
      · rename_i xs ex
        cases e
        exact ⟨a, e1, e2, ex⟩
      · cases e
    | tup xs => simp only [rds, Option.some.injEq] at e; subst e; exact ⟨h, .inl rfl⟩
    | lst xs => simp only [rds, rdl, rdt, Option.some.injEq] at e; subst e; exact ⟨h, .inr (.inl rfl)⟩
    | rol xs => simp only [rds, rdl, Option.some.injEq] at e; subst e; exact ⟨h, .inr (.inr rfl)⟩
    | _ => simp [rds, rdl, rdt] at e
  | nl xs =>
    simp only [rds, rdl, rdt, Option.some.injEq] at e
    subst e
    obtain ⟨p, vs, e1, e2, rl, f⟩ := h
    refine ⟨w.pin p (.lst vs), R.pinned f e2, rfl, rfl, ⟨p, vs, e1, .inl (by show upd w.T p _ p = _; exact upd_same), rl⟩, fun w' ρ' σ' H' ex R' => ?_⟩
    have eT : w'.T = upd w.T p (.lst vs) := ex.T
    have s : Same w.T w'.T := by rw [eT]; exact Same.pin f.T
    exact ⟨w'.unp w, ⟨ex.F, ex.A, rfl, rfl, rfl⟩, R'.less s ex.L.symm ex.M.symm R.lT, rfl, rfl, fun q hq => none_of fun o z => (by rw [s _ _ z] at hq; cases hq)⟩
  | bw i =>
    have hv : σ[i]? = some (some v) := h
    cases q : ρ.sl[i]? with
    | none => simp [rds, rdl, rdt, q] at e
    | some x =>
      cases x with
      | un => simp [rds, rdl, rdt, q] at e
      | oi c ns ds => simp [rds, rdl, rdt, q] at e
      | xc c => simp [rds, rdl, rdt, q] at e
      | v d =>
        cases d with
        | lst xs =>
          simp only [rds, rdl, rdt, q, Option.some.injEq] at e
          subst e
          obtain ⟨v', e1, rp⟩ := R.sl i _ q
          rw [hv] at e1; cases e1
          obtain ⟨a, vs, e1, e2, rl⟩ := Rep.inv_lst rp
          have hl : lock (.bw i) ρ = ρ := by simp only [lock, q]
          rw [hl]
          exact ⟨w, R, rfl, rfl, ⟨a, vs, e1, .inr e2, rl⟩, Exit.same fun ρ' => by simp only [unlock, q]⟩
        | _ => simp [rds, rdl, rdt, q] at e
      | lk xs =>
        simp only [rds, rdl, rdt, q, Option.some.injEq] at e
        subst e
        obtain ⟨p, vs, e1, _, e2, rl⟩ := R.sl i _ q
        rw [hv] at e1; cases e1
        have hl : lock (.bw i) ρ = ρ := by simp only [lock, q]
        rw [hl]
        exact ⟨w, R, rfl, rfl, ⟨p, vs, rfl, .inl e2, rl⟩, Exit.same fun ρ' => by simp only [unlock, q]⟩
      | ol xs =>
        simp only [rds, rdl, rdt, q, Option.some.injEq] at e
        subst e
        obtain ⟨p, vs, e1, e2, rl⟩ := R.sl i _ q
        rw [hv] at e1; cases e1
        have oa : OwnAt ρ σ i p := ⟨hv, _, q, rfl⟩
        obtain ⟨f1, f2, f3⟩ := R.own i p oa
        have hi : i < ρ.sl.length := (List.getElem?_eq_some_iff.mp q).1
        have hl : lock (.bw i) ρ = ρ.set i (.lk xs) := by simp only [lock, q]
        rw [hl]
        let w1 : Wd := { w with T := upd w.T p (.lst vs), L := fun j => if j = i then some p else w.L j }
        have ot : ∀ (j : Nat) (x' : Sl), (ρ.set i (.lk xs)).sl[j]? = some x' → (j = i ∧ x' = .lk xs) ∨ (j ≠ i ∧ ρ.sl[j]? = some x') := fun j x' e => by
          have e : (ρ.sl.set i (.lk xs))[j]? = some x' := e
          by_cases z : j = i
          · subst z; rw [List.getElem?_set_self hi] at e; cases e; exact .inl ⟨rfl, rfl⟩
          · rw [List.getElem?_set_ne (Ne.symm z)] at e; exact .inr ⟨z, e⟩
        have oo : ∀ j q, OwnAt (ρ.set i (.lk xs)) σ j q → j ≠ i ∧ OwnAt ρ σ j q := fun j q ⟨e, x', ex', ho'⟩ => by
          rcases ot j x' ex' with ⟨_, z⟩ | ⟨z, ez⟩
          · subst z; simp [isOwn] at ho'
          · exact ⟨z, e, x', ez, ho'⟩
        have sT : Same w.T w1.T := Same.pin f2
        have R1 : Rel G w1 (ρ.set i (.lk xs)) σ H := {
          subF := R.subF
          subT := fun a u z => by
            by_cases y : a = p
            · subst y
              have z : upd w.T a (.lst vs) a = some u := z
              rw [upd_same] at z; cases z; exact e2
            · have z : upd w.T p (.lst vs) a = some u := z
              rw [upd_ne y] at z; exact R.subT _ _ z
          dis := fun a => by
            by_cases y : a = p
            · subst y; exact .inl f1
            · rcases R.dis a with z | z
              · exact .inl z
              · right; show upd w.T p _ a = none; rw [upd_ne y]; exact z
          stL := R.stL
          stR := fun n a en => by
            obtain ⟨h1, h2, mo, h3, h4⟩ := R.stR n a en
            have : a ≠ p := fun y => f3 (by rw [← y]; exact List.mem_of_getElem? en)
            refine ⟨h1, ?_, mo, h3, h4.mono (w := w) (w' := w1) (Same.refl _) (Ax.refl _)⟩
            show upd w.T p _ a = none
            rw [upd_ne this]; exact h2
          stN := R.stN
          len := by show (ρ.sl.set i _).length = _; rw [List.length_set]; exact R.len
          sl := fun j x' e => by
            rcases ot j x' e with ⟨z, z'⟩ | ⟨z, ez⟩
            · subst z; subst z'
              exact ⟨p, vs, hv, by show (if j = j then some p else _) = _; rw [if_pos rfl], by show upd w.T p _ p = _; exact upd_same, rl⟩
            · exact (R.sl j x' ez).mono (w := w) (w' := w1) (Same.refl _) (Ax.refl _) (by show (if j = i then some p else w.L j) = w.L j; rw [if_neg z]) rfl fun a o _ y => sT _ _ y
          own := fun j q e => by
            obtain ⟨z, e'⟩ := oo j q e
            obtain ⟨g1, g2, g3⟩ := R.own j q e'
            have : q ≠ p := fun y => z (R.ownN j i p (y ▸ e') oa)
            refine ⟨g1, ?_, g3⟩
            show upd w.T p _ q = none
            rw [upd_ne this]; exact g2
          ownN := fun j j' q e e' => R.ownN j j' q (oo j q e).2 (oo j' q e').2
          lT := fun j q e => by
            have e : (if j = i then some p else w.L j) = some q := e
            by_cases z : j = i
            · rw [if_pos z] at e; cases e
              exact ⟨_, by show upd w.T p (.lst vs) p = _; exact upd_same⟩
            · rw [if_neg z] at e
              obtain ⟨o, y⟩ := R.lT j q e
              exact ⟨o, sT _ _ y⟩ }
        refine ⟨w1, R1, rfl, rfl, ⟨p, vs, rfl, .inl (by show upd w.T p _ p = _; exact upd_same), rl⟩, fun w' ρ' σ' H' ex R' => ?_⟩
        have eT : w'.T = upd w.T p (.lst vs) := ex.T
        have eL : ∀ j, w'.L j = if j = i then some p else w.L j := fun j => by rw [ex.L]
        have s : Same w.T w'.T := by rw [eT]; exact Same.pin f2
        have hTp : w'.T p = some (.lst vs) := by rw [eT]; exact upd_same
        have tn : ∀ q, w'.T q = none → w.T q = none := fun q hq => none_of fun o z => (by rw [s _ _ z] at hq; cases hq)
        have E : Ext w (w'.unp w) := ⟨ex.F, ex.A, rfl, rfl, rfl⟩
        have nFp : w'.F p = none := by
          rcases R'.dis p with z | z
          · exact z
          · rw [hTp] at z; cases z
        have nAp : p ∉ w'.A := fun m => by
          obtain ⟨n, en⟩ := mem_A m
          have := (R'.stR n p en).2.1
          rw [hTp] at this; cases this
        -- the slots but the i-th
        have slj : ∀ (j : Nat) (x' : Sl), ρ'.sl[j]? = some x' → (j ≠ i ∨ ∀ zs, x' ≠ .lk zs) → SlR G (w'.unp w) H' j x' σ'[j]? := fun j x' e hj => by
          cases x' with
          | lk zs =>
            have hj : j ≠ i := hj.elim id fun z => absurd rfl (z zs)
            refine (R'.sl j _ e).mono (w := w') (w' := w'.unp w) (Same.refl _) (Ax.refl _) (by show w.L j = w'.L j; rw [eL, if_neg hj]) ex.M.symm fun a o z1 z2 => ?_
            rw [eL, if_neg hj] at z1
            obtain ⟨o', z3⟩ := R.lT j a z1
            have := s _ _ z3
            rw [z2] at this; cases this; exact z3
          | un => trivial
          | v d => exact R'.sl j _ e
          | ol zs => exact R'.sl j _ e
          | oi c ns ds => obtain ⟨p0, C0, dx0, fl0, q1, q2, q3, q4, q5, q6⟩ := R'.sl j _ e; exact ⟨p0, C0, dx0, fl0, q1, q2, q3, q4, q5, ex.M.symm.trans q6⟩
          | xc c => exact R'.sl j _ e
        have wok : Wok G (w'.unp w) ρ'.st H' := {
          subF := R'.subF
          subT := s.trans R'.subT
          dis := fun a => (R'.dis a).imp id (tn a)
          stL := R'.stL
          stR := fun n a en => by
            obtain ⟨h1, h2, mo, h3, h4⟩ := R'.stR n a en
            exact ⟨h1, tn a h2, mo, h3, h4.mono (w := w') (w' := w'.unp w) (Same.refl _) (Ax.refl _)⟩
          stN := R'.stN }
        refine ⟨w'.unp w, E, ?_, rfl, rfl, tn⟩
        have keep : unlock (.bw i) ρ ρ' = ρ' → (∀ zs, ρ'.sl[i]? ≠ some (.lk zs)) → Rel G (w'.unp w) (unlock (.bw i) ρ ρ') σ' H' := fun eu hn => by
          rw [eu]
          exact {
            toWok := wok
            len := R'.len
            sl := fun j x' e => slj j x' e (by
              by_cases z : j = i
              · subst z; exact .inr fun zs y => hn zs (by rw [e, y])
              · exact .inl z)
            own := fun j q h => let ⟨h1, h2, h3⟩ := R'.own j q h; ⟨h1, tn q h2, h3⟩
            ownN := R'.ownN
            lT := R.lT }
        cases q' : ρ'.sl[i]? with
        | none => exact keep (by simp only [unlock, q, q']) fun zs => by rw [q']; simp
        | some x' =>
          cases x' with
          | lk zs =>
            have eu : unlock (.bw i) ρ ρ' = ρ'.set i (.ol zs) := by simp only [unlock, q, q']
            rw [eu]
            obtain ⟨p', us, y1, y2, y3, y4⟩ := R'.sl i _ q'
            rw [eL, if_pos rfl] at y2; cases y2
            have hi' : i < ρ'.sl.length := (List.getElem?_eq_some_iff.mp q').1
            have ot' : ∀ (j : Nat) (x' : Sl), (ρ'.set i (.ol zs)).sl[j]? = some x' → (j = i ∧ x' = .ol zs) ∨ (j ≠ i ∧ ρ'.sl[j]? = some x') := fun j x' e => by
              have e : (ρ'.sl.set i (.ol zs))[j]? = some x' := e
              by_cases z : j = i
              · subst z; rw [List.getElem?_set_self hi'] at e; cases e; exact .inl ⟨rfl, rfl⟩
              · rw [List.getElem?_set_ne (Ne.symm z)] at e; exact .inr ⟨z, e⟩
            have oo' : ∀ j a, OwnAt (ρ'.set i (.ol zs)) σ' j a → (j = i ∧ a = p) ∨ (j ≠ i ∧ OwnAt ρ' σ' j a) := fun j a ⟨e, x', ex', ho'⟩ => by
              rcases ot' j x' ex' with ⟨z, _⟩ | ⟨z, ez⟩
              · subst z; rw [y1] at e; cases e; exact .inl ⟨rfl, rfl⟩
              · exact .inr ⟨z, e, x', ez, ho'⟩
            have nop : ∀ j, ¬ OwnAt ρ' σ' j p := fun j h => by
              have := (R'.own j p h).2.1
              rw [hTp] at this; cases this
            exact {
              toWok := wok
              len := by show (ρ'.sl.set i _).length = _; rw [List.length_set]; exact R'.len
              sl := fun j x' e => by
                rcases ot' j x' e with ⟨z, z'⟩ | ⟨z, ez⟩
                · subst z; subst z'; exact ⟨p, us, y1, R'.subT _ _ y3, y4⟩
                · exact slj j x' ez (.inl z)
              own := fun j a h => by
                rcases oo' j a h with ⟨_, z⟩ | ⟨_, z⟩
                · subst z; exact ⟨nFp, f2, nAp⟩
                · obtain ⟨h1, h2, h3⟩ := R'.own j a z; exact ⟨h1, tn a h2, h3⟩
              ownN := fun j j' a h h' => by
                rcases oo' j a h with ⟨z1, z2⟩ | ⟨z1, z2⟩
                · rcases oo' j' a h' with ⟨z3, z4⟩ | ⟨z3, z4⟩
                  · rw [z1, z3]
                  · subst z2; exact absurd z4 (nop j')
                · rcases oo' j' a h' with ⟨z3, z4⟩ | ⟨z3, z4⟩
                  · subst z4; exact absurd z2 (nop j)
                  · exact R'.ownN j j' a z2 z4
              lT := R.lT }
          | un => exact keep (by simp only [unlock, q, q']) fun zs => by rw [q']; simp
          | v d => exact keep (by simp only [unlock, q, q']) fun zs => by rw [q']; simp
          | ol zs => exact keep (by simp only [unlock, q, q']) fun zs => by rw [q']; simp
          | oi c ns ds => exact keep (by simp only [unlock, q, q']) fun zs => by rw [q']; simp
          | xc c => exact keep (by simp only [unlock, q, q']) fun zs => by rw [q']; simp
end
end Mq

/-! MqWalk: targets, iterators, comprehensions. -/
namespace Mq
open PySem L2
section
variable {G : Gx} {W : WX} {w w1 w' : Wd} {ρ ρ' : SS} {σ σ' : L2.St} {H : Hp} {X : Cx} {pos : Pos} {L : Fns} {r : RV} {v : V} {ys : List Dt}
theorem set_cases {a : Type} {l : List a} {i j : Nat} {x y : a} (h : (l.set i x)[j]? = some y) : (j = i ∧ y = x) ∨ (j ≠ i ∧ l[j]? = some y) := by
  by_cases q : j = i
  · subst q
    by_cases hj : j < l.length
    · rw [List.getElem?_set_self hj] at h; cases h; exact .inl ⟨rfl, rfl⟩
    · have := (List.getElem?_eq_some_iff.mp h).1
      rw [List.length_set] at this
      exact absurd this hj
  · rw [List.getElem?_set_ne (Ne.symm q)] at h; exact .inr ⟨q, h⟩
/-- a slot is given a value -/
theorem Rel.setSl {i : Nat} {x : Sl} {v : V} (R : Rel G w ρ σ H) (hs : SlR G w H i x (some (some v))) (ho : isOwn x = true → ∃ p, v = .ref p ∧ Free w ρ σ p) : Rel G w (ρ.set i x) (σ.set i (some v)) H := by
  have oo : ∀ j q, OwnAt (ρ.set i x) (σ.set i (some v)) j q → (j = i ∧ isOwn x = true ∧ v = .ref q) ∨ (j ≠ i ∧ OwnAt ρ σ j q) := fun j q ⟨e, x', ex', ho'⟩ => by
    rcases set_cases ex' with ⟨z, z'⟩ | ⟨z, z'⟩
    · subst z; subst z'
      rcases set_cases e with ⟨_, y⟩ | ⟨y, _⟩
      · exact .inl ⟨rfl, ho', (Option.some.inj y).symm⟩
      · exact absurd rfl y
    · rcases set_cases e with ⟨y, _⟩ | ⟨_, y⟩
      · exact absurd y z
      · exact .inr ⟨z, y, x', z', ho'⟩
  exact {
    toWok := R.toWok
    len := by show (ρ.sl.set i x).length = (σ.set i (some v)).length; rw [List.length_set, List.length_set]; exact R.len
    sl := fun j x' e => by
      rcases set_cases e with ⟨z, z'⟩ | ⟨z, z'⟩
      · subst z; subst z'
        have hj : j < σ.length := by
          have h1 : j < (ρ.sl.set j x').length := (List.getElem?_eq_some_iff.mp e).1
          rw [List.length_set] at h1
          rw [← R.len]; exact h1
        rw [List.getElem?_set_self hj]; exact hs
      · rw [List.getElem?_set_ne (Ne.symm z)]; exact R.sl j x' z'
    own := fun j q h => by
      rcases oo j q h with ⟨z, z1, z2⟩ | ⟨z, z'⟩
      · obtain ⟨p, e, f⟩ := ho z1
        rw [z2] at e; cases e
        exact ⟨f.F, f.T, f.A⟩
      · exact R.own j q z'
    ownN := fun j j' q h h' => by
      rcases oo j q h with ⟨z, z1, z2⟩ | ⟨z, z'⟩
      · obtain ⟨p, e, f⟩ := ho z1
        rw [z2] at e; cases e
        rcases oo j' q h' with ⟨y, _, _⟩ | ⟨_, y'⟩
        · rw [z, y]
        · exact absurd y' (f.own j')
      · rcases oo j' q h' with ⟨y, y1, y2⟩ | ⟨_, y'⟩
        · obtain ⟨p, e, f⟩ := ho y1
          rw [y2] at e; cases e
          exact absurd z' (f.own j)
        · exact R.ownN j j' q z' y'
    lT := R.lT }
theorem Rel.setV {i : Nat} {d : Dt} {v : V} (R : Rel G w ρ σ H) (r : Rep G w.F w.A v d) : Rel G w (ρ.set i (.v d)) (σ.set i (some v)) H := R.setSl ⟨v, rfl, r⟩ fun h => by simp [isOwn] at h
/-! ### targets -/
mutual
def tslots : Tg → List Nat
  | .n i => [i]
  | .t ts => tslotsL ts
def tslotsL : List Tg → List Nat
  | [] => []
  | t :: ts => tslots t ++ tslotsL ts
end
/-- the slots but those of vs are as they were -/
def Agree (vs : List Nat) (σ σ' : L2.St) : Prop := σ'.length = σ.length ∧ ∀ j, j ∉ vs → σ'[j]? = σ[j]?
theorem Agree.refl (vs : List Nat) (σ : L2.St) : Agree vs σ σ := ⟨rfl, fun _ _ => rfl⟩
def tgR (G : Gx) (t : Tg) : TG := fun v σ H Q => ∃ w ρ d ρ', Rel G w ρ σ H ∧ Rep G w.F w.A v d ∧ bindT t d ρ = .ok () ρ' ∧ ∀ σ', Rel G w ρ' σ' H → Agree (tslots t) σ σ' → Q σ' H
def tgRs (G : Gx) (ts : List Tg) : TGs := fun vs σ H Q => ∃ w ρ ds ρ', Rel G w ρ σ H ∧ RepL G w.F w.A vs ds ∧ bindTs ts ds ρ = .ok () ρ' ∧ ∀ σ', Rel G w ρ' σ' H → Agree (tslotsL ts) σ σ' → Q σ' H
theorem _root_.L2.PG.imp {X : Cx} {e : Expr} {t t' : TG} (h : PG X e t) (hi : ∀ v σ H Q, t' v σ H Q → t v σ H Q) : PG X e t' :=
  ⟨fun pins s σ H v u Q I r q => h.run pins s σ H v u Q I r (hi _ _ _ _ q)⟩
theorem _root_.L2.PGs.imp {X : Cx} {e : List Expr} {t t' : TGs} (h : PGs X e t) (hi : ∀ v σ H Q, t' v σ H Q → t v σ H Q) : PGs X e t' :=
  ⟨fun pins s σ H v u Q I r q => h.run pins s σ H v u Q I r (hi _ _ _ _ q)⟩
theorem sg_n {i : Nat} {x : Str} (hN : X.N.Nodup) (hi : X.N[i]? = some x) (hx : Loc X.env.scope x) (hf : X.fn x = true ∨ X.env.scope.names.lookup x = some .local) : PG X (.Name x pos) (tgR G (.n i)) :=
  (pg_name hN hi hx hf).imp fun v σ H Q h => by
    obtain ⟨w, ρ, d, ρ', R, rp, e, q⟩ := h
    rw [bindT] at e
    cases e
    refine q _ (R.setV rp) ⟨by rw [List.length_set], fun j hj => ?_⟩
    have : j ≠ i := fun z => hj (by rw [z, tslots]; exact List.mem_singleton.mpr rfl)
    rw [List.getElem?_set_ne (Ne.symm this)]
theorem sgs_nil : PGs X [] (tgRs G []) := pgs_nil.imp fun vs σ H Q h => by
  obtain ⟨w, ρ, ds, ρ', R, rp, e, q⟩ := h
  cases rp with
  | nil => rw [bindTs] at e; cases e; exact ⟨rfl, q σ R (Agree.refl _ _)⟩
  | cons a r => rw [bindTs] at e; cases e; all_goals intros; simp_all
theorem bindTs_cons {t : Tg} {ts : List Tg} {d : Dt} {ds : List Dt} {s s' : SS} (h : bindTs (t :: ts) (d :: ds) s = .ok () s') : ∃ s1, bindT t d s = .ok () s1 ∧ bindTs ts ds s1 = .ok () s' := by
  rw [bindTs] at h
  cases q : bindT t d s with
  | no => rw [q] at h; cases h
  | ex c fs t => rw [q] at h; cases h
  | ok u s1 => rw [q] at h; exact ⟨s1, rfl, h⟩
theorem sgs_cons {e : Expr} {es : List Expr} {t : Tg} {ts : List Tg} (h1 : PG X e (tgR G t)) (h2 : PGs X es (tgRs G ts)) (hs : (assignEach (e :: es) X.env).map (·.2) = assign e X.env :: (assignEach es X.env).map (·.2)) : PGs X (e :: es) (tgRs G (t :: ts)) :=
  (pgs_cons h1 h2 hs).imp fun vs σ H Q h => by
    obtain ⟨w, ρ, ds, ρ', R, rp, e, q⟩ := h
    cases rp with
    | nil => simp [bindTs] at e
    | cons a rr =>
      obtain ⟨s1, e1, e2⟩ := bindTs_cons e
      refine ⟨_, _, rfl, w, ρ, _, s1, R, a, e1, fun σ1 R1 ag1 => ⟨w, s1, _, ρ', R1, rr, e2, fun σ2 R2 ag2 => q σ2 R2 ⟨ag2.1.trans ag1.1, fun j hj => ?_⟩⟩⟩
      rw [tslotsL, List.mem_append, not_or] at hj
      rw [ag2.2 j hj.2, ag1.2 j hj.1]
theorem sg_t {es : List Expr} {ts : List Tg} {k : Nat} (hK : X.K = G.K) (hc : X.calm = true) (h : PGs X es (tgRs G ts)) (hl : ts.length = es.length) (hn : (assignEach es X.env).length = es.length) (hst : (assignEach es X.env).findIdx? (·.1) = none) : PG X (.Tuple es k pos) (tgR G (.t ts)) :=
  (pg_tup hc h hn hst).imp fun v σ H Q h => by
    obtain ⟨w, ρ, d, ρ', R, rp, e, q⟩ := h
    cases d with
    | tup xs =>
      rw [bindT] at e
      obtain ⟨a, vs, rfl, hs, rl⟩ := Rep.inv_tup rp
      have len : ∀ {ts : List Tg} {ds : List Dt} {s s' : SS}, bindTs ts ds s = .ok () s' → ts.length = ds.length := by
        intro ts
        induction ts with
        | nil => intro ds s s' h; cases ds <;> simp [bindTs] at h ⊢
        | cons t ts ih =>
          intro ds s s' h
          cases ds with
          | nil => simp [bindTs] at h
          | cons d ds => obtain ⟨s1, _, e2⟩ := bindTs_cons h; simp [ih e2]
      refine ⟨a, vs, rfl, by rw [hK]; exact sqt_mono R.subF hs, by rw [rl.length, ← len e, hl], w, ρ, xs, ρ', R, rl, e, q⟩
    | _ => simp [bindT] at e
/-! ### iterators -/
structure Wk (G : Gx) (J : It) (xs : List Dt) (P : Wd → SS → Prop) : Prop where
  stop : ∀ w ρ σ H, Rel G w ρ σ H → P w ρ → J.stop xs.length H
  go : ∀ (i : Nat) d w ρ σ H, Rel G w ρ σ H → P w ρ → xs[i]? = some d → J.go i H ∧ ∀ x H', J.yld i H x H' → ∃ w', Ext w w' ∧ Rel G w' ρ σ H' ∧ Rep G w'.F w'.A x d
/-- the reading of a walk: the iterator J, its source -/
def tI (G : Gx) (W : WX) (m : SS → Out SS IV) : TI := fun σ H R => ∃ w ρ, Rel G w ρ σ H ∧ Go G W w σ (m ρ) fun iv ρ1 w1 H1 => ∀ J v, (iv.src = .v .non ∨ (RR G w1 ρ1 σ H1 iv.src v ∧ rds ρ1 iv.src = some iv.ys)) → Wk G J iv.xs (fun w ρ => (Same w1.F w.F ∧ Ax w1.A w.A) ∧ SrcOk G w ρ iv.src v iv.ys) → R J H1
theorem Wk.weak {J : It} {xs : List Dt} {P P' : Wd → SS → Prop} (h : Wk G J xs P) (hp : ∀ w ρ, P' w ρ → P w ρ) : Wk G J xs P' := ⟨fun w ρ σ H R p => h.stop w ρ σ H R (hp _ _ p), fun i d w ρ σ H R p e => h.go i d w ρ σ H R (hp _ _ p) e⟩
theorem _root_.L2.PI.imp {X : Cx} {tg e : Expr} {t t' : TI} (h : PI X tg e t) (hi : ∀ σ H R, t' σ H R → t σ H R) : PI X tg e t' :=
  ⟨fun pins s σ H R I q => h.run pins s σ H R I (hi _ _ _ q)⟩
theorem wk_list {a : Addr} (hn : ∀ xs, r ≠ .v (.tup xs)) (h0 : r ≠ .v .non) : Wk G (Itl G.K a) ys (fun w ρ => SrcOk G w ρ r (.ref a) ys) where
  stop := fun w ρ σ H R p => by
    obtain ⟨b, vs, e, hs, rl⟩ := (p.resolve_left h0).readL R hn
    cases e
    exact ⟨vs, hs, by rw [rl.length]; exact Nat.le_refl _⟩
  go := fun i d w ρ σ H R p hd => by
    obtain ⟨b, vs, e, hs, rl⟩ := (p.resolve_left h0).readL R hn
    cases e
    obtain ⟨v, ev, rv⟩ := rl.get hd
    refine ⟨⟨vs, v, hs, ev⟩, fun x H' y => ?_⟩
    obtain ⟨rfl, y⟩ := y
    have := y vs hs
    rw [ev] at this; cases this
    exact ⟨w, Ext.refl _, R, rv⟩
theorem wk_tup {a : Addr} : Wk G (Itt G.K a) ys (fun w ρ => SrcOk G w ρ (.v (.tup ys)) (.ref a) ys) where
  stop := fun w ρ σ H R p => by
    obtain ⟨b, vs, e, hs, rl⟩ := Rep.inv_tup (p.resolve_left (fun z => by cases z)).1
    cases e
    exact ⟨vs, sqt_mono R.subF hs, by rw [rl.length]; exact Nat.le_refl _⟩
  go := fun i d w ρ σ H R p hd => by
    obtain ⟨b, vs, e, hs, rl⟩ := Rep.inv_tup (p.resolve_left (fun z => by cases z)).1
    cases e
    obtain ⟨v, ev, rv⟩ := rl.get hd
    refine ⟨⟨vs, v, sqt_mono R.subF hs, ev⟩, fun x H' y => ?_⟩
    obtain ⟨rfl, y⟩ := y
    have := y vs (sqt_mono R.subF hs)
    rw [ev] at this; cases this
    exact ⟨w, Ext.refl _, R, rv⟩
/-- a list or a tuple is walked -/
def iSeq (K : PySem.W.Frag) (tl : TE) : TI := fun σ H R => tl σ H fun x H1 => ∃ a, x = .ref a ∧ (((∃ xs, SqL K H1 a xs) ∧ R (Itl K a) H1) ∨ ((∃ xs, SqT K H1 a xs) ∧ R (Itt K a) H1))
theorem pi_seqA {tg l : Expr} {tl : TE} (hl : PE X l tl) : PI X tg l (iSeq X.K tl) := by
  refine ⟨fun pins s σ H R I h => ?_⟩
  refine thn (hl.run pins s σ H _ I h) fun v s1 ⟨x, H1, I1, r1, q1⟩ => ?_
  obtain ⟨a, e, q1⟩ := q1
  subst e
  cases r1
  rcases q1 with ⟨⟨xs, hq⟩, q⟩ | ⟨⟨xs, hq⟩, q⟩
  · obtain ⟨its, rv, p, hz⟩ := I1.list hq
    refine wpAny_pyIter_list p.isList ?_
    refine ⟨s1.heap.objs.size, [s1.heap.objs.size], _, _, H1, rfl, I1.kept (t' := s1.toks) fun b o e => Heap.get?_push_of_some _ e, turn_list a _, ⟨_, Heap.get?_push_size _ rfl, rfl, rfl⟩, fun b hb => ?_, q⟩
    have e : b = s1.heap.objs.size := by simpa using hb
    subst e
    exact I1.fpOk (Nat.le_refl _) (I1.hok.fresh (Nat.le_refl _))
  · obtain ⟨its, rv, p, hz⟩ := I1.tuple hq
    refine wpAny_pyIter_tuple (show s1.heap.IsTuple a its.toArray from p) ?_
    refine ⟨s1.heap.objs.size, [s1.heap.objs.size], _, _, H1, rfl, I1.kept (t' := s1.toks) fun b o e => Heap.get?_push_of_some _ e, turn_tuple a _, ⟨_, Heap.get?_push_size _ rfl, rfl, rfl⟩, fun b hb => ?_, q⟩
    have e : b = s1.heap.objs.size := by simpa using hb
    subst e
    exact I1.fpOk (Nat.le_refl _) (I1.hok.fresh (Nat.le_refl _))
theorem seq_here {xs : List Dt} {K : PySem.W.Frag} {RC : It → Hp → Prop} (R : Rel G w ρ σ H) (hv : RR G w ρ σ H r v) (er : rds ρ r = some xs)
    (q : ∀ J v, (r = .v .non ∨ (RR G w ρ σ H r v ∧ rds ρ r = some xs)) → Wk G J xs (fun w ρ => SrcOk G w ρ r v xs) → RC J H) : ∃ a, v = .ref a ∧ (((∃ xs, SqL G.K H a xs) ∧ RC (Itl G.K a) H) ∨ ((∃ xs, SqT G.K H a xs) ∧ RC (Itt G.K a) H)) := by
  by_cases ht : ∃ zs, r = .v (.tup zs)
  · obtain ⟨zs, rfl⟩ := ht
    simp only [rds, Option.some.injEq] at er
    subst er
    obtain ⟨a, vs, rfl, hs, rl⟩ := Rep.inv_tup hv
    exact ⟨a, rfl, .inr ⟨⟨vs, sqt_mono R.subF hs⟩, q _ _ (.inr ⟨hv, rfl⟩) wk_tup⟩⟩
  · have el : rdl ρ r = some xs := by
      cases r with
      | nl ys => exact er
      | bw i => exact er
      | v d => cases d <;> first | exact er | exact absurd ⟨_, rfl⟩ ht
    obtain ⟨a, vs, rfl, hs, rl⟩ := rdl_ok R hv el
    refine ⟨a, rfl, .inl ⟨⟨vs, hs⟩, q _ _ (.inr ⟨hv, er⟩) (wk_list (fun xs z => ht ⟨xs, z⟩) fun z => by rw [z] at er; simp [rds, rdl, rdt] at er)⟩⟩
theorem si_seq {tg l : Expr} {fz : Bool} {m : ME} (hK : X.K = G.K) (hl : PE X l (tE G W (ev L m))) : PI X tg l (tI G W (evI L (.seq fz m))) :=
  (pi_seqA hl).imp fun σ H RC h => by
    rw [hK]
    obtain ⟨w, ρ, R, g⟩ := h
    rw [evI] at g
    refine ⟨w, ρ, R, g.bind.mono fun r ρ1 w1 H1 _ e1 R1 q v hv => ?_⟩
    cases fz with
    | true =>
      rw [if_pos rfl] at q
      obtain ⟨d, ρ2, w2, ev2, e2, R2, rep, q2⟩ := val_ok R1 hv q.bind
      cases er : rds ρ2 (.v d) with
      | none => rw [er] at q2; exact q2.elim
      | some xs => rw [er] at q2; exact seq_here (K := G.K) R2 (r := .v d) rep er fun J v h k => q2.here R2 J v h (k.weak fun _ _ p => p.2)
    | false =>
      rw [if_neg Bool.false_ne_true] at q
      cases er : rds ρ1 r with
      | none => rw [er] at q; exact q.elim
      | some xs => rw [er] at q; exact seq_here (K := G.K) R1 hv er fun J v h k => q.here R1 J v h (k.weak fun _ _ p => p.2)
theorem wk_range {lo : Int} {n : Nat} {xs : List Dt} (h : xs = (List.range n).map fun (i : Nat) => Dt.int (lo + i)) {P : Wd → SS → Prop} : Wk G (Itr lo n) xs P where
  stop := fun w ρ σ H R p => by subst h; show n ≤ _; simp
  go := fun i d w ρ σ H R p hd => by
    subst h
    have hi : i < n := by have := (List.getElem?_eq_some_iff.mp hd).1; simpa using this
    refine ⟨hi, fun x H' y => ?_⟩
    obtain ⟨rfl, rfl⟩ := y
    simp [hi] at hd
    subst hd
    exact ⟨w, Ext.refl _, R, .int _⟩
theorem si_rng1 {tg a : Expr} {m : ME} {p : Pos} (hg : Gl X "range") (hm : X.mg "range" = none) (hs : starEach [a] X.env = [(false, eval a X.env)]) (ha : PA X [a] (tA G W (evs L [m]))) : PI X tg (.Call (.Name "range" p) [a] [] pos) (tI G W (evI L (.rng [m]))) :=
  (pi_range1 hg hm ha hs).imp fun σ H RC h => by
    obtain ⟨w, ρ, R, g⟩ := h
    rw [evI] at g
    refine ⟨w, ρ, R, g.bind.mono fun ds ρ1 w1 H1 eo e1 R1 q vs hvs => ?_⟩
    split at q
    · cases hvs with
      | cons r1 r2 =>
        cases r2
        obtain rfl := Rep.inv_int r1
        split at q
        · rename_i c
          simp only [rngOk, Bool.and_eq_true, decide_eq_true_eq] at c
          refine ⟨_, rfl, c.1, c.2, q.here R1 _ .non (.inl rfl) (wk_range ?_)⟩
          simp [rngI]
        · exact q.elim
    · exact absurd (evs_len eo) (by simp)
    · exact absurd (evs_len eo) (by simp)
    · exact q.elim
theorem si_rng2 {tg a b : Expr} {m n : ME} {p : Pos} (hg : Gl X "range") (hm : X.mg "range" = none) (hs : starEach [a, b] X.env = [(false, eval a X.env), (false, eval b X.env)]) (hs2 : starEach [b] X.env = [(false, eval b X.env)]) (ha : PA X [a, b] (tA G W (evs L [m, n]))) : PI X tg (.Call (.Name "range" p) [a, b] [] pos) (tI G W (evI L (.rng [m, n]))) :=
  (pi_range2 hg hm ha hs hs2).imp fun σ H RC h => by
    obtain ⟨w, ρ, R, g⟩ := h
    rw [evI] at g
    refine ⟨w, ρ, R, g.bind.mono fun ds ρ1 w1 H1 eo e1 R1 q vs hvs => ?_⟩
    split at q
    · exact absurd (evs_len eo) (by simp)
    · cases hvs with
      | cons r1 r2 =>
        cases r2 with
        | cons r3 r4 =>
          cases r4
          obtain rfl := Rep.inv_int r1
          obtain rfl := Rep.inv_int r3
          split at q
          · rename_i c
            simp only [rngOk, Bool.and_eq_true, decide_eq_true_eq] at c
            exact ⟨_, _, rfl, ⟨c.1.1, c.1.2, c.2.1, c.2.2⟩, q.here R1 _ .non (.inl rfl) (wk_range rfl)⟩
          · exact q.elim
    · exact absurd (evs_len eo) (by simp)
    · exact q.elim
theorem wk_down {lo hi : Int} {P : Wd → SS → Prop} : Wk G (Itc lo (-1) (lo - hi).toNat) (rngD lo hi) P where
  stop := fun w ρ σ H R p => by show (lo - hi).toNat ≤ _; simp [rngD]
  go := fun i d w ρ σ H R p hd => by
    have hi' : i < (lo - hi).toNat := by have := (List.getElem?_eq_some_iff.mp hd).1; simpa [rngD] using this
    refine ⟨hi', fun x H' y => ?_⟩
    obtain ⟨rfl, rfl⟩ := y
    simp [rngD, hi'] at hd
    subst hd
    have e : lo + (i : Int) * -1 = lo - i := by omega
    rw [e]
    exact ⟨w, Ext.refl _, R, .int _⟩
theorem si_rng3 {tg a b c : Expr} {m n o : ME} {p : Pos} (hg : Gl X "range") (hm : X.mg "range" = none) (hs : starEach [a, b, c] X.env = (false, eval a X.env) :: starEach [b, c] X.env) (hpl : (backTo pos (starEach [b, c] X.env)).any (·.1) = false) (ha : PA X [a, b, c] (tA G W (evs L [m, n, o]))) : PI X tg (.Call (.Name "range" p) [a, b, c] [] pos) (tI G W (evI L (.rng [m, n, o]))) :=
  (pi_range3 hg hm ha hs hpl).imp fun σ H RC h => by
    obtain ⟨w, ρ, R, g⟩ := h
    rw [evI] at g
    refine ⟨w, ρ, R, g.bind.mono fun ds ρ1 w1 H1 eo e1 R1 q vs hvs => ?_⟩
    split at q
    · exact absurd (evs_len eo) (by simp)
    · exact absurd (evs_len eo) (by simp)
    · cases hvs with
      | cons r1 t =>
        cases t with
        | cons r2 t =>
          cases t with
          | cons r3 t =>
            cases t
            obtain rfl := Rep.inv_int r1
            obtain rfl := Rep.inv_int r2
            obtain rfl := Rep.inv_int r3
            split at q
            · rename_i c
              simp only [rngOk, Bool.and_eq_true, decide_eq_true_eq, beq_iff_eq] at c
              obtain ⟨⟨⟨c1, c2⟩, c3, c4⟩, rfl⟩ := c
              exact ⟨_, _, _, _, rfl, RgC.neg c1 c2 c3 c4, q.here R1 _ .non (.inl rfl) wk_down⟩
            · exact q.elim
    · exact q.elim
theorem enumL_get : ∀ {ys : List Dt} {n i : Nat}, (enumL n ys)[i]? = (ys[i]?).map fun d => .tup [.int ((n + i : Nat) : Int), d]
  | [], n, i => by simp [enumL]
  | y :: r, n, 0 => by simp [enumL]
  | y :: r, n, i + 1 => by
    rw [enumL, List.getElem?_cons_succ, List.getElem?_cons_succ, enumL_get]
    congr 1
    funext d
    have : n + 1 + i = n + (i + 1) := by omega
    rw [this]
theorem enumL_length : ∀ {ys : List Dt} {n : Nat}, (enumL n ys).length = ys.length
  | [], n => rfl
  | y :: r, n => by simp [enumL, enumL_length]
theorem wk_enum {a : Addr} (hn : ∀ xs, r ≠ .v (.tup xs)) (h0 : r ≠ .v .non) : Wk G (Ite G.K a) (enumL 0 ys) (fun w ρ => SrcOk G w ρ r (.ref a) ys) where
  stop := fun w ρ σ H R p => by
    obtain ⟨b, vs, e, hs, rl⟩ := (p.resolve_left h0).readL R hn
    cases e
    exact ⟨vs, hs, by rw [rl.length, enumL_length]; exact Nat.le_refl _⟩
  go := fun i d w ρ σ H R p hd => by
    obtain ⟨b, vs, e, hs, rl⟩ := (p.resolve_left h0).readL R hn
    cases e
    rw [enumL_get] at hd
    simp only [Option.map_eq_some_iff] at hd
    obtain ⟨d', hd, rfl⟩ := hd
    obtain ⟨v, ev, rv⟩ := rl.get hd
    refine ⟨⟨vs, v, hs, ev⟩, fun x H' y => ?_⟩
    obtain ⟨T, x', rfl, hT, rfl, y⟩ := y
    have := y vs hs
    rw [ev] at this; cases this
    obtain ⟨e, R', eF⟩ := R.newF (o := .tup [.int (i : Nat), v]) hT
    refine ⟨_, e, R', .tup (SqT.of eF) (.cons ?_ (.cons (rv.mono e.F e.A) .nil))⟩
    rw [Nat.zero_add]; exact .int _
theorem wk_enumT {a : Addr} : Wk G (IteT G.K a) (enumL 0 ys) (fun w ρ => SrcOk G w ρ (.v (.tup ys)) (.ref a) ys) where
  stop := fun w ρ σ H R p => by
    obtain ⟨b, vs, e, hs, rl⟩ := Rep.inv_tup (p.resolve_left (fun z => by cases z)).1
    cases e
    exact ⟨vs, sqt_mono R.subF hs, by rw [rl.length, enumL_length]; exact Nat.le_refl _⟩
  go := fun i d w ρ σ H R p hd => by
    obtain ⟨b, vs, e, hs, rl⟩ := Rep.inv_tup (p.resolve_left (fun z => by cases z)).1
    cases e
    rw [enumL_get] at hd
    simp only [Option.map_eq_some_iff] at hd
    obtain ⟨d', hd, rfl⟩ := hd
    obtain ⟨v, ev, rv⟩ := rl.get hd
    refine ⟨⟨vs, v, sqt_mono R.subF hs, ev⟩, fun x H' y => ?_⟩
    obtain ⟨T, x', rfl, hT, rfl, y⟩ := y
    have := y vs (sqt_mono R.subF hs)
    rw [ev] at this; cases this
    obtain ⟨e, R', eF⟩ := R.newF (o := .tup [.int (i : Nat), v]) hT
    refine ⟨_, e, R', .tup (SqT.of eF) (.cons ?_ (.cons (rv.mono e.F e.A) .nil))⟩
    rw [Nat.zero_add]; exact .int _
theorem enum_here {xs : List Dt} {RC : It → Hp → Prop} (R : Rel G w ρ σ H) (hv : RR G w ρ σ H r v) (er : rds ρ r = some xs)
    (q : ∀ J v, (r = .v .non ∨ (RR G w ρ σ H r v ∧ rds ρ r = some xs)) → Wk G J (enumL 0 xs) (fun w ρ => SrcOk G w ρ r v xs) → RC J H) : ∃ a vs, [v] = [.ref a] ∧ ((SqL G.K H a vs ∧ RC (Ite G.K a) H) ∨ (SqT G.K H a vs ∧ RC (IteT G.K a) H)) := by
  by_cases ht : ∃ zs, r = .v (.tup zs)
  · obtain ⟨zs, rfl⟩ := ht
    simp only [rds, Option.some.injEq] at er
    subst er
    obtain ⟨a, vs, rfl, hs, rl⟩ := Rep.inv_tup hv
    exact ⟨a, vs, rfl, .inr ⟨sqt_mono R.subF hs, q _ _ (.inr ⟨hv, rfl⟩) wk_enumT⟩⟩
  · have el : rdl ρ r = some xs := by
      cases r with
      | nl ys => exact er
      | bw i => exact er
      | v d => cases d <;> first | exact er | exact absurd ⟨_, rfl⟩ ht
    obtain ⟨a, vs, rfl, hs, rl⟩ := rdl_ok R hv el
    exact ⟨a, vs, rfl, .inl ⟨hs, q _ _ (.inr ⟨hv, er⟩) (wk_enum (fun xs z => ht ⟨xs, z⟩) fun z => by rw [z] at er; simp [rds, rdl, rdt] at er)⟩⟩
theorem si_enum {e : Expr} {fz : Bool} {m : ME} {p tpos : Pos} {elts : List Expr} {kk : Nat} (hK : X.K = G.K) (hg : Gl X "enumerate") (hm : X.mg "enumerate" = none) (hs : starEach [e] X.env = [(false, eval e X.env)]) (he : PE X e (tE G W (ev L m))) :
    PI X (.Tuple elts kk tpos) (.Call (.Name "enumerate" p) [e] [] pos) (tI G W (evI L (.enum fz m))) :=
  (pi_enumA hg hm (pa_cons he pa_nil hs) hs).imp fun σ H RC h => by
    rw [hK]
    obtain ⟨w, ρ, R, g⟩ := h
    rw [evI] at g
    refine ⟨w, ρ, R, g.bind.mono fun r ρ1 w1 H1 _ e1 R1 q v hv => ?_⟩
    cases fz with
    | true =>
      rw [if_pos rfl] at q
      obtain ⟨d, ρ2, w2, ev2, e2, R2, rep, q2⟩ := val_ok R1 hv q.bind
      cases er : rds ρ2 (.v d) with
      | none => rw [er] at q2; exact q2.elim
      | some xs => rw [er] at q2; exact enum_here R2 (r := .v d) rep er fun J v h k => q2.here R2 J v h (k.weak fun _ _ p => p.2)
    | false =>
      rw [if_neg Bool.false_ne_true] at q
      cases er : rds ρ1 r with
      | none => rw [er] at q; exact q.elim
      | some xs => rw [er] at q; exact enum_here R1 hv er fun J v h k => q.here R1 J v h (k.weak fun _ _ p => p.2)
/-! ### zip -/
theorem wk_zipL {w0 : Wd} {a b : Addr} {vs us : List V} {xs ys : List Dt} {P : Wd → SS → Prop} (hP : ∀ w ρ, P w ρ → Same w0.F w.F ∧ Ax w0.A w.A) (h1 : w0.F a = some (.lst vs)) (h2 : w0.F b = some (.lst us)) (r1 : RepL G w0.F w0.A vs xs) (r2 : RepL G w0.F w0.A us ys) : Wk G (Itz G.K a b) ((xs.zip ys).map fun p => .tup [p.1, p.2]) P where
  stop := fun w ρ σ H R p => ⟨vs, us, SqL.of (R.subF _ _ ((hP _ _ p).1 _ _ h1)), SqL.of (R.subF _ _ ((hP _ _ p).1 _ _ h2)), by
    rw [List.length_map, List.length_zip, r1.length, r2.length]; omega⟩
  go := fun i d w ρ σ H R p hd => by
    obtain ⟨s, k⟩ := hP _ _ p
    simp only [List.getElem?_map, Option.map_eq_some_iff, List.getElem?_zip_eq_some] at hd
    obtain ⟨⟨d1, d2⟩, ⟨g1, g2⟩, rfl⟩ := hd
    obtain ⟨v1, e1, q1⟩ := (r1.mono s k).get g1
    obtain ⟨v2, e2, q2⟩ := (r2.mono s k).get g2
    have l1 := SqL.of (K := G.K) (R.subF _ _ (s _ _ h1))
    have l2 := SqL.of (K := G.K) (R.subF _ _ (s _ _ h2))
    refine ⟨⟨vs, us, v1, v2, l1, l2, e1, e2⟩, fun x H' y => ?_⟩
    obtain ⟨T, x', y', rfl, hT, rfl, z1, z2⟩ := y
    have z1 := z1 vs l1
    have z2 := z2 us l2
    rw [e1] at z1; cases z1
    rw [e2] at z2; cases z2
    obtain ⟨e, R', eF⟩ := R.newF (o := .tup [v1, v2]) hT
    exact ⟨_, e, R', .tup (SqT.of eF) (.cons (q1.mono e.F e.A) (.cons (q2.mono e.F e.A) .nil))⟩
theorem wk_zipT {w0 : Wd} {a b : Addr} {vs us : List V} {xs ys : List Dt} {P : Wd → SS → Prop} (hP : ∀ w ρ, P w ρ → Same w0.F w.F ∧ Ax w0.A w.A) (h1 : SqT G.K w0.F a vs) (h2 : SqT G.K w0.F b us) (r1 : RepL G w0.F w0.A vs xs) (r2 : RepL G w0.F w0.A us ys) : Wk G (RZ.ItzT G.K a b) ((xs.zip ys).map fun p => .tup [p.1, p.2]) P where
  stop := fun w ρ σ H R p => ⟨vs, us, sqt_mono ((hP _ _ p).1.trans R.subF) h1, sqt_mono ((hP _ _ p).1.trans R.subF) h2, by
    rw [List.length_map, List.length_zip, r1.length, r2.length]; omega⟩
  go := fun i d w ρ σ H R p hd => by
    obtain ⟨s, k⟩ := hP _ _ p
    simp only [List.getElem?_map, Option.map_eq_some_iff, List.getElem?_zip_eq_some] at hd
    obtain ⟨⟨d1, d2⟩, ⟨g1, g2⟩, rfl⟩ := hd
    obtain ⟨v1, e1, q1⟩ := (r1.mono s k).get g1
    obtain ⟨v2, e2, q2⟩ := (r2.mono s k).get g2
    have l1 := sqt_mono (s.trans R.subF) h1
    have l2 := sqt_mono (s.trans R.subF) h2
    refine ⟨⟨vs, us, v1, v2, l1, l2, e1, e2⟩, fun x H' y => ?_⟩
    obtain ⟨T, x', y', rfl, hT, rfl, z1, z2⟩ := y
    have z1 := z1 vs l1
    have z2 := z2 us l2
    rw [e1] at z1; cases z1
    rw [e2] at z2; cases z2
    obtain ⟨e, R', eF⟩ := R.newF (o := .tup [v1, v2]) hT
    exact ⟨_, e, R', .tup (SqT.of eF) (.cons (q1.mono e.F e.A) (.cons (q2.mono e.F e.A) .nil))⟩
theorem si_zip {e e2 : Expr} {m n : ME} {p tpos : Pos} {elts : List Expr} {kk : Nat} (hK : X.K = G.K) (hg : Gl X "zip") (hm : X.mg "zip" = none) (ha : PA X [e, e2] (tA G W (evs L [m, n])))
    (hs : starEach [e, e2] X.env = (false, eval e X.env) :: starEach [e2] X.env) (hpl : (backTo pos (starEach [e2] X.env)).any (·.1) = false) :
    PI X (.Tuple elts kk tpos) (.Call (.Name "zip" p) [e, e2] [] pos) (tI G W (evI L (.zip [m, n]))) :=
  (RZ.pi_zipA hg hm ha hs hpl).imp fun σ H RC h => by
    rw [hK]
    obtain ⟨w, ρ, R, g⟩ := h
    rw [evI] at g
    refine ⟨w, ρ, R, g.bind.mono fun ds ρ1 w1 H1 _ e1 R1 q vs hvs => ?_⟩
    split at q
    · cases hvs with
      | cons r1 t =>
        cases t with
        | cons r2 t =>
          cases t
          obtain ⟨a, vs, rfl, h1, r1⟩ := Rep.inv_lst r1
          obtain ⟨b, us, rfl, h2, r2⟩ := Rep.inv_lst r2
          exact ⟨a, b, vs, us, rfl, .inl ⟨SqL.of (R1.subF _ _ h1), SqL.of (R1.subF _ _ h2), q.here R1 _ .non (.inl rfl) (wk_zipL (fun _ _ p => p.1) h1 h2 r1 r2)⟩⟩
    · cases hvs with
      | cons r1 t =>
        cases t with
        | cons r2 t =>
          cases t
          obtain ⟨a, vs, rfl, h1, r1⟩ := Rep.inv_tup r1
          obtain ⟨b, us, rfl, h2, r2⟩ := Rep.inv_tup r2
          exact ⟨a, b, vs, us, rfl, .inr ⟨sqt_mono R1.subF h1, sqt_mono R1.subF h2, q.here R1 _ .non (.inl rfl) (wk_zipT (fun _ _ p => p.1) h1 h2 r1 r2)⟩⟩
    · exact q.elim
end
end Mq

/-! MqComp: list comprehensions. -/
namespace Mq
open PySem L2
/-- nothing is raised -/
def WF : WX := fun _ _ _ _ => False
section
variable {G : Gx} {W : WX} {w w1 w2 w' : Wd} {ρ ρ' ρ1 : SS} {σ σ' : L2.St} {H H1 : Hp} {X : Cx} {pos : Pos} {L : Fns} {r : RV} {v : V} {ys : List Dt}
theorem wipeS_st : ∀ (own : List Nat) (s : SS), (wipeS own s).st = s.st
  | [], s => rfl
  | i :: r, s => by show (wipeS r s).st = s.st; exact wipeS_st r s
theorem wipeS_len : ∀ (own : List Nat) (s : SS), (wipeS own s).sl.length = s.sl.length
  | [], s => rfl
  | i :: r, s => by show ((wipeS r s).sl.set i .un).length = _; rw [List.length_set]; exact wipeS_len r s
theorem wipeS_out : ∀ {own : List Nat} {s : SS} {j : Nat}, j ∉ own → (wipeS own s).sl[j]? = s.sl[j]?
  | [], s, j, _ => rfl
  | i :: r, s, j, h => by
    rw [List.mem_cons, not_or] at h
    show ((wipeS r s).sl.set i .un)[j]? = _
    rw [List.getElem?_set_ne (Ne.symm h.1)]; exact wipeS_out h.2
theorem wipeS_in : ∀ {own : List Nat} {s : SS} {j : Nat} {x : Sl}, j ∈ own → (wipeS own s).sl[j]? = some x → x = .un
  | i :: r, s, j, x, h, e => by
    have e : ((wipeS r s).sl.set i .un)[j]? = some x := e
    rcases set_cases e with ⟨_, z⟩ | ⟨z, z'⟩
    · exact z
    · exact wipeS_in ((List.mem_cons.mp h).resolve_left z) z'
theorem backS_st (s0 : SS) : ∀ (own : List Nat) (s : SS), (backS s0 own s).st = s.st
  | [], s => rfl
  | i :: r, s => by show (backS s0 r s).st = s.st; exact backS_st s0 r s
theorem backS_len (s0 : SS) : ∀ (own : List Nat) (s : SS), (backS s0 own s).sl.length = s.sl.length
  | [], s => rfl
  | i :: r, s => by show ((backS s0 r s).sl.set i _).length = _; rw [List.length_set]; exact backS_len s0 r s
theorem backS_out {s0 : SS} : ∀ {own : List Nat} {s : SS} {j : Nat}, j ∉ own → (backS s0 own s).sl[j]? = s.sl[j]?
  | [], s, j, _ => rfl
  | i :: r, s, j, h => by
    rw [List.mem_cons, not_or] at h
    show ((backS s0 r s).sl.set i _)[j]? = _
    rw [List.getElem?_set_ne (Ne.symm h.1)]; exact backS_out h.2
theorem backS_in {s0 : SS} : ∀ {own : List Nat} {s : SS} {j : Nat} {x : Sl}, j ∈ own → (backS s0 own s).sl[j]? = some x → x = s0.sl.getD j .un
  | i :: r, s, j, x, h, e => by
    have e : ((backS s0 r s).sl.set i (s0.sl.getD i .un))[j]? = some x := e
    rcases set_cases e with ⟨y, z⟩ | ⟨z, z'⟩
    · rw [y]; exact z
    · exact backS_in ((List.mem_cons.mp h).resolve_left z) z'
theorem wipe_out {σ : L2.St} : ∀ {vs : List Nat} {j : Nat}, j ∉ vs → (wipe σ vs)[j]? = σ[j]?
  | [], j, _ => rfl
  | i :: r, j, h => by
    rw [List.mem_cons, not_or] at h
    show ((wipe σ r).set i none)[j]? = _
    rw [List.getElem?_set_ne (Ne.symm h.1)]; exact wipe_out h.2
theorem wipe_in {σ : L2.St} : ∀ {vs : List Nat} {j : Nat}, j ∈ vs → (wipe σ vs)[j]? = if j < σ.length then some none else none
  | i :: r, j, h => by
    show ((wipe σ r).set i none)[j]? = _
    by_cases q : j = i
    · subst q
      by_cases hj : j < σ.length
      · rw [List.getElem?_set_self (by rw [wipe_length]; exact hj), if_pos hj]
      · rw [if_neg hj, List.getElem?_eq_none (by rw [List.length_set, wipe_length]; omega)]
    · rw [List.getElem?_set_ne (Ne.symm q)]; exact wipe_in ((List.mem_cons.mp h).resolve_left q)
theorem Rel.wiped (R : Rel G w ρ σ H) (own : List Nat) : Rel G w (wipeS own ρ) (wipe σ own) H := by
  have oo : ∀ j q, OwnAt (wipeS own ρ) (wipe σ own) j q → OwnAt ρ σ j q := fun j q ⟨e, x, ex, ho⟩ => by
    by_cases m : j ∈ own
    · have := wipeS_in m ex; subst this; simp [isOwn] at ho
    · rw [wipeS_out m] at ex; rw [wipe_out m] at e; exact ⟨e, x, ex, ho⟩
  exact {
    toWok := by rw [wipeS_st]; exact R.toWok
    len := by rw [wipeS_len, wipe_length]; exact R.len
    sl := fun j x e => by
      by_cases m : j ∈ own
      · have := wipeS_in m e; subst this; trivial
      · rw [wipeS_out m] at e; rw [wipe_out m]; exact R.sl j x e
    own := fun j q h => R.own j q (oo j q h)
    ownN := fun j j' q h h' => R.ownN j j' q (oo j q h) (oo j' q h')
    lT := R.lT }
theorem Free.wiped {p : Addr} (f : Free w ρ σ p) (own : List Nat) : Free w (wipeS own ρ) (wipe σ own) p := ⟨f.F, f.T, f.A, fun j ⟨e, x, ex, ho⟩ => by
  by_cases m : j ∈ own
  · have := wipeS_in m ex; subst this; simp [isOwn] at ho
  · rw [wipeS_out m] at ex; rw [wipe_out m] at e; exact f.own j ⟨e, x, ex, ho⟩⟩
/-- behind the block -/
theorem Rel.backed {own : List Nat} (R1 : Rel G w1 ρ1 σ H1) (hw : wipeOk own ρ1 = true) (hF : Same w1.F w'.F) (hA : Ax w1.A w'.A) (R : Rel G w' (wipeS own ρ') (wipe σ own) H) :
    Rel G w' (backS ρ1 own ρ') σ H ∧ ∀ j p, OwnAt (backS ρ1 own ρ') σ j p → OwnAt (wipeS own ρ') (wipe σ own) j p := by
  have at_ : ∀ j x, j ∈ own → (backS ρ1 own ρ').sl[j]? = some x → x = .un ∨ ∃ d, x = .v d ∧ ρ1.sl[j]? = some (.v d) := fun j x m e => by
    have h := List.all_eq_true.mp hw j m
    have e := backS_in m e
    rw [List.getD_eq_getElem?_getD] at e
    split at h
    · rename_i z; rw [z] at e; exact .inl e
    · rename_i d z; rw [z] at e; exact .inr ⟨d, e, z⟩
    · cases h
  have oo : ∀ j q, OwnAt (backS ρ1 own ρ') σ j q → OwnAt (wipeS own ρ') (wipe σ own) j q := fun j q ⟨e, x, ex, ho⟩ => by
    by_cases m : j ∈ own
    · rcases at_ j x m ex with rfl | ⟨d, rfl, _⟩ <;> simp [isOwn] at ho
    · rw [backS_out m] at ex; exact ⟨by rw [wipe_out m]; exact e, x, by rw [wipeS_out m]; exact ex, ho⟩
  refine ⟨{
    toWok := by
      rw [backS_st]
      have := R.toWok
      rw [wipeS_st] at this; exact this
    len := by
      rw [backS_len]
      have := R.len
      rw [wipeS_len, wipe_length] at this; exact this
    sl := fun j x e => by
      by_cases m : j ∈ own
      · rcases at_ j x m e with rfl | ⟨d, rfl, z⟩
        · trivial
        · obtain ⟨v, e1, r⟩ := R1.sl j _ z
          exact ⟨v, e1, r.mono hF hA⟩
      · rw [backS_out m] at e
        have := R.sl j x (by rw [wipeS_out m]; exact e)
        rw [wipe_out m] at this; exact this
    own := fun j q h => R.own j q (oo j q h)
    ownN := fun j j' q h h' => R.ownN j j' q (oo j q h) (oo j' q h')
    lT := R.lT }, oo⟩
theorem unlock_own {j : Nat} {p : Addr} (h : OwnAt (unlock r ρ1 ρ') σ j p) : OwnAt ρ' σ j p ∨ OwnAt ρ1 σ j p := by
  cases r with
  | v d => exact .inl h
  | nl xs => exact .inl h
  | bw i =>
    simp only [unlock] at h
    split at h
    · rename_i zs ys e1 e2
      obtain ⟨e, x, ex, ho⟩ := h
      have ex : (ρ'.sl.set i (.ol ys))[j]? = some x := ex
      rcases set_cases ex with ⟨rfl, z⟩ | ⟨z, z'⟩
      · exact .inr ⟨e, _, e1, rfl⟩
      · exact .inl ⟨e, x, z', ho⟩
    · exact .inl h
/-- a list put beside, and taken back -/
theorem Rel.pinback {p : Addr} {vs : List V} (R : Rel G w ρ σ H) (f : w.T p = none) (e : Ext (w.pin p (.lst vs)) w2) (R2 : Rel G w2 ρ' σ' H1) : Ext w (w2.unp w) ∧ Rel G (w2.unp w) ρ' σ' H1 ∧ H1 p = some (.lst vs) ∧ Free (w2.unp w) ρ' σ' p := by
  have eT : w2.T = upd w.T p (.lst vs) := e.T
  have s : Same w.T w2.T := fun b u q => by rw [eT, upd_ne (ne_of_none q f)]; exact q
  have hp : w2.T p = some (.lst vs) := by rw [eT]; exact upd_same
  exact ⟨⟨e.F, e.A, rfl, rfl, rfl⟩, R2.less s e.L.symm e.M.symm R.lT, R2.subT _ _ hp, R2.freeT hp f⟩
theorem SrcOk.pin {p : Addr} {o : HO} (h : SrcOk G w ρ r v ys) (f : w.T p = none) : SrcOk G (w.pin p o) ρ r v ys := by
  refine h.imp id fun h => ?_
  have rest : (∃ p vs, v = .ref p ∧ (w.T p = some (.lst vs) ∨ w.F p = some (.lst vs)) ∧ RepL G w.F w.A vs ys) → ∃ q vs, v = .ref q ∧ ((w.pin p o).T q = some (.lst vs) ∨ w.F q = some (.lst vs)) ∧ RepL G w.F w.A vs ys := by
    rintro ⟨q, vs, e1, e2, rl⟩
    refine ⟨q, vs, e1, e2.imp (fun e2 => ?_) id, rl⟩
    show upd w.T p o q = _
    rw [upd_ne (ne_of_none e2 f)]; exact e2
  cases r with
  | nl xs => exact rest h
  | bw i => exact rest h
  | v d => cases d <;> exact h
theorem SrcOk.st (h : SrcOk G w ρ r v ys) (e : ρ'.st = ρ.st) : SrcOk G w ρ' r v ys := by
  refine h.imp id fun h => ?_
  cases r with
  | nl xs => exact h
  | bw i => exact h
  | v d =>
    cases d with
    | ref n => obtain ⟨a, e1, e2, e3⟩ := h; exact ⟨a, e1, e2, by rw [e]; exact e3⟩
    | _ => exact h
theorem chk_st (e : ρ'.st = ρ.st) : chk ys r ρ' = chk ys r ρ := by
  cases r with
  | nl xs => rfl
  | bw i => rfl
  | v d => cases d <;> first | rfl | (unfold chk; simp only [e])
theorem bindT_ex : ∀ (t : Tg) (d : Dt) (s s' : SS) (c : Nat) (fs : List Dt), bindT t d s ≠ .ex c fs s'
  | .n i, d, s, s', c, fs => by rw [bindT]; simp
  | .t ts, d, s, s', c, fs => by
    have ih : ∀ (ts : List Tg) (ds : List Dt) (s : SS), (∀ t, t ∈ ts → ∀ d s, bindT t d s ≠ .ex c fs s') → bindTs ts ds s ≠ .ex c fs s' := by
      intro ts
      induction ts with
      | nil => intro ds s _; cases ds <;> simp [bindTs]
      | cons t ts ih =>
        intro ds s h
        cases ds with
        | nil => simp [bindTs]
        | cons d ds =>
          rw [bindTs]
          cases q : bindT t d s with
          | no => simp [Out.bind]
          | ok u s1 => exact ih ds s1 fun t m => h t (List.mem_cons_of_mem _ m)
          | ex c' fs' s1 =>
            intro z
            cases z
            exact h t (List.mem_cons_self ..) d s q
    cases d with
    | tup xs => rw [bindT]; exact ih ts xs s fun t m d s => bindT_ex t d s s' c fs
    | _ => simp [bindT]
/-- outcomes taken apart -/
theorem bind_ok {s a b : Type} {x : Out s a} {f : a → s → Out s b} {y : b} {t : s} (h : x.bind f = .ok y t) : ∃ z u, x = .ok z u ∧ f z u = .ok y t := by
  cases x with
  | no => cases h
  | ex c fs u => cases h
  | ok z u => exact ⟨z, u, rfl, h⟩
theorem noex_ok {s a : Type} {x : Out s a} {y : a} {t : s} (h : x.noex = .ok y t) : x = .ok y t := by
  cases x with
  | no => cases h
  | ex c fs u => cases h
  | ok z u => exact h
theorem lcLoop_ex {ck : SS → Bool} {t : Tg} {own : List Nat} {c : SS → Out SS Bool} {e : SS → Out SS Dt} {n : Nat} {fs : List Dt} {s' : SS} : ∀ (xs acc : List Dt) (s : SS), lcLoop ck (fun s x => bindT t x s) own (fun s => (c s).noex) (fun s => (e s).noex) xs acc s ≠ .ex n fs s'
  | [], acc, s => by rw [lcLoop]; simp
  | x :: xs, acc, s => by
    rw [lcLoop]
    cases q : bindT t x (wipeS own s) with
    | no => simp [Out.bind]
    | ex c' fs' u => exact absurd q (bindT_ex _ _ _ _ _ _)
    | ok z u =>
      show ((c u).noex).bind _ ≠ _
      cases q2 : c u with
      | no => simp [Out.bind, Out.noex]
      | ex c' fs' u => simp [Out.bind, Out.noex]
      | ok b u2 =>
        show (if b = true then ((e u2).noex).bind _ else _) ≠ _
        cases b with
        | false =>
          rw [if_neg Bool.false_ne_true]
          split
          · exact lcLoop_ex xs acc u2
          · simp
        | true =>
          rw [if_pos rfl]
          cases q3 : e u2 with
          | no => simp [Out.bind, Out.noex]
          | ex c' fs' u => simp [Out.bind, Out.noex]
          | ok d u3 =>
            show (if _ then _ else _) ≠ _
            split
            · exact lcLoop_ex xs _ u3
            · simp
/-- a clause's test -/
def cndM (L : Fns) (cond : Option ME) : SS → Out SS Bool := fun s => match cond with | none => .ok true s | some c => ((ev L c s).bind asB).noex
theorem go_noex {a : Type} {o : Out SS a} {k : a → SS → Wd → Hp → Prop} (g : Go G WF w σ o.noex k) : Go G WF w σ o k := by
  cases o with
  | no => exact g
  | ex c fs s => exact g.elim
  | ok x s => exact g
theorem sts_nil : PTs X [] (tT G WF (cndM L none)) := ⟨fun pins s σ H Q I h => by
  obtain ⟨w, ρ, R, g⟩ := h
  exact pts_nil.run pins s σ H Q I (g.here R)⟩
theorem sts_one {c : Expr} {m : ME} (h : PT X c (tT G WF (tst (ev L m)))) : PTs X [c] (tT G WF (cndM L (some m))) := pts_one (h.imp fun σ H Q h => by
  obtain ⟨w, ρ, R, g⟩ := h
  exact ⟨w, ρ, R, go_noex g⟩)
theorem fix_ok {a : Type} {f : SS → SS} {o : Out SS a} {k : a → SS → Wd → Hp → Prop} (g : Go G W w σ (o.fix f) k) (hx : ∀ c fs s, o ≠ .ex c fs s) : ∃ x s, o = .ok x s ∧ Go G W w σ (.ok x (f s)) k := by
  cases o with
  | no => exact g.elim
  | ex c fs s => exact absurd rfl (hx c fs s)
  | ok x s => exact ⟨x, s, rfl, g⟩
theorem lc_red (e : Option ME) : cndM L e = fun s => (cndM L e s).noex := by
  funext s
  cases e with
  | none => rfl
  | some c =>
    show ((ev L c s).bind asB).noex = (((ev L c s).bind asB).noex).noex
    cases (ev L c s).bind asB <;> rfl
theorem lc_ev {me : ME} {t : Tg} {src : MI} {cond : Option ME} {os : List Nat} {s : SS} : ev L (.lc me t src cond os) s = (evI L src s).bind fun iv s => if wipeOk os s then
      ((lcLoop (chk iv.ys iv.src) (fun s x => bindT t x s) os (fun s => (cndM L cond s).noex) (fun s => ((ev L me s).bind val).noex) iv.xs [] (lock iv.src s)).fix fun s' => unlock iv.src s (backS s os s')).bind fun acc s => .ok (.nl acc) s
    else .no := by
  rw [← lc_red, ev]
  cases cond <;> rfl
/-- the source of a walk put beside -/
theorem protectS (R : Rel G w ρ σ H) (h : r = .v .non ∨ (RR G w ρ σ H r v ∧ rds ρ r = some ys)) :
    ∃ w1, Rel G w1 (lock r ρ) σ H ∧ w1.F = w.F ∧ w1.A = w.A ∧ SrcOk G w1 (lock r ρ) r v ys ∧ Exit G w w1 ρ r := by
  rcases h with rfl | ⟨h1, h2⟩
  · exact ⟨w, R, rfl, rfl, .inl rfl, Exit.same fun _ => rfl⟩
  · obtain ⟨w1, a, b, c, d, e⟩ := protect R h1 h2
    exact ⟨w1, a, b, c, .inr d, e⟩
/-- the turns of a comprehension -/
structure LcT (G : Gx) (w0 : Wd) (r : RV) (v : V) (ys xs : List Dt) (lp : List Dt → List Dt → SS → Out SS (List Dt)) (own : List Nat) (σ : L2.St) (D : Addr) (accF : List Dt) (ρF : SS) (i : Nat) (H : Hp) : Prop where
  ex : ∃ w ρ vs acc, Ext w0 w ∧ Rel G w (wipeS own ρ) (wipe σ own) H ∧ Free w (wipeS own ρ) (wipe σ own) D ∧ H D = some (.lst vs) ∧ RepL G w.F w.A vs acc ∧ SrcOk G w ρ r v ys ∧ lp (xs.drop i) acc ρ = .ok accF ρF
theorem lc_imp {own : List (Str × Nat)} {me : ME} {t : Tg} {src : MI} {cond : Option ME} {Q : VK} (ht : tslots t ⊆ own.map (·.2)) (h : tE G W (ev L (.lc me t src cond (own.map (·.2)))) σ H Q) :
    tLc (tI G W (evI L src)) (tgR G t) (tT G WF (cndM L cond)) (tE G WF (ev L me)) (own.map (·.2)) σ H Q := by
  obtain ⟨w, ρ, R, g⟩ := h
  rw [lc_ev] at g
  refine ⟨w, ρ, R, g.bind.mono fun iv ρ1 w1 H1 _ e1 R1 q J v hsrc wk D hD => ?_⟩
  generalize hown : own.map (·.2) = os at *
  split at q
  · rename_i hw
    have q := q.bind
    obtain ⟨accF, ρF, eF, q⟩ := fix_ok q fun c fs s => lcLoop_ex _ _ _
    obtain ⟨w2, R2, eF2, eA2, so, ex⟩ := protectS R1 hsrc
    refine ⟨fun i m H => m = iv.xs.length - i ∧ i ≤ iv.xs.length ∧ LcT G w2 iv.src v iv.ys iv.xs (lcLoop (chk iv.ys iv.src) (fun s x => bindT t x s) os (fun s => (cndM L cond s).noex) (fun s => ((ev L me s).bind val).noex)) os σ D accF ρF i H, ⟨_, rfl, Nat.zero_le _, ?_⟩, ?_⟩
    · have f2 : Free w2 (lock iv.src ρ1) σ D := R2.fresh hD
      exact ⟨w2, lock iv.src ρ1, [], [], Ext.refl _, (R2.out f2).wiped os, f2.wiped os, upd_same, .nil, so, eF⟩
    · rintro i m H2 ⟨rfl, hile, T⟩
      obtain ⟨w3, ρ3, vs, acc, e3, R3, f3, hD3, rl, so3, eL⟩ := T.ex
      have so3w : SrcOk G w3 (wipeS os ρ3) iv.src v iv.ys := so3.st (wipeS_st os ρ3)
      by_cases hlt : i < iv.xs.length
      · right
        obtain ⟨d, ed⟩ : ∃ d, iv.xs[i]? = some d := ⟨_, List.getElem?_eq_getElem hlt⟩
        have edr : iv.xs.drop i = d :: iv.xs.drop (i + 1) := by
          rw [List.drop_eq_getElem_cons hlt]
          rw [List.getElem?_eq_getElem hlt] at ed; cases ed; rfl
        rw [edr, lcLoop] at eL
        obtain ⟨_, s1, eb, eL⟩ := bind_ok eL
        obtain ⟨b, s2, ec, eL⟩ := bind_ok eL
        have ec := noex_ok ec
        have Rp := R3.pinned f3 hD3
        have sop : SrcOk G (w3.pin D (.lst vs)) (wipeS os ρ3) iv.src v iv.ys := so3w.pin f3.T
        obtain ⟨go, yl⟩ := wk.go i d _ _ _ _ Rp ⟨⟨by rw [← eF2]; exact e3.F, by rw [← eA2]; exact e3.A⟩, sop⟩ ed
        refine ⟨go, fun H' => LcT G w2 iv.src v iv.ys iv.xs (lcLoop (chk iv.ys iv.src) (fun s x => bindT t x s) os (fun s => (cndM L cond s).noex) (fun s => ((ev L me s).bind val).noex)) os σ D accF ρF (i + 1) H', fun H' T' => ⟨_, by omega, rfl, hlt, T'⟩, fun x H' y => ?_⟩
        obtain ⟨w4, e4, R4, rep⟩ := yl x H' y
        refine ⟨w4, wipeS os ρ3, d, s1, R4, rep, eb, fun σ2 R5 ag => ⟨?_, ?_⟩⟩
        · refine List.ext_getElem? fun j => ?_
          by_cases mj : j ∈ os
          · rw [wipe_in mj, wipe_in mj, ag.1, wipe_length]
          · rw [wipe_out mj, wipe_out mj, ag.2 j (fun z => mj (ht z)), wipe_out mj]
        · have wσ : wipe σ2 os = wipe σ os := by
            refine List.ext_getElem? fun j => ?_
            by_cases mj : j ∈ os
            · rw [wipe_in mj, wipe_in mj, ag.1, wipe_length]
            · rw [wipe_out mj, wipe_out mj, ag.2 j (fun z => mj (ht z)), wipe_out mj]
          refine ⟨w4, s1, R5, ?_⟩
          rw [ec]
          intro H3 w5 e5 R6
          have e35 : Ext (w3.pin D (.lst vs)) w5 := e4.trans e5
          cases b with
          | false =>
            rw [if_neg Bool.false_ne_true] at eL
            show LcT _ _ _ _ _ _ _ _ _ _ _ _ _ _
            split at eL
            · rename_i hck
              obtain ⟨b1, b2, b3, b4⟩ := R3.pinback f3.T e35 R6
              have b2 := b2.wiped os
              have b4 := b4.wiped os
              rw [wσ] at b2 b4
              refine ⟨⟨_, s2, vs, acc, e3.trans b1, b2, b4, b3, rl.mono b1.F b1.A, so3.ext b1 hck, eL⟩⟩
            · cases eL
          | true =>
            rw [if_pos rfl] at eL
            show tE _ _ _ _ _ _
            obtain ⟨d', s3, ee, eL⟩ := bind_ok eL
            have ee := noex_ok ee
            obtain ⟨r', s4, ee, ev'⟩ := bind_ok ee
            split at eL
            · rename_i hck
              refine ⟨w5, s2, R6, ?_⟩
              rw [ee]
              intro H4 w6 e6 R7 v' hv'
              obtain ⟨d'', s5, w7, eq1, e7, R8, rep', _⟩ := val_ok (W := WF) (k := fun _ _ _ _ => True) R7 hv' (by rw [ev']; exact fun _ _ _ _ => trivial)
              rw [ev'] at eq1; cases eq1
              have e37 : Ext (w3.pin D (.lst vs)) w7 := e35.trans (e6.trans e7)
              obtain ⟨b1, b2, b3, b4⟩ := R3.pinback f3.T e37 R8
              refine ⟨vs, b3, by rw [rl.length]; exact hck.1, ⟨_, s3, vs ++ [v'], acc ++ [d'], e3.trans b1, ?_, ?_, upd_same, (rl.mono b1.F b1.A).append (.cons rep' .nil), so3.ext b1 hck.2, eL⟩⟩
              · have := (b2.out (o := .lst (vs ++ [v'])) b4).wiped os
                rw [wσ] at this; exact this
              · have := b4.wiped os
                rw [wσ] at this; exact this
            · cases eL
      · left
        have hi' : i = iv.xs.length := by omega
        subst hi'
        refine ⟨wk.stop _ _ _ _ R3 ⟨⟨by rw [← eF2]; exact e3.F, by rw [← eA2]; exact e3.A⟩, so3w⟩, ?_⟩
        rw [List.drop_length, lcLoop] at eL
        cases eL
        obtain ⟨R4, oo⟩ := R1.backed hw (w' := w3) (by rw [← eF2]; exact e3.F) (by rw [← eA2]; exact e3.A) R3
        obtain ⟨w4, e4, R5, z1, z2, z3⟩ := ex w3 _ _ _ e3 R4
        refine (q H2 w4 e4 R5).here R5 _ ⟨D, vs, rfl, hD3, by rw [z1, z2]; exact rl, ⟨by rw [z1]; exact f3.F, z3 D f3.T, by rw [z2]; exact f3.A, fun j h => ?_⟩⟩
        rcases unlock_own h with h | h
        · exact f3.own j (oo j D h)
        · obtain ⟨o, z⟩ := R1.inOwn h
          rw [hD] at z; cases z
  · exact q.elim
theorem sv_lc {elt tg iter : Expr} {ifs : List Expr} {scope : Scope} {own : List (Str × Nat)} {me : ME} {t : Tg} {src : MI} {cond : Option ME} (hc : X.calm = true) (hN : X.N.Nodup) (hi : PI X tg iter (tI G W (evI L src))) (ok : BlkOk X.N X.env.scope scope own)
    (ht : tslots t ⊆ own.map (·.2))
    (hg : ∀ (s : Shared) (H : Hp) (C : Addr) (cl : List (Str × Addr)) (fp : List Addr), PG (X.blk s H scope (compEnvC scope cl C X.env) fp) tg (tgR G t))
    (hcn : ∀ (s : Shared) (H : Hp) (C : Addr) (cl : List (Str × Addr)) (fp : List Addr), PTs (X.blk s H scope (compEnvC scope cl C X.env) fp) ifs (tT G WF (cndM L cond)))
    (he : ∀ (s : Shared) (H : Hp) (C : Addr) (cl : List (Str × Addr)) (fp : List Addr), PE (X.blk s H scope (compEnvC scope cl C X.env) fp) elt (tE G WF (ev L me))) (hs : ∀ x, foldedSetIterable iter X.env x = pure x) :
    PE X (.ListComp elt [⟨tg, iter, ifs, 0⟩] scope pos) (tE G W (ev L (.lc me t src cond (own.map (·.2))))) :=
  (pe_lc hc hN hi ok hg hcn he hs).imp fun σ H Q h => lc_imp ht h
end
end Mq

/-! MqStmt: statements. -/
namespace Mq
open PySem L2
/-- from the world w on: what holds behind a statement -/
def GoS (G : Gx) (W : WX) (w : Wd) (o : Out SS Fl) (D : Ends) : Prop := match o with
  | .ok f ρ' => ∀ (H' : Hp) (w' : Wd) (σ' : L2.St), Ext w w' → Rel G w' ρ' σ' H' → (match f with
    | .nx => D.nx σ' H'
    | .ct => D.ct σ' H'
    | .bk => D.bk σ' H'
    | .ret r => ∀ v, RF G w' H' r v → D.rt v H')
  | .ex c fs ρ' => ∀ (cls : Value) (d : Option Addr) (H' : Hp) (w' : Wd) (σ' : L2.St), Ext w w' → Rel G w' ρ' σ' H' → XR G w' cls d c fs → W cls d σ' H'
  | .no => False
def tS (G : Gx) (W : WX) (m : SS → Out SS Fl) : TS := fun D σ H => ∃ w ρ, Rel G w ρ σ H ∧ GoS G W w (m ρ) D
section
variable {G : Gx} {W : WX} {w w1 w2 w' : Wd} {ρ ρ' ρ1 : SS} {σ σ' : L2.St} {H H1 : Hp} {X : Cx} {pos : Pos} {L : Fns} {r : RV} {v : V} {ys : List Dt} {D : Ends}
theorem GoS.ext {o : Out SS Fl} (h : GoS G W w o D) (e : Ext w w') : GoS G W w' o D := by
  cases o with
  | no => exact h
  | ex c fs s => exact fun cls d H' w2 σ' e' R x => h cls d H' w2 σ' (e.trans e') R x
  | ok f s => exact fun H' w2 σ' e' R => h H' w2 σ' (e.trans e') R
theorem GoS.bind {a : Type} {x : Out SS a} {f : a → SS → Out SS Fl} (h : GoS G W w (x.bind f) D) : Go G W w σ x fun r ρ1 w1 _ => GoS G W w1 (f r ρ1) D := by
  cases x with
  | no => exact h
  | ex c fs s => exact fun cls d H' w' e R x => h cls d H' w' σ e R x
  | ok r s => exact fun H1 w1 e R => GoS.ext (show GoS G W w (f r s) D from h) e
theorem GoS.nx (h : GoS G W w (.ok .nx ρ) D) (e : Ext w w') (R : Rel G w' ρ σ H) : D.nx σ H := h H w' σ e R
/-- a statement ahead of others -/
theorem GoS.seq {o : Out SS Fl} {f : SS → Out SS Fl} (h : GoS G W w (o.bind fun g s => match g with | .nx => f s | g => .ok g s) D) {N : L2.St → Hp → Prop} (hN : ∀ ρ' σ' H' w', Ext w w' → Rel G w' ρ' σ' H' → GoS G W w' (f ρ') D → N σ' H') : GoS G W w o { D with nx := N } := by
  cases o with
  | no => exact h
  | ex c fs s => exact h
  | ok g s =>
    cases g with
    | nx => exact fun H' w' σ' e R => hN s σ' H' w' e R (GoS.ext (show GoS G W w (f s) D from h) e)
    | ret r => exact h
    | bk => exact h
    | ct => exact h
theorem ss_nil : PSs X [] (tS G W (execs L [])) := pss_nil.imp fun D σ H h => by
  obtain ⟨w, ρ, R, g⟩ := h
  rw [execs] at g
  exact g.nx (Ext.refl _) R
theorem ss_cons {st : Stmt} {sts : List Stmt} {m : MS} {ms : List MS} (h1 : PS X st (tS G W (exec L m))) (h2 : PSs X sts (tS G W (execs L ms))) : PSs X (st :: sts) (tS G W (execs L (m :: ms))) :=
  (pss_cons h1 h2).imp fun D σ H h => by
    obtain ⟨w, ρ, R, g⟩ := h
    rw [execs] at g
    refine ⟨w, ρ, R, g.seq fun ρ' σ' H' w' e R' q => ⟨w', ρ', R', q⟩⟩
theorem ss_pass : PS X (.Pass pos) (tS G W (exec L .pass)) := ps_pass.imp fun D σ H h => by
  obtain ⟨w, ρ, R, g⟩ := h; rw [exec] at g; exact g.nx (Ext.refl _) R
theorem ss_doc {x : Str} {j} {pos pos' : Pos} : PS X (.Expr (.Constant (.str x) j pos) pos') (tS G W (exec L .pass)) := ps_doc.imp fun D σ H h => by
  obtain ⟨w, ρ, R, g⟩ := h; rw [exec] at g; exact g.nx (Ext.refl _) R
theorem ss_brk : PS X (.Break pos) (tS G W (exec L .brk)) := ps_break.imp fun D σ H h => by
  obtain ⟨w, ρ, R, g⟩ := h; rw [exec] at g; exact g H w σ (Ext.refl _) R
theorem ss_cont : PS X (.Continue pos) (tS G W (exec L .cont)) := ps_continue.imp fun D σ H h => by
  obtain ⟨w, ρ, R, g⟩ := h; rw [exec] at g; exact g H w σ (Ext.refl _) R
theorem ss_nev {st : Stmt} : PS X st (tS G W (exec L .nev)) := ps_never.imp fun D σ H h => by
  obtain ⟨w, ρ, R, g⟩ := h; rw [exec] at g; exact g
theorem ss_retN : PS X (.Return none pos) (tS G W (exec L .retN)) := ps_retN.imp fun D σ H h => by
  obtain ⟨w, ρ, R, g⟩ := h; rw [exec] at g; exact g H w σ (Ext.refl _) R _ .non
theorem ss_expr {e : Expr} {m : ME} (hs : swapsWith e none pos.line X.env = pure false) (he : PE X e (tE G W (ev L m))) : PS X (.Expr e pos) (tS G W (exec L (.expr m))) := (ps_expr he hs).imp fun D σ H h => by
  obtain ⟨w, ρ, R, g⟩ := h
  rw [exec] at g
  exact ⟨w, ρ, R, g.bind.mono fun r ρ1 w1 H1 _ e1 R1 q v hv => q.nx (Ext.refl _) R1⟩
theorem toRet_ok (R : Rel G w ρ σ H) (h : RR G w ρ σ H r v) {f : RV → SS → Out SS Fl} (g : GoS G W w ((toRet r ρ).bind f) D) : ∃ r', RF G w H r' v ∧ GoS G W w (f r' ρ) D := by
  cases r with
  | v d => exact ⟨.v d, h, g⟩
  | nl xs => obtain ⟨p, vs, e1, e2, rl, fr⟩ := h; exact ⟨.nl xs, ⟨p, vs, e1, e2, rl, fr.F, fr.T, fr.A⟩, g⟩
  | bw i =>
    simp only [toRet] at g
    have hv : σ[i]? = some (some v) := h
    split at g
    · rename_i xs e
      obtain ⟨p, vs, e1, e2, rl⟩ := R.sl i _ e
      rw [hv] at e1; cases e1
      obtain ⟨f1, f2, f3⟩ := R.own i p ⟨hv, _, e, rfl⟩
      exact ⟨.nl xs, ⟨p, vs, rfl, e2, rl, f1, f2, f3⟩, g⟩
    · rename_i xs e
      obtain ⟨v', e1, rl⟩ := R.sl i _ e
      rw [hv] at e1; cases e1
      exact ⟨.v (.lst xs), rl, g⟩
    · exact g.elim
theorem ss_ret {e : Expr} {m : ME} (he : PE X e (tE G W (ev L m))) : PS X (.Return (some e) pos) (tS G W (exec L (.ret m))) := (ps_ret he).imp fun D σ H h => by
  obtain ⟨w, ρ, R, g⟩ := h
  rw [exec] at g
  refine ⟨w, ρ, R, g.bind.mono fun r ρ1 w1 H1 _ e1 R1 q v hv => ?_⟩
  obtain ⟨r', rf, q⟩ := toRet_ok R1 hv q
  exact q H1 w1 σ (Ext.refl _) R1 v rf
theorem ss_if {c : Expr} {a b : List Stmt} {mc : ME} {ma mb : List MS} (hc : PT X c (tT G W (tst (ev L mc)))) (ha : PSs X a (tS G W (execs L ma))) (hb : PSs X b (tS G W (execs L mb))) : PS X (.If c a b pos) (tS G W (exec L (.ifs mc ma mb))) := (ps_if hc ha hb).imp fun D σ H h => by
  obtain ⟨w, ρ, R, g⟩ := h
  rw [exec] at g
  have g : GoS G W w ((tst (ev L mc) ρ).bind fun k s => if k then execs L ma s else execs L mb s) D := by
    unfold tst
    cases q : ev L mc ρ with
    | no => rw [q] at g; exact g
    | ex c fs s => rw [q] at g; exact g
    | ok x s => rw [q] at g; exact g
  refine ⟨w, ρ, R, g.bind.mono fun k ρ1 w1 H1 _ e1 R1 q => ?_⟩
  cases k with
  | true => exact ⟨w1, ρ1, R1, q⟩
  | false => exact ⟨w1, ρ1, R1, q⟩
/-! ### stores -/
theorem toSl_ok {i : Nat} {f : Sl → SS → Out SS Fl} (R : Rel G w ρ σ H) (h : RR G w ρ σ H r v) (g : GoS G W w ((toSl r ρ).bind f) D) :
    ∃ x ρ' w', Ext w w' ∧ Rel G w' ρ' σ H ∧ SlR G w' H i x (some (some v)) ∧ (isOwn x = true → ∃ p, v = .ref p ∧ Free w' ρ' σ p) ∧ GoS G W w' (f x ρ') D := by
  have dat : ∀ (g : GoS G W w (((val r ρ).bind fun d s => .ok (.v d) s).bind f) D), ∃ x ρ' w', Ext w w' ∧ Rel G w' ρ' σ H ∧ SlR G w' H i x (some (some v)) ∧ (isOwn x = true → ∃ p, v = .ref p ∧ Free w' ρ' σ p) ∧ GoS G W w' (f x ρ') D := fun g => by
    obtain ⟨d, ρ', w', _, e, R', rep, q⟩ := val_ok R h (g.bind (σ := σ)).bind
    exact ⟨.v d, ρ', w', e, R', ⟨v, rfl, rep⟩, fun z => by simp [isOwn] at z, q.here R'⟩
  cases r with
  | v d => exact dat g
  | bw j => exact dat g
  | nl xs =>
    obtain ⟨p, vs, e1, e2, rl, fr⟩ := h
    subst e1
    exact ⟨.ol xs, ρ, w, Ext.refl _, R, ⟨p, vs, rfl, e2, rl⟩, fun _ => ⟨p, rfl, fr⟩, g⟩
/-- what a name is given -/
theorem asg_step {i : Nat} (R : Rel G w ρ σ H) (h : RR G w ρ σ H r v) (g : GoS G W w ((toSl r ρ).bind fun x s => .ok .nx (s.set i x)) D) : gName i v σ H D.nx := by
  obtain ⟨x, ρ', w', e, R', hs, ho, q⟩ := toSl_ok (i := i) R h g
  exact q.nx (Ext.refl _) (R'.setSl hs ho)
theorem ss_asg {i : Nat} {x : Str} {e : Expr} {m : ME} {pos' : Pos} (hN : X.N.Nodup) (hi : X.N[i]? = some x) (hx : Loc X.env.scope x) (hf : X.fn x = true ∨ X.env.scope.names.lookup x = some .local) (hs : swapsWith e (some (.Name x pos')) pos.line X.env = pure false) (he : PE X e (tE G W (ev L m))) :
    PS X (.Assign [.Name x pos'] e pos) (tS G W (exec L (.asg i m))) := (ps_set hN hi hx he hs hf).imp fun D σ H h => by
  obtain ⟨w, ρ, R, g⟩ := h
  rw [exec] at g
  exact ⟨w, ρ, R, g.bind.mono fun r ρ1 w1 H1 _ e1 R1 q v hv => asg_step R1 hv q⟩
theorem ss_par {i j : Nat} {x y : Str} {a b : Expr} {ma mb : ME} {px py pt : Pos} {kt k2 : Nat} {pt2 : Pos} (hc : X.calm = true) (hN : X.N.Nodup) (hi : X.N[i]? = some x) (hj : X.N[j]? = some y) (hij : i ≠ j)
    (hx : X.env.scope.names.lookup x = some .local) (hy : X.env.scope.names.lookup y = some .local) (ha : PA X [a, b] (tA G W (evs L [ma, mb])))
    (hw : swappedStores [.Tuple [.Name x px, .Name y py] kt pt] (.Tuple [a, b] k2 pt2) X.env = pure (some [x, y]))
    (hs : swapsWithSole [.Tuple [.Name x px, .Name y py] kt pt] (.Tuple [a, b] k2 pt2) pos.line X.env = pure false) :
    PS X (.Assign [.Tuple [.Name x px, .Name y py] kt pt] (.Tuple [a, b] k2 pt2) pos) (tS G W (exec L (.par i j ma mb))) := (ps_par hc hN hi hj hij hx hy ha hw hs).imp fun D σ H h => by
  obtain ⟨w, ρ, R, g⟩ := h
  rw [exec] at g
  refine ⟨w, ρ, R, g.bind.mono fun ds ρ1 w1 H1 _ e1 R1 q vs hvs => ?_⟩
  split at q
  · cases hvs with
    | cons r1 t =>
      cases t with
      | cons r2 t =>
        cases t
        exact ⟨_, _, rfl, q.nx (Ext.refl _) ((R1.setV r1).setV r2)⟩
  · exact q.elim
theorem ss_unp {tg e : Expr} {t : Tg} {m : ME} (he : PE X e (tE G W (ev L m))) (hg : PG X tg (tgR G t)) (hs : swapsWithSole [tg] e pos.line X.env = pure false) (hw : swappedStores [tg] e X.env = pure none) (h1 : (assignEach [tg] X.env).map (·.2) = [assign tg X.env]) :
    PS X (.Assign [tg] e pos) (tS G W (exec L (.unp t m))) := (ps_asg he hg hs hw h1).imp fun D σ H h => by
  obtain ⟨w, ρ, R, g⟩ := h
  rw [exec] at g
  refine ⟨w, ρ, R, g.bind.mono fun r ρ1 w1 H1 _ e1 R1 q v hv => ?_⟩
  obtain ⟨d, ρ2, w2, _, e2, R2, rep, q⟩ := val_ok R1 hv q.bind
  cases eb : bindT t d ρ2 with
  | no => rw [eb] at q; exact q.elim
  | ex c fs s => exact absurd eb (bindT_ex _ _ _ _ _ _)
  | ok u s =>
    rw [eb] at q
    exact ⟨w2, ρ2, d, s, R2, rep, eb, fun σ' R' _ => q.nx (Ext.refl _) R'⟩
theorem asI_ok {f : Int → SS → Out SS Fl} (R : Rel G w ρ σ H) (h : RR G w ρ σ H r v) (g : GoS G W w ((asI r ρ).bind f) D) : ∃ k, v = .int k ∧ r = .v (.int k) ∧ GoS G W w (f k ρ) D := by
  unfold asI at g
  split at g
  · exact ⟨_, Rep.inv_int h, rfl, g⟩
  · exact g.elim
theorem RepL.setD {F : Hp} {A : List Addr} {vs : List V} {ds : List Dt} {v : V} {d : Dt} (r : RepL G F A vs ds) (h : Rep G F A v d) (j : Nat) : RepL G F A (vs.set j v) (ds.set j d) := RepL.set h j r
theorem seti_step {k : Int} {d : Dt} {vo vy : V} {N : L2.St → Hp → Prop} (R : Rel G w ρ σ H) (hr : RR G w ρ σ H r vo) (hd : Rep G w.F w.A vy d) (g : GoS G W w ((wrL r (setF k d) ρ).bind fun _ s => .ok .nx s) { D with nx := N }) : rSetL vo (.int k) vy H fun H3 => N σ H3 := by
  obtain ⟨p, vs, xs, ys, d', rfl, hp, rl, ef, fin⟩ := wrL_ok R hr (g.bind (σ := σ))
  unfold setF at ef
  simp only [Option.map_eq_some_iff, Prod.mk.injEq] at ef
  obtain ⟨j, ej, rfl, rfl⟩ := ef
  obtain ⟨ρ', _, R', q⟩ := fin _ (RepL.set hd j rl)
  exact ⟨p, vs, k, j, rfl, rfl, hp, by rw [rl.length]; exact ej, q.nx (Ext.refl _) R'⟩
theorem ss_seti {o i e : Expr} {mo mi me : ME} {pos' : Pos} (hs : swapsWithSole [.Subscript o i pos'] e pos.line X.env = pure false) (hw : swappedStores [.Subscript o i pos'] e X.env = pure none) (h1 : (assignEach [.Subscript o i pos'] X.env).map (·.2) = [assign (.Subscript o i pos') X.env])
    (ha : ∀ v, assign (.Subscript o i pos') X.env v = (do
      let ov ← holding [v] (eval o X.env)
      let iv ← holding [v, ov] (eval i X.env)
      standAt pos'
      holding [v, ov, iv] (setItem ov iv v)
      release [v, ov, iv] []))
    (ho : PE X o (tE G W (ev L mo))) (hi : PE X i (tE G W (ev L mi))) (he : PE X e (tE G W (ev L me))) : PS X (.Assign [.Subscript o i pos'] e pos) (tS G W (exec L (.seti mo mi me))) :=
  (ps_asg he (pg_sub ho hi set_list ha) hs hw h1).imp fun D σ H h => by
    obtain ⟨w, ρ, R, g⟩ := h
    rw [exec] at g
    refine ⟨w, ρ, R, g.bind.mono fun y ρ1 w1 H1 _ e1 R1 q vy hy => ?_⟩
    obtain ⟨d, ρ2, w2, _, e2, R2, rep, q⟩ := val_ok R1 hy q.bind
    refine ⟨w2, ρ2, R2, q.bind.mono fun r ρ3 w3 H3 _ e3 R3 q3 vo hr => ?_⟩
    obtain ⟨w4, R4, _, _, g4⟩ := pend R3 hr q3.bind
    refine ⟨w4, ρ3, R4, g4.mono fun k ρ5 w5 H5 _ e5 R5 q5 vk hk => ?_⟩
    obtain ⟨w6, e6, R6, hr6, eF, eA, hkk, q6⟩ := q5
    obtain ⟨k, rfl, rfl, q6⟩ := asI_ok R6 (hkk _ _ hk) q6
    exact seti_step R6 hr6 (rep.mono (e3.trans e6).F (e3.trans e6).A) q6
theorem putN_map (f : Str) (y : V) : ∀ fl : List (Str × V), (putF f y fl).map (·.1) = putN f (fl.map (·.1))
  | [] => rfl
  | (g, x) :: r => by
    unfold putF
    show _ = putN f (g :: r.map (·.1))
    unfold putN
    by_cases h : g = f
    · rw [if_pos h, if_pos h]; rfl
    · rw [if_neg h, if_neg h]
      show g :: (putF f y r).map (·.1) = _
      rw [putN_map f y r]
theorem putD_rep {F : Hp} {A : List Addr} {f : Str} {y : V} {d : Dt} (h : Rep G F A y d) : ∀ {fl : List (Str × V)} {ds : List Dt}, RepL G F A (fl.map (·.2)) ds → RepL G F A ((putF f y fl).map (·.2)) (putD f d (fl.map (·.1)) ds)
  | [], _, .nil => .cons h .nil
  | (g, x) :: r, d' :: ds, .cons a t => by
    unfold putF
    show RepL G F A _ (putD f d (g :: r.map (·.1)) (d' :: ds))
    unfold putD
    by_cases e : g = f
    · rw [if_pos e, if_pos e]; exact .cons h t
    · rw [if_neg e, if_neg e]; exact .cons a (putD_rep h t)
/-- an own instance's slot -/
theorem Rel.wrOwnI {i c : Nat} {p C dx : Addr} {ns ns' : List Str} {ds ds' : List Dt} {fl : List (Str × V)} (R : Rel G w ρ σ H) (e : ρ.sl[i]? = some (.oi c ns ds)) (hv : σ[i]? = some (some (.ref p))) (hC : G.cls c = some C) (en : fl.map (·.1) = ns') (r : RepL G w.F w.A (fl.map (·.2)) ds') :
    Rel G w (ρ.set i (.oi c ns' ds')) σ (upd H p (.ins C dx fl)) := by
  have oa : OwnAt ρ σ i p := ⟨hv, _, e, rfl⟩
  obtain ⟨f1, f2, f3⟩ := R.own i p oa
  have hi : i < ρ.sl.length := (List.getElem?_eq_some_iff.mp e).1
  have hM : w.M = some p := by
    obtain ⟨p', _, _, _, e1, _, _, _, _, e2⟩ := R.sl i _ e
    rw [hv] at e1; cases e1; exact e2
  have ot : ∀ (j : Nat) (x' : Sl), (ρ.set i (.oi c ns' ds')).sl[j]? = some x' → (j = i ∧ x' = .oi c ns' ds') ∨ (j ≠ i ∧ ρ.sl[j]? = some x') := fun j x' e => set_cases e
  have oo : ∀ j q, OwnAt (ρ.set i (.oi c ns' ds')) σ j q → OwnAt ρ σ j q := fun j q ⟨e', x', ex', ho'⟩ => by
    rcases ot j x' ex' with ⟨z, _⟩ | ⟨z, ez⟩
    · subst z; rw [hv] at e'; cases e'; exact oa
    · exact ⟨e', x', ez, ho'⟩
  exact {
    toWok := R.toWok.outW f1 f2 f3
    len := by show (ρ.sl.set i _).length = _; rw [List.length_set]; exact R.len
    sl := fun j x' e' => by
      rcases ot j x' e' with ⟨z, z'⟩ | ⟨z, ez⟩
      · subst z; subst z'; exact ⟨p, C, dx, fl, hv, hC, upd_same, en, r, hM⟩
      · exact (R.sl j x' ez).heap fun q eq ho => upd_ne fun y => z (R.ownN j i p (y ▸ ⟨eq, x', ez, ho⟩) oa)
    own := fun j q h => R.own j q (oo j q h)
    ownN := fun j j' q h h' => R.ownN j j' q (oo j q h) (oo j' q h')
    lT := R.lT }
theorem wrF_ok {f : Str} {d : Dt} {vy : V} {k : SS → Out SS Fl} (R : Rel G w ρ σ H) (hr : RR G w ρ σ H r v) (hd : Rep G w.F w.A vy d) (g : GoS G W w ((wrF r f d ρ).bind fun _ s => k s) D) :
    ∃ a c C dx fl, v = .ref a ∧ G.cls c = some C ∧ H a = some (.ins C dx fl) ∧ fl.length < 1000 ∧ ∃ ρ', Rel G w ρ' σ (upd H a (.ins C dx (putF f vy fl))) ∧ GoS G W w (k ρ') D := by
  cases r with
  | nl xs => exact g.elim
  | bw i =>
    have hv : σ[i]? = some (some v) := hr
    simp only [wrF] at g
    split at g
    · rename_i c ns vs e
      split at g
      · rename_i hl
        obtain ⟨p, C, dx, fl, e1, hC, hp, en, rl, _⟩ := R.sl i _ e
        rw [hv] at e1; cases e1
        subst en
        refine ⟨p, c, C, dx, fl, rfl, hC, hp, by simpa using hl, _, R.wrOwnI e hv hC (putN_map _ _ _) (putD_rep hd rl), g⟩
      · exact g.elim
    · exact g.elim
  | v d0 =>
    cases d0 with
    | ref n =>
      simp only [wrF] at g
      split at g
      · rename_i c ns vs e
        split at g
        · rename_i hl
          obtain ⟨p, rfl, e2⟩ := Rep.inv_ref hr
          obtain ⟨f1, f2, mo, e3, m⟩ := R.stR n p e2
          rw [e] at e3; cases e3
          obtain ⟨C, dx, fl, hC, hp, en, rl⟩ := m
          subst en
          have R' : Rel G w (ρ.setO n (.i c (putN f (fl.map (·.1))) (putD f d (fl.map (·.1)) vs))) σ (upd H p (.ins C dx (putF f vy fl))) := R.wrSt e2 ⟨C, dx, _, hC, rfl, putN_map _ _ _, putD_rep hd rl⟩
          exact ⟨p, c, C, dx, fl, rfl, hC, hp, by simpa using hl, _, R', g⟩
        · exact g.elim
      · exact g.elim
    | _ => exact g.elim
theorem ss_setf {o e : Expr} {f : Str} {mo me : ME} {pos' : Pos} (hK : X.K = G.K) (hc : ∀ c C, G.cls c = some C → Cls G.K C) (hn : ∀ c C, G.cls c = some C → NoAttr G.K C f) (hs : swapsWith e (some (.Attribute o f pos')) pos.line X.env = pure false)
    (ho : PE X o (tE G W (ev L mo))) (he : PE X e (tE G W (ev L me))) : PS X (.Assign [.Attribute o f pos'] e pos) (tS G W (exec L (.setf mo f me))) :=
  (ps_fld ho he hs).imp fun D σ H h => by
    obtain ⟨w, ρ, R, g⟩ := h
    rw [exec] at g
    rw [hK]
    refine ⟨w, ρ, R, g.bind.mono fun y ρ1 w1 H1 _ e1 R1 q vy hy => ?_⟩
    obtain ⟨d, ρ2, w2, _, e2, R2, rep, q⟩ := val_ok R1 hy q.bind
    refine ⟨w2, ρ2, R2, q.bind.mono fun r ρ3 w3 H3 _ e3 R3 q3 vo hr => ?_⟩
    obtain ⟨a, c, C, dx, fl, rfl, hC, hH, hl, ρ', R', q4⟩ := wrF_ok R3 hr (rep.mono e3.F e3.A) q3
    exact ⟨a, C, dx, fl, rfl, hH, hc c C hC, hn c C hC, hl, q4.nx (Ext.refl _) R'⟩
/-! ### augmented -/
def aop : Bop → Operator
  | .add => .Add
  | .sub => .Sub
  | .mul => .Mult
  | .fdiv => .FloorDiv
  | .mod => .Mod
  | .pow => .Pow
  | .shl => .LShift
  | .shr => .RShift
  | .band => .BitAnd
  | .bor => .BitOr
  | .bxor => .BitXor
def rAug (op : Bop) : TIp := fun x y H Q => ∃ i j, x = .int i ∧ y = .int j ∧ ((op = .add ∧ Q (.int (i + j)) H) ∨ (op = .sub ∧ Q (.int (i - j)) H))
theorem ip_aug (op : Bop) (ho : op = .add ∨ op = .sub) : PIp X (aop op) (rAug op) := fun pins s σ H x y v u Q I rx ry h => by
  obtain ⟨i, j, rfl, rfl, h⟩ := h
  rcases ho with rfl | rfl
  · rcases h with ⟨_, h⟩ | ⟨z, _⟩
    · exact ip_add pins s σ H _ _ v u Q I rx ry ⟨i, j, rfl, rfl, h⟩
    · cases z
  · rcases h with ⟨z, _⟩ | ⟨_, h⟩
    · cases z
    · exact ip_sub pins s σ H _ _ v u Q I rx ry ⟨i, j, rfl, rfl, h⟩
theorem augI_ok {op : Bop} {x y : Int} {f : Int → SS → Out SS Fl} (g : GoS G W w ((augI op x y ρ).bind f) D) : ∃ z, GoS G W w (f z ρ) D ∧ ∀ {H : Hp} {Q : VK}, Q (.int z) H → rAug op (.int x) (.int y) H Q := by
  unfold augI at g
  split at g
  · exact ⟨_, g, fun q => ⟨x, y, rfl, rfl, .inl ⟨rfl, q⟩⟩⟩
  · exact ⟨_, g, fun q => ⟨x, y, rfl, rfl, .inr ⟨rfl, q⟩⟩⟩
  · exact g.elim
theorem ss_aug {i : Nat} {x : Str} {e : Expr} {op : Bop} {m : ME} {pos' : Pos} (hop : op = .add ∨ op = .sub) (hN : X.N.Nodup) (hi : X.N[i]? = some x) (hx : Loc X.env.scope x) (hf : X.fn x = true ∨ X.env.scope.names.lookup x = some .local) (he : PE X e (tE G W (ev L m))) :
    PS X (.AugAssign (.Name x pos') (aop op) e pos) (tS G W (exec L (.aug i op m))) := (ps_aug hN hi hx he (ip_aug op hop) hf).imp fun D σ H h => by
  obtain ⟨w, ρ, R, g⟩ := h
  rw [exec] at g
  split at g
  · rename_i x ex
    obtain ⟨v, e1, r⟩ := R.sl i _ ex
    obtain rfl := Rep.inv_int r
    refine ⟨_, e1, w, ρ, R, g.bind.mono fun r ρ1 w1 H1 _ e1 R1 q vy hy => ?_⟩
    obtain ⟨y, rfl, rfl, q⟩ := asI_ok R1 hy q
    obtain ⟨z, q, fin⟩ := augI_ok q
    exact fin (q.nx (Ext.refl _) (R1.setV (.int z)))
  · exact g.elim
theorem icls_ok {c : Nat} (R : Rel G w ρ σ H) (hr : RR G w ρ σ H r v) (h : icls r ρ = some c) : ∃ a C dx fl, v = .ref a ∧ G.cls c = some C ∧ H a = some (.ins C dx fl) := by
  unfold icls at h
  split at h
  · split at h
    · rename_i e
      cases h
      have hv : σ[_]? = some (some v) := hr
      obtain ⟨p, C, dx, fl, e1, hC, hp, _⟩ := R.sl _ _ e
      rw [hv] at e1; cases e1
      exact ⟨p, C, dx, fl, rfl, hC, hp⟩
    · cases h
  · split at h
    · rename_i e
      cases h
      obtain ⟨p, rfl, e2⟩ := Rep.inv_ref hr
      obtain ⟨_, _, mo, e3, m⟩ := R.stR _ p e2
      rw [e] at e3; cases e3
      obtain ⟨C, dx, fl, hC, hp, _⟩ := m
      exact ⟨p, C, dx, fl, rfl, hC, hp⟩
    · cases h
  · cases h
theorem ss_augf {o e : Expr} {f : Str} {op : Bop} {mo me : ME} {tpos : Pos} (hop : op = .add ∨ op = .sub) (hK : X.K = G.K) (hc : ∀ c C, G.cls c = some C → Cls G.K C) (hn : ∀ c C, G.cls c = some C → NoAttr G.K C f)
    (ho : PE X o (tE G W (ev L mo))) (he : PE X e (tE G W (ev L me))) : PS X (.AugAssign (.Attribute o f tpos) (aop op) e pos) (tS G W (exec L (.augf mo f op me))) :=
  (ps_fldaug (rd := rAug op) ho he (ip_aug op hop)).imp fun D σ H h => by
    obtain ⟨w, ρ, R, g⟩ := h
    rw [exec] at g
    rw [hK]
    refine ⟨w, ρ, R, g.bind.mono fun r ρ1 w1 H1 _ e1 R1 q vo hr => ?_⟩
    split at q
    · rename_i x c ex ec
      obtain ⟨a, c0, C, dx, fl, u, rfl, hC0, hH, hlk, ru⟩ := fldV_ok R1 hr ex
      obtain rfl := Rep.inv_int ru
      obtain ⟨a1, C1, dx1, fl1, ea, hC, hH1⟩ := icls_ok R1 hr ec
      cases ea
      rw [hH] at hH1; cases hH1
      refine ⟨a, C, dx, fl, _, rfl, hH, hc c C hC, hn c C hC, hlk, ?_⟩
      obtain ⟨w2, R2, _, _, g2⟩ := pend R1 hr (q.bind (σ := σ))
      refine ⟨w2, ρ1, R2, g2.mono fun y ρ3 w3 H3 _ e3 R3 q3 vy hy => ?_⟩
      obtain ⟨w4, e4, R4, hr4, _, _, hyy, q4⟩ := q3
      obtain ⟨y, rfl, rfl, q4⟩ := asI_ok R4 (hyy _ _ hy) q4
      obtain ⟨z, q4, fin⟩ := augI_ok q4
      split at q4
      · rename_i ec2
        obtain ⟨a2, C2, dx2, fl2, ea, hC2, hH2⟩ := icls_ok R4 hr4 ec2
        cases ea
        rw [hC] at hC2; cases hC2
        obtain ⟨a', c', C', dx', fl', ea, hC', hH', hl', ρ', R', q5⟩ := wrF_ok R4 hr4 (.int z) q4
        cases ea
        rw [hH2] at hH'; cases hH'
        exact fin ⟨dx2, fl2, hH2, hl', q5.nx (Ext.refl _) R'⟩
      · exact q4.elim
    · exact q.elim
end
end Mq

/-! MqFor: loops. -/
namespace Mq
open PySem L2
section
variable {G : Gx} {W : WX} {w w1 w2 w' : Wd} {ρ ρ' ρ1 : SS} {σ σ' : L2.St} {H H1 : Hp} {X : Cx} {pos : Pos} {L : Fns} {r : RV} {v : V} {ys : List Dt} {D : Ends}
theorem RF.same (hF : w'.F = w.F) (hA : w'.A = w.A) (hT : ∀ p, w.T p = none → w'.T p = none) (h : RF G w H r v) : RF G w' H r v := by
  cases r with
  | v d => show Rep G w'.F w'.A v d; rw [hF, hA]; exact h
  | nl xs => obtain ⟨p, vs, e1, e2, rl, f1, f2, f3⟩ := h; exact ⟨p, vs, e1, e2, by rw [hF, hA]; exact rl, by rw [hF]; exact f1, hT p f2, by rw [hA]; exact f3⟩
  | bw i => exact h
theorem XR.same {cls : Value} {d : Option Addr} {c : Nat} {fs : List Dt} (hF : w'.F = w.F) (hA : w'.A = w.A) (h : XR G w cls d c fs) : XR G w' cls d c fs := by
  obtain ⟨C, ns, e1, e2, q⟩ := h
  refine ⟨C, ns, e1, e2, q.imp id ?_⟩
  rintro ⟨dx, fl, n, a, b, c, rl⟩
  exact ⟨dx, fl, n, a, by rw [hF]; exact b, c, by rw [hF, hA]; exact rl⟩
theorem GoS.unfix {o : Out SS Fl} (h : GoS G W w1 (o.fix fun s => unlock r ρ1 s) D) (ex : Exit G w1 w2 ρ1 r) : GoS G W w2 o D := by
  cases o with
  | no => exact h
  | ex c fs s =>
    intro cls d H' w' σ' e R x
    obtain ⟨w'', e', R', z1, z2, z3⟩ := ex w' _ _ _ e R
    exact h cls d H' w'' σ' e' R' (x.same z1 z2)
  | ok f s =>
    intro H' w' σ' e R
    obtain ⟨w'', e', R', z1, z2, z3⟩ := ex w' _ _ _ e R
    have q := h H' w'' σ' e' R'
    cases f with
    | ret r => exact fun v rf => q v (rf.same z1 z2 z3)
    | nx => exact q
    | bk => exact q
    | ct => exact q
theorem forL_ex {G : Gx} {W : WX} {w : Wd} {t : Tg} {ck : SS → Bool} {b : SS → Out SS Fl} {d : Dt} {xs : List Dt} (g : GoS G W w (forL ck (fun s x => bindT t x s) b (d :: xs) ρ) D) : ∃ s1, bindT t d ρ = .ok () s1 ∧ GoS G W w ((b s1).bind fun f s => (match f with
      | .nx => if ck s then forL ck (fun s x => bindT t x s) b xs s else .no
      | .ct => if ck s then forL ck (fun s x => bindT t x s) b xs s else .no
      | .bk => .ok .nx s
      | .ret r => .ok (.ret r) s)) D := by
  rw [forL] at g
  cases eb : bindT t d ρ with
  | no => rw [eb] at g; exact g.elim
  | ex c fs s => exact absurd eb (bindT_ex _ _ _ _ _ _)
  | ok u s => rw [eb] at g; exact ⟨s, rfl, g⟩
structure ForT (G : Gx) (W : WX) (w0 : Wd) (r : RV) (v : V) (ys xs : List Dt) (lp : List Dt → SS → Out SS Fl) (D : Ends) (i : Nat) (σ : L2.St) (H : Hp) : Prop where
  ex : ∃ w ρ, Ext w0 w ∧ Rel G w ρ σ H ∧ SrcOk G w ρ r v ys ∧ GoS G W w0 (lp (xs.drop i) ρ) D
theorem ss_for {tg iter : Expr} {body : List Stmt} {t : Tg} {src : MI} {mb : List MS} (hp : PassesOwn (model X.prog X.w) X.A X.env X.xe) (hc : X.calm = true) (hi : PI X tg iter (tI G W (evI L src))) (hg : PG X tg (tgR G t)) (hb : PSs X body (tS G W (execs L mb))) (hs : ∀ x, foldedSetIterable iter X.env x = pure x) :
    PS X (.For tg iter body [] pos) (tS G W (exec L (.forr t src mb))) := (ps_for hp hc hi hg hb hs).imp fun D σ H h => by
  obtain ⟨w, ρ, R, g⟩ := h
  rw [exec] at g
  refine ⟨w, ρ, R, g.bind.mono fun iv ρ1 w1 H1 _ e1 R1 q J v hsrc wk => ?_⟩
  obtain ⟨w2, R2, eF2, eA2, so, ex⟩ := protectS R1 hsrc
  have q := q.unfix ex
  refine ⟨fun i m σ H => m = iv.xs.length - i ∧ i ≤ iv.xs.length ∧ ForT G W w2 iv.src v iv.ys iv.xs (forL (chk iv.ys iv.src) (fun s x => bindT t x s) (fun s => execs L mb s)) D i σ H, ⟨_, rfl, Nat.zero_le _, ⟨w2, _, Ext.refl _, R2, so, q⟩⟩, ?_⟩
  rintro i m σ3 H3 ⟨rfl, hile, T⟩
  obtain ⟨w3, ρ3, e3, R3, so3, g3⟩ := T.ex
  by_cases hlt : i < iv.xs.length
  · right
    obtain ⟨d, ed⟩ : ∃ d, iv.xs[i]? = some d := ⟨_, List.getElem?_eq_getElem hlt⟩
    have edr : iv.xs.drop i = d :: iv.xs.drop (i + 1) := by
      rw [List.drop_eq_getElem_cons hlt]
      rw [List.getElem?_eq_getElem hlt] at ed; cases ed; rfl
    rw [edr] at g3
    obtain ⟨s1, eb, g3⟩ := forL_ex g3
    obtain ⟨go, yl⟩ := wk.go i d _ _ _ _ R3 ⟨⟨by rw [← eF2]; exact e3.F, by rw [← eA2]; exact e3.A⟩, so3⟩ ed
    refine ⟨go, fun σ' H' => ForT G W w2 iv.src v iv.ys iv.xs (forL (chk iv.ys iv.src) (fun s x => bindT t x s) (fun s => execs L mb s)) D (i + 1) σ' H', fun σ' H' T' => ⟨_, by omega, rfl, hlt, T'⟩, fun x H' y => ?_⟩
    obtain ⟨w4, e4, R4, rep⟩ := yl x H' y
    refine ⟨w4, ρ3, d, s1, R4, rep, eb, fun σ2 R5 ag => ⟨w4, s1, R5, ?_⟩⟩
    have e24 := e3.trans e4
    have again : ∀ {s : SS} {w' : Wd} {H' : Hp} {σ' : L2.St}, GoS G W w2 (if chk iv.ys iv.src s then forL (chk iv.ys iv.src) (fun s x => bindT t x s) (fun s => execs L mb s) (iv.xs.drop (i + 1)) s else .no) D → Ext w4 w' → Rel G w' s σ' H' → ForT G W w2 iv.src v iv.ys iv.xs (forL (chk iv.ys iv.src) (fun s x => bindT t x s) (fun s => execs L mb s)) D (i + 1) σ' H' := fun {s w' H' σ'} g e R => by
      split at g
      · rename_i hck
        exact ⟨w', s, e24.trans e, R, so3.ext (e4.trans e) hck, g⟩
      · exact g.elim
    cases q5 : execs L mb s1 with
    | no => rw [q5] at g3; exact g3.elim
    | ex c fs s => rw [q5] at g3; exact fun cls d H' w' σ' e R x => g3 cls d H' w' σ' (e24.trans e) R x
    | ok f s =>
      rw [q5] at g3
      intro H' w' σ' e R
      cases f with
      | nx => exact again g3 e R
      | ct => exact again g3 e R
      | bk => exact g3 H' w' σ' (e24.trans e) R
      | ret r => exact g3 H' w' σ' (e24.trans e) R
  · left
    have hi' : i = iv.xs.length := by omega
    subst hi'
    rw [List.drop_length, forL] at g3
    exact ⟨wk.stop _ _ _ _ R3 ⟨⟨by rw [← eF2]; exact e3.F, by rw [← eA2]; exact e3.A⟩, so3⟩, g3.nx e3 R3⟩
theorem ss_while {c : Expr} {body : List Stmt} {n : Nat} {mc : ME} {mb : List MS} (hp : PassesOwn (model X.prog X.w) X.A X.env X.xe) (hc : PT X c (tT G W (tst (ev L mc)))) (hb : PSs X body (tS G W (execs L mb))) : PS X (.While c body [] pos) (tS G W (exec L (.whl n mc mb))) := (ps_while hp hc hb).imp fun D σ H h => by
  obtain ⟨w, ρ, R, g⟩ := h
  rw [exec] at g
  have g : GoS G W w (whN (tst (ev L mc)) (fun s => execs L mb s) n ρ) D := g
  refine ⟨fun m σ H => ∃ w1 ρ, Ext w w1 ∧ Rel G w1 ρ σ H ∧ GoS G W w (whN (tst (ev L mc)) (fun s => execs L mb s) m ρ) D, ⟨n, w, ρ, Ext.refl _, R, g⟩, ?_⟩
  rintro m σ2 H2 ⟨w1, ρ1, e1, R1, g1⟩
  cases m with
  | zero => rw [whN] at g1; exact g1.elim
  | succ m =>
    rw [whN] at g1
    refine ⟨w1, ρ1, R1, (g1.ext e1).bind.mono fun k ρ2 w2 H2 ek e2 R2 q => ?_⟩
    cases k with
    | false => rw [if_neg Bool.false_ne_true] at q ⊢; exact q.nx (Ext.refl _) R2
    | true =>
      rw [if_pos rfl] at q ⊢
      refine ⟨fun σ' H' => ∃ w1 ρ, Ext w w1 ∧ Rel G w1 ρ σ' H' ∧ GoS G W w (whN (tst (ev L mc)) (fun s => execs L mb s) m ρ) D, fun σ' H' T => ⟨m, Nat.lt_succ_self m, T⟩, w2, ρ2, R2, ?_⟩
      have g2 : GoS G W w ((execs L mb ρ2).bind fun f s => (match f with
        | .nx => whN (tst (ev L mc)) (fun s => execs L mb s) m s
        | .ct => whN (tst (ev L mc)) (fun s => execs L mb s) m s
        | .bk => .ok .nx s
        | .ret r => .ok (.ret r) s)) D := by rw [ek] at g1; exact g1
      have e12 := e1.trans e2
      cases q5 : execs L mb ρ2 with
      | no => rw [q5] at g2; exact g2.elim
      | ex c fs s => rw [q5] at g2; exact fun cls d H' w' σ' e R x => g2 cls d H' w' σ' (e12.trans e) R x
      | ok f s =>
        rw [q5] at g2
        intro H' w' σ' e R
        cases f with
        | nx => exact ⟨w', s, e12.trans e, R, g2⟩
        | ct => exact ⟨w', s, e12.trans e, R, g2⟩
        | bk => exact g2 H' w' σ' (e12.trans e) R
        | ret r => exact g2 H' w' σ' (e12.trans e) R
end
end Mq

/-! MqComp2: comprehensions of two clauses. -/
namespace Mq
open PySem L2
section
variable {G : Gx} {W : WX} {w w1 w' : Wd} {ρ ρ1 ρ' : SS} {σ σ' : L2.St} {H H1 : Hp} {X : Cx} {pos : Pos} {L : Fns} {r : RV} {v : V} {ys : List Dt}
theorem frz_chk {iv : IV} {zs : List Dt} (h : frzIV iv = true) : chk zs iv.src ρ = true := by
  unfold frzIV at h
  generalize iv.src = rr at h ⊢
  cases rr with
  | nl xs => rfl
  | bw n => rfl
  | v d => cases d <;> first | rfl | (cases h; done)
theorem lc2Loop_ex {ck : SS → Bool} {t : Tg} {own : List Nat} {c : SS → Out SS Bool} {src1 : SS → Out SS IV} {lp : List Dt → List Dt → SS → Out SS (List Dt)} {n : Nat} {fs : List Dt} {s' : SS} (hl : ∀ xs acc s s' n fs, lp xs acc s ≠ .ex n fs s') : ∀ (xs acc : List Dt) (s : SS), lc2Loop ck (fun s x => bindT t x s) own (fun s => (c s).noex) (fun s => (src1 s).noex) lp xs acc s ≠ .ex n fs s'
  | [], acc, s => by rw [lc2Loop]; simp
  | x :: xs, acc, s => by
    rw [lc2Loop]
    cases q : bindT t x (wipeS own s) with
    | no => simp [Out.bind]
    | ex c' fs' u => exact absurd q (bindT_ex _ _ _ _ _ _)
    | ok z u =>
      show ((c u).noex).bind _ ≠ _
      cases q2 : c u with
      | no => simp [Out.bind, Out.noex]
      | ex c' fs' u => simp [Out.bind, Out.noex]
      | ok b u2 =>
        show (if b = true then ((src1 u2).noex).bind _ else _) ≠ _
        cases b with
        | false =>
          rw [if_neg Bool.false_ne_true]
          split
          · exact lc2Loop_ex hl xs acc u2
          · simp
        | true =>
          rw [if_pos rfl]
          cases q3 : src1 u2 with
          | no => simp [Out.bind, Out.noex]
          | ex c' fs' u => simp [Out.bind, Out.noex]
          | ok iv u3 =>
            show (if _ then _ else _) ≠ _
            split
            · cases q4 : lp iv.xs acc u3 with
              | no => simp [Out.bind]
              | ex c' fs' u => exact absurd q4 (hl _ _ _ _ _ _)
              | ok a u4 =>
                show (if _ then _ else _) ≠ _
                split
                · exact lc2Loop_ex hl xs _ u4
                · simp
            · simp
theorem lc2_ev {me : ME} {t t1 : Tg} {src src1 : MI} {cond cond1 : Option ME} {os os1 : List Nat} {s : SS} : ev L (.lc2 me t src cond t1 src1 cond1 os os1) s = (evI L src s).bind fun iv s => if wipeOk os s then
      ((lc2Loop (chk iv.ys iv.src) (fun s x => bindT t x s) os (fun s => (cndM L cond s).noex) (fun s => (evI L src1 s).noex) (lcLoop (chk iv.ys iv.src) (fun s x => bindT t1 x s) os1 (fun s => (cndM L cond1 s).noex) (fun s => ((ev L me s).bind val).noex)) iv.xs [] (lock iv.src s)).fix fun s' => unlock iv.src s (backS s os s')).bind fun acc s => .ok (.nl acc) s
    else .no := by
  rw [← lc_red, ← lc_red, ev]
  cases cond <;> cases cond1 <;> rfl
/-- the turns of the inner clause -/
structure LcU (G : Gx) (w0 w6 : Wd) (r r1 : RV) (v v1 : V) (ys ys1 xs1 : List Dt) (lp : List Dt → List Dt → SS → Out SS (List Dt)) (own1 : List Nat) (σ2 : L2.St) (D : Addr) (acc1 : List Dt) (ρ4 : SS) (j : Nat) (H : Hp) : Prop where
  ex : ∃ w ρ vs acc, Ext w0 w ∧ Same w6.F w.F ∧ Ax w6.A w.A ∧ Rel G w (wipeS own1 ρ) (wipe σ2 own1) H ∧ Free w (wipeS own1 ρ) (wipe σ2 own1) D ∧ H D = some (.lst vs) ∧ RepL G w.F w.A vs acc ∧ SrcOk G w ρ r v ys ∧ SrcOk G w ρ r1 v1 ys1 ∧ lp (xs1.drop j) acc ρ = .ok acc1 ρ4
theorem wipe_wipe {os os1 : List Nat} (hs : ∀ i ∈ os1, i ∈ os) {σ : L2.St} : wipe (wipe σ os1) os = wipe σ os := by
  refine List.ext_getElem? fun j => ?_
  by_cases mj : j ∈ os
  · rw [wipe_in mj, wipe_in mj, wipe_length]
  · rw [wipe_out mj, wipe_out mj, wipe_out (fun z => mj (hs j z))]
theorem wipeS_in' : ∀ {own : List Nat} {s : SS} {j : Nat}, j ∈ own → (wipeS own s).sl[j]? = if j < s.sl.length then some .un else none := fun {own s j} h => by
  by_cases q : j < s.sl.length
  · rw [if_pos q]
    have : j < (wipeS own s).sl.length := by rw [wipeS_len]; exact q
    have e := List.getElem?_eq_getElem this
    rw [e]
    exact congrArg some (wipeS_in h e)
  · rw [if_neg q]
    exact List.getElem?_eq_none_iff.mpr (by rw [wipeS_len]; omega)
theorem wipeS_wipeS {os os1 : List Nat} (hs : ∀ i ∈ os1, i ∈ os) {s : SS} : wipeS os (wipeS os1 s) = wipeS os s := by
  have h1 : (wipeS os (wipeS os1 s)).st = (wipeS os s).st := by rw [wipeS_st, wipeS_st, wipeS_st]
  have h2 : (wipeS os (wipeS os1 s)).sl = (wipeS os s).sl := by
    refine List.ext_getElem? fun j => ?_
    by_cases mj : j ∈ os
    · rw [wipeS_in' mj, wipeS_in' mj, wipeS_len]
    · rw [wipeS_out mj, wipeS_out mj, wipeS_out (fun z => mj (hs j z))]
  cases h : wipeS os (wipeS os1 s) with
  | mk a b => cases h' : wipeS os s with
    | mk c d => rw [h, h'] at h1 h2; cases h1; cases h2; rfl
theorem lc2_imp {own : List (Str × Nat)} {own1 : List Nat} {me : ME} {t t1 : Tg} {src src1 : MI} {cond cond1 : Option ME} {Q : VK} (ht : tslots t ⊆ own.map (·.2)) (ht1 : tslots t1 ⊆ own1) (hs1 : ∀ i ∈ own1, i ∈ own.map (·.2)) (h : tE G W (ev L (.lc2 me t src cond t1 src1 cond1 (own.map (·.2)) own1)) σ H Q) :
    tLc2 (tI G W (evI L src)) (tgR G t) (tT G WF (cndM L cond)) (tI G WF (evI L src1)) (tgR G t1) (tT G WF (cndM L cond1)) (tE G WF (ev L me)) (own.map (·.2)) own1 σ H Q := by
  obtain ⟨w, ρ, R, g⟩ := h
  rw [lc2_ev] at g
  refine ⟨w, ρ, R, g.bind.mono fun iv ρ1 w1 H1 _ e1 R1 q J v hsrc wk D hD => ?_⟩
  generalize hown : own.map (·.2) = os at *
  split at q
  · rename_i hw
    generalize hlp : lcLoop (chk iv.ys iv.src) (fun s x => bindT t1 x s) own1 (fun s => (cndM L cond1 s).noex) (fun s => ((ev L me s).bind val).noex) = lp1 at q
    have q := q.bind
    obtain ⟨accF, ρF, eF, q⟩ := fix_ok q fun c fs s => lc2Loop_ex (fun _ _ _ _ _ _ => by rw [← hlp]; exact lcLoop_ex _ _ _) _ _ _
    obtain ⟨w2, R2, eF2, eA2, so, ex⟩ := protectS R1 hsrc
    refine ⟨fun i m H => m = iv.xs.length - i ∧ i ≤ iv.xs.length ∧ LcT G w2 iv.src v iv.ys iv.xs (lc2Loop (chk iv.ys iv.src) (fun s x => bindT t x s) os (fun s => (cndM L cond s).noex) (fun s => (evI L src1 s).noex) lp1) os σ D accF ρF i H, ⟨_, rfl, Nat.zero_le _, ?_⟩, ?_⟩
    · have f2 : Free w2 (lock iv.src ρ1) σ D := R2.fresh hD
      exact ⟨w2, lock iv.src ρ1, [], [], Ext.refl _, (R2.out f2).wiped os, f2.wiped os, upd_same, .nil, so, eF⟩
    · rintro i m H2 ⟨rfl, hile, T⟩
      obtain ⟨w3, ρ3, vs, acc, e3, R3, f3, hD3, rl, so3, eL⟩ := T.ex
      have so3w : SrcOk G w3 (wipeS os ρ3) iv.src v iv.ys := so3.st (wipeS_st os ρ3)
      by_cases hlt : i < iv.xs.length
      · right
        obtain ⟨d, ed⟩ : ∃ d, iv.xs[i]? = some d := ⟨_, List.getElem?_eq_getElem hlt⟩
        have edr : iv.xs.drop i = d :: iv.xs.drop (i + 1) := by
          rw [List.drop_eq_getElem_cons hlt]
          rw [List.getElem?_eq_getElem hlt] at ed; cases ed; rfl
        rw [edr, lc2Loop] at eL
        obtain ⟨_, s1, eb, eL⟩ := bind_ok eL
        obtain ⟨b, s2, ec, eL⟩ := bind_ok eL
        have ec := noex_ok ec
        have Rp := R3.pinned f3 hD3
        have sop : SrcOk G (w3.pin D (.lst vs)) (wipeS os ρ3) iv.src v iv.ys := so3w.pin f3.T
        obtain ⟨go, yl⟩ := wk.go i d _ _ _ _ Rp ⟨⟨by rw [← eF2]; exact e3.F, by rw [← eA2]; exact e3.A⟩, sop⟩ ed
        refine ⟨go, fun H' => LcT G w2 iv.src v iv.ys iv.xs (lc2Loop (chk iv.ys iv.src) (fun s x => bindT t x s) os (fun s => (cndM L cond s).noex) (fun s => (evI L src1 s).noex) lp1) os σ D accF ρF (i + 1) H', fun H' T' => ⟨_, by omega, rfl, hlt, T'⟩, fun x H' y => ?_⟩
        obtain ⟨w4, e4, R4, rep⟩ := yl x H' y
        refine ⟨w4, wipeS os ρ3, d, s1, R4, rep, eb, fun σ2 R5 ag => ?_⟩
        have wσ : wipe σ2 os = wipe σ os := by
          refine List.ext_getElem? fun j => ?_
          by_cases mj : j ∈ os
          · rw [wipe_in mj, wipe_in mj, ag.1, wipe_length]
          · rw [wipe_out mj, wipe_out mj, ag.2 j (fun z => mj (ht z)), wipe_out mj]
        refine ⟨wσ, w4, s1, R5, ?_⟩
        rw [ec]
        intro H3 w5 e5 R6
        have e35 : Ext (w3.pin D (.lst vs)) w5 := e4.trans e5
        cases b with
        | false =>
          rw [if_neg Bool.false_ne_true] at eL
          show LcT _ _ _ _ _ _ _ _ _ _ _ _ _ _
          split at eL
          · rename_i hck
            obtain ⟨b1, b2, b3, b4⟩ := R3.pinback f3.T e35 R6
            have b2 := b2.wiped os
            have b4 := b4.wiped os
            rw [wσ] at b2 b4
            exact ⟨⟨_, s2, vs, acc, e3.trans b1, b2, b4, b3, rl.mono b1.F b1.A, so3.ext b1 hck, eL⟩⟩
          · cases eL
        | true =>
          rw [if_pos rfl] at eL
          show tI _ _ _ _ _ _
          obtain ⟨iv1, s3, ei, eL⟩ := bind_ok eL
          have ei := noex_ok ei
          split at eL
          · rename_i hfz
            rw [Bool.and_eq_true] at hfz
            obtain ⟨hfz, hck3⟩ := hfz
            obtain ⟨acc1, s4, el, eL⟩ := bind_ok eL
            split at eL
            · rename_i hck4
              refine ⟨w5, s2, R6, ?_⟩
              rw [ei]
              intro H4 w6 e6 R7 J1 v1 hsrc1 wk1
              have e36 : Ext (w3.pin D (.lst vs)) w6 := e35.trans e6
              obtain ⟨b1, b2, b3, b4⟩ := R3.pinback f3.T e36 R7
              have si1 : SrcOk G (w6.unp w3) s3 iv1.src v1 iv1.ys := by
                rcases hsrc1 with z | ⟨z1, z2⟩
                · exact .inl z
                · right
                  revert z1 z2
                  generalize iv1.ys = zs
                  unfold frzIV at hfz
                  generalize iv1.src = rr at hfz ⊢
                  intro z1 z2
                  cases rr with
                  | nl xs => cases hfz
                  | bw n => cases hfz
                  | v d1 =>
                    have z1 : Rep G w6.F w6.A v1 d1 := z1
                    cases d1 with
                    | ref n => cases hfz
                    | tup us => have : us = zs := by simpa [rds] using z2
                                subst this; exact ⟨z1, .inl rfl⟩
                    | lst us => have : us = zs := by simpa [rds, rdl, rdt] using z2
                                subst this; exact ⟨z1, .inr (.inl rfl)⟩
                    | rol us => have : us = zs := by simpa [rds, rdl, rdt] using z2
                                subst this; exact ⟨z1, .inr (.inr rfl)⟩
                    | _ => simp [rds, rdl, rdt] at z2
              refine ⟨fun j k H => k = iv1.xs.length - j ∧ j ≤ iv1.xs.length ∧ LcU G w2 w6 iv.src iv1.src v v1 iv.ys iv1.ys iv1.xs lp1 own1 σ2 D acc1 s4 j H, ⟨_, rfl, Nat.zero_le _, ?_⟩, ?_⟩
              · exact ⟨w6.unp w3, s3, vs, acc, e3.trans b1, Same.refl _, Ax.refl _, b2.wiped own1, b4.wiped own1, b3, rl.mono b1.F b1.A, so3.ext b1 hck3, si1, el⟩
              · rintro j k H5 ⟨rfl, hjle, U⟩
                obtain ⟨w7, ρ7, vs7, acc7, e7, sF, sA, R8, f7, hD7, rl7, so7, si7, el7⟩ := U.ex
                have si7w : SrcOk G w7 (wipeS own1 ρ7) iv1.src v1 iv1.ys := si7.st (wipeS_st own1 ρ7)
                by_cases hlt1 : j < iv1.xs.length
                · right
                  obtain ⟨d1, ed1⟩ : ∃ d, iv1.xs[j]? = some d := ⟨_, List.getElem?_eq_getElem hlt1⟩
                  have edr1 : iv1.xs.drop j = d1 :: iv1.xs.drop (j + 1) := by
                    rw [List.drop_eq_getElem_cons hlt1]
                    rw [List.getElem?_eq_getElem hlt1] at ed1; cases ed1; rfl
                  rw [edr1, ← hlp, lcLoop] at el7
                  obtain ⟨_, s8, eb8, el7⟩ := bind_ok el7
                  obtain ⟨b9, s9, ec9, el7⟩ := bind_ok el7
                  have ec9 := noex_ok ec9
                  have Rp7 := R8.pinned f7 hD7
                  have sop7 : SrcOk G (w7.pin D (.lst vs7)) (wipeS own1 ρ7) iv1.src v1 iv1.ys := si7w.pin f7.T
                  obtain ⟨go1, yl1⟩ := wk1.go j d1 _ _ _ _ Rp7 ⟨⟨sF, sA⟩, sop7⟩ ed1
                  refine ⟨go1, fun H' => LcU G w2 w6 iv.src iv1.src v v1 iv.ys iv1.ys iv1.xs lp1 own1 σ2 D acc1 s4 (j + 1) H', fun H' T' => ⟨_, by omega, rfl, hlt1, T'⟩, fun x1 H' y1 => ?_⟩
                  obtain ⟨w8, e8, R9, rep8⟩ := yl1 x1 H' y1
                  refine ⟨w8, wipeS own1 ρ7, d1, s8, R9, rep8, eb8, fun σ3 R10 ag1 => ?_⟩
                  have wσ1 : wipe σ3 own1 = wipe σ2 own1 := by
                    refine List.ext_getElem? fun j => ?_
                    by_cases mj : j ∈ own1
                    · rw [wipe_in mj, wipe_in mj, ag1.1, wipe_length]
                    · rw [wipe_out mj, wipe_out mj, ag1.2 j (fun z => mj (ht1 z)), wipe_out mj]
                  refine ⟨wσ1, w8, s8, R10, ?_⟩
                  rw [ec9]
                  intro H6 w9 e9 R11
                  have e79 : Ext (w7.pin D (.lst vs7)) w9 := e8.trans e9
                  cases b9 with
                  | false =>
                    rw [if_neg Bool.false_ne_true] at el7
                    show LcU _ _ _ _ _ _ _ _ _ _ _ _ _ _ _ _ _ _
                    split at el7
                    · rename_i hck
                      obtain ⟨b1', b2', b3', b4'⟩ := R8.pinback f7.T e79 R11
                      have b2' := b2'.wiped own1
                      have b4' := b4'.wiped own1
                      rw [wσ1] at b2' b4'
                      rw [hlp] at el7
                      exact ⟨⟨_, s9, vs7, acc7, e7.trans b1', fun a u h => b1'.F _ _ (sF _ _ h), sA.trans b1'.A, b2', b4', b3', rl7.mono b1'.F b1'.A, so7.ext b1' hck, si7.ext b1' (frz_chk hfz), el7⟩⟩
                    · cases el7
                  | true =>
                    rw [if_pos rfl] at el7
                    show tE _ _ _ _ _ _
                    obtain ⟨d', s10, ee, el7⟩ := bind_ok el7
                    have ee := noex_ok ee
                    obtain ⟨r', s11, ee, ev'⟩ := bind_ok ee
                    split at el7
                    · rename_i hck
                      refine ⟨w9, s9, R11, ?_⟩
                      rw [ee]
                      intro H7 w10 e10 R12 v' hv'
                      obtain ⟨d'', s12, w11, eq1, e11, R13, rep', _⟩ := val_ok (W := WF) (k := fun _ _ _ _ => True) R12 hv' (by rw [ev']; exact fun _ _ _ _ => trivial)
                      rw [ev'] at eq1; cases eq1
                      have e711 : Ext (w7.pin D (.lst vs7)) w11 := e79.trans (e10.trans e11)
                      obtain ⟨b1', b2', b3', b4'⟩ := R8.pinback f7.T e711 R13
                      rw [hlp] at el7
                      refine ⟨vs7, b3', by rw [rl7.length]; exact hck.1, ⟨_, s10, vs7 ++ [v'], acc7 ++ [d'], e7.trans b1', fun a u h => b1'.F _ _ (sF _ _ h), sA.trans b1'.A, ?_, ?_, upd_same, (rl7.mono b1'.F b1'.A).append (.cons rep' .nil), so7.ext b1' hck.2, si7.ext b1' (frz_chk hfz), el7⟩⟩
                      · have := (b2'.out (o := .lst (vs7 ++ [v'])) b4').wiped own1
                        rw [wσ1] at this; exact this
                      · have := b4'.wiped own1
                        rw [wσ1] at this; exact this
                    · cases el7
                · left
                  have hj' : j = iv1.xs.length := by omega
                  subst hj'
                  refine ⟨wk1.stop _ _ _ _ R8 ⟨⟨sF, sA⟩, si7w⟩, ?_⟩
                  rw [List.drop_length, ← hlp, lcLoop] at el7
                  cases el7
                  have R14 := R8.wiped os
                  have f14 := f7.wiped os
                  rw [wipeS_wipeS hs1, wipe_wipe hs1, wσ] at R14 f14
                  exact ⟨⟨w7, _, vs7, _, e7, R14, f14, hD7, rl7, so7, eL⟩⟩
            · cases eL
          · cases eL
      · left
        have hi' : i = iv.xs.length := by omega
        subst hi'
        refine ⟨wk.stop _ _ _ _ R3 ⟨⟨by rw [← eF2]; exact e3.F, by rw [← eA2]; exact e3.A⟩, so3w⟩, ?_⟩
        rw [List.drop_length, lc2Loop] at eL
        cases eL
        obtain ⟨R4, oo⟩ := R1.backed hw (w' := w3) (by rw [← eF2]; exact e3.F) (by rw [← eA2]; exact e3.A) R3
        obtain ⟨w4, e4, R5, z1, z2, z3⟩ := ex w3 _ _ _ e3 R4
        refine (q H2 w4 e4 R5).here R5 _ ⟨D, vs, rfl, hD3, by rw [z1, z2]; exact rl, ⟨by rw [z1]; exact f3.F, z3 D f3.T, by rw [z2]; exact f3.A, fun j h => ?_⟩⟩
        rcases unlock_own h with h | h
        · exact f3.own j (oo j D h)
        · obtain ⟨o, z⟩ := R1.inOwn h
          rw [hD] at z; cases z
  · exact q.elim
theorem sv_lc2 {elt tg iter tg1 iter1 : Expr} {ifs ifs1 : List Expr} {scope : Scope} {own : List (Str × Nat)} {own1 : List Nat} {me : ME} {t t1 : Tg} {src src1 : MI} {cond cond1 : Option ME} (hc : X.calm = true) (hN : X.N.Nodup) (hi : PI X tg iter (tI G W (evI L src))) (ok : BlkOk X.N X.env.scope scope own)
    (ht : tslots t ⊆ own.map (·.2)) (ht1 : tslots t1 ⊆ own1) (hs1 : ∀ i ∈ own1, i ∈ own.map (·.2))
    (hg : ∀ (s : Shared) (H : Hp) (C : Addr) (cl : List (Str × Addr)) (fp : List Addr), PG (X.blk s H scope (compEnvC scope cl C X.env) fp) tg (tgR G t))
    (hcn : ∀ (s : Shared) (H : Hp) (C : Addr) (cl : List (Str × Addr)) (fp : List Addr), PTs (X.blk s H scope (compEnvC scope cl C X.env) fp) ifs (tT G WF (cndM L cond)))
    (hi1 : ∀ (s : Shared) (H : Hp) (C : Addr) (cl : List (Str × Addr)) (fp : List Addr), PI (X.blk s H scope (compEnvC scope cl C X.env) fp) tg1 iter1 (tI G WF (evI L src1)))
    (hg1 : ∀ (s : Shared) (H : Hp) (C : Addr) (cl : List (Str × Addr)) (fp : List Addr), PG (X.blk s H scope (compEnvC scope cl C X.env) fp) tg1 (tgR G t1))
    (hcn1 : ∀ (s : Shared) (H : Hp) (C : Addr) (cl : List (Str × Addr)) (fp : List Addr), PTs (X.blk s H scope (compEnvC scope cl C X.env) fp) ifs1 (tT G WF (cndM L cond1)))
    (he : ∀ (s : Shared) (H : Hp) (C : Addr) (cl : List (Str × Addr)) (fp : List Addr), PE (X.blk s H scope (compEnvC scope cl C X.env) fp) elt (tE G WF (ev L me))) (hs : ∀ x, foldedSetIterable iter X.env x = pure x) (hs2 : ∀ env x, foldedSetIterable iter1 env x = pure x) :
    PE X (.ListComp elt [⟨tg, iter, ifs, 0⟩, ⟨tg1, iter1, ifs1, 0⟩] scope pos) (tE G W (ev L (.lc2 me t src cond t1 src1 cond1 (own.map (·.2)) own1))) :=
  (pe_lc2 hc hN hi ok hs1 hg hcn hi1 hg1 hcn1 he hs hs2).imp fun σ H Q h => lc2_imp ht ht1 hs1 h
theorem sv_nev {e : Expr} : PE X e (tE G W (ev L .nevE)) := ⟨fun pins s σ H Q I h => by
  obtain ⟨w, ρ, R, g⟩ := h
  rw [ev] at g
  exact g.elim⟩
theorem st_nev {e : Expr} : PT X e (tT G W (tst (ev L .nevE))) := ⟨fun pins s σ H Q I h => by
  obtain ⟨w, ρ, R, g⟩ := h
  unfold tst at g
  rw [ev] at g
  exact g.elim⟩
end
end Mq

/-! MqBool: and, or; a list built on one line; items augmented. -/
namespace Mq
open PySem L2
section
variable {G : Gx} {W : WX} {w w1 w2 w' : Wd} {ρ ρ' ρ1 : SS} {σ σ' : L2.St} {H H1 : Hp} {X : Cx} {pos : Pos} {L : Fns} {r : RV} {v : V} {ys : List Dt} {D : Ends}
def bop2 : Bool → BoolOp
  | true => .And
  | false => .Or
theorem evB_one {a : Bool} {m : ME} : evB L a [m] = ev L m := by funext s; rw [evB]
theorem evB_cons {a : Bool} {m n : ME} {ms : List ME} {s : SS} : evB L a (m :: n :: ms) s = (ev L m s).bind fun x s => (asB x s).bind fun k s => if k == a then evB L a (n :: ms) s else .ok (.v (.bl k)) s := by
  rw [evB]
  intro h; cases h
theorem tst_cons {a : Bool} {m n : ME} {ms : List ME} {s : SS} : tst (evB L a (m :: n :: ms)) s = (tst (ev L m) s).bind fun k s => if k == a then tst (evB L a (n :: ms)) s else .ok k s := by
  unfold tst
  rw [evB_cons]
  cases ev L m s with
  | no => rfl
  | ex c fs t => rfl
  | ok x t =>
    show ((asB x t).bind _).bind asB = (asB x t).bind _
    cases asB x t with
    | no => rfl
    | ex c fs t => rfl
    | ok k t =>
      show (if (k == a) = true then _ else _ : Out SS RV).bind asB = if (k == a) = true then _ else _
      split <;> rfl
theorem sw_bool1 {a : Expr} {b : Bool} {m : ME} (h : PT X a (tT G W (tst (ev L m)))) : PW X (.BoolOp (bop2 b) [a] pos) (tT G W (tst (evB L b [m]))) := by
  rw [evB_one]
  cases b
  · exact pw_or1 h
  · exact pw_and1 h
theorem sw_bool {a b : Expr} {rest : List Expr} {k : Bool} {m n : ME} {ms : List ME} (h : PT X a (tT G W (tst (ev L m)))) (h2 : PW X (.BoolOp (bop2 k) (b :: rest) pos) (tT G W (tst (evB L k (n :: ms))))) :
    PW X (.BoolOp (bop2 k) (a :: b :: rest) pos) (tT G W (tst (evB L k (m :: n :: ms)))) := by
  cases k
  · refine (pw_or h h2).imp fun σ H Q h => ?_
    obtain ⟨w, ρ, R, g⟩ := h
    rw [tst_cons] at g
    refine ⟨w, ρ, R, g.bind.mono fun c ρ1 w1 H1 _ e1 R1 q => ?_⟩
    cases c
    · exact ⟨w1, ρ1, R1, q⟩
    · exact q.here R1
  · refine (pw_and h h2).imp fun σ H Q h => ?_
    obtain ⟨w, ρ, R, g⟩ := h
    rw [tst_cons] at g
    refine ⟨w, ρ, R, g.bind.mono fun c ρ1 w1 H1 _ e1 R1 q => ?_⟩
    cases c
    · exact q.here R1
    · exact ⟨w1, ρ1, R1, q⟩
theorem sv_bool1 {a : Expr} {b : Bool} {m : ME} (h : PE X a (tE G W (ev L m))) : PE X (.BoolOp (bop2 b) [a] pos) (tE G W (evB L b [m])) := by
  rw [evB_one]; exact pe_one h
theorem sv_bool {a b : Expr} {rest : List Expr} {k : Bool} {m n : ME} {ms : List ME} (h : PE X a (tE G W (ev L m))) (h2 : PE X (.BoolOp (bop2 k) (b :: rest) pos) (tE G W (evB L k (n :: ms)))) :
    PE X (.BoolOp (bop2 k) (a :: b :: rest) pos) (tE G W (evB L k (m :: n :: ms))) := by
  have st : ∀ {σ : L2.St} {H : Hp} {Q : VK}, tE G W (evB L k (m :: n :: ms)) σ H Q → tE G W (ev L m) σ H fun x H1 => ∃ c, x = .bl c ∧ if c = k then tE G W (evB L k (n :: ms)) σ H1 Q else Q (.bl c) H1 := fun {σ H Q} h => by
    obtain ⟨w, ρ, R, g⟩ := h
    rw [evB_cons] at g
    refine ⟨w, ρ, R, g.bind.mono fun x ρ1 w1 H1 _ e1 R1 q v hv => ?_⟩
    unfold asB at q
    split at q
    · rename_i c _
      obtain rfl := Rep.inv_bl hv
      refine ⟨c, rfl, ?_⟩
      have q : Go G W w1 σ (if (c == k) = true then evB L k (n :: ms) ρ1 else .ok (.v (.bl c)) ρ1) _ := q
      by_cases e : c = k
      · rw [if_pos e]
        rw [if_pos (by simp [e])] at q
        exact ⟨w1, ρ1, R1, q⟩
      · rw [if_neg e]
        rw [if_neg (by simp [e])] at q
        exact q.here R1 _ (.bl c)
    · exact q.elim
  cases k
  · refine (pe_or h h2).imp fun σ H Q h => ?_
    obtain ⟨w, ρ, R, g⟩ := st h
    refine ⟨w, ρ, R, g.mono fun x ρ1 w1 H1 _ e1 R1 q v hv => ?_⟩
    obtain ⟨c, e, q⟩ := q v hv
    refine ⟨c, e, ?_⟩
    cases c
    · rw [if_neg Bool.false_ne_true]; rw [if_pos rfl] at q; exact q
    · rw [if_pos rfl]; rw [if_neg (by decide)] at q; exact q
  · refine (pe_and h h2).imp fun σ H Q h => ?_
    obtain ⟨w, ρ, R, g⟩ := st h
    refine ⟨w, ρ, R, g.mono fun x ρ1 w1 H1 _ e1 R1 q v hv => ?_⟩
    obtain ⟨c, e, q⟩ := q v hv
    refine ⟨c, e, ?_⟩
    cases c
    · rw [if_neg Bool.false_ne_true]; rw [if_neg (by decide)] at q; exact q
    · rw [if_pos rfl]; rw [if_pos rfl] at q; exact q
theorem ev_bool {a : Bool} {ms : List ME} : ev L (.bool a ms) = evB L a ms := by funext s; rw [ev]
/-- a list built and named on one line -/
theorem ss_asgLc {i : Nat} {x : Str} {py : Pos} {elt tg iter : Expr} {ifs : List Expr} {scope : Scope} {own : List (Str × Nat)} {spos : Pos} {me : ME} {t : Tg} {src : MI} {cond : Option ME} (hc : X.calm = true) (hN : X.N.Nodup) (hy : X.N[i]? = some x) (hyl : X.env.scope.names.lookup x = some .local)
    (hsw : swapsWith (.ListComp elt [⟨tg, iter, ifs, 0⟩] scope pos) (some (.Name x py)) spos.line X.env = pure true) (hi : PI X tg iter (tI G W (evI L src))) (ok : BlkOk X.N X.env.scope scope own)
    (ht : tslots t ⊆ own.map (·.2))
    (hg : ∀ (s : Shared) (H : Hp) (C : Addr) (cl : List (Str × Addr)) (fp : List Addr), PG (X.blk s H scope (compEnvC scope cl C X.env) fp) tg (tgR G t))
    (hcn : ∀ (s : Shared) (H : Hp) (C : Addr) (cl : List (Str × Addr)) (fp : List Addr), PTs (X.blk s H scope (compEnvC scope cl C X.env) fp) ifs (tT G WF (cndM L cond)))
    (he : ∀ (s : Shared) (H : Hp) (C : Addr) (cl : List (Str × Addr)) (fp : List Addr), PE (X.blk s H scope (compEnvC scope cl C X.env) fp) elt (tE G WF (ev L me))) (hs : ∀ x, foldedSetIterable iter X.env x = pure x) :
    PS X (.Assign [.Name x py] (.ListComp elt [⟨tg, iter, ifs, 0⟩] scope pos) spos) (tS G W (exec L (.asg i (.lc me t src cond (own.map (·.2)))))) :=
  (ps_setLc hc hN hy hyl hsw hi ok hg hcn he hs).imp fun D σ H h => by
    obtain ⟨w, ρ, R, g⟩ := h
    rw [exec] at g
    exact lc_imp ht ⟨w, ρ, R, g.bind.mono fun r ρ1 w1 H1 _ e1 R1 q v hv => asg_step R1 hv q⟩
theorem ss_asgLc2 {i : Nat} {x : Str} {py : Pos} {elt tg iter tg1 iter1 : Expr} {ifs ifs1 : List Expr} {scope : Scope} {own : List (Str × Nat)} {own1 : List Nat} {spos : Pos} {me : ME} {t t1 : Tg} {src src1 : MI} {cond cond1 : Option ME} (hc : X.calm = true) (hN : X.N.Nodup) (hy : X.N[i]? = some x) (hyl : X.env.scope.names.lookup x = some .local)
    (hsw : swapsWith (.ListComp elt [⟨tg, iter, ifs, 0⟩, ⟨tg1, iter1, ifs1, 0⟩] scope pos) (some (.Name x py)) spos.line X.env = pure true) (hi : PI X tg iter (tI G W (evI L src))) (ok : BlkOk X.N X.env.scope scope own)
    (ht : tslots t ⊆ own.map (·.2)) (ht1 : tslots t1 ⊆ own1) (hs1 : ∀ i ∈ own1, i ∈ own.map (·.2))
    (hg : ∀ (s : Shared) (H : Hp) (C : Addr) (cl : List (Str × Addr)) (fp : List Addr), PG (X.blk s H scope (compEnvC scope cl C X.env) fp) tg (tgR G t))
    (hcn : ∀ (s : Shared) (H : Hp) (C : Addr) (cl : List (Str × Addr)) (fp : List Addr), PTs (X.blk s H scope (compEnvC scope cl C X.env) fp) ifs (tT G WF (cndM L cond)))
    (hi1 : ∀ (s : Shared) (H : Hp) (C : Addr) (cl : List (Str × Addr)) (fp : List Addr), PI (X.blk s H scope (compEnvC scope cl C X.env) fp) tg1 iter1 (tI G WF (evI L src1)))
    (hg1 : ∀ (s : Shared) (H : Hp) (C : Addr) (cl : List (Str × Addr)) (fp : List Addr), PG (X.blk s H scope (compEnvC scope cl C X.env) fp) tg1 (tgR G t1))
    (hcn1 : ∀ (s : Shared) (H : Hp) (C : Addr) (cl : List (Str × Addr)) (fp : List Addr), PTs (X.blk s H scope (compEnvC scope cl C X.env) fp) ifs1 (tT G WF (cndM L cond1)))
    (he : ∀ (s : Shared) (H : Hp) (C : Addr) (cl : List (Str × Addr)) (fp : List Addr), PE (X.blk s H scope (compEnvC scope cl C X.env) fp) elt (tE G WF (ev L me))) (hs : ∀ x, foldedSetIterable iter X.env x = pure x) (hs2 : ∀ env x, foldedSetIterable iter1 env x = pure x) :
    PS X (.Assign [.Name x py] (.ListComp elt [⟨tg, iter, ifs, 0⟩, ⟨tg1, iter1, ifs1, 0⟩] scope pos) spos) (tS G W (exec L (.asg i (.lc2 me t src cond t1 src1 cond1 (own.map (·.2)) own1)))) :=
  (ps_setLc2 hc hN hy hyl hsw hi ok hs1 hg hcn hi1 hg1 hcn1 he hs hs2).imp fun D σ H h => by
    obtain ⟨w, ρ, R, g⟩ := h
    rw [exec] at g
    exact lc2_imp ht ht1 hs1 ⟨w, ρ, R, g.bind.mono fun r ρ1 w1 H1 _ e1 R1 q v hv => asg_step R1 hv q⟩
theorem ss_asgALc {i : Nat} {x : Str} {py : Pos} {elt tg iter : Expr} {ifs : List Expr} {scope : Scope} {own : List (Str × Nat)} {spos : Pos} {me : ME} {t : Tg} {src : MI} {cond : Option ME} (hc : X.calm = true) (hN : X.N.Nodup) (hy : X.N[i]? = some x) (hyl : X.env.scope.names.lookup x = some .local)
    (hsw : swapsWith (.ListComp elt [⟨tg, iter, ifs, 0⟩] scope pos) (some (.Name x py)) spos.line X.env = pure true) (hi : PI X tg iter (tI G W (evI L src))) (ok : BlkOk X.N X.env.scope scope own)
    (ht : tslots t ⊆ own.map (·.2))
    (hg : ∀ (s : Shared) (H : Hp) (C : Addr) (cl : List (Str × Addr)) (fp : List Addr), PG (X.blk s H scope (compEnvC scope cl C X.env) fp) tg (tgR G t))
    (hcn : ∀ (s : Shared) (H : Hp) (C : Addr) (cl : List (Str × Addr)) (fp : List Addr), PTs (X.blk s H scope (compEnvC scope cl C X.env) fp) ifs (tT G WF (cndM L cond)))
    (he : ∀ (s : Shared) (H : Hp) (C : Addr) (cl : List (Str × Addr)) (fp : List Addr), PE (X.blk s H scope (compEnvC scope cl C X.env) fp) elt (tE G WF (ev L me))) (hs : ∀ x, foldedSetIterable iter X.env x = pure x) :
    PS X (.Assign [.Name x py] (.ListComp elt [⟨tg, iter, ifs, 0⟩] scope pos) spos) (tS G W (exec L (.asg i (.alloc (.lc me t src cond (own.map (·.2))))))) :=
  (ps_setLc hc hN hy hyl hsw hi ok hg hcn he hs).imp fun D σ H h => by
    obtain ⟨w, ρ, R, g⟩ := h
    rw [exec, ev] at g
    exact lc_imp ht ⟨w, ρ, R, g.bind.bind.mono fun x ρ1 w1 H1 _ e1 R1 q v hv => by
      cases x with
      | nl xs =>
        obtain ⟨p, vs, rfl, hp, r, f⟩ := hv
        obtain ⟨e2, R2, a2⟩ := R1.alloc f hp r
        exact asg_step (r := .v (.ref ρ1.st.length)) R2 (Rep.ref a2) (q.at e2 R2)
      | v d => exact q.elim
      | bw i => exact q.elim⟩
theorem pget_list : PGet X (rIxL X.K) := by
  intro pins s σ H x y v u Q I rx ry h
  obtain ⟨p, xs, i, z, rfl, rfl, hq, he, q⟩ := h
  cases rx
  obtain ⟨t, rfl⟩ := ry
  obtain ⟨its, r, pl, hz⟩ := I.list hq
  obtain ⟨j, h1, h2, h3, h4, h5⟩ := atI_get he
  obtain ⟨w, ew, rw'⟩ := r.get h2
  have hl := r.length
  have hn := line63
  have fin : EP X pins σ Q w s := ⟨z, H, I, rw', q⟩
  by_cases h0 : 0 ≤ i
  · have hj : i.toNat = j := by
      rw [seqIndex_of h0 h5] at h1
      exact Option.some.inj h1
    exact wpAny_getItem_list pl.isList h0 (by omega) (by rw [hj]; simpa using ew) fin
  · have hj : (i + (its.toArray.size : Int)).toNat = j := by
      rw [seqIndex_neg (by omega) h4] at h1
      rw [List.size_toArray, ← hl]
      exact Option.some.inj h1
    exact wpAny_getItem_list_neg pl.isList (by omega) (by rw [List.size_toArray] <;> omega) (by omega) (by rw [hj]; simpa using ew) fin
theorem ss_augi {o i e : Expr} {op : Bop} {mo mi me : ME} {tpos : Pos} (hop : op = .add ∨ op = .sub) (hK : X.K = G.K)
    (ha : ∀ ov iv new, augStore i ov iv new = (do holding [new, ov, iv] (setItem ov iv new); release [new, ov, iv] []; pure .next))
    (ho : PE X o (tE G W (ev L mo))) (hi : PE X i (tE G W (ev L mi))) (he : PE X e (tE G W (ev L me))) : PS X (.AugAssign (.Subscript o i tpos) (aop op) e pos) (tS G W (exec L (.augi mo mi op me))) :=
  (ps_augS ho hi pget_list he (ip_aug op hop) set_list ha).imp fun D σ H h => by
    obtain ⟨w, ρ, R, g⟩ := h
    rw [exec] at g
    rw [hK]
    refine ⟨w, ρ, R, g.bind.mono fun r ρ1 w1 H1 _ e1 R1 q vo hr => ?_⟩
    obtain ⟨w2, R2, _, _, g2⟩ := pend R1 hr (q.bind (σ := σ))
    refine ⟨w2, ρ1, R2, g2.mono fun k ρ3 w3 H3 _ e3 R3 q3 vk hk => ?_⟩
    obtain ⟨w4, e4, R4, hr4, _, _, hkk, q4⟩ := q3
    obtain ⟨k, rfl, rfl, q4⟩ := asI_ok R4 (hkk _ _ hk) q4
    have q4 : GoS G W w4 (match (rdt ρ3 r).bind fun xs => atI xs k with
      | some (.int x) => (ev L me ρ3).bind fun y s => (asI y s).bind fun y s => (augI op x y s).bind fun z s => (wrL r (setF k (.int z)) s).bind fun _ s => .ok .nx s
      | _ => .no) D := q4
    split at q4
    · rename_i x ex
      simp only [Option.bind_eq_some_iff] at ex
      obtain ⟨xs, exs, ex⟩ := ex
      obtain ⟨p, vs, rfl, hp, rl⟩ := rdt_ok R4 hr4 exs
      obtain ⟨u, eu, ru⟩ := atI_rep rl ex
      obtain rfl := Rep.inv_int ru
      refine ⟨p, vs, k, _, rfl, rfl, SqL.of hp, eu, ?_⟩
      obtain ⟨w5, R5, _, _, g5⟩ := pend R4 hr4 (q4.bind (σ := σ))
      refine ⟨w5, ρ3, R5, g5.mono fun y ρ6 w6 H6 _ e6 R6 q6 vy hy => ?_⟩
      obtain ⟨w7, e7, R7, hr7, _, _, hyy, q7⟩ := q6
      obtain ⟨y, rfl, rfl, q7⟩ := asI_ok R7 (hyy _ _ hy) q7
      obtain ⟨z, q7, fin⟩ := augI_ok q7
      exact fin (seti_step (D := D) (N := D.nx) R7 hr7 (.int z) q7)
    · exact q4.elim
end
end Mq

/-! MqEq: == and != by an own __eq__. -/
namespace Mq
open PySem PySem.W L2
section
variable {prog : Program} {w : World} {A : Around} {E : Value → Shared → Prop} {s : Shared} {K : Frag} {x C L f : Addr} {h₀ : Heap} {m : Str → Option Value} {ox : Obj} {od : Option Obj} {b tb : Value}
/-- the slot of object for != asks the own == -/
theorem neSlot_run {Q : Fin → Shared → Prop} (hu : A.units < cLine) (X : K.In s.heap) (I : InstAt s.heap x ox C od) (he : findIn K (.ref C) "__eq__" = some (some (.ref f))) (hf : isFn K (.ref f) = true)
    (hc : wpAny (model prog w) A (call (.ref f) [.ref x, b]) (fun v s' => ∃ r, v = .bool r ∧ Q (.done (.ret (.bool (!r)))) s') E s) :
    wpAny (model prog w) A (Builtin.«object.__ne__» ⟨[.ref x, b], []⟩) Q E s := by
  obtain ⟨hp, g, d, t, os⟩ := s
  unfold Builtin.«object.__ne__»
  repeat (first
    | with_reducible refine wpAny_cRoomFor hu ?_
    | (refine wpAny_bind (m := callSpecialIfBound? (.ref x) (Str.ofString "__eq__") [b]) (ifBound_K X I he hf (wpAny_mono hc (fun v s2 hv => by
          obtain ⟨r, rfl, q⟩ := hv
          repeat (first | exact q | exact wpAny_pure q | exact wpAny_truthy_bool q | (refine wpAny_bind (m := truthy (.bool _)) (wpAny_truthy_bool ?_)) | wp_step)) fun _ _ z => z)))
    | wp_step)
theorem try_ne {Q : Option Value → Shared → Prop} (hu : A.units + 1 < cLine) (X : K.In s.heap) (I : InstAt s.heap x ox C od) (hne : findIn K (.ref C) "__ne__" = some (some (.builtin "object.__ne__"))) (ho : subIn K (.ref C) (.type "object") = some true)
    (he : findIn K (.ref C) "__eq__" = some (some (.ref f))) (hf : isFn K (.ref f) = true)
    (hc : wpAny (model prog w) A.in1 (call (.ref f) [.ref x, b]) (fun v s' => ∃ r, v = .bool r ∧ Q (some (.bool (!r))) s') E s) :
    wpAny (model prog w) A (tryCompare (.ref x) "__ne__" b) Q E s := by
  have S := F.cmp_object.ne
  have inner : wpAny (model prog w) A (call (.builtin "object.__ne__") ([.ref x] ++ [b])) (fun v s' => ∃ r, v = .bool r ∧ Q (some (.bool r)) s') E s := by
    refine wpAny_call (codeAny_call_builtin S.plain F.cmpEntry_ne (check_slot F.cmpKind_ne F.cmpSplit_ne (I.type.andThen (looks_subIn X ho)) (F.cmpArgs_ne _ _) ?_))
    refine neSlot_run (A := A.in1) hu X I he hf (wpAny_mono hc (fun v s' hv => ?_) fun _ _ z => z)
    obtain ⟨r, rfl, q⟩ := hv
    exact ⟨r, rfl, _, rfl, q⟩
  have sp : wpAny (model prog w) A (callSpecialIfBound? (.ref x) "__ne__" [b]) (fun r s' => ∃ k, r = some (.bool k) ∧ Q (some (.bool k)) s') E s := by
    unfold callSpecialIfBound? bindSpecialIfBound?
    refine wpAny_holding (wpAny_bind (wpAny_bind (wpAny_bind (I.type.here ((looks_findIn X hne).here ?_)))))
    simp only [S.bind]
    refine wpAny_bind (wpAny_askSetting (wpAny_ite ?_))
    have rest : wpAny (model prog w) A (call (.builtin "object.__ne__") ([.ref x] ++ [b]) >>= fun v => pure (some v)) (fun r s' => ∃ k, r = some (.bool k) ∧ Q (some (.bool k)) s') E s := wpAny_bind (wpAny_mono inner (fun v s' hv => by
        obtain ⟨r, rfl, q⟩ := hv
        exact wpAny_pure ⟨r, rfl, q⟩) fun _ _ z => z)
    split
    · exact wpAny_bind (wpAny_pure (wpAny_pure rest))
    · exact wpAny_tryCatch (wpAny_bind (wpAny_pure (wpAny_pure rest)))
  unfold tryCompare
  refine wpAny_bind (wpAny_mono sp (fun r s' hv => ?_) fun _ _ z => z)
  obtain ⟨k, rfl, q⟩ := hv
  exact wpAny_pure q
theorem ne_K {Q : Value → Shared → Prop} (hu : A.units + 1 < cLine) (X : K.In s.heap) (I : InstAt s.heap x ox C od) (hb : Looks (model prog w) s.heap (typeOf b) tb) (hn : notFirst K C tb = true)
    (hne : findIn K (.ref C) "__ne__" = some (some (.builtin "object.__ne__"))) (ho : subIn K (.ref C) (.type "object") = some true) (he : findIn K (.ref C) "__eq__" = some (some (.ref f))) (hf : isFn K (.ref f) = true)
    (hc : wpAny (model prog w) A.in1 (call (.ref f) [.ref x, b]) (fun v s' => ∃ r, v = .bool r ∧ Q (.bool (!r)) s') E s) : wpAny (model prog w) A (richCompare .NotEq (.ref x) b) Q E s := by
  have one : wpAny (model prog w) A (tryCompare (.ref x) (cmpInfo .NotEq).2.1 b) (fun r s' => ∃ v, r = some v ∧ Q v s') E s :=
    try_ne hu X I hne ho he hf (wpAny_mono hc (fun v s' hv => let ⟨r, e, q⟩ := hv; ⟨r, e, _, rfl, q⟩) fun _ _ z => z)
  unfold richCompare
  simp only [oneThing_ref]
  refine wpAny_holding (wpAny_bind (wpAny_cRoomFor (Nat.lt_of_succ_lt hu) ?_))
  refine wpAny_bind (I.type.here (wpAny_bind (hb.here ?_)))
  split
  · rename_i q
    have e : subIn K tb (.ref C) = some false := by
      rcases Bool.or_eq_true_iff.mp hn with e | e
      · rw [beq_iff_eq.mp e] at q; simp at q
      · exact beq_iff_eq.mp e
    refine wpAny_bind ((looks_subIn X e).here ?_)
    rw [if_neg Bool.false_ne_true]
    refine wpAny_bind (wpAny_mono one (fun r t hr => ?_) fun _ _ y => y)
    obtain ⟨v, rfl, q⟩ := hr
    exact wpAny_pure q
  · refine wpAny_bind (wpAny_pure ?_)
    rw [if_neg Bool.false_ne_true]
    refine wpAny_bind (wpAny_mono one (fun r t hr => ?_) fun _ _ y => y)
    obtain ⟨v, rfl, q⟩ := hr
    exact wpAny_pure q
end
section
variable {G : Gx} {X : Cx} {w w1 : Wd} {ρ : SS} {σ : L2.St} {H : Hp} {L : Fns} {W : WX} {pos : Pos} {pins : List (Addr × Obj)} {s : Shared} {k : Nat}
def XF : XK := fun _ _ _ => False
/-- a value's class, as == asks for it -/
inductive TyL (K : PySem.W.Frag) (H : Hp) : V → Value → Prop where
  | non : TyL K H .non (.type "NoneType")
  | bl (x : Bool) : TyL K H (.bl x) (.type "bool")
  | int (i : Int) : TyL K H (.int i) (.type "int")
  | str (x : Str) : TyL K H (.str x) (.type "str")
  | lst {a : Addr} {xs : List V} (e : H a = some (.lst xs)) : TyL K H (.ref a) (.type "list")
  | tup {a : Addr} {xs : List V} (e : SqT K H a xs) : TyL K H (.ref a) (.type "tuple")
  | dct {a : Addr} {kvs : List (Key × V)} (e : H a = some (.dK kvs)) : TyL K H (.ref a) (.type "dict")
  | ins {a C dx : Addr} {fs : List (Str × V)} (e : H a = some (.ins C dx fs)) : TyL K H (.ref a) (.ref C)
theorem tyl_looks {x : V} {u t : Value} (I : Inv X pins σ H s) (r : RelV x u) (h : TyL X.K H x t) : Looks (model X.prog X.w) s.heap (typeOf u) t := by
  cases h with
  | non => cases r; exact Looks.of_pure rfl
  | bl b => cases r; exact Looks.of_pure rfl
  | int i => obtain ⟨t, rfl⟩ := r; exact Looks.of_pure rfl
  | str i => obtain ⟨t, rfl⟩ := r; exact Looks.of_pure rfl
  | lst e =>
    cases r
    obtain ⟨z, its, n, q, e2⟩ := I.hok _ _ e
    exact (Looks.ld e2).andThen .now
  | tup e =>
    cases r
    obtain ⟨its, q, ⟨o, ho, hc, _⟩, _⟩ := I.tuple e
    rw [← hc]
    exact (Looks.ld ho).andThen .now
  | dct e =>
    cases r
    obtain ⟨_, hd, vs, _, dd⟩ := dk_of I.hok e
    obtain ⟨ob, _, _, h1, h2, _⟩ := dd
    rw [← h2.1]
    exact (Looks.ld h1).andThen .now
  | ins e =>
    cases r
    obtain ⟨mA, J, _⟩ := ins_get I.hok e
    obtain ⟨od, J, _⟩ := J.look
    exact J.type
/-- a def is run, at or below the running body -/
theorem call_sub {f : Addr} {fd : FuncData} {ps : List Str} {sp : Sp} {A : Around} {us : List Value} {vs : List V} {Q : VK} (Fn : FnOk X.prog X.w X.K X.mg X.base (L2.CX X.prog X.w) k f fd ps sp) (hb : Binds X.K fd ps []) (hr : Room k A) (hf : A.frames = X.A.frames)
    (I : Inv X pins σ H s) (r : Vals vs us) (hs : sp vs H Q XF) : wpAny (model X.prog X.w) A (call (.ref f) us) (EP X pins σ Q) X.xe s := by
  have hl : us.length = ps.length := by rw [← r.length]; exact Fn.len _ _ _ _ hs
  have b0 : BindsTo s fd ⟨us, []⟩ (ps.zip us) := by
    have z := hb s us I.kIn (by rw [List.append_nil]; exact hl)
    rwa [List.append_nil] at z
  have e0 : Env0 X.prog X.w X.K X.mg X.base A X.stack s H :=
    have z := I.env0
    ⟨hf ▸ z.frames, z.mod, z.bs, z.bsz, z.funs, z.frf, z.hok, z.bare⟩
  refine wpAny_call (codeAny_mono (Fn.run A X.stack s H ⟨us, []⟩ us vs Q XF hr e0 b0 r hs) fun r s2 q => ?_)
  match r, q with
  | .error e, q =>
    obtain ⟨_, _, _, _, _, _, _, _, _, _, _, _, z⟩ := q
    exact z.elim
  | .ok (.ret u), q => exact I.after q
/-- what of the text a class with its own == must have -/
structure OwnN (K : PySem.W.Frag) (C : Addr) : Prop where
  ne : findIn K (.ref C) "__ne__" = some (some (.builtin "object.__ne__"))
  ob : subIn K (.ref C) (.type "object") = some true
def rOwn (X : Cx) (k : Nat) (neg : Bool) : R2 := fun x y H Q => ∃ (a C dx : Addr) (fs : List (Str × V)) (f : Addr) (fd : FuncData) (ps : List Str) (sp : Sp) (tb : Value), x = .ref a ∧ H a = some (.ins C dx fs) ∧ Meth X.K C "__eq__" f ∧ Binds X.K fd ps [] ∧ FnOk X.prog X.w X.K X.mg X.base (L2.CX X.prog X.w) k f fd ps sp ∧
  OwnN X.K C ∧ TyL X.K H y tb ∧ notFirst X.K C tb = true ∧ sp [x, y] H (fun v H' => ∃ r, v = .bl r ∧ Q (.bl (r != neg)) H') XF
def eqOp (neg : Bool) : CmpOp := if neg then .NotEq else .Eq
theorem op_own {neg : Bool} (hr : Room (k + 1) X.A) (hu : X.A.units + 64 < cLine) : OpR X (compareOp (eqOp neg)) (rOwn X k neg) := by
  intro pins s σ H x y v u Q I rx ry h
  obtain ⟨a, C, dx, fs, f, fd, ps, sp, tb, rfl, hH, hm, hb, F, hO, hT, hn, hs⟩ := h
  cases rx
  obtain ⟨mA, J, _⟩ := ins_get I.hok hH
  obtain ⟨od, J, _⟩ := J.look
  have hl := tyl_looks I ry hT
  have rv : Vals [V.ref a, y] [Value.ref a, u] := .cons rfl (.cons ry .nil)
  cases neg with
  | false =>
    obtain ⟨m, hF⟩ := I.fr
    show wpAny (model X.prog X.w) X.A (richCompare .Eq (.ref a) u) (EP X pins σ Q) X.xe s
    refine cmp_K (op := .Eq) (tb := tb) (by omega) hF I.ok.mod.kin J hl hn hm.at_ hm.fn (wpAny_mono (call_sub F hb (hr.mono (Nat.le_succ _)) rfl I rv hs) (fun v2 s2 q => ?_) fun _ _ z => z)
    obtain ⟨z, H2, I2, rz, r, rfl, q⟩ := q
    cases rz
    exact ⟨.bl r, H2, I2, rfl, by simpa using q⟩
  | true =>
    show wpAny (model X.prog X.w) X.A (richCompare .NotEq (.ref a) u) (EP X pins σ Q) X.xe s
    refine ne_K (tb := tb) (by omega) I.kIn J hl hn hO.ne hO.ob hm.at_ hm.fn (wpAny_mono (call_sub F hb hr.in1 rfl I rv hs) (fun v2 s2 q => ?_) fun _ _ z => z)
    obtain ⟨z, H2, I2, rz, r, rfl, q⟩ := q
    cases rz
    exact ⟨r, rfl, .bl (!r), H2, I2, rfl, by simpa using q⟩
theorem go_nx {a : Type} {o : Out SS a} {k : a → SS → Wd → Hp → Prop} (g : Go G W w σ o.noex k) : Go G WF w σ o k := by
  cases o with
  | no => exact g
  | ex c fs t => exact g.elim
  | ok y t => exact g
theorem tyl_ok {a : RV} {va : V} {ty : Ty} (R : Rel G w ρ σ H) (ha : RR G w ρ σ H a va) (h : tyV a ρ = some ty) : ∃ tv, tyVal G ty = some tv ∧ TyL G.K H va tv := by
  cases a with
  | nl xs =>
    simp only [tyV, Option.some.injEq] at h; subst h
    obtain ⟨p, vs, rfl, hp, _⟩ := ha
    exact ⟨_, rfl, .lst hp⟩
  | bw i =>
    have hl : ∀ xs, rdt ρ (.bw i) = some xs → ∃ tv, tyVal G (.b "list") = some tv ∧ TyL G.K H va tv := fun xs e1 => by
      obtain ⟨p, vs, rfl, hp, _⟩ := rdt_ok R ha e1
      exact ⟨_, rfl, .lst hp⟩
    simp only [tyV] at h
    split at h
    · rename_i e; cases h; exact hl _ (by simp only [rdt, e]; rfl)
    · rename_i e; cases h; exact hl _ (by simp only [rdt, e]; rfl)
    · rename_i e; cases h; exact hl _ (by simp only [rdt, e]; rfl)
    · cases h
  | v d =>
    cases d with
    | non => simp only [tyV, Option.some.injEq] at h; subst h; obtain rfl := Rep.inv_non ha; exact ⟨_, rfl, .non⟩
    | bl b => simp only [tyV, Option.some.injEq] at h; subst h; obtain rfl := Rep.inv_bl ha; exact ⟨_, rfl, .bl b⟩
    | int b => simp only [tyV, Option.some.injEq] at h; subst h; obtain rfl := Rep.inv_int ha; exact ⟨_, rfl, .int b⟩
    | str b => simp only [tyV, Option.some.injEq] at h; subst h; obtain rfl := Rep.inv_str ha; exact ⟨_, rfl, .str b⟩
    | tup xs => simp only [tyV, Option.some.injEq] at h; subst h; obtain ⟨p, vs, rfl, hp, _⟩ := Rep.inv_tup ha; exact ⟨_, rfl, .tup (sqt_mono R.subF hp)⟩
    | lst xs => simp only [tyV, Option.some.injEq] at h; subst h; obtain ⟨p, vs, rfl, hp, _⟩ := Rep.inv_lst ha; exact ⟨_, rfl, .lst (R.subF _ _ hp)⟩
    | rol xs => simp [tyV] at h
    | dct => simp only [tyV, Option.some.injEq] at h; subst h; obtain ⟨p, kvs, rfl, hp⟩ := Rep.inv_dct ha; exact ⟨_, rfl, .dct (R.subF _ _ hp)⟩
    | ins c ns vs =>
      simp only [tyV, Option.some.injEq] at h; subst h
      obtain ⟨p, C, dx, fl, rfl, hC, hF, _⟩ := Rep.inv_ins ha
      exact ⟨.ref C, by simp only [tyVal, hC, Option.map_some], .ins (R.subF _ _ hF)⟩
    | ref n =>
      obtain ⟨p, rfl, e2⟩ := Rep.inv_ref ha
      obtain ⟨_, _, mo, e3, m⟩ := R.stR n p e2
      simp only [tyV, e3] at h
      cases mo with
      | l xs => simp only [Option.some.injEq] at h; subst h; obtain ⟨vs, e, _⟩ := m; exact ⟨_, rfl, .lst e⟩
      | i c ns ds => simp only [Option.some.injEq] at h; subst h; obtain ⟨C, dx, fl, hC, hF, _⟩ := m; exact ⟨.ref C, by simp only [tyVal, hC, Option.map_some], .ins hF⟩
/-- what the context must tell of own == -/
structure EqC (G : Gx) (L : Fns) : Prop where
  own : ∀ c C, L.hasM c "__eq__" = true → G.cls c = some C → OwnN G.K C
  nf : ∀ c C ty tv, L.nf c ty = true → G.cls c = some C → tyVal G ty = some tv → notFirst G.K C tv = true
theorem ieq_tOp {neg : Bool} {ma mb : ME} {Q : VK} (hK : X.K = G.K) (hE : EqC G L) (hd : ∀ c, L.hasM c "__eq__" = true → DefM G X k c "__eq__" 2 (L.meth c "__eq__")) (h : tE G W (ev L (.ieq neg ma mb)) σ H Q) : tOp (rOwn X k neg) (tE G W (ev L ma)) (tE G W (ev L mb)) σ H Q := by
  refine two (f := fun x y s => ieqF L neg x y s) (fun w ρ H x y vx vy R hx hy g => ?_) (by
    obtain ⟨w, ρ, R, g⟩ := h
    rw [ev] at g
    exact ⟨w, ρ, R, g⟩)
  unfold ieqF at g
  split at g
  · rename_i c ns vs ty et
    split at g
    · rename_i hc
      simp only [Bool.and_eq_true] at hc
      obtain ⟨tv, etv, hty⟩ := tyl_ok R hy et
      obtain ⟨p, C, dx, fl, rfl, hC, hF, _⟩ := Rep.inv_ins hx
      obtain ⟨f, fd, ps, _, hm, hb, Fn⟩ := (hd c hc.1).ex C hC
      obtain ⟨d, ρ2, w2, _, e2, R2, rd, g2⟩ := val_ok R hy g.bind
      refine ⟨p, C, dx, fl, f, fd, ps, _, tv, rfl, R.subF _ _ hF, hK ▸ hm, hb, Fn, hK ▸ hE.own c C hc.1 hC, hK ▸ hty, hK ▸ hE.nf c C ty tv hc.2 hC etv, ?_⟩
      have g3 := go_nx g2.bind.bind
      refine spD_of (W := WF) R2 (.cons (Rep.mono e2.F e2.A hx) (.cons rd .nil)) rfl (g3.mono fun r ρ3 w3 H3 _ e3 R3 q v hv => ?_)
      unfold asB at q
      split at q
      · obtain rfl := Rep.inv_bl hv
        exact ⟨_, rfl, (q.here R3).here R3 _ (.bl _)⟩
      · exact q.elim
    · exact g.elim
  · exact g.elim
theorem sv_ieq {neg : Bool} {a b : Expr} {ma mb : ME} (hK : X.K = G.K) (hr : Room (k + 1) X.A) (hu : X.A.units + 64 < cLine) (hE : EqC G L) (hd : ∀ c, L.hasM c "__eq__" = true → DefM G X k c "__eq__" 2 (L.meth c "__eq__")) (hm : behindInMarks (eqOp neg) b = false) (ha : PE X a (tE G W (ev L ma))) (hb : PE X b (tE G W (ev L mb))) :
    PE X (.Compare a [eqOp neg] [b] pos) (tE G W (ev L (.ieq neg ma mb))) :=
  (pe_cmpR (op_own hr hu) ha hb hm).imp fun σ H Q h => ieq_tOp hK hE hd h
theorem st_ieq {neg : Bool} {a b : Expr} {ma mb : ME} (hK : X.K = G.K) (hr : Room (k + 1) X.A) (hu : X.A.units + 64 < cLine) (hE : EqC G L) (hd : ∀ c, L.hasM c "__eq__" = true → DefM G X k c "__eq__" 2 (L.meth c "__eq__")) (hm : behindInMarks (eqOp neg) b = false) (ha : PE X a (tE G W (ev L ma))) (hb : PE X b (tE G W (ev L mb))) :
    PT X (.Compare a [eqOp neg] [b] pos) (tT G W (tst (ev L (.ieq neg ma mb)))) :=
  (pt_cmpR (op_own hr hu) ha hb hm).imp fun σ H Q h => ieq_tOp hK hE hd (tE_of_tT h)
/-! ### dicts of which just the class is asked -/
theorem sv_dct0 : PE X (.Dict [] [] pos) (tE G W (ev L (.dct none))) := pe_dnewK.imp fun σ H Q h => by
  obtain ⟨w, ρ, R, g⟩ := h
  rw [ev] at g
  intro p hp
  obtain ⟨e, R', eF⟩ := R.newF (o := .dK []) hp
  exact g.at e R' _ (.dct eF)
theorem sv_dct1 {a b : Str} {ka vb : Expr} (h1 : PE X ka (tC (.str a))) (h2 : PE X vb (tC (.str b))) : PE X (.Dict [some ka] [vb] pos) (tE G W (ev L (.dct (some (a, b))))) := (pe_disp (pps_cons h1 h2 pps_nil) rfl rfl (by simp) (by simp)).imp fun σ H Q h => by
  obtain ⟨w, ρ, R, g⟩ := h
  rw [ev] at g
  intro p hp
  show _ ∧ _
  refine ⟨upd_same, [(.inr a, .str b)], rfl, by simp, ?_⟩
  rw [upd_upd]
  obtain ⟨e, R', eF⟩ := R.newF (o := .dK (mergeK [] [(.inr a, .str b)])) hp
  exact g.at e R' _ (.dct eF)
end
end Mq

/-! MqRev: t[::-1] of a tuple. -/
namespace Mq
open PySem L2 PyProof.Rows HT PySem.Spec
section
variable {pr : Program} {wo : World} {Ar : Around} {Ex : Value → Shared → Prop} {sh : Shared}
theorem adj_rev (n : Nat) : Builtin.Slice.sliceAdjust none none (-1) (n : Int) = ((n : Int) - 1, -1) := by
  unfold Builtin.Slice.sliceAdjust
  simp
theorem pl_rev (n : Nat) : Builtin.Slice.slicePlaces ((n : Int) - 1) (-1) (-1) = n := by
  unfold Builtin.Slice.slicePlaces
  have h1 : ¬ ((-1 : Int) > 0) := by decide
  simp only [h1, if_false]
  rw [show (- -1 : Int) = 1 by decide, Int.ediv_one]
  split <;> omega
theorem fm_congr {a b : Type} {f g : a → Option b} : ∀ {l : List a}, (∀ x ∈ l, f x = g x) → l.filterMap f = l.filterMap g
  | [], _ => rfl
  | x :: r, h => by
    rw [List.filterMap_cons, List.filterMap_cons, h x (List.mem_cons_self ..), fm_congr fun y hy => h y (List.mem_cons_of_mem _ hy)]
theorem rev_pick (its : Array Value) : ((List.range its.size).filterMap fun (j : Nat) => its[((its.size : Int) - 1 + (j : Int) * (-1)).toNat]?).toArray = its.toList.reverse.toArray := by
  rw [← PySem.W.krv_pick]
  unfold PySem.slicePick
  rw [PySem.W.krv_bounds]
  show _ = ((PySem.sliceRange ((its.size : Int) - 1) (-1) (-1)).filterMap (its[·]?)).toArray
  rw [PySem.W.krv_sliceRange, List.filterMap_map]
  congr 1
  refine fm_congr fun j hj => ?_
  have hm := List.mem_range.mp hj
  have e : ((its.size : Int) - 1 + (j : Int) * (-1)).toNat = its.size - 1 - j := by omega
  rw [e]; rfl
theorem app_rev {sl : Addr} {a b c : Value} {n : Nat} {R : Int × Int × Nat → Shared → Prop} (hS : sh.heap.IsSliceOf sl a b c) (pa : IsPart a none) (pb : IsPart b none) (pc : IsPart c (some (-1))) (q : R ((n : Int) - 1, -1, n) sh) :
    wpAny (model pr wo) Ar (Builtin.Slice.sliceApplied (.ref sl) (pure (n : Int))) R Ex sh := by
  obtain ⟨o, e1, e2, e3⟩ := id hS
  unfold Builtin.Slice.sliceApplied Builtin.Slice.sliceFields
  refine wpAny_bind (wpAny_bind (wpAny_field e1 e3 (x := a) rfl (wpAny_bind (wpAny_field e1 e3 (x := b) rfl (wpAny_bind (wpAny_field e1 e3 (x := c) rfl (wpAny_pure ?_)))))))
  refine wpAny_bind (slicePart_ pc ?_)
  show wpAny _ _ (if ((-1 : Int) == 0) = true then _ else _) _ _ sh
  rw [if_neg (by decide)]
  refine wpAny_bind (slicePart_ pa (wpAny_bind (slicePart_ pb (wpAny_bind (wpAny_pure ?_)))))
  show wpAny _ _ (match Builtin.Slice.sliceAdjust none none (-1) (n : Int) with | (lo, hi) => pure (lo, (-1 : Int), Builtin.Slice.slicePlaces lo hi (-1))) _ _ sh
  rw [adj_rev]
  show wpAny _ _ (pure ((n : Int) - 1, (-1 : Int), Builtin.Slice.slicePlaces ((n : Int) - 1) (-1) (-1))) _ _ sh
  rw [pl_rev]
  exact wpAny_pure q
theorem get_rev {t sl : Addr} {its : Array Value} {a b c : Value} {R : Value → Shared → Prop} (hT : IsTup sh.heap t its) (hS : sh.heap.IsSliceOf sl a b c) (pa : IsPart a none) (pb : IsPart b none) (pc : IsPart c (some (-1))) (hz : its.size ≤ sizeLine)
    (q : R (.ref sh.heap.objs.size) { sh with heap := sh.heap.push { cls := .type "tuple", data := .seq its.toList.reverse.toArray } }) : wpAny (model pr wo) Ar (getItem (.ref t) (.ref sl)) R Ex sh := by
  have hz2 : sizeOk (.seq its.toList.reverse.toArray) := by
    show (its.toList.reverse.toArray).size ≤ sizeLine
    rw [List.size_toArray, List.length_reverse, Array.length_toList]
    exact hz
  obtain ⟨o, e1, e2, e3⟩ := id hS
  have tS : sh.TypeIs (.ref sl) "slice" := ⟨o, e1, e2⟩
  unfold getItem
  try with_reducible refine wpAny_holding ?_
  first | refine wpAny_bind (wpAny_pure ?_) | skip
  refine wpAny_bind (wpAny_sequenceKey hT.typeIs (by decide) ?_)
  refine wpAny_bind (wpAny_callSpecial?_slot (name := Str.ofString "__getitem__") hT.typeIs PyProof.Rows.slot_tuple_getitem (wpAny_call_entry PyProof.Rows.slot_tuple_getitem hT.typeIs entry_tuple_getitem ?_ (args_tuple_getitem _ _)))
  show wpAny _ _ (Builtin.Tuple.tupleItemsOf (.ref t) >>= _) _ _ sh
  refine wpAny_bind (tupleItemsOf_ hT ?_)
  refine wpAny_bind (wpAny_typeOf tS ?_)
  rw [if_pos (by decide)]
  refine wpAny_bind (app_rev hS pa pb pc ?_)
  have no : ¬ ((((its.size : Int) - 1) == 0 && (-1 : Int) == 1 && its.size == its.size) = true) := by
    simp
  show wpAny _ _ (if (((its.size : Int) - 1) == 0 && (-1 : Int) == 1 && its.size == its.size) = true then _ else _) _ _ sh
  rw [if_neg no, rev_pick]
  first
    | exact wpAny_bind (m := Builtin.Tuple.tupleExact _) (wpAny_newObj_type (wpAny_pure ⟨_, rfl, wpAny_pure q⟩) hz2)
    | exact wpAny_bind (m := Builtin.Tuple.tupleExact _) (wpAny_newObj_type (wpAny_bind (wpAny_pure (wpAny_pure ⟨_, rfl, wpAny_pure q⟩))) hz2)
    | exact wpAny_bind (wpAny_bind (m := Builtin.Tuple.tupleExact _) (wpAny_newObj_type (wpAny_pure (wpAny_pure ⟨_, rfl, wpAny_pure q⟩)) hz2))
    | exact wpAny_bind (wpAny_bind (m := Builtin.Tuple.tupleExact _) (wpAny_newObj_type (wpAny_pure ⟨_, rfl, wpAny_pure q⟩) hz2))
end
def tRevT (K : PySem.W.Frag) (te : TE) : TE := fun σ H Q => te σ H fun x H1 => ∃ a xs, x = .ref a ∧ SqT K H1 a xs ∧ ∀ p, H1 p = none → Q (.ref p) (upd H1 p (.tup xs.reverse))
section
variable {G : Gx} {W : WX} {σ : L2.St} {H : Hp} {X : Cx} {pos : Pos} {L : Fns}
theorem pe_revT {e : Expr} {te : TE} {k : Nat} {p1 p2 p3 pos : Pos} (he : PE X e te) : PE X (.Subscript e (.Slice none none (some (.UnaryOp .USub (.Constant (.int 1) k p1) p2)) p3) pos) (tRevT X.K te) := by
  refine ⟨fun pins s σ H Q I h => ?_⟩
  refine Subscript_ (thn (he.run pins s σ H _ I h) fun v s1 hh => ?_)
  obtain ⟨x, H1, I1, r1, a, xs, ex, hx, q⟩ := hh
  subst ex
  cases r1
  have step : PO X (some (.UnaryOp .USub (.Constant (.int 1) k p1) p2)) (tPart (tUn (rU fun i => .int (-i)) (tC (.int 1)))) := po_some (pe_un un_neg pe_int)
  refine wpAny_Slice (thn (po_none.run pins s1 σ H1 (fun o H2 => o = none ∧ H2 = H1) I1 ⟨rfl, rfl⟩) fun vl s2 hh => ?_)
  obtain ⟨l, H2, I2, pl, el, e2⟩ := hh
  subst el e2
  refine thn (po_none.run pins s2 σ H2 (fun o H3 => o = none ∧ H3 = H2) I2 ⟨rfl, rfl⟩) fun vu s3 hh => ?_
  obtain ⟨u, H3, I3, pu, eu, e3⟩ := hh
  subst eu e3
  refine thn (step.run pins s3 σ H3 (fun o H4 => o = some (-1) ∧ H4 = H3) I3 ⟨1, rfl, -1, rfl, rfl, rfl⟩) fun vs s4 hh => ?_
  obtain ⟨o, H4, I4, ps, eo, e4⟩ := hh
  subst eo e4
  have I5 : Inv X pins σ H4 { s4 with heap := s4.heap.push { cls := .type "slice", data := .fields #[vl, vu, vs] } } := I4.kept (t' := s4.toks) fun b ob q => Heap.get?_push_of_some _ q
  obtain ⟨its, r, ht, hz⟩ := I5.tuple hx
  have hl := r.length
  show wpAny (model X.prog X.w) X.A (subscriptTail e (.Slice none none (some (.UnaryOp .USub (.Constant (.int 1) k p1) p2)) p3) (.ref a) (.ref s4.heap.objs.size)) (EP X pins σ Q) X.xe { s4 with heap := s4.heap.push { cls := .type "slice", data := .fields #[vl, vu, vs] } }
  refine tail_any (ops := [.ref a, .ref s4.heap.objs.size]) ht.typeIs (PyProof.Rows.slot_tuple_getitem.lookup) ?_ (by with_unfolding_all rfl)
  refine get_rev ht (Heap.IsSliceOf.new _ vl vu vs) pl pu ps (by rw [List.size_toArray]; omega) ?_
  refine ⟨.ref _, _, I5.laid (t' := s4.toks) (o := .tup xs.reverse) (fun b ob q => Heap.get?_push_of_some _ q) (Nat.le_refl _) ?_, rfl, q _ (I5.hok.fresh (Nat.le_refl _))⟩
  exact ⟨by rw [List.length_reverse]; exact hz, _, r.reverse, IsTup.new _ _⟩
theorem sv_rev {e : Expr} {m : ME} {k : Nat} {p1 p2 p3 : Pos} (hK : X.K = G.K) (he : PE X e (tE G W (ev L m))) : PE X (.Subscript e (.Slice none none (some (.UnaryOp .USub (.Constant (.int 1) k p1) p2)) p3) pos) (tE G W (ev L (.rev m))) := by
  have both : PE X (.Subscript e (.Slice none none (some (.UnaryOp .USub (.Constant (.int 1) k p1) p2)) p3) pos) (fun σ H Q => tRevL X.K (tE G W (ev L m)) σ H Q ∨ tRevT X.K (tE G W (ev L m)) σ H Q) := by
    refine ⟨fun pins s σ H Q I h => ?_⟩
    rcases h with h | h
    · exact (pe_revL he).run pins s σ H Q I h
    · exact (pe_revT he).run pins s σ H Q I h
  refine both.imp fun σ H Q h => ?_
  obtain ⟨w, ρ, R, g⟩ := h
  rw [ev] at g
  by_cases hT : ∃ (xs : List Dt) (s : SS), ev L m ρ = .ok (.v (.tup xs)) s
  · obtain ⟨xs, s, et⟩ := hT
    right
    rw [hK]
    refine ⟨w, ρ, R, g.bind.mono fun x ρ1 w1 H1 e0 e1 R1 q va hva => ?_⟩
    rw [et] at e0
    cases e0
    obtain ⟨a, vs, rfl, hs, rl⟩ := Rep.inv_tup hva
    refine ⟨a, vs, rfl, sqt_mono R1.subF hs, fun p hp => ?_⟩
    exact fin_tup R1 rl.rev hp fun v H' w' e R' r => q.at e R' v r
  · left
    rw [hK]
    refine ⟨w, ρ, R, g.bind.mono fun x ρ1 w1 H1 e0 e1 R1 q va hva => ?_⟩
    have q2 : Go G W w1 σ (match rdl ρ1 x with | some xs => .ok (.nl xs.reverse) ρ1 | none => .no : Out SS RV) (fun r ρ' w' H' => ∀ v, RR G w' ρ' σ H' r v → Q v H') := by
      cases x with
      | v d =>
        cases d with
        | tup xs => exact absurd ⟨xs, ρ1, e0⟩ hT
        | _ => exact q
      | _ => exact q
    cases er : rdl ρ1 x with
    | none => rw [er] at q2; exact q2.elim
    | some xs =>
      rw [er] at q2
      obtain ⟨p, vs, rfl, hs, rl⟩ := rdl_ok R1 hva er
      refine ⟨p, vs, rfl, hs, fun a ha => ?_⟩
      exact q2 _ w1 (Ext.refl _) (R1.new ha) _ ⟨a, _, rfl, upd_same, rl.rev, R1.fresh ha⟩
end
end Mq

/-! MqExc: raise of own classes, try with clauses, tuple(range(n)). -/
namespace Mq
open PySem L2 PyProof.Rows
section
variable {G : Gx} {W : WX} {w : Wd} {ρ : SS} {σ : L2.St} {H : Hp} {X : Cx} {pos : Pos} {L : Fns}
/-- X() -/
theorem pmk_own0 {C : Addr} {bmB : List Value} {B newId initId : String} {x : Str} {p : Pos} (F : ExcBaseFacts B newId initId bmB) (q : PySem.W.excIn X.K C bmB newId = true) (gC : X.mg x = some (.ref C)) (kC : PySem.W.keepIn X.K (.ref C) = true)
    (r : Raises X (.ref C)) (hg : Gl X x) (hdb : (x == ("__debug__" : Str)) = false) : PMk X (.Call (.Name x p) [] [] pos) (fun _ H Q => Q (.ref C) none H) := by
  intro pins s σ H Q I h
  refine wpAny_Call_Name_kw (ld_glob I hg gC ?_ hdb)
  refine PySem.W.callWith_K0 I.kIn kC ?_
  show wpAny _ _ (call (.ref C) []) _ _ _
  obtain ⟨bm, N, nm, qn, bs, hdct, sn, sub, ab, col, dd, k0, k1, k2, k3, k5, mN, hC, hN, hni, T⟩ := exc_obj I.kIn q
  exact wpAny_call_exc_subT F T hC hN hni (fun h' e hm => mk_of I hm r h (I.hok.gone hm.new)) (Nat.zero_le _)
/-- what must be known of a class that is raised -/
structure RaisC (X : Cx) (G : Gx) (x : Str) (c : Nat) : Prop where
  ex : ∃ C, G.exc c = some (C, []) ∧ X.mg x = some (.ref C) ∧ PySem.W.keepIn X.K (.ref C) = true ∧ PySem.W.excIn X.K C [.type "ValueError", .type "Exception", .type "BaseException", .type "object"] "ValueError.__new__" = true ∧
    PySem.W.subIn X.K (.ref C) (.type "BaseException") = some true ∧ PySem.W.typeIn X.K (.ref C) = some (.type "type")
theorem ss_rais {x : Str} {c : Nat} {p p2 : Pos} (hc : X.calm = true) (tk : Takes X W) (h : RaisC X G x c) (hg : Gl X x) (hdb : (x == ("__debug__" : Str)) = false) : PS X (.Raise (some (.Call (.Name x p) [] [] p2)) none pos) (tS G W (exec L (.rais x c))) := by
  obtain ⟨C, e1, e2, e3, e4, e5, e6⟩ := h.ex
  refine (ps_raise hc tk (pmk_own0 PySem.F.excBase_ValueError e4 e2 e3 (raises_own e5 e6) hg hdb)).imp fun D σ H h => ?_
  obtain ⟨w, ρ, R, g⟩ := h
  rw [exec] at g
  exact g _ none H w σ (Ext.refl _) R ⟨C, [], e1, rfl, .inl ⟨rfl, rfl, rfl⟩⟩
/-- what must be known of a class that is named in a clause -/
structure NamC (X : Cx) (G : Gx) (L : Fns) (x : Str) : Prop where
  ex : ∃ v, (X.mg x = some v ∨ (X.mg x = none ∧ bootBuiltins x = some v)) ∧ ∀ c C ns b, G.exc c = some (C, ns) → L.xis c x = some b → PySem.W.exmOne X.K (.ref C) v = some b
/-- the clauses -/
inductive HdsG (G : Gx) (L : Fns) (X : Cx) : MH → List ExceptHandler → Prop
  | nil : HdsG G L X .nil []
  | cons {x : Str} {b₀ : Stmt} {suite : List Stmt} {np pos' : Pos} {ms : List MS} {r : MH} {hds : List ExceptHandler} (hn : NamC X G L x) (hg : Gl X x) (hdb : (x == ("__debug__" : Str)) = false) (hnn : x ≠ "__name__")
      (hsu : ∀ (a : Addr) (oe : Obj) (pn : List (Addr × Obj)), PSs (X.suite a ((a, oe) :: pn)) (b₀ :: suite) (tS G (fun _ _ _ _ => False) (execs L ms))) (t : HdsG G L X r hds) : HdsG G L X (.cons x ms r) (.ExceptHandler (some (.Name x np)) none (b₀ :: suite) pos' :: hds)
theorem HdsG.ok {W : WX} {hds : List ExceptHandler} {mh : MH} (h : HdsG G L X mh hds) : ∃ l, HdsOk X hds l ∧ ∀ (D : Ends) (cls : Value) (d : Option Addr) (c : Nat) (fs : List Dt) (w : Wd) (ρ : SS) (σ : L2.St) (H : Hp), Rel G w ρ σ H → XR G w cls d c fs →
    GoS G W w (execH L mh c fs ρ) D → wMany X.K W D l cls d σ H := by
  induction h with
  | nil => exact ⟨[], .nil, fun D cls d c fs w ρ σ H R x g => by rw [execH] at g; exact g cls d H w σ (Ext.refl _) R x⟩
  | @cons x b₀ suite np pos' ms r hds hn hg hdb hnn hsu t ih =>
    obtain ⟨l, hl, il⟩ := ih
    obtain ⟨v, hv, hx⟩ := hn.ex
    have nm : Names X x v := ⟨hg, hdb, hv.elim .inl fun z => .inr ⟨z.1, z.2, hnn⟩⟩
    refine ⟨(v, fun _ _ _ => tS G (fun _ _ _ _ => False) (execs L ms)) :: l, .cons nm (fun a oe cls d pn _ _ => hsu a oe pn) hl, fun D cls d c fs w ρ σ H R xr g => ?_⟩
    obtain ⟨C, ns, hC, rfl, _⟩ := id xr
    rw [execH] at g
    cases q : L.xis c x with
    | none => rw [q] at g; exact g.elim
    | some b =>
      rw [q] at g
      refine ⟨b, hx c C ns b hC q, fun e a ha => ?_, fun e => ?_⟩
      · subst e
        have g : GoS G W w (execs L ms ρ).noex D := g
        refine ⟨w, ρ, R, ?_⟩
        cases q2 : execs L ms ρ with
        | no => rw [q2] at g; exact g
        | ex c' fs' s => rw [q2] at g; exact g.elim
        | ok f s => rw [q2] at g; exact g
      · subst e
        exact il D _ d c fs w ρ σ H R xr g
theorem ss_try {body : List Stmt} {h₀ : ExceptHandler} {hds : List ExceptHandler} {mb : List MS} {mh : MH} (hs : X.stack = X.env :: X.outer) (hf : X.env.frame = some X.env.locals) (tk : Takes X W)
    (hb : ∀ (W : WX) (pn : List (Addr × Obj)) (xe : Value → Shared → Prop), Takes (X.tr pn xe) W → PassesOwn (model X.prog X.w) X.A X.env xe → PSs (X.tr pn xe) body (tS G W (execs L mb)))
    (hh : HdsG G L X mh (h₀ :: hds)) : PS X (.Try body (h₀ :: hds) [] [] pos) (tS G W (exec L (.tryx mb mh))) := by
  obtain ⟨l, hl, il⟩ := hh.ok (W := W)
  refine (ps_try_many hs hf tk (tb := fun W => tS G W (execs L mb)) hb hl).imp fun D σ H h => ?_
  obtain ⟨w, ρ, R, g⟩ := h
  rw [exec] at g
  refine ⟨w, ρ, R, ?_⟩
  cases q : execs L mb ρ with
  | no => rw [q] at g; exact g
  | ok f s => rw [q] at g; exact g
  | ex c fs s =>
    rw [q] at g
    have g : GoS G W w (execH L mh c fs s) D := g
    exact fun cls d H' w' σ' e R' x => il D cls d c fs w' s σ' H' R' x (g.ext e)
/-- tuple(range(n)) -/
theorem rgV_rep {F : Hp} {A : List Addr} (n : Int) : RepL G F A (rgV 0 n) (rngI 0 n) := by
  unfold rgV rngI
  generalize List.range (n - 0).toNat = l
  induction l with
  | nil => exact .nil
  | cons x l ih => exact .cons (.int _) ih
theorem sv_trg {e : Expr} {m : ME} {p p2 p3 : Pos} (hK : X.K = G.K) (hc : X.calm = true) (hg : Gl X "tuple") (hm : X.mg "tuple" = none) (hg2 : Gl X "range") (hm2 : X.mg "range" = none) (hs : starEach [e] X.env = (false, eval e X.env) :: starEach [] X.env) (he : PE X e (tE G W (ev L m))) :
    PE X (.Call (.Name "tuple" p) [.Call (.Name "range" p2) [e] [] p3] [] pos) (tE G W (ev L (.trg m))) :=
  (pe_tupRg hc hg hm (prg_1 hg2 hm2 he hs)).imp fun σ H Q h => by
    obtain ⟨w, ρ, R, g⟩ := h
    rw [ev] at g
    refine ⟨w, ρ, R, g.bind.mono fun x ρ1 w1 H1 _ e1 R1 q va hva => ?_⟩
    split at q
    · rename_i n _
      obtain rfl := Rep.inv_int hva
      refine ⟨n, rfl, ?_⟩
      split at q
      · rename_i hn
        simp only [Bool.and_eq_true, decide_eq_true_eq, rngOk] at hn
        obtain ⟨⟨h1, h2⟩, h3⟩ := hn
        refine ⟨⟨by omega, by omega, by omega, by omega, by omega⟩, fun a ha => ?_⟩
        exact fin_tup R1 (rgV_rep n) ha fun v H' w' e R' r => q.at e R' v r
      · exact q.elim
    · exact q.elim
theorem rgV_rep2 {F : Hp} {A : List Addr} (m n : Int) : RepL G F A (rgV m n) (rngI m n) := by
  unfold rgV rngI
  generalize List.range (n - m).toNat = l
  induction l with
  | nil => exact .nil
  | cons x l ih => exact .cons (.int _) ih
/-- list(range(n)) -/
theorem sv_lrg {e : Expr} {m : ME} {p p2 p3 : Pos} (hK : X.K = G.K) (hc : X.calm = true) (hg : Gl X "list") (hm : X.mg "list" = none) (hg2 : Gl X "range") (hm2 : X.mg "range" = none) (hs : starEach [e] X.env = (false, eval e X.env) :: starEach [] X.env) (he : PE X e (tE G W (ev L m))) :
    PE X (.Call (.Name "list" p) [.Call (.Name "range" p2) [e] [] p3] [] pos) (tE G W (ev L (.lrg m))) :=
  (pe_listRg hc hg hm (prg_1 hg2 hm2 he hs)).imp fun σ H Q h => by
    obtain ⟨w, ρ, R, g⟩ := h
    rw [ev] at g
    refine ⟨w, ρ, R, g.bind.mono fun x ρ1 w1 H1 _ e1 R1 q va hva => ?_⟩
    split at q
    · rename_i n _
      obtain rfl := Rep.inv_int hva
      refine ⟨n, rfl, ?_⟩
      split at q
      · rename_i hn
        simp only [Bool.and_eq_true, decide_eq_true_eq, rngOk] at hn
        obtain ⟨⟨h1, h2⟩, h3⟩ := hn
        refine ⟨⟨by omega, by omega, by omega, by omega, by omega⟩, fun a ha => ?_⟩
        exact fin_nl R1 (rgV_rep2 0 n) ha fun v H' w' e R' r => q.at e R' v r
      · exact q.elim
    · exact q.elim
/-- list(range(m, n)) -/
theorem sv_lr2 {e f : Expr} {m n : ME} {p p2 p3 : Pos} (hK : X.K = G.K) (hc : X.calm = true) (hg : Gl X "list") (hm : X.mg "list" = none) (hg2 : Gl X "range") (hm2 : X.mg "range" = none) (hs : starEach [e, f] X.env = (false, eval e X.env) :: starEach [f] X.env) (hs2 : starEach [f] X.env = (false, eval f X.env) :: starEach [] X.env) (he : PE X e (tE G W (ev L m))) (hf : ∀ W, Takes X W → PE X f (tE G W (ev L n))) (tk : Takes X W)
    (hp : (backTo p3 (starEach [f] X.env)).any (·.1) = false) :
    PE X (.Call (.Name "list" p) [.Call (.Name "range" p2) [e, f] [] p3] [] pos) (tE G W (ev L (.lr2 m n))) :=
  (pe_listRg hc hg hm (prg_2 hg2 hm2 he (hf W tk) hs hs2 hp)).imp fun σ H Q h => by
    obtain ⟨w, ρ, R, g⟩ := h
    rw [ev] at g
    refine ⟨w, ρ, R, g.bind.mono fun x ρ1 w1 H1 _ e1 R1 q va hva => ?_⟩
    split at q
    · rename_i i _
      obtain rfl := Rep.inv_int hva
      refine ⟨w1, ρ1, R1, q.bind.mono fun y ρ2 w2 H2 _ e2 R2 q2 vb hvb => ?_⟩
      split at q2
      · rename_i j _
        obtain rfl := Rep.inv_int hvb
        refine ⟨i, j, rfl, rfl, ?_⟩
        split at q2
        · rename_i hn
          simp only [Bool.and_eq_true, decide_eq_true_eq, rngOk] at hn
          obtain ⟨⟨⟨h1, h2⟩, h3, h4⟩, h5⟩ := hn
          refine ⟨⟨by omega, by omega, by omega, by omega, by omega⟩, fun a ha => ?_⟩
          exact fin_nl R2 (rgV_rep2 i j) ha fun v H' w' e R' r => q2.at e R' v r
        · exact q2.elim
      · exact q2.elim
    · exact q.elim
end
end Mq

/-! MqSet: sorted(set(..)) of pairs. -/
namespace Mq
open PySem L2
def ltP2 (p q : Int × Int) : Prop := p.1 < q.1 ∨ (p.1 = q.1 ∧ p.2 < q.2)
theorem ltP2_trans {p q r : Int × Int} (h : ltP2 p q) (k : ltP2 q r) : ltP2 p r := by unfold ltP2 at *; omega
theorem ltP2_irr {p : Int × Int} : ¬ ltP2 p p := by unfold ltP2; omega
theorem lexLe_iff {p q : Int × Int} : lexLe p q = true ↔ p.1 < q.1 ∨ (p.1 = q.1 ∧ p.2 ≤ q.2) := by
  unfold lexLe
  simp only [Bool.or_eq_true, Bool.and_eq_true, decide_eq_true_eq]
theorem insP_mem {p x : Int × Int} : ∀ {l : List (Int × Int)}, x ∈ insP p l ↔ x = p ∨ x ∈ l
  | [] => by simp [insP]
  | q :: r => by
    unfold insP
    split
    · rename_i e; subst e
      simp
    · split
      · simp
      · simp only [List.mem_cons, insP_mem (l := r)]
        constructor
        · rintro (h | h | h)
          · exact .inr (.inl h)
          · exact .inl h
          · exact .inr (.inr h)
        · rintro (h | h | h)
          · exact .inr (.inl h)
          · exact .inl h
          · exact .inr (.inr h)
theorem insP_asc {p : Int × Int} : ∀ {l : List (Int × Int)}, l.Pairwise ltP2 → (insP p l).Pairwise ltP2
  | [], _ => by simp [insP]
  | q :: r, h => by
    obtain ⟨h1, h2⟩ := List.pairwise_cons.mp h
    unfold insP
    split
    · exact h
    · rename_i ne
      split
      · rename_i le
        have lt : ltP2 p q := by
          have := lexLe_iff.mp le
          unfold ltP2
          rcases this with h | ⟨h, h'⟩
          · exact .inl h
          · refine .inr ⟨h, ?_⟩
            rcases Int.lt_or_eq_of_le h' with h' | h'
            · exact h'
            · exact absurd (Prod.ext h h') ne
        refine List.pairwise_cons.mpr ⟨fun x hx => ?_, h⟩
        rcases List.mem_cons.mp hx with rfl | hx
        · exact lt
        · exact ltP2_trans lt (h1 x hx)
      · rename_i le
        have lt : ltP2 q p := by
          have : ¬ (p.1 < q.1 ∨ (p.1 = q.1 ∧ p.2 ≤ q.2)) := fun z => le (lexLe_iff.mpr z)
          unfold ltP2; omega
        refine List.pairwise_cons.mpr ⟨fun x hx => ?_, insP_asc h2⟩
        rcases insP_mem.mp hx with rfl | hx
        · exact lt
        · exact h1 x hx
theorem ssetP_mem {x : Int × Int} : ∀ {l : List (Int × Int)}, x ∈ ssetP l ↔ x ∈ l
  | [] => Iff.rfl
  | p :: r => by
    show x ∈ insP p (ssetP r) ↔ _
    rw [insP_mem, ssetP_mem, List.mem_cons]
theorem ssetP_asc : ∀ {l : List (Int × Int)}, (ssetP l).Pairwise ltP2
  | [] => .nil
  | p :: r => insP_asc ssetP_asc
theorem asc_ext : ∀ {l m : List (Int × Int)}, l.Pairwise ltP2 → m.Pairwise ltP2 → (∀ x, x ∈ l ↔ x ∈ m) → l = m
  | [], [], _, _, _ => rfl
  | [], y :: m, _, _, h => absurd ((h y).mpr (List.mem_cons_self ..)) (by simp)
  | x :: l, [], _, _, h => absurd ((h x).mp (List.mem_cons_self ..)) (by simp)
  | x :: l, y :: m, h1, h2, h => by
    obtain ⟨a1, a2⟩ := List.pairwise_cons.mp h1
    obtain ⟨b1, b2⟩ := List.pairwise_cons.mp h2
    have e : x = y := by
      rcases List.mem_cons.mp ((h x).mp (List.mem_cons_self ..)) with e | e
      · exact e
      · rcases List.mem_cons.mp ((h y).mpr (List.mem_cons_self ..)) with e' | e'
        · exact e'.symm
        · exact absurd (ltP2_trans (b1 x e) (a1 y e')) ltP2_irr
    subst e
    rw [asc_ext a2 b2 fun z => ?_]
    constructor
    · intro hz
      rcases List.mem_cons.mp ((h z).mp (List.mem_cons_of_mem _ hz)) with e | e
      · subst e; exact absurd (a1 z hz) ltP2_irr
      · exact e
    · intro hz
      rcases List.mem_cons.mp ((h z).mpr (List.mem_cons_of_mem _ hz)) with e | e
      · subst e; exact absurd (b1 z hz) ltP2_irr
      · exact e
theorem posP_iff {p : Int × Int} : posP p = true ↔ 0 ≤ p.1 ∧ 0 ≤ p.2 := by
  unfold posP; simp
/-- above all -/
def topP : List (Int × Int) → Int
  | [] => 1
  | p :: r => p.1.natAbs + p.2.natAbs + topP r
theorem topP_pos : ∀ l, 0 < topP l
  | [] => by decide
  | p :: r => by have := topP_pos r; show 0 < (p.1.natAbs : Int) + p.2.natAbs + topP r; omega
theorem topP_ge : ∀ {l : List (Int × Int)} {p : Int × Int}, p ∈ l → p.1 < topP l ∧ p.2 < topP l
  | q :: r, p, h => by
    show p.1 < (q.1.natAbs : Int) + q.2.natAbs + topP r ∧ p.2 < (q.1.natAbs : Int) + q.2.natAbs + topP r
    have t := topP_pos r
    rcases List.mem_cons.mp h with rfl | h
    · omega
    · have := topP_ge h
      omega
def lsP (p : Int × Int) : List Int := [p.1, p.2]
theorem lsP_inj {p q : Int × Int} (h : lsP p = lsP q) : p = q := by
  unfold lsP at h
  simp only [List.cons.injEq, and_true] at h
  exact Prod.ext h.1 h.2
section
variable {G : Gx} {W : WX} {w w1 : Wd} {ρ : SS} {σ : L2.St} {H : Hp} {X : Cx} {pos : Pos} {L : Fns}
/-- pairs' places -/
theorem prs_refs {F : Hp} {A : List Addr} (s : Same F H) : ∀ {vs : List V} {ds : List Dt} {ps : List (Int × Int)}, RepL G F A vs ds → allPrs ds = some ps → ∃ as : List Addr, as.length = ps.length ∧ vs = as.map V.ref ∧ (∀ z ∈ as.zip ps, SqT G.K H z.1 [.int z.2.1, .int z.2.2] ∧ Rep G F A (.ref z.1) (prI z.2))
  | _, _, ps, .nil, e => by simp [allPrs] at e; subst e; exact ⟨[], rfl, rfl, fun _ h => nomatch h⟩
  | _, _, ps, .cons (d := d) (v := v) (vs := vs) r t, e => by
    unfold allPrs at e
    split at e
    · rename_i h; cases h
    · rename_i a b q h
      cases h
      simp only [Option.map_eq_some_iff] at e
      obtain ⟨qs, e1, rfl⟩ := e
      obtain ⟨as, h1, h2, h3⟩ := prs_refs s t e1
      obtain ⟨p, us, rfl, hs, ru⟩ := Rep.inv_tup r
      have : us = [.int a, .int b] := repL_ints_inv (ns := [a, b]) ru rfl
      subst this
      refine ⟨p :: as, by simp [h1], by rw [h2]; rfl, fun z hz => ?_⟩
      rw [List.zip_cons_cons] at hz
      rcases List.mem_cons.mp hz with rfl | hz
      · exact ⟨sqt_mono s hs, r⟩
      · exact h3 z hz
    · cases e
/-- sorted(set(e)) -/
theorem sv_sst {e : Expr} {m : ME} {p p2 p3 : Pos} (hK : X.K = G.K) (hc : X.calm = true) (hu : X.A.units + 64 < cLine) (hg : Gl X "sorted") (hm : X.mg "sorted" = none) (hg2 : Gl X "set") (hm2 : X.mg "set" = none) (hs : starEach [e] X.env = (false, eval e X.env) :: starEach [] X.env)
    (hs2 : starEach [.Call (.Name "set" p2) [e] [] p3] X.env = (false, eval (.Call (.Name "set" p2) [e] [] p3) X.env) :: starEach [] X.env) (he : PE X e (tE G W (ev L m))) :
    PE X (.Call (.Name "sorted" p) [.Call (.Name "set" p2) [e] [] p3] [] pos) (tE G W (ev L (.sst m))) :=
  (pe_callB (cr_sortedT hc) hg hm (by decide +kernel) (pa_cons (pe_callTy (cr_setOfT hc hu) hg2 hm2 (by decide +kernel) (pa_cons he pa_nil hs) (by decide) (by rfl) hs rfl) pa_nil hs2) (by decide) (by rfl) hs2 rfl).imp fun σ H Q h => by
    obtain ⟨w, ρ, R, g⟩ := h
    rw [ev] at g
    refine ⟨w, ρ, R, g.bind.mono fun x ρ1 w1 H1 _ e1 R1 q va hva => ?_⟩
    obtain ⟨z, ez, q⟩ := lift_some q
    unfold sstV at ez
    split at ez
    · rename_i ps ep
      simp only [Option.ite_none_right_eq_some, Bool.and_eq_true, decide_eq_true_eq, List.all_eq_true] at ez
      obtain ⟨⟨hl, hp⟩, ez⟩ := ez
      cases ez
      simp only [Option.bind_eq_some_iff] at ep
      obtain ⟨ds, d1, d2⟩ := ep
      obtain ⟨l, vs, rfl, sq, rl⟩ := rdl_ok R1 hva d1
      obtain ⟨as, a1, rfl, a2⟩ := prs_refs R1.subF rl d2
      have pos := fun p hp' => posP_iff.mp (hp p hp')
      refine ⟨l, as.zip (ps.map lsP), rfl, ?_, fun z hz => ?_, ?_, fun a Ls ha hsub hall => ?_⟩
      · rw [hK]
        have : ((as.zip (ps.map lsP)).map fun p => V.ref p.1) = as.map V.ref := by
          have e : (fun p : Addr × List Int => V.ref p.1) = V.ref ∘ Prod.fst := rfl
          rw [e, ← List.map_map, List.map_fst_zip (by rw [List.length_map]; omega)]
        rw [this]; exact sq
      · rw [hK]
        rw [List.zip_map_right] at hz
        obtain ⟨y, hy, rfl⟩ := List.mem_map.mp hz
        exact (a2 y hy).1
      · rw [List.length_zip, List.length_map]; omega
      · have own : ∀ q ∈ Ls, ∃ y ∈ as.zip ps, q = (y.1, lsP y.2) := fun q hq => by
          have := hsub q hq
          rw [List.zip_map_right] at this
          obtain ⟨y, hy, rfl⟩ := List.mem_map.mp this
          exact ⟨y, hy, rfl⟩
        have inP : ∀ y ∈ as.zip ps, y.2 ∈ ps := fun y hy => (List.of_mem_zip hy).2
        refine ⟨a, Ls, 2, topP ps, rfl, upd_same, fun q hq => ?_, by decide, fun q hq => ?_, fun L' p hperm hnd hlen hpw hp' => ?_⟩
        · rw [hK]
          obtain ⟨y, hy, rfl⟩ := own q hq
          exact sqt_mono (fun b u hb => by rw [upd_ne (ne_of_none hb ha)]; exact hb) (a2 y hy).1
        · obtain ⟨y, hy, rfl⟩ := own q hq
          refine ⟨rfl, fun m hm => ?_⟩
          have b := topP_ge (inP y hy)
          have c := pos _ (inP y hy)
          have : m = y.2.1 ∨ m = y.2.2 := by simpa [lsP] using hm
          rcases this with rfl | rfl
          · exact ⟨c.1, b.1⟩
          · exact ⟨c.2, b.2⟩
        · have own' : ∀ q ∈ L', ∃ y ∈ as.zip ps, q = (y.1, lsP y.2) := fun q hq => own q (hperm.mem_iff.mp hq)
          let f : Addr × List Int → Int × Int := fun q => (q.2.getD 0 0, q.2.getD 1 0)
          have fl : ∀ y : Addr × (Int × Int), f (y.1, lsP y.2) = y.2 := fun y => rfl
          have hf : ∀ q ∈ L', q.2 = lsP (f q) := fun q hq => by
            obtain ⟨y, hy, rfl⟩ := own' q hq
            rw [fl]
          have res : L'.map f = ssetP ps := by
            refine asc_ext ?_ ssetP_asc fun x => ?_
            · refine List.pairwise_map.mpr ?_
              have nd : L'.Pairwise fun q r => q.2 ≠ r.2 := List.pairwise_map.mp hnd
              refine (nd.and hpw).imp_of_mem fun {q r} hq hr h => ?_
              obtain ⟨h1, h2⟩ := h
              obtain ⟨y, hy, rfl⟩ := own' q hq
              obtain ⟨y', hy', rfl⟩ := own' r hr
              rw [fl, fl]
              have bd : ∀ y ∈ as.zip ps, TS.Bd (topP ps) (lsP y.2) := fun y hy m hm => by
                have b := topP_ge (inP y hy)
                have c := pos _ (inP y hy)
                have : m = y.2.1 ∨ m = y.2.2 := by simpa [lsP] using hm
                rcases this with rfl | rfl
                · exact ⟨c.1, b.1⟩
                · exact ⟨c.2, b.2⟩
              have := code_lex (bd y hy) (bd y' hy') h2
              rcases this with h | ⟨h, h'⟩
              · exact .inl h
              · refine .inr ⟨h, ?_⟩
                rcases Int.lt_or_eq_of_le h' with h' | h'
                · exact h'
                · refine absurd ?_ h1
                  show lsP y.2 = lsP y'.2
                  rw [show y.2 = y'.2 from Prod.ext h h']
            · rw [ssetP_mem]
              constructor
              · intro hx
                obtain ⟨q, hq, rfl⟩ := List.mem_map.mp hx
                obtain ⟨y, hy, rfl⟩ := own' q hq
                rw [fl]
                exact inP y hy
              · intro hx
                obtain ⟨n, hn, en⟩ := List.getElem_of_mem hx
                have hz : (as.zip (ps.map lsP))[n]? = some (as[n]'(by omega), lsP ps[n]) := by
                  rw [List.getElem?_zip_eq_some]
                  exact ⟨List.getElem?_eq_getElem _, by rw [List.getElem?_map, List.getElem?_eq_getElem hn]; rfl⟩
                have := hall _ (List.mem_of_getElem? hz)
                obtain ⟨q, hq, eq⟩ := List.mem_map.mp this
                refine List.mem_map.mpr ⟨q, hperm.mem_iff.mpr hq, ?_⟩
                have e2 := hf q (hperm.mem_iff.mpr hq)
                rw [eq] at e2
                have := lsP_inj e2
                rw [← this, en]
          have rL : RepL G w1.F w1.A (L'.map fun q => V.ref q.1) ((ssetP ps).map prI) := by
            rw [← res, List.map_map]
            have : ∀ K : List (Addr × List Int), (∀ q ∈ K, ∃ y ∈ as.zip ps, q = (y.1, lsP y.2)) → RepL G w1.F w1.A (K.map fun q => V.ref q.1) (K.map (prI ∘ f)) := fun K => by
              induction K with
              | nil => intro _; exact .nil
              | cons q K ih =>
                intro hK'
                obtain ⟨y, hy, rfl⟩ := hK' q (List.mem_cons_self ..)
                exact .cons (a2 y hy).2 (ih fun x hx => hK' x (List.mem_cons_of_mem _ hx))
            exact this L' own'
          exact fin_nl (R1.new ha) rL hp' fun v H' w' e R' r => q.at e R' v r
    · cases ez
end
end Mq

/-! MqAs: try with one clause that names the exception; isinstance of it. -/
namespace Mq
open PySem L2 PyProof.Rows
section
variable {G : Gx} {W : WX} {w : Wd} {ρ : SS} {σ : L2.St} {H : Hp} {X : Cx} {pos : Pos} {L : Fns}
/-- the exception in hand may be asked for its class -/
structure HeldC (X : Cx) (G : Gx) : Prop where
  ex : ∀ a C, G.xa = some (a, C) → ExcC X.K C → CallR X (.builtin "isinstance") (rIsE X.K C a)
/-- a class that it is asked for -/
structure XtF (G : Gx) (X : Cx) (L : Fns) (t : Str) : Prop where
  ex : ∃ c u v, ClsV c u ∧ RelV c v ∧ (X.mg t = some v ∨ (X.mg t = none ∧ bootBuiltins t = some v)) ∧ ∀ n C ns b, G.exc n = some (C, ns) → L.xis n t = some b → ExcC G.K C ∧ PySem.W.kitOne G.K (.ref C) u = some b
theorem sv_isx {z t : Str} {i : Nat} {p q r : Pos} (hK : X.K = G.K) (hh : HeldC X G) (hf : XtF G X L t) (hg : Gl X "isinstance") (hm : X.mg "isinstance" = none) (hgt : Gl X t) (htn : t ≠ "__name__") (htd : (t == ("__debug__" : Str)) = false)
    (hN : X.N[i]? = some z) (hv : Vis X.env.scope z) (hd : (z == ("__debug__" : Str)) = false) (hcd : (z == ("__classdict__" : Str)) = false) :
    PE X (.Call (.Name "isinstance" p) [.Name z r, .Name t q] [] pos) (tE G W (ev L (.isx i t))) := by
  obtain ⟨c, u, v, hcv, hrv, hvv, hk⟩ := hf.ex
  have pt : PE X (.Name t q) (tC c) := by
    rcases hvv with h | ⟨h1, h2⟩
    · exact pe_glob hgt h hrv htd
    · exact pe_bltn hgt h1 h2 hrv htn htd
  refine ⟨fun pins s σ H Q I h => ?_⟩
  obtain ⟨w, ρ, R, g⟩ := h
  rw [ev] at g
  cases e : ρ.sl[i]? with
  | none => rw [e] at g; exact g.elim
  | some x =>
    rw [e] at g
    cases x with
    | un => exact g.elim
    | v d => exact g.elim
    | ol xs => exact g.elim
    | lk xs => exact g.elim
    | oi c ns ds => exact g.elim
    | xc n =>
      obtain ⟨a, C, ns, es, ex, ec⟩ := R.sl i _ e
      cases eb : L.xis n t with
      | none => simp only [eb] at g; exact g.elim
      | some b =>
        simp only [eb] at g
        obtain ⟨hE, hkit⟩ := hk n C ns b ec eb
        have call := hh.ex a C ex (by rw [hK]; exact hE)
        refine (pe_callB call hg hm (by decide +kernel) (pa_cons (pe_var hN hv hd hcd) (pa_cons pt pa_nil rfl) rfl) (by decide) (by decide) rfl rfl).run pins s σ H Q I ?_
        exact ⟨.ref a, es, c, u, b, rfl, fun w hw => hcv.eq hw, by rw [hK]; exact hkit, g.here R _ (.bl b)⟩
/-- a slot is emptied -/
theorem Rel.unset {i : Nat} (R : Rel G w ρ σ H) : Rel G w (ρ.set i .un) (σ.set i none) H := by
  have oo : ∀ j q, OwnAt (ρ.set i .un) (σ.set i none) j q → OwnAt ρ σ j q := fun j q ⟨e, x', ex', ho'⟩ => by
    rcases set_cases ex' with ⟨z, z'⟩ | ⟨z, z'⟩
    · subst z'; simp [isOwn] at ho'
    · rcases set_cases e with ⟨y, _⟩ | ⟨_, y⟩
      · exact absurd y z
      · exact ⟨y, x', z', ho'⟩
  exact {
    toWok := R.toWok
    len := by show (ρ.sl.set i .un).length = (σ.set i none).length; rw [List.length_set, List.length_set]; exact R.len
    sl := fun j x' e => by
      rcases set_cases e with ⟨z, z'⟩ | ⟨z, z'⟩
      · subst z'; trivial
      · rw [List.getElem?_set_ne (Ne.symm z)]; exact R.sl j x' z'
    own := fun j q h => R.own j q (oo j q h)
    ownN := fun j j' q h h' => R.ownN j j' q (oo j q h) (oo j' q h')
    lT := R.lT }
theorem RF.back {y : Option (Addr × Addr)} {r : RV} {v : V} (h : RF (G.hold y) w H r v) : RF G w H r v := by
  cases r with
  | v d => exact Rep.back h
  | nl xs => obtain ⟨p, vs, e1, e2, rl, f1, f2, f3⟩ := h; exact ⟨p, vs, e1, e2, rl.back, f1, f2, f3⟩
  | bw i => exact h
/-- try: .. except x as n: .. -/
theorem ss_tryas {body : List Stmt} {x n : Str} {i : Nat} {np pos' : Pos} {b₀ : Stmt} {suite : List Stmt} {mb ms : List MS} (hs : X.stack = X.env :: X.outer) (hf : X.env.frame = some X.env.locals) (hN : X.N.Nodup) (hi : X.N[i]? = some n) (hln : X.env.kindOf n = some .local) (tk : Takes X W)
    (hxa : G.xa = none) (hn : NamC X G L x) (hg : Gl X x) (hdb : (x == ("__debug__" : Str)) = false) (hnn : x ≠ "__name__")
    (hb : ∀ (W : WX) (pn : List (Addr × Obj)) (xe : Value → Shared → Prop), Takes (X.tr pn xe) W → PassesOwn (model X.prog X.w) X.A X.env xe → PSs (X.tr pn xe) body (tS G W (execs L mb)))
    (hh : ∀ (a C : Addr) (oe : Obj) (pn : List (Addr × Obj)), Zc (.ref C) none oe → (∃ vs, oe.data = .fields vs) → PSs (X.suite a ((a, oe) :: pn)) (b₀ :: suite) (tS (G.hold (some (a, C))) (fun _ _ _ _ => False) (execs L ms))) :
    PS X (.Try body [.ExceptHandler (some (.Name x np)) (some n) (b₀ :: suite) pos'] [] [] pos) (tS G W (exec L (.tryx mb (.as x i ms)))) := by
  obtain ⟨v, hv, hx⟩ := hn.ex
  have nm : Names X x v := ⟨hg, hdb, hv.elim .inl fun z => .inr ⟨z.1, z.2, hnn⟩⟩
  refine (ps_try_as hs hf hN hi hln nm tk (tb := fun W => tS G W (execs L mb)) (ts := fun a cls d D σ H => ∃ C, cls = .ref C ∧ d = none ∧ tS (G.hold (some (a, C))) (fun _ _ _ _ => False) (execs L ms) D σ H) hb (fun a oe cls d pn hz hd => ⟨fun pins s σ H D I h => by
    obtain ⟨C, rfl, rfl, h⟩ := h
    exact (hh a C oe pn hz hd).run pins s σ H D I h⟩)).imp fun D σ H h => ?_
  obtain ⟨w, ρ, R, g⟩ := h
  rw [exec] at g
  refine ⟨w, ρ, R, ?_⟩
  cases q : execs L mb ρ with
  | no => rw [q] at g; exact g
  | ok f s => rw [q] at g; exact g
  | ex c fs s =>
    rw [q] at g
    have g : GoS G W w (execH L (.as x i ms) c fs s) D := g
    intro cls d H' w' σ' e R' xr
    cases fs with
    | cons f fs => rw [execH] at g; exact g.elim
    | nil =>
      rw [execH] at g
      obtain ⟨C, ns, hC, rfl, al⟩ := id xr
      obtain rfl : d = none := by
        rcases al with ⟨_, _, z⟩ | ⟨dx, fl, z, _, _, z2, z3⟩
        · exact z
        · cases fl with
          | nil => exact absurd z2.symm z
          | cons y fl => cases z3
      cases qx : L.xis c x with
      | none => rw [qx] at g; exact g.elim
      | some b =>
        rw [qx] at g
        refine ⟨b, hx c C ns b hC qx, fun eb a ha => ?_, fun eb => ?_⟩
        · subst eb
          refine ⟨C, rfl, rfl, w', s.set i (.xc c), (R'.hold (y := some (a, C)) hxa).setSl ⟨a, C, ns, rfl, rfl, hC⟩ (fun z => by simp [isOwn] at z), ?_⟩
          have g : GoS G W w (((execs L ms (s.set i (.xc c))).noex).fix fun t => (clrX t).set i .un) D := g
          cases q2 : execs L ms (s.set i (.xc c)) with
          | no => rw [q2] at g; exact g
          | ex c' fs' t => rw [q2] at g; exact g.elim
          | ok f t =>
            rw [q2] at g
            intro H1 w1 σ1 e1 R1
            have gg := g H1 w1 (σ1.set i none) (e.trans e1) R1.clr.unset
            cases f with
            | nx => exact gg
            | ct => exact gg
            | bk => exact gg
            | ret r => exact fun v hv => gg v hv.back
        · subst eb
          exact g _ _ H' w' σ' e R' xr
end
end Mq

/-! MqStat: a tree of the small language stands for a tree of the program: the check, its soundness. -/
namespace Mq
open PySem L2
/-! ### forms -/
def isStar : Expr → Bool
  | .Starred _ _ => true
  | _ => false
def noStars : List Expr → Bool
  | [] => true
  | e :: r => !isStar e && noStars r
theorem star_cons {e : Expr} {es : List Expr} {env : Env} (h : isStar e = false) : starEach (e :: es) env = (false, eval e env) :: starEach es env := by
  cases e <;> first | rfl | cases h
theorem stars_no {env : Env} {pos : Pos} : ∀ {es : List Expr}, noStars es = true → (backTo pos (starEach es env)).any (·.1) = false ∧ (backTo pos (starEach es env)).all (!·.1) = true
  | [], _ => ⟨rfl, rfl⟩
  | e :: r, h => by
    simp only [noStars, Bool.and_eq_true, Bool.not_eq_true'] at h
    rw [star_cons h.1]
    obtain ⟨a, b⟩ := stars_no (env := env) (pos := pos) h.2
    unfold backTo at a b ⊢
    simp only [List.map_cons, List.any_cons, List.all_cons, a, b]
    exact ⟨rfl, rfl⟩
def isComp : Expr → Bool
  | .ListComp _ _ _ _ => true
  | .SetComp _ _ _ _ => true
  | .DictComp _ _ _ _ _ => true
  | _ => false
theorem swaps_no {e : Expr} {t : Option Expr} {n : Nat} {env : Env} (h : isComp e = false) : swapsWith e t n env = pure false := by
  cases e <;> first | rfl | cases h
def isSet : Expr → Bool
  | .Set _ _ _ => true
  | _ => false
theorem folded_no {e : Expr} {env : Env} (h : isSet e = false) : ∀ x, foldedSetIterable e env x = pure x := by
  cases e <;> first | (intro _; rfl) | cases h
def isSlice : Expr → Bool
  | .Slice _ _ _ _ => true
  | _ => false
theorem plain_ix {e : Expr} (h : isSlice e = false) : PlainIx e := by
  cases e <;> first | (intro _ _; rfl) | cases h
theorem aug_st {e : Expr} (h : isSlice e = false) : ∀ ov iv new, augStore e ov iv new = (do holding [new, ov, iv] (setItem ov iv new); release [new, ov, iv] []; pure .next) := by
  cases e <;> first | (intro _ _ _; rfl) | cases h
theorem set_st {o e : Expr} {pos' : Pos} {env : Env} (h : isSlice e = false) : ∀ v, assign (.Subscript o e pos') env v = (do
      let ov ← holding [v] (eval o env)
      let iv ← holding [v, ov] (eval e env)
      standAt pos'
      holding [v, ov, iv] (setItem ov iv v)
      release [v, ov, iv] []) := by
  cases e <;> first | (intro _; rfl) | cases h
/-- no super() -/
def okBase : Expr → Bool
  | .Call _ (_ :: _) _ _ => true
  | .Call (.Attribute _ _ _) [] _ _ => true
  | .Call _ _ _ _ => false
  | _ => true
theorem base_ok {o : Expr} {m : Str} {env : Env} {whole : Sem Value} (h : okBase o = true) : attributeBase o m env whole = whole := by
  cases o with
  | Call f es ks p =>
    cases es with
    | nil => cases f <;> first | rfl | cases h
    | cons e es => cases f <;> rfl
  | _ => rfl
/-- its test is its value's truth -/
def plainT : Expr → Bool
  | .Name _ _ => true
  | .Call _ _ _ _ => true
  | .Attribute _ _ _ => true
  | .Subscript _ _ _ => true
  | .Constant _ _ _ => true
  | _ => false
theorem plainT_ok {e : Expr} {env : Env} (h : plainT e = true) : ∀ whole, isTrue e env whole = (do let v ← whole; standAt e.pos; holding [v] (truthy v)) := by
  cases e <;> first | (intro _; rfl) | cases h
theorem marks_no {op : CmpOp} {e : Expr} (h : isSet e = false) : behindInMarks op e = false := by
  cases e <;> first | rfl | cases h
/-! ### what is known -/
structure Sx where
  N : List Str
  sc : Scope
  cel : Bool
  defs : List (Str × Nat)
  mks : List (Str × Nat)
  mths : List (Str × Nat)
  flds : List Str
  glos : List Str
  tys : List Str
  blts : List Str
  /-- no exception is handled -/
  cal : Bool
  /-- classes that clauses name; that are raised, with their numbers -/
  xns : List Str
  xmk : List (Str × Nat)
  /-- names that a block keeps in cells of its own -/
  oc : List Str
  /-- classes that the exception in hand is asked for -/
  xts : List Str
def Sx.blk (S : Sx) (scope : Scope) : Sx := { S with sc := relS scope S.sc, cel := false, oc := (scope.names.map (·.1)).filter fun x => scope.names.lookup x == some .cell }
structure Cxs (G : Gx) (L : Fns) (k : Nat) (S : Sx) (X : Cx) : Prop where
  K : X.K = G.K
  N : X.N = S.N
  nd : X.N.Nodup
  sc : X.env.scope = S.sc
  fn : S.cel = true → ∀ x, X.fn x = true
  calm : S.cal = true → X.calm = true
  room : S.cal = true → Room (k + 1) X.A
  un : X.A.units + 64 < cLine
  defs : ∀ x n, (x, n) ∈ S.defs → Def G X k x n (L.call x)
  mks : ∀ x n, (x, n) ∈ S.mks → Mkd G X k x n (L.make x)
  mths : ∀ m n, (m, n) ∈ S.mths → ∀ c, L.hasM c m = true → DefM G X k c m n (L.meth c m)
  cls : ∀ c C, G.cls c = some C → Cls G.K C
  ins : ∀ c C, G.cls c = some C → InsT G.K C
  flds : ∀ f, f ∈ S.flds → ∀ c C, G.cls c = some C → NoAttr G.K C f
  glos : ∀ x, x ∈ S.glos → ∃ (u : Value) (v : V) (d : Dt), X.mg x = some u ∧ RelV v u ∧ (∀ F A, Rep G F A v d) ∧ L.glob x = some d
  tys : ∀ t, t ∈ S.tys → IsiF G X L t
  blts : ∀ x, x ∈ S.blts → X.mg x = none
  eqc : EqC G L
  xns : ∀ x, x ∈ S.xns → NamC X G L x
  xmk : ∀ x c, (x, c) ∈ S.xmk → RaisC X G x c
  fo : ∀ x, x ∈ S.oc → X.fn x = true
  xa0 : S.cal = true → G.xa = none
  hld : HeldC X G
  xts : ∀ t, t ∈ S.xts → XtF G X L t
section
variable {G : Gx} {L : Fns} {k : Nat} {S : Sx} {X : Cx} {W : WX}
theorem Cxs.blk (C : Cxs G L k S X) (hcal : S.cal = true) {s : Shared} {H : Hp} {scope : Scope} {Cc : Addr} {cl : List (Str × Addr)} {fp : List Addr} : Cxs G L k (S.blk scope) (X.blk s H scope (compEnvC scope cl Cc X.env) fp) where
  K := C.K
  N := C.N
  nd := C.nd
  sc := by
    show relabel scope X.env = relS scope S.sc
    rw [← C.sc]; rfl
  fn := fun h => by cases h
  calm := C.calm
  room := C.room
  un := C.un
  defs := fun x n h => let ⟨e⟩ := C.defs x n h; ⟨e⟩
  mks := fun x n h => let ⟨e⟩ := C.mks x n h; ⟨e⟩
  mths := fun m n h c hc => let ⟨e⟩ := C.mths m n h c hc; ⟨e⟩
  cls := C.cls
  ins := C.ins
  flds := C.flds
  glos := C.glos
  tys := fun t h => let ⟨e⟩ := C.tys t h; ⟨e⟩
  blts := C.blts
  eqc := C.eqc
  xns := fun x h => let ⟨e⟩ := C.xns x h; ⟨e⟩
  xmk := fun x c h => let ⟨e⟩ := C.xmk x c h; ⟨e⟩
  fo := fun x h => (List.mem_filter.mp h).2
  xa0 := C.xa0
  hld := ⟨fun a D e => by rw [C.xa0 hcal] at e; cases e⟩
  xts := fun t h => let ⟨e⟩ := C.xts t h; ⟨e⟩
/-- a try's body -/
theorem Cxs.tr (C : Cxs G L k S X) (hcal : S.cal = true) {pn : List (Addr × Obj)} {xe : Value → Shared → Prop} : Cxs G L k S (X.tr pn xe) where
  K := C.K
  N := C.N
  nd := C.nd
  sc := C.sc
  fn := C.fn
  calm := C.calm
  room := C.room
  un := C.un
  defs := fun x n h => let ⟨e⟩ := C.defs x n h; ⟨e⟩
  mks := fun x n h => let ⟨e⟩ := C.mks x n h; ⟨e⟩
  mths := fun m n h c hc => let ⟨e⟩ := C.mths m n h c hc; ⟨e⟩
  cls := C.cls
  ins := C.ins
  flds := C.flds
  glos := C.glos
  tys := fun t h => let ⟨e⟩ := C.tys t h; ⟨e⟩
  blts := C.blts
  eqc := C.eqc
  xns := fun x h => let ⟨e⟩ := C.xns x h; ⟨e⟩
  xmk := fun x c h => let ⟨e⟩ := C.xmk x c h; ⟨e⟩
  fo := C.fo
  xa0 := C.xa0
  hld := ⟨fun a D e => by rw [C.xa0 hcal] at e; cases e⟩
  xts := fun t h => let ⟨e⟩ := C.xts t h; ⟨e⟩
/-- an except suite -/
theorem Cxs.suite (C : Cxs G L k S X) (hcal : S.cal = true) {a : Addr} {pn : List (Addr × Obj)} : Cxs G L k { S with cal := false } (X.suite a pn) where
  K := C.K
  N := C.N
  nd := C.nd
  sc := C.sc
  fn := C.fn
  calm := fun h => by cases h
  room := fun h => by cases h
  un := C.un
  defs := fun x n h => let ⟨e⟩ := C.defs x n h; ⟨e⟩
  mks := fun x n h => let ⟨e⟩ := C.mks x n h; ⟨e⟩
  mths := fun m n h c hc => let ⟨e⟩ := C.mths m n h c hc; ⟨e⟩
  cls := C.cls
  ins := C.ins
  flds := C.flds
  glos := C.glos
  tys := fun t h => let ⟨e⟩ := C.tys t h; ⟨e⟩
  blts := C.blts
  eqc := C.eqc
  xns := fun x h => let ⟨e⟩ := C.xns x h; ⟨e⟩
  xmk := fun x c h => let ⟨e⟩ := C.xmk x c h; ⟨e⟩
  fo := C.fo
  xa0 := fun h => by cases h
  hld := ⟨fun a D e => by rw [C.xa0 hcal] at e; cases e⟩
  xts := fun t h => let ⟨e⟩ := C.xts t h; ⟨e⟩
/-- .. that holds the exception -/
theorem Cxs.held (C : Cxs G L k S X) {a D : Addr} {oe : Obj} {pn : List (Addr × Obj)} (hz : Zc (.ref D) none oe) (hv : ∃ vs, oe.data = .fields vs) :
    Cxs (G.hold (some (a, D))) L k { S with cal := false, defs := [], mks := [], mths := [], xns := [], xmk := [] } (X.suite a ((a, oe) :: pn)) where
  K := C.K
  N := C.N
  nd := C.nd
  sc := C.sc
  fn := C.fn
  calm := fun h => by cases h
  room := fun h => by cases h
  un := C.un
  defs := fun _ _ h => nomatch h
  mks := fun _ _ h => nomatch h
  mths := fun _ _ h => nomatch h
  cls := C.cls
  ins := C.ins
  flds := C.flds
  glos := fun x h => by
    obtain ⟨u, v, d, h1, h2, h3, h4⟩ := C.glos x h
    exact ⟨u, v, d, h1, h2, fun F A => (h3 F A).hold, h4⟩
  tys := fun t h => by
    obtain ⟨c, u, v, h1, h2, h3, h4⟩ := (C.tys t h).ex
    exact ⟨c, u, v, h1, h2, h3, fun ty b e => by
      obtain ⟨tv, e1, e2⟩ := h4 ty b e
      exact ⟨tv, by cases ty <;> exact e1, e2⟩⟩
  blts := C.blts
  eqc := ⟨C.eqc.own, fun c D ty tv h1 h2 h3 => C.eqc.nf c D ty tv h1 h2 (by cases ty <;> exact h3)⟩
  xns := fun _ h => nomatch h
  xmk := fun _ _ h => nomatch h
  fo := C.fo
  xa0 := fun h => by cases h
  hld := ⟨fun b D' e hE => by
    cases e
    exact call_isE hE hz hv⟩
  xts := fun t h => let ⟨e⟩ := C.xts t h; ⟨e⟩
/-! ### the check -/
def okN (x : Str) : Bool := decide (x ≠ "__debug__") && decide (x ≠ "__classdict__") && decide (x ≠ "__name__")
def visC (sc : Scope) (x : Str) : Bool := match sc.names.lookup x with
  | some .local => true | some .cell => true | some .free => true | _ => false
def gloC (sc : Scope) (x : Str) : Bool := decide (sc.names.lookup x = some .globalImplicit)
/-- a slot's name -/
def varC (S : Sx) (i : Nat) (x : Str) : Bool := decide (S.N[i]? = some x) && visC S.sc x && okN x
/-- .. that is stored -/
def stoC (S : Sx) (i : Nat) (x : Str) : Bool := decide (S.N[i]? = some x) && (decide (S.sc.names.lookup x = some .local) || (S.cel && decide (S.sc.names.lookup x = some .cell)) || (decide (x ∈ S.oc) && decide (S.sc.names.lookup x = some .cell)))
def ckC (d : Dt) : Expr → Bool
  | .Constant (.int i) _ _ => match d with | .int j => i == j | _ => false
  | .Constant (.str x) _ _ => match d with | .str y => x == y | _ => false
  | .Constant (.bool b) _ _ => match d with | .bl c => b == c | _ => false
  | .Constant .none _ _ => match d with | .non => true | _ => false
  | _ => false
def all2 {a b : Type} (p : a → b → Bool) : List a → List b → Bool
  | [], [] => true
  | x :: r, y :: q => p x y && all2 p r q
  | _, _ => false
def ckO (p : ME → Expr → Bool) : Option ME → Option Expr → Bool
  | none, none => true
  | some m, some e => p m e
  | _, _ => false
mutual
def ckTg (S : Sx) : Tg → Expr → Bool
  | .n i, e => match e with | .Name x _ => stoC S i x | _ => false
  | .t ts, e => match e with | .Tuple es _ _ => S.cal && ckTgs S ts es | _ => false
def ckTgs (S : Sx) : List Tg → List Expr → Bool
  | [], es => es.isEmpty
  | t :: ts, es => match es with | e :: es => !isStar e && ckTg S t e && ckTgs S ts es | [] => false
end
def ownP (S : Sx) (own : List Nat) : List (Str × Nat) := own.map fun i => (S.N.getD i ⟨#[]⟩, i)
mutual
/-- an expression; with T also as a test -/
def ckE : Nat → Bool → Sx → ME → Expr → Bool
  | 0, _, _, _, _ => false
  | n + 1, T, S, m, e => match m with
    | .bool k ms => (match e with
      | .BoolOp o es _ => decide (o = bop2 k) && !es.isEmpty && all2 (ckE n T S) ms es | _ => false)
    | .not a => (match e with
      | .UnaryOp o x _ => decide (o = .Not) && ckE n T S a x | _ => false)
    | .cmp op a b => (match e with
      | .Compare x ops ys _ => (match ys with
        | [y] => decide (ops = [cop op]) && !isSet y && ckE n false S a x && ckE n false S b y
        | _ => false)
      | _ => false)
    | .cmp2 o1 o2 a b c => (match e with
      | .Compare x ops ys _ => (match ys with
        | [y, z] => decide (ops = [cop o1, cop o2]) && !isSet z && ckE n false S a x && ckE n false S b y && ckE n false S c z
        | _ => false)
      | _ => false)
    | .var i => (match e with
      | .Name x _ => varC S i x | _ => false)
    | .cst d => ckC d e
    | .glo x => (match e with
      | .Name y _ => decide (x = y) && gloC S.sc x && okN x && S.glos.contains x | _ => false)
    | .bin op a b => !T && (match e with
      | .BinOp x o y _ => decide (o = bop op) && ckE n false S a x && ckE n false S b y | _ => false)
    | .neg a => !T && (match e with
      | .UnaryOp o x _ => decide (o = .USub) && ckE n false S a x | _ => false)
    | .ite c a b => !T && (match e with
      | .IfExp x y z _ => ckE n true S c x && ckE n false S a y && ckE n false S b z | _ => false)
    | .tup ms => !T && (match e with
      | .Tuple es _ _ => noStars es && all2 (ckE n false S) ms es | _ => false)
    | .lst ms => !T && (match e with
      | .List es _ => noStars es && all2 (ckE n false S) ms es | _ => false)
    | .idx a b => (match e with
      | .Subscript x y _ => !isSlice y && ckE n false S a x && ckE n false S b y | _ => false)
    | .slc a lo hi => !T && (match e with
      | .Subscript x y _ => (match y with
        | .Slice l h st _ => st.isNone && ckE n false S a x && ckO (ckE n false S) lo l && ckO (ckE n false S) hi h
        | _ => false)
      | _ => false)
    | .rev a => !T && (match e with
      | .Subscript x y _ => (match y with
        | .Slice none none (some (.UnaryOp o (.Constant (.int i) _ _) _)) _ => decide (o = .USub) && decide (i = 1) && ckE n false S a x
        | _ => false)
      | _ => false)
    | .fld a f => (match e with
      | .Attribute x g _ => decide (f = g) && S.flds.contains f && okBase x && ckE n false S a x | _ => false)
    | .call x ms => (match e with
      | .Call fe es ks _ => (match fe with
        | .Name y _ => decide (x = y) && ks.isEmpty && gloC S.sc x && okN x && S.defs.contains (x, es.length) && S.cal && noStars es && all2 (ckE n false S) ms es
        | _ => false)
      | _ => false)
    | .make x ms => !T && (match e with
      | .Call fe es ks _ => (match fe with
        | .Name y _ => decide (x = y) && ks.isEmpty && gloC S.sc x && okN x && S.mks.contains (x, es.length) && S.cal && noStars es && all2 (ckE n false S) ms es
        | _ => false)
      | _ => false)
    | .bif x ms => (match e with
      | .Call fe es ks _ => (match fe with
        | .Name y _ => decide (x = y) && ks.isEmpty && gloC S.sc x && okN x && S.blts.contains x && noStars es && all2 (ckE n false S) ms es && S.cal &&
            (match es with
            | [_] => bnames.contains x
            | [_, _] => decide (x = "min") || decide (x = "max")
            | _ => false)
        | _ => false)
      | _ => false)
    | .meth a m ms => (match e with
      | .Call fe es ks pos => (match fe with
        | .Attribute o g apos => decide (m = g) && ks.isEmpty && okBase o && (apos.endLine == pos.line) && decide (es.length < 30) && S.mths.contains (m, es.length + 1) && S.cal && noStars es && ckE n false S a o && all2 (ckE n false S) ms es
        | _ => false)
      | _ => false)
    | .bme a m ms => !T && (match e with
      | .Call fe es ks pos => (match fe with
        | .Attribute o g apos => decide (m = g) && ks.isEmpty && okBase o && (apos.endLine == pos.line) && noStars es && ckE n false S a o && all2 (ckE n false S) ms es &&
            (match es with
            | [] => decide (m = "pop")
            | [_] => decide (m = "append") || decide (m = "pop") || decide (m = "extend")
            | _ => false)
        | _ => false)
      | _ => false)
    | .isi a t => (match e with
      | .Call fe es ks _ => (match fe, es with
        | .Name y _, [x, .Name z _] => decide (y = "isinstance") && ks.isEmpty && gloC S.sc y && S.blts.contains y && decide (t = z) && gloC S.sc t && okN t && S.tys.contains t && !isStar x && ckE n false S a x
        | _, _ => false)
      | _ => false)
    | .lc el tg src cond own => !T && (match e with
      | .ListComp x gs scope _ => (match gs with
        | [⟨t, it, ifs, asy⟩] => S.cal && decide (asy = 0) && !isSet it && blkC S.N S.sc scope (ownP S own) && (tslots tg).all own.contains && ckTg (S.blk scope) tg t && ckI n S src t it && ckE n false (S.blk scope) el x &&
            (match cond, ifs with
            | none, [] => true
            | some c, [z] => ckE n true (S.blk scope) c z
            | _, _ => false)
        | _ => false)
      | _ => false)
    | .lc2 el tg src cond tg1 src1 cond1 own own1 => !T && (match e with
      | .ListComp x gs scope _ => (match gs with
        | [⟨t, it, ifs, asy⟩, ⟨t1, it1, ifs1, asy1⟩] => S.cal && decide (asy = 0) && decide (asy1 = 0) && !isSet it && !isSet it1 && blkC S.N S.sc scope (ownP S own) && (tslots tg).all own.contains && (tslots tg1).all own1.contains && own1.all own.contains && ckTg (S.blk scope) tg t && ckTg (S.blk scope) tg1 t1 && ckI n S src t it && ckI n (S.blk scope) src1 t1 it1 && ckE n false (S.blk scope) el x &&
            (match cond, ifs with
            | none, [] => true
            | some c, [z] => ckE n true (S.blk scope) c z
            | _, _ => false) &&
            (match cond1, ifs1 with
            | none, [] => true
            | some c, [z] => ckE n true (S.blk scope) c z
            | _, _ => false)
        | _ => false)
      | _ => false)
    | .nevE => true
    | .alloc a => !T && ckE n false S a e
    | .trg a => !T && (match e with
      | .Call fe es ks _ => (match fe, es with
        | .Name y _, [.Call ge fs ls _] => (match ge, fs with
          | .Name z _, [x] => decide (y = "tuple") && decide (z = "range") && ks.isEmpty && ls.isEmpty && gloC S.sc y && gloC S.sc z && S.blts.contains y && S.blts.contains z && !isStar x && S.cal && ckE n false S a x
          | _, _ => false)
        | _, _ => false)
      | _ => false)
    | .sst a => !T && (match e with
      | .Call fe es ks _ => (match fe, es with
        | .Name y _, [.Call ge fs ls _] => (match ge, fs with
          | .Name z _, [x] => decide (y = "sorted") && decide (z = "set") && ks.isEmpty && ls.isEmpty && gloC S.sc y && gloC S.sc z && S.blts.contains y && S.blts.contains z && !isStar x && S.cal && ckE n false S a x
          | _, _ => false)
        | _, _ => false)
      | _ => false)
    | .lrg a => !T && (match e with
      | .Call fe es ks _ => (match fe, es with
        | .Name y _, [.Call ge fs ls _] => (match ge, fs with
          | .Name z _, [x] => decide (y = "list") && decide (z = "range") && ks.isEmpty && ls.isEmpty && gloC S.sc y && gloC S.sc z && S.blts.contains y && S.blts.contains z && !isStar x && S.cal && ckE n false S a x
          | _, _ => false)
        | _, _ => false)
      | _ => false)
    | .lr2 a b => !T && (match e with
      | .Call fe es ks _ => (match fe, es with
        | .Name y _, [.Call ge fs ls _] => (match ge, fs with
          | .Name z _, [x, x2] => decide (y = "list") && decide (z = "range") && ks.isEmpty && ls.isEmpty && gloC S.sc y && gloC S.sc z && S.blts.contains y && S.blts.contains z && !isStar x && !isStar x2 && S.cal && ckE n false S a x && ckE n false S b x2
          | _, _ => false)
        | _, _ => false)
      | _ => false)
    | .isi2 a t u => (match e with
      | .Call fe es ks _ => (match fe, es with
        | .Name y _, [x, .Tuple [.Name z _, .Name z2 _] _ _] => decide (y = "isinstance") && ks.isEmpty && gloC S.sc y && S.blts.contains y && decide (t = z) && gloC S.sc t && okN t && S.tys.contains t && decide (u = z2) && gloC S.sc u && okN u && S.tys.contains u && !isStar x && ckE n false S a x
        | _, _ => false)
      | _ => false)
    | .dct o => !T && (match e with
      | .Dict ks vs _ => (match o, ks, vs with
        | none, [], [] => true
        | some (a, b), [some k], [v] => ckC (.str a) k && ckC (.str b) v
        | _, _, _ => false)
      | _ => false)
    | .isx i t => (match e with
      | .Call fe es ks _ => (match fe, es with
        | .Name y _, [.Name x _, .Name z _] => decide (y = "isinstance") && ks.isEmpty && gloC S.sc y && S.blts.contains y && decide (t = z) && gloC S.sc t && okN t && S.xts.contains t && varC S i x
        | _, _ => false)
      | _ => false)
    | .ieq neg a b => (match e with
      | .Compare x ops ys _ => (match ys with
        | [y] => decide (ops = [eqOp neg]) && !isSet y && S.mths.contains ("__eq__", 2) && S.cal && ckE n false S a x && ckE n false S b y
        | _ => false)
      | _ => false)
/-- what is walked -/
def ckI : Nat → Sx → MI → Expr → Expr → Bool
  | 0, _, _, _, _ => false
  | n + 1, S, m, t, e => match m with
    | .seq _ a => ckE n false S a e
    | .rng ms => (match e with
      | .Call fe es ks _ => (match fe with
        | .Name y _ => decide (y = "range") && ks.isEmpty && gloC S.sc y && S.blts.contains y && noStars es && all2 (ckE n false S) ms es && (decide (es.length = 1) || decide (es.length = 2) || decide (es.length = 3))
        | _ => false)
      | _ => false)
    | .enum _ a => (match e, t with
      | .Call fe es ks _, .Tuple _ _ _ => (match fe, es with
        | .Name y _, [x] => decide (y = "enumerate") && ks.isEmpty && gloC S.sc y && S.blts.contains y && !isStar x && ckE n false S a x
        | _, _ => false)
      | _, _ => false)
    | .zip ms => (match e, t with
      | .Call fe es ks _, .Tuple _ _ _ => (match fe with
        | .Name y _ => decide (y = "zip") && ks.isEmpty && gloC S.sc y && S.blts.contains y && noStars es && all2 (ckE n false S) ms es && decide (es.length = 2)
        | _ => false)
      | _, _ => false)
end
end
end Mq

/-! MqSnd: the check is sound. -/
namespace Mq
open PySem L2
section
variable {G : Gx} {L : Fns} {k : Nat} {S : Sx} {X : Cx} {W : WX}
theorem okN_ok {x : Str} (h : okN x = true) : (x == ("__debug__" : Str)) = false ∧ (x == ("__classdict__" : Str)) = false ∧ x ≠ "__name__" := by
  simp only [okN, Bool.and_eq_true, decide_eq_true_eq] at h
  exact ⟨by simpa using h.1.1, by simpa using h.1.2, h.2⟩
theorem gl_ok (C : Cxs G L k S X) {x : Str} (h : gloC S.sc x = true) : Gl X x := by
  show X.env.scope.names.lookup x = _
  rw [C.sc]; exact of_decide_eq_true h
theorem vis_ok {sc : Scope} {x : Str} (h : visC sc x = true) : Vis sc x := by
  unfold visC at h
  split at h
  · exact .inl ‹_›
  · exact .inr (.inl ‹_›)
  · exact .inr (.inr ‹_›)
  · cases h
theorem var_ok (C : Cxs G L k S X) {i : Nat} {x : Str} {pos : Pos} (h : varC S i x = true) : PE X (.Name x pos) (tE G W (ev L (.var i))) := by
  simp only [varC, Bool.and_eq_true, decide_eq_true_eq] at h
  obtain ⟨⟨h1, h2⟩, h3⟩ := h
  obtain ⟨n1, n2, _⟩ := okN_ok h3
  exact sv_var (by rw [C.N]; exact h1) (by rw [C.sc]; exact vis_ok h2) n1 n2
theorem sto_ok (C : Cxs G L k S X) {i : Nat} {x : Str} (h : stoC S i x = true) : X.N[i]? = some x ∧ Loc X.env.scope x ∧ (X.fn x = true ∨ X.env.scope.names.lookup x = some .local) := by
  simp only [stoC, Bool.and_eq_true, Bool.or_eq_true, decide_eq_true_eq] at h
  refine ⟨by rw [C.N]; exact h.1, ?_, ?_⟩
  · rw [C.sc]; exact h.2.elim (·.imp id (·.2)) fun z => .inr z.2
  · rw [C.sc]; exact h.2.elim (·.elim .inr fun z => .inl (C.fn z.1 x)) fun z => .inl (C.fo x z.1)
theorem cst_ok {d : Dt} {e : Expr} (h : ckC d e = true) : PE X e (tE G W (ev L (.cst d))) ∧ plainT e = true := by
  unfold ckC at h
  split at h
  · split at h
    · rename_i i _ _ _ j
      have : i = j := by simpa using h
      subst this
      exact ⟨sv_cst pe_int fun _ _ => .int _, rfl⟩
    · cases h
  · split at h
    · rename_i i _ _ _ j
      have : i = j := by simpa using h
      subst this
      exact ⟨sv_cst pe_str fun _ _ => .str _, rfl⟩
    · cases h
  · split at h
    · rename_i i _ _ _ j
      have : i = j := by simpa using h
      subst this
      exact ⟨sv_cst pe_bl fun _ _ => .bl _, rfl⟩
    · cases h
  · split at h
    · exact ⟨sv_cst pe_non fun _ _ => .non, rfl⟩
    · cases h
  · cases h
theorem glo_ok (C : Cxs G L k S X) {x : Str} {pos : Pos} (h1 : gloC S.sc x = true) (h2 : okN x = true) (h3 : x ∈ S.glos) : PE X (.Name x pos) (tE G W (ev L (.glo x))) := by
  obtain ⟨u, v, d, e1, e2, e3, e4⟩ := C.glos x h3
  exact sv_glo (gl_ok C h1) e1 e2 e3 (okN_ok h2).1 e4
mutual
theorem tg_ok (C : Cxs G L k S X) : ∀ {t : Tg} {e : Expr}, ckTg S t e = true → PG X e (tgR G t)
  | .n i, e, h => by
    rw [ckTg.eq_def] at h
    dsimp only at h
    split at h
    · obtain ⟨h1, h2, h3⟩ := sto_ok C h
      exact sg_n C.nd h1 h2 h3
    · cases h
  | .t ts, e, h => by
    rw [ckTg.eq_def] at h
    dsimp only at h
    split at h
    · simp only [Bool.and_eq_true] at h
      obtain ⟨h1, h2, h3, h4⟩ := tgs_ok C h.2
      exact sg_t C.K (C.calm h.1) h1 h2 h3 h4
    · cases h
theorem tgs_ok (C : Cxs G L k S X) : ∀ {ts : List Tg} {es : List Expr}, ckTgs S ts es = true → PGs X es (tgRs G ts) ∧ ts.length = es.length ∧ (assignEach es X.env).length = es.length ∧ (assignEach es X.env).findIdx? (·.1) = none
  | [], es, h => by
    rw [ckTgs.eq_def] at h
    dsimp only at h
    cases es with
    | nil => exact ⟨sgs_nil, rfl, rfl, rfl⟩
    | cons e es => cases h
  | t :: ts, es, h => by
    rw [ckTgs.eq_def] at h
    dsimp only at h
    cases es with
    | nil => cases h
    | cons e es =>
      simp only [Bool.and_eq_true, Bool.not_eq_true'] at h
      obtain ⟨⟨h1, h2⟩, h3⟩ := h
      obtain ⟨q1, q2, q3, q4⟩ := tgs_ok C h3
      have ea : assignEach (e :: es) X.env = (false, assign e X.env) :: assignEach es X.env := by cases e <;> first | rfl | cases h1
      refine ⟨sgs_cons (tg_ok C h2) q1 (by rw [ea]; rfl), by simp [q2], by rw [ea]; simp [q3], ?_⟩
      rw [ea, List.findIdx?_cons, q4]; rfl
end
theorem one_as {tg : Expr} {env : Env} (h : isStar tg = false) : (assignEach [tg] env).map (·.2) = [assign tg env] := by cases tg <;> first | rfl | cases h
theorem pa_of {es : List Expr} : ∀ {ms : List ME} {p : ME → Expr → Bool}, (∀ m e, p m e = true → PE X e (tE G W (ev L m))) → noStars es = true → all2 p ms es = true → PA X es (tA G W (evs L ms)) ∧ ms.length = es.length := by
  induction es with
  | nil =>
    intro ms p hp hs h
    cases ms with
    | nil => exact ⟨sa_nil, rfl⟩
    | cons m ms => cases h
  | cons e es ih =>
    intro ms p hp hs h
    cases ms with
    | nil => cases h
    | cons m ms =>
      simp only [all2, Bool.and_eq_true] at h
      simp only [noStars, Bool.and_eq_true, Bool.not_eq_true'] at hs
      obtain ⟨a, b⟩ := ih hp hs.2 h.2
      exact ⟨sa_cons (star_cons hs.1) (hp m e h.1) a, by simp [b]⟩
theorem bool_e {o : Bool} {es : List Expr} {pos : Pos} : ∀ {ms : List ME} {p : ME → Expr → Bool}, (∀ m e, p m e = true → PE X e (tE G W (ev L m))) → es ≠ [] → all2 p ms es = true → PE X (.BoolOp (bop2 o) es pos) (tE G W (evB L o ms)) := by
  induction es with
  | nil => intro ms p hp hs h; exact absurd rfl hs
  | cons e es ih =>
    intro ms p hp hs h
    cases ms with
    | nil => cases h
    | cons m ms =>
      simp only [all2, Bool.and_eq_true] at h
      cases es with
      | nil =>
        cases ms with
        | nil => exact sv_bool1 (hp m e h.1)
        | cons _ _ => cases h.2
      | cons e2 es =>
        cases ms with
        | nil => cases h.2
        | cons m2 ms => exact sv_bool (hp m e h.1) (ih hp (by simp) h.2)
theorem bool_t {o : Bool} {es : List Expr} {pos : Pos} : ∀ {ms : List ME} {p : ME → Expr → Bool}, (∀ m e, p m e = true → PT X e (tT G W (tst (ev L m)))) → es ≠ [] → all2 p ms es = true → PW X (.BoolOp (bop2 o) es pos) (tT G W (tst (evB L o ms))) := by
  induction es with
  | nil => intro ms p hp hs h; exact absurd rfl hs
  | cons e es ih =>
    intro ms p hp hs h
    cases ms with
    | nil => cases h
    | cons m ms =>
      simp only [all2, Bool.and_eq_true] at h
      cases es with
      | nil =>
        cases ms with
        | nil => exact sw_bool1 (hp m e h.1)
        | cons _ _ => cases h.2
      | cons e2 es =>
        cases ms with
        | nil => cases h.2
        | cons m2 ms => exact sw_bool (hp m e h.1) (ih hp (by simp) h.2)
/-- by its value -/
theorem pt_of {e : Expr} {m : ME} (hp : plainT e = true) (h : PE X e (tE G W (ev L m))) : PT X e (tT G W (tst (ev L m))) :=
  (pt_val h (plainT_ok hp)).imp fun σ H Q h => tE_of_tT h
end
end Mq

/-! MqSnd2: expressions, the check is sound. -/
namespace Mq
open PySem L2
section
variable {G : Gx} {L : Fns} {k : Nat}
theorem ownP_snd {S : Sx} {own : List Nat} : (ownP S own).map (·.2) = own := by
  unfold ownP
  rw [List.map_map]
  exact List.map_id own
structure Snd (G : Gx) (L : Fns) (k n : Nat) : Prop where
  e : ∀ {S : Sx} {X : Cx} {W : WX} (C : Cxs G L k S X) (tk : Takes X W) (m : ME) (e : Expr), ckE n false S m e = true → PE X e (tE G W (ev L m))
  t : ∀ {S : Sx} {X : Cx} {W : WX} (C : Cxs G L k S X) (tk : Takes X W) (m : ME) (e : Expr), ckE n true S m e = true → PT X e (tT G W (tst (ev L m)))
  i : ∀ {S : Sx} {X : Cx} {W : WX} (C : Cxs G L k S X) (tk : Takes X W) (m : MI) (t e : Expr), ckI n S m t e = true → PI X t e (tI G W (evI L m))
section
variable {n : Nat} {S : Sx} {X : Cx} {W : WX}
theorem po_of {p : ME → Expr → Bool} (hp : ∀ m e, p m e = true → PE X e (tE G W (ev L m))) {m : Option ME} {e : Option Expr} (h : ckO p m e = true) : PO X e (tOi G W (evO L m)) := by
  unfold ckO at h
  split at h
  · exact so_none
  · exact so_some (hp _ _ h)
  · cases h
/-- what is told by the value alone -/
theorem snd_v (I : Snd G L k n) (C : Cxs G L k S X) (tk : Takes X W) (T : Bool) : ∀ (m : ME) (e : Expr), ckE (n + 1) T S m e = true → (match m with | .nevE => False | .bool _ _ => False | .not _ => False | .cmp _ _ _ => False | .cmp2 _ _ _ _ _ => False | .ieq _ _ _ => False | _ => True) → PE X e (tE G W (ev L m)) ∧ (T = true → plainT e = true)
  | .bool _ _, _, _, z => z.elim
  | .nevE, _, _, z => z.elim
  | .not _, _, _, z => z.elim
  | .cmp _ _ _, _, _, z => z.elim
  | .cmp2 _ _ _ _ _, _, _, z => z.elim
  | .ieq _ _ _, _, _, z => z.elim
  | .var i, e, h, _ => by
    rw [ckE.eq_def] at h; dsimp only at h
    split at h
    · exact ⟨var_ok C h, fun _ => rfl⟩
    · cases h
  | .cst d, e, h, _ => by
    rw [ckE.eq_def] at h; dsimp only at h
    obtain ⟨a, b⟩ := cst_ok (X := X) (G := G) (W := W) (L := L) h
    exact ⟨a, fun _ => b⟩
  | .glo x, e, h, _ => by
    rw [ckE.eq_def] at h; dsimp only at h
    split at h
    · simp only [Bool.and_eq_true, decide_eq_true_eq, List.contains_iff_mem] at h
      obtain ⟨⟨⟨rfl, h1⟩, h2⟩, h3⟩ := h
      exact ⟨glo_ok C h1 h2 h3, fun _ => rfl⟩
    · cases h
  | .bin op a b, e, h, _ => by
    rw [ckE.eq_def] at h; dsimp only at h
    simp only [Bool.and_eq_true, Bool.not_eq_true'] at h
    obtain ⟨hT, h⟩ := h
    split at h
    · simp only [Bool.and_eq_true, decide_eq_true_eq] at h
      obtain ⟨⟨rfl, h1⟩, h2⟩ := h
      exact ⟨sv_bin C.K (I.e C tk _ _ h1) (I.e C tk _ _ h2), fun z => by rw [hT] at z; cases z⟩
    · cases h
  | .neg a, e, h, _ => by
    rw [ckE.eq_def] at h; dsimp only at h
    simp only [Bool.and_eq_true, Bool.not_eq_true'] at h
    obtain ⟨hT, h⟩ := h
    split at h
    · simp only [Bool.and_eq_true, decide_eq_true_eq] at h
      obtain ⟨rfl, h1⟩ := h
      exact ⟨sv_neg (I.e C tk _ _ h1), fun z => by rw [hT] at z; cases z⟩
    · cases h
  | .ite c a b, e, h, _ => by
    rw [ckE.eq_def] at h; dsimp only at h
    simp only [Bool.and_eq_true, Bool.not_eq_true'] at h
    obtain ⟨hT, h⟩ := h
    split at h
    · simp only [Bool.and_eq_true] at h
      exact ⟨sv_ite (I.t C tk _ _ h.1.1) (I.e C tk _ _ h.1.2) (I.e C tk _ _ h.2), fun z => by rw [hT] at z; cases z⟩
    · cases h
  | .tup ms, e, h, _ => by
    rw [ckE.eq_def] at h; dsimp only at h
    simp only [Bool.and_eq_true, Bool.not_eq_true'] at h
    obtain ⟨hT, h⟩ := h
    split at h
    · simp only [Bool.and_eq_true] at h
      exact ⟨sv_tup (pa_of (I.e C tk) h.1 h.2).1, fun z => by rw [hT] at z; cases z⟩
    · cases h
  | .lst ms, e, h, _ => by
    rw [ckE.eq_def] at h; dsimp only at h
    simp only [Bool.and_eq_true, Bool.not_eq_true'] at h
    obtain ⟨hT, h⟩ := h
    split at h
    · simp only [Bool.and_eq_true] at h
      exact ⟨sv_lst (pa_of (I.e C tk) h.1 h.2).1, fun z => by rw [hT] at z; cases z⟩
    · cases h
  | .idx a b, e, h, _ => by
    rw [ckE.eq_def] at h; dsimp only at h
    split at h
    · simp only [Bool.and_eq_true, Bool.not_eq_true'] at h
      exact ⟨sv_idx C.K (plain_ix h.1.1) (I.e C tk _ _ h.1.2) (I.e C tk _ _ h.2), fun _ => rfl⟩
    · cases h
  | .slc a lo hi, e, h, _ => by
    rw [ckE.eq_def] at h; dsimp only at h
    simp only [Bool.and_eq_true, Bool.not_eq_true'] at h
    obtain ⟨hT, h⟩ := h
    split at h
    · split at h
      · simp only [Bool.and_eq_true, Option.isNone_iff_eq_none] at h
        obtain ⟨⟨⟨rfl, h1⟩, h2⟩, h3⟩ := h
        exact ⟨sv_slc C.K (I.e C tk _ _ h1) (po_of (I.e C tk) h2) (po_of (I.e C tk) h3), fun z => by rw [hT] at z; cases z⟩
      · cases h
    · cases h
  | .rev a, e, h, _ => by
    rw [ckE.eq_def] at h; dsimp only at h
    simp only [Bool.and_eq_true, Bool.not_eq_true'] at h
    obtain ⟨hT, h⟩ := h
    split at h
    · split at h
      · simp only [Bool.and_eq_true, decide_eq_true_eq] at h
        obtain ⟨⟨rfl, rfl⟩, h1⟩ := h
        exact ⟨sv_rev C.K (I.e C tk _ _ h1), fun z => by rw [hT] at z; cases z⟩
      · cases h
    · cases h
  | .fld a f, e, h, _ => by
    rw [ckE.eq_def] at h; dsimp only at h
    split at h
    · simp only [Bool.and_eq_true, decide_eq_true_eq, List.contains_iff_mem] at h
      obtain ⟨⟨⟨rfl, h1⟩, h2⟩, h3⟩ := h
      exact ⟨sv_fld C.K C.cls (C.flds _ h1) (base_ok h2) (I.e C tk _ _ h3), fun _ => rfl⟩
    · cases h
  | .call x ms, e, h, _ => by
    rw [ckE.eq_def] at h; dsimp only at h
    split at h
    · split at h
      · simp only [Bool.and_eq_true, decide_eq_true_eq, List.contains_iff_mem, List.isEmpty_iff] at h
        obtain ⟨⟨⟨⟨⟨⟨⟨rfl, rfl⟩, h1⟩, h2⟩, h3⟩, hcal⟩, h4⟩, h5⟩ := h
        refine ⟨?_, fun _ => rfl⟩
        obtain ⟨pa, hl⟩ := pa_of (I.e C tk) h4 h5
        rename_i es _ _ _
        cases es with
        | nil =>
          cases ms with
          | nil => exact sv_call0 ((C.room hcal).mono (Nat.le_succ _)) tk (C.defs _ _ h3) (gl_ok C h1) (okN_ok h2).1
          | cons _ _ => cases hl
        | cons e es =>
          simp only [noStars, Bool.and_eq_true, Bool.not_eq_true'] at h4
          exact sv_call ((C.room hcal).mono (Nat.le_succ _)) tk (C.defs _ _ h3) (by simpa using hl) (gl_ok C h1) pa (okN_ok h2).1 (star_cons h4.1) (stars_no h4.2).1
      · cases h
    · cases h
  | .make x ms, e, h, _ => by
    rw [ckE.eq_def] at h; dsimp only at h
    simp only [Bool.and_eq_true, Bool.not_eq_true'] at h
    obtain ⟨hT, h⟩ := h
    split at h
    · split at h
      · simp only [Bool.and_eq_true, decide_eq_true_eq, List.contains_iff_mem, List.isEmpty_iff] at h
        obtain ⟨⟨⟨⟨⟨⟨⟨rfl, rfl⟩, h1⟩, h2⟩, h3⟩, hcal⟩, h4⟩, h5⟩ := h
        refine ⟨?_, fun _ => rfl⟩
        obtain ⟨pa, hl⟩ := pa_of (I.e C tk) h4 h5
        rename_i es _ _ _
        cases es with
        | nil =>
          cases ms with
          | nil => exact sv_make0 (C.room hcal) tk (C.mks _ _ h3) (gl_ok C h1) (okN_ok h2).1
          | cons _ _ => cases hl
        | cons e es =>
          simp only [noStars, Bool.and_eq_true, Bool.not_eq_true'] at h4
          exact sv_make (C.room hcal) tk (C.mks _ _ h3) (by simpa using hl) (gl_ok C h1) pa (okN_ok h2).1 (star_cons h4.1) (stars_no h4.2).1
      · cases h
    · cases h
  | .bif x ms, e, h, _ => by
    rw [ckE.eq_def] at h; dsimp only at h
    split at h
    · split at h
      · simp only [Bool.and_eq_true, decide_eq_true_eq, List.contains_iff_mem, List.isEmpty_iff] at h
        obtain ⟨⟨⟨⟨⟨⟨⟨⟨rfl, rfl⟩, h1⟩, h2⟩, h3⟩, h4⟩, h5⟩, hcal⟩, h6⟩ := h
        refine ⟨?_, fun _ => rfl⟩
        split at h6
        · rename_i x _
          cases ms with
          | nil => cases h5
          | cons m ms =>
            simp only [all2, Bool.and_eq_true] at h5
            cases ms with
            | cons _ _ => cases h5.2
            | nil =>
              simp only [noStars, Bool.and_eq_true, Bool.not_eq_true'] at h4
              exact sv_bif1 (bf_all C.K (C.calm hcal) C.un _ (by simpa using h6)) (gl_ok C h1) (C.blts _ h3) (okN_ok h2).2.2 (okN_ok h2).1 (star_cons h4.1) (I.e C tk _ _ h5.1)
        · cases ms with
          | nil => cases h5
          | cons m ms =>
            simp only [all2, Bool.and_eq_true] at h5
            cases ms with
            | nil => cases h5.2
            | cons m2 ms =>
              simp only [all2, Bool.and_eq_true] at h5
              cases ms with
              | cons _ _ => cases h5.2.2
              | nil =>
                simp only [noStars, Bool.and_eq_true, Bool.not_eq_true'] at h4
                exact sv_bif2 (by simpa using h6) (C.calm hcal) (gl_ok C h1) (C.blts _ h3) (star_cons h4.1) (star_cons h4.2.1) (I.e C tk _ _ h5.1) (I.e C tk _ _ h5.2.1)
        · cases h6
      · cases h
    · cases h
  | .meth a m ms, e, h, _ => by
    rw [ckE.eq_def] at h; dsimp only at h
    split at h
    · split at h
      · simp only [Bool.and_eq_true, decide_eq_true_eq, List.contains_iff_mem, List.isEmpty_iff] at h
        obtain ⟨⟨⟨⟨⟨⟨⟨⟨⟨rfl, rfl⟩, h1⟩, h2⟩, h3⟩, h4⟩, hcal⟩, h5⟩, h6⟩, h7⟩ := h
        refine ⟨?_, fun _ => rfl⟩
        obtain ⟨pa, hl⟩ := pa_of (I.e C tk) h5 h7
        rename_i es _ _ _ _
        cases es with
        | nil =>
          cases ms with
          | nil => exact sv_meth0 C.K ((C.room hcal).mono (Nat.le_succ _)) tk (C.mths _ _ h4) (I.e C tk _ _ h6) (base_ok h1) h2
          | cons _ _ => cases hl
        | cons e es =>
          have h5' := h5
          simp only [noStars, Bool.and_eq_true, Bool.not_eq_true'] at h5'
          refine sv_meth C.K ((C.room hcal).mono (Nat.le_succ _)) tk (C.mths _ _ h4) (by simpa using hl) (I.e C tk _ _ h6) pa (base_ok h1) h2 ?_ (star_cons h5'.1) (stars_no h5'.2).1
          unfold methodCallForm
          rw [(stars_no h5).2]
          simpa using h3
      · cases h
    · cases h
  | .bme a m ms, e, h, _ => by
    rw [ckE.eq_def] at h; dsimp only at h
    simp only [Bool.and_eq_true, Bool.not_eq_true'] at h
    obtain ⟨hT, h⟩ := h
    split at h
    · split at h
      · simp only [Bool.and_eq_true, decide_eq_true_eq, List.isEmpty_iff] at h
        obtain ⟨⟨⟨⟨⟨⟨⟨rfl, rfl⟩, h1⟩, h2⟩, h3⟩, h4⟩, h5⟩, h6⟩ := h
        refine ⟨?_, fun _ => rfl⟩
        split at h6
        · cases ms with
          | cons _ _ => cases h5
          | nil =>
            obtain rfl := of_decide_eq_true h6
            exact sv_pop0 C.K (base_ok h1) h2 (I.e C tk _ _ h4)
        · cases ms with
          | nil => cases h5
          | cons m1 ms =>
            simp only [all2, Bool.and_eq_true] at h5
            cases ms with
            | cons _ _ => cases h5.2
            | nil =>
              have h3' := h3
              simp only [noStars, Bool.and_eq_true, Bool.not_eq_true'] at h3'
              refine sv_bme (by simpa [or_assoc] using h6) C.K (base_ok h1) h2 ?_ (star_cons h3'.1) (I.e C tk _ _ h4) (I.e C tk _ _ h5.1)
              rw [(stars_no h3).2]
              rfl
        · cases h6
      · cases h
    · cases h
  | .dct o, e, h, _ => by
    rw [ckE.eq_def] at h; dsimp only at h
    simp only [Bool.and_eq_true, Bool.not_eq_true'] at h
    obtain ⟨hT, h⟩ := h
    have str : ∀ {x : Str} {y : Expr}, ckC (.str x) y = true → PE X y (tC (.str x)) := fun {x y} h => by
      unfold ckC at h
      split at h
      · cases h
      · rename_i z _ _
        have : z = x := by simpa using h
        subst this
        exact pe_str
      · cases h
      · cases h
      · cases h
    refine ⟨?_, fun z => by rw [hT] at z; cases z⟩
    split at h
    · split at h
      · exact sv_dct0
      · simp only [Bool.and_eq_true] at h
        exact sv_dct1 (str h.1) (str h.2)
      · cases h
    · cases h
  | .isi a t, e, h, _ => by
    rw [ckE.eq_def] at h; dsimp only at h
    split at h
    · split at h
      · simp only [Bool.and_eq_true, decide_eq_true_eq, List.contains_iff_mem, List.isEmpty_iff, Bool.not_eq_true'] at h
        obtain ⟨⟨⟨⟨⟨⟨⟨⟨⟨rfl, rfl⟩, h1⟩, h2⟩, rfl⟩, h3⟩, h4⟩, h5⟩, h6⟩, h7⟩ := h
        exact ⟨sv_isi C.K C.ins (C.tys _ h5) (gl_ok C h1) (C.blts _ h2) (gl_ok C h3) (okN_ok h4).2.2 (okN_ok h4).1 (star_cons h6) (I.e C tk _ _ h7), fun _ => rfl⟩
      · cases h
    · cases h
  | .isx i t, e, h, _ => by
    rw [ckE.eq_def] at h; dsimp only at h
    split at h
    · split at h
      · simp only [Bool.and_eq_true, decide_eq_true_eq, List.contains_iff_mem, List.isEmpty_iff, Bool.not_eq_true'] at h
        obtain ⟨⟨⟨⟨⟨⟨⟨⟨rfl, rfl⟩, h1⟩, h2⟩, rfl⟩, h3⟩, h4⟩, h5⟩, h6⟩ := h
        have h7 := h6
        simp only [varC, Bool.and_eq_true, decide_eq_true_eq] at h7
        obtain ⟨⟨v1, v2⟩, v3⟩ := h7
        exact ⟨sv_isx C.K C.hld (C.xts _ h5) (gl_ok C h1) (C.blts _ h2) (gl_ok C h3) (okN_ok h4).2.2 (okN_ok h4).1 (by rw [C.N]; exact v1) (by rw [C.sc]; exact vis_ok v2) (okN_ok v3).1 (okN_ok v3).2.1, fun _ => rfl⟩
      · cases h
    · cases h
  | .lc el tg src cond own, e, h, _ => by
    rw [ckE.eq_def] at h; dsimp only at h
    simp only [Bool.and_eq_true, Bool.not_eq_true'] at h
    obtain ⟨hT, h⟩ := h
    split at h
    · split at h
      · simp only [Bool.and_eq_true, decide_eq_true_eq, Bool.not_eq_true'] at h
        obtain ⟨⟨⟨⟨⟨⟨⟨⟨hcal, rfl⟩, h1⟩, h2⟩, h3⟩, h4⟩, h5⟩, h6⟩, h7⟩ := h
        refine ⟨?_, fun z => by rw [hT] at z; cases z⟩
        rw [← ownP_snd (S := S) (own := own)]
        refine sv_lc (C.calm hcal) C.nd (I.i C tk _ _ _ h5) (by rw [C.N, C.sc]; exact blkOk_by h2)
          (by rw [ownP_snd]; exact fun i hi => by have := List.all_eq_true.mp h3 i hi; simpa using this)
          (fun _ _ _ _ _ => tg_ok (C.blk hcal) h4) (fun _ _ _ _ _ => ?_) (fun _ _ _ _ _ => I.e (C.blk hcal) takes0 _ _ h6) (folded_no h1)
        split at h7
        · exact sts_nil
        · exact sts_one (I.t (C.blk hcal) takes0 _ _ h7)
        · cases h7
      · cases h
    · cases h
  | .lc2 el tg src cond tg1 src1 cond1 own own1, e, h, _ => by
    rw [ckE.eq_def] at h; dsimp only at h
    simp only [Bool.and_eq_true, Bool.not_eq_true'] at h
    obtain ⟨hT, h⟩ := h
    split at h
    · split at h
      · simp only [Bool.and_eq_true, decide_eq_true_eq, Bool.not_eq_true'] at h
        obtain ⟨⟨⟨⟨⟨⟨⟨⟨⟨⟨⟨⟨⟨⟨⟨hcal, rfl⟩, rfl⟩, h1⟩, h1b⟩, h2⟩, h3⟩, h3b⟩, h3c⟩, h4⟩, h4b⟩, h5⟩, h5b⟩, h6⟩, h7⟩, h8⟩ := h
        refine ⟨?_, fun z => by rw [hT] at z; cases z⟩
        rw [← ownP_snd (S := S) (own := own)]
        refine sv_lc2 (C.calm hcal) C.nd (I.i C tk _ _ _ h5) (by rw [C.N, C.sc]; exact blkOk_by h2)
          (by rw [ownP_snd]; exact fun i hi => by have := List.all_eq_true.mp h3 i hi; simpa using this)
          (fun i hi => by have := List.all_eq_true.mp h3b i hi; simpa using this)
          (by rw [ownP_snd]; exact fun i hi => by have := List.all_eq_true.mp h3c i hi; simpa using this)
          (fun _ _ _ _ _ => tg_ok (C.blk hcal) h4) (fun _ _ _ _ _ => ?_) (fun _ _ _ _ _ => I.i (C.blk hcal) takes0 _ _ _ h5b) (fun _ _ _ _ _ => tg_ok (C.blk hcal) h4b) (fun _ _ _ _ _ => ?_) (fun _ _ _ _ _ => I.e (C.blk hcal) takes0 _ _ h6) (folded_no h1) (fun _ => folded_no h1b)
        · split at h7
          · exact sts_nil
          · exact sts_one (I.t (C.blk hcal) takes0 _ _ h7)
          · cases h7
        · split at h8
          · exact sts_nil
          · exact sts_one (I.t (C.blk hcal) takes0 _ _ h8)
          · cases h8
      · cases h
    · cases h
  | .trg a, e, h, _ => by
    rw [ckE.eq_def] at h; dsimp only at h
    simp only [Bool.and_eq_true, Bool.not_eq_true'] at h
    obtain ⟨hT, h⟩ := h
    refine ⟨?_, fun z => by rw [hT] at z; cases z⟩
    split at h
    · split at h
      · split at h
        · simp only [Bool.and_eq_true, decide_eq_true_eq, List.contains_iff_mem, List.isEmpty_iff, Bool.not_eq_true'] at h
          obtain ⟨⟨⟨⟨⟨⟨⟨⟨⟨⟨rfl, rfl⟩, rfl⟩, rfl⟩, h1⟩, h2⟩, h3⟩, h4⟩, h5⟩, h6⟩, h7⟩ := h
          exact sv_trg C.K (C.calm h6) (gl_ok C h1) (C.blts _ h3) (gl_ok C h2) (C.blts _ h4) (star_cons h5) (I.e C tk _ _ h7)
        · cases h
      · cases h
    · cases h
  | .sst a, e, h, _ => by
    rw [ckE.eq_def] at h; dsimp only at h
    simp only [Bool.and_eq_true, Bool.not_eq_true'] at h
    obtain ⟨hT, h⟩ := h
    refine ⟨?_, fun z => by rw [hT] at z; cases z⟩
    split at h
    · split at h
      · split at h
        · simp only [Bool.and_eq_true, decide_eq_true_eq, List.contains_iff_mem, List.isEmpty_iff, Bool.not_eq_true'] at h
          obtain ⟨⟨⟨⟨⟨⟨⟨⟨⟨⟨rfl, rfl⟩, rfl⟩, rfl⟩, h1⟩, h2⟩, h3⟩, h4⟩, h5⟩, h6⟩, h7⟩ := h
          exact sv_sst C.K (C.calm h6) C.un (gl_ok C h1) (C.blts _ h3) (gl_ok C h2) (C.blts _ h4) (star_cons h5) (star_cons rfl) (I.e C tk _ _ h7)
        · cases h
      · cases h
    · cases h
  | .lrg a, e, h, _ => by
    rw [ckE.eq_def] at h; dsimp only at h
    simp only [Bool.and_eq_true, Bool.not_eq_true'] at h
    obtain ⟨hT, h⟩ := h
    refine ⟨?_, fun z => by rw [hT] at z; cases z⟩
    split at h
    · split at h
      · split at h
        · simp only [Bool.and_eq_true, decide_eq_true_eq, List.contains_iff_mem, List.isEmpty_iff, Bool.not_eq_true'] at h
          obtain ⟨⟨⟨⟨⟨⟨⟨⟨⟨⟨rfl, rfl⟩, rfl⟩, rfl⟩, h1⟩, h2⟩, h3⟩, h4⟩, h5⟩, h6⟩, h7⟩ := h
          exact sv_lrg C.K (C.calm h6) (gl_ok C h1) (C.blts _ h3) (gl_ok C h2) (C.blts _ h4) (star_cons h5) (I.e C tk _ _ h7)
        · cases h
      · cases h
    · cases h
  | .lr2 a b, e, h, _ => by
    rw [ckE.eq_def] at h; dsimp only at h
    simp only [Bool.and_eq_true, Bool.not_eq_true'] at h
    obtain ⟨hT, h⟩ := h
    refine ⟨?_, fun z => by rw [hT] at z; cases z⟩
    split at h
    · split at h
      · split at h
        · simp only [Bool.and_eq_true, decide_eq_true_eq, List.contains_iff_mem, List.isEmpty_iff, Bool.not_eq_true'] at h
          obtain ⟨⟨⟨⟨⟨⟨⟨⟨⟨⟨⟨⟨rfl, rfl⟩, rfl⟩, rfl⟩, h1⟩, h2⟩, h3⟩, h4⟩, h5⟩, h5b⟩, h6⟩, h7⟩, h8⟩ := h
          exact sv_lr2 C.K (C.calm h6) (gl_ok C h1) (C.blts _ h3) (gl_ok C h2) (C.blts _ h4) (star_cons h5) (star_cons h5b) (I.e C tk _ _ h7) (fun W tk => I.e C tk _ _ h8) tk (by rw [star_cons h5b]; rfl)
        · cases h
      · cases h
    · cases h
  | .isi2 a t u, e, h, _ => by
    rw [ckE.eq_def] at h; dsimp only at h
    split at h
    · split at h
      · simp only [Bool.and_eq_true, decide_eq_true_eq, List.contains_iff_mem, List.isEmpty_iff, Bool.not_eq_true'] at h
        obtain ⟨⟨⟨⟨⟨⟨⟨⟨⟨⟨⟨⟨⟨rfl, rfl⟩, h1⟩, h2⟩, rfl⟩, h3⟩, h4⟩, h5⟩, rfl⟩, h8⟩, h9⟩, h10⟩, h6⟩, h7⟩ := h
        exact ⟨sv_isi2 C.K C.ins (C.tys _ h5) (C.tys _ h10) (gl_ok C h1) (C.blts _ h2) (gl_ok C h3) (okN_ok h4).2.2 (okN_ok h4).1 (gl_ok C h8) (okN_ok h9).2.2 (okN_ok h9).1 (star_cons h6) (I.e C tk _ _ h7), fun _ => rfl⟩
      · cases h
    · cases h
  | .alloc a, e, h, _ => by
    rw [ckE.eq_def] at h; dsimp only at h
    simp only [Bool.and_eq_true, Bool.not_eq_true'] at h
    exact ⟨sv_alloc (I.e C tk _ _ h.2), fun z => by rw [h.1] at z; cases z⟩
theorem snd_succ (I : Snd G L k n) : Snd G L k (n + 1) where
  e := fun {S X W} C tk m e h => by
    cases m with
    | nevE => exact sv_nev
    | bool o ms =>
      rw [ckE.eq_def] at h; dsimp only at h
      split at h
      · simp only [Bool.and_eq_true, decide_eq_true_eq, Bool.not_eq_true', List.isEmpty_eq_false_iff] at h
        obtain ⟨⟨rfl, h1⟩, h2⟩ := h
        rw [ev_bool]
        exact bool_e (I.e C tk) h1 h2
      · cases h
    | not a =>
      rw [ckE.eq_def] at h; dsimp only at h
      split at h
      · simp only [Bool.and_eq_true, decide_eq_true_eq] at h
        obtain ⟨rfl, h1⟩ := h
        exact sv_not (I.e C tk _ _ h1)
      · cases h
    | cmp op a b =>
      rw [ckE.eq_def] at h; dsimp only at h
      split at h
      · split at h
        · simp only [Bool.and_eq_true, decide_eq_true_eq, Bool.not_eq_true'] at h
          obtain ⟨⟨⟨rfl, h1⟩, h2⟩, h3⟩ := h
          exact sv_cmp C.K C.un (marks_no h1) (I.e C tk _ _ h2) (I.e C tk _ _ h3)
        · cases h
      · cases h
    | cmp2 o1 o2 a b c =>
      rw [ckE.eq_def] at h; dsimp only at h
      split at h
      · split at h
        · simp only [Bool.and_eq_true, decide_eq_true_eq, Bool.not_eq_true'] at h
          obtain ⟨⟨⟨⟨rfl, h1⟩, h2⟩, h3⟩, h4⟩ := h
          exact sv_cmp2 C.K C.un (marks_no h1) (I.e C tk _ _ h2) (I.e C tk _ _ h3) (I.e C tk _ _ h4)
        · cases h
      · cases h
    | ieq neg a b =>
      rw [ckE.eq_def] at h; dsimp only at h
      split at h
      · split at h
        · simp only [Bool.and_eq_true, decide_eq_true_eq, Bool.not_eq_true', List.contains_iff_mem] at h
          obtain ⟨⟨⟨⟨⟨rfl, h1⟩, h0⟩, hcal⟩, h2⟩, h3⟩ := h
          exact sv_ieq C.K (C.room hcal) C.un C.eqc (C.mths _ _ h0) (marks_no h1) (I.e C tk _ _ h2) (I.e C tk _ _ h3)
        · cases h
      · cases h
    | _ => exact (snd_v I C tk false _ e h trivial).1
  t := fun {S X W} C tk m e h => by
    cases m with
    | nevE => exact st_nev
    | bool o ms =>
      rw [ckE.eq_def] at h; dsimp only at h
      split at h
      · simp only [Bool.and_eq_true, decide_eq_true_eq, Bool.not_eq_true', List.isEmpty_eq_false_iff] at h
        obtain ⟨⟨rfl, h1⟩, h2⟩ := h
        rw [ev_bool]
        exact (bool_t (I.t C tk) h1 h2).pt
      · cases h
    | not a =>
      rw [ckE.eq_def] at h; dsimp only at h
      split at h
      · simp only [Bool.and_eq_true, decide_eq_true_eq] at h
        obtain ⟨rfl, h1⟩ := h
        exact st_not (I.t C tk _ _ h1)
      · cases h
    | cmp op a b =>
      rw [ckE.eq_def] at h; dsimp only at h
      split at h
      · split at h
        · simp only [Bool.and_eq_true, decide_eq_true_eq, Bool.not_eq_true'] at h
          obtain ⟨⟨⟨rfl, h1⟩, h2⟩, h3⟩ := h
          exact st_cmp C.K C.un (marks_no h1) (I.e C tk _ _ h2) (I.e C tk _ _ h3)
        · cases h
      · cases h
    | cmp2 o1 o2 a b c =>
      rw [ckE.eq_def] at h; dsimp only at h
      split at h
      · split at h
        · simp only [Bool.and_eq_true, decide_eq_true_eq, Bool.not_eq_true'] at h
          obtain ⟨⟨⟨⟨rfl, h1⟩, h2⟩, h3⟩, h4⟩ := h
          exact st_cmp2 C.K C.un (marks_no h1) (I.e C tk _ _ h2) (I.e C tk _ _ h3) (I.e C tk _ _ h4)
        · cases h
      · cases h
    | ieq neg a b =>
      rw [ckE.eq_def] at h; dsimp only at h
      split at h
      · split at h
        · simp only [Bool.and_eq_true, decide_eq_true_eq, Bool.not_eq_true', List.contains_iff_mem] at h
          obtain ⟨⟨⟨⟨⟨rfl, h1⟩, h0⟩, hcal⟩, h2⟩, h3⟩ := h
          exact st_ieq C.K (C.room hcal) C.un C.eqc (C.mths _ _ h0) (marks_no h1) (I.e C tk _ _ h2) (I.e C tk _ _ h3)
        · cases h
      · cases h
    | _ =>
      obtain ⟨a, b⟩ := snd_v I C tk true _ e h trivial
      exact pt_of (b rfl) a
  i := fun {S X W} C tk m t e h => by
    cases m with
    | seq fz a =>
      rw [ckI.eq_def] at h; dsimp only at h
      exact si_seq C.K (I.e C tk _ _ h)
    | rng ms =>
      rw [ckI.eq_def] at h; dsimp only at h
      split at h
      · split at h
        · simp only [Bool.and_eq_true, Bool.or_eq_true, decide_eq_true_eq, List.contains_iff_mem, List.isEmpty_iff] at h
          obtain ⟨⟨⟨⟨⟨⟨rfl, rfl⟩, h1⟩, h2⟩, h3⟩, h4⟩, h5⟩ := h
          obtain ⟨pa, hl⟩ := pa_of (I.e C tk) h3 h4
          rename_i es _ _ _
          match es, ms, h3, h5, hl, pa with
          | [a], [m], h3, _, _, pa =>
            simp only [noStars, Bool.and_eq_true, Bool.not_eq_true'] at h3
            exact si_rng1 (gl_ok C h1) (C.blts _ h2) (star_cons h3.1) pa
          | [a, b], [m, m2], h3, _, _, pa =>
            simp only [noStars, Bool.and_eq_true, Bool.not_eq_true'] at h3
            exact si_rng2 (gl_ok C h1) (C.blts _ h2) (by rw [star_cons h3.1, star_cons h3.2.1]; rfl) (star_cons h3.2.1) pa
          | [a, b, c], [m, m2, m3], h3, _, _, pa =>
            have h3' := h3
            simp only [noStars, Bool.and_eq_true, Bool.not_eq_true'] at h3
            exact si_rng3 (gl_ok C h1) (C.blts _ h2) (star_cons h3.1) (stars_no (by simp [noStars, h3.2.1, h3.2.2.1])).1 pa
        · cases h
      · cases h
    | enum fz a =>
      rw [ckI.eq_def] at h; dsimp only at h
      split at h
      · split at h
        · simp only [Bool.and_eq_true, decide_eq_true_eq, List.contains_iff_mem, List.isEmpty_iff, Bool.not_eq_true'] at h
          obtain ⟨⟨⟨⟨⟨rfl, rfl⟩, h1⟩, h2⟩, h3⟩, h4⟩ := h
          exact si_enum C.K (gl_ok C h1) (C.blts _ h2) (star_cons h3) (I.e C tk _ _ h4)
        · cases h
      · cases h
    | zip ms =>
      rw [ckI.eq_def] at h; dsimp only at h
      split at h
      · split at h
        · simp only [Bool.and_eq_true, decide_eq_true_eq, List.contains_iff_mem, List.isEmpty_iff] at h
          obtain ⟨⟨⟨⟨⟨⟨rfl, rfl⟩, h1⟩, h2⟩, h3⟩, h4⟩, h5⟩ := h
          obtain ⟨pa, hl⟩ := pa_of (I.e C tk) h3 h4
          rename_i es _ _ _ _ _ _
          match es, ms, h3, h5, hl, pa with
          | [a, b], [m, m2], h3, _, _, pa =>
            have h3' := h3
            simp only [noStars, Bool.and_eq_true, Bool.not_eq_true'] at h3
            exact si_zip C.K (gl_ok C h1) (C.blts _ h2) pa (star_cons h3.1) (stars_no (by simp [noStars, h3.2.1])).1
        · cases h
      · cases h
theorem snd_all : ∀ n, Snd G L k n
  | 0 => ⟨fun _ _ _ _ h => (by rw [ckE.eq_def] at h; cases h), fun _ _ _ _ h => (by rw [ckE.eq_def] at h; cases h), fun _ _ _ _ _ h => (by rw [ckI.eq_def] at h; cases h)⟩
  | n + 1 => snd_succ (snd_all n)
end
end
end Mq

/-! MqSnd3: statements, the check is sound. -/
namespace Mq
open PySem L2
def isTup : Expr → Bool
  | .Tuple _ _ _ => true
  | _ => false
def isName : Expr → Bool
  | .Name _ _ => true
  | _ => false
theorem swapped_no {tg e : Expr} {env : Env} (h : isTup e = false) : swappedStores [tg] e env = pure none := by
  cases e <;> first | (cases tg <;> rfl) | cases h
def isLst : Expr → Bool
  | .List _ _ => true
  | _ => false
theorem swapped_tg {tg e : Expr} {env : Env} (h : isTup tg = false) (h2 : isLst tg = false) : swappedStores [tg] e env = pure none := by
  cases tg <;> first | (cases e <;> rfl) | (cases h; done) | (cases h2; done)
def foldT (vs : List Expr) : Bool := vs.all (foldedForSure 8)
/-- the two names are stored at once -/
def parC (sc : Scope) (x y : Str) (px py : Pos) (a b : Expr) : Bool :=
  decide (sc.kind = .function) && decide (sc.names.lookup x = some .local) && decide (sc.names.lookup y = some .local) && (py.line == px.line) && decide (x ≠ y) && !isStar a && !isStar b && !([a, b].all (foldedForSure 8)) && !([a, b].all (constantsAlone 8))
theorem par_sw {sc : Scope} {x y : Str} {px py pt pt2 : Pos} {a b : Expr} {kt k2 : Nat} {env : Env} (hs : env.scope = sc) (h : parC sc x y px py a b = true) :
    swappedStores [.Tuple [.Name x px, .Name y py] kt pt] (.Tuple [a, b] k2 pt2) env = pure (some [x, y]) := by
  simp only [parC, Bool.and_eq_true, decide_eq_true_eq, Bool.not_eq_true'] at h
  obtain ⟨⟨⟨⟨⟨⟨⟨⟨h1, h2⟩, h3⟩, h4⟩, h5⟩, h6⟩, h7⟩, h8⟩, h9⟩ := h
  have hb : env.blockKind = .function := by unfold Env.blockKind; rw [hs, h1]; rfl
  have kx : env.kindOf x = some .local := by show env.scope.names.lookup x = _; rw [hs]; exact h2
  have ky : env.kindOf y = some .local := by show env.scope.names.lookup y = _; rw [hs]; exact h3
  have st : ([a, b].any fun | .Starred .. => true | _ => false) = false := by
    cases a <;> first | (cases h6; done) | (cases b <;> first | rfl | (cases h7; done))
  have nd : ([x, y].eraseDups.length != 2) = false := by
    have e : (y == x) = false := by simpa using Ne.symm h5
    simp [List.eraseDups_cons, e]
  unfold swappedStores
  have e1 : ([Expr.Name x px, Expr.Name y py].filterMap fun
    | .Name id pos => if env.kindOf id == some .local && pos.line == px.line then some id else none
    | _ => none) = [x, y] := by
    have h4' : py.line = px.line := by simpa using h4
    simp [List.filterMap_cons, kx, ky, h4']
  have h4' : py.line = px.line := by simpa using h4
  have e : (y == x) = false := by simpa using Ne.symm h5
  simp only [hb, h8, h9]
  refine (if_neg ?g1).trans ((if_neg ?g2).trans ((if_neg ?g3).trans ((if_neg Bool.false_ne_true).trans ((if_neg Bool.false_ne_true).trans ?g6))))
  case g1 => simp
  case g2 => exact fun h => Bool.false_ne_true (st.symm.trans h)
  case g3 => simp [List.filterMap_cons, kx, ky, h4', Expr.pos, List.eraseDups_cons, e]
  case g6 => simp [List.filterMap_cons, kx, ky, h4', Expr.pos]
mutual
def ckS : Nat → Sx → MS → Stmt → Bool
  | 0, _, _, _ => false
  | n + 1, S, m, st => match m with
    | .nev => true
    | .pass => (match st with
      | .Pass _ => true
      | .Expr (.Constant (.str _) _ _) _ => true
      | _ => false)
    | .brk => (match st with | .Break _ => true | _ => false)
    | .cont => (match st with | .Continue _ => true | _ => false)
    | .retN => (match st with | .Return none _ => true | _ => false)
    | .ret e => (match st with | .Return (some x) _ => ckE n false S e x | _ => false)
    | .expr e => (match st with | .Expr x _ => !isComp x && ckE n false S e x | _ => false)
    | .asg i e => (match st with
      | .Assign [.Name x px] v pos => stoC S i x && ckE n false S e v &&
          ((!isComp v || decide (S.sc.names.lookup x = some .cell)) || (match v with
            | .ListComp _ _ scope vp => decide (S.sc.kind = .function) && decide (S.sc.names.lookup x = some .local) && (px.line == vp.line) && !(scope.names.any fun (n, k) => n == x && (k == .local || k == .cell)) && (match e with | .lc _ _ _ _ _ => true | .alloc (.lc _ _ _ _ _) => true | .lc2 _ _ _ _ _ _ _ _ _ => true | _ => false)
            | _ => false))
      | _ => false)
    | .par i j a b => (match st with
      | .Assign [.Tuple [.Name x px, .Name y py] _ _] (.Tuple [u, v] _ _) _ => S.cal && decide (i ≠ j) && stoC S i x && stoC S j y && parC S.sc x y px py u v && ckE n false S a u && ckE n false S b v
      | _ => false)
    | .unp t e => (match st with
      | .Assign [tg] v _ => isTup tg && !isComp v && !isTup v && ckTg S t tg && ckE n false S e v
      | _ => false)
    | .seti a b e => (match st with
      | .Assign [.Subscript o i _] v _ => !isSlice i && !isComp v && ckE n false S a o && ckE n false S b i && ckE n false S e v
      | _ => false)
    | .setf a f e => (match st with
      | .Assign [.Attribute o g _] v _ => decide (f = g) && S.flds.contains f && !isComp v && ckE n false S a o && ckE n false S e v
      | _ => false)
    | .aug i op e => (match st with
      | .AugAssign (.Name x _) o v _ => decide (o = aop op) && (decide (op = .add) || decide (op = .sub)) && stoC S i x && ckE n false S e v
      | _ => false)
    | .augi a b op e => (match st with
      | .AugAssign (.Subscript o i _) p v _ => decide (p = aop op) && (decide (op = .add) || decide (op = .sub)) && !isSlice i && ckE n false S a o && ckE n false S b i && ckE n false S e v
      | _ => false)
    | .augf a f op e => (match st with
      | .AugAssign (.Attribute o g _) p v _ => decide (f = g) && S.flds.contains f && decide (p = aop op) && (decide (op = .add) || decide (op = .sub)) && ckE n false S a o && ckE n false S e v
      | _ => false)
    | .ifs c a b => (match st with
      | .If x u v _ => ckE n true S c x && ckSs n S a u && ckSs n S b v
      | _ => false)
    | .whl _ c b => (match st with
      | .While x u [] _ => ckE n true S c x && ckSs n S b u
      | _ => false)
    | .forr t src b => (match st with
      | .For tg it u [] _ => S.cal && !isSet it && ckTg S t tg && ckI n S src tg it && ckSs n S b u
      | _ => false)
    | .rais x c => (match st with
      | .Raise (some (.Call (.Name y _) [] [] _)) none _ => decide (x = y) && S.cal && gloC S.sc x && okN x && S.xmk.contains (x, c)
      | _ => false)
    | .tryx b hs => (match st with
      | .Try u (h₀ :: hds) [] [] _ => S.cal && ckSs n S b u && (match hs with
        | .as x i c => (match h₀, hds with
          | .ExceptHandler (some (.Name y _)) (some z) (b₀ :: suite) _, [] => decide (x = y) && gloC S.sc x && okN x && S.xns.contains x && decide (S.N[i]? = some z) && decide (S.sc.names.lookup z = some .local) && ckSs n { S with cal := false, defs := [], mks := [], mths := [], xns := [], xmk := [] } c (b₀ :: suite)
          | _, _ => false)
        | hs => ckH n { S with cal := false } hs (h₀ :: hds))
      | _ => false)
def ckSs : Nat → Sx → List MS → List Stmt → Bool
  | 0, _, _, _ => false
  | n + 1, S, ms, sts => match ms, sts with
    | [], [] => true
    | m :: ms, st :: sts => ckS n S m st && ckSs n S ms sts
    | _, _ => false
/-- except clauses -/
def ckH : Nat → Sx → MH → List ExceptHandler → Bool
  | 0, _, _, _ => false
  | n + 1, S, mh, hds => match mh, hds with
    | .nil, [] => true
    | .cons x b r, .ExceptHandler (some (.Name y _)) none (b₀ :: suite) _ :: hds => decide (x = y) && gloC S.sc x && okN x && S.xns.contains x && ckSs n S b (b₀ :: suite) && ckH n S r hds
    | _, _ => false
end
section
variable {G : Gx} {L : Fns} {k n : Nat} {S : Sx} {X : Cx} {W : WX}
theorem swaps_cell {e : Expr} {x : Str} {p : Pos} {n : Nat} {env : Env} (h : env.scope.names.lookup x = some .cell) : swapsWith e (some (.Name x p)) n env = pure false := by
  have k : (env.kindOf x == some .local) = false := by
    have : env.kindOf x = some .cell := h
    rw [this]; rfl
  cases e <;> first | rfl | (unfold swapsWith; simp only [k, Bool.and_false, Bool.false_and])
theorem swaps_one {tg e : Expr} {n : Nat} {env : Env} (h : isComp e = false) : swapsWithSole [tg] e n env = pure false := by
  show swapsWith e (some tg) n env = pure false
  exact swaps_no h
theorem addsub {op : Bop} (h : op = .add ∨ op = .sub) : op = .add ∨ op = .sub := h
/-- in a def's body -/
def Bdy (X : Cx) : Prop := X.stack = X.env :: X.outer ∧ X.env.frame = some X.env.locals
theorem snd_s (I : ∀ n, Snd G L k n) (C : Cxs G L k S X) (tk : Takes X W) (hp : PassesOwn (model X.prog X.w) X.A X.env X.xe) (hst : Bdy X)
    (J' : ∀ {G S X W}, Cxs G L k S X → Takes X W → PassesOwn (model X.prog X.w) X.A X.env X.xe → Bdy X → ∀ ms sts, ckSs n S ms sts = true → PSs X sts (tS G W (execs L ms)))
    (JH : ∀ {S X}, Cxs G L k S X → S.cal = true → Bdy X → ∀ mh hds, ckH n { S with cal := false } mh hds = true → HdsG G L X mh hds) (J : ∀ ms sts, ckSs n S ms sts = true → PSs X sts (tS G W (execs L ms))) : ∀ m st, ckS (n + 1) S m st = true → PS X st (tS G W (exec L m))
  | .nev, st, h => ss_nev
  | .pass, st, h => by
    rw [ckS.eq_def] at h; dsimp only at h
    split at h
    · exact ss_pass
    · exact ss_doc
    · cases h
  | .brk, st, h => by
    rw [ckS.eq_def] at h; dsimp only at h
    split at h
    · exact ss_brk
    · cases h
  | .cont, st, h => by
    rw [ckS.eq_def] at h; dsimp only at h
    split at h
    · exact ss_cont
    · cases h
  | .retN, st, h => by
    rw [ckS.eq_def] at h; dsimp only at h
    split at h
    · exact ss_retN
    · cases h
  | .ret e, st, h => by
    rw [ckS.eq_def] at h; dsimp only at h
    split at h
    · exact ss_ret ((I n).e C tk _ _ h)
    · cases h
  | .expr e, st, h => by
    rw [ckS.eq_def] at h; dsimp only at h
    split at h
    · simp only [Bool.and_eq_true, Bool.not_eq_true'] at h
      exact ss_expr (swaps_no h.1) ((I n).e C tk _ _ h.2)
    · cases h
  | .asg i e, st, h => by
    rw [ckS.eq_def] at h; dsimp only at h
    split at h
    · simp only [Bool.and_eq_true, Bool.or_eq_true, Bool.not_eq_true'] at h
      obtain ⟨⟨h1, h2⟩, h3⟩ := h
      obtain ⟨a1, a2, a3⟩ := sto_ok C h1
      rcases h3 with h3 | h3
      · exact ss_asg C.nd a1 a2 a3 (h3.elim swaps_no fun z => swaps_cell (by rw [C.sc]; exact of_decide_eq_true z)) ((I n).e C tk _ _ h2)
      · split at h3
        · simp only [Bool.and_eq_true, Bool.not_eq_true', decide_eq_true_eq] at h3
          obtain ⟨⟨⟨⟨b1, b2⟩, b3⟩, b4⟩, b5⟩ := h3
          split at b5
          · rename_i el tg src cond own
            cases n with
            | zero => rw [ckE.eq_def] at h2; cases h2
            | succ n =>
              rw [ckE.eq_def] at h2; dsimp only at h2
              split at h2
              · simp only [Bool.and_eq_true, decide_eq_true_eq, Bool.not_eq_true'] at h2
                obtain ⟨_, ⟨⟨⟨⟨⟨⟨⟨hcal, rfl⟩, h1⟩, h2⟩, h3⟩, h4⟩, h5⟩, h6⟩, h7⟩ := h2
                rw [← ownP_snd (S := S) (own := own)]
                refine ss_asgLc (C.calm hcal) C.nd a1 (by rw [C.sc]; exact b2) (sw_true (by rw [C.sc]; exact b1) (by rw [C.sc]; exact b2) b3 b4) ((I n).i C tk _ _ _ h5) (by rw [C.N, C.sc]; exact blkOk_by h2)
                  (by rw [ownP_snd]; exact fun i hi => by have := List.all_eq_true.mp h3 i hi; simpa using this)
                  (fun _ _ _ _ _ => tg_ok (C.blk hcal) h4) (fun _ _ _ _ _ => ?_) (fun _ _ _ _ _ => (I n).e (C.blk hcal) takes0 _ _ h6) (folded_no h1)
                split at h7
                · exact sts_nil
                · exact sts_one ((I n).t (C.blk hcal) takes0 _ _ h7)
                · cases h7
              · simp at h2
          · rename_i el tg src cond own
            cases n with
            | zero => rw [ckE.eq_def] at h2; cases h2
            | succ n =>
              rw [ckE.eq_def] at h2; dsimp only at h2
              rw [Bool.and_eq_true] at h2
              replace h2 := h2.2
              cases n with
              | zero => rw [ckE.eq_def] at h2; cases h2
              | succ n =>
              rw [ckE.eq_def] at h2; dsimp only at h2
              split at h2
              · simp only [Bool.and_eq_true, decide_eq_true_eq, Bool.not_eq_true'] at h2
                obtain ⟨_, ⟨⟨⟨⟨⟨⟨⟨hcal, rfl⟩, h1⟩, h2⟩, h3⟩, h4⟩, h5⟩, h6⟩, h7⟩ := h2
                rw [← ownP_snd (S := S) (own := own)]
                refine ss_asgALc (C.calm hcal) C.nd a1 (by rw [C.sc]; exact b2) (sw_true (by rw [C.sc]; exact b1) (by rw [C.sc]; exact b2) b3 b4) ((I n).i C tk _ _ _ h5) (by rw [C.N, C.sc]; exact blkOk_by h2)
                  (by rw [ownP_snd]; exact fun i hi => by have := List.all_eq_true.mp h3 i hi; simpa using this)
                  (fun _ _ _ _ _ => tg_ok (C.blk hcal) h4) (fun _ _ _ _ _ => ?_) (fun _ _ _ _ _ => (I n).e (C.blk hcal) takes0 _ _ h6) (folded_no h1)
                split at h7
                · exact sts_nil
                · exact sts_one ((I n).t (C.blk hcal) takes0 _ _ h7)
                · cases h7
              · simp at h2
          · rename_i el tg src cond tg1 src1 cond1 own own1
            cases n with
            | zero => rw [ckE.eq_def] at h2; cases h2
            | succ n =>
              rw [ckE.eq_def] at h2; dsimp only at h2
              split at h2
              · simp only [Bool.and_eq_true, decide_eq_true_eq, Bool.not_eq_true'] at h2
                obtain ⟨_, ⟨⟨⟨⟨⟨⟨⟨⟨⟨⟨⟨⟨⟨⟨hcal, rfl⟩, rfl⟩, h1⟩, h1b⟩, h2⟩, h3⟩, h3b⟩, h3c⟩, h4⟩, h4b⟩, h5⟩, h5b⟩, h6⟩, h7⟩, h8⟩ := h2
                rw [← ownP_snd (S := S) (own := own)]
                refine ss_asgLc2 (C.calm hcal) C.nd a1 (by rw [C.sc]; exact b2) (sw_true (by rw [C.sc]; exact b1) (by rw [C.sc]; exact b2) b3 b4) ((I n).i C tk _ _ _ h5) (by rw [C.N, C.sc]; exact blkOk_by h2)
                  (by rw [ownP_snd]; exact fun i hi => by have := List.all_eq_true.mp h3 i hi; simpa using this)
                  (fun i hi => by have := List.all_eq_true.mp h3b i hi; simpa using this)
                  (by rw [ownP_snd]; exact fun i hi => by have := List.all_eq_true.mp h3c i hi; simpa using this)
                  (fun _ _ _ _ _ => tg_ok (C.blk hcal) h4) (fun _ _ _ _ _ => ?_) (fun _ _ _ _ _ => (I n).i (C.blk hcal) takes0 _ _ _ h5b) (fun _ _ _ _ _ => tg_ok (C.blk hcal) h4b) (fun _ _ _ _ _ => ?_) (fun _ _ _ _ _ => (I n).e (C.blk hcal) takes0 _ _ h6) (folded_no h1) (fun _ => folded_no h1b)
                · split at h7
                  · exact sts_nil
                  · exact sts_one ((I n).t (C.blk hcal) takes0 _ _ h7)
                  · cases h7
                · split at h8
                  · exact sts_nil
                  · exact sts_one ((I n).t (C.blk hcal) takes0 _ _ h8)
                  · cases h8
              · simp at h2
          · cases b5
        · cases h3
    · cases h
  | .par i j a b, st, h => by
    rw [ckS.eq_def] at h; dsimp only at h
    split at h
    · simp only [Bool.and_eq_true, decide_eq_true_eq] at h
      obtain ⟨⟨⟨⟨⟨⟨hcal, h1⟩, h2⟩, h3⟩, h4⟩, h5⟩, h6⟩ := h
      obtain ⟨a1, _, _⟩ := sto_ok C h2
      obtain ⟨b1, _, _⟩ := sto_ok C h3
      have hp := h4
      simp only [parC, Bool.and_eq_true, decide_eq_true_eq, Bool.not_eq_true'] at hp
      obtain ⟨⟨⟨⟨⟨⟨⟨⟨c1, c2⟩, c3⟩, c4⟩, c5⟩, c6⟩, c7⟩, c8⟩, c9⟩ := hp
      exact ss_par (C.calm hcal) C.nd a1 b1 h1 (by rw [C.sc]; exact c2) (by rw [C.sc]; exact c3) (sa_cons (star_cons c6) ((I n).e C tk _ _ h5) (sa_cons (star_cons c7) ((I n).e C tk _ _ h6) sa_nil)) (par_sw C.sc h4) (swaps_one rfl)
    · cases h
  | .unp t e, st, h => by
    rw [ckS.eq_def] at h; dsimp only at h
    split at h
    · simp only [Bool.and_eq_true, Bool.not_eq_true'] at h
      obtain ⟨⟨⟨⟨h1, h2⟩, h3⟩, h4⟩, h5⟩ := h
      refine ss_unp ((I n).e C tk _ _ h5) (tg_ok C h4) (swaps_no h2) (swapped_no h3) (one_as ?_)
      rename_i tg _ _
      cases tg <;> first | rfl | (cases h1; done)
    · cases h
  | .seti a b e, st, h => by
    rw [ckS.eq_def] at h; dsimp only at h
    split at h
    · simp only [Bool.and_eq_true, Bool.not_eq_true'] at h
      obtain ⟨⟨⟨⟨h1, h2⟩, h3⟩, h4⟩, h5⟩ := h
      exact ss_seti (swaps_one h2) (swapped_tg rfl rfl) rfl (set_st h1) ((I n).e C tk _ _ h3) ((I n).e C tk _ _ h4) ((I n).e C tk _ _ h5)
    · cases h
  | .setf a f e, st, h => by
    rw [ckS.eq_def] at h; dsimp only at h
    split at h
    · simp only [Bool.and_eq_true, Bool.not_eq_true', decide_eq_true_eq, List.contains_iff_mem] at h
      obtain ⟨⟨⟨⟨rfl, h1⟩, h2⟩, h3⟩, h4⟩ := h
      exact ss_setf C.K C.cls (C.flds _ h1) (swaps_no h2) ((I n).e C tk _ _ h3) ((I n).e C tk _ _ h4)
    · cases h
  | .aug i op e, st, h => by
    rw [ckS.eq_def] at h; dsimp only at h
    split at h
    · simp only [Bool.and_eq_true, Bool.or_eq_true, decide_eq_true_eq] at h
      obtain ⟨⟨⟨rfl, h1⟩, h2⟩, h3⟩ := h
      obtain ⟨a1, a2, a3⟩ := sto_ok C h2
      exact ss_aug h1 C.nd a1 a2 a3 ((I n).e C tk _ _ h3)
    · cases h
  | .augi a b op e, st, h => by
    rw [ckS.eq_def] at h; dsimp only at h
    split at h
    · simp only [Bool.and_eq_true, Bool.or_eq_true, decide_eq_true_eq, Bool.not_eq_true'] at h
      obtain ⟨⟨⟨⟨⟨rfl, h1⟩, h2⟩, h3⟩, h4⟩, h5⟩ := h
      exact ss_augi h1 C.K (aug_st h2) ((I n).e C tk _ _ h3) ((I n).e C tk _ _ h4) ((I n).e C tk _ _ h5)
    · cases h
  | .augf a f op e, st, h => by
    rw [ckS.eq_def] at h; dsimp only at h
    split at h
    · simp only [Bool.and_eq_true, Bool.or_eq_true, decide_eq_true_eq, List.contains_iff_mem] at h
      obtain ⟨⟨⟨⟨⟨rfl, h1⟩, rfl⟩, h2⟩, h3⟩, h4⟩ := h
      exact ss_augf h2 C.K C.cls (C.flds _ h1) ((I n).e C tk _ _ h3) ((I n).e C tk _ _ h4)
    · cases h
  | .ifs c a b, st, h => by
    rw [ckS.eq_def] at h; dsimp only at h
    split at h
    · simp only [Bool.and_eq_true] at h
      exact ss_if ((I n).t C tk _ _ h.1.1) (J _ _ h.1.2) (J _ _ h.2)
    · cases h
  | .whl f c b, st, h => by
    rw [ckS.eq_def] at h; dsimp only at h
    split at h
    · simp only [Bool.and_eq_true] at h
      exact ss_while hp ((I n).t C tk _ _ h.1) (J _ _ h.2)
    · cases h
  | .forr t src b, st, h => by
    rw [ckS.eq_def] at h; dsimp only at h
    split at h
    · simp only [Bool.and_eq_true, Bool.not_eq_true'] at h
      obtain ⟨⟨⟨⟨hcal, h1⟩, h2⟩, h3⟩, h4⟩ := h
      exact ss_for hp (C.calm hcal) ((I n).i C tk _ _ _ h3) (tg_ok C h2) (J _ _ h4) (folded_no h1)
    · cases h
  | .rais x c, st, h => by
    rw [ckS.eq_def] at h; dsimp only at h
    split at h
    · simp only [Bool.and_eq_true, decide_eq_true_eq, List.contains_iff_mem] at h
      obtain ⟨⟨⟨⟨rfl, h1⟩, h2⟩, h3⟩, h4⟩ := h
      exact ss_rais (C.calm h1) tk (C.xmk _ _ h4) (gl_ok C h2) (okN_ok h3).1
    · cases h
  | .tryx b hs, st, h => by
    rw [ckS.eq_def] at h; dsimp only at h
    split at h
    · simp only [Bool.and_eq_true] at h
      obtain ⟨⟨hcal, h1⟩, h2⟩ := h
      split at h2
      · split at h2
        · simp only [Bool.and_eq_true, decide_eq_true_eq, List.contains_iff_mem] at h2
          obtain ⟨⟨⟨⟨⟨⟨rfl, g1⟩, g2⟩, g3⟩, g4⟩, g5⟩, g6⟩ := h2
          refine ss_tryas hst.1 hst.2 C.nd (by rw [C.N]; exact g4) (by show X.env.scope.names.lookup _ = _; rw [C.sc]; exact g5) tk (C.xa0 hcal) (C.xns _ g3) (gl_ok C g1) (okN_ok g2).1 (okN_ok g2).2.2
            (fun W pn xe tk' hp' => J' (C.tr hcal) tk' hp' hst _ _ h1) (fun a D oe pn hz hv => J' (W := fun _ _ _ _ => False) (C.held hz hv) takes_none5 PassesOwn.never hst _ _ g6)
        · cases h2
      · exact ss_try hst.1 hst.2 tk (fun W pn xe tk' hp' => J' (C.tr hcal) tk' hp' hst _ _ h1) (JH C hcal hst _ _ h2)
    · cases h
theorem snd_all3 : ∀ n, (∀ {G S X W}, Cxs G L k S X → Takes X W → PassesOwn (model X.prog X.w) X.A X.env X.xe → Bdy X → (∀ m st, ckS n S m st = true → PS X st (tS G W (exec L m))) ∧ ∀ ms sts, ckSs n S ms sts = true → PSs X sts (tS G W (execs L ms))) ∧
    ∀ {G S X}, Cxs G L k S X → S.cal = true → Bdy X → ∀ mh hds, ckH n { S with cal := false } mh hds = true → HdsG G L X mh hds
  | 0 => ⟨fun _ _ _ _ => ⟨fun _ _ h => (by rw [ckS.eq_def] at h; cases h), fun _ _ h => (by rw [ckSs.eq_def] at h; cases h)⟩, fun _ _ _ _ _ h => (by rw [ckH.eq_def] at h; cases h)⟩
  | n + 1 => by
    obtain ⟨ab, jh⟩ := snd_all3 n
    refine ⟨fun {G S X W} C tk hp hst => ?_, fun {G S X} C hcal hst mh hds h => ?_⟩
    · obtain ⟨a, b⟩ := ab C tk hp hst
      refine ⟨snd_s snd_all C tk hp hst (fun C tk hp hst => (ab C tk hp hst).2) jh b, fun ms sts h => ?_⟩
      rw [ckSs.eq_def] at h; dsimp only at h
      split at h
      · exact ss_nil
      · simp only [Bool.and_eq_true] at h
        exact ss_cons (a _ _ h.1) (b _ _ h.2)
      · cases h
    · rw [ckH.eq_def] at h; dsimp only at h
      split at h
      · exact .nil
      · simp only [Bool.and_eq_true, decide_eq_true_eq, List.contains_iff_mem] at h
        obtain ⟨⟨⟨⟨⟨rfl, h1⟩, h2⟩, h3⟩, h4⟩, h5⟩ := h
        exact .cons (C.xns _ h3) (gl_ok C h1) (okN_ok h2).1 (okN_ok h2).2.2 (fun a oe pn => (ab (W := fun _ _ _ _ => False) (C.suite hcal) takes_none5 PassesOwn.never hst).2 _ _ h4) (jh C hcal hst _ _ h5)
      · cases h
theorem snd_ss (C : Cxs G L k S X) (tk : Takes X W) (hp : PassesOwn (model X.prog X.w) X.A X.env X.xe) (hst : Bdy X) (n : Nat) : (∀ m st, ckS n S m st = true → PS X st (tS G W (exec L m))) ∧ ∀ ms sts, ckSs n S ms sts = true → PSs X sts (tS G W (execs L ms)) := (snd_all3 n).1 C tk hp hst
end
end Mq

/-! MqProg: defs, programs. -/
namespace Mq
open PySem L2 PyProof.Rows
/-- a def: its name, parameters, slots, body -/
structure DD where
  x : Str
  ps : List Str
  N : List Str
  ms : List MS
  deriving Inhabited
def slots (n : Nat) (ls : List Sl) : List Sl := ls ++ List.replicate (n - ls.length) .un
def finD (o : Out SS Fl) : FR := match o with
  | .ok .nx s => .ok (.v .non) s.st
  | .ok (.ret r) s => .ok r s.st
  | .ok _ _ => .no
  | .ex c fs s => .ex c fs s.st
  | .no => .no
def runD (L : Fns) (d : DD) (ds : List Dt) (st : List MO) : FR := finD (execs L d.ms ⟨slots d.N.length (ds.map .v), st⟩)
def oiAt (c : Nat) (s : SS) : Out (List MO) (List Str × List Dt) := match (s.sl[0]? : Option Sl) with
  | some (.oi c' ns vs) => if c' = c then .ok (ns, vs) s.st else .no
  | _ => .no
def finI (c : Nat) (o : Out SS Fl) : Out (List MO) (List Str × List Dt) := match o with
  | .ok .nx s => oiAt c s
  | .ok (.ret (.v .non)) s => oiAt c s
  | .ok _ _ => .no
  | .ex c fs s => .ex c fs s.st
  | .no => .no
def runI (L : Fns) (d : DD) (c : Nat) (ds : List Dt) (st : List MO) : Out (List MO) (List Str × List Dt) := finI c (execs L d.ms ⟨slots d.N.length (.oi c [] [] :: ds.map .v), st⟩)
section
variable {G : Gx} {L : Fns} {k : Nat} {P : Program} {w : World} {K : PySem.W.Frag} {mg : Str → Option Value} {base : Heap}
/-- what the callees promise, in any context of this program -/
structure Glx (G : Gx) (L : Fns) (k : Nat) (S : Sx) (P : Program) (w : World) (K : PySem.W.Frag) (mg : Str → Option Value) (base : Heap) : Prop where
  kk : K = G.K
  defs : ∀ X : Cx, X.prog = P → X.w = w → X.K = K → X.mg = mg → X.base = base → ∀ x n, (x, n) ∈ S.defs → Def G X k x n (L.call x)
  mks : ∀ X : Cx, X.prog = P → X.w = w → X.K = K → X.mg = mg → X.base = base → ∀ x n, (x, n) ∈ S.mks → Mkd G X k x n (L.make x)
  mths : ∀ X : Cx, X.prog = P → X.w = w → X.K = K → X.mg = mg → X.base = base → ∀ m n, (m, n) ∈ S.mths → ∀ c, L.hasM c m = true → DefM G X k c m n (L.meth c m)
  cls : ∀ c C, G.cls c = some C → Cls G.K C
  ins : ∀ c C, G.cls c = some C → InsT G.K C
  flds : ∀ f, f ∈ S.flds → ∀ c C, G.cls c = some C → NoAttr G.K C f
  glos : ∀ x, x ∈ S.glos → ∃ (u : Value) (v : V) (d : Dt), mg x = some u ∧ RelV v u ∧ (∀ F A, Rep G F A v d) ∧ L.glob x = some d
  tys : ∀ X : Cx, X.K = K → X.mg = mg → ∀ t, t ∈ S.tys → IsiF G X L t
  blts : ∀ x, x ∈ S.blts → mg x = none
  eqc : EqC G L
  xns : ∀ X : Cx, X.K = K → X.mg = mg → ∀ x, x ∈ S.xns → NamC X G L x
  xmk : ∀ X : Cx, X.K = K → X.mg = mg → ∀ x c, (x, c) ∈ S.xmk → RaisC X G x c
  xa : G.xa = none
  xts : ∀ X : Cx, X.K = K → X.mg = mg → ∀ t, t ∈ S.xts → XtF G X L t
theorem rel_start {wd : Wd} {st : List MO} {H : Hp} {ds : List Dt} {vs : List V} {n : Nat} {N : List Str} (R : Wok G wd st H) (hL : wd.L = fun _ => none) (hv : RepL G wd.F wd.A vs ds) (hn : vs.length ≤ N.length) : Rel G wd ⟨slots N.length (ds.map .v), st⟩ (start N vs) H where
  toWok := R
  len := by
    show (ds.map Sl.v ++ List.replicate (N.length - (ds.map Sl.v).length) Sl.un).length = (vs.map some ++ List.replicate (N.length - vs.length) none).length
    simp [hv.length]
  sl := fun i x e => by
    have e : (ds.map Sl.v ++ List.replicate (N.length - (ds.map Sl.v).length) Sl.un)[i]? = some x := e
    by_cases hi : i < ds.length
    · rw [List.getElem?_append_left (by simpa using hi)] at e
      simp only [List.getElem?_map, Option.map_eq_some_iff] at e
      obtain ⟨d, ed, rfl⟩ := e
      obtain ⟨v, ev, r⟩ := hv.get ed
      refine ⟨v, ?_, r⟩
      show (vs.map some ++ _)[i]? = _
      rw [List.getElem?_append_left (by rw [List.length_map, hv.length]; exact hi)]
      simp [ev]
    · rw [List.getElem?_append_right (by simpa using hi)] at e
      have := List.getElem?_replicate .. ▸ e
      split at this
      · cases this; trivial
      · cases this
  own := fun i p ⟨_, x, ex, ho⟩ => by
    have ex : (ds.map Sl.v ++ List.replicate (N.length - (ds.map Sl.v).length) Sl.un)[i]? = some x := ex
    have m := List.mem_of_getElem? ex
    simp only [List.mem_append, List.mem_map, List.mem_replicate] at m
    rcases m with ⟨d, _, rfl⟩ | ⟨_, rfl⟩ <;> simp [isOwn] at ho
  ownN := fun i j p ⟨_, x, ex, ho⟩ => by
    have ex : (ds.map Sl.v ++ List.replicate (N.length - (ds.map Sl.v).length) Sl.un)[i]? = some x := ex
    have m := List.mem_of_getElem? ex
    simp only [List.mem_append, List.mem_map, List.mem_replicate] at m
    rcases m with ⟨d, _, rfl⟩ | ⟨_, rfl⟩ <;> simp [isOwn] at ho
  lT := fun i p e => by rw [hL] at e; cases e
theorem rel_startI {wd : Wd} {st : List MO} {H : Hp} {ds : List Dt} {vs : List V} {N : List Str} {c : Nat} {p C dx : Addr} (R : Wok G wd st H) (hL : wd.L = fun _ => none) (hM : wd.M = some p) (hv : RepL G wd.F wd.A vs ds) (hn : vs.length + 1 ≤ N.length)
    (hC : G.cls c = some C) (hp : H p = some (.ins C dx [])) (f1 : wd.F p = none) (f2 : wd.T p = none) (f3 : p ∉ wd.A) : Rel G wd ⟨slots N.length (.oi c [] [] :: ds.map .v), st⟩ (start N (.ref p :: vs)) H := by
  have at_ : ∀ (i : Nat) (x : Sl), (slots N.length (.oi c [] [] :: ds.map .v))[i]? = some x → isOwn x = true → i = 0 := fun i x e ho => by
    have e : (Sl.oi c [] [] :: (ds.map Sl.v ++ List.replicate (N.length - (Sl.oi c [] [] :: ds.map Sl.v).length) Sl.un))[i]? = some x := e
    cases i with
    | zero => rfl
    | succ i =>
      rw [List.getElem?_cons_succ] at e
      have m := List.mem_of_getElem? e
      simp only [List.mem_append, List.mem_map, List.mem_replicate] at m
      rcases m with ⟨d, _, rfl⟩ | ⟨_, rfl⟩ <;> simp [isOwn] at ho
  refine { toWok := R, len := ?_, sl := fun i x e => ?_, own := fun i q ⟨e, x, ex, ho⟩ => ?_, ownN := fun i j q ⟨_, x, ex, ho⟩ ⟨_, x', ex', ho'⟩ => by rw [at_ i x ex ho, at_ j x' ex' ho'], lT := fun i p e => (by rw [hL] at e; cases e) }
  · show (Sl.oi c [] [] :: ds.map Sl.v ++ List.replicate (N.length - (Sl.oi c [] [] :: ds.map Sl.v).length) Sl.un).length = ((V.ref p :: vs).map some ++ List.replicate (N.length - (V.ref p :: vs).length) none).length
    simp [hv.length]
  · have e : (Sl.oi c [] [] :: (ds.map Sl.v ++ List.replicate (N.length - (Sl.oi c [] [] :: ds.map Sl.v).length) Sl.un))[i]? = some x := e
    cases i with
    | zero =>
      cases e
      exact ⟨p, C, dx, [], rfl, hC, hp, rfl, .nil, hM⟩
    | succ i =>
      rw [List.getElem?_cons_succ] at e
      by_cases hi : i < ds.length
      · rw [List.getElem?_append_left (by simpa using hi)] at e
        simp only [List.getElem?_map, Option.map_eq_some_iff] at e
        obtain ⟨d, ed, rfl⟩ := e
        obtain ⟨v, ev, r⟩ := hv.get ed
        refine ⟨v, ?_, r⟩
        show (some (V.ref p) :: (vs.map some ++ _))[i + 1]? = _
        rw [List.getElem?_cons_succ, List.getElem?_append_left (by rw [List.length_map, hv.length]; exact hi)]
        simp [ev]
      · rw [List.getElem?_append_right (by simpa using hi)] at e
        have := List.getElem?_replicate .. ▸ e
        split at this
        · cases this; trivial
        · cases this
  · obtain rfl := at_ i x ex ho
    have e : some (some (V.ref p)) = some (some (V.ref q)) := e
    cases e
    exact ⟨f1, f2, f3⟩
theorem room_un {k : Nat} {A : Around} (r : Room k A) : A.units + 64 < cLine := by have := r.un; omega
/-- the names of a def, checked -/
def ddC (S : Sx) (d : DD) (st : Stmt) : Bool := decide (S.N = d.N) && decide (S.sc = defScope st) && S.cel && C8.scC d.N d.ps (defScope st) && decide (d.ps.length ≤ d.N.length) && ckSs 40 S d.ms (defBody st)
section
variable {S : Sx} {d : DD} {st : Stmt} {f : Addr} {fd : FuncData} {x qual : Str} {A : Around} {outer : List Env} {s : Shared} {H : Hp} {E : XK} {cdv : Value}
theorem cxs_of (g : Glx G L k S P w K mg base) (hc : ddC S d st = true) (hr : Room (k + 1) (A.deeper (envOfC qual (defScope st) s.heap.objs.size f cdv))) : Cxs G L k S (cxOf (L2.CX P w) P w K mg base d.N qual (defScope st) f cdv A outer s H E) := by
  simp only [ddC, Bool.and_eq_true, decide_eq_true_eq] at hc
  obtain ⟨⟨⟨⟨⟨h1, h2⟩, h3⟩, h4⟩, h5⟩, h6⟩ := hc
  exact ⟨g.kk, h1.symm, (C8.fnScope_by h4).nd, h2.symm, fun _ _ => rfl, fun _ => rfl, fun _ => hr, room_un hr, g.defs _ rfl rfl rfl rfl rfl, g.mks _ rfl rfl rfl rfl rfl, g.mths _ rfl rfl rfl rfl rfl, g.cls, g.ins, g.flds, g.glos, g.tys _ rfl rfl, g.blts, g.eqc, g.xns _ rfl rfl, g.xmk _ rfl rfl, fun _ _ => rfl, fun _ => g.xa, ⟨fun a D e => by rw [g.xa] at e; cases e⟩, g.xts _ rfl rfl⟩
theorem body_ok (g : Glx G L k S P w K mg base) (hc : ddC S d st = true) (hr : Room (k + 1) (A.deeper (envOfC qual (defScope st) s.heap.objs.size f cdv))) :
    PSs (cxOf (L2.CX P w) P w K mg base d.N qual (defScope st) f cdv A outer s H E) (defBody st) (tS G (fun cls d _ H => E cls d H) (execs L d.ms)) := by
  have C := cxs_of (outer := outer) (H := H) (E := E) g hc hr
  simp only [ddC, Bool.and_eq_true, decide_eq_true_eq] at hc
  obtain ⟨⟨⟨⟨⟨h1, h2⟩, h3⟩, h4⟩, h5⟩, h6⟩ := hc
  exact (snd_ss C (takes_of rfl rfl rfl rfl) (passes_of rfl) ⟨rfl, rfl⟩ 40).2 _ _ h6
theorem fn_D (g : Glx G L k S P w K mg base) (hc : ddC S d st = true) (F : Fun K x qual st f fd) : FnOk P w K mg base (L2.CX P w) (k + 2) f fd d.ps (spD G d.ps.length (runD L d)) := by
  have hc' := hc
  simp only [ddC, Bool.and_eq_true, decide_eq_true_eq] at hc'
  obtain ⟨⟨⟨⟨⟨h1, h2⟩, h3⟩, h4⟩, h5⟩, h6⟩ := hc'
  refine F.okX (C8.fnScope_by h4) (fun vs H Q E h => h.1) fun cdv A outer s H vs Q E hr h => ⟨_, body_ok g hc hr, ?_⟩
  obtain ⟨hl, wd, sto, ds, hL, R, hv, h⟩ := h
  refine ⟨wd, ⟨slots d.N.length (ds.map .v), sto⟩, rel_start (n := 0) R hL hv (by rw [hl]; exact h5), ?_⟩
  unfold runD finD at h
  cases q : execs L d.ms ⟨slots d.N.length (ds.map .v), sto⟩ with
  | no => rw [q] at h; exact h
  | ex c fs s' => rw [q] at h; exact fun cls d H' w' σ' e R' x => h cls d H' w' e R'.toWok x
  | ok fl s' =>
    rw [q] at h
    intro H' w' σ' e R'
    cases fl with
    | nx => exact h _ H' w' e R'.toWok .non
    | ret r => exact fun v rf => h v H' w' e R'.toWok rf
    | bk => exact h
    | ct => exact h
theorem fn_I {c : Nat} (g : Glx G L k S P w K mg base) (hc : ddC S d st = true) (F : Fun K x qual st f fd) {n : Nat} (hn : d.ps.length = n + 1) : FnOk P w K mg base (L2.CX P w) (k + 2) f fd d.ps (spI G n c (runI L d c)) := by
  have hc' := hc
  simp only [ddC, Bool.and_eq_true, decide_eq_true_eq] at hc'
  obtain ⟨⟨⟨⟨⟨h1, h2⟩, h3⟩, h4⟩, h5⟩, h6⟩ := hc'
  refine F.okX (C8.fnScope_by h4) (fun vs H Q E h => by rw [h.1, hn]) fun cdv A outer s H vs Q E hr h => ⟨_, body_ok g hc hr, ?_⟩
  obtain ⟨hl, wd, sto, ds, p, C, dx, us, hL, hM, R, rfl, hv, hC, hp, f1, f2, f3, h⟩ := h
  refine ⟨wd, ⟨slots d.N.length (.oi c [] [] :: ds.map .v), sto⟩, rel_startI R hL hM hv (by simp at hl; omega) hC hp f1 f2 f3, ?_⟩
  have fin : ∀ {s' : SS} {H' : Hp} {w' : Wd} {σ' : L2.St}, Ext wd w' → Rel G w' s' σ' H' → (match oiAt c s' with
      | .ok r st' => ∀ H' w' fl dx', Ext wd w' → Wok G w' st' H' → H' p = some (.ins C dx' fl) → fl.map (·.1) = r.1 → RepL G w'.F w'.A (fl.map (·.2)) r.2 → w'.F p = none → w'.T p = none → p ∉ w'.A → Q .non H'
      | .ex c fs st' => ∀ cls d H' w', Ext wd w' → Wok G w' st' H' → XR G w' cls d c fs → E cls d H'
      | .no => False) → Q .non H' := fun {s' H' w' σ'} e R' h => by
    unfold oiAt at h
    cases q : s'.sl[0]? with
    | none => rw [q] at h; exact h.elim
    | some x =>
      rw [q] at h
      cases x with
      | oi c' ns vs =>
        by_cases ec : c' = c
        · subst ec
          simp only [if_pos] at h
          obtain ⟨p', C', dx', fl, e1, e2, e3, e4, e5, e6⟩ := R'.sl 0 _ q
          rw [e.M, hM] at e6; cases e6
          rw [hC] at e2; cases e2
          obtain ⟨g1, g2, g3⟩ := R'.own 0 p ⟨e1, _, q, rfl⟩
          exact h H' w' fl dx' e R'.toWok e3 e4 e5 g1 g2 g3
        · simp only [if_neg ec] at h
      | _ => exact h.elim
  unfold runI finI at h
  cases q : execs L d.ms ⟨slots d.N.length (.oi c [] [] :: ds.map .v), sto⟩ with
  | no => rw [q] at h; exact h
  | ex c fs s' => rw [q] at h; exact fun cls d H' w' σ' e R' x => h cls d H' w' e R'.toWok x
  | ok fl s' =>
    rw [q] at h
    intro H' w' σ' e R'
    cases fl with
    | nx => exact fin e R' h
    | ret r =>
      intro v rf
      cases r with
      | v d0 =>
        cases d0 with
        | non => obtain rfl := Rep.inv_non rf; exact fin e R' h
        | _ => exact h.elim
      | nl xs => exact h.elim
      | bw i => exact h.elim
    | bk => exact h
    | ct => exact h
end
end
end Mq

/-! MqPd: programs. -/
namespace Mq
open PySem L2 PyProof.Rows
def ixOf (x : Str) : List Str → Option Nat
  | [] => none
  | y :: r => if x = y then some 0 else (ixOf x r).map (· + 1)
/-- a method's or a class's place -/
def ixOf2 (c : Nat) (x : Str) : List (Nat × Str) → Option Nat
  | [] => none
  | y :: r => if c = y.1 ∧ x = y.2 then some 0 else (ixOf2 c x r).map (· + 1)
/-- a class: its name, number, whether its instances stay as they are made, its __init__ -/
structure CD where
  x : Str
  c : Nat
  frz : Bool
  d : DD
  deriving Inhabited
structure PD where
  defs : List DD
  cls : List CD
  mths : List (Nat × DD)
  glob : Str → Option Dt
  isi : Ty → Str → Option Bool
  nf : Nat → Ty → Bool
  xis : Nat → Str → Option Bool
def PD.names (P : PD) : List Str := P.defs.map (·.x)
def PD.cnames (P : PD) : List Str := P.cls.map (·.x)
def PD.mnames (P : PD) : List (Nat × Str) := P.mths.map fun t => (t.1, t.2.x)
def PD.hasM (P : PD) (c : Nat) (m : Str) : Bool := (ixOf2 c m P.mnames).isSome
def noF : List Dt → List MO → FR := fun _ _ => .no
def mkC (L : Fns) (t : CD) : List Dt → List MO → FR := if t.frz then mkI t.c (runI L t.d t.c) else mkS t.c (runD L t.d)
def FP (P : PD) : Nat → Fns
  | 0 => { call := fun _ => noF, make := fun _ => noF, meth := fun _ _ => noF, hasM := P.hasM, glob := P.glob, isi := P.isi, nf := P.nf, xis := P.xis }
  | k + 1 => {
      call := fun x => match ixOf x P.names with
        | some i => (match P.defs[i]? with | some d => runD (FP P k) d | none => noF)
        | none => noF
      make := fun x => match ixOf x P.cnames with
        | some i => (match P.cls[i]? with | some t => mkC (FP P k) t | none => noF)
        | none => noF
      meth := fun c m => match ixOf2 c m P.mnames with
        | some i => (match P.mths[i]? with | some t => runD (FP P k) t.2 | none => noF)
        | none => noF
      hasM := P.hasM, glob := P.glob, isi := P.isi, nf := P.nf, xis := P.xis }
theorem FP_call {P : PD} {k i : Nat} {x : Str} {d : DD} (h : ixOf x P.names = some i) (e : P.defs[i]? = some d) : (FP P (k + 1)).call x = runD (FP P k) d := by
  show (match ixOf x P.names with
        | some i => (match P.defs[i]? with | some d => runD (FP P k) d | none => noF)
        | none => noF) = _
  rw [h]; simp only [e]
theorem FP_make {P : PD} {k i : Nat} {x : Str} {t : CD} (h : ixOf x P.cnames = some i) (e : P.cls[i]? = some t) : (FP P (k + 1)).make x = mkC (FP P k) t := by
  show (match ixOf x P.cnames with
        | some i => (match P.cls[i]? with | some t => mkC (FP P k) t | none => noF)
        | none => noF) = _
  rw [h]; simp only [e]
theorem FP_meth {P : PD} {k i c : Nat} {x : Str} {t : Nat × DD} (h : ixOf2 c x P.mnames = some i) (e : P.mths[i]? = some t) : (FP P (k + 1)).meth c x = runD (FP P k) t.2 := by
  show (match ixOf2 c x P.mnames with
        | some i => (match P.mths[i]? with | some t => runD (FP P k) t.2 | none => noF)
        | none => noF) = _
  rw [h]; simp only [e]
theorem ixOf_ok {x : Str} : ∀ {l : List Str} {i : Nat}, ixOf x l = some i → l[i]? = some x
  | y :: r, i, h => by
    unfold ixOf at h
    split at h
    · rename_i e; cases h; rw [e]; rfl
    · simp only [Option.map_eq_some_iff] at h
      obtain ⟨j, e, rfl⟩ := h
      rw [List.getElem?_cons_succ]; exact ixOf_ok e
theorem ixOf_in {x : Str} : ∀ {l : List Str}, x ∈ l → ∃ i, ixOf x l = some i
  | y :: r, h => by
    unfold ixOf
    split
    · exact ⟨0, rfl⟩
    · rename_i n
      obtain ⟨i, e⟩ := ixOf_in ((List.mem_cons.mp h).resolve_left n)
      exact ⟨i + 1, by rw [e]; rfl⟩
theorem ixOf2_ok {c : Nat} {x : Str} : ∀ {l : List (Nat × Str)} {i : Nat}, ixOf2 c x l = some i → l[i]? = some (c, x)
  | y :: r, i, h => by
    unfold ixOf2 at h
    split at h
    · rename_i e; cases h; rw [e.1, e.2]; rfl
    · simp only [Option.map_eq_some_iff] at h
      obtain ⟨j, e, rfl⟩ := h
      rw [List.getElem?_cons_succ]; exact ixOf2_ok e
section
variable {G : Gx} {Pg : Program} {w : World} {K : PySem.W.Frag} {mg : Str → Option Value} {base : Heap}
/-- the written part of a def -/
structure HD (K : PySem.W.Frag) (S : Sx) (d : DD) (f : Addr) (x qual : Str) (st : Stmt) : Prop where
  ex : ∃ fd, Fun K x qual st f fd ∧ Binds K fd d.ps []
  ck : ddC S d st = true
def Sx.on (S : Sx) (d : DD) (st : Stmt) : Sx := { S with N := d.N, sc := defScope st, cel := true }
/-- the written part of the program -/
structure HP (G : Gx) (P : PD) (S : Sx) (K : PySem.W.Frag) (mg : Str → Option Value) : Prop where
  kk : K = G.K
  defs : ∀ d, d ∈ P.defs → ∃ (f : Addr) (qual : Str) (st : Stmt), mg d.x = some (.ref f) ∧ HD K (S.on d st) d f d.x qual st
  mks : ∀ t, t ∈ P.cls → ∃ (C f : Addr) (x qual : Str) (st : Stmt), mg t.x = some (.ref C) ∧ Mk K C f ∧ G.cls t.c = some C ∧ HD K (S.on t.d st) t.d f x qual st ∧ 1 ≤ t.d.ps.length
  mths : ∀ t, t ∈ P.mths → ∃ (C f : Addr) (qual : Str) (st : Stmt), G.cls t.1 = some C ∧ Meth K C t.2.x f ∧ HD K (S.on t.2 st) t.2 f t.2.x qual st
  sd : ∀ x n, (x, n) ∈ S.defs → ∃ d, d ∈ P.defs ∧ d.x = x ∧ d.ps.length = n
  nd : P.names.Nodup
  sm : ∀ x n, (x, n) ∈ S.mks → ∃ t, t ∈ P.cls ∧ t.x = x ∧ t.d.ps.length = n + 1
  nm : P.cnames.Nodup
  st : ∀ m n, (m, n) ∈ S.mths → ∀ t, t ∈ P.mths → t.2.x = m → t.2.ps.length = n
  cls : ∀ c C, G.cls c = some C → Cls G.K C
  ins : ∀ c C, G.cls c = some C → InsT G.K C
  flds : ∀ f, f ∈ S.flds → ∀ c C, G.cls c = some C → NoAttr G.K C f
  glos : ∀ x, x ∈ S.glos → ∃ (u : Value) (v : V) (d : Dt), mg x = some u ∧ RelV v u ∧ (∀ F A, Rep G F A v d) ∧ P.glob x = some d
  tys : ∀ X : Cx, X.K = K → X.mg = mg → ∀ t, t ∈ S.tys → ∃ c u v, ClsV c u ∧ RelV c v ∧ (X.mg t = some v ∨ (X.mg t = none ∧ bootBuiltins t = some v)) ∧ ∀ ty b, P.isi ty t = some b → ∃ tv, tyVal G ty = some tv ∧ PySem.W.kitOne G.K tv u = some b
  blts : ∀ x, x ∈ S.blts → mg x = none
  own : ∀ c C, P.hasM c "__eq__" = true → G.cls c = some C → OwnN G.K C
  nf : ∀ c C ty tv, P.nf c ty = true → G.cls c = some C → tyVal G ty = some tv → PySem.W.notFirst G.K C tv = true
  xns : ∀ x, x ∈ S.xns → ∃ v, (mg x = some v ∨ (mg x = none ∧ bootBuiltins x = some v)) ∧ ∀ c C ns b, G.exc c = some (C, ns) → P.xis c x = some b → PySem.W.exmOne K (.ref C) v = some b
  xmk : ∀ x c, (x, c) ∈ S.xmk → ∃ C, G.exc c = some (C, []) ∧ mg x = some (.ref C) ∧ PySem.W.keepIn K (.ref C) = true ∧ PySem.W.excIn K C [.type "ValueError", .type "Exception", .type "BaseException", .type "object"] "ValueError.__new__" = true ∧
    PySem.W.subIn K (.ref C) (.type "BaseException") = some true ∧ PySem.W.typeIn K (.ref C) = some (.type "type")
  xa : G.xa = none
  xts : ∀ t, t ∈ S.xts → ∃ c u v, ClsV c u ∧ RelV c v ∧ (mg t = some v ∨ (mg t = none ∧ bootBuiltins t = some v)) ∧ ∀ n C ns b, G.exc n = some (C, ns) → P.xis n t = some b → ExcC G.K C ∧ PySem.W.kitOne G.K (.ref C) u = some b
theorem spD_no {n : Nat} {vs : List V} {H : Hp} {Q : VK} {E : XK} (h : spD G n noF vs H Q E) : False := by
  obtain ⟨_, _, _, _, _, _, _, z⟩ := h
  exact z
theorem fn_no {j n : Nat} {f : Addr} {fd : FuncData} {ps : List Str} : FnOk Pg w K mg base (L2.CX Pg w) j f fd ps (spD G n noF) := ⟨fun vs H Q E h => (spD_no h).elim, fun A outer s H args us vs Q E hr e0 b r h => (spD_no h).elim⟩
theorem mkS_no {c : Nat} : mkS c noF = noF := rfl
theorem FP_0 {P : PD} {x : Str} : (FP P 0).call x = noF := rfl
/-- every def keeps its promise, to any depth -/
theorem prog_ok {P : PD} {S : Sx} (h : HP G P S K mg) : ∀ k, Glx G (FP P k) (2 * k) S Pg w K mg base
  | 0 => {
      kk := h.kk
      defs := fun X e1 e2 e3 e4 e5 x n hm => by
        obtain ⟨d, hd, rfl, rfl⟩ := h.sd x n hm
        obtain ⟨f, qual, st, hmg, hD⟩ := h.defs d hd
        obtain ⟨fd, F, b⟩ := hD.ex
        subst e1 e2 e3 e4 e5
        exact ⟨f, fd, _, hmg, F.kp, b, fn_no⟩
      mks := fun X e1 e2 e3 e4 e5 x n hm => by
        obtain ⟨t, ht, rfl, hn⟩ := h.sm x n hm
        obtain ⟨C, f, x, qual, st, hmg, hM, hC, hD, hl⟩ := h.mks t ht
        obtain ⟨fd, F, b⟩ := hD.ex
        subst e1 e2 e3 e4 e5
        exact ⟨C, f, fd, _, t.c, hmg, hM, b, hC, .inl ⟨noF, fn_no, rfl⟩⟩
      mths := fun X e1 e2 e3 e4 e5 m n hm c hc => by
        subst e1 e2 e3 e4 e5
        have hc : (ixOf2 c m P.mnames).isSome = true := hc
        obtain ⟨i, hi⟩ := Option.isSome_iff_exists.mp hc
        have e := ixOf2_ok hi
        unfold PD.mnames at e
        simp only [List.getElem?_map, Option.map_eq_some_iff, Prod.mk.injEq] at e
        obtain ⟨t, et, rfl, rfl⟩ := e
        have ht := List.mem_of_getElem? et
        obtain ⟨C, f, qual, st, hC, hM, hD⟩ := h.mths t ht
        obtain ⟨fd, F, b⟩ := hD.ex
        refine ⟨fun C' hC' => ?_⟩
        rw [hC] at hC'; cases hC'
        exact ⟨f, fd, _, h.cls _ _ hC, by rw [← h.kk]; exact hM, b, fn_no⟩
      cls := h.cls, ins := h.ins, flds := h.flds
      glos := fun x hx => h.glos x hx
      tys := fun X e1 e2 t ht => ⟨h.tys X e1 e2 t ht⟩
      blts := h.blts
      eqc := ⟨h.own, h.nf⟩
      xns := fun X e1 e2 x hx => ⟨by subst e1 e2; exact h.xns x hx⟩
      xmk := fun X e1 e2 x c hx => ⟨by subst e1 e2; exact h.xmk x c hx⟩
      xa := h.xa
      xts := fun X e1 e2 t ht => ⟨by subst e1 e2; exact h.xts t ht⟩ }
  | k + 1 => by
    have I : Glx G (FP P k) (2 * k) S Pg w K mg base := prog_ok h k
    have on : ∀ d st, Glx G (FP P k) (2 * k) (S.on d st) Pg w K mg base := fun d st => ⟨I.kk, I.defs, I.mks, I.mths, I.cls, I.ins, I.flds, I.glos, I.tys, I.blts, I.eqc, I.xns, I.xmk, I.xa, I.xts⟩
    exact {
      kk := h.kk
      defs := fun X e1 e2 e3 e4 e5 x n hm => by
        obtain ⟨d, hd, rfl, rfl⟩ := h.sd x n hm
        obtain ⟨f, qual, st, hmg, hD⟩ := h.defs d hd
        obtain ⟨fd, F, b⟩ := hD.ex
        obtain ⟨i, hi⟩ := ixOf_in (x := d.x) (l := P.names) (List.mem_map_of_mem hd)
        have ei := ixOf_ok hi
        unfold PD.names at ei
        simp only [List.getElem?_map, Option.map_eq_some_iff] at ei
        obtain ⟨d', ed', ex⟩ := ei
        have : d' = d := by
          obtain ⟨j, ej⟩ := List.getElem?_of_mem hd
          have nd := h.nd
          unfold PD.names at nd
          have hij : i = j := by
            refine (List.getElem?_inj (l := P.defs.map (·.x)) ?_ nd).mp ?_
            · rw [List.length_map]; exact (List.getElem?_eq_some_iff.mp ed').1
            · rw [List.getElem?_map, List.getElem?_map, ed', ej]; simp [ex]
          subst hij
          rw [ed'] at ej; cases ej; rfl
        subst this
        rw [FP_call hi ed']
        subst e1 e2 e3 e4 e5
        exact ⟨f, fd, _, hmg, F.kp, b, fn_D (on _ _) hD.ck F⟩
      mks := fun X e1 e2 e3 e4 e5 x n hm => by
        obtain ⟨t, ht, rfl, hn⟩ := h.sm x n hm
        obtain ⟨C, f, x, qual, st, hmg, hM, hC, hD, hl⟩ := h.mks t ht
        obtain ⟨fd, F, b⟩ := hD.ex
        obtain ⟨i, hi⟩ := ixOf_in (x := t.x) (l := P.cnames) (List.mem_map_of_mem ht)
        have ei := ixOf_ok hi
        unfold PD.cnames at ei
        simp only [List.getElem?_map, Option.map_eq_some_iff] at ei
        obtain ⟨t', et', ex⟩ := ei
        have : t' = t := by
          obtain ⟨j, ej⟩ := List.getElem?_of_mem ht
          have nd := h.nm
          unfold PD.cnames at nd
          have hij : i = j := by
            refine (List.getElem?_inj (l := P.cls.map (·.x)) ?_ nd).mp ?_
            · rw [List.length_map]; exact (List.getElem?_eq_some_iff.mp et').1
            · rw [List.getElem?_map, List.getElem?_map, et', ej]; simp [ex]
          subst hij
          rw [et'] at ej; cases ej; rfl
        subst this
        rw [FP_make hi et']
        subst e1 e2 e3 e4 e5
        refine ⟨C, f, fd, _, t'.c, hmg, hM, b, hC, ?_⟩
        unfold mkC
        cases t'.frz with
        | true => exact .inr ⟨_, fn_I (on _ _) hD.ck F hn, rfl⟩
        | false =>
          have q := fn_D (on _ _) hD.ck F
          rw [hn] at q
          exact .inl ⟨_, q, rfl⟩
      mths := fun X e1 e2 e3 e4 e5 m n hm c hc => by
        subst e1 e2 e3 e4 e5
        have hc : (ixOf2 c m P.mnames).isSome = true := hc
        obtain ⟨i, hi⟩ := Option.isSome_iff_exists.mp hc
        have e := ixOf2_ok hi
        unfold PD.mnames at e
        simp only [List.getElem?_map, Option.map_eq_some_iff, Prod.mk.injEq] at e
        obtain ⟨t, et, rfl, rfl⟩ := e
        have ht := List.mem_of_getElem? et
        obtain ⟨C, f, qual, st, hC, hM, hD⟩ := h.mths t ht
        obtain ⟨fd, F, b⟩ := hD.ex
        refine ⟨fun C' hC' => ?_⟩
        rw [hC] at hC'; cases hC'
        have q := fn_D (on _ _) hD.ck F
        rw [h.st _ _ hm t ht rfl] at q
        rw [FP_meth hi et]
        exact ⟨f, fd, _, h.cls _ _ hC, by rw [← h.kk]; exact hM, b, q⟩
      cls := h.cls, ins := h.ins, flds := h.flds
      glos := fun x hx => h.glos x hx
      tys := fun X e1 e2 t ht => ⟨h.tys X e1 e2 t ht⟩
      blts := h.blts
      eqc := ⟨h.own, h.nf⟩
      xns := fun X e1 e2 x hx => ⟨by subst e1 e2; exact h.xns x hx⟩
      xmk := fun X e1 e2 x c hx => ⟨by subst e1 e2; exact h.xmk x c hx⟩
      xa := h.xa
      xts := fun X e1 e2 t ht => ⟨by subst e1 e2; exact h.xts t ht⟩ }
end
end Mq

/-! MqLaw: a law by its run over plain data. -/
namespace Mq
open PySem L2 PyProof.Rows
def spL (K : PySem.W.Frag) : Sp := fun vs H Q _ => ∃ (a : Addr) (ns : List Int), vs = [.ref a] ∧ SqL K H a (ns.map V.int) ∧ ns.length ≤ 63 ∧ ∀ H', Q (.bl true) H'
/-- isinstance by a table -/
def isiOf (T : List (Ty × Str × Bool)) (ty : Ty) (t : Str) : Option Bool := (T.find? fun e => decide (e.1 = ty) && decide (e.2.1 = t)).map (·.2.2)
theorem isiOf_mem {T : List (Ty × Str × Bool)} {ty : Ty} {t : Str} {b : Bool} (h : isiOf T ty t = some b) : (ty, t, b) ∈ T := by
  unfold isiOf at h
  simp only [Option.map_eq_some_iff] at h
  obtain ⟨e, h1, rfl⟩ := h
  have h2 := List.find?_some h1
  simp only [Bool.and_eq_true, decide_eq_true_eq] at h2
  obtain ⟨rfl, rfl⟩ := h2
  exact List.mem_of_find?_eq_some h1
section
variable {G : Gx} {Pg : Program} {w : World} {K : PySem.W.Frag} {mg : Str → Option Value} {base : Heap}
/-- the law's run answers true -/
def Runs (P : PD) (d : DD) (k : Nat) : Prop := ∀ ns : List Int, ns.length ≤ 63 → ∃ st, runD (FP P k) d [.rol (ns.map Dt.int)] [] = .ok (.v (.bl true)) st
theorem law_fn {P : PD} {S : Sx} {d : DD} {k : Nat} {x qual par : Str} {st : Stmt} {f : Addr} {fd : FuncData} (h : HP G P S K mg) (hr : Runs P d k) (hp : d.ps = [par]) (F : Fun K x qual st f fd) (hc : ddC (S.on d st) d st = true) : FnOk Pg w K mg base (L2.CX Pg w) (2 * k + 2) f fd [par] (spL K) := by
  have I : Glx G (FP P k) (2 * k) S Pg w K mg base := prog_ok h k
  have q : FnOk Pg w K mg base (L2.CX Pg w) (2 * k + 2) f fd d.ps (spD G d.ps.length (runD (FP P k) d)) := fn_D (S := S.on d st) ⟨I.kk, I.defs, I.mks, I.mths, I.cls, I.ins, I.flds, I.glos, I.tys, I.blts, I.eqc, I.xns, I.xmk, I.xa, I.xts⟩ hc F
  rw [hp] at q
  refine q.imp fun vs H Q E h2 => ?_
  obtain ⟨a, ns, rfl, hS, hl, hQ⟩ := h2
  obtain ⟨st', er⟩ := hr ns hl
  refine ⟨rfl, ⟨H, [], fun _ => none, fun _ => none, none⟩, [], [.rol (ns.map Dt.int)], rfl, ?_, .cons (.rol (by rw [← h.kk]; exact hS) (RepL.ints ns)) .nil, ?_⟩
  · exact ⟨fun _ _ e => e, fun _ _ e => (by cases e), fun _ => .inr rfl, rfl, fun n a e => (by simp at e), fun n m a e => (by simp at e)⟩
  · rw [er]
    intro v H' w' _ _ rf
    obtain rfl := Rep.inv_bl rf
    exact hQ H'
/-- what the head asks of a program: its written part -/
def LawF (P : PD) (S : Sx) (d : DD) (par : Str) (K : PySem.W.Frag) (mg : Str → Option Value) (x : Str) : Prop :=
  ∃ (G : Gx) (f : Addr) (fd : FuncData) (qual : Str) (st : Stmt), HP G P S K mg ∧ mg x = some (.ref f) ∧ Fun K x qual st f fd ∧ ddC (S.on d st) d st = true ∧ ∀ (s : Shared) (u : Value), BindsTo s fd ⟨[u], []⟩ [(par, u)]
theorem law_walk {l : PySem.W.OpenLaw} {q : Program} {loose : List Str} {XP : (Str → Option Value) → Heap → Prop} {YP : World → Heap → Prop} {dr : DefRec} {K : Params → PySem.W.Frag} (P : PD) (S : Sx) (d : DD) (par : Str) (k : Nat)
    (hn : l.most = some 63) (hdf : dr.params.defaults = []) (hk : Room (2 * k + 2) callerA) (hr : Runs P d k) (hp : d.ps = [par]) (hY : ∀ (w : World) (h : Heap), YP w h → (K w.params).In h)
    (F : ∀ (w : World) (mg : Str → Option Value) (h : Heap), (K w.params).In h → h.Ns mainGlobals mg → LawF P S d par (K w.params) mg dr.name) :
    PySem.W.WalkO q loose XP YP l.row.toRowW dr [] (fun f vs => PySem.call f vs) :=
  L2.walk_of (n := 63) (k := 2 * k + 2) (x := par) (CX := fun w => L2.CX l.prog w) (sp := fun w => spL (K w.params)) hn (by decide) hdf hk hY
    (fun w mg fa h KX hG hmg => by
      obtain ⟨G, f, fd, qual, st, hP, hf, FF, hc, hb⟩ := F w mg h KX hG
      rw [hmg] at hf; cases hf
      exact ⟨fd, hb, fun base _ _ => law_fn hP hr hp FF hc⟩)
    (fun _ _ a ns hl _ hS => ⟨a, ns, rfl, hS, hl, fun _ => rfl⟩) fun w H s e s' z => by
      obtain ⟨_, _, _, _, _, _, _, _, _, _, _, _, z⟩ := z
      exact z.elim
/-- a def's written part, by what the head finds -/
theorem hd_mk {h : Heap} {S : Sx} {d : DD} {f : Addr} {x qual : Str} {st : Stmt} {oc kV doc pm cdv ct : Value} {od an : Option Addr} {osl : Array (Option Value)}
    (l : K.lookup f = some ⟨oc, od, .func (PySem.W.fnOf x qual (defArgs st) (defBody st) (defScope st) .none kV doc pm an cdv ct), osl⟩) (c : PySem.W.codeIn K cdv qual = true) (k : PySem.W.keepIn K (.ref f) = true)
    (hb : ∀ (kV doc pm : Value) (an : Option Addr) (cdv ct : Value) (us : List Value), us.length = d.ps.length → bindArgs (PySem.W.fnOf x qual (defArgs st) (defBody st) (defScope st) .none kV doc pm an cdv ct) ⟨us, []⟩ = pure (d.ps.zip us)) (hc : ddC (S.on d st) d st = true) : HD K (S.on d st) d f x qual st :=
  have F := fun_mk (st := st) l c k
  ⟨⟨_, F, F.binds hb⟩, hc⟩
theorem hdef_mk {h : Heap} {S : Sx} {d : DD} {f : Addr} {x qual : Str} {st : Stmt} (X : K.In h) (N : h.Ns mainGlobals mg) (hx : d.x = x) (a : PySem.W.nsIn K mainGlobals x = some (some (.ref f))) (hD : HD K (S.on d st) d f x qual st) :
    ∃ (f : Addr) (qual : Str) (st : Stmt), mg d.x = some (.ref f) ∧ HD K (S.on d st) d f d.x qual st := by
  subst hx
  exact ⟨f, qual, st, PySem.W.mg_of X N a, hD⟩
theorem isi_b {T : List (Ty × Str × Bool)} {t : Str} {u : String} (h : (T.all fun e => decide (e.2.1 ≠ t) || (match e.1 with | .b s => decide (kitB s u = some e.2.2) | .c _ => false)) = true) (ty : Ty) (b : Bool) (hi : isiOf T ty t = some b) :
    ∃ tv, tyVal G ty = some tv ∧ PySem.W.kitOne G.K tv (.type u) = some b := by
  have q := List.all_eq_true.mp h _ (isiOf_mem hi)
  cases ty with
  | b s => exact ⟨_, rfl, kit_ty (by simpa using q)⟩
  | c n => simp at q
/-- a builtin's name in isinstance -/
theorem ty_b {T : List (Ty × Str × Bool)} {t : Str} {u : String} {X : Cx} (hm : X.mg t = none) (hb : bootBuiltins t = some (.type u)) (h : (T.all fun e => decide (e.2.1 ≠ t) || (match e.1 with | .b s => decide (kitB s u = some e.2.2) | .c _ => false)) = true) :
    ∃ c u v, ClsV c u ∧ RelV c v ∧ (X.mg t = some v ∨ (X.mg t = none ∧ bootBuiltins t = some v)) ∧ ∀ ty b, isiOf T ty t = some b → ∃ tv, tyVal G ty = some tv ∧ PySem.W.kitOne G.K tv u = some b :=
  ⟨.ty u, .type u, .type u, .ty u, rfl, .inr ⟨hm, hb⟩, isi_b h⟩
/-- what is seen of the tables alone -/
def pC (P : PD) (S : Sx) : Bool :=
  (S.defs.all fun e => P.defs.any fun d => decide (d.x = e.1) && decide (d.ps.length = e.2)) && decide P.names.Nodup &&
  (S.mks.all fun e => P.cls.any fun t => decide (t.x = e.1) && decide (t.d.ps.length = e.2 + 1)) && decide P.cnames.Nodup &&
  (S.mths.all fun e => P.mths.all fun t => decide (t.2.x ≠ e.1) || decide (t.2.ps.length = e.2)) && (P.cls.all fun t => decide (1 ≤ t.d.ps.length))
theorem pC_ok {P : PD} {S : Sx} (h : pC P S = true) : (∀ x n, (x, n) ∈ S.defs → ∃ d, d ∈ P.defs ∧ d.x = x ∧ d.ps.length = n) ∧ P.names.Nodup ∧ (∀ x n, (x, n) ∈ S.mks → ∃ t, t ∈ P.cls ∧ t.x = x ∧ t.d.ps.length = n + 1) ∧ P.cnames.Nodup ∧
    (∀ m n, (m, n) ∈ S.mths → ∀ t, t ∈ P.mths → t.2.x = m → t.2.ps.length = n) ∧ ∀ t, t ∈ P.cls → 1 ≤ t.d.ps.length := by
  simp only [pC, Bool.and_eq_true, List.all_eq_true, List.any_eq_true, decide_eq_true_eq, Bool.or_eq_true] at h
  obtain ⟨⟨⟨⟨⟨h1, h2⟩, h3⟩, h4⟩, h5⟩, h6⟩ := h
  refine ⟨fun x n m => ?_, h2, fun x n m => ?_, h4, fun m n hm t ht e => (h5 _ hm t ht).resolve_left (fun z => z e), h6⟩
  · obtain ⟨d, a, b, c⟩ := h1 _ m; exact ⟨d, a, b, c⟩
  · obtain ⟨d, a, b, c⟩ := h3 _ m; exact ⟨d, a, b, c⟩
/-- a class's written part -/
structure HC (K : PySem.W.Frag) (C : Addr) (fs : List Str) : Prop where
  cl : Cls K C
  it : InsT K C
  na : ∀ f, f ∈ fs → NoAttr K C f
theorem hc_mk {C : Addr} {fs : List Str} (pg : PySem.W.plainGet K C Str.empty = true) (hd : PySem.W.hasDictIn K C = true) (po : PySem.W.plainOver K C = true) (sa : PySem.W.findIn K (.ref C) "__setattr__" = some (some (.builtin "object.__setattr__")))
    (ha : PySem.W.findIn K (.ref C) "__class__" = some (some (.builtin "object.__class__"))) (hn : PySem.W.specialIn K (.builtin "object.__class__") "__get__" = some (some (.builtin "getset_descriptor.__get__"))) (htk : PySem.W.takesIn K (.builtin "object.__class__") = some true) (hm : PySem.W.mroIn K C (.type "object") = some true)
    (na : ∀ f, f ∈ fs → NoAttr K C f) : HC K C fs := ⟨⟨pg, hd, po, sa⟩, ⟨⟨pg, hd, po, sa⟩, ha, hn, htk, hm⟩, na⟩
def AllC (K : PySem.W.Frag) (fs : List Str) : List Addr → Prop
  | [] => True
  | C :: r => HC K C fs ∧ AllC K fs r
theorem allC_get {fs : List Str} : ∀ {Cs : List Addr} {c : Nat} {C : Addr}, AllC K fs Cs → Cs[c]? = some C → HC K C fs
  | [], _, _, _, e => by simp at e
  | D :: r, 0, C, h, e => by cases e; exact h.1
  | D :: r, c + 1, C, h, e => allC_get h.2 (by simpa using e)
theorem nf_e {Cs : List Addr} {Es : List (Addr × List Str)} {c : Nat} {ty : Ty} {C0 : Addr} {t0 : Value} (e1 : Cs[c]? = some C0) (e2 : tyVal ⟨K, fun n => Cs[n]?, fun n => Es[n]?, none⟩ ty = some t0) (h : PySem.W.notFirst K C0 t0 = true) :
    ∀ C tv, Cs[(c, ty).1]? = some C → tyVal ⟨K, fun n => Cs[n]?, fun n => Es[n]?, none⟩ (c, ty).2 = some tv → PySem.W.notFirst K C tv = true := fun C tv a b => by
  have a : Cs[c]? = some C := a
  have b : tyVal ⟨K, fun n => Cs[n]?, fun n => Es[n]?, none⟩ ty = some tv := b
  rw [e1] at a; rw [e2] at b
  cases a; cases b; exact h
theorem own_e {Cs : List Addr} {c : Nat} {C0 : Addr} (e1 : Cs[c]? = some C0) (h : OwnN K C0) : ∀ C, Cs[c]? = some C → OwnN K C := fun C a => by
  rw [e1] at a; cases a; exact h
/-- an own class in isinstance -/
def TyE (G : Gx) (C : Value) (t : Str) (T : List (Ty × Str × Bool)) : Prop := ∀ e, e ∈ T → e.2.1 = t → ∃ tv, tyVal G e.1 = some tv ∧ PySem.W.kitOne G.K tv C = some e.2.2
theorem ty_nil {C : Value} {t : Str} : TyE G C t [] := fun _ h => nomatch h
theorem ty_one {C : Value} {t : Str} {e : Ty × Str × Bool} {T : List (Ty × Str × Bool)} (h : e.2.1 = t → ∃ tv, tyVal G e.1 = some tv ∧ PySem.W.kitOne G.K tv C = some e.2.2) (r : TyE G C t T) : TyE G C t (e :: T) := fun x m => by
  rcases List.mem_cons.mp m with rfl | m
  · exact h
  · exact r x m
theorem ty_c {T : List (Ty × Str × Bool)} {t : Str} {C : Addr} {X : Cx} (hm : X.mg t = some (.ref C)) (h : TyE G (.ref C) t T) :
    ∃ c u v, ClsV c u ∧ RelV c v ∧ (X.mg t = some v ∨ (X.mg t = none ∧ bootBuiltins t = some v)) ∧ ∀ ty b, isiOf T ty t = some b → ∃ tv, tyVal G ty = some tv ∧ PySem.W.kitOne G.K tv u = some b :=
  ⟨.ref C, .ref C, .ref C, .own C, rfl, .inl hm, fun ty b hi => h _ (isiOf_mem hi) rfl⟩
/-- a builtin type in isinstance, asked of own classes too -/
theorem ty_bc {T : List (Ty × Str × Bool)} {t : Str} {u : String} {X : Cx} (hm : X.mg t = none) (hb : bootBuiltins t = some (.type u)) (h : TyE G (.type u) t T) :
    ∃ c u v, ClsV c u ∧ RelV c v ∧ (X.mg t = some v ∨ (X.mg t = none ∧ bootBuiltins t = some v)) ∧ ∀ ty b, isiOf T ty t = some b → ∃ tv, tyVal G ty = some tv ∧ PySem.W.kitOne G.K tv u = some b :=
  ⟨.ty u, .type u, .type u, .ty u, rfl, .inr ⟨hm, hb⟩, fun ty b hi => h _ (isiOf_mem hi) rfl⟩
/-- whose == is asked first -/
def nfOf (N : List (Nat × Ty)) (c : Nat) (ty : Ty) : Bool := decide ((c, ty) ∈ N)
/-- whether an exception is of a named class, by a table -/
def xisOf (T : List (Nat × Str × Bool)) (c : Nat) (x : Str) : Option Bool := (T.find? fun e => decide (e.1 = c) && decide (e.2.1 = x)).map (·.2.2)
theorem xisOf_mem {T : List (Nat × Str × Bool)} {c : Nat} {x : Str} {b : Bool} (h : xisOf T c x = some b) : (c, x, b) ∈ T := by
  unfold xisOf at h
  simp only [Option.map_eq_some_iff] at h
  obtain ⟨e, h1, rfl⟩ := h
  have h2 := List.find?_some h1
  simp only [Bool.and_eq_true, decide_eq_true_eq] at h2
  obtain ⟨rfl, rfl⟩ := h2
  exact List.mem_of_find?_eq_some h1
/-- the value of a class that a clause names; the exceptions that may come to it -/
structure XnE (K : PySem.W.Frag) (mg : Str → Option Value) (Es : List (Addr × List Str)) (T : List (Nat × Str × Bool)) (x : Str) : Prop where
  ex : ∃ v, (mg x = some v ∨ (mg x = none ∧ bootBuiltins x = some v)) ∧ ∀ e, e ∈ T → e.2.1 = x → ∀ C ns, Es[e.1]? = some (C, ns) → PySem.W.exmOne K (.ref C) v = some e.2.2
theorem xn_one {Es : List (Addr × List Str)} {v : Value} {x : Str} {e : Nat × Str × Bool} {C0 : Addr} {n0 : List Str} {T : List (Nat × Str × Bool)} (h1 : Es[e.1]? = some (C0, n0)) (h : PySem.W.exmOne K (.ref C0) v = some e.2.2)
    (r : ∀ e, e ∈ T → e.2.1 = x → ∀ C ns, Es[e.1]? = some (C, ns) → PySem.W.exmOne K (.ref C) v = some e.2.2) : ∀ e', e' ∈ e :: T → e'.2.1 = x → ∀ C ns, Es[e'.1]? = some (C, ns) → PySem.W.exmOne K (.ref C) v = some e'.2.2 := fun y m q C ns hC => by
  rcases List.mem_cons.mp m with rfl | m
  · rw [h1] at hC; cases hC; exact h
  · exact r y m q C ns hC
theorem xn_skip {Es : List (Addr × List Str)} {v : Value} {x : Str} {e : Nat × Str × Bool} {T : List (Nat × Str × Bool)} (h1 : e.2.1 ≠ x)
    (r : ∀ e, e ∈ T → e.2.1 = x → ∀ C ns, Es[e.1]? = some (C, ns) → PySem.W.exmOne K (.ref C) v = some e.2.2) : ∀ e', e' ∈ e :: T → e'.2.1 = x → ∀ C ns, Es[e'.1]? = some (C, ns) → PySem.W.exmOne K (.ref C) v = some e'.2.2 := fun y m q C ns hC => by
  rcases List.mem_cons.mp m with rfl | m
  · exact absurd q h1
  · exact r y m q C ns hC
theorem xn_nil {Es : List (Addr × List Str)} {v : Value} {x : Str} : ∀ e, e ∈ ([] : List (Nat × Str × Bool)) → e.2.1 = x → ∀ C ns, Es[e.1]? = some (C, ns) → PySem.W.exmOne K (.ref C) v = some e.2.2 := fun _ h => nomatch h
/-- a class that the exception in hand is asked for -/
structure XtE (K : PySem.W.Frag) (mg : Str → Option Value) (Es : List (Addr × List Str)) (T : List (Nat × Str × Bool)) (t : Str) : Prop where
  ex : ∃ c u v, ClsV c u ∧ RelV c v ∧ (mg t = some v ∨ (mg t = none ∧ bootBuiltins t = some v)) ∧ ∀ e, e ∈ T → e.2.1 = t → ∀ C ns, Es[e.1]? = some (C, ns) → ExcC K C ∧ PySem.W.kitOne K (.ref C) u = some e.2.2
theorem xt_one {Es : List (Addr × List Str)} {v : Value} {x : Str} {e : Nat × Str × Bool} {C0 : Addr} {n0 : List Str} {T : List (Nat × Str × Bool)} (h1 : Es[e.1]? = some (C0, n0)) (h : ExcC K C0) (h2 : PySem.W.kitOne K (.ref C0) v = some e.2.2)
    (r : ∀ e, e ∈ T → e.2.1 = x → ∀ C ns, Es[e.1]? = some (C, ns) → ExcC K C ∧ PySem.W.kitOne K (.ref C) v = some e.2.2) : ∀ e', e' ∈ e :: T → e'.2.1 = x → ∀ C ns, Es[e'.1]? = some (C, ns) → ExcC K C ∧ PySem.W.kitOne K (.ref C) v = some e'.2.2 := fun y m q C ns hC => by
  rcases List.mem_cons.mp m with rfl | m
  · rw [h1] at hC; cases hC; exact ⟨h, h2⟩
  · exact r y m q C ns hC
theorem xt_skip {Es : List (Addr × List Str)} {v : Value} {x : Str} {e : Nat × Str × Bool} {T : List (Nat × Str × Bool)} (h1 : e.2.1 ≠ x)
    (r : ∀ e, e ∈ T → e.2.1 = x → ∀ C ns, Es[e.1]? = some (C, ns) → ExcC K C ∧ PySem.W.kitOne K (.ref C) v = some e.2.2) : ∀ e', e' ∈ e :: T → e'.2.1 = x → ∀ C ns, Es[e'.1]? = some (C, ns) → ExcC K C ∧ PySem.W.kitOne K (.ref C) v = some e'.2.2 := fun y m q C ns hC => by
  rcases List.mem_cons.mp m with rfl | m
  · exact absurd q h1
  · exact r y m q C ns hC
theorem xt_nil {Es : List (Addr × List Str)} {v : Value} {x : Str} : ∀ e, e ∈ ([] : List (Nat × Str × Bool)) → e.2.1 = x → ∀ C ns, Es[e.1]? = some (C, ns) → ExcC K C ∧ PySem.W.kitOne K (.ref C) v = some e.2.2 := fun _ h => nomatch h
/-- a class that is raised -/
def XmE (K : PySem.W.Frag) (mg : Str → Option Value) (Es : List (Addr × List Str)) (e : Str × Nat) : Prop := ∃ C, Es[e.2]? = some (C, []) ∧ mg e.1 = some (.ref C) ∧ PySem.W.keepIn K (.ref C) = true ∧ PySem.W.excIn K C [.type "ValueError", .type "Exception", .type "BaseException", .type "object"] "ValueError.__new__" = true ∧
    PySem.W.subIn K (.ref C) (.type "BaseException") = some true ∧ PySem.W.typeIn K (.ref C) = some (.type "type")
theorem hp_mk {P : PD} {S : Sx} {Cs : List Addr} {Es : List (Addr × List Str)} {XT : List (Nat × Str × Bool)} {T : List (Ty × Str × Bool)} {N : List (Nat × Ty)} (hp : pC P S = true) (hi : P.isi = isiOf T) (hC : AllC K S.flds Cs)
    (defs : ∀ d, d ∈ P.defs → ∃ (f : Addr) (qual : Str) (st : Stmt), mg d.x = some (.ref f) ∧ HD K (S.on d st) d f d.x qual st)
    (mks : ∀ t, t ∈ P.cls → ∃ (C f : Addr) (x qual : Str) (st : Stmt), mg t.x = some (.ref C) ∧ Mk K C f ∧ Cs[t.c]? = some C ∧ HD K (S.on t.d st) t.d f x qual st)
    (mths : ∀ t, t ∈ P.mths → ∃ (C f : Addr) (qual : Str) (st : Stmt), Cs[t.1]? = some C ∧ Meth K C t.2.x f ∧ HD K (S.on t.2 st) t.2 f t.2.x qual st)
    (glos : ∀ x, x ∈ S.glos → ∃ (u : Value) (v : V) (d : Dt), mg x = some u ∧ RelV v u ∧ (∀ F A, Rep ⟨K, fun n => Cs[n]?, fun n => Es[n]?, none⟩ F A v d) ∧ P.glob x = some d)
    (tys : ∀ X : Cx, X.mg = mg → ∀ t, t ∈ S.tys → ∃ c u v, ClsV c u ∧ RelV c v ∧ (X.mg t = some v ∨ (X.mg t = none ∧ bootBuiltins t = some v)) ∧ ∀ ty b, isiOf T ty t = some b → ∃ tv, tyVal ⟨K, fun n => Cs[n]?, fun n => Es[n]?, none⟩ ty = some tv ∧ PySem.W.kitOne K tv u = some b)
    (blts : ∀ x, x ∈ S.blts → mg x = none) (hN : P.nf = nfOf N) (own : ∀ t, t ∈ P.mths → t.2.x = "__eq__" → ∀ C, Cs[t.1]? = some C → OwnN K C)
    (nfs : ∀ e, e ∈ N → ∀ C tv, Cs[e.1]? = some C → tyVal ⟨K, fun n => Cs[n]?, fun n => Es[n]?, none⟩ e.2 = some tv → PySem.W.notFirst K C tv = true)
    (hx : P.xis = xisOf XT) (xns : ∀ x, x ∈ S.xns → XnE K mg Es XT x) (xmk : ∀ e, e ∈ S.xmk → XmE K mg Es e) (xts : ∀ t, t ∈ S.xts → XtE K mg Es XT t) : HP ⟨K, fun n => Cs[n]?, fun n => Es[n]?, none⟩ P S K mg := by
  obtain ⟨h1, h2, h3, h4, h5, h6⟩ := pC_ok hp
  exact {
    kk := rfl
    defs := defs
    mks := fun t ht => let ⟨C, f, x, qual, st, a, b, c, d⟩ := mks t ht; ⟨C, f, x, qual, st, a, b, c, d, h6 t ht⟩
    mths := mths
    sd := h1, nd := h2, sm := h3, nm := h4, st := h5
    cls := fun c C e => (allC_get hC e).cl
    ins := fun c C e => (allC_get hC e).it
    flds := fun f hf c C e => (allC_get hC e).na f hf
    glos := glos
    tys := fun X _ e t ht => by rw [hi]; exact tys X e t ht
    blts := blts
    own := fun c C hc hC => by
      have hc : (ixOf2 c "__eq__" P.mnames).isSome = true := hc
      obtain ⟨i, hi⟩ := Option.isSome_iff_exists.mp hc
      have e := ixOf2_ok hi
      unfold PD.mnames at e
      simp only [List.getElem?_map, Option.map_eq_some_iff, Prod.mk.injEq] at e
      obtain ⟨t, et, rfl, ex⟩ := e
      exact own t (List.mem_of_getElem? et) ex C hC
    nf := fun c C ty tv h hC hv => by
      rw [hN] at h
      unfold nfOf at h
      have m : (c, ty) ∈ N := by simpa using h
      exact nfs _ m C tv hC hv
    xns := fun x m => by
      obtain ⟨v, hv, q⟩ := (xns x m).ex
      refine ⟨v, hv, fun c C ns b hC hb => ?_⟩
      rw [hx] at hb
      exact q _ (xisOf_mem hb) rfl C ns hC
    xmk := fun x c m => xmk (x, c) m
    xa := rfl
    xts := fun t m => by
      obtain ⟨c, u, v, h1, h2, h3, q⟩ := (xts t m).ex
      refine ⟨c, u, v, h1, h2, h3, fun n C ns b hC hb => ?_⟩
      rw [hx] at hb
      exact q _ (xisOf_mem hb) rfl C ns hC }
/-- a global's datum -/
theorem glo_int {P : PD} {G : Gx} {h : Heap} {x : Str} {i : Int} {t : Tok} (X : K.In h) (N : h.Ns mainGlobals mg) (a : PySem.W.nsIn K mainGlobals x = some (some (.int i t))) (e : P.glob x = some (.int i)) : ∃ (u : Value) (v : V) (d : Dt), mg x = some u ∧ RelV v u ∧ (∀ F A, Rep G F A v d) ∧ P.glob x = some d :=
  ⟨_, .int i, _, PySem.W.mg_of X N a, ⟨t, rfl⟩, fun _ _ => .int i, e⟩
theorem glo_str {P : PD} {G : Gx} {h : Heap} {x y : Str} {t : Tok} (X : K.In h) (N : h.Ns mainGlobals mg) (a : PySem.W.nsIn K mainGlobals x = some (some (.str y t))) (e : P.glob x = some (.str y)) : ∃ (u : Value) (v : V) (d : Dt), mg x = some u ∧ RelV v u ∧ (∀ F A, Rep G F A v d) ∧ P.glob x = some d :=
  ⟨_, .str y, _, PySem.W.mg_of X N a, ⟨t, rfl⟩, fun _ _ => .str y, e⟩
theorem glo_tup {P : PD} {G : Gx} {h : Heap} {x : Str} {a : Addr} {od : Option Addr} {its : Array Value} {n : Nat} {sl : Array (Option Value)} {vs : List V} {ds : List Dt} (X : K.In h) (N : h.Ns mainGlobals mg) (hk : G.K = K) (e : PySem.W.nsIn K mainGlobals x = some (some (.ref a)))
    (l : K.lookup a = some ⟨.type "tuple", od, .seq its n, sl⟩) (hz : its.size ≤ 1000) (hv : Vals vs its.toList) (hr : ∀ F A, RepL G F A vs ds) (eg : P.glob x = some (.tup ds)) : ∃ (u : Value) (v : V) (d : Dt), mg x = some u ∧ RelV v u ∧ (∀ F A, Rep G F A v d) ∧ P.glob x = some d :=
  ⟨_, .ref a, _, PySem.W.mg_of X N e, rfl, fun F A => .tup (.inr ⟨_, its, n, by rw [hk]; exact l, rfl, rfl, Nat.le_trans hz (by decide), hv⟩) (hr F A), eg⟩
end
end Mq

/-! MqSim: trees run. -/
namespace Mq
open PySem L2
section
variable {L : Fns} {s t : SS} {a b : Type} {S : Type}
@[simp] theorem r_ok {x : a} {u : S} {f : a → S → Out S b} : (Out.ok x u).bind f = f x u := rfl
@[simp] theorem r_no {f : a → S → Out S b} : (Out.no : Out S a).bind f = .no := rfl
@[simp] theorem r_ex {c : Nat} {fs : List Dt} {u : S} {f : a → S → Out S b} : (Out.ex c fs u : Out S a).bind f = .ex c fs u := rfl
@[simp] theorem r_fix {x : a} {f : SS → SS} : (Out.ok x s).fix f = .ok x (f s) := rfl
@[simp] theorem r_nox {x : a} {u : S} : (Out.ok x u).noex = .ok x u := rfl
@[simp] theorem r_lift {x : RV} : lift (some x) s = .ok x s := rfl
@[simp] theorem r_liftB {x : Bool} : liftB (some x) s = .ok (.v (.bl x)) s := rfl
@[simp] theorem r_asB {x : Bool} : asB (.v (.bl x)) s = .ok x s := rfl
@[simp] theorem r_asI {x : Int} : asI (.v (.int x)) s = .ok x s := rfl
@[simp] theorem r_val {d : Dt} : val (.v d) s = .ok d s := rfl
@[simp] theorem r_valn {xs : List Dt} : val (.nl xs) s = .ok (.lst xs) s := rfl
@[simp] theorem r_sl {l : List Sl} {st : List MO} {i : Nat} {x : Sl} : (SS.mk l st).set i x = ⟨l.set i x, st⟩ := rfl
@[simp] theorem r_so {l : List Sl} {st : List MO} {i : Nat} {x : MO} : (SS.mk l st).setO i x = ⟨l, st.set i x⟩ := rfl
@[simp] theorem r_cst {d : Dt} : ev L (.cst d) s = .ok (.v d) s := by rw [ev]
@[simp] theorem r_varV {i : Nat} {d : Dt} (h : s.sl[i]? = some (.v d)) : ev L (.var i) s = .ok (.v d) s := by rw [ev, h]
@[simp] theorem r_varO {i : Nat} {xs : List Dt} (h : s.sl[i]? = some (.ol xs)) : ev L (.var i) s = .ok (.bw i) s := by rw [ev, h]
@[simp] theorem r_varK {i : Nat} {xs : List Dt} (h : s.sl[i]? = some (.lk xs)) : ev L (.var i) s = .ok (.bw i) s := by rw [ev, h]
@[simp] theorem r_varI {i c : Nat} {ns : List Str} {vs : List Dt} (h : s.sl[i]? = some (.oi c ns vs)) : ev L (.var i) s = .ok (.bw i) s := by rw [ev, h]
/-! ### expressions -/
@[simp] theorem e_glo {x : Str} {d : Dt} (h : L.glob x = some d) : ev L (.glo x) s = .ok (.v d) s := by rw [ev, h]
@[simp] theorem e_bin {op : Bop} {x y : ME} : ev L (.bin op x y) s = (ev L x s).bind fun x s => (ev L y s).bind fun y s => lift (binV op x y s) s := by rw [ev]
def negF (x : RV) (s : SS) : Out SS RV := match x with | .v (.int i) => .ok (.v (.int (-i))) s | _ => .no
@[simp] theorem negF_i {i : Int} : negF (.v (.int i)) s = .ok (.v (.int (-i))) s := rfl
@[simp] theorem e_neg {x : ME} : ev L (.neg x) s = (ev L x s).bind negF := by rw [ev]; rfl
@[simp] theorem e_cmp {op : Cop} {x y : ME} : ev L (.cmp op x y) s = (ev L x s).bind fun x s => (ev L y s).bind fun y s => liftB (cmpV op x y s) s := by rw [ev]
def cmp2F (L : Fns) (o2 : Cop) (c : ME) (y : RV) (b : Option Bool) (s : SS) : Out SS RV := match b with
    | some true => (ev L c s).bind fun z s => liftB (cmpV o2 y z s) s
    | some false => .ok (.v (.bl false)) s
    | none => .no
@[simp] theorem cmp2F_t {o2 : Cop} {c : ME} {y : RV} : cmp2F L o2 c y (some true) s = (ev L c s).bind fun z s => liftB (cmpV o2 y z s) s := rfl
@[simp] theorem cmp2F_f {o2 : Cop} {c : ME} {y : RV} : cmp2F L o2 c y (some false) s = .ok (.v (.bl false)) s := rfl
@[simp] theorem e_cmp2 {o1 o2 : Cop} {x y z : ME} : ev L (.cmp2 o1 o2 x y z) s = (ev L x s).bind fun x s => (ev L y s).bind fun y s => cmp2F L o2 z y (cmpV o1 x y s) s := by
  rw [ev]
  cases ev L x s with
  | ok x s =>
    show (ev L y s).bind _ = (ev L y s).bind _
    cases ev L y s with
    | ok y s =>
      show _ = cmp2F L o2 z y (cmpV o1 x y s) s
      unfold cmp2F
      cases h : cmpV o1 x y s with
      | none => simp only [r_ok, h]
      | some b => cases b <;> simp only [r_ok, h]
    | _ => rfl
  | _ => rfl
@[simp] theorem e_bool {o : Bool} {es : List ME} : ev L (.bool o es) s = evB L o es s := by rw [ev]
@[simp] theorem e_b1 {o : Bool} {x : ME} : evB L o [x] s = ev L x s := by rw [evB]
@[simp] theorem e_b2 {o : Bool} {x y : ME} {r : List ME} : evB L o (x :: y :: r) s = (ev L x s).bind fun x s => (asB x s).bind fun k s => if k == o then evB L o (y :: r) s else .ok (.v (.bl k)) s := evB_cons
@[simp] theorem e_not {x : ME} : ev L (.not x) s = (ev L x s).bind fun x s => (asB x s).bind fun b s => .ok (.v (.bl (!b))) s := by rw [ev]
@[simp] theorem e_ite {c x y : ME} : ev L (.ite c x y) s = (ev L c s).bind fun c s => (asB c s).bind fun k s => if k then ev L x s else ev L y s := by rw [ev]
@[simp] theorem e_tup {es : List ME} : ev L (.tup es) s = (evs L es s).bind fun ds s => if ds.length ≤ sizeLine then .ok (.v (.tup ds)) s else .no := by rw [ev]
@[simp] theorem e_lst {es : List ME} : ev L (.lst es) s = (evs L es s).bind fun ds s => if ds.length ≤ sizeLine then .ok (.nl ds) s else .no := by rw [ev]
@[simp] theorem e_idx {x y : ME} : ev L (.idx x y) s = (ev L x s).bind fun x s => (ev L y s).bind fun y s => lift (idxV x y s) s := by rw [ev]
@[simp] theorem e_slc {x : ME} {lo hi : Option ME} : ev L (.slc x lo hi) s = (ev L x s).bind fun x s => (evO L lo s).bind fun l s => (evO L hi s).bind fun h s => lift (slcV x l h s) s := by rw [ev]
@[simp] theorem e_o0 : evO L none s = .ok none s := by rw [evO]
def oF (x : RV) (s : SS) : Out SS (Option Int) := match x with | .v (.int i) => .ok (some i) s | _ => .no
@[simp] theorem oF_i {i : Int} : oF (.v (.int i)) s = .ok (some i) s := rfl
@[simp] theorem e_o1 {x : ME} : evO L (some x) s = (ev L x s).bind oF := by rw [evO]; rfl
@[simp] theorem e_fld {x : ME} {f : Str} : ev L (.fld x f) s = (ev L x s).bind fun x s => lift ((fldV x f s).map .v) s := by rw [ev]
@[simp] theorem e_call {x : Str} {es : List ME} : ev L (.call x es) s = (evs L es s).bind fun ds s => liftF (L.call x ds s.st) s := by rw [ev]
@[simp] theorem e_make {x : Str} {es : List ME} : ev L (.make x es) s = (evs L es s).bind fun ds s => liftF (L.make x ds s.st) s := by rw [ev]
@[simp] theorem e_bif1 {x : Str} {e : ME} : ev L (.bif x [e]) s = (ev L e s).bind fun r s => lift (bif1 x r s) s := by rw [ev]
@[simp] theorem e_bif2 {x : Str} {e f : ME} : ev L (.bif x [e, f]) s = (ev L e s).bind fun r s => (val r s).bind fun d s => (ev L f s).bind fun r s => (val r s).bind fun d' s => lift (bif2 x d d') s := by rw [ev]
def isiF (L : Fns) (t : Str) (x : RV) (s : SS) : Out SS RV := match (tyV x s).bind fun ty => L.isi ty t with
    | some b => .ok (.v (.bl b)) s
    | none => .no
@[simp] theorem isiF_y {t : Str} {x : RV} {ty : Ty} {b : Bool} (h : tyV x s = some ty) (h2 : L.isi ty t = some b) : isiF L t x s = .ok (.v (.bl b)) s := by
  unfold isiF
  rw [h]
  simp only [Option.bind_some, h2]
@[simp] theorem e_isi {x : ME} {t : Str} : ev L (.isi x t) s = (ev L x s).bind (isiF L t) := by rw [ev]; rfl
def revF (x : RV) (s : SS) : Out SS RV := match x with
    | .v (.tup xs) => .ok (.v (.tup xs.reverse)) s
    | x => match rdl s x with
      | some xs => .ok (.nl xs.reverse) s
      | none => .no
@[simp] theorem e_rev {x : ME} : ev L (.rev x) s = (ev L x s).bind revF := by rw [ev]; rfl
@[simp] theorem revF_t {xs : List Dt} : revF (.v (.tup xs)) s = .ok (.v (.tup xs.reverse)) s := rfl
@[simp] theorem revF_n {xs : List Dt} : revF (.nl xs) s = .ok (.nl xs.reverse) s := rfl
@[simp] theorem revF_l {xs : List Dt} : revF (.v (.lst xs)) s = .ok (.nl xs.reverse) s := rfl
theorem revF_b {i : Nat} {xs : List Dt} (h : s.sl[i]? = some (.ol xs)) : revF (.bw i) s = .ok (.nl xs.reverse) s := by
  unfold revF rdl rdt
  simp only [h]
def allocF (x : RV) (s : SS) : Out SS RV := match x with
    | .nl xs => .ok (.v (.ref s.st.length)) { s with st := s.st ++ [.l xs] }
    | _ => .no
@[simp] theorem allocF_n {xs : List Dt} : allocF (.nl xs) s = .ok (.v (.ref s.st.length)) { s with st := s.st ++ [.l xs] } := rfl
@[simp] theorem e_alloc {x : ME} : ev L (.alloc x) s = (ev L x s).bind allocF := by rw [ev]; rfl
def bmeF (L : Fns) (m : Str) (e : ME) (r : RV) (s : SS) : Out SS RV := match rdt s r with
    | none => .no
    | some _ => (ev L e s).bind fun y s => (val y s).bind fun d s => (wrL r (mthF m d) s).bind fun d s => .ok (.v d) s
theorem bmeF_y {m : Str} {e : ME} {r : RV} {xs : List Dt} (h : rdt s r = some xs) : bmeF L m e r s = (ev L e s).bind fun y s => (val y s).bind fun d s => (wrL r (mthF m d) s).bind fun d s => .ok (.v d) s := by
  unfold bmeF; rw [h]
@[simp] theorem e_bme {x e : ME} {m : Str} : ev L (.bme x m [e]) s = (ev L x s).bind (bmeF L m e) := by rw [ev]; rfl
@[simp] theorem e_s0 : evs L [] s = .ok [] s := by rw [evs]
@[simp] theorem e_s1 {e : ME} {r : List ME} : evs L (e :: r) s = (ev L e s).bind fun x s => (val x s).bind fun d s => (evs L r s).bind fun ds s => .ok (d :: ds) s := by rw [evs]
@[simp] theorem r_liftF {v : RV} {l : List Sl} {st st' : List MO} : liftF (.ok v st') ⟨l, st⟩ = .ok v ⟨l, st'⟩ := rfl
/-! ### statements -/
def thenS (k : SS → Out SS Fl) (f : Fl) (s : SS) : Out SS Fl := match f with | .nx => k s | f => .ok f s
@[simp] theorem thenS_nx {k : SS → Out SS Fl} : thenS k .nx s = k s := rfl
@[simp] theorem thenS_ret {k : SS → Out SS Fl} {r : RV} : thenS k (.ret r) s = .ok (.ret r) s := rfl
@[simp] theorem thenS_bk {k : SS → Out SS Fl} : thenS k .bk s = .ok .bk s := rfl
@[simp] theorem thenS_ct {k : SS → Out SS Fl} : thenS k .ct s = .ok .ct s := rfl
@[simp] theorem x_nil : Mq.execs L [] s = .ok .nx s := by rw [Mq.execs]
@[simp] theorem x_cons {m : MS} {r : List MS} : Mq.execs L (m :: r) s = (Mq.exec L m s).bind (thenS (Mq.execs L r)) := by
  rw [Mq.execs]
  cases Mq.exec L m s with
  | ok f t => cases f <;> rfl
  | _ => rfl
@[simp] theorem toSl_n {xs : List Dt} : toSl (.nl xs) s = .ok (.ol xs) s := rfl
@[simp] theorem toSl_v {d : Dt} : toSl (.v d) s = .ok (.v d) s := rfl
@[simp] theorem toRet_v {d : Dt} : toRet (.v d) s = .ok (.v d) s := rfl
@[simp] theorem toRet_n {xs : List Dt} : toRet (.nl xs) s = .ok (.nl xs) s := rfl
@[simp] theorem x_asg {i : Nat} {e : ME} : Mq.exec L (.asg i e) s = (ev L e s).bind fun r s => (toSl r s).bind fun x s => .ok .nx (s.set i x) := by rw [Mq.exec]
def parF (i j : Nat) (ds : List Dt) (s : SS) : Out SS Fl := match ds with
    | [x, y] => .ok .nx ((s.set i (.v x)).set j (.v y))
    | _ => .no
@[simp] theorem parF_2 {i j : Nat} {x y : Dt} : parF i j [x, y] s = .ok .nx ((s.set i (.v x)).set j (.v y)) := rfl
@[simp] theorem x_par {i j : Nat} {e f : ME} : Mq.exec L (.par i j e f) s = (evs L [e, f] s).bind (parF i j) := by rw [Mq.exec]; rfl
@[simp] theorem x_unp {t : Tg} {e : ME} : Mq.exec L (.unp t e) s = (ev L e s).bind fun r s => (val r s).bind fun d s => (bindT t d s).bind fun _ s => .ok .nx s := by rw [Mq.exec]
@[simp] theorem x_seti {x y e : ME} : Mq.exec L (.seti x y e) s = (ev L e s).bind fun v s => (val v s).bind fun d s => (ev L x s).bind fun r s => (ev L y s).bind fun k s => (asI k s).bind fun k s => (wrL r (setF k d) s).bind fun _ s => .ok .nx s := by rw [Mq.exec]
@[simp] theorem x_setf {x e : ME} {f : Str} : Mq.exec L (.setf x f e) s = (ev L e s).bind fun y s => (val y s).bind fun d s => (ev L x s).bind fun r s => (wrF r f d s).bind fun _ s => .ok .nx s := by rw [Mq.exec]
@[simp] theorem x_expr {e : ME} : Mq.exec L (.expr e) s = (ev L e s).bind fun _ s => .ok .nx s := by rw [Mq.exec]
@[simp] theorem x_ret {e : ME} : Mq.exec L (.ret e) s = (ev L e s).bind fun r s => (toRet r s).bind fun r s => .ok (.ret r) s := by rw [Mq.exec]
@[simp] theorem x_retN : Mq.exec L .retN s = .ok (.ret (.v .non)) s := by rw [Mq.exec]
@[simp] theorem x_brk : Mq.exec L .brk s = .ok .bk s := by rw [Mq.exec]
@[simp] theorem x_cont : Mq.exec L .cont s = .ok .ct s := by rw [Mq.exec]
@[simp] theorem x_pass : Mq.exec L .pass s = .ok .nx s := by rw [Mq.exec]
@[simp] theorem x_ifs {c : ME} {x y : List MS} : Mq.exec L (.ifs c x y) s = (ev L c s).bind fun v s => (asB v s).bind fun k s => if k then Mq.execs L x s else Mq.execs L y s := by rw [Mq.exec]
@[simp] theorem x_rais {x : Str} {c : Nat} : Mq.exec L (.rais x c) s = .ex c [] s := by rw [Mq.exec]
def tryF (L : Fns) (hs : MH) (o : Out SS Fl) : Out SS Fl := match o with
  | .ok f s => .ok f s
  | .ex c fs s => Mq.execH L hs c fs s
  | .no => .no
@[simp] theorem tryF_ok {hs : MH} {f : Fl} : tryF L hs (.ok f s) = .ok f s := rfl
@[simp] theorem tryF_ex {hs : MH} {c : Nat} {fs : List Dt} : tryF L hs (.ex c fs s) = Mq.execH L hs c fs s := rfl
@[simp] theorem x_try {b : List MS} {hs : MH} : Mq.exec L (.tryx b hs) s = tryF L hs (Mq.execs L b s) := by rw [Mq.exec]; rfl
theorem h_yes {x : Str} {b : List MS} {r : MH} {c : Nat} {fs : List Dt} (h : L.xis c x = some true) : Mq.execH L (.cons x b r) c fs s = (Mq.execs L b s).noex := by rw [Mq.execH, h]
theorem h_not {x : Str} {b : List MS} {r : MH} {c : Nat} {fs : List Dt} (h : L.xis c x = some false) : Mq.execH L (.cons x b r) c fs s = Mq.execH L r c fs s := by rw [Mq.execH, h]
@[simp] theorem e_trg {x : ME} : ev L (.trg x) s = (ev L x s).bind fun x s => match x with
    | .v (.int j) => if rngOk j && decide (j ≤ 1000000) then .ok (.v (.tup (rngI 0 j))) s else .no
    | _ => .no := by rw [ev]; try rfl
@[simp] theorem r_liftFx {c : Nat} {fs : List Dt} {l : List Sl} {st st' : List MO} : liftF (.ex c fs st') ⟨l, st⟩ = .ex c fs ⟨l, st'⟩ := rfl
theorem x_whl {n : Nat} {c : ME} {b : List MS} : Mq.exec L (.whl n c b) s = whN (fun s => (ev L c s).bind asB) (fun s => Mq.execs L b s) n s := by rw [Mq.exec]
theorem x_for {t : Tg} {i : MI} {b : List MS} : Mq.exec L (.forr t i b) s = (evI L i s).bind fun iv s => (forL (chk iv.ys iv.src) (fun s x => bindT t x s) (fun s => Mq.execs L b s) iv.xs (lock iv.src s)).fix fun s' => unlock iv.src s s' := by rw [Mq.exec]
@[simp] theorem i_rng {ms : List ME} {n : Int} {t : SS} (h : evs L ms s = .ok [.int n] t) (hn : rngOk n = true) : evI L (.rng ms) s = .ok ⟨rngI 0 n, .v .non, []⟩ t := by rw [evI, h]; simp [hn]
@[simp] theorem fin_nx : finD (.ok .nx s) = .ok (.v .non) s.st := rfl
@[simp] theorem fin_ex {c : Nat} {fs : List Dt} : finD (.ex c fs s) = .ex c fs s.st := rfl
@[simp] theorem fin_ret {r : RV} : finD (.ok (.ret r) s) = .ok r s.st := rfl
/-- a loop over numbers whose body keeps P -/
theorem for_inv {tg : SS → Dt → Out SS Unit} {b : SS → Out SS Fl} {ck : SS → Bool} (P : Nat → SS → Prop) : ∀ (xs : List Dt) (i : Nat) (s : SS), P i s →
    (∀ (j : Nat) (x : Dt) (s : SS), i ≤ j → xs[j - i]? = some x → P j s → ∃ s1 s2, tg s x = .ok () s1 ∧ (b s1 = .ok .nx s2 ∨ b s1 = .ok .ct s2) ∧ ck s2 = true ∧ P (j + 1) s2) → ∃ s', forL ck tg b xs s = .ok .nx s' ∧ P (i + xs.length) s'
  | [], i, s, h, _ => ⟨s, by rw [forL], h⟩
  | x :: xs, i, s, h, st => by
    obtain ⟨s1, s2, e1, e2, e3, p⟩ := st i x s (Nat.le_refl _) (by simp) h
    obtain ⟨s', e, q⟩ := for_inv P xs (i + 1) s2 p fun j y s hj hy hp => st j y s (by omega) (by
      have : j - i = (j - (i + 1)) + 1 := by omega
      rw [this, List.getElem?_cons_succ]; exact hy) hp
    refine ⟨s', ?_, by rw [List.length_cons]; have : i + (xs.length + 1) = i + 1 + xs.length := by omega
                       rw [this]; exact q⟩
    rw [forL, e1, r_ok]
    rcases e2 with e2 | e2 <;> rw [e2, r_ok] <;> simp only [e3, if_true] <;> exact e
end
end Mq

/-! MqVal: operators on data, by simp. -/
namespace Mq
open PySem L2
section
variable {L : Fns} {s : SS} {i j : Int}
@[simp] theorem v_add : binV .add (.v (.int i)) (.v (.int j)) s = some (.v (.int (i + j))) := rfl
@[simp] theorem v_sub : binV .sub (.v (.int i)) (.v (.int j)) s = some (.v (.int (i - j))) := rfl
theorem v_mulO (h : bitsOk i j = true) : binV .mul (.v (.int i)) (.v (.int j)) s = some (.v (.int (i * j))) := by
  show (if bitsOk i j = true then some (i * j) else none).map (fun k => RV.v (Dt.int k)) = _
  rw [if_pos h]; rfl
@[simp] theorem v_mod (h : 0 < j) : binV .mod (.v (.int i)) (.v (.int j)) s = some (.v (.int (i % j))) := by
  show (if 0 < j then some (i % j) else none).map (fun k => RV.v (Dt.int k)) = _
  rw [if_pos h]; rfl
theorem v_divO (h : smallDiv j = true) : binV .fdiv (.v (.int i)) (.v (.int j)) s = some (.v (.int (i / j))) := by
  show (if smallDiv j = true then some (i / j) else none).map (fun k => RV.v (Dt.int k)) = _
  rw [if_pos h]; rfl
theorem v_powO (h : powOk i j = true) : binV .pow (.v (.int i)) (.v (.int j)) s = some (.v (.int (i ^ j.toNat))) := by
  show (if powOk i j = true then some (i ^ j.toNat) else none).map (fun k => RV.v (Dt.int k)) = _
  rw [if_pos h]; rfl
/-- numbers that are not great -/
def Sm (i : Int) : Prop := i.natAbs < 2 ^ 4000
theorem log_lt {n m : Nat} (hm : 0 < m) (h : n < 2 ^ m) : n.log2 < m := by
  by_cases z : n = 0
  · subst z; simpa [Nat.log2_zero] using hm
  · exact (Nat.log2_lt z).mpr h
theorem Sm.bits (h1 : Sm i) (h2 : Sm j) : bitsOk i j = true := by
  have a := log_lt (by decide) h1
  have b := log_lt (by decide) h2
  simp only [bitsOk, decide_eq_true_eq]; omega
theorem Sm.div (h1 : Sm j) (h2 : 0 < j) : smallDiv j = true := by
  have a := log_lt (by decide) h1
  simp only [smallDiv, Bool.and_eq_true, decide_eq_true_eq]; omega
theorem two40 : (1099511627776 : Nat) ≤ 2 ^ 4000 := by
  have : (2 : Nat) ^ 40 ≤ 2 ^ 4000 := Nat.pow_le_pow_right (by decide) (by decide)
  exact this
theorem Sm.of40 (h : i.natAbs < 1099511627776) : Sm i := Nat.lt_of_lt_of_le h two40
@[simp] theorem v_mul (h1 : Sm i) (h2 : Sm j) : binV .mul (.v (.int i)) (.v (.int j)) s = some (.v (.int (i * j))) := v_mulO (h1.bits h2)
@[simp] theorem v_div (h1 : Sm j) (h2 : 0 < j) : binV .fdiv (.v (.int i)) (.v (.int j)) s = some (.v (.int (i / j))) := v_divO (h1.div h2)
@[simp] theorem c_lt : cmpV .lt (.v (.int i)) (.v (.int j)) s = some (decide (i < j)) := rfl
@[simp] theorem c_le : cmpV .le (.v (.int i)) (.v (.int j)) s = some (decide (i ≤ j)) := rfl
@[simp] theorem c_gt : cmpV .gt (.v (.int i)) (.v (.int j)) s = some (decide (j < i)) := rfl
@[simp] theorem c_ge : cmpV .ge (.v (.int i)) (.v (.int j)) s = some (decide (j ≤ i)) := rfl
@[simp] theorem c_eq : cmpV .eq (.v (.int i)) (.v (.int j)) s = some (decide (i = j)) := by
  show (if flat 40 (.int i) && flat 40 (.int j) then some (deq (.int i) (.int j)) else none) = _
  simp only [flat, deq, Bool.and_self, if_true, Option.some.injEq]
  by_cases h : i = j <;> simp [h]
@[simp] theorem c_ne : cmpV .ne (.v (.int i)) (.v (.int j)) s = some (decide (i ≠ j)) := by
  show (if flat 40 (.int i) && flat 40 (.int j) then some (!deq (.int i) (.int j)) else none) = _
  simp only [flat, deq, Bool.and_self, if_true, Option.some.injEq]
  by_cases h : i = j <;> simp [h]
/-- data that are plain -/
theorem c_eqD {x y : Dt} (hx : flat 40 x = true) (hy : flat 40 y = true) (rx : rdD s (.v x) = some x) (ry : rdD s (.v y) = some y) : cmpV .eq (.v x) (.v y) s = some (deq x y) := by
  show (match rdD s (.v x), rdD s (.v y) with
    | some x, some y => if flat 40 x && flat 40 y then some (deq x y) else none
    | _, _ => none) = _
  rw [rx, ry]; simp [hx, hy]
theorem c_neD {x y : Dt} (hx : flat 40 x = true) (hy : flat 40 y = true) (rx : rdD s (.v x) = some x) (ry : rdD s (.v y) = some y) : cmpV .ne (.v x) (.v y) s = some (!deq x y) := by
  show (match rdD s (.v x), rdD s (.v y) with
    | some x, some y => if flat 40 x && flat 40 y then some (!deq x y) else none
    | _, _ => none) = _
  rw [rx, ry]; simp [hx, hy]
/-! ### built-ins -/
@[simp] theorem b_len {x : RV} : bif1 "len" x s = bLen x s := rfl
@[simp] theorem b_abs {x : RV} : bif1 "abs" x s = bAbs x := rfl
@[simp] theorem b_int {x : RV} : bif1 "int" x s = bInt x := rfl
@[simp] theorem b_tup {x : RV} : bif1 "tuple" x s = bTup x s := rfl
@[simp] theorem b_lst {x : RV} : bif1 "list" x s = (rds s x).map fun xs => .nl xs := rfl
@[simp] theorem b_all {x : RV} : bif1 "all" x s = ((rdl s x).bind allBls).map fun bs => .v (.bl (bs.all id)) := rfl
theorem rds_rdl {x : RV} {xs : List Dt} (h : rdl s x = some xs) : rds s x = some xs := by
  cases x with
  | nl ys => exact h
  | bw i => exact h
  | v d => cases d <;> first | exact h | (simp [rdl, rdt] at h)
@[simp] theorem b_sum {x : RV} : bif1 "sum" x s = ((rds s x).bind allInts).map fun ns => .v (.int ns.sum) := rfl
@[simp] theorem b_min {x y : Int} : bif2 "min" (.int x) (.int y) = some (.v (.int (if y < x then y else x))) := rfl
@[simp] theorem b_max {x y : Int} : bif2 "max" (.int x) (.int y) = some (.v (.int (if y > x then y else x))) := rfl
@[simp] theorem abs_i : bAbs (.v (.int i)) = some (.v (.int (if i < 0 then -i else i))) := rfl
@[simp] theorem int_i : bInt (.v (.int i)) = some (.v (.int i)) := rfl
@[simp] theorem len_t {xs : List Dt} : bLen (.v (.tup xs)) s = some (.v (.int xs.length)) := rfl
@[simp] theorem len_l {xs : List Dt} : bLen (.v (.lst xs)) s = some (.v (.int xs.length)) := rfl
@[simp] theorem len_n {xs : List Dt} : bLen (.nl xs) s = some (.v (.int xs.length)) := rfl
@[simp] theorem tup_n {xs : List Dt} : bTup (.nl xs) s = some (.v (.tup xs)) := rfl
@[simp] theorem tup_l {xs : List Dt} : bTup (.v (.lst xs)) s = some (.v (.tup xs)) := rfl
/-! ### items -/
@[simp] theorem ix_t {xs : List Dt} : idxV (.v (.tup xs)) (.v (.int i)) s = (atI xs i).map .v := rfl
@[simp] theorem ix_l {xs : List Dt} : idxV (.v (.lst xs)) (.v (.int i)) s = (atI xs i).map .v := rfl
@[simp] theorem ix_n {xs : List Dt} : idxV (.nl xs) (.v (.int i)) s = (atI xs i).map .v := rfl
theorem ix_r {n : Nat} {xs : List Dt} (h : s.st[n]? = some (.l xs)) : idxV (.v (.ref n)) (.v (.int i)) s = (atI xs i).map .v := by
  show (match rds s (.v (.ref n)) with | some xs => (atI xs i).map RV.v | none => none) = _
  have e : rds s (.v (.ref n)) = some xs := by show (match s.st[n]? with | some (.l xs) => some xs | _ => none) = _; rw [h]
  rw [e]
theorem wr_r {n : Nat} {xs ys : List Dt} {d : Dt} {f : List Dt → Option (List Dt × Dt)} (h : s.st[n]? = some (.l xs)) (e : f xs = some (ys, d)) : wrL (.v (.ref n)) f s = .ok d (s.setO n (.l ys)) := by
  unfold wrL
  simp only [h, e]
theorem wr_o {n : Nat} {xs ys : List Dt} {d : Dt} {f : List Dt → Option (List Dt × Dt)} (h : s.sl[n]? = some (.ol xs)) (e : f xs = some (ys, d)) : wrL (.bw n) f s = .ok d (s.set n (.ol ys)) := by
  unfold wrL
  simp only [h, e]
@[simp] theorem at_0 {a : Type} {x : a} {r : List a} : atI (x :: r) 0 = some x := by simp [atI, ixN]
theorem at_n {a : Type} {xs : List a} {k : Nat} {x : a} (h : xs[k]? = some x) (e : i = (k : Int)) : atI xs i = some x := by rw [e]; exact atI_nat h
@[simp] theorem at_1 {a : Type} {x y : a} {r : List a} : atI (x :: y :: r) 1 = some y := at_n (k := 1) rfl rfl
@[simp] theorem at_2 {a : Type} {x y z : a} {r : List a} : atI (x :: y :: z :: r) 2 = some z := at_n (k := 2) rfl rfl
@[simp] theorem at_3 {a : Type} {x y z w : a} {r : List a} : atI (x :: y :: z :: w :: r) 3 = some w := at_n (k := 3) rfl rfl
@[simp] theorem at_4 {a : Type} {x y z w u : a} {r : List a} : atI (x :: y :: z :: w :: u :: r) 4 = some u := at_n (k := 4) rfl rfl
theorem sf_n {xs : List Dt} {k : Nat} {y : Dt} (h : k < xs.length) (e : i = (k : Int)) : setF i y xs = some (xs.set k y, .non) := by
  subst e
  unfold setF
  have : ixN xs.length (k : Int) = some k := by
    unfold ixN
    rw [if_pos (by omega), if_pos (by omega)]; simp
  rw [this]; rfl
@[simp] theorem sf_0 {y x : Dt} {r : List Dt} : setF 0 y (x :: r) = some (y :: r, .non) := sf_n (k := 0) (by simp) rfl
@[simp] theorem sf_1 {y x z : Dt} {r : List Dt} : setF 1 y (x :: z :: r) = some (x :: y :: r, .non) := sf_n (k := 1) (by simp) rfl
@[simp] theorem sf_2 {y x z w : Dt} {r : List Dt} : setF 2 y (x :: z :: w :: r) = some (x :: z :: y :: r, .non) := sf_n (k := 2) (by simp) rfl
@[simp] theorem sf_3 {y x z w u : Dt} {r : List Dt} : setF 3 y (x :: z :: w :: u :: r) = some (x :: z :: w :: y :: r, .non) := sf_n (k := 3) (by simp) rfl
@[simp] theorem sf_4 {y x z w u v : Dt} {r : List Dt} : setF 4 y (x :: z :: w :: u :: v :: r) = some (x :: z :: w :: u :: y :: r, .non) := sf_n (k := 4) (by simp) rfl
theorem get_set {a : Type} {l : List a} {n : Nat} {x : a} (h : n < l.length) : (l.set n x)[n]? = some x := List.getElem?_set_self h
@[simp] theorem ix_set {l : List Sl} {st : List MO} {n : Nat} {xs : List Dt} (h : n < st.length) : idxV (.v (.ref n)) (.v (.int i)) ⟨l, st.set n (.l xs)⟩ = (atI xs i).map .v := ix_r (get_set h)
def wrK (o : Option (List Dt × Dt)) (l : List Sl) (st : List MO) (n : Nat) : Out SS Dt := match o with
  | some (ys, d) => .ok d ⟨l, st.set n (.l ys)⟩
  | none => .no
@[simp] theorem wrK_y {ys : List Dt} {d : Dt} {l : List Sl} {st : List MO} {n : Nat} : wrK (some (ys, d)) l st n = .ok d ⟨l, st.set n (.l ys)⟩ := rfl
@[simp] theorem wr_set {l : List Sl} {st : List MO} {n : Nat} {xs : List Dt} {f : List Dt → Option (List Dt × Dt)} (h : n < st.length) : wrL (.v (.ref n)) f ⟨l, st.set n (.l xs)⟩ = wrK (f xs) l st n := by
  cases e : f xs with
  | none =>
    unfold wrL
    have := get_set (x := MO.l xs) h
    simp only [this, e]; rfl
  | some yd =>
    rw [wr_r (ys := yd.1) (d := yd.2) (get_set h) e]
    simp [wrK]
/-- an own list in a slot -/
def wrO (o : Option (List Dt × Dt)) (s : SS) (n : Nat) : Out SS Dt := match o with
  | some (ys, d) => .ok d (s.set n (.ol ys))
  | none => .no
@[simp] theorem wrO_y {ys : List Dt} {d : Dt} {n : Nat} : wrO (some (ys, d)) s n = .ok d (s.set n (.ol ys)) := rfl
@[simp] theorem wr_own {n : Nat} {xs : List Dt} {f : List Dt → Option (List Dt × Dt)} (h : s.sl[n]? = some (.ol xs)) : wrL (.bw n) f s = wrO (f xs) s n := by
  cases e : f xs with
  | none => unfold wrL; simp only [h, e]; rfl
  | some yd => rw [wr_o (ys := yd.1) (d := yd.2) h e]; rfl
theorem set_same {st : List MO} {n : Nat} {mo : MO} (h : st[n]? = some mo) : st = st.set n mo := by
  refine List.ext_getElem? fun j => ?_
  by_cases e : n = j
  · subst e; rw [get_set (List.getElem?_eq_some_iff.mp h).1]; exact h
  · rw [List.getElem?_set_ne e]
theorem at_map {cs : List Int} (h0 : 0 ≤ i) (h1 : i < cs.length) : ∃ c, c ∈ cs ∧ atI (cs.map Dt.int) i = some (.int c) := by
  obtain ⟨k, rfl⟩ := Int.eq_ofNat_of_zero_le h0
  have hk : k < cs.length := by omega
  exact ⟨cs[k], List.getElem_mem hk, at_n (k := k) (by simp [hk]) rfl⟩
/-! ### lists built -/
theorem i_seq {e : ME} {r : RV} {d : Dt} {xs : List Dt} {s1 s2 : SS} (h : ev L e s = .ok r s1) (h2 : val r s1 = .ok d s2) (h3 : rds s2 (.v d) = some xs) : evI L (.seq true e) s = .ok ⟨xs, .v d, xs⟩ s2 := by
  rw [evI, h, r_ok, if_pos rfl, h2, r_ok]
  simp only [h3]
theorem set_set {i : Nat} {x y : Sl} : (s.set i x).set i y = s.set i y := by
  unfold SS.set; simp
theorem lc_map {ck : SS → Bool} {e : SS → Out SS Dt} {i : Nat} {g : Dt → Dt} : ∀ (xs acc : List Dt) (y : Sl), (∀ x, x ∈ xs → e (s.set i (.v x)) = .ok (g x) (s.set i (.v x))) → (∀ z, ck (s.set i z) = true) → acc.length + xs.length ≤ sizeLine →
    ∃ z, lcLoop ck (fun s x => bindT (.n i) x s) [i] (fun s => .ok true s) e xs acc (s.set i y) = .ok (acc ++ xs.map g) (s.set i z)
  | [], acc, y, _, _, _ => ⟨y, by rw [lcLoop]; simp⟩
  | x :: xs, acc, y, he, hc, hl => by
    obtain ⟨z, ez⟩ := lc_map xs (acc ++ [g x]) (.v x) (fun x h => he x (List.mem_cons_of_mem _ h)) hc (by simp at hl ⊢; omega)
    refine ⟨z, ?_⟩
    rw [lcLoop]
    have e1 : bindT (.n i) x (wipeS [i] (s.set i y)) = .ok () (s.set i (.v x)) := by
      rw [bindT]
      show Out.ok () (((s.set i y).set i .un).set i (.v x)) = _
      rw [set_set, set_set]
    rw [e1, r_ok, r_ok, if_pos rfl, he x (List.mem_cons_self ..), r_ok, if_pos ⟨by simp at hl; omega, hc _⟩, ez]
    simp
theorem back_same {i : Nat} {z : Sl} (hi : i < s.sl.length) : backS s [i] (s.set i z) = s := by
  show (s.set i z).set i (s.sl.getD i .un) = s
  rw [set_set]
  unfold SS.set
  have : s.sl.set i (s.sl.getD i .un) = s.sl := by
    refine List.ext_getElem? fun j => ?_
    by_cases e : i = j
    · subst e; rw [List.getElem?_set_self hi, List.getD_eq_getElem?_getD, List.getElem?_eq_getElem hi]; rfl
    · rw [List.getElem?_set_ne e]
  rw [this]
def free1 (s : SS) (i : Nat) : Prop := s.sl[i]? = some .un ∨ ∃ y, s.sl[i]? = some (.v y)
theorem e_lc {el src : ME} {i : Nat} {s1 : SS} {d : Dt} {xs : List Dt} {g : Dt → Dt} (h1 : evI L (.seq true src) s = .ok ⟨xs, .v d, xs⟩ s1) (hd : ∀ n, d ≠ .ref n) (hi : free1 s1 i) (he : ∀ x, x ∈ xs → ev L el (s1.set i (.v x)) = .ok (.v (g x)) (s1.set i (.v x))) (hl : xs.length ≤ sizeLine) :
    ev L (.lc el (.n i) (.seq true src) none [i]) s = .ok (.nl (xs.map g)) s1 := by
  have hlt : i < s1.sl.length := by
    rcases hi with h | ⟨y, h⟩ <;> exact (List.getElem?_eq_some_iff.mp h).1
  rw [lc_ev, h1, r_ok]
  have hw : wipeOk [i] s1 = true := by
    unfold wipeOk
    rcases hi with h | ⟨y, h⟩ <;> simp [h]
  rw [if_pos hw]
  have hself : s1 = s1.set i (s1.sl.getD i .un) := by
    have := back_same (s := s1) (z := s1.sl.getD i .un) hlt
    unfold backS backS at this
    rw [set_set] at this
    exact this.symm
  have ck : ∀ z, chk xs (.v d) (s1.set i z) = true := fun z => by
    cases d <;> first | rfl | exact absurd rfl (hd _)
  obtain ⟨z, ez⟩ := lc_map (s := s1) (ck := chk xs (.v d)) (e := fun s => ((ev L el s).bind val).noex) (i := i) (g := g) xs [] (s1.sl.getD i .un) (fun x hx => by show ((ev L el _).bind val).noex = _; rw [he x hx]; rfl) ck (by simpa using hl)
  have lk : lock (.v d) s1 = s1 := rfl
  have cn : (fun s => (cndM L none s).noex) = fun s : SS => Out.ok true s := rfl
  rw [lk, cn]
  rw [← hself] at ez
  show ((lcLoop (chk xs (.v d)) (fun s x => bindT (.n i) x s) [i] (fun s => .ok true s) (fun s => ((ev L el s).bind val).noex) xs [] s1).fix _).bind _ = _
  rw [ez, r_fix, r_ok, back_same hlt]
  rfl
theorem cut_to {xs : List Dt} {n : Nat} : cutD xs none (some (n : Int)) = xs.take n := by
  unfold cutD
  rw [HT.sIx_none, HT.sIx_nat, List.drop_zero, Nat.sub_zero]
  by_cases h : n ≤ xs.length
  · rw [Nat.min_eq_left h]
  · rw [Nat.min_eq_right (by omega), List.take_of_length_le (Nat.le_refl _), List.take_of_length_le (by omega)]
theorem cut_from {xs : List Dt} {n : Nat} : cutD xs (some (n : Int)) none = xs.drop n := by
  unfold cutD
  rw [HT.sIx_none, HT.sIx_nat]
  by_cases h : n ≤ xs.length
  · rw [Nat.min_eq_left h, List.take_of_length_le (by rw [List.length_drop]; exact Nat.le_refl _)]
  · rw [Nat.min_eq_right (by omega), Nat.sub_self, List.take_zero, List.drop_eq_nil_of_le (by omega)]
end
end Mq

/-! MqVal2: comprehensions with a condition, loops with a break, equality of plain data. -/
namespace Mq
open PySem L2
/-- (beware: sizeLine_eq and then omega make the kernel run deep) -/
theorem sz {n : Nat} (h : n ≤ 100000) : n ≤ sizeLine := Nat.le_trans h (by decide)
section
variable {L : Fns} {s : SS} {i j : Int}
theorem lc_flt {ck : SS → Bool} {c : SS → Out SS Bool} {e : SS → Out SS Dt} {i : Nat} {p : Dt → Bool} {g : Dt → Dt} : ∀ (xs acc : List Dt) (y : Sl), (∀ x, x ∈ xs → c (s.set i (.v x)) = .ok (p x) (s.set i (.v x))) → (∀ x, x ∈ xs → p x = true → e (s.set i (.v x)) = .ok (g x) (s.set i (.v x))) → (∀ z, ck (s.set i z) = true) → acc.length + xs.length ≤ sizeLine →
    ∃ z, lcLoop ck (fun s x => bindT (.n i) x s) [i] c e xs acc (s.set i y) = .ok (acc ++ (xs.filter p).map g) (s.set i z)
  | [], acc, y, _, _, _, _ => ⟨y, by rw [lcLoop]; simp⟩
  | x :: xs, acc, y, hp, he, hc, hl => by
    have e1 : bindT (.n i) x (wipeS [i] (s.set i y)) = .ok () (s.set i (.v x)) := by
      rw [bindT]
      show Out.ok () (((s.set i y).set i .un).set i (.v x)) = _
      rw [set_set, set_set]
    cases hb : p x with
    | true =>
      obtain ⟨z, ez⟩ := lc_flt xs (acc ++ [g x]) (.v x) (fun x h => hp x (List.mem_cons_of_mem _ h)) (fun x h => he x (List.mem_cons_of_mem _ h)) hc (by simp at hl ⊢; omega)
      refine ⟨z, ?_⟩
      rw [lcLoop, e1, r_ok, hp x (List.mem_cons_self ..), r_ok, if_pos hb, he x (List.mem_cons_self ..) hb, r_ok, if_pos ⟨by simp at hl; omega, hc _⟩, ez]
      simp [hb]
    | false =>
      obtain ⟨z, ez⟩ := lc_flt xs acc (.v x) (fun x h => hp x (List.mem_cons_of_mem _ h)) (fun x h => he x (List.mem_cons_of_mem _ h)) hc (by simp at hl ⊢; omega)
      refine ⟨z, ?_⟩
      rw [lcLoop, e1, r_ok, hp x (List.mem_cons_self ..), r_ok, hb, if_neg (by decide), if_pos (hc _), ez]
      simp [hb]
theorem e_lcC {el cd : ME} {src : MI} {i : Nat} {s1 : SS} {d : Dt} {xs ys : List Dt} {p : Dt → Bool} {g : Dt → Dt} (h1 : evI L src s = .ok ⟨xs, .v d, ys⟩ s1) (hd : ∀ n, d ≠ .ref n) (hi : free1 s1 i) (hc : ∀ x, x ∈ xs → ev L cd (s1.set i (.v x)) = .ok (.v (.bl (p x))) (s1.set i (.v x)))
    (he : ∀ x, x ∈ xs → p x = true → ev L el (s1.set i (.v x)) = .ok (.v (g x)) (s1.set i (.v x))) (hl : xs.length ≤ sizeLine) :
    ev L (.lc el (.n i) src (some cd) [i]) s = .ok (.nl ((xs.filter p).map g)) s1 := by
  have hlt : i < s1.sl.length := by
    rcases hi with h | ⟨y, h⟩ <;> exact (List.getElem?_eq_some_iff.mp h).1
  rw [lc_ev, h1, r_ok]
  have hw : wipeOk [i] s1 = true := by
    unfold wipeOk
    rcases hi with h | ⟨y, h⟩ <;> simp [h]
  rw [if_pos hw]
  have hself : s1 = s1.set i (s1.sl.getD i .un) := by
    have := back_same (s := s1) (z := s1.sl.getD i .un) hlt
    unfold backS backS at this
    rw [set_set] at this
    exact this.symm
  have ck : ∀ z, chk ys (.v d) (s1.set i z) = true := fun z => by
    cases d <;> first | rfl | exact absurd rfl (hd _)
  obtain ⟨z, ez⟩ := lc_flt (s := s1) (ck := chk ys (.v d)) (c := fun s => (cndM L (some cd) s).noex) (e := fun s => ((ev L el s).bind val).noex) (i := i) (p := p) (g := g) xs [] (s1.sl.getD i .un)
    (fun x hx => by show (((ev L cd _).bind asB).noex).noex = _; rw [hc x hx]; rfl) (fun x hx hp => by show ((ev L el _).bind val).noex = _; rw [he x hx hp]; rfl) ck (by simpa using hl)
  have lk : lock (.v d) s1 = s1 := rfl
  rw [lk]
  rw [← hself] at ez
  show ((lcLoop (chk ys (.v d)) (fun s x => bindT (.n i) x s) [i] (fun s => (cndM L (some cd) s).noex) (fun s => ((ev L el s).bind val).noex) xs [] s1).fix _).bind _ = _
  rw [ez, r_fix, r_ok, back_same hlt]
  rfl
/-- a loop whose body keeps P, or ends it with Q -/
theorem for_brk {tg : SS → Dt → Out SS Unit} {b : SS → Out SS Fl} {ck : SS → Bool} (P : Nat → SS → Prop) (Q : SS → Prop) : ∀ (xs : List Dt) (i : Nat) (s : SS), P i s →
    (∀ (j : Nat) (x : Dt) (s : SS), i ≤ j → xs[j - i]? = some x → P j s → ∃ s1 s2, tg s x = .ok () s1 ∧ ((b s1 = .ok .nx s2 ∧ ck s2 = true ∧ P (j + 1) s2) ∨ (b s1 = .ok .bk s2 ∧ Q s2))) → ∃ s', forL ck tg b xs s = .ok .nx s' ∧ (P (i + xs.length) s' ∨ Q s')
  | [], i, s, h, _ => ⟨s, by rw [forL], .inl h⟩
  | x :: xs, i, s, h, st => by
    obtain ⟨s1, s2, e1, e2⟩ := st i x s (Nat.le_refl _) (by simp) h
    rcases e2 with ⟨e2, e3, p⟩ | ⟨e2, q⟩
    · obtain ⟨s', e, q⟩ := for_brk P Q xs (i + 1) s2 p fun j y s hj hy hp => st j y s (by omega) (by
        have : j - i = (j - (i + 1)) + 1 := by omega
        rw [this, List.getElem?_cons_succ]; exact hy) hp
      refine ⟨s', ?_, by rw [List.length_cons]; have : i + (xs.length + 1) = i + 1 + xs.length := by omega
                         rw [this]; exact q⟩
      rw [forL, e1, r_ok, e2, r_ok]
      simp only [e3, if_true]
      exact e
    · refine ⟨s2, ?_, .inr q⟩
      rw [forL, e1, r_ok, e2, r_ok]
theorem tup_bw {i : Nat} {xs : List Dt} (h : s.sl[i]? = some (.ol xs)) : bTup (.bw i) s = some (.v (.tup xs)) := by
  unfold bTup rdl rdt
  simp only [h]; rfl
theorem len_bw {i : Nat} {xs : List Dt} (h : s.sl[i]? = some (.ol xs)) : bLen (.bw i) s = some (.v (.int xs.length)) := by
  unfold bLen rds rdl rdt
  simp only [h]; rfl
theorem idx_bw {i : Nat} {xs : List Dt} {j : Int} (h : s.sl[i]? = some (.ol xs)) : idxV (.bw i) (.v (.int j)) s = (atI xs j).map .v := by
  unfold idxV rds rdl rdt
  simp only [h]
theorem add_bn {i : Nat} {xs ys : List Dt} (h : s.sl[i]? = some (.ol xs)) (hl : xs.length + ys.length ≤ sizeLine) : binV .add (.bw i) (.nl ys) s = some (.nl (xs ++ ys)) := by
  show (match rdt s (.bw i), rdt s (.nl ys) with
    | some x, some y => if x.length + y.length ≤ sizeLine then some (RV.nl (x ++ y)) else none
    | _, _ => none) = _
  have e : rdt s (.bw i) = some xs := by unfold rdt; simp only [h]
  rw [e]
  show (if xs.length + ys.length ≤ sizeLine then some (RV.nl (xs ++ ys)) else none) = _
  rw [if_pos hl]
theorem add_tt {xs ys : List Dt} (hl : xs.length + ys.length ≤ sizeLine) : binV .add (.v (.tup xs)) (.v (.tup ys)) s = some (.v (.tup (xs ++ ys))) := by
  show (if xs.length + ys.length ≤ sizeLine then some (RV.v (.tup (xs ++ ys))) else none) = _
  rw [if_pos hl]
theorem mul_t1 {x : Dt} {k : Nat} (h1 : 1 ≤ k) (h2 : k ≤ 1000) : binV .mul (.v (.tup [x])) (.v (.int k)) s = some (.v (.tup (List.replicate k x))) := by
  show (if (k : Int) = 1 then some (RV.v (.tup [x])) else if [x] ≠ [] ∧ 2 ≤ (k : Int) ∧ (k : Int) ≤ 1000 ∧ [x].length ≤ 1000 then some (RV.v (.tup (List.replicate (k : Int).toNat [x]).flatten)) else none) = _
  by_cases e : k = 1
  · subst e; rfl
  · rw [if_neg (by omega), if_pos ⟨List.cons_ne_nil _ _, by omega, by omega, by simp⟩]
    simp
mutual
theorem deq_self : ∀ (n : Nat) (x : Dt), flat n x = true → deq x x = true
  | _, .non, _ => by unfold deq; rfl
  | _, .bl b, _ => by unfold deq; simp
  | _, .int b, _ => by unfold deq; simp
  | _, .str b, _ => by unfold deq; simp
  | 0, .tup xs, h => by simp [flat] at h
  | 0, .lst xs, h => by simp [flat] at h
  | 0, .rol xs, h => by simp [flat] at h
  | 0, .ins _ _ _, h => by simp [flat] at h
  | 0, .ref _, h => by simp [flat] at h
  | n + 1, .tup xs, h => by
    unfold flat at h
    unfold deq
    exact deqL_self n xs h
  | n + 1, .lst xs, h => by
    unfold flat at h
    unfold deq
    exact deqL_self n xs h
  | n + 1, .rol xs, h => by
    unfold flat at h
    unfold deq
    exact deqL_self n xs h
  | n + 1, .ins _ _ _, h => by simp [flat] at h
  | n + 1, .ref _, h => by simp [flat] at h
  | 0, .dct, h => by simp [flat] at h
  | n + 1, .dct, h => by simp [flat] at h
theorem deqL_self : ∀ (n : Nat) (xs : List Dt), flatL n xs = true → deqL xs xs = true
  | _, [], _ => by unfold deqL; rfl
  | n, x :: r, h => by
    unfold flatL at h
    simp only [Bool.and_eq_true] at h
    unfold deqL
    rw [deq_self n x h.1, deqL_self n r h.2]; rfl
end
theorem rd_flat {x : Dt} {n : Nat} (h : flat n x = true) : rdD s (.v x) = some x := by
  cases x with
  | ref m =>
    cases n <;> simp [flat] at h
  | _ => rfl
theorem ne_self {x : Dt} (h : flat 40 x = true) : cmpV .ne (.v x) (.v x) s = some false := by
  rw [c_neD h h (rd_flat h) (rd_flat h), deq_self 40 x h]; rfl
theorem eq_self {x : Dt} (h : flat 40 x = true) : cmpV .eq (.v x) (.v x) s = some true := by
  rw [c_eqD h h (rd_flat h) (rd_flat h), deq_self 40 x h]
theorem flatL_map {a : Type} {n : Nat} {f : a → Dt} (h : ∀ x, flat n (f x) = true) : ∀ l : List a, flatL n (l.map f) = true
  | [] => by rw [List.map_nil]; unfold flatL; rfl
  | x :: r => by
    rw [List.map_cons]
    unfold flatL
    rw [h x, flatL_map h r]; rfl
def methF (L : Fns) (m : Str) (es : List ME) (x : RV) (s : SS) : Out SS RV := match x, mcls x m s with
    | .v d, some c => if L.hasM c m then (evs L es s).bind fun ds s => liftF (L.meth c m (d :: ds) s.st) s else .no
    | _, _ => .no
@[simp] theorem e_meth {a : ME} {m : Str} {es : List ME} : ev L (.meth a m es) s = (ev L a s).bind (methF L m es) := by
  rw [ev]
  congr 1
theorem methF_i {m : Str} {es : List ME} {c : Nat} {ns : List Str} {vs : List Dt} (h : ns.contains m = false) (h2 : L.hasM c m = true) : methF L m es (.v (.ins c ns vs)) s = (evs L es s).bind fun ds s => liftF (L.meth c m (.ins c ns vs :: ds) s.st) s := by
  have e : mcls (.v (.ins c ns vs)) m s = some c := by
    unfold mcls
    simp only
    rw [if_neg (by rw [h]; decide)]
  unfold methF
  rw [e]
  simp only [h2, if_true]
theorem e_lcG {el : ME} {src : MI} {i : Nat} {s1 : SS} {d : Dt} {xs ys : List Dt} {g : Dt → Dt} (h1 : evI L src s = .ok ⟨xs, .v d, ys⟩ s1) (ck : ∀ z, chk ys (.v d) (s1.set i z) = true) (hi : free1 s1 i) (he : ∀ x, x ∈ xs → ev L el (s1.set i (.v x)) = .ok (.v (g x)) (s1.set i (.v x))) (hl : xs.length ≤ sizeLine) :
    ev L (.lc el (.n i) src none [i]) s = .ok (.nl (xs.map g)) s1 := by
  have hlt : i < s1.sl.length := by
    rcases hi with h | ⟨y, h⟩ <;> exact (List.getElem?_eq_some_iff.mp h).1
  rw [lc_ev, h1, r_ok]
  have hw : wipeOk [i] s1 = true := by
    unfold wipeOk
    rcases hi with h | ⟨y, h⟩ <;> simp [h]
  rw [if_pos hw]
  have hself : s1 = s1.set i (s1.sl.getD i .un) := by
    have := back_same (s := s1) (z := s1.sl.getD i .un) hlt
    unfold backS backS at this
    rw [set_set] at this
    exact this.symm
  obtain ⟨z, ez⟩ := lc_map (s := s1) (ck := chk ys (.v d)) (e := fun s => ((ev L el s).bind val).noex) (i := i) (g := g) xs [] (s1.sl.getD i .un) (fun x hx => by show ((ev L el _).bind val).noex = _; rw [he x hx]; rfl) ck (by simpa using hl)
  have lk : lock (.v d) s1 = s1 := rfl
  have cn : (fun s => (cndM L none s).noex) = fun s : SS => Out.ok true s := rfl
  rw [lk, cn]
  rw [← hself] at ez
  show ((lcLoop (chk ys (.v d)) (fun s x => bindT (.n i) x s) [i] (fun s => .ok true s) (fun s => ((ev L el s).bind val).noex) xs [] s1).fix _).bind _ = _
  rw [ez, r_fix, r_ok, back_same hlt]
  rfl
/-- a comprehension whose items change the state -/
theorem lc_st {ck : SS → Bool} {tg : SS → Dt → Out SS Unit} {own : List Nat} {e : SS → Out SS Dt} (P : Nat → List Dt → SS → Prop) : ∀ (xs : List Dt) (i : Nat) (acc : List Dt) (s : SS), P i acc s →
    (∀ (j : Nat) (x : Dt) (acc : List Dt) (s : SS), i ≤ j → xs[j - i]? = some x → P j acc s → ∃ d s2, ((tg (wipeS own s) x).bind fun _ s => e s) = .ok d s2 ∧ ck s2 = true ∧ P (j + 1) (acc ++ [d]) s2) → acc.length + xs.length ≤ sizeLine →
    ∃ acc' s', lcLoop ck tg own (fun s => .ok true s) e xs acc s = .ok acc' s' ∧ P (i + xs.length) acc' s'
  | [], i, acc, s, h, _, _ => ⟨acc, s, by rw [lcLoop], h⟩
  | x :: xs, i, acc, s, h, st, hl => by
    obtain ⟨d, s2, e1, e2, p⟩ := st i x acc s (Nat.le_refl _) (by simp) h
    obtain ⟨acc', s', e3, p3⟩ := lc_st P xs (i + 1) (acc ++ [d]) s2 p (fun j y acc s hj hy hp => st j y acc s (by omega) (by
      have : j - i = (j - (i + 1)) + 1 := by omega
      rw [this, List.getElem?_cons_succ]; exact hy) hp) (by simp at hl ⊢; omega)
    refine ⟨acc', s', ?_, by rw [List.length_cons]; have : i + (xs.length + 1) = i + 1 + xs.length := by omega
                             rw [this]; exact p3⟩
    rw [lcLoop]
    cases ht : tg (wipeS own s) x with
    | no => rw [ht] at e1; cases e1
    | ex c fs t => rw [ht] at e1; cases e1
    | ok y t =>
      rw [ht] at e1
      have e1 : e t = .ok d s2 := e1
      rw [r_ok, r_ok, if_pos rfl, e1, r_ok, if_pos ⟨by simp at hl; omega, e2⟩]
      exact e3
theorem e_lcS {el : ME} {src : MI} {i : Nat} {s1 : SS} {d : Dt} {xs ys : List Dt} (P : Nat → List Dt → SS → Prop) (h1 : evI L src s = .ok ⟨xs, .v d, ys⟩ s1) (hd : ∀ n, d ≠ .ref n) (hi : free1 s1 i) (h0 : P 0 [] s1)
    (he : ∀ (j : Nat) (x : Dt) (acc : List Dt) (s : SS), xs[j]? = some x → P j acc s → ∃ d s2, ev L el ((s.set i .un).set i (.v x)) = .ok (.v d) s2 ∧ P (j + 1) (acc ++ [d]) s2) (hl : xs.length ≤ sizeLine) :
    ∃ acc s', P xs.length acc s' ∧ ev L (.lc el (.n i) src none [i]) s = .ok (.nl acc) (s'.set i (s1.sl.getD i .un)) := by
  have hw : wipeOk [i] s1 = true := by
    unfold wipeOk
    rcases hi with h | ⟨y, h⟩ <;> simp [h]
  have ck : ∀ z : SS, chk ys (.v d) z = true := fun z => by
    cases d <;> first | rfl | exact absurd rfl (hd _)
  obtain ⟨acc, s', e, p⟩ := lc_st (ck := chk ys (.v d)) (tg := fun s x => bindT (.n i) x s) (own := [i]) (e := fun s => ((ev L el s).bind val).noex) P xs 0 [] s1 h0 (fun j x acc s _ hx hp => by
    rw [Nat.sub_zero] at hx
    obtain ⟨d, s2, e, p⟩ := he j x acc s hx hp
    refine ⟨d, s2, ?_, ck _, p⟩
    show (Out.bind (.ok () ((s.set i .un).set i (.v x))) _) = _
    rw [r_ok]
    show ((ev L el _).bind val).noex = _
    rw [e]; rfl) (by simpa using hl)
  rw [Nat.zero_add] at p
  refine ⟨acc, s', p, ?_⟩
  rw [lc_ev, h1, r_ok, if_pos hw]
  have lk : lock (.v d) s1 = s1 := rfl
  have cn : (fun s => (cndM L none s).noex) = fun s : SS => Out.ok true s := rfl
  rw [lk, cn]
  show ((lcLoop (chk ys (.v d)) (fun s x => bindT (.n i) x s) [i] (fun s => .ok true s) (fun s => ((ev L el s).bind val).noex) xs [] s1).fix _).bind _ = _
  rw [e, r_fix, r_ok]
  rfl
/-- a comprehension whose test changes the state -/
theorem lc_stc {ck : SS → Bool} {tg : SS → Dt → Out SS Unit} {own : List Nat} {c : SS → Out SS Bool} {e : SS → Out SS Dt} (P : Nat → List Dt → SS → Prop) : ∀ (xs : List Dt) (i : Nat) (acc : List Dt) (s : SS), P i acc s →
    (∀ (j : Nat) (x : Dt) (acc : List Dt) (s : SS), i ≤ j → xs[j - i]? = some x → P j acc s → ∃ b s1, ((tg (wipeS own s) x).bind fun _ s => c s) = .ok b s1 ∧ ck s1 = true ∧ (b = true → ∃ d s2, e s1 = .ok d s2 ∧ ck s2 = true ∧ P (j + 1) (acc ++ [d]) s2) ∧ (b = false → P (j + 1) acc s1)) → acc.length + xs.length ≤ sizeLine →
    ∃ acc' s', lcLoop ck tg own c e xs acc s = .ok acc' s' ∧ P (i + xs.length) acc' s'
  | [], i, acc, s, h, _, _ => ⟨acc, s, by rw [lcLoop], h⟩
  | x :: xs, i, acc, s, h, st, hl => by
    obtain ⟨b, s1, e1, k1, y, n⟩ := st i x acc s (Nat.le_refl _) (by simp) h
    have nx : ∀ (acc2 : List Dt) (s2 : SS), P (i + 1) acc2 s2 → acc2.length ≤ acc.length + 1 → ∃ acc' s', lcLoop ck tg own c e xs acc2 s2 = .ok acc' s' ∧ P (i + (x :: xs).length) acc' s' := fun acc2 s2 p ha => by
      obtain ⟨acc', s', e3, p3⟩ := lc_stc P xs (i + 1) acc2 s2 p (fun j y acc s hj hy hp => st j y acc s (by omega) (by
        have : j - i = (j - (i + 1)) + 1 := by omega
        rw [this, List.getElem?_cons_succ]; exact hy) hp) (by simp at hl ⊢; omega)
      exact ⟨acc', s', e3, by rw [List.length_cons]; have : i + (xs.length + 1) = i + 1 + xs.length := by omega
                              rw [this]; exact p3⟩
    have head : lcLoop ck tg own c e (x :: xs) acc s = ((tg (wipeS own s) x).bind fun _ s => c s).bind fun b s => if b then (e s).bind fun d s => if acc.length < sizeLine ∧ ck s then lcLoop ck tg own c e xs (acc ++ [d]) s else .no else if ck s then lcLoop ck tg own c e xs acc s else .no := by
      rw [lcLoop]
      cases tg (wipeS own s) x <;> rfl
    rw [head, e1, r_ok]
    cases b with
    | true =>
      obtain ⟨d, s2, e2, k2, p⟩ := y rfl
      obtain ⟨acc', s', e3, p3⟩ := nx (acc ++ [d]) s2 p (by simp)
      refine ⟨acc', s', ?_, p3⟩
      rw [if_pos rfl, e2, r_ok, if_pos ⟨by simp at hl; omega, k2⟩]
      exact e3
    | false =>
      obtain ⟨acc', s', e3, p3⟩ := nx acc s1 (n rfl) (by omega)
      refine ⟨acc', s', ?_, p3⟩
      rw [if_neg (by decide), if_pos k1]
      exact e3
theorem e_lcSC {el cd : ME} {src : MI} {i : Nat} {s1 : SS} {d : Dt} {xs ys : List Dt} (P : Nat → List Dt → SS → Prop) (h1 : evI L src s = .ok ⟨xs, .v d, ys⟩ s1) (hd : ∀ n, d ≠ .ref n) (hi : free1 s1 i) (h0 : P 0 [] s1)
    (he : ∀ (j : Nat) (x : Dt) (acc : List Dt) (s : SS), xs[j]? = some x → P j acc s → ∃ b s2, ev L cd ((s.set i .un).set i (.v x)) = .ok (.v (.bl b)) s2 ∧ (b = true → ∃ d s3, ev L el s2 = .ok (.v d) s3 ∧ P (j + 1) (acc ++ [d]) s3) ∧ (b = false → P (j + 1) acc s2)) (hl : xs.length ≤ sizeLine) :
    ∃ acc s', P xs.length acc s' ∧ ev L (.lc el (.n i) src (some cd) [i]) s = .ok (.nl acc) (s'.set i (s1.sl.getD i .un)) := by
  have hw : wipeOk [i] s1 = true := by
    unfold wipeOk
    rcases hi with h | ⟨y, h⟩ <;> simp [h]
  have ck : ∀ z : SS, chk ys (.v d) z = true := fun z => by
    cases d <;> first | rfl | exact absurd rfl (hd _)
  obtain ⟨acc, s', e, p⟩ := lc_stc (ck := chk ys (.v d)) (tg := fun s x => bindT (.n i) x s) (own := [i]) (c := fun s => (cndM L (some cd) s).noex) (e := fun s => ((ev L el s).bind val).noex) P xs 0 [] s1 h0 (fun j x acc s _ hx hp => by
    rw [Nat.sub_zero] at hx
    obtain ⟨b, s2, e, y, n⟩ := he j x acc s hx hp
    refine ⟨b, s2, ?_, ck _, fun hb => ?_, n⟩
    · show (Out.bind (.ok () ((s.set i .un).set i (.v x))) _) = _
      rw [r_ok]
      show (((ev L cd _).bind asB).noex).noex = _
      rw [e]; rfl
    · obtain ⟨d, s3, e3, p3⟩ := y hb
      exact ⟨d, s3, by rw [e3]; rfl, ck _, p3⟩) (by simpa using hl)
  rw [Nat.zero_add] at p
  refine ⟨acc, s', p, ?_⟩
  rw [lc_ev, h1, r_ok, if_pos hw]
  have lk : lock (.v d) s1 = s1 := rfl
  rw [lk]
  show ((lcLoop (chk ys (.v d)) (fun s x => bindT (.n i) x s) [i] (fun s => (cndM L (some cd) s).noex) (fun s => ((ev L el s).bind val).noex) xs [] s1).fix _).bind _ = _
  rw [e, r_fix, r_ok]
  rfl
end
end Mq

/-! MqW: what is wanted of a run, and rules to show it. -/
namespace Mq
open PySem L2
theorem FP_isi {P : PD} {k : Nat} : (FP P k).isi = P.isi := by cases k <;> rfl
theorem FP_xis {P : PD} {k : Nat} : (FP P k).xis = P.xis := by cases k <;> rfl
theorem FP_hasM {P : PD} {k : Nat} : (FP P k).hasM = P.hasM := by cases k <;> rfl
theorem FP_glob {P : PD} {k : Nat} : (FP P k).glob = P.glob := by cases k <;> rfl
abbrev OutD {S a : Type} (_Q : a → S → Prop) : Type := Out S a
/-- an outcome is good, and as wanted (what is wanted is not looked into by simp: the outcome's type hangs on it; the kernel can't unfold it) -/
inductive W {S a : Type} (Q : a → S → Prop) : OutD Q → Prop
  | of_ok {x : a} {t : S} (h : Q x t) : W Q (Out.ok x t)
section
variable {L : Fns} {s s1 t : SS} {a b S : Type}
@[simp ↓] theorem W_ok {x : a} {t : S} {Q : a → S → Prop} : W Q (.ok x t) = Q x t := propext ⟨fun h => by cases h; assumption, W.of_ok⟩
@[simp ↓] theorem W_no {Q : a → S → Prop} : W Q (.no : Out S a) = False := eq_false fun h => by cases h
@[simp ↓] theorem W_ex {c : Nat} {fs : List Dt} {t : S} {Q : a → S → Prop} : W Q (.ex c fs t : Out S a) = False := eq_false fun h => by cases h
@[simp ↓] theorem W_bind {o : Out S a} {f : a → S → Out S b} {Q : b → S → Prop} : W Q (o.bind f) = W (fun x t => W Q (f x t)) o := by cases o <;> first | rfl | exact W_ok | exact W_no | exact W_ex | (simp only [W_ok, W_no, W_ex]; done) | (simp only [r_ok, r_no, r_ex, W_ok, W_no, W_ex]; done)
theorem W.mono {o : Out S a} {Q R : a → S → Prop} (h : W Q o) (k : ∀ x t, Q x t → R x t) : W R o := by
  cases o with
  | ok x t => rw [W_ok] at h ⊢; exact k x t h
  | no => rw [W_no] at h; exact h.elim
  | ex => rw [W_ex] at h; exact h.elim
theorem W.eq {o : Out S a} {Q : a → S → Prop} (h : W Q o) : ∃ x t, o = .ok x t ∧ Q x t := by
  cases o with
  | ok x t => exact ⟨x, t, rfl, by rw [W_ok] at h; exact h⟩
  | no => rw [W_no] at h; exact h.elim
  | ex => rw [W_ex] at h; exact h.elim
theorem W.of {o : Out S a} {Q : a → S → Prop} {x : a} {t : S} (e : o = .ok x t) (h : Q x t) : W Q o := by rw [e, W_ok]; exact h
theorem W_b {o : Out S a} {f : a → S → Out S b} {Q : b → S → Prop} {R : a → S → Prop} (h : ∀ x t, W Q (f x t) = R x t) : W Q (o.bind f) = W R o := by
  cases o with
  | ok x t => rw [r_ok, W_ok]; exact h x t
  | no => rw [r_no, W_no, W_no]
  | ex => rw [r_ex, W_ex, W_ex]
@[simp ↓] theorem W_nox {o : Out S a} {Q : a → S → Prop} : W Q o.noex = W Q o := by
  cases o with
  | ok x t => rfl
  | no => rfl
  | ex => exact W_no.trans W_ex.symm
@[simp ↓] theorem W_fix {o : Out SS a} {f : SS → SS} {Q : a → SS → Prop} : W Q (o.fix f) = W (fun x t => Q x (f t)) o := by
  cases o with
  | ok x t => rw [r_fix, W_ok, W_ok]
  | no => exact W_no.trans W_no.symm
  | ex => exact W_ex.trans W_ex.symm
@[simp ↓] theorem W_liftF {r : FR} {l : List Sl} {st : List MO} {Q : RV → SS → Prop} : W Q (liftF r ⟨l, st⟩) = W (fun v st => Q v ⟨l, st⟩) r := by
  cases r with
  | ok v st => exact W_ok.trans (W_ok (Q := fun v st => Q v ⟨l, st⟩)).symm
  | no => exact W_no.trans W_no.symm
  | ex => exact W_ex.trans W_ex.symm
/-- what a def's end hands back -/
def finQ (Q : RV → List MO → Prop) (f : Fl) (s : SS) : Prop := match f with
  | .nx => Q (.v .non) s.st
  | .ret r => Q r s.st
  | _ => False
@[simp] theorem finQ_nx {Q : RV → List MO → Prop} : finQ Q .nx s = Q (.v .non) s.st := rfl
@[simp] theorem finQ_ret {Q : RV → List MO → Prop} {r : RV} : finQ Q (.ret r) s = Q r s.st := rfl
theorem W_fin {o : Out SS Fl} {Q : RV → List MO → Prop} : W Q (finD o) = W (finQ Q) o := by
  cases o with
  | ok f s =>
    cases f with
    | nx => exact W_ok.trans (W_ok (Q := finQ Q) (x := Fl.nx) (t := s)).symm
    | ret r => exact W_ok.trans (W_ok (Q := finQ Q) (x := Fl.ret r) (t := s)).symm
    | bk => exact (W_no (Q := Q)).trans (W_ok (Q := finQ Q) (x := Fl.bk) (t := s)).symm
    | ct => exact (W_no (Q := Q)).trans (W_ok (Q := finQ Q) (x := Fl.ct) (t := s)).symm
  | no => exact W_no.trans W_no.symm
  | ex => exact W_ex.trans W_ex.symm
theorem W_run {d : DD} {ds : List Dt} {st : List MO} {Q : RV → List MO → Prop} : W Q (runD L d ds st) = W (finQ Q) (Mq.execs L d.ms ⟨slots d.N.length (ds.map .v), st⟩) := by
  unfold runD
  rw [W_fin]
/-- a choice -/
def wIf (k : Bool) (A B : Prop) : Prop := match k with | true => A | false => B
@[simp ↓] theorem wIf_t {A B : Prop} : wIf true A B = A := rfl
@[simp ↓] theorem wIf_f {A B : Prop} : wIf false A B = B := rfl
theorem wIf_iff {k : Bool} {A B : Prop} : wIf k A B ↔ (k = true → A) ∧ (k = false → B) := by cases k <;> simp
theorem wIf_dec {p : Prop} [Decidable p] {A B : Prop} (h1 : p → A) (h2 : ¬ p → B) : wIf (decide p) A B := by
  by_cases h : p
  · rw [decide_eq_true h]; exact h1 h
  · rw [decide_eq_false h]; exact h2 h
theorem W_if {k : Bool} {x y : Out S a} {Q : a → S → Prop} : W Q (if k = true then x else y) = wIf k (W Q x) (W Q y) := by cases k <;> first | rfl | exact W_ok | exact W_no | exact W_ex | (simp only [W_ok, W_no, W_ex]; done) | (simp only [r_ok, r_no, r_ex, W_ok, W_no, W_ex]; done)
/-! ### what small steps ask -/
abbrev Dep {p : Type} (_Q : p) (a : Type) : Type := a
section
variable {Q : RV → SS → Prop}
def wOp (Q : RV → SS → Prop) (x : Dep Q (Option RV)) (s : SS) : Prop := match (x : Option RV) with | some v => Q v s | none => False
@[simp] theorem wOp_s {v : RV} : wOp Q (some v) s = Q v s := rfl
def wOb (Q : RV → SS → Prop) (x : Dep Q (Option Bool)) (s : SS) : Prop := match (x : Option Bool) with | some k => Q (.v (.bl k)) s | none => False
@[simp] theorem wOb_s {k : Bool} : wOb Q (some k) s = Q (.v (.bl k)) s := rfl
def wOd (Q : RV → SS → Prop) (x : Dep Q (Option Dt)) (s : SS) : Prop := match (x : Option Dt) with | some d => Q (.v d) s | none => False
@[simp] theorem wOd_s {d : Dt} : wOd Q (some d) s = Q (.v d) s := rfl
def wVar (Q : RV → SS → Prop) (x : Dep Q (Option Sl)) (i : Nat) (s : SS) : Prop := match (x : Option Sl) with
  | some (.v d) => Q (.v d) s
  | some (.ol _) => Q (.bw i) s
  | some (.lk _) => Q (.bw i) s
  | some (.oi _ _ _) => Q (.bw i) s
  | _ => False
@[simp] theorem wVar_v {d : Dt} {i : Nat} : wVar Q (some (.v d)) i s = Q (.v d) s := rfl
@[simp] theorem wVar_o {xs : List Dt} {i : Nat} : wVar Q (some (.ol xs)) i s = Q (.bw i) s := rfl
@[simp] theorem wVar_k {xs : List Dt} {i : Nat} : wVar Q (some (.lk xs)) i s = Q (.bw i) s := rfl
@[simp] theorem wVar_i {c : Nat} {ns : List Str} {vs : List Dt} {i : Nat} : wVar Q (some (.oi c ns vs)) i s = Q (.bw i) s := rfl
@[simp ↓] theorem W_liftO {x : Option RV} : W Q (lift x s) = wOp Q x s := by cases x <;> first | rfl | exact W_ok | exact W_no | exact W_ex | (simp only [W_ok, W_no, W_ex]; done) | (simp only [r_ok, r_no, r_ex, W_ok, W_no, W_ex]; done)
@[simp ↓] theorem W_liftB {x : Option Bool} : W Q (liftB x s) = wOb Q x s := by cases x <;> first | rfl | exact W_ok | exact W_no | exact W_ex | (simp only [W_ok, W_no, W_ex]; done) | (simp only [r_ok, r_no, r_ex, W_ok, W_no, W_ex]; done)
@[simp ↓] theorem W_liftD {x : Option Dt} : W Q (lift (x.map .v) s) = wOd Q x s := by cases x <;> first | rfl | exact W_ok | exact W_no | exact W_ex | (simp only [W_ok, W_no, W_ex]; done) | (simp only [r_ok, r_no, r_ex, W_ok, W_no, W_ex]; done)
/-- a test's value -/
def wB (A : Bool → Prop) (x : Dep A RV) : Prop := match (x : RV) with | .v (.bl k) => A k | _ => False
@[simp] theorem wB_b {k : Bool} {A : Bool → Prop} : wB A (.v (.bl k)) = A k := rfl
@[simp ↓] theorem W_asB {A : Bool → SS → Prop} {x : RV} : W A (asB x s) = wB (fun k => A k s) x := by
  cases x with
  | v d => cases d <;> first | rfl | exact W_ok | exact W_no | exact W_ex | (simp only [W_ok, W_no, W_ex]; done) | (simp only [r_ok, r_no, r_ex, W_ok, W_no, W_ex]; done)
  | _ => first | rfl | exact W_ok | exact W_no | exact W_ex | (simp only [W_ok, W_no, W_ex]; done) | (simp only [r_ok, r_no, r_ex, W_ok, W_no, W_ex]; done)
def wI (A : Int → Prop) (x : Dep A RV) : Prop := match (x : RV) with | .v (.int k) => A k | _ => False
@[simp] theorem wI_i {k : Int} {A : Int → Prop} : wI A (.v (.int k)) = A k := rfl
@[simp ↓] theorem W_asI {A : Int → SS → Prop} {x : RV} : W A (asI x s) = wI (fun k => A k s) x := by
  cases x with
  | v d => cases d <;> first | rfl | exact W_ok | exact W_no | exact W_ex | (simp only [W_ok, W_no, W_ex]; done) | (simp only [r_ok, r_no, r_ex, W_ok, W_no, W_ex]; done)
  | _ => first | rfl | exact W_ok | exact W_no | exact W_ex | (simp only [W_ok, W_no, W_ex]; done) | (simp only [r_ok, r_no, r_ex, W_ok, W_no, W_ex]; done)
/-! ### expressions -/
@[simp ↓] theorem w_var {i : Nat} : W Q (ev L (.var i) s) = wVar Q s.sl[i]? i s := by
  rw [ev]
  cases h : s.sl[i]? with
  | none => first | rfl | exact W_ok | exact W_no | exact W_ex | (simp only [W_ok, W_no, W_ex]; done) | (simp only [r_ok, r_no, r_ex, W_ok, W_no, W_ex]; done)
  | some x => cases x <;> first | rfl | exact W_ok | exact W_no | exact W_ex | (simp only [W_ok, W_no, W_ex]; done) | (simp only [r_ok, r_no, r_ex, W_ok, W_no, W_ex]; done)
@[simp ↓] theorem w_cst {d : Dt} : W Q (ev L (.cst d) s) = Q (.v d) s := by rw [ev]; first | rfl | exact W_ok | exact W_no | exact W_ex | (simp only [W_ok, W_no, W_ex]; done) | (simp only [r_ok, r_no, r_ex, W_ok, W_no, W_ex]; done)
@[simp ↓] theorem w_glo {x : Str} : W Q (ev L (.glo x) s) = wOd Q (L.glob x) s := by
  rw [ev]
  cases L.glob x <;> first | rfl | exact W_ok | exact W_no | exact W_ex | (simp only [W_ok, W_no, W_ex]; done) | (simp only [r_ok, r_no, r_ex, W_ok, W_no, W_ex]; done)
@[simp ↓] theorem w_bin {op : Bop} {x y : ME} : W Q (ev L (.bin op x y) s) = W (fun x s => W (fun y s => wOp Q (binV op x y s) s) (ev L y s)) (ev L x s) := by rw [e_bin]; exact W_b fun _ _ => W_b fun _ _ => W_liftO
@[simp ↓] theorem w_neg {x : ME} : W Q (ev L (.neg x) s) = W (fun x s => wI (fun i => Q (.v (.int (-i))) s) x) (ev L x s) := by rw [e_neg]; exact W_b fun x s => (by
  cases x with
  | v d => cases d <;> first | rfl | exact W_ok | exact W_no | exact W_ex | (simp only [W_ok, W_no, W_ex]; done) | (simp only [r_ok, r_no, r_ex, W_ok, W_no, W_ex]; done)
  | _ => first | rfl | exact W_ok | exact W_no | exact W_ex | (simp only [W_ok, W_no, W_ex]; done) | (simp only [r_ok, r_no, r_ex, W_ok, W_no, W_ex]; done))
@[simp ↓] theorem w_cmp {op : Cop} {x y : ME} : W Q (ev L (.cmp op x y) s) = W (fun x s => W (fun y s => wOb Q (cmpV op x y s) s) (ev L y s)) (ev L x s) := by rw [e_cmp]; exact W_b fun _ _ => W_b fun _ _ => W_liftB
def wC2 (L : Fns) (Q : RV → SS → Prop) (o2 : Cop) (c : ME) (y : RV) (b : Dep Q (Option Bool)) (s : SS) : Prop := match (b : Option Bool) with
  | some k => wIf k (W (fun z s => wOb Q (cmpV o2 y z s) s) (ev L c s)) (Q (.v (.bl false)) s)
  | none => False
@[simp] theorem wC2_s {o2 : Cop} {c : ME} {y : RV} {k : Bool} : wC2 L Q o2 c y (some k) s = wIf k (W (fun z s => wOb Q (cmpV o2 y z s) s) (ev L c s)) (Q (.v (.bl false)) s) := rfl
@[simp ↓] theorem w_cmp2 {o1 o2 : Cop} {x y z : ME} : W Q (ev L (.cmp2 o1 o2 x y z) s) = W (fun x s => W (fun y s => wC2 L Q o2 z y (cmpV o1 x y s) s) (ev L y s)) (ev L x s) := by rw [e_cmp2]; exact W_b fun x s => W_b fun y s => (by
  cases cmpV o1 x y s with
  | none => first | rfl | exact W_ok | exact W_no | exact W_ex | (simp only [W_ok, W_no, W_ex]; done) | (simp only [r_ok, r_no, r_ex, W_ok, W_no, W_ex]; done)
  | some k =>
    cases k with
    | true => rw [cmp2F_t, wC2_s, wIf_t]; exact W_b fun _ _ => W_liftB
    | false => exact W_ok)
@[simp ↓] theorem w_bool {o : Bool} {es : List ME} : W Q (ev L (.bool o es) s) = W Q (evB L o es s) := by rw [e_bool]
@[simp ↓] theorem w_b1 {o : Bool} {x : ME} : W Q (evB L o [x] s) = W Q (ev L x s) := by rw [e_b1]
@[simp ↓] theorem w_b2 {x y : ME} {r : List ME} : W Q (evB L true (x :: y :: r) s) = W (fun v s => wB (fun k => wIf k (W Q (evB L true (y :: r) s)) (Q (.v (.bl false)) s)) v) (ev L x s) := by rw [e_b2]; exact W_b fun x s => (W_b (R := fun k s => wIf k (W Q (evB L true (y :: r) s)) (Q (.v (.bl false)) s)) fun k s => (by cases k <;> first | rfl | exact W_ok | exact W_no | exact W_ex | (simp only [W_ok, W_no, W_ex]; done) | (simp only [r_ok, r_no, r_ex, W_ok, W_no, W_ex]; done))).trans W_asB
@[simp ↓] theorem w_b3 {x y : ME} {r : List ME} : W Q (evB L false (x :: y :: r) s) = W (fun v s => wB (fun k => wIf k (Q (.v (.bl true)) s) (W Q (evB L false (y :: r) s))) v) (ev L x s) := by rw [e_b2]; exact W_b fun x s => (W_b (R := fun k s => wIf k (Q (.v (.bl true)) s) (W Q (evB L false (y :: r) s))) fun k s => (by cases k <;> first | rfl | exact W_ok | exact W_no | exact W_ex | (simp only [W_ok, W_no, W_ex]; done) | (simp only [r_ok, r_no, r_ex, W_ok, W_no, W_ex]; done))).trans W_asB
@[simp ↓] theorem w_not {x : ME} : W Q (ev L (.not x) s) = W (fun v s => wB (fun k => Q (.v (.bl (!k))) s) v) (ev L x s) := by rw [e_not]; exact W_b fun x s => (W_b (R := fun k s => Q (.v (.bl (!k))) s) fun k s => W_ok).trans W_asB
@[simp ↓] theorem w_ite {c x y : ME} : W Q (ev L (.ite c x y) s) = W (fun v s => wB (fun k => wIf k (W Q (ev L x s)) (W Q (ev L y s))) v) (ev L c s) := by rw [e_ite]; exact W_b fun x1 s => (W_b (R := fun k s => wIf k (W Q (ev L x s)) (W Q (ev L y s))) fun k s => W_if).trans W_asB
def wLen (n : Nat) (P : Prop) : Prop := if n ≤ sizeLine then P else False
theorem wLen_y {n : Nat} {P : Prop} (h : n ≤ sizeLine) : wLen n P = P := by unfold wLen; rw [if_pos h]
theorem wLen_s {n : Nat} {P : Prop} (h : n < 1000) : wLen n P = P := by unfold wLen; rw [if_pos (by rw [sizeLine_eq]; omega)]
@[simp] theorem wLen_k {n : Nat} {P : Prop} (h : n ≤ 100000) : wLen n P = P := by unfold wLen; rw [if_pos (sz h)]
@[simp ↓] theorem w_tup {es : List ME} : W Q (ev L (.tup es) s) = W (fun ds s => wLen ds.length (Q (.v (.tup ds)) s)) (evs L es s) := by rw [e_tup]; exact W_b fun ds s => (by
  unfold wLen
  split <;> first | rfl | exact W_ok | exact W_no | exact W_ex | (simp only [W_ok, W_no, W_ex]; done) | (simp only [r_ok, r_no, r_ex, W_ok, W_no, W_ex]; done))
@[simp ↓] theorem w_lst {es : List ME} : W Q (ev L (.lst es) s) = W (fun ds s => wLen ds.length (Q (.nl ds) s)) (evs L es s) := by rw [e_lst]; exact W_b fun ds s => (by
  unfold wLen
  split <;> first | rfl | exact W_ok | exact W_no | exact W_ex | (simp only [W_ok, W_no, W_ex]; done) | (simp only [r_ok, r_no, r_ex, W_ok, W_no, W_ex]; done))
@[simp ↓] theorem w_idx {x y : ME} : W Q (ev L (.idx x y) s) = W (fun x s => W (fun y s => wOp Q (idxV x y s) s) (ev L y s)) (ev L x s) := by rw [e_idx]; exact W_b fun _ _ => W_b fun _ _ => W_liftO
@[simp ↓] theorem w_slc {x : ME} {lo hi : Option ME} : W Q (ev L (.slc x lo hi) s) = W (fun x s => W (fun l s => W (fun h s => wOp Q (slcV x l h s) s) (evO L hi s)) (evO L lo s)) (ev L x s) := by rw [e_slc]; exact W_b fun _ _ => W_b fun _ _ => W_b fun _ _ => W_liftO
@[simp ↓] theorem w_o0 {A : Option Int → SS → Prop} : W A (evO L none s) = A none s := by rw [e_o0]; first | rfl | exact W_ok | exact W_no | exact W_ex | (simp only [W_ok, W_no, W_ex]; done) | (simp only [r_ok, r_no, r_ex, W_ok, W_no, W_ex]; done)
@[simp ↓] theorem w_o1 {A : Option Int → SS → Prop} {x : ME} : W A (evO L (some x) s) = W (fun v s => wI (fun i => A (some i) s) v) (ev L x s) := by rw [e_o1]; exact W_b fun x s => (by
  cases x with
  | v d => cases d <;> first | rfl | exact W_ok | exact W_no | exact W_ex | (simp only [W_ok, W_no, W_ex]; done) | (simp only [r_ok, r_no, r_ex, W_ok, W_no, W_ex]; done)
  | _ => first | rfl | exact W_ok | exact W_no | exact W_ex | (simp only [W_ok, W_no, W_ex]; done) | (simp only [r_ok, r_no, r_ex, W_ok, W_no, W_ex]; done))
@[simp ↓] theorem w_fld {x : ME} {f : Str} : W Q (ev L (.fld x f) s) = W (fun x s => wOd Q (fldV x f s) s) (ev L x s) := by rw [e_fld]; exact W_b fun _ _ => W_liftD
@[simp ↓] theorem W_liftFS {r : FR} : W Q (liftF r s) = W (fun v st => Q v ⟨s.sl, st⟩) r := by cases s; rw [W_liftF]
@[simp ↓] theorem w_call {x : Str} {es : List ME} : W Q (ev L (.call x es) s) = W (fun ds s => W (fun v st => Q v ⟨s.sl, st⟩) (L.call x ds s.st)) (evs L es s) := by rw [e_call]; exact W_b fun _ _ => W_liftFS
@[simp ↓] theorem w_make {x : Str} {es : List ME} : W Q (ev L (.make x es) s) = W (fun ds s => W (fun v st => Q v ⟨s.sl, st⟩) (L.make x ds s.st)) (evs L es s) := by rw [e_make]; exact W_b fun _ _ => W_liftFS
@[simp ↓] theorem w_bif1 {x : Str} {e : ME} : W Q (ev L (.bif x [e]) s) = W (fun r s => wOp Q (bif1 x r s) s) (ev L e s) := by rw [e_bif1]; exact W_b fun _ _ => W_liftO
@[simp ↓] theorem w_bif2 {x : Str} {e f : ME} : W Q (ev L (.bif x [e, f]) s) = W (fun r s => W (fun d s => W (fun r s => W (fun d' s => wOp Q (bif2 x d d') s) (val r s)) (ev L f s)) (val r s)) (ev L e s) := by rw [e_bif2]; exact W_b fun _ _ => W_b fun _ _ => W_b fun _ _ => W_b fun _ _ => W_liftO
@[simp ↓] theorem w_isi {x : ME} {t : Str} : W Q (ev L (.isi x t) s) = W (fun x s => wOb Q ((tyV x s).bind fun ty => L.isi ty t) s) (ev L x s) := by rw [e_isi]; exact W_b fun x s => (by
  unfold isiF
  cases (tyV x s).bind fun ty => L.isi ty t <;> first | rfl | exact W_ok | exact W_no | exact W_ex | (simp only [W_ok, W_no, W_ex]; done) | (simp only [r_ok, r_no, r_ex, W_ok, W_no, W_ex]; done))
@[simp ↓] theorem w_rev {x : ME} : W Q (ev L (.rev x) s) = W (fun x s => W Q (revF x s)) (ev L x s) := by rw [e_rev, W_bind]
@[simp ↓] theorem w_alloc {x : ME} : W Q (ev L (.alloc x) s) = W (fun x s => W Q (allocF x s)) (ev L x s) := by rw [e_alloc, W_bind]
def trgF (x : RV) (s : SS) : Out SS RV := match x with
  | .v (.int j) => if rngOk j && decide (j ≤ 1000000) then .ok (.v (.tup (rngI 0 j))) s else .no
  | _ => .no
@[simp] theorem trgF_i {n : Nat} (h : n ≤ 1000000) : trgF (.v (.int n)) s = .ok (.v (.tup (rngI 0 n))) s := by 
  show (if rngOk (n : Int) && decide ((n : Int) ≤ 1000000) then Out.ok (RV.v (.tup (rngI 0 n))) s else .no) = _
  rw [if_pos (by simp [rngOk]; omega)]
@[simp ↓] theorem w_trg {x : ME} : W Q (ev L (.trg x) s) = W (fun x s => W Q (trgF x s)) (ev L x s) := by rw [e_trg, W_bind]; first | rfl | exact W_ok | exact W_no | exact W_ex | (simp only [W_ok, W_no, W_ex]; done) | (simp only [r_ok, r_no, r_ex, W_ok, W_no, W_ex]; done)
def lrgF (x : RV) (s : SS) : Out SS RV := match x with
  | .v (.int j) => if rngOk j && decide (j ≤ 1000000) then .ok (.nl (rngI 0 j)) s else .no
  | _ => .no
@[simp] theorem lrgF_i {n : Nat} (h : n ≤ 1000000) : lrgF (.v (.int n)) s = .ok (.nl (rngI 0 n)) s := by
  show (if rngOk (n : Int) && decide ((n : Int) ≤ 1000000) then Out.ok (RV.nl (rngI 0 n)) s else .no) = _
  rw [if_pos (by simp [rngOk]; omega)]
@[simp ↓] theorem w_lrg {x : ME} : W Q (ev L (.lrg x) s) = W (fun x s => W Q (lrgF x s)) (ev L x s) := by
  rw [← W_bind]; congr 1
@[simp ↓] theorem w_sst {x : ME} : W Q (ev L (.sst x) s) = W (fun x s => wOp Q (sstV x s) s) (ev L x s) := by
  have : ev L (.sst x) s = (ev L x s).bind fun x s => lift (sstV x s) s := by rw [ev]
  rw [this]; exact W_b fun _ _ => W_liftO
def isi2F (L : Fns) (t u : Str) (x : RV) (s : SS) : Option Bool := match x with
  | .v d => (tyV (.v d) s).bind fun ty => (L.isi ty t).bind fun b => (L.isi ty u).map fun c => b || c
  | _ => none
@[simp ↓] theorem w_isi2 {x : ME} {t u : Str} : W Q (ev L (.isi2 x t u) s) = W (fun x s => wOb Q (isi2F L t u x s) s) (ev L x s) := by
  have : ev L (.isi2 x t u) s = (ev L x s).bind fun x s => liftB (isi2F L t u x s) s := by
    rw [ev]
    congr 1
    funext x s
    cases x with
    | v d => dsimp only [isi2F]; generalize ((tyV (.v d) s).bind fun ty => (L.isi ty t).bind fun b => (L.isi ty u).map fun c => b || c) = o; cases o <;> rfl
    | nl xs => rfl
    | bw i => rfl
  rw [this]; exact W_b fun _ _ => W_liftB
def wMeth (L : Fns) (Q : RV → SS → Prop) (m : Str) (es : List ME) (x : RV) (c : Dep Q (Option Nat)) (s : SS) : Prop := match x, (c : Option Nat) with
  | .v d, some c => if L.hasM c m = true then W (fun ds s => W (fun v st => Q v ⟨s.sl, st⟩) (L.meth c m (d :: ds) s.st)) (evs L es s) else False
  | _, _ => False
@[simp ↓] theorem w_meth {x : ME} {m : Str} {es : List ME} : W Q (ev L (.meth x m es) s) = W (fun x s => wMeth L Q m es x (mcls x m s) s) (ev L x s) := by rw [e_meth]; exact W_b fun x s => (by
  unfold methF wMeth
  cases x with
  | v d =>
    cases mcls (.v d) m s with
    | none => first | rfl | exact W_ok | exact W_no | exact W_ex | (simp only [W_ok, W_no, W_ex]; done) | (simp only [r_ok, r_no, r_ex, W_ok, W_no, W_ex]; done)
    | some c =>
      dsimp only
      split
      · exact W_b fun _ _ => W_liftFS
      · first | rfl | exact W_ok | exact W_no | exact W_ex | (simp only [W_ok, W_no, W_ex]; done) | (simp only [r_ok, r_no, r_ex, W_ok, W_no, W_ex]; done)
  | _ => first | rfl | exact W_ok | exact W_no | exact W_ex | (simp only [W_ok, W_no, W_ex]; done) | (simp only [r_ok, r_no, r_ex, W_ok, W_no, W_ex]; done))
@[simp] theorem wMeth_y {m : Str} {es : List ME} {d : Dt} {c : Nat} (h : L.hasM c m = true) : wMeth L Q m es (.v d) (some c) s = W (fun ds s => W (fun v st => Q v ⟨s.sl, st⟩) (L.meth c m (d :: ds) s.st)) (evs L es s) := by
  unfold wMeth
  simp only [h, if_true]
@[simp] theorem mcls_i {m : Str} {c : Nat} {ns : List Str} {vs : List Dt} (h : ns.contains m = false) : mcls (.v (.ins c ns vs)) m s = some c := by
  unfold mcls
  simp only
  rw [if_neg (by rw [h]; decide)]
@[simp ↓] theorem w_s0 {A : List Dt → SS → Prop} : W A (evs L [] s) = A [] s := by rw [e_s0]; first | rfl | exact W_ok | exact W_no | exact W_ex | (simp only [W_ok, W_no, W_ex]; done) | (simp only [r_ok, r_no, r_ex, W_ok, W_no, W_ex]; done)
@[simp ↓] theorem w_s1 {A : List Dt → SS → Prop} {e : ME} {r : List ME} : W A (evs L (e :: r) s) = W (fun x s => W (fun d s => W (fun ds s => A (d :: ds) s) (evs L r s)) (val x s)) (ev L e s) := by rw [e_s1]; exact W_b fun _ _ => W_b fun _ _ => W_b fun _ _ => W_ok
/-- x.m(e) of a list -/
def wBme (L : Fns) (Q : RV → SS → Prop) (m : Str) (e : ME) (r : RV) (xs : Dep Q (Option (List Dt))) (s : SS) : Prop := match (xs : Option (List Dt)) with
  | some _ => W (fun y s => W (fun d s => W (fun d s => Q (.v d) s) (wrL r (mthF m d) s)) (val y s)) (ev L e s)
  | none => False
@[simp ↓] theorem w_bme {x e : ME} {m : Str} : W Q (ev L (.bme x m [e]) s) = W (fun r s => wBme L Q m e r (rdt s r) s) (ev L x s) := by rw [e_bme]; exact W_b fun r s => (by
  unfold bmeF wBme
  cases rdt s r with
  | none => first | rfl | exact W_ok | exact W_no | exact W_ex | (simp only [W_ok, W_no, W_ex]; done) | (simp only [r_ok, r_no, r_ex, W_ok, W_no, W_ex]; done)
  | some xs => exact W_b fun _ _ => W_b fun _ _ => W_b fun _ _ => W_ok)
@[simp] theorem wBme_s {m : Str} {e : ME} {r : RV} {xs : List Dt} : wBme L Q m e r (some xs) s = W (fun y s => W (fun d s => W (fun d s => Q (.v d) s) (wrL r (mthF m d) s)) (val y s)) (ev L e s) := rfl
/-! ### statements -/
variable {R : Fl → SS → Prop}
@[simp ↓] theorem w_nil : W R (Mq.execs L [] s) = R .nx s := by rw [x_nil]; first | rfl | exact W_ok | exact W_no | exact W_ex | (simp only [W_ok, W_no, W_ex]; done) | (simp only [r_ok, r_no, r_ex, W_ok, W_no, W_ex]; done)
/-- what follows a statement -/
def nxt (L : Fns) (R : Fl → SS → Prop) (r : List MS) (f : Fl) (s : SS) : Prop := match f with
  | .nx => W R (Mq.execs L r s)
  | f => R f s
@[simp ↓] theorem nxt_nx {r : List MS} : nxt L R r .nx s = W R (Mq.execs L r s) := rfl
@[simp ↓] theorem nxt_ret {r : List MS} {v : RV} : nxt L R r (.ret v) s = R (.ret v) s := rfl
@[simp ↓] theorem nxt_bk {r : List MS} : nxt L R r .bk s = R .bk s := rfl
@[simp ↓] theorem nxt_ct {r : List MS} : nxt L R r .ct s = R .ct s := rfl
@[simp ↓] theorem w_cons {m : MS} {r : List MS} : W R (Mq.execs L (m :: r) s) = W (nxt L R r) (Mq.exec L m s) := by rw [x_cons]; exact W_b fun f s => (by cases f <;> first | rfl | exact W_ok | exact W_no | exact W_ex | (simp only [W_ok, W_no, W_ex]; done) | (simp only [r_ok, r_no, r_ex, W_ok, W_no, W_ex]; done))
@[simp ↓] theorem w_asg {i : Nat} {e : ME} : W R (Mq.exec L (.asg i e) s) = W (fun r s => W (fun x s => R .nx (s.set i x)) (toSl r s)) (ev L e s) := by rw [x_asg]; exact W_b fun _ _ => W_b fun _ _ => W_ok
@[simp ↓] theorem w_par {i j : Nat} {e f : ME} : W R (Mq.exec L (.par i j e f) s) = W (fun ds s => W R (parF i j ds s)) (evs L [e, f] s) := by rw [x_par, W_bind]
@[simp ↓] theorem w_unp {t : Tg} {e : ME} : W R (Mq.exec L (.unp t e) s) = W (fun r s => W (fun d s => W (fun _ s => R .nx s) (bindT t d s)) (val r s)) (ev L e s) := by rw [x_unp]; exact W_b fun _ _ => W_b fun _ _ => W_b fun _ _ => W_ok
@[simp ↓] theorem w_bn {A : Unit → SS → Prop} {i : Nat} {d : Dt} : W A (bindT (.n i) d s) = A () (s.set i (.v d)) := by rw [bindT]; first | rfl | exact W_ok | exact W_no | exact W_ex | (simp only [W_ok, W_no, W_ex]; done) | (simp only [r_ok, r_no, r_ex, W_ok, W_no, W_ex]; done)
@[simp ↓] theorem w_bt {A : Unit → SS → Prop} {ts : List Tg} {ds : List Dt} : W A (bindT (.t ts) (.tup ds) s) = W A (bindTs ts ds s) := by rw [bindT]
@[simp ↓] theorem w_bs0 {A : Unit → SS → Prop} : W A (bindTs [] [] s) = A () s := by rw [bindTs]; first | rfl | exact W_ok | exact W_no | exact W_ex | (simp only [W_ok, W_no, W_ex]; done) | (simp only [r_ok, r_no, r_ex, W_ok, W_no, W_ex]; done)
@[simp ↓] theorem w_bs1 {A : Unit → SS → Prop} {t : Tg} {ts : List Tg} {d : Dt} {ds : List Dt} : W A (bindTs (t :: ts) (d :: ds) s) = W (fun _ s => W A (bindTs ts ds s)) (bindT t d s) := by rw [bindTs, W_bind]
@[simp ↓] theorem w_seti {x y e : ME} : W R (Mq.exec L (.seti x y e) s) = W (fun v s => W (fun d s => W (fun r s => W (fun k s => wI (fun k => W (fun _ s => R .nx s) (wrL r (setF k d) s)) k) (ev L y s)) (ev L x s)) (val v s)) (ev L e s) := by rw [x_seti]; exact W_b fun _ _ => W_b fun _ _ => W_b fun _ _ => W_b fun _ _ => (W_b (R := fun k s => W (fun _ s => R .nx s) (wrL _ (setF k _) s)) fun _ _ => W_b fun _ _ => W_ok).trans W_asI
@[simp ↓] theorem w_setf {x e : ME} {f : Str} : W R (Mq.exec L (.setf x f e) s) = W (fun y s => W (fun d s => W (fun r s => W (fun _ s => R .nx s) (wrF r f d s)) (ev L x s)) (val y s)) (ev L e s) := by rw [x_setf]; exact W_b fun _ _ => W_b fun _ _ => W_b fun _ _ => W_b fun _ _ => W_ok
@[simp ↓] theorem w_expr {e : ME} : W R (Mq.exec L (.expr e) s) = W (fun _ s => R .nx s) (ev L e s) := by rw [x_expr]; exact W_b fun _ _ => W_ok
@[simp ↓] theorem w_ret {e : ME} : W R (Mq.exec L (.ret e) s) = W (fun r s => W (fun r s => R (.ret r) s) (toRet r s)) (ev L e s) := by rw [x_ret]; exact W_b fun _ _ => W_b fun _ _ => W_ok
@[simp ↓] theorem w_retN : W R (Mq.exec L .retN s) = R (.ret (.v .non)) s := by rw [x_retN]; first | rfl | exact W_ok | exact W_no | exact W_ex | (simp only [W_ok, W_no, W_ex]; done) | (simp only [r_ok, r_no, r_ex, W_ok, W_no, W_ex]; done)
@[simp ↓] theorem w_brk : W R (Mq.exec L .brk s) = R .bk s := by rw [x_brk]; first | rfl | exact W_ok | exact W_no | exact W_ex | (simp only [W_ok, W_no, W_ex]; done) | (simp only [r_ok, r_no, r_ex, W_ok, W_no, W_ex]; done)
@[simp ↓] theorem w_cont : W R (Mq.exec L .cont s) = R .ct s := by rw [x_cont]; first | rfl | exact W_ok | exact W_no | exact W_ex | (simp only [W_ok, W_no, W_ex]; done) | (simp only [r_ok, r_no, r_ex, W_ok, W_no, W_ex]; done)
@[simp ↓] theorem w_pass : W R (Mq.exec L .pass s) = R .nx s := by rw [x_pass]; first | rfl | exact W_ok | exact W_no | exact W_ex | (simp only [W_ok, W_no, W_ex]; done) | (simp only [r_ok, r_no, r_ex, W_ok, W_no, W_ex]; done)
@[simp ↓] theorem w_ifs {c : ME} {x y : List MS} : W R (Mq.exec L (.ifs c x y) s) = W (fun v s => wB (fun k => wIf k (W R (Mq.execs L x s)) (W R (Mq.execs L y s))) v) (ev L c s) := by rw [x_ifs]; exact W_b fun _ s => (W_b (R := fun k s => wIf k (W R (Mq.execs L x s)) (W R (Mq.execs L y s))) fun _ _ => W_if).trans W_asB
def wAug (L : Fns) (R : Fl → SS → Prop) (i : Nat) (op : Bop) (e : ME) (x : Dep R (Option Sl)) (s : SS) : Prop := match (x : Option Sl) with
  | some (.v (.int x)) => W (fun r s => wI (fun y => W (fun z s => R .nx (s.set i (.v (.int z)))) (augI op x y s)) r) (ev L e s)
  | _ => False
@[simp] theorem wAug_i {i : Nat} {op : Bop} {e : ME} {x : Int} : wAug L R i op e (some (.v (.int x))) s = W (fun r s => wI (fun y => W (fun z s => R .nx (s.set i (.v (.int z)))) (augI op x y s)) r) (ev L e s) := rfl
@[simp ↓] theorem w_aug {i : Nat} {op : Bop} {e : ME} : W R (Mq.exec L (.aug i op e) s) = wAug L R i op e s.sl[i]? s := by rw [Mq.exec]; exact (by
  cases s.sl[i]? with
  | none => first | rfl | exact W_ok | exact W_no | exact W_ex | (simp only [W_ok, W_no, W_ex]; done) | (simp only [r_ok, r_no, r_ex, W_ok, W_no, W_ex]; done)
  | some x =>
    cases x with
    | v d =>
      cases d with
      | int x => exact W_b fun _ s => (W_b (R := fun y s => W (fun z s => R .nx (s.set i (.v (.int z)))) (augI op x y s)) fun _ _ => W_b fun _ _ => W_ok).trans W_asI
      | _ => first | rfl | exact W_ok | exact W_no | exact W_ex | (simp only [W_ok, W_no, W_ex]; done) | (simp only [r_ok, r_no, r_ex, W_ok, W_no, W_ex]; done)
    | _ => first | rfl | exact W_ok | exact W_no | exact W_ex | (simp only [W_ok, W_no, W_ex]; done) | (simp only [r_ok, r_no, r_ex, W_ok, W_no, W_ex]; done))
@[simp ↓] theorem w_ai1 {A : Int → SS → Prop} {x y : Int} : W A (augI .add x y s) = A (x + y) s := W_ok
@[simp ↓] theorem w_ai2 {A : Int → SS → Prop} {x y : Int} : W A (augI .sub x y s) = A (x - y) s := W_ok
def wAugi (L : Fns) (R : Fl → SS → Prop) (r : RV) (k : Int) (op : Bop) (e : ME) (x : Dep R (Option Dt)) (s : SS) : Prop := match (x : Option Dt) with
  | some (.int x) => W (fun y s => wI (fun y => W (fun z s => W (fun _ s => R .nx s) (wrL r (setF k (.int z)) s)) (augI op x y s)) y) (ev L e s)
  | _ => False
@[simp] theorem wAugi_i {r : RV} {k : Int} {op : Bop} {e : ME} {x : Int} : wAugi L R r k op e (some (.int x)) s = W (fun y s => wI (fun y => W (fun z s => W (fun _ s => R .nx s) (wrL r (setF k (.int z)) s)) (augI op x y s)) y) (ev L e s) := rfl
@[simp ↓] theorem w_augi {x y e : ME} {op : Bop} : W R (Mq.exec L (.augi x y op e) s) = W (fun r s => W (fun k s => wI (fun k => wAugi L R r k op e ((rdt s r).bind fun xs => L2.atI xs k) s) k) (ev L y s)) (ev L x s) := by
  rw [Mq.exec]
  refine W_b fun r s => W_b fun k s => Eq.trans (b := W (fun k s => wAugi L R r k op e ((rdt s r).bind fun xs => L2.atI xs k) s) (asI k s)) (W_b fun k s => ?_) W_asI
  cases (rdt s r).bind fun xs => L2.atI xs k with
  | none => first | rfl | exact W_ok | exact W_no | exact W_ex | (simp only [W_ok, W_no, W_ex]; done) | (simp only [r_ok, r_no, r_ex, W_ok, W_no, W_ex]; done)
  | some x =>
    cases x with
    | int x => exact W_b fun v s => Eq.trans (b := W (fun y s => W (fun z s => W (fun _ s => R .nx s) (wrL r (setF k (.int z)) s)) (augI op x y s)) (asI v s)) (W_b fun _ _ => W_b fun _ _ => W_b fun _ _ => W_ok) W_asI
    | _ => first | rfl | exact W_ok | exact W_no | exact W_ex | (simp only [W_ok, W_no, W_ex]; done) | (simp only [r_ok, r_no, r_ex, W_ok, W_no, W_ex]; done)
@[simp ↓] theorem w_try {b : List MS} {hs : MH} : W R (Mq.exec L (.tryx b hs) s) = W R (tryF L hs (Mq.execs L b s)) := by rw [x_try]
end
/-! ### loops -/
/-- behind a turn of a for loop -/
def forQ (P : Nat → SS → Prop) (Q : Fl → SS → Prop) (j : Nat) (f : Fl) (s : SS) : Prop := match f with
  | .nx => P (j + 1) s
  | .ct => P (j + 1) s
  | .bk => Q .nx s
  | .ret r => Q (.ret r) s
@[simp ↓] theorem forQ_nx {P : Nat → SS → Prop} {Q : Fl → SS → Prop} {j : Nat} : forQ P Q j .nx s = P (j + 1) s := rfl
@[simp ↓] theorem forQ_ct {P : Nat → SS → Prop} {Q : Fl → SS → Prop} {j : Nat} : forQ P Q j .ct s = P (j + 1) s := rfl
@[simp ↓] theorem forQ_bk {P : Nat → SS → Prop} {Q : Fl → SS → Prop} {j : Nat} : forQ P Q j .bk s = Q .nx s := rfl
@[simp ↓] theorem forQ_ret {P : Nat → SS → Prop} {Q : Fl → SS → Prop} {j : Nat} {r : RV} : forQ P Q j (.ret r) s = Q (.ret r) s := rfl
theorem W_forL {ck : SS → Bool} {tg : SS → Dt → Out SS Unit} {bd : SS → Out SS Fl} (P : Nat → SS → Prop) (Q : Fl → SS → Prop) : ∀ (xs : List Dt) (i : Nat) (s : SS), P i s →
    (∀ j s, P j s → ck s = true) → (∀ s, P (i + xs.length) s → Q .nx s) → (∀ (j : Nat) (x : Dt) (s : SS), i ≤ j → xs[j - i]? = some x → P j s → W (fun _ s => W (forQ P Q j) (bd s)) (tg s x)) → W Q (forL ck tg bd xs s)
  | [], i, s, h, _, he, _ => by rw [forL, W_ok]; exact he s h
  | x :: xs, i, s, h, hk, he, st => by
    have h1 := st i x s (Nat.le_refl _) (by simp) h
    obtain ⟨_, s1, e1, h2⟩ := h1.eq
    obtain ⟨f, s2, e2, h3⟩ := h2.eq
    have go : P (i + 1) s2 → W Q (forL ck tg bd xs s2) := fun p => W_forL P Q xs (i + 1) s2 p hk (fun s h => he s (by rw [List.length_cons]; have : i + (xs.length + 1) = i + 1 + xs.length := by omega
                                                                                                                      rw [this]; exact h)) fun j y s hj hy hp => st j y s (by omega) (by
      have : j - i = (j - (i + 1)) + 1 := by omega
      rw [this, List.getElem?_cons_succ]; exact hy) hp
    rw [forL, e1, r_ok, e2, r_ok]
    cases f with
    | nx => simp only [hk _ _ h3, if_true]; exact go h3
    | ct => simp only [hk _ _ h3, if_true]; exact go h3
    | bk => exact W.of rfl h3
    | ret r => exact W.of rfl h3
/-- a for loop over frozen things -/
theorem W_for {tg : Tg} {src : MI} {body : List MS} {Q : Fl → SS → Prop} {d : Dt} {xs ys : List Dt} (P : Nat → SS → Prop) (hI : evI L src s = .ok ⟨xs, .v d, ys⟩ s1) (ck : ∀ z, chk ys (.v d) z = true) (h0 : P 0 s1)
    (he : ∀ s, P xs.length s → Q .nx s) (st : ∀ (j : Nat) (x : Dt) (s : SS), xs[j]? = some x → P j s → W (fun _ s => W (forQ P Q j) (Mq.execs L body s)) (bindT tg x s)) : W Q (Mq.exec L (.forr tg src body) s) := by
  rw [x_for, hI, r_ok]
  show W Q ((forL _ _ _ xs s1).fix fun s' => s')
  rw [W_fix]
  exact W_forL P Q xs 0 s1 h0 (fun _ s _ => ck s) (fun s h => he s (by rw [Nat.zero_add] at h; exact h)) fun j x s _ hx hp => st j x s (by rw [Nat.sub_zero] at hx; exact hx) hp
/-- behind a turn of a while loop -/
def whQ (P : Nat → SS → Prop) (Q : Fl → SS → Prop) (m : Nat) (f : Fl) (s : SS) : Prop := match f with
  | .nx => ∃ k, k < m ∧ P k s
  | .ct => ∃ k, k < m ∧ P k s
  | .bk => Q .nx s
  | .ret r => Q (.ret r) s
@[simp ↓] theorem whQ_nx {P : Nat → SS → Prop} {Q : Fl → SS → Prop} {m : Nat} : whQ P Q m .nx s = ∃ k, k < m ∧ P k s := rfl
@[simp ↓] theorem whQ_ct {P : Nat → SS → Prop} {Q : Fl → SS → Prop} {m : Nat} : whQ P Q m .ct s = ∃ k, k < m ∧ P k s := rfl
@[simp ↓] theorem whQ_bk {P : Nat → SS → Prop} {Q : Fl → SS → Prop} {m : Nat} : whQ P Q m .bk s = Q .nx s := rfl
@[simp ↓] theorem whQ_ret {P : Nat → SS → Prop} {Q : Fl → SS → Prop} {m : Nat} {r : RV} : whQ P Q m (.ret r) s = Q (.ret r) s := rfl
theorem W_whN {c : SS → Out SS Bool} {bd : SS → Out SS Fl} (P : Nat → SS → Prop) (Q : Fl → SS → Prop) (st : ∀ m s, P m s → W (fun k s => wIf k (W (whQ P Q m) (bd s)) (Q .nx s)) (c s)) : ∀ (n m : Nat) (s : SS), m < n → P m s → W Q (whN c bd n s)
  | 0, m, s, hm, _ => by omega
  | n + 1, m, s, hm, h => by
    obtain ⟨k, s1, e1, h2⟩ := (st m s h).eq
    rw [whN, e1, r_ok]
    cases k with
    | false => exact W.of rfl h2
    | true =>
      rw [wIf_t] at h2
      obtain ⟨f, s2, e2, h3⟩ := h2.eq
      rw [if_pos rfl, e2, r_ok]
      cases f with
      | nx => obtain ⟨k, hk, p⟩ := h3; exact W_whN P Q st n k s2 (by omega) p
      | ct => obtain ⟨k, hk, p⟩ := h3; exact W_whN P Q st n k s2 (by omega) p
      | bk => exact W.of rfl h3
      | ret r => exact W.of rfl h3
theorem W_whl {n m : Nat} {c : ME} {body : List MS} {Q : Fl → SS → Prop} (P : Nat → SS → Prop) (hm : m < n) (h0 : P m s) (st : ∀ m s, P m s → W (fun v s => wB (fun k => wIf k (W (whQ P Q m) (Mq.execs L body s)) (Q .nx s)) v) (ev L c s)) : W Q (Mq.exec L (.whl n c body) s) := by
  rw [x_whl]
  refine W_whN P Q (fun m s h => ?_) n m s hm h0
  rw [W_bind]
  refine (st m s h).mono fun v s h => ?_
  rw [W_asB]
  exact h
/-! ### comprehensions -/
theorem W_lcL {ck : SS → Bool} {tg : SS → Dt → Out SS Unit} {own : List Nat} {c : SS → Out SS Bool} {e : SS → Out SS Dt} (P : Nat → List Dt → SS → Prop) (Q : List Dt → SS → Prop) : ∀ (xs : List Dt) (i : Nat) (acc : List Dt) (s : SS), P i acc s →
    (∀ s, ck s = true) → acc.length + xs.length ≤ sizeLine → (∀ acc s, P (i + xs.length) acc s → Q acc s) →
    (∀ (j : Nat) (x : Dt) (acc : List Dt) (s : SS), i ≤ j → xs[j - i]? = some x → P j acc s → W (fun _ s => W (fun b s => wIf b (W (fun d s => P (j + 1) (acc ++ [d]) s) (e s)) (P (j + 1) acc s)) (c s)) (tg (wipeS own s) x)) → W Q (lcLoop ck tg own c e xs acc s)
  | [], i, acc, s, h, _, _, he, _ => by rw [lcLoop, W_ok]; exact he acc s h
  | x :: xs, i, acc, s, h, hk, hl, he, st => by
    have h1 := st i x acc s (Nat.le_refl _) (by simp) h
    obtain ⟨_, s1, e1, h2⟩ := h1.eq
    obtain ⟨b, s2, e2, h3⟩ := h2.eq
    rw [List.length_cons] at hl
    have go : ∀ acc s2, acc.length + xs.length ≤ sizeLine → P (i + 1) acc s2 → W Q (lcLoop ck tg own c e xs acc s2) := fun acc s2 hl p => W_lcL P Q xs (i + 1) acc s2 p hk hl (fun acc s h => he acc s (by rw [List.length_cons, show i + (xs.length + 1) = i + 1 + xs.length by omega]; exact h)) fun j y acc s hj hy hp => st j y acc s (by omega) (by
      have : j - i = (j - (i + 1)) + 1 := by omega
      rw [this, List.getElem?_cons_succ]; exact hy) hp
    rw [lcLoop, e1, r_ok, e2, r_ok]
    cases b with
    | true =>
      rw [wIf_t] at h3
      obtain ⟨d, s3, e3, p⟩ := h3.eq
      rw [if_pos rfl, e3, r_ok, if_pos ⟨by omega, hk _⟩]
      exact go _ _ (by rw [List.length_append, List.length_singleton]; omega) p
    | false =>
      rw [wIf_f] at h3
      rw [if_neg (by decide), if_pos (hk _)]
      exact go _ _ (by omega) h3
/-- a comprehension over frozen things -/
theorem W_lc {el : ME} {tg : Tg} {src : MI} {own : List Nat} {Q : RV → SS → Prop} {d : Dt} {xs ys : List Dt} (P : Nat → List Dt → SS → Prop) (hI : evI L src s = .ok ⟨xs, .v d, ys⟩ s1) (ck : ∀ z, chk ys (.v d) z = true) (hw : wipeOk own s1 = true) (h0 : P 0 [] s1) (hl : xs.length ≤ sizeLine)
    (he : ∀ acc s, P xs.length acc s → Q (.nl acc) (backS s1 own s)) (st : ∀ (j : Nat) (x : Dt) (acc : List Dt) (s : SS), xs[j]? = some x → P j acc s → W (fun _ s => W (fun v s => W (fun d s => P (j + 1) (acc ++ [d]) s) (val v s)) (ev L el s)) (bindT tg x (wipeS own s))) : W Q (ev L (.lc el tg src none own) s) := by
  rw [lc_ev, hI, r_ok, if_pos hw, W_bind, W_fix]
  refine W_lcL P (fun acc s => W Q (.ok (.nl acc) (unlock (.v d) s1 (backS s1 own s)))) xs 0 [] s1 h0 ck (by simpa using hl) (fun acc s h => W.of rfl (he acc s (by rw [Nat.zero_add] at h; exact h))) fun j x acc s _ hx hp => ?_
  refine (st j x acc s (by rw [Nat.sub_zero] at hx; exact hx) hp).mono fun _ s h => ?_
  show W _ (.ok true s)
  rw [W_ok, wIf_t]
  show W _ ((ev L el s).bind val).noex
  rw [W_nox, W_bind]
  exact h
/-- .. with a test -/
theorem W_lcC {el cd : ME} {tg : Tg} {src : MI} {own : List Nat} {Q : RV → SS → Prop} {d : Dt} {xs ys : List Dt} (P : Nat → List Dt → SS → Prop) (hI : evI L src s = .ok ⟨xs, .v d, ys⟩ s1) (ck : ∀ z, chk ys (.v d) z = true) (hw : wipeOk own s1 = true) (h0 : P 0 [] s1) (hl : xs.length ≤ sizeLine)
    (he : ∀ acc s, P xs.length acc s → Q (.nl acc) (backS s1 own s)) (st : ∀ (j : Nat) (x : Dt) (acc : List Dt) (s : SS), xs[j]? = some x → P j acc s → W (fun _ s => W (fun v s => wB (fun b => wIf b (W (fun v s => W (fun d s => P (j + 1) (acc ++ [d]) s) (val v s)) (ev L el s)) (P (j + 1) acc s)) v) (ev L cd s)) (bindT tg x (wipeS own s))) : W Q (ev L (.lc el tg src (some cd) own) s) := by
  rw [lc_ev, hI, r_ok, if_pos hw, W_bind, W_fix]
  refine W_lcL P (fun acc s => W Q (.ok (.nl acc) (unlock (.v d) s1 (backS s1 own s)))) xs 0 [] s1 h0 ck (by simpa using hl) (fun acc s h => W.of rfl (he acc s (by rw [Nat.zero_add] at h; exact h))) fun j x acc s _ hx hp => ?_
  refine (st j x acc s (by rw [Nat.sub_zero] at hx; exact hx) hp).mono fun _ s h => ?_
  show W _ (((ev L cd s).bind asB).noex).noex
  rw [W_nox, W_nox, W_bind]
  refine h.mono fun v s h => ?_
  rw [W_asB]
  cases v with
  | v d =>
    cases d with
    | bl b =>
      cases b with
      | true =>
        show W _ ((ev L el s).bind val).noex
        rw [W_nox, W_bind]
        exact h
      | false => exact h
    | _ => exact h
  | _ => exact h
/-- a comprehension that changes nothing, over things told by f -/
theorem e_lcP {A : Type} {el : ME} {tg : Tg} {src : MI} {own : List Nat} {d : Dt} {ys : List Dt} (zs : List A) (f : A → Dt) (g : A → Dt) (hI : evI L src s = .ok ⟨zs.map f, .v d, ys⟩ s1) (ck : ∀ z, chk ys (.v d) z = true) (hw : wipeOk own s1 = true) (hb : backS s1 own s1 = s1) (hl : zs.length ≤ sizeLine)
    (he : ∀ z ∈ zs, W (fun _ s => W (fun v s => W (fun d s => d = g z ∧ wipeS own s = wipeS own s1 ∧ backS s1 own s = s1) (val v s)) (ev L el s)) (bindT tg (f z) (wipeS own s1))) : ev L (.lc el tg src none own) s = .ok (.nl (zs.map g)) s1 := by
  have w : W (fun v t => v = .nl (zs.map g) ∧ t = s1) (ev L (.lc el tg src none own) s) := by
    refine W_lc (fun j acc s => acc = (zs.take j).map g ∧ wipeS own s = wipeS own s1 ∧ backS s1 own s = s1) hI ck hw ⟨rfl, rfl, hb⟩ (by rw [List.length_map]; exact hl) (fun acc s h => ⟨by rw [h.1, List.length_map, List.take_length], h.2.2⟩) fun j x acc s hx hp => ?_
    obtain ⟨rfl, h2, h3⟩ := hp
    rw [List.getElem?_map] at hx
    cases hz : zs[j]? with
    | none => rw [hz] at hx; cases hx
    | some z =>
      rw [hz] at hx
      cases hx
      rw [h2]
      refine (he z (List.mem_of_getElem? hz)).mono fun _ s h => h.mono fun v s h => h.mono fun d s h => ⟨?_, h.2⟩
      obtain ⟨hj, ez⟩ := (List.getElem?_eq_some_iff.mp hz)
      rw [h.1, List.take_succ_eq_append_getElem hj, List.map_append, ez]; rfl
  obtain ⟨v, t, e, rfl, rfl⟩ := w.eq
  exact e
/-- .. with a test -/
theorem e_lcQ {A : Type} {el cd : ME} {tg : Tg} {src : MI} {own : List Nat} {d : Dt} {ys : List Dt} (zs : List A) (f : A → Dt) (p : A → Bool) (g : A → Dt) (hI : evI L src s = .ok ⟨zs.map f, .v d, ys⟩ s1) (ck : ∀ z, chk ys (.v d) z = true) (hw : wipeOk own s1 = true) (hb : backS s1 own s1 = s1) (hl : zs.length ≤ sizeLine)
    (he : ∀ z ∈ zs, W (fun _ s => W (fun v s => v = .v (.bl (p z)) ∧ wIf (p z) (W (fun v s => W (fun d s => d = g z ∧ wipeS own s = wipeS own s1 ∧ backS s1 own s = s1) (val v s)) (ev L el s)) (wipeS own s = wipeS own s1 ∧ backS s1 own s = s1)) (ev L cd s)) (bindT tg (f z) (wipeS own s1))) : ev L (.lc el tg src (some cd) own) s = .ok (.nl ((zs.filter p).map g)) s1 := by
  have w : W (fun v t => v = .nl ((zs.filter p).map g) ∧ t = s1) (ev L (.lc el tg src (some cd) own) s) := by
    refine W_lcC (fun j acc s => acc = ((zs.take j).filter p).map g ∧ wipeS own s = wipeS own s1 ∧ backS s1 own s = s1) hI ck hw ⟨rfl, rfl, hb⟩ (by rw [List.length_map]; exact hl) (fun acc s h => ⟨by rw [h.1, List.length_map, List.take_length], h.2.2⟩) fun j x acc s hx hp => ?_
    obtain ⟨rfl, h2, h3⟩ := hp
    rw [List.getElem?_map] at hx
    cases hz : zs[j]? with
    | none => rw [hz] at hx; cases hx
    | some z =>
      rw [hz] at hx
      cases hx
      obtain ⟨hj, ez⟩ := (List.getElem?_eq_some_iff.mp hz)
      rw [h2]
      refine (he z (List.mem_of_getElem? hz)).mono fun _ s h => h.mono fun v s h => ?_
      obtain ⟨rfl, h⟩ := h
      rw [wB_b]
      rw [List.take_succ_eq_append_getElem hj, List.filter_append, ez]
      cases hp : p z with
      | true =>
        rw [hp, wIf_t] at h
        rw [wIf_t]
        refine h.mono fun v s h => h.mono fun d s h => ⟨?_, h.2⟩
        rw [h.1, List.map_append]
        simp [hp]
      | false =>
        rw [hp, wIf_f] at h
        rw [wIf_f]
        refine ⟨?_, h⟩
        simp [hp]
  obtain ⟨v, t, e, rfl, rfl⟩ := w.eq
  exact e
end
end Mq

/-! MqVal3: types, comparisons, slices of plain data, by simp. -/
namespace Mq
open PySem L2
section
variable {L : Fns} {s : SS}
@[simp] theorem ty_non : tyV (.v .non) s = some (.b "NoneType") := rfl
@[simp] theorem ty_bl {b : Bool} : tyV (.v (.bl b)) s = some (.b "bool") := rfl
@[simp] theorem ty_int {b : Int} : tyV (.v (.int b)) s = some (.b "int") := rfl
@[simp] theorem ty_str {b : Str} : tyV (.v (.str b)) s = some (.b "str") := rfl
@[simp] theorem ty_tup {b : List Dt} : tyV (.v (.tup b)) s = some (.b "tuple") := rfl
@[simp] theorem ty_lst {b : List Dt} : tyV (.v (.lst b)) s = some (.b "list") := rfl
@[simp] theorem ty_nl {b : List Dt} : tyV (.nl b) s = some (.b "list") := rfl
@[simp] theorem ty_dct : tyV (.v .dct) s = some (.b "dict") := rfl
@[simp] theorem ty_ins {c : Nat} {ns : List Str} {vs : List Dt} : tyV (.v (.ins c ns vs)) s = some (.c c) := rfl
theorem ne_eqD {a b : RV} {x : Dt} (h1 : rdD s a = some x) (h2 : rdD s b = some x) (hf : flat 40 x = true) : cmpV .ne a b s = some false := by
  show (match rdD s a, rdD s b with
    | some x, some y => if flat 40 x && flat 40 y then some (!deq x y) else none
    | _, _ => none) = _
  rw [h1, h2]
  simp [hf, deq_self 40 x hf]
theorem eq_eqD {a b : RV} {x : Dt} (h1 : rdD s a = some x) (h2 : rdD s b = some x) (hf : flat 40 x = true) : cmpV .eq a b s = some true := by
  show (match rdD s a, rdD s b with
    | some x, some y => if flat 40 x && flat 40 y then some (deq x y) else none
    | _, _ => none) = _
  rw [h1, h2]
  simp [hf, deq_self 40 x hf]
theorem rdD_bw {i : Nat} {xs : List Dt} (h : s.sl[i]? = some (.ol xs)) : rdD s (.bw i) = some (.lst xs) := by
  show (rdt s (.bw i)).map Dt.lst = _
  unfold rdt
  simp only [h]; rfl
theorem rdt_bw {i : Nat} {xs : List Dt} (h : s.sl[i]? = some (.ol xs)) : rdt s (.bw i) = some xs := by
  unfold rdt
  simp only [h]
theorem rdt_ref {n : Nat} {xs : List Dt} (h : s.st[n]? = some (.l xs)) : rdt s (.v (.ref n)) = some xs := by
  unfold rdt
  simp only [h]
@[simp] theorem rdt_nl {xs : List Dt} : rdt s (.nl xs) = some xs := rfl
@[simp] theorem rdt_lst {xs : List Dt} : rdt s (.v (.lst xs)) = some xs := rfl
@[simp] theorem rdl_nl {xs : List Dt} : rdl s (.nl xs) = some xs := rfl
@[simp] theorem rdl_lst {xs : List Dt} : rdl s (.v (.lst xs)) = some xs := rfl
@[simp] theorem rdl_rol {xs : List Dt} : rdl s (.v (.rol xs)) = some xs := rfl
@[simp] theorem rds_tup {xs : List Dt} : rds s (.v (.tup xs)) = some xs := rfl
@[simp] theorem rds_nl {xs : List Dt} : rds s (.nl xs) = some xs := rfl
@[simp] theorem rds_lst {xs : List Dt} : rds s (.v (.lst xs)) = some xs := rfl
@[simp] theorem rdD_nl {xs : List Dt} : rdD s (.nl xs) = some (.lst xs) := rfl
@[simp] theorem slc_tup {xs : List Dt} {lo hi : Option Int} : slcV (.v (.tup xs)) lo hi s = some (.v (.tup (cutD xs lo hi))) := rfl
@[simp] theorem slc_nl {xs : List Dt} {lo hi : Option Int} : slcV (.nl xs) lo hi s = some (.nl (cutD xs lo hi)) := rfl
@[simp] theorem slc_lst {xs : List Dt} {lo hi : Option Int} : slcV (.v (.lst xs)) lo hi s = some (.nl (cutD xs lo hi)) := rfl
theorem slc_bwO {i : Nat} {xs : List Dt} {lo hi : Option Int} (h : s.sl[i]? = some (.ol xs)) : slcV (.bw i) lo hi s = some (.nl (cutD xs lo hi)) := by
  unfold slcV rdl rdt
  simp only [h]
theorem toSl_bw {i : Nat} {xs : List Dt} (h : s.sl[i]? = some (.ol xs)) : toSl (.bw i) s = .ok (.v (.lst xs)) (s.set i (.v (.lst xs))) := by
  show (val (.bw i) s).bind _ = _
  unfold val
  simp only [h]; rfl
theorem val_bwO {i : Nat} {xs : List Dt} (h : s.sl[i]? = some (.ol xs)) : val (.bw i) s = .ok (.lst xs) (s.set i (.v (.lst xs))) := by
  unfold val; simp only [h]
theorem toRet_bw {i : Nat} {xs : List Dt} (h : s.sl[i]? = some (.ol xs)) : toRet (.bw i) s = .ok (.nl xs) s := by
  unfold toRet; simp only [h]
theorem add_nn {a b : List Dt} (h : a.length + b.length ≤ sizeLine) : binV .add (.nl a) (.nl b) s = some (.nl (a ++ b)) := by
  show (if a.length + b.length ≤ sizeLine then some (RV.nl (a ++ b)) else none) = _
  rw [if_pos h]
theorem sz6 {n : Nat} (h : n ≤ 1000000) : n ≤ sizeLine := by rw [sizeLine_eq]; omega
/-- sums of tuples and lists that are not long -/
@[simp] theorem tt_add {xs ys : List Dt} (hl : xs.length + ys.length ≤ 100000) : binV .add (.v (.tup xs)) (.v (.tup ys)) s = some (.v (.tup (xs ++ ys))) := add_tt (sz hl)
@[simp] theorem nn_add {a b : List Dt} (h : a.length + b.length ≤ 100000) : binV .add (.nl a) (.nl b) s = some (.nl (a ++ b)) := add_nn (sz h)
theorem bn_add {i : Nat} {xs ys : List Dt} (h : s.sl[i]? = some (.ol xs)) (hl : xs.length + ys.length ≤ 100000) : binV .add (.bw i) (.nl ys) s = some (.nl (xs ++ ys)) := add_bn h (sz hl)
theorem W.toEq {S a : Type} {o : Out S a} {x : a} {t : S} (h : W (fun v s => v = x ∧ s = t) o) : o = .ok x t := by
  obtain ⟨v, s, e, rfl, rfl⟩ := h.eq
  exact e
/-- a test whose value is known -/
@[simp] theorem isn_bl {b c : Bool} : cmpV .isn (.v (.bl b)) (.v (.bl c)) s = some (b == c) := rfl
@[simp] theorem notn_bl {b c : Bool} : cmpV .notn (.v (.bl b)) (.v (.bl c)) s = some (!(b == c)) := rfl
@[simp] theorem isn_non {d : Dt} : cmpV .isn (.v d) (.v .non) s = some (match d with | .non => true | _ => false) := by cases d <;> rfl
@[simp] theorem notn_non {d : Dt} : cmpV .notn (.v d) (.v .non) s = some (match d with | .non => false | _ => true) := by cases d <;> rfl
/-- loops over ranges -/
theorem i_rngN {ms : List ME} {n : Int} {t : SS} (h : evs L ms s = .ok [.int n] t) (hn : n ≤ 1000000) (h0 : 0 ≤ n) : evI L (.rng ms) s = .ok ⟨rngI 0 n, .v .non, []⟩ t := i_rng h (by simp [rngOk]; omega)
theorem rngI_map (n : Nat) : rngI 0 (n : Int) = (List.range n).map fun (i : Nat) => Dt.int (i : Int) := by
  unfold rngI
  simp
theorem rngI_len (n : Nat) : (rngI 0 (n : Int)).length = n := by simp [rngI]
theorem rngI_at {n j : Nat} {x : Dt} (h : (rngI 0 (n : Int))[j]? = some x) : x = .int j ∧ j < n := by
  have hj : j < n := by
    have := (List.getElem?_eq_some_iff.mp h).1
    rwa [rngI_len] at this
  simp [rngI] at h
  obtain ⟨a, ha, rfl⟩ := h
  rw [List.getElem?_range hj] at ha
  cases ha
  exact ⟨rfl, hj⟩
/-- for j in range(n) -/
theorem W_rng {i : Nat} {ms : List ME} {body : List MS} {Q : Fl → SS → Prop} (n : Nat) (P : Nat → SS → Prop) (h : evs L ms s = .ok [.int (n : Int)] s) (hn : n ≤ 1000000) (h0 : P 0 s) (he : ∀ s, P n s → Q .nx s)
    (st : ∀ (j : Nat) (s : SS), j < n → P j s → W (forQ P Q j) (Mq.execs L body (s.set i (.v (.int (j : Int)))))) : W Q (Mq.exec L (.forr (.n i) (.rng ms) body) s) := by
  refine W_for P (i_rngN h (by omega) (by omega)) (fun _ => rfl) h0 (fun s h => he s (by rw [rngI_len] at h; exact h)) fun j x s hx hp => ?_
  obtain ⟨rfl, hj⟩ := rngI_at hx
  rw [w_bn]
  exact st j s hj hp
theorem map_at {A : Type} {zs : List A} {f : A → Dt} {j : Nat} {x : Dt} (h : (zs.map f)[j]? = some x) : ∃ z, zs[j]? = some z ∧ x = f z := by
  rw [List.getElem?_map] at h
  cases hz : zs[j]? with
  | none => rw [hz] at h; cases h
  | some z => rw [hz] at h; cases h; exact ⟨z, rfl, rfl⟩
/-- for z in a datum -/
theorem W_seq {A : Type} {tg : Tg} {e : ME} {body : List MS} {Q : Fl → SS → Prop} {d : Dt} (zs : List A) (f : A → Dt) (P : Nat → SS → Prop) (h1 : ev L e s = .ok (.v d) s) (h3 : rds s (.v d) = some (zs.map f)) (hd : ∀ n, d ≠ .ref n) (h0 : P 0 s) (he : ∀ s, P zs.length s → Q .nx s)
    (st : ∀ (j : Nat) (z : A) (s : SS), zs[j]? = some z → P j s → W (fun _ s => W (forQ P Q j) (Mq.execs L body s)) (bindT tg (f z) s)) : W Q (Mq.exec L (.forr tg (.seq true e) body) s) := by
  refine W_for P (i_seq h1 rfl h3) (fun z => by cases d <;> first | rfl | exact absurd rfl (hd _)) h0 (fun s h => he s (by rw [List.length_map] at h; exact h)) fun j x s hx hp => ?_
  obtain ⟨z, hz, rfl⟩ := map_at hx
  exact st j z s hz hp
/-- for z in a list just made -/
theorem W_seqN {A : Type} {tg : Tg} {e : ME} {body : List MS} {Q : Fl → SS → Prop} (zs : List A) (f : A → Dt) (P : Nat → SS → Prop) (h1 : ev L e s = .ok (.nl (zs.map f)) s) (h0 : P 0 s) (he : ∀ s, P zs.length s → Q .nx s)
    (st : ∀ (j : Nat) (z : A) (s : SS), zs[j]? = some z → P j s → W (fun _ s => W (forQ P Q j) (Mq.execs L body s)) (bindT tg (f z) s)) : W Q (Mq.exec L (.forr tg (.seq true e) body) s) := by
  refine W_for P (i_seq h1 rfl rfl) (fun z => rfl) h0 (fun s h => he s (by rw [List.length_map] at h; exact h)) fun j x s hx hp => ?_
  obtain ⟨z, hz, rfl⟩ := map_at hx
  exact st j z s hz hp
/-- for z in an own list: it is frozen -/
theorem W_seqB {A : Type} {tg : Tg} {e : ME} {body : List MS} {Q : Fl → SS → Prop} {i : Nat} (zs : List A) (f : A → Dt) (P : Nat → SS → Prop) (h1 : ev L e s = .ok (.bw i) s) (hs : s.sl[i]? = some (.ol (zs.map f))) (h0 : P 0 (s.set i (.v (.lst (zs.map f))))) (he : ∀ s, P zs.length s → Q .nx s)
    (st : ∀ (j : Nat) (z : A) (s : SS), zs[j]? = some z → P j s → W (fun _ s => W (forQ P Q j) (Mq.execs L body s)) (bindT tg (f z) s)) : W Q (Mq.exec L (.forr tg (.seq true e) body) s) := by
  refine W_for P (i_seq h1 (val_bwO hs) rfl) (fun z => rfl) h0 (fun s h => he s (by rw [List.length_map] at h; exact h)) fun j x s hx hp => ?_
  obtain ⟨z, hz, rfl⟩ := map_at hx
  exact st j z s hz hp
/-- [el for j in range(n)], things drawn -/
theorem W_lcr {el : ME} {i : Nat} {ms : List ME} {own : List Nat} {Q : RV → SS → Prop} (n : Nat) (P : Nat → List Dt → SS → Prop) (h : evs L ms s = .ok [.int (n : Int)] s) (hn : n ≤ 1000000) (hw : wipeOk own s = true) (h0 : P 0 [] s)
    (he : ∀ acc t, P n acc t → Q (.nl acc) (backS s own t)) (st : ∀ (j : Nat) (acc : List Dt) (t : SS), j < n → P j acc t → W (fun v t => W (fun d t => P (j + 1) (acc ++ [d]) t) (val v t)) (ev L el ((wipeS own t).set i (.v (.int (j : Int)))))) : W Q (ev L (.lc el (.n i) (.rng ms) none own) s) := by
  refine W_lc P (i_rngN h (by omega) (by omega)) (fun _ => rfl) hw h0 (by rw [rngI_len, sizeLine_eq]; omega) (fun acc t h => he acc t (by rw [rngI_len] at h; exact h)) fun j x acc t hx hp => ?_
  obtain ⟨rfl, hj⟩ := rngI_at hx
  rw [w_bn]
  exact st j acc t hj hp
theorem W_lcrC {el cd : ME} {i : Nat} {ms : List ME} {own : List Nat} {Q : RV → SS → Prop} (n : Nat) (P : Nat → List Dt → SS → Prop) (h : evs L ms s = .ok [.int (n : Int)] s) (hn : n ≤ 1000000) (hw : wipeOk own s = true) (h0 : P 0 [] s)
    (he : ∀ acc t, P n acc t → Q (.nl acc) (backS s own t)) (st : ∀ (j : Nat) (acc : List Dt) (t : SS), j < n → P j acc t → W (fun v t => wB (fun b => wIf b (W (fun v t => W (fun d t => P (j + 1) (acc ++ [d]) t) (val v t)) (ev L el t)) (P (j + 1) acc t)) v) (ev L cd ((wipeS own t).set i (.v (.int (j : Int)))))) : W Q (ev L (.lc el (.n i) (.rng ms) (some cd) own) s) := by
  refine W_lcC P (i_rngN h (by omega) (by omega)) (fun _ => rfl) hw h0 (by rw [rngI_len, sizeLine_eq]; omega) (fun acc t h => he acc t (by rw [rngI_len] at h; exact h)) fun j x acc t hx hp => ?_
  obtain ⟨rfl, hj⟩ := rngI_at hx
  rw [w_bn]
  exact st j acc t hj hp
/-- [el for z in a datum], things drawn -/
theorem W_lcs {A : Type} {el : ME} {tg : Tg} {e : ME} {own : List Nat} {Q : RV → SS → Prop} {d : Dt} (zs : List A) (f : A → Dt) (P : Nat → List Dt → SS → Prop) (h1 : ev L e s = .ok (.v d) s) (h3 : rds s (.v d) = some (zs.map f)) (hd : ∀ n, d ≠ .ref n) (hl : zs.length ≤ 1000000) (hw : wipeOk own s = true) (h0 : P 0 [] s)
    (he : ∀ acc t, P zs.length acc t → Q (.nl acc) (backS s own t)) (st : ∀ (j : Nat) (z : A) (acc : List Dt) (t : SS), zs[j]? = some z → P j acc t → W (fun _ t => W (fun v t => W (fun d t => P (j + 1) (acc ++ [d]) t) (val v t)) (ev L el t)) (bindT tg (f z) (wipeS own t))) : W Q (ev L (.lc el tg (.seq true e) none own) s) := by
  refine W_lc P (i_seq h1 rfl h3) (fun z => by cases d <;> first | rfl | exact absurd rfl (hd _)) hw h0 (by rw [List.length_map, sizeLine_eq]; omega) (fun acc t h => he acc t (by rw [List.length_map] at h; exact h)) fun j x acc t hx hp => ?_
  obtain ⟨z, hz, rfl⟩ := map_at hx
  exact st j z acc t hz hp
/-- comprehensions that change nothing -/
theorem P_lcr {el : ME} {i : Nat} {ms : List ME} {own : List Nat} (n : Nat) (g : Nat → Dt) (h : evs L ms s = .ok [.int (n : Int)] s) (hn : n ≤ 1000000) (hw : wipeOk own s = true) (hb : backS s own s = s)
    (he : ∀ j, j < n → W (fun v t => W (fun d t => d = g j ∧ wipeS own t = wipeS own s ∧ backS s own t = s) (val v t)) (ev L el ((wipeS own s).set i (.v (.int (j : Int)))))) : ev L (.lc el (.n i) (.rng ms) none own) s = .ok (.nl ((List.range n).map g)) s :=
  e_lcP (List.range n) (fun (j : Nat) => Dt.int (j : Int)) g (by rw [i_rngN h (by omega) (by omega), rngI_map]) (fun _ => rfl) hw hb (by rw [List.length_range, sizeLine_eq]; omega) fun j hj => by
    rw [w_bn]
    exact he j (List.mem_range.mp hj)
theorem P_lcrC {el cd : ME} {i : Nat} {ms : List ME} {own : List Nat} (n : Nat) (p : Nat → Bool) (g : Nat → Dt) (h : evs L ms s = .ok [.int (n : Int)] s) (hn : n ≤ 1000000) (hw : wipeOk own s = true) (hb : backS s own s = s)
    (he : ∀ j, j < n → W (fun v t => v = .v (.bl (p j)) ∧ wIf (p j) (W (fun v t => W (fun d t => d = g j ∧ wipeS own t = wipeS own s ∧ backS s own t = s) (val v t)) (ev L el t)) (wipeS own t = wipeS own s ∧ backS s own t = s)) (ev L cd ((wipeS own s).set i (.v (.int (j : Int)))))) : ev L (.lc el (.n i) (.rng ms) (some cd) own) s = .ok (.nl (((List.range n).filter p).map g)) s :=
  e_lcQ (List.range n) (fun (j : Nat) => Dt.int (j : Int)) p g (by rw [i_rngN h (by omega) (by omega), rngI_map]) (fun _ => rfl) hw hb (by rw [List.length_range, sizeLine_eq]; omega) fun j hj => by
    rw [w_bn]
    exact he j (List.mem_range.mp hj)
theorem P_lcs {A : Type} {el : ME} {tg : Tg} {e : ME} {own : List Nat} {d : Dt} (zs : List A) (f g : A → Dt) (h1 : ev L e s = .ok (.v d) s) (h3 : rds s (.v d) = some (zs.map f)) (hd : ∀ n, d ≠ .ref n) (hl : zs.length ≤ 1000000) (hw : wipeOk own s = true) (hb : backS s own s = s)
    (he : ∀ z ∈ zs, W (fun _ t => W (fun v t => W (fun d t => d = g z ∧ wipeS own t = wipeS own s ∧ backS s own t = s) (val v t)) (ev L el t)) (bindT tg (f z) (wipeS own s))) : ev L (.lc el tg (.seq true e) none own) s = .ok (.nl (zs.map g)) s :=
  e_lcP zs f g (i_seq h1 rfl h3) (fun z => by cases d <;> first | rfl | exact absurd rfl (hd _)) hw hb (by rw [sizeLine_eq]; omega) he
theorem P_lcsC {A : Type} {el cd : ME} {tg : Tg} {e : ME} {own : List Nat} {d : Dt} (zs : List A) (f : A → Dt) (p : A → Bool) (g : A → Dt) (h1 : ev L e s = .ok (.v d) s) (h3 : rds s (.v d) = some (zs.map f)) (hd : ∀ n, d ≠ .ref n) (hl : zs.length ≤ 1000000) (hw : wipeOk own s = true) (hb : backS s own s = s)
    (he : ∀ z ∈ zs, W (fun _ t => W (fun v t => v = .v (.bl (p z)) ∧ wIf (p z) (W (fun v t => W (fun d t => d = g z ∧ wipeS own t = wipeS own s ∧ backS s own t = s) (val v t)) (ev L el t)) (wipeS own t = wipeS own s ∧ backS s own t = s)) (ev L cd t)) (bindT tg (f z) (wipeS own s))) : ev L (.lc el tg (.seq true e) (some cd) own) s = .ok (.nl ((zs.filter p).map g)) s :=
  e_lcQ zs f p g (i_seq h1 rfl h3) (fun z => by cases d <;> first | rfl | exact absurd rfl (hd _)) hw hb (by rw [sizeLine_eq]; omega) he
end
end Mq

/-! MqVal4: zips, all(..), things of lists told by maps. -/
namespace Mq
open PySem L2
section
variable {L : Fns} {s t : SS}
@[simp ↓] theorem w_dct {Q : RV → SS → Prop} {x : Option (Str × Str)} : W Q (ev L (.dct x) s) = Q (.v .dct) s := by rw [ev, W_ok]
theorem i_zipT {es : List ME} {xs ys : List Dt} (h : evs L es s = .ok [.tup xs, .tup ys] t) : evI L (.zip es) s = .ok ⟨(xs.zip ys).map fun p => .tup [p.1, p.2], .v .non, []⟩ t := by
  rw [evI, h]; rfl
theorem i_zipL {es : List ME} {xs ys : List Dt} (h : evs L es s = .ok [.lst xs, .lst ys] t) : evI L (.zip es) s = .ok ⟨(xs.zip ys).map fun p => .tup [p.1, p.2], .v .non, []⟩ t := by
  rw [evI, h]; rfl
theorem zip_two {A B : Type} (as : List A) (bs : List B) (f : A → Dt) (g : B → Dt) : (((as.map f).zip (bs.map g)).map fun p => Dt.tup [p.1, p.2]) = (as.zip bs).map fun p => .tup [f p.1, g p.2] := by
  rw [List.zip_map, List.map_map]; rfl
theorem zip_at {A B : Type} {as : List A} {bs : List B} {j : Nat} {p : A × B} (h : (as.zip bs)[j]? = some p) : as[j]? = some p.1 ∧ bs[j]? = some p.2 := by
  rw [List.getElem?_zip_eq_some] at h
  exact h
/-- for a, b in zip(.., ..) -/
theorem W_zip {A B : Type} {tg : Tg} {es : List ME} {body : List MS} {Q : Fl → SS → Prop} (as : List A) (bs : List B) (f : A → Dt) (g : B → Dt) (P : Nat → SS → Prop) (h : evs L es s = .ok [.tup (as.map f), .tup (bs.map g)] t) (h0 : P 0 t)
    (he : ∀ s, P (min as.length bs.length) s → Q .nx s) (st : ∀ (j : Nat) (a : A) (b : B) (s : SS), as[j]? = some a → bs[j]? = some b → P j s → W (fun _ s => W (forQ P Q j) (Mq.execs L body s)) (bindT tg (.tup [f a, g b]) s)) : W Q (Mq.exec L (.forr tg (.zip es) body) s) := by
  refine W_for P (i_zipT h) (fun z => rfl) h0 (fun s h => he s ?_) fun j x s hx hp => ?_
  · rw [zip_two, List.length_map, List.length_zip] at h; exact h
  · rw [zip_two] at hx
    obtain ⟨p, hp', rfl⟩ := map_at hx
    obtain ⟨e1, e2⟩ := zip_at hp'
    exact st j p.1 p.2 s e1 e2 hp
/-- [.. for a, b in zip(.., ..)] that changes nothing -/
theorem P_lcz {A B : Type} {el : ME} {tg : Tg} {es : List ME} {own : List Nat} (as : List A) (bs : List B) (f : A → Dt) (g : B → Dt) (r : A → B → Dt) (h : evs L es s = .ok [.tup (as.map f), .tup (bs.map g)] s) (hl : as.length ≤ 1000000) (hw : wipeOk own s = true) (hb : backS s own s = s)
    (he : ∀ a ∈ as, ∀ b ∈ bs, W (fun _ t => W (fun v t => W (fun d t => d = r a b ∧ wipeS own t = wipeS own s ∧ backS s own t = s) (val v t)) (ev L el t)) (bindT tg (.tup [f a, g b]) (wipeS own s))) : ev L (.lc el tg (.zip es) none own) s = .ok (.nl ((as.zip bs).map fun p => r p.1 p.2)) s :=
  e_lcP (as.zip bs) (fun p => .tup [f p.1, g p.2]) (fun p => r p.1 p.2) (by rw [i_zipT h, zip_two]) (fun _ => rfl) hw hb (by rw [List.length_zip, sizeLine_eq]; omega) fun z hz => he z.1 (List.of_mem_zip hz).1 z.2 (List.of_mem_zip hz).2
theorem allBls_map {A : Type} (p : A → Bool) : ∀ xs : List A, allBls (xs.map fun x => Dt.bl (p x)) = some (xs.map p)
  | [] => rfl
  | x :: r => by
    show (allBls (r.map fun x => Dt.bl (p x))).map (p x :: ·) = _
    rw [allBls_map p r]; rfl
theorem b_allP {A : Type} {p : A → Bool} {xs : List A} : bif1 "all" (.nl (xs.map fun x => Dt.bl (p x))) s = some (.v (.bl (xs.all p))) := by
  rw [b_all, rdl_nl, Option.bind_some, allBls_map, Option.map_some, List.all_map]; rfl
theorem atI_map {A : Type} {xs : List A} {f : A → Dt} {j : Nat} {a : A} (h : xs[j]? = some a) : atI (xs.map f) (j : Int) = some (f a) := at_n (k := j) (by rw [List.getElem?_map, h]; rfl) rfl
theorem app_map {A : Type} {f : A → Dt} {xs : List A} {x : A} (h : xs.length ≤ 100000) : mthF "append" (f x) (xs.map f) = some ((xs ++ [x]).map f, .non) := by
  unfold mthF
  rw [if_pos rfl]
  unfold appF
  rw [if_pos (by rw [List.length_map, sizeLine_eq]; omega), List.map_append]; rfl
end
theorem rng_ab (a n : Nat) : rngI (a : Int) ((a + n : Nat) : Int) = (List.range n).map fun (i : Nat) => Dt.int ((a + i : Nat) : Int) := by
  unfold rngI
  rw [show (((a + n : Nat) : Int) - (a : Int)).toNat = n by omega]
  exact List.map_congr_left fun i _ => by rw [Int.natCast_add]
/-- for j in range(a, a + n) -/
theorem W_rng2 {L : Fns} {s : SS} {i : Nat} {ms : List ME} {body : List Mq.MS} {Q : Fl → SS → Prop} (a n : Nat) (P : Nat → SS → Prop) (h : evs L ms s = .ok [.int (a : Int), .int ((a + n : Nat) : Int)] s) (hn : a + n ≤ 1000000) (h0 : P 0 s) (he : ∀ s, P n s → Q .nx s)
    (st : ∀ (j : Nat) (s : SS), j < n → P j s → W (forQ P Q j) (Mq.execs L body (s.set i (.v (.int ((a + j : Nat) : Int)))))) : W Q (Mq.exec L (.forr (.n i) (.rng ms) body) s) := by
  have hI : evI L (.rng ms) s = .ok ⟨(List.range n).map (fun (i : Nat) => Dt.int ((a + i : Nat) : Int)), .v .non, []⟩ s := by
    rw [evI, h, r_ok, ← rng_ab]
    simp [rngOk]
    omega
  refine W_for P hI (fun _ => rfl) h0 (fun s h => he s (by rw [List.length_map, List.length_range] at h; exact h)) fun j x s hx hp => ?_
  obtain ⟨z, hz, rfl⟩ := map_at hx
  have hj : j < n := by have := (List.getElem?_eq_some_iff.mp hz).1; simpa using this
  rw [List.getElem?_range hj] at hz
  cases hz
  rw [w_bn]
  exact st j s hj hp
end Mq

/-! MqVal5: lists of the store walked; instances of the store. -/
namespace Mq
open PySem L2
section
variable {L : Fns} {s s1 t : SS}
theorem fld_r {n c : Nat} {ns : List Str} {vs : List Dt} {f : Str} (h : s.st[n]? = some (.i c ns vs)) : fldV (.v (.ref n)) f s = lkF f ns vs := by
  unfold fldV
  simp only [h]
theorem methF_r {m : Str} {es : List ME} {n c : Nat} {ns : List Str} {vs : List Dt} (h : s.st[n]? = some (.i c ns vs)) (h1 : ns.contains m = false) (h2 : L.hasM c m = true) : methF L m es (.v (.ref n)) s = (evs L es s).bind fun ds s => liftF (L.meth c m (.ref n :: ds) s.st) s := by
  have e : mcls (.v (.ref n)) m s = some c := by
    unfold mcls
    simp only [h]
    rw [if_neg (by rw [h1]; decide)]
  unfold methF
  rw [e]
  simp only [h2, if_true]
theorem wrF_r {n c : Nat} {ns : List Str} {vs : List Dt} {f : Str} {d : Dt} (h : s.st[n]? = some (.i c ns vs)) (hl : ns.length < 1000) : wrF (.v (.ref n)) f d s = .ok () (s.setO n (.i c (putN f ns) (putD f d ns vs))) := by
  unfold wrF
  simp only [h, hl, if_true]
theorem W_forLS {ck : SS → Bool} {tg : SS → Dt → Out SS Unit} {bd : SS → Out SS Fl} (P : Nat → SS → Prop) (Q : Fl → SS → Prop) (xs : List Dt) (s : SS) (h : P 0 s) (hk : ∀ j s, P j s → ck s = true) (he : ∀ s, P xs.length s → Q .nx s) (st : ∀ (j : Nat) (x : Dt) (s : SS), xs[j]? = some x → P j s → W (fun _ s => W (forQ P Q j) (bd s)) (tg s x)) : W Q (forL ck tg bd xs s) :=
  W_forL P Q xs 0 s h hk (fun s h => he s (by rw [Nat.zero_add] at h; exact h)) fun j x s _ hx hp => st j x s (by rw [Nat.sub_zero] at hx; exact hx) hp
/-- a for loop over a list of the store that stays -/
theorem W_forS {tg : Tg} {src : MI} {body : List MS} {Q : Fl → SS → Prop} {d : Dt} {xs ys : List Dt} (P : Nat → SS → Prop) (hI : evI L src s = .ok ⟨xs, .v d, ys⟩ s1) (ck : ∀ j z, P j z → chk ys (.v d) z = true) (h0 : P 0 s1)
    (he : ∀ s, P xs.length s → Q .nx s) (st : ∀ (j : Nat) (x : Dt) (s : SS), xs[j]? = some x → P j s → W (fun _ s => W (forQ P Q j) (Mq.execs L body s)) (bindT tg x s)) : W Q (Mq.exec L (.forr tg src body) s) := by
  rw [x_for, hI, r_ok]
  show W Q ((forL _ _ _ xs s1).fix fun s' => s')
  rw [W_fix]
  exact W_forLS P Q xs s1 h0 ck he st
theorem W_lcLS {ck : SS → Bool} {tg : SS → Dt → Out SS Unit} {own : List Nat} {c : SS → Out SS Bool} {e : SS → Out SS Dt} (P : Nat → List Dt → SS → Prop) (Q : List Dt → SS → Prop) : ∀ (xs : List Dt) (i : Nat) (acc : List Dt) (s : SS), P i acc s →
    (∀ j acc s, P j acc s → ck s = true) → acc.length + xs.length ≤ sizeLine → (∀ acc s, P (i + xs.length) acc s → Q acc s) →
    (∀ (j : Nat) (x : Dt) (acc : List Dt) (s : SS), i ≤ j → xs[j - i]? = some x → P j acc s → W (fun _ s => W (fun b s => wIf b (W (fun d s => P (j + 1) (acc ++ [d]) s) (e s)) (P (j + 1) acc s)) (c s)) (tg (wipeS own s) x)) → W Q (lcLoop ck tg own c e xs acc s)
  | [], i, acc, s, h, _, _, he, _ => by rw [lcLoop, W_ok]; exact he acc s h
  | x :: xs, i, acc, s, h, hk, hl, he, st => by
    have h1 := st i x acc s (Nat.le_refl _) (by simp) h
    obtain ⟨_, s1, e1, h2⟩ := h1.eq
    obtain ⟨b, s2, e2, h3⟩ := h2.eq
    rw [List.length_cons] at hl
    have go : ∀ acc s2, acc.length + xs.length ≤ sizeLine → P (i + 1) acc s2 → W Q (lcLoop ck tg own c e xs acc s2) := fun acc s2 hl p => W_lcLS P Q xs (i + 1) acc s2 p hk hl (fun acc s h => he acc s (by rw [List.length_cons, show i + (xs.length + 1) = i + 1 + xs.length by omega]; exact h)) fun j y acc s hj hy hp => st j y acc s (by omega) (by
      have : j - i = (j - (i + 1)) + 1 := by omega
      rw [this, List.getElem?_cons_succ]; exact hy) hp
    rw [lcLoop, e1, r_ok, e2, r_ok]
    cases b with
    | true =>
      rw [wIf_t] at h3
      obtain ⟨d, s3, e3, p⟩ := h3.eq
      rw [if_pos rfl, e3, r_ok, if_pos ⟨by omega, hk _ _ _ p⟩]
      exact go _ _ (by rw [List.length_append, List.length_singleton]; omega) p
    | false =>
      rw [wIf_f] at h3
      rw [if_neg (by decide), if_pos (hk _ _ _ h3)]
      exact go _ _ (by omega) h3
/-- a comprehension with a test over a list of the store that stays -/
theorem e_lcQS {A : Type} {el cd : ME} {tg : Tg} {src : MI} {own : List Nat} {d : Dt} {ys : List Dt} (zs : List A) (f : A → Dt) (p : A → Bool) (g : A → Dt) (hI : evI L src s = .ok ⟨zs.map f, .v d, ys⟩ s1) (ck : ∀ z : SS, z.st = s1.st → chk ys (.v d) z = true) (hw : wipeOk own s1 = true) (hb : backS s1 own s1 = s1) (hl : zs.length ≤ sizeLine)
    (he : ∀ z ∈ zs, W (fun _ s => W (fun v s => v = .v (.bl (p z)) ∧ wIf (p z) (W (fun v s => W (fun d s => d = g z ∧ wipeS own s = wipeS own s1 ∧ backS s1 own s = s1) (val v s)) (ev L el s)) (wipeS own s = wipeS own s1 ∧ backS s1 own s = s1)) (ev L cd s)) (bindT tg (f z) (wipeS own s1))) : ev L (.lc el tg src (some cd) own) s = .ok (.nl ((zs.filter p).map g)) s1 := by
  have w : W (fun v t => v = .nl ((zs.filter p).map g) ∧ t = s1) (ev L (.lc el tg src (some cd) own) s) := by
    rw [lc_ev, hI, r_ok, if_pos hw, W_bind, W_fix]
    refine W_lcLS (fun j acc s => acc = ((zs.take j).filter p).map g ∧ wipeS own s = wipeS own s1 ∧ backS s1 own s = s1) _ (zs.map f) 0 [] s1 ⟨rfl, rfl, hb⟩ (fun j acc s h => ck s (by rw [← h.2.2, backS_st])) (by simpa using hl) (fun acc s h => W.of rfl ⟨?_, ?_⟩) fun j x acc s _ hx hp => ?_
    · rw [h.1, Nat.zero_add, List.length_map, List.take_length]
    · show backS s1 own s = s1
      exact h.2.2
    · rw [Nat.sub_zero] at hx
      obtain ⟨rfl, h2, h3⟩ := hp
      rw [List.getElem?_map] at hx
      cases hz : zs[j]? with
      | none => rw [hz] at hx; cases hx
      | some z =>
        rw [hz] at hx
        cases hx
        obtain ⟨hj, ez⟩ := (List.getElem?_eq_some_iff.mp hz)
        rw [h2]
        refine (he z (List.mem_of_getElem? hz)).mono fun _ s h => ?_
        show W _ (((ev L cd s).bind asB).noex).noex
        rw [W_nox, W_nox, W_bind]
        refine h.mono fun v s h => ?_
        obtain ⟨rfl, h⟩ := h
        show W _ (Out.ok (p z) s)
        rw [W_ok, List.take_succ_eq_append_getElem hj, List.filter_append, ez]
        cases hp : p z with
        | true =>
          rw [hp, wIf_t] at h
          rw [wIf_t]
          show W _ ((ev L el s).bind val).noex
          rw [W_nox, W_bind]
          refine h.mono fun v s h => h.mono fun d s h => ⟨?_, h.2⟩
          rw [h.1, List.map_append]
          simp [hp]
        | false =>
          rw [hp, wIf_f] at h
          rw [wIf_f]
          refine ⟨?_, h⟩
          simp [hp]
  obtain ⟨v, t, e, rfl, rfl⟩ := w.eq
  exact e
/-- a comprehension over a list of the store that stays -/
theorem e_lcPS {A : Type} {el : ME} {tg : Tg} {src : MI} {own : List Nat} {d : Dt} {ys : List Dt} (zs : List A) (f : A → Dt) (g : A → Dt) (hI : evI L src s = .ok ⟨zs.map f, .v d, ys⟩ s1) (ck : ∀ z : SS, z.st = s1.st → chk ys (.v d) z = true) (hw : wipeOk own s1 = true) (hb : backS s1 own s1 = s1) (hl : zs.length ≤ sizeLine)
    (he : ∀ z ∈ zs, W (fun _ s => W (fun v s => W (fun d s => d = g z ∧ wipeS own s = wipeS own s1 ∧ backS s1 own s = s1) (val v s)) (ev L el s)) (bindT tg (f z) (wipeS own s1))) : ev L (.lc el tg src none own) s = .ok (.nl (zs.map g)) s1 := by
  have w : W (fun v t => v = .nl (zs.map g) ∧ t = s1) (ev L (.lc el tg src none own) s) := by
    rw [lc_ev, hI, r_ok, if_pos hw, W_bind, W_fix]
    refine W_lcLS (fun j acc s => acc = (zs.take j).map g ∧ wipeS own s = wipeS own s1 ∧ backS s1 own s = s1) _ (zs.map f) 0 [] s1 ⟨rfl, rfl, hb⟩ (fun j acc s h => ck s (by rw [← h.2.2, backS_st])) (by simpa using hl) (fun acc s h => W.of rfl ⟨?_, ?_⟩) fun j x acc s _ hx hp => ?_
    · rw [h.1, Nat.zero_add, List.length_map, List.take_length]
    · show backS s1 own s = s1
      exact h.2.2
    · rw [Nat.sub_zero] at hx
      obtain ⟨rfl, h2, h3⟩ := hp
      rw [List.getElem?_map] at hx
      cases hz : zs[j]? with
      | none => rw [hz] at hx; cases hx
      | some z =>
        rw [hz] at hx
        cases hx
        obtain ⟨hj, ez⟩ := (List.getElem?_eq_some_iff.mp hz)
        rw [h2]
        refine (he z (List.mem_of_getElem? hz)).mono fun _ s h => ?_
        show W _ (Out.ok true s)
        rw [W_ok, wIf_t]
        show W _ ((ev L el s).bind val).noex
        rw [W_nox, W_bind]
        refine h.mono fun v s h => h.mono fun d s h => ⟨?_, h.2⟩
        rw [h.1, List.take_succ_eq_append_getElem hj, List.map_append, ez]; rfl
  obtain ⟨v, t, e, rfl, rfl⟩ := w.eq
  exact e
end
end Mq

/-! MqVal6: walks whose source is reckoned by what changes the store; comprehensions of two clauses. -/
namespace Mq
open PySem L2
section
variable {L : Fns} {s s1 t : SS}
/-- a list just made, a frozen one, a tuple -/
def srcOf (r : RV) (xs : List Dt) : Prop := r = .nl xs ∨ r = .v (.lst xs) ∨ r = .v (.tup xs)
theorem srcOf.nl {xs : List Dt} : srcOf (.nl xs) xs := .inl rfl
theorem srcOf.l {xs : List Dt} : srcOf (.v (.lst xs)) xs := .inr (.inl rfl)
theorem srcOf.tp {xs : List Dt} : srcOf (.v (.tup xs)) xs := .inr (.inr rfl)
theorem srcOf.i {r : RV} {xs : List Dt} {e : ME} (h : srcOf r xs) (he : ev L e s = .ok r t) : ∃ d, evI L (.seq true e) s = .ok ⟨xs, .v d, xs⟩ t ∧ ∀ z, chk xs (.v d) z = true := by
  rcases h with rfl | rfl | rfl
  · exact ⟨.lst xs, i_seq he rfl rfl, fun _ => rfl⟩
  · exact ⟨.lst xs, i_seq he rfl rfl, fun _ => rfl⟩
  · exact ⟨.tup xs, i_seq he rfl rfl, fun _ => rfl⟩
/-- a comprehension that changes nothing, its source may -/
theorem W_lcE {A : Type} {el : ME} {tg : Tg} {e : ME} {own : List Nat} {Q : RV → SS → Prop} (f g : A → Dt)
    (h : W (fun v t => ∃ zs : List A, srcOf v (zs.map f) ∧ zs.length ≤ 1000000 ∧ wipeOk own t = true ∧ backS t own t = t ∧ (∀ z ∈ zs, W (fun _ u => W (fun v u => W (fun d u => d = g z ∧ wipeS own u = wipeS own t ∧ backS t own u = t) (val v u)) (ev L el u)) (bindT tg (f z) (wipeS own t))) ∧ Q (.nl (zs.map g)) t) (ev L e s)) : W Q (ev L (.lc el tg (.seq true e) none own) s) := by
  obtain ⟨v, t, e1, zs, h1, h2, h3, h4, h5, h6⟩ := h.eq
  obtain ⟨d, hI, ck⟩ := h1.i e1
  exact W.of (e_lcP zs f g hI ck h3 h4 (by rw [sizeLine_eq]; omega) h5) h6
theorem W_lcEC {A : Type} {el cd : ME} {tg : Tg} {e : ME} {own : List Nat} {Q : RV → SS → Prop} (f : A → Dt) (p : A → Bool) (g : A → Dt)
    (h : W (fun v t => ∃ zs : List A, srcOf v (zs.map f) ∧ zs.length ≤ 1000000 ∧ wipeOk own t = true ∧ backS t own t = t ∧ (∀ z ∈ zs, W (fun _ u => W (fun v u => v = .v (.bl (p z)) ∧ wIf (p z) (W (fun v u => W (fun d u => d = g z ∧ wipeS own u = wipeS own t ∧ backS t own u = t) (val v u)) (ev L el u)) (wipeS own u = wipeS own t ∧ backS t own u = t)) (ev L cd u)) (bindT tg (f z) (wipeS own t))) ∧ Q (.nl ((zs.filter p).map g)) t) (ev L e s)) : W Q (ev L (.lc el tg (.seq true e) (some cd) own) s) := by
  obtain ⟨v, t, e1, zs, h1, h2, h3, h4, h5, h6⟩ := h.eq
  obtain ⟨d, hI, ck⟩ := h1.i e1
  exact W.of (e_lcQ zs f p g hI ck h3 h4 (by rw [sizeLine_eq]; omega) h5) h6
/-- a loop, its source may change the store -/
theorem W_forE {A : Type} {tg : Tg} {e : ME} {body : List MS} {Q : Fl → SS → Prop} (f : A → Dt)
    (h : W (fun v t => ∃ (zs : List A) (P : Nat → SS → Prop), srcOf v (zs.map f) ∧ P 0 t ∧ (∀ s, P zs.length s → Q .nx s) ∧ ∀ (j : Nat) (z : A) (s : SS), zs[j]? = some z → P j s → W (fun _ s => W (forQ P Q j) (Mq.execs L body s)) (bindT tg (f z) s)) (ev L e s)) : W Q (Mq.exec L (.forr tg (.seq true e) body) s) := by
  obtain ⟨v, t, e1, zs, P, h1, h2, h3, h4⟩ := h.eq
  obtain ⟨d, hI, ck⟩ := h1.i e1
  refine W_for P hI ck h2 (fun s h => h3 s (by rw [List.length_map] at h; exact h)) fun j x s hx hp => ?_
  obtain ⟨z, hz, rfl⟩ := map_at hx
  exact h4 j z s hz hp
/-- a comprehension with an invariant, its source may change the store -/
theorem W_lcES {A : Type} {el : ME} {tg : Tg} {e : ME} {own : List Nat} {Q : RV → SS → Prop} (f : A → Dt)
    (h : W (fun v t => ∃ (zs : List A) (P : Nat → List Dt → SS → Prop), srcOf v (zs.map f) ∧ zs.length ≤ 1000000 ∧ wipeOk own t = true ∧ P 0 [] t ∧ (∀ acc u, P zs.length acc u → Q (.nl acc) (backS t own u)) ∧ ∀ (j : Nat) (z : A) (acc : List Dt) (u : SS), zs[j]? = some z → P j acc u → W (fun _ u => W (fun v u => W (fun d u => P (j + 1) (acc ++ [d]) u) (val v u)) (ev L el u)) (bindT tg (f z) (wipeS own u))) (ev L e s)) : W Q (ev L (.lc el tg (.seq true e) none own) s) := by
  obtain ⟨v, t, e1, zs, P, h1, h2, h3, h4, h5, h6⟩ := h.eq
  obtain ⟨d, hI, ck⟩ := h1.i e1
  refine W_lc P hI ck h3 h4 (by rw [List.length_map, sizeLine_eq]; omega) (fun acc t h => h5 acc t (by rw [List.length_map] at h; exact h)) fun j x acc t hx hp => ?_
  obtain ⟨z, hz, rfl⟩ := map_at hx
  exact h6 j z acc t hz hp
/-! ### two clauses -/
theorem W_lc2L {ck : SS → Bool} {tg : SS → Dt → Out SS Unit} {own : List Nat} {c : SS → Out SS Bool} {src1 : SS → Out SS IV} {lp : List Dt → List Dt → SS → Out SS (List Dt)} (hc : ∀ s, c s = .ok true s) (P : Nat → List Dt → SS → Prop) (Q : List Dt → SS → Prop) : ∀ (xs : List Dt) (i : Nat) (acc : List Dt) (s : SS), P i acc s →
    (∀ s, ck s = true) → (∀ acc s, P (i + xs.length) acc s → Q acc s) →
    (∀ (j : Nat) (x : Dt) (acc : List Dt) (s : SS), i ≤ j → xs[j - i]? = some x → P j acc s → W (fun _ s => W (fun iv s => frzIV iv = true ∧ W (P (j + 1)) (lp iv.xs acc s)) (src1 s)) (tg (wipeS own s) x)) → W Q (lc2Loop ck tg own c src1 lp xs acc s)
  | [], i, acc, s, h, _, he, _ => by rw [lc2Loop, W_ok]; exact he acc s h
  | x :: xs, i, acc, s, h, hk, he, st => by
    have h1 := st i x acc s (Nat.le_refl _) (by simp) h
    obtain ⟨_, s1, e1, h2⟩ := h1.eq
    obtain ⟨iv, s2, e2, hf, h3⟩ := h2.eq
    obtain ⟨acc', s3, e3, p⟩ := h3.eq
    rw [lc2Loop, e1, r_ok, hc, r_ok, if_pos rfl, e2, r_ok, hf, hk]
    simp only [Bool.and_self, if_true]
    rw [e3, r_ok, if_pos (hk _)]
    exact W_lc2L hc P Q xs (i + 1) acc' s3 p hk (fun acc s h => he acc s (by rw [List.length_cons, show i + (xs.length + 1) = i + 1 + xs.length by omega]; exact h)) fun j y acc s hj hy hp => st j y acc s (by omega) (by
      have : j - i = (j - (i + 1)) + 1 := by omega
      rw [this, List.getElem?_cons_succ]; exact hy) hp
theorem W_lc2 {el : ME} {tg tg1 : Tg} {src src1 : MI} {own own1 : List Nat} {Q : RV → SS → Prop} {d : Dt} {xs ys : List Dt} (P : Nat → List Dt → SS → Prop) (hI : evI L src s = .ok ⟨xs, .v d, ys⟩ s1) (ck : ∀ z, chk ys (.v d) z = true) (hw : wipeOk own s1 = true) (h0 : P 0 [] s1)
    (he : ∀ acc s, P xs.length acc s → Q (.nl acc) (backS s1 own s))
    (st : ∀ (j : Nat) (x : Dt) (acc : List Dt) (s : SS), xs[j]? = some x → P j acc s → W (fun _ s => W (fun iv s => frzIV iv = true ∧ acc.length + iv.xs.length ≤ sizeLine ∧ ∃ R : Nat → List Dt → SS → Prop, R 0 acc s ∧ (∀ acc s, R iv.xs.length acc s → P (j + 1) acc s) ∧ ∀ (i : Nat) (y : Dt) (acc : List Dt) (s : SS), iv.xs[i]? = some y → R i acc s → W (fun _ s => W (fun v s => W (fun d s => R (i + 1) (acc ++ [d]) s) (val v s)) (ev L el s)) (bindT tg1 y (wipeS own1 s))) (evI L src1 s)) (bindT tg x (wipeS own s))) : W Q (ev L (.lc2 el tg src none tg1 src1 none own own1) s) := by
  rw [lc2_ev, hI, r_ok, if_pos hw, W_bind, W_fix]
  refine W_lc2L (fun s => rfl) P (fun acc s => W Q (.ok (.nl acc) (unlock (.v d) s1 (backS s1 own s)))) xs 0 [] s1 h0 ck (fun acc s h => W.of rfl (he acc s (by rw [Nat.zero_add] at h; exact h))) fun j x acc s _ hx hp => ?_
  refine (st j x acc s (by rw [Nat.sub_zero] at hx; exact hx) hp).mono fun _ s h => ?_
  rw [W_nox]
  refine h.mono fun iv s h => ?_
  obtain ⟨h1, hl, R, h2, h3, h4⟩ := h
  refine ⟨h1, W_lcL R (P (j + 1)) iv.xs 0 acc s h2 ck hl (fun acc s h => h3 acc s (by rw [Nat.zero_add] at h; exact h)) fun i y acc s _ hy hr => ?_⟩
  refine (h4 i y acc s (by rw [Nat.sub_zero] at hy; exact hy) hr).mono fun _ s h => ?_
  show W _ (.ok true s)
  rw [W_ok, wIf_t]
  show W _ ((ev L el s).bind val).noex
  rw [W_nox, W_bind]
  exact h
end
end Mq

namespace K38
open PySem L2 Mq
/-! ### the trees -/
def top (i : Nat) : Stmt := PySem.Challenge.pw_quitsways_k38_whole_units_of_evenings.main.body.getD i (.Pass ⟨0, 0, 0, 0⟩)
abbrev s_law_divisor : Stmt := top 66
def d_law_divisor : DD := ⟨"_law_divisor", ["_law_one", "_law_other"], ["_law_one", "_law_other", "_law_turn"], [.forr (.n 2) (.rng [.cst (.int 400)]) [.ifs (.cmp .eq (.var 1) (.cst (.int 0))) [.ret (.var 0)] [], .par 0 1 (.var 1) (.bin .mod (.bif "int" [.var 0]) (.var 1))], .ret (.var 0)]⟩
abbrev s_law_amount : Stmt := top 67
def d_law_amount : DD := ⟨"_law_amount", ["_law_top", "_law_bottom"], ["_law_top", "_law_bottom", "_law_divisor_here"], [.asg 2 (.call "_law_divisor" [.var 0, .var 1]), .ret (.tup [.bin .fdiv (.var 0) (.var 2), .bin .fdiv (.var 1) (.var 2)])]⟩
abbrev s_law_dice : Stmt := top 62
def d_law_dice : DD := ⟨"_law_dice", ["_law_script"], ["_law_script", "_law_cell"], [.ret (.lst [.lc (.bif "abs" [.bif "int" [.var 1]]) (.n 1) (.seq true (.slc (.var 0) none (some (.cst (.int 63))))) none [1], .cst (.int 0), .cst (.int 0), .cst (.int 1), .cst (.int 0)])]⟩
abbrev s_law_draw : Stmt := top 63
def d_law_draw : DD := ⟨"_law_draw", ["_law_dice_here", "_law_sides"], ["_law_dice_here", "_law_sides", "_law_mixed", "_law_cell", "_law_digit"], [.ifs (.bool true [.cmp .eq (.idx (.var 0) (.cst (.int 2))) (.cst (.int 0)), .cmp .lt (.idx (.var 0) (.cst (.int 1))) (.bif "len" [.idx (.var 0) (.cst (.int 0))])]) [.asg 3 (.idx (.idx (.var 0) (.cst (.int 0))) (.idx (.var 0) (.cst (.int 1)))), .seti (.var 0) (.cst (.int 1)) (.bin .add (.idx (.var 0) (.cst (.int 1))) (.cst (.int 1))), .ifs (.cmp .ge (.var 3) (.bin .pow (.cst (.int 10)) (.cst (.int 18)))) [.seti (.var 0) (.cst (.int 2)) (.var 3)] [.seti (.var 0) (.cst (.int 3)) (.bin .mod (.bif "int" [.bin .add (.bin .add (.bin .mul (.idx (.var 0) (.cst (.int 3))) (.cst (.int 69621))) (.bin .mul (.var 3) (.cst (.int 40692)))) (.idx (.var 0) (.cst (.int 1)))]) (.cst (.int 2147483647)))]] [], .ifs (.cmp .gt (.idx (.var 0) (.cst (.int 2))) (.cst (.int 0))) [.asg 4 (.bin .mod (.bif "int" [.idx (.var 0) (.cst (.int 2))]) (.var 1)), .seti (.var 0) (.cst (.int 2)) (.bin .fdiv (.bif "int" [.idx (.var 0) (.cst (.int 2))]) (.var 1)), .ret (.var 4)] [], .seti (.var 0) (.cst (.int 4)) (.bin .add (.idx (.var 0) (.cst (.int 4))) (.cst (.int 1))), .seti (.var 0) (.cst (.int 3)) (.bin .mod (.bif "int" [.bin .add (.bin .add (.bin .mul (.idx (.var 0) (.cst (.int 3))) (.cst (.int 48271))) (.bin .mul (.idx (.var 0) (.cst (.int 4))) (.cst (.int 7919)))) (.cst (.int 1))]) (.cst (.int 2147483647))), .asg 2 (.bin .mod (.bif "int" [.bin .mul (.idx (.var 0) (.cst (.int 3))) (.bin .add (.bin .fdiv (.idx (.var 0) (.cst (.int 3))) (.cst (.int 1009))) (.cst (.int 69623)))]) (.cst (.int 2147483399))), .asg 2 (.bin .mod (.bif "int" [.bin .mul (.var 2) (.bin .add (.bin .fdiv (.var 2) (.cst (.int 2003))) (.cst (.int 40693)))]) (.cst (.int 2147483563))), .ret (.bin .mod (.bif "int" [.bin .fdiv (.var 2) (.cst (.int 16))]) (.var 1))]⟩
abbrev s_law_flag : Stmt := top 64
def d_law_flag : DD := ⟨"_law_flag", ["_law_told", "_law_due"], ["_law_told", "_law_due"], [.ret (.bool true [.isi (.var 0) "bool", .cmp .eq (.var 0) (.var 1)])]⟩
abbrev s_common_divisor : Stmt := top 12
def d_common_divisor : DD := ⟨"common_divisor", ["one", "other"], ["one", "other"], [.par 0 1 (.bif "abs" [.var 0]) (.bif "abs" [.var 1]), .whl 1000 (.cmp .gt (.var 1) (.cst (.int 0))) [.par 0 1 (.var 1) (.bin .mod (.var 0) (.var 1))], .ret (.var 0)]⟩
abbrev s_is_integer : Stmt := top 7
def d_is_integer : DD := ⟨"is_integer", ["thing"], ["thing"], [.ret (.bool true [.isi (.var 0) "int", .not (.isi (.var 0) "bool")])]⟩
abbrev s_is_pair : Stmt := top 8
def d_is_pair : DD := ⟨"is_pair", ["thing"], ["thing"], [.ret (.bool true [.isi (.var 0) "tuple", .cmp .eq (.bif "len" [.var 0]) (.cst (.int 2))])]⟩
abbrev s_is_fraction : Stmt := top 22
def d_is_fraction : DD := ⟨"is_fraction", ["thing"], ["thing"], [.ifs (.bool false [.not (.call "is_pair" [.var 0]), .not (.call "is_integer" [.idx (.var 0) (.cst (.int 0))]), .not (.call "is_integer" [.idx (.var 0) (.cst (.int 1))]), .cmp .lt (.idx (.var 0) (.cst (.int 1))) (.cst (.int 1))]) [.ret (.cst (.bl false))] [], .ret (.cmp .eq (.call "common_divisor" [.idx (.var 0) (.cst (.int 0)), .idx (.var 0) (.cst (.int 1))]) (.cst (.int 1)))]⟩
abbrev s_is_amount : Stmt := top 23
def d_is_amount : DD := ⟨"is_amount", ["thing"], ["thing"], [.ret (.bool true [.call "is_fraction" [.var 0], .cmp .gt (.idx (.var 0) (.cst (.int 0))) (.cst (.int 0))])]⟩
abbrev s_are_sums : Stmt := top 26
def d_are_sums : DD := ⟨"are_sums", ["thing"], ["thing", "item"], [.ret (.bool true [.isi (.var 0) "tuple", .cmp2 .le .le (.cst (.int 1)) (.bif "len" [.var 0]) (.glo "MOST_SIDE"), .bif "all" [.lc (.call "is_amount" [.var 1]) (.n 1) (.seq true (.var 0)) none [1]]])]⟩
abbrev s_made : Stmt := top 13
def d_made : DD := ⟨"made", ["top", "bottom"], ["top", "bottom", "divisor"], [.asg 2 (.call "common_divisor" [.var 0, .var 1]), .ret (.tup [.bin .fdiv (.var 0) (.var 2), .bin .fdiv (.var 1) (.var 2)])]⟩
abbrev s_plus : Stmt := top 14
def d_plus : DD := ⟨"plus", ["one", "other"], ["one", "other"], [.ret (.call "made" [.bin .add (.bin .mul (.idx (.var 0) (.cst (.int 0))) (.idx (.var 1) (.cst (.int 1)))) (.bin .mul (.idx (.var 1) (.cst (.int 0))) (.idx (.var 0) (.cst (.int 1)))), .bin .mul (.idx (.var 0) (.cst (.int 1))) (.idx (.var 1) (.cst (.int 1)))])]⟩
abbrev s_total_of : Stmt := top 20
def d_total_of : DD := ⟨"total_of", ["fractions"], ["fractions", "found", "fraction"], [.asg 1 (.glo "ZERO"), .forr (.n 2) (.seq true (.var 0)) [.asg 1 (.call "plus" [.var 1, .var 2])], .ret (.var 1)]⟩
abbrev s_Evening__init_ : Stmt := inClass (top 27) 0
def d_Evening__init_ : DD := ⟨"__init__", ["self", "owed", "due"], ["self", "owed", "due"], [.ifs (.not (.call "are_sums" [.var 1])) [.nev] [], .ifs (.not (.call "are_sums" [.var 2])) [.nev] [], .ifs (.cmp .ne (.call "total_of" [.var 1]) (.call "total_of" [.var 2])) [.nev] [], .setf (.var 0) "owed" (.var 1), .setf (.var 0) "due" (.var 2)]⟩
abbrev s_law_sums : Stmt := top 72
def d_law_sums : DD := ⟨"_law_sums", ["_law_numbers", "_law_unit_here"], ["_law_numbers", "_law_unit_here", "_law_number"], [.ret (.bif "tuple" [.lc (.call "_law_amount" [.bin .mul (.var 2) (.idx (.var 1) (.cst (.int 0))), .idx (.var 1) (.cst (.int 1))]) (.n 2) (.seq true (.var 0)) none [2]])]⟩
abbrev s_law_made : Stmt := top 73
def d_law_made : DD := ⟨"_law_made", ["_law_lists_here", "_law_unit_here"], ["_law_lists_here", "_law_unit_here"], [.ret (.make "Evening" [.call "_law_sums" [.idx (.var 0) (.cst (.int 0)), .var 1], .call "_law_sums" [.idx (.var 0) (.cst (.int 1)), .var 1]])]⟩
abbrev s_law_shuffled : Stmt := top 65
def d_law_shuffled : DD := ⟨"_law_shuffled", ["_law_dice_here", "_law_items"], ["_law_dice_here", "_law_items", "_law_left", "_law_k"], [.asg 2 (.bif "list" [.var 1]), .ret (.bif "tuple" [.lc (.bme (.var 2) "pop" [.call "_law_draw" [.var 0, .bif "len" [.var 2]]]) (.n 3) (.rng [.bif "len" [.var 2]]) none [3]])]⟩
abbrev s_law_split : Stmt := top 68
def d_law_split : DD := ⟨"_law_split", ["_law_dice_here", "_law_whole", "_law_many"], ["_law_dice_here", "_law_whole", "_law_many", "_law_found", "_law_left", "_law_k"], [.asg 3 (.lst []), .asg 4 (.var 1), .forr (.n 5) (.rng [.bin .sub (.bif "min" [.var 1, .var 2]) (.cst (.int 1)), .cst (.int 0), .neg (.cst (.int 1))]) [.expr (.bme (.var 3) "append" [.bin .add (.cst (.int 1)) (.call "_law_draw" [.var 0, .bif "min" [.bin .sub (.var 4) (.var 5), .cst (.int 9)]])]), .asg 4 (.bin .sub (.var 4) (.idx (.var 3) (.neg (.cst (.int 1)))))], .ret (.bin .add (.var 3) (.lst [.var 4]))]⟩
abbrev s_law_alike_lists : Stmt := top 75
def d_law_alike_lists : DD := ⟨"_law_alike_lists", ["_law_dice_here", "_law_most"], ["_law_dice_here", "_law_most", "_law_many", "_law_unit_here", "_law_due", "_law_owed", "_law_turn", "_law_at", "_law_lists_here", "_law_other", "_law_number"], [.asg 2 (.bin .add (.cst (.int 1)) (.call "_law_draw" [.var 0, .bin .sub (.var 1) (.cst (.int 1))])), .asg 3 (.bin .add (.cst (.int 1)) (.call "_law_draw" [.var 0, .cst (.int 4)])), .asg 4 (.lc (.bin .mul (.var 3) (.var 10)) (.n 10) (.seq true (.call "_law_split" [.var 0, .var 2, .bin .add (.cst (.int 1)) (.call "_law_draw" [.var 0, .bin .sub (.var 1) (.var 2)])])) none [10]), .asg 5 (.bin .mul (.lst [.var 3]) (.var 2)), .asg 6 (.call "_law_draw" [.var 0, .cst (.int 4)]), .asg 7 (.call "_law_draw" [.var 0, .bif "len" [.var 4]]), .ifs (.bool true [.cmp .eq (.var 6) (.cst (.int 0)), .cmp .gt (.var 2) (.cst (.int 1)), .cmp .gt (.var 3) (.cst (.int 1))]) [.seti (.var 5) (.cst (.int 0)) (.bin .add (.idx (.var 5) (.cst (.int 0))) (.cst (.int 1))), .seti (.var 5) (.cst (.int 1)) (.bin .sub (.idx (.var 5) (.cst (.int 1))) (.cst (.int 1)))] [], .ifs (.bool true [.cmp .eq (.var 6) (.cst (.int 1)), .cmp .gt (.bif "len" [.var 4]) (.cst (.int 1))]) [.seti (.var 4) (.var 7) (.bin .add (.idx (.var 4) (.var 7)) (.cst (.int 1))), .asg 9 (.bin .mod (.bif "int" [.bin .add (.var 7) (.cst (.int 1))]) (.bif "len" [.var 4])), .seti (.var 4) (.var 9) (.bin .sub (.idx (.var 4) (.var 9)) (.cst (.int 1))), .ifs (.cmp .eq (.idx (.var 4) (.var 9)) (.cst (.int 0))) [.expr (.bme (.var 4) "pop" [.var 9])] []] [], .asg 8 (.tup [.bif "list" [.call "_law_shuffled" [.var 0, .var 5]], .bif "list" [.call "_law_shuffled" [.var 0, .var 4]]]), .ifs (.cmp .eq (.call "_law_draw" [.var 0, .cst (.int 2)]) (.cst (.int 0))) [.ret (.tup [.idx (.var 8) (.cst (.int 1)), .idx (.var 8) (.cst (.int 0))])] [], .ret (.var 8)]⟩
abbrev s_law_side : Stmt := top 69
def d_law_side : DD := ⟨"_law_side", ["_law_dice_here", "_law_many", "_law_most"], ["_law_dice_here", "_law_many", "_law_most", "_law_k"], [.ifs (.cmp .eq (.call "_law_draw" [.var 0, .cst (.int 4)]) (.cst (.int 0))) [.ret (.bin .mul (.lst [.bin .add (.cst (.int 1)) (.call "_law_draw" [.var 0, .var 2])]) (.var 1))] [], .ret (.lc (.bin .add (.cst (.int 1)) (.call "_law_draw" [.var 0, .var 2])) (.n 3) (.rng [.var 1]) none [3])]⟩
abbrev s_law_lists : Stmt := top 70
def d_law_lists : DD := ⟨"_law_lists", ["_law_dice_here", "_law_most"], ["_law_dice_here", "_law_most", "_law_many", "_law_owed", "_law_due", "_law_first", "_law_other"], [.ifs (.bool true [.cmp .gt (.var 1) (.cst (.int 3)), .cmp .eq (.call "_law_draw" [.var 0, .cst (.int 3)]) (.cst (.int 0))]) [.asg 5 (.call "_law_lists" [.var 0, .bin .fdiv (.var 1) (.cst (.int 2))]), .asg 6 (.call "_law_lists" [.var 0, .bin .sub (.bin .sub (.var 1) (.bif "len" [.idx (.var 5) (.cst (.int 0))])) (.bif "len" [.idx (.var 5) (.cst (.int 1))])]), .asg 3 (.call "_law_shuffled" [.var 0, .bin .add (.idx (.var 5) (.cst (.int 0))) (.idx (.var 6) (.cst (.int 0)))]), .ret (.tup [.bif "list" [.var 3], .bif "list" [.call "_law_shuffled" [.var 0, .bin .add (.idx (.var 5) (.cst (.int 1))) (.idx (.var 6) (.cst (.int 1)))]]])] [], .asg 2 (.bin .add (.cst (.int 1)) (.call "_law_draw" [.var 0, .bin .sub (.var 1) (.cst (.int 1))])), .asg 3 (.call "_law_side" [.var 0, .var 2, .idx (.lst [.cst (.int 2), .cst (.int 3), .cst (.int 6), .cst (.int 12)]) (.call "_law_draw" [.var 0, .cst (.int 4)])]), .asg 4 (.call "_law_split" [.var 0, .bif "sum" [.var 3], .bin .add (.cst (.int 1)) (.call "_law_draw" [.var 0, .bin .sub (.var 1) (.var 2)])]), .ifs (.cmp .eq (.call "_law_draw" [.var 0, .cst (.int 2)]) (.cst (.int 0))) [.ret (.tup [.var 4, .var 3])] [], .ret (.tup [.var 3, .var 4])]⟩
abbrev s_law_some_lists : Stmt := top 76
def d_law_some_lists : DD := ⟨"_law_some_lists", ["_law_dice_here", "_law_most"], ["_law_dice_here", "_law_most"], [.ifs (.cmp .eq (.call "_law_draw" [.var 0, .cst (.int 2)]) (.cst (.int 0))) [.ret (.call "_law_alike_lists" [.var 0, .var 1])] [], .ret (.call "_law_lists" [.var 0, .var 1])]⟩
abbrev s_law_told_unit : Stmt := top 77
def d_law_told_unit : DD := ⟨"_law_told_unit", ["_law_found", "_law_unit_here"], ["_law_found", "_law_unit_here"], [.ifs (.cmp .isn (.var 0) (.cst .non)) [.ret (.cst .non)] [], .ret (.tup [.idx (.var 0) (.cst (.int 0)), .call "_law_amount" [.bin .mul (.idx (.var 0) (.cst (.int 1))) (.idx (.var 1) (.cst (.int 0))), .idx (.var 1) (.cst (.int 1))]])]⟩
abbrev s_law_unit : Stmt := top 71
def d_law_unit : DD := ⟨"_law_unit", ["_law_dice_here"], ["_law_dice_here"], [.ret (.idx (.lst [.tup [.cst (.int 1), .cst (.int 1)], .tup [.cst (.int 1), .cst (.int 1)], .tup [.cst (.int 1), .cst (.int 2)], .tup [.cst (.int 5), .cst (.int 3)], .tup [.cst (.int 7), .cst (.int 1)], .tup [.cst (.int 10), .cst (.int 9)]]) (.call "_law_draw" [.var 0, .cst (.int 6)]))]⟩
abbrev s_law_unit_of : Stmt := top 74
def d_law_unit_of : DD := ⟨"_law_unit_of", ["_law_lists_here"], ["_law_lists_here", "_law_side_here", "_law_first", "_law_k"], [.forr (.n 1) (.rng [.cst (.int 2)]) [.asg 2 (.idx (.idx (.var 0) (.var 1)) (.cst (.int 0))), .ifs (.bool true [.cmp .eq (.idx (.var 0) (.var 1)) (.bin .mul (.lst [.var 2]) (.bif "len" [.idx (.var 0) (.var 1)])), .cmp .eq (.lc (.var 3) (.n 3) (.seq true (.idx (.var 0) (.bin .sub (.cst (.int 1)) (.var 1)))) (some (.cmp .ne (.bin .mod (.bif "int" [.var 3]) (.var 2)) (.cst (.int 0)))) [3]) (.lst [])]) [.ret (.tup [.idx (.lst [.cst (.str "owed"), .cst (.str "due")]) (.var 1), .var 2])] []], .ret (.cst .non)]⟩
abbrev s_over : Stmt := top 17
def d_over : DD := ⟨"over", ["one", "other"], ["one", "other"], [.ret (.call "made" [.bin .mul (.idx (.var 0) (.cst (.int 0))) (.idx (.var 1) (.cst (.int 1))), .bin .mul (.idx (.var 0) (.cst (.int 1))) (.idx (.var 1) (.cst (.int 0)))])]⟩
abbrev s_is_unit : Stmt := top 57
def d_is_unit : DD := ⟨"is_unit", ["sums", "others"], ["sums", "others", "item"], [.ret (.bool true [.bif "all" [.lc (.cmp .eq (.var 2) (.idx (.var 0) (.cst (.int 0)))) (.n 2) (.seq true (.var 0)) none [2]], .bif "all" [.lc (.cmp .eq (.idx (.call "over" [.var 2, .idx (.var 0) (.cst (.int 0))]) (.cst (.int 1))) (.cst (.int 1))) (.n 2) (.seq true (.var 1)) none [2]]])]⟩
abbrev s_unit_of : Stmt := top 58
def d_unit_of : DD := ⟨"unit_of", ["evening"], ["evening"], [.ifs (.call "is_unit" [.fld (.var 0) "owed", .fld (.var 0) "due"]) [.ret (.tup [.cst (.str "owed"), .idx (.fld (.var 0) "owed") (.cst (.int 0))])] [], .ifs (.call "is_unit" [.fld (.var 0) "due", .fld (.var 0) "owed"]) [.ret (.tup [.cst (.str "due"), .idx (.fld (.var 0) "due") (.cst (.int 0))])] [], .ret (.cst .non)]⟩
abbrev s_is_alike : Stmt := top 59
def d_is_alike : DD := ⟨"is_alike", ["evening"], ["evening"], [.ifs (.cmp .notn (.call "unit_of" [.var 0]) (.cst .non)) [.ret (.cst (.bl true))] [], .expr (.nevE), .ret (.cmp .eq (.idx (.nevE) (.neg (.cst (.int 1)))) (.cst (.int 1)))]⟩
abbrev s_RawEvening__init_ : Stmt := inClass (top 28) 0
def d_RawEvening__init_ : DD := ⟨"__init__", ["self", "owed", "due"], ["self", "owed", "due"], [.setf (.var 0) "owed" (.var 1), .setf (.var 0) "due" (.var 2)]⟩
abbrev s_mirrored : Stmt := top 32
def d_mirrored : DD := ⟨"mirrored", ["evening"], ["evening"], [.ret (.make "RawEvening" [.fld (.var 0) "due", .fld (.var 0) "owed"])]⟩
abbrev s_times : Stmt := top 16
def d_times : DD := ⟨"times", ["one", "other"], ["one", "other"], [.ret (.call "made" [.bin .mul (.idx (.var 0) (.cst (.int 0))) (.idx (.var 1) (.cst (.int 0))), .bin .mul (.idx (.var 0) (.cst (.int 1))) (.idx (.var 1) (.cst (.int 1)))])]⟩
abbrev s_scaled : Stmt := top 31
def d_scaled : DD := ⟨"scaled", ["evening", "amount"], ["evening", "amount", "owed", "item"], [.ifs (.not (.call "is_amount" [.var 1])) [.nev] [], .asg 2 (.bif "tuple" [.lc (.call "times" [.var 3, .var 1]) (.n 3) (.seq true (.fld (.var 0) "owed")) none [3]]), .ret (.make "RawEvening" [.var 2, .bif "tuple" [.lc (.call "times" [.var 3, .var 1]) (.n 3) (.seq true (.fld (.var 0) "due")) none [3]]])]⟩
abbrev s_unlike_ways : Stmt := top 60
def d_unlike_ways : DD := ⟨"unlike_ways", ["evening"], ["evening"], [.ifs (.call "is_alike" [.var 0]) [.ret (.cst .non)] [], .ret (.tup [.nevE, .nevE])]⟩
abbrev s_law : Stmt := top 78
def d_law : DD := ⟨"law", ["_law_script"], ["_law_script", "_law_dice_here", "_law_lists_here", "_law_unit_here", "_law_evening", "_law_found", "_law_told"], [.asg 1 (.alloc (.call "_law_dice" [.var 0])), .asg 2 (.call "_law_some_lists" [.var 1, .idx (.lst [.cst (.int 6), .cst (.int 12), .cst (.int 20)]) (.call "_law_draw" [.var 1, .cst (.int 3)])]), .asg 3 (.call "_law_unit" [.var 1]), .asg 4 (.call "_law_made" [.var 2, .var 3]), .asg 5 (.call "_law_unit_of" [.var 2]), .asg 6 (.call "unit_of" [.var 4]), .ifs (.bool false [.cmp .ne (.var 6) (.call "_law_told_unit" [.var 5, .var 3]), .bool true [.cmp .notn (.var 6) (.cst .non), .not (.isi (.var 6) "tuple")]]) [.ret (.cst (.bl false))] [], .ifs (.cmp .ne (.call "unit_of" [.call "mirrored" [.var 4]]) (.call "_law_told_unit" [.call "_law_unit_of" [.tup [.idx (.var 2) (.cst (.int 1)), .idx (.var 2) (.cst (.int 0))]], .var 3])) [.ret (.cst (.bl false))] [], .ifs (.cmp .ne (.call "unit_of" [.call "scaled" [.var 4, .tup [.cst (.int 3), .cst (.int 7)]]]) (.call "_law_told_unit" [.var 5, .call "_law_amount" [.bin .mul (.cst (.int 3)) (.idx (.var 3) (.cst (.int 0))), .bin .mul (.cst (.int 7)) (.idx (.var 3) (.cst (.int 1)))]])) [.ret (.cst (.bl false))] [], .ifs (.cmp .isn (.var 5) (.cst .non)) [.ret (.cst (.bl true))] [], .ret (.bool true [.call "_law_flag" [.call "is_alike" [.var 4], .cst (.bl true)], .cmp .isn (.call "unlike_ways" [.var 4]) (.cst .non)])]⟩
def globT : List (Str × Dt) := [("MOST_SIDE", .int 100), ("ZERO", .tup [.int 0, .int 1])]
def isiT : List (Ty × Str × Bool) := ([(Ty.b "NoneType", "bool", false), (Ty.b "bool", "bool", true), (Ty.b "int", "bool", false), (Ty.b "str", "bool", false), (Ty.b "tuple", "bool", false), (Ty.b "list", "bool", false), (Ty.b "dict", "bool", false), (Ty.b "NoneType", "int", false), (Ty.b "bool", "int", true), (Ty.b "int", "int", true), (Ty.b "str", "int", false), (Ty.b "tuple", "int", false)] : List (Ty × Str × Bool)) ++ ([(Ty.b "list", "int", false), (Ty.b "dict", "int", false), (Ty.b "NoneType", "tuple", false), (Ty.b "bool", "tuple", false), (Ty.b "int", "tuple", false), (Ty.b "str", "tuple", false), (Ty.b "tuple", "tuple", true), (Ty.b "list", "tuple", false), (Ty.b "dict", "tuple", false)] : List (Ty × Str × Bool))
def nfT : List (Nat × Ty) := []
def xisT : List (Nat × Str × Bool) := []
def PP : PD := ⟨[d_law_divisor, d_law_amount, d_law_dice, d_law_draw, d_law_flag, d_common_divisor, d_is_integer, d_is_pair, d_is_fraction, d_is_amount, d_are_sums, d_made, d_plus, d_total_of, d_law_sums, d_law_made, d_law_shuffled, d_law_split, d_law_alike_lists, d_law_side, d_law_lists, d_law_some_lists, d_law_told_unit, d_law_unit, d_law_unit_of, d_over, d_is_unit, d_unit_of, d_is_alike, d_mirrored, d_times, d_scaled, d_unlike_ways, d_law], [⟨"Evening", 0, true, d_Evening__init_⟩, ⟨"RawEvening", 1, true, d_RawEvening__init_⟩], [], fun x => globT.lookup x, isiOf isiT, nfOf nfT, xisOf xisT⟩
def S0 : Sx := ⟨[], ⟨.function, [], false, false, []⟩, false, ([("_law_divisor", 2), ("_law_amount", 2), ("_law_dice", 1), ("_law_draw", 2), ("_law_flag", 2), ("common_divisor", 2), ("is_integer", 1), ("is_pair", 1), ("is_fraction", 1), ("is_amount", 1), ("are_sums", 1), ("made", 2)] : List (Str × Nat)) ++ ([("plus", 2), ("total_of", 1), ("_law_sums", 2), ("_law_made", 2), ("_law_shuffled", 2), ("_law_split", 3), ("_law_alike_lists", 2), ("_law_side", 3), ("_law_lists", 2), ("_law_some_lists", 2), ("_law_told_unit", 2), ("_law_unit", 1)] : List (Str × Nat)) ++ ([("_law_unit_of", 1), ("over", 2), ("is_unit", 2), ("unit_of", 1), ("is_alike", 1), ("mirrored", 1), ("times", 2), ("scaled", 2), ("unlike_ways", 1), ("law", 1)] : List (Str × Nat)), [("Evening", 2), ("RawEvening", 2)], [], ["due", "owed"], ["MOST_SIDE", "ZERO"], ["bool", "int", "tuple"], ["abs", "all", "int", "isinstance", "len", "list", "min", "range", "sum", "tuple"], true, [], [], [], []⟩
theorem c_law_divisor (k : Nat) : (FP PP (k + 1)).call "_law_divisor" = runD (FP PP k) d_law_divisor := FP_call (i := 0) (by decide +kernel) rfl
theorem c_law_amount (k : Nat) : (FP PP (k + 1)).call "_law_amount" = runD (FP PP k) d_law_amount := FP_call (i := 1) (by decide +kernel) rfl
theorem c_law_dice (k : Nat) : (FP PP (k + 1)).call "_law_dice" = runD (FP PP k) d_law_dice := FP_call (i := 2) (by decide +kernel) rfl
theorem c_law_draw (k : Nat) : (FP PP (k + 1)).call "_law_draw" = runD (FP PP k) d_law_draw := FP_call (i := 3) (by decide +kernel) rfl
theorem c_law_flag (k : Nat) : (FP PP (k + 1)).call "_law_flag" = runD (FP PP k) d_law_flag := FP_call (i := 4) (by decide +kernel) rfl
theorem c_common_divisor (k : Nat) : (FP PP (k + 1)).call "common_divisor" = runD (FP PP k) d_common_divisor := FP_call (i := 5) (by decide +kernel) rfl
theorem c_is_integer (k : Nat) : (FP PP (k + 1)).call "is_integer" = runD (FP PP k) d_is_integer := FP_call (i := 6) (by decide +kernel) rfl
theorem c_is_pair (k : Nat) : (FP PP (k + 1)).call "is_pair" = runD (FP PP k) d_is_pair := FP_call (i := 7) (by decide +kernel) rfl
theorem c_is_fraction (k : Nat) : (FP PP (k + 1)).call "is_fraction" = runD (FP PP k) d_is_fraction := FP_call (i := 8) (by decide +kernel) rfl
theorem c_is_amount (k : Nat) : (FP PP (k + 1)).call "is_amount" = runD (FP PP k) d_is_amount := FP_call (i := 9) (by decide +kernel) rfl
theorem c_are_sums (k : Nat) : (FP PP (k + 1)).call "are_sums" = runD (FP PP k) d_are_sums := FP_call (i := 10) (by decide +kernel) rfl
theorem c_made (k : Nat) : (FP PP (k + 1)).call "made" = runD (FP PP k) d_made := FP_call (i := 11) (by decide +kernel) rfl
theorem c_plus (k : Nat) : (FP PP (k + 1)).call "plus" = runD (FP PP k) d_plus := FP_call (i := 12) (by decide +kernel) rfl
theorem c_total_of (k : Nat) : (FP PP (k + 1)).call "total_of" = runD (FP PP k) d_total_of := FP_call (i := 13) (by decide +kernel) rfl
theorem c_law_sums (k : Nat) : (FP PP (k + 1)).call "_law_sums" = runD (FP PP k) d_law_sums := FP_call (i := 14) (by decide +kernel) rfl
theorem c_law_made (k : Nat) : (FP PP (k + 1)).call "_law_made" = runD (FP PP k) d_law_made := FP_call (i := 15) (by decide +kernel) rfl
theorem c_law_shuffled (k : Nat) : (FP PP (k + 1)).call "_law_shuffled" = runD (FP PP k) d_law_shuffled := FP_call (i := 16) (by decide +kernel) rfl
theorem c_law_split (k : Nat) : (FP PP (k + 1)).call "_law_split" = runD (FP PP k) d_law_split := FP_call (i := 17) (by decide +kernel) rfl
theorem c_law_alike_lists (k : Nat) : (FP PP (k + 1)).call "_law_alike_lists" = runD (FP PP k) d_law_alike_lists := FP_call (i := 18) (by decide +kernel) rfl
theorem c_law_side (k : Nat) : (FP PP (k + 1)).call "_law_side" = runD (FP PP k) d_law_side := FP_call (i := 19) (by decide +kernel) rfl
theorem c_law_lists (k : Nat) : (FP PP (k + 1)).call "_law_lists" = runD (FP PP k) d_law_lists := FP_call (i := 20) (by decide +kernel) rfl
theorem c_law_some_lists (k : Nat) : (FP PP (k + 1)).call "_law_some_lists" = runD (FP PP k) d_law_some_lists := FP_call (i := 21) (by decide +kernel) rfl
theorem c_law_told_unit (k : Nat) : (FP PP (k + 1)).call "_law_told_unit" = runD (FP PP k) d_law_told_unit := FP_call (i := 22) (by decide +kernel) rfl
theorem c_law_unit (k : Nat) : (FP PP (k + 1)).call "_law_unit" = runD (FP PP k) d_law_unit := FP_call (i := 23) (by decide +kernel) rfl
theorem c_law_unit_of (k : Nat) : (FP PP (k + 1)).call "_law_unit_of" = runD (FP PP k) d_law_unit_of := FP_call (i := 24) (by decide +kernel) rfl
theorem c_over (k : Nat) : (FP PP (k + 1)).call "over" = runD (FP PP k) d_over := FP_call (i := 25) (by decide +kernel) rfl
theorem c_is_unit (k : Nat) : (FP PP (k + 1)).call "is_unit" = runD (FP PP k) d_is_unit := FP_call (i := 26) (by decide +kernel) rfl
theorem c_unit_of (k : Nat) : (FP PP (k + 1)).call "unit_of" = runD (FP PP k) d_unit_of := FP_call (i := 27) (by decide +kernel) rfl
theorem c_is_alike (k : Nat) : (FP PP (k + 1)).call "is_alike" = runD (FP PP k) d_is_alike := FP_call (i := 28) (by decide +kernel) rfl
theorem c_mirrored (k : Nat) : (FP PP (k + 1)).call "mirrored" = runD (FP PP k) d_mirrored := FP_call (i := 29) (by decide +kernel) rfl
theorem c_times (k : Nat) : (FP PP (k + 1)).call "times" = runD (FP PP k) d_times := FP_call (i := 30) (by decide +kernel) rfl
theorem c_scaled (k : Nat) : (FP PP (k + 1)).call "scaled" = runD (FP PP k) d_scaled := FP_call (i := 31) (by decide +kernel) rfl
theorem c_unlike_ways (k : Nat) : (FP PP (k + 1)).call "unlike_ways" = runD (FP PP k) d_unlike_ways := FP_call (i := 32) (by decide +kernel) rfl
theorem c_law (k : Nat) : (FP PP (k + 1)).call "law" = runD (FP PP k) d_law := FP_call (i := 33) (by decide +kernel) rfl
theorem n_Evening (k : Nat) : (FP PP (k + 1)).make "Evening" = mkI 0 (runI (FP PP k) d_Evening__init_ 0) := (FP_make (P := PP) (k := k) (x := "Evening") (i := 0) (t := ⟨"Evening", 0, true, d_Evening__init_⟩) (by decide +kernel) rfl).trans rfl
theorem n_RawEvening (k : Nat) : (FP PP (k + 1)).make "RawEvening" = mkI 1 (runI (FP PP k) d_RawEvening__init_ 1) := (FP_make (P := PP) (k := k) (x := "RawEvening") (i := 1) (t := ⟨"RawEvening", 1, true, d_RawEvening__init_⟩) (by decide +kernel) rfl).trans rfl
theorem go_law_divisor (L : Fns) (st : List MO) (Q : RV → List MO → Prop) (a0 a1 : Dt) : W Q (runD L d_law_divisor [a0, a1] st) = W (finQ Q) (Mq.execs L [.forr (.n 2) (.rng [.cst (.int 400)]) [.ifs (.cmp .eq (.var 1) (.cst (.int 0))) [.ret (.var 0)] [], .par 0 1 (.var 1) (.bin .mod (.bif "int" [.var 0]) (.var 1))], .ret (.var 0)] ⟨[.v a0, .v a1, .un], st⟩) := W_run
theorem go_law_amount (L : Fns) (st : List MO) (Q : RV → List MO → Prop) (a0 a1 : Dt) : W Q (runD L d_law_amount [a0, a1] st) = W (finQ Q) (Mq.execs L [.asg 2 (.call "_law_divisor" [.var 0, .var 1]), .ret (.tup [.bin .fdiv (.var 0) (.var 2), .bin .fdiv (.var 1) (.var 2)])] ⟨[.v a0, .v a1, .un], st⟩) := W_run
theorem go_law_dice (L : Fns) (st : List MO) (Q : RV → List MO → Prop) (a0 : Dt) : W Q (runD L d_law_dice [a0] st) = W (finQ Q) (Mq.execs L [.ret (.lst [.lc (.bif "abs" [.bif "int" [.var 1]]) (.n 1) (.seq true (.slc (.var 0) none (some (.cst (.int 63))))) none [1], .cst (.int 0), .cst (.int 0), .cst (.int 1), .cst (.int 0)])] ⟨[.v a0, .un], st⟩) := W_run
theorem go_law_draw (L : Fns) (st : List MO) (Q : RV → List MO → Prop) (a0 a1 : Dt) : W Q (runD L d_law_draw [a0, a1] st) = W (finQ Q) (Mq.execs L [.ifs (.bool true [.cmp .eq (.idx (.var 0) (.cst (.int 2))) (.cst (.int 0)), .cmp .lt (.idx (.var 0) (.cst (.int 1))) (.bif "len" [.idx (.var 0) (.cst (.int 0))])]) [.asg 3 (.idx (.idx (.var 0) (.cst (.int 0))) (.idx (.var 0) (.cst (.int 1)))), .seti (.var 0) (.cst (.int 1)) (.bin .add (.idx (.var 0) (.cst (.int 1))) (.cst (.int 1))), .ifs (.cmp .ge (.var 3) (.bin .pow (.cst (.int 10)) (.cst (.int 18)))) [.seti (.var 0) (.cst (.int 2)) (.var 3)] [.seti (.var 0) (.cst (.int 3)) (.bin .mod (.bif "int" [.bin .add (.bin .add (.bin .mul (.idx (.var 0) (.cst (.int 3))) (.cst (.int 69621))) (.bin .mul (.var 3) (.cst (.int 40692)))) (.idx (.var 0) (.cst (.int 1)))]) (.cst (.int 2147483647)))]] [], .ifs (.cmp .gt (.idx (.var 0) (.cst (.int 2))) (.cst (.int 0))) [.asg 4 (.bin .mod (.bif "int" [.idx (.var 0) (.cst (.int 2))]) (.var 1)), .seti (.var 0) (.cst (.int 2)) (.bin .fdiv (.bif "int" [.idx (.var 0) (.cst (.int 2))]) (.var 1)), .ret (.var 4)] [], .seti (.var 0) (.cst (.int 4)) (.bin .add (.idx (.var 0) (.cst (.int 4))) (.cst (.int 1))), .seti (.var 0) (.cst (.int 3)) (.bin .mod (.bif "int" [.bin .add (.bin .add (.bin .mul (.idx (.var 0) (.cst (.int 3))) (.cst (.int 48271))) (.bin .mul (.idx (.var 0) (.cst (.int 4))) (.cst (.int 7919)))) (.cst (.int 1))]) (.cst (.int 2147483647))), .asg 2 (.bin .mod (.bif "int" [.bin .mul (.idx (.var 0) (.cst (.int 3))) (.bin .add (.bin .fdiv (.idx (.var 0) (.cst (.int 3))) (.cst (.int 1009))) (.cst (.int 69623)))]) (.cst (.int 2147483399))), .asg 2 (.bin .mod (.bif "int" [.bin .mul (.var 2) (.bin .add (.bin .fdiv (.var 2) (.cst (.int 2003))) (.cst (.int 40693)))]) (.cst (.int 2147483563))), .ret (.bin .mod (.bif "int" [.bin .fdiv (.var 2) (.cst (.int 16))]) (.var 1))] ⟨[.v a0, .v a1, .un, .un, .un], st⟩) := W_run
theorem go_law_flag (L : Fns) (st : List MO) (Q : RV → List MO → Prop) (a0 a1 : Dt) : W Q (runD L d_law_flag [a0, a1] st) = W (finQ Q) (Mq.execs L [.ret (.bool true [.isi (.var 0) "bool", .cmp .eq (.var 0) (.var 1)])] ⟨[.v a0, .v a1], st⟩) := W_run
theorem go_common_divisor (L : Fns) (st : List MO) (Q : RV → List MO → Prop) (a0 a1 : Dt) : W Q (runD L d_common_divisor [a0, a1] st) = W (finQ Q) (Mq.execs L [.par 0 1 (.bif "abs" [.var 0]) (.bif "abs" [.var 1]), .whl 1000 (.cmp .gt (.var 1) (.cst (.int 0))) [.par 0 1 (.var 1) (.bin .mod (.var 0) (.var 1))], .ret (.var 0)] ⟨[.v a0, .v a1], st⟩) := W_run
theorem go_is_integer (L : Fns) (st : List MO) (Q : RV → List MO → Prop) (a0 : Dt) : W Q (runD L d_is_integer [a0] st) = W (finQ Q) (Mq.execs L [.ret (.bool true [.isi (.var 0) "int", .not (.isi (.var 0) "bool")])] ⟨[.v a0], st⟩) := W_run
theorem go_is_pair (L : Fns) (st : List MO) (Q : RV → List MO → Prop) (a0 : Dt) : W Q (runD L d_is_pair [a0] st) = W (finQ Q) (Mq.execs L [.ret (.bool true [.isi (.var 0) "tuple", .cmp .eq (.bif "len" [.var 0]) (.cst (.int 2))])] ⟨[.v a0], st⟩) := W_run
theorem go_is_fraction (L : Fns) (st : List MO) (Q : RV → List MO → Prop) (a0 : Dt) : W Q (runD L d_is_fraction [a0] st) = W (finQ Q) (Mq.execs L [.ifs (.bool false [.not (.call "is_pair" [.var 0]), .not (.call "is_integer" [.idx (.var 0) (.cst (.int 0))]), .not (.call "is_integer" [.idx (.var 0) (.cst (.int 1))]), .cmp .lt (.idx (.var 0) (.cst (.int 1))) (.cst (.int 1))]) [.ret (.cst (.bl false))] [], .ret (.cmp .eq (.call "common_divisor" [.idx (.var 0) (.cst (.int 0)), .idx (.var 0) (.cst (.int 1))]) (.cst (.int 1)))] ⟨[.v a0], st⟩) := W_run
theorem go_is_amount (L : Fns) (st : List MO) (Q : RV → List MO → Prop) (a0 : Dt) : W Q (runD L d_is_amount [a0] st) = W (finQ Q) (Mq.execs L [.ret (.bool true [.call "is_fraction" [.var 0], .cmp .gt (.idx (.var 0) (.cst (.int 0))) (.cst (.int 0))])] ⟨[.v a0], st⟩) := W_run
theorem go_are_sums (L : Fns) (st : List MO) (Q : RV → List MO → Prop) (a0 : Dt) : W Q (runD L d_are_sums [a0] st) = W (finQ Q) (Mq.execs L [.ret (.bool true [.isi (.var 0) "tuple", .cmp2 .le .le (.cst (.int 1)) (.bif "len" [.var 0]) (.glo "MOST_SIDE"), .bif "all" [.lc (.call "is_amount" [.var 1]) (.n 1) (.seq true (.var 0)) none [1]]])] ⟨[.v a0, .un], st⟩) := W_run
theorem go_made (L : Fns) (st : List MO) (Q : RV → List MO → Prop) (a0 a1 : Dt) : W Q (runD L d_made [a0, a1] st) = W (finQ Q) (Mq.execs L [.asg 2 (.call "common_divisor" [.var 0, .var 1]), .ret (.tup [.bin .fdiv (.var 0) (.var 2), .bin .fdiv (.var 1) (.var 2)])] ⟨[.v a0, .v a1, .un], st⟩) := W_run
theorem go_plus (L : Fns) (st : List MO) (Q : RV → List MO → Prop) (a0 a1 : Dt) : W Q (runD L d_plus [a0, a1] st) = W (finQ Q) (Mq.execs L [.ret (.call "made" [.bin .add (.bin .mul (.idx (.var 0) (.cst (.int 0))) (.idx (.var 1) (.cst (.int 1)))) (.bin .mul (.idx (.var 1) (.cst (.int 0))) (.idx (.var 0) (.cst (.int 1)))), .bin .mul (.idx (.var 0) (.cst (.int 1))) (.idx (.var 1) (.cst (.int 1)))])] ⟨[.v a0, .v a1], st⟩) := W_run
theorem go_total_of (L : Fns) (st : List MO) (Q : RV → List MO → Prop) (a0 : Dt) : W Q (runD L d_total_of [a0] st) = W (finQ Q) (Mq.execs L [.asg 1 (.glo "ZERO"), .forr (.n 2) (.seq true (.var 0)) [.asg 1 (.call "plus" [.var 1, .var 2])], .ret (.var 1)] ⟨[.v a0, .un, .un], st⟩) := W_run
theorem go_law_sums (L : Fns) (st : List MO) (Q : RV → List MO → Prop) (a0 a1 : Dt) : W Q (runD L d_law_sums [a0, a1] st) = W (finQ Q) (Mq.execs L [.ret (.bif "tuple" [.lc (.call "_law_amount" [.bin .mul (.var 2) (.idx (.var 1) (.cst (.int 0))), .idx (.var 1) (.cst (.int 1))]) (.n 2) (.seq true (.var 0)) none [2]])] ⟨[.v a0, .v a1, .un], st⟩) := W_run
theorem go_law_made (L : Fns) (st : List MO) (Q : RV → List MO → Prop) (a0 a1 : Dt) : W Q (runD L d_law_made [a0, a1] st) = W (finQ Q) (Mq.execs L [.ret (.make "Evening" [.call "_law_sums" [.idx (.var 0) (.cst (.int 0)), .var 1], .call "_law_sums" [.idx (.var 0) (.cst (.int 1)), .var 1]])] ⟨[.v a0, .v a1], st⟩) := W_run
theorem go_law_shuffled (L : Fns) (st : List MO) (Q : RV → List MO → Prop) (a0 a1 : Dt) : W Q (runD L d_law_shuffled [a0, a1] st) = W (finQ Q) (Mq.execs L [.asg 2 (.bif "list" [.var 1]), .ret (.bif "tuple" [.lc (.bme (.var 2) "pop" [.call "_law_draw" [.var 0, .bif "len" [.var 2]]]) (.n 3) (.rng [.bif "len" [.var 2]]) none [3]])] ⟨[.v a0, .v a1, .un, .un], st⟩) := W_run
theorem go_law_split (L : Fns) (st : List MO) (Q : RV → List MO → Prop) (a0 a1 a2 : Dt) : W Q (runD L d_law_split [a0, a1, a2] st) = W (finQ Q) (Mq.execs L [.asg 3 (.lst []), .asg 4 (.var 1), .forr (.n 5) (.rng [.bin .sub (.bif "min" [.var 1, .var 2]) (.cst (.int 1)), .cst (.int 0), .neg (.cst (.int 1))]) [.expr (.bme (.var 3) "append" [.bin .add (.cst (.int 1)) (.call "_law_draw" [.var 0, .bif "min" [.bin .sub (.var 4) (.var 5), .cst (.int 9)]])]), .asg 4 (.bin .sub (.var 4) (.idx (.var 3) (.neg (.cst (.int 1)))))], .ret (.bin .add (.var 3) (.lst [.var 4]))] ⟨[.v a0, .v a1, .v a2, .un, .un, .un], st⟩) := W_run
theorem go_law_alike_lists (L : Fns) (st : List MO) (Q : RV → List MO → Prop) (a0 a1 : Dt) : W Q (runD L d_law_alike_lists [a0, a1] st) = W (finQ Q) (Mq.execs L [.asg 2 (.bin .add (.cst (.int 1)) (.call "_law_draw" [.var 0, .bin .sub (.var 1) (.cst (.int 1))])), .asg 3 (.bin .add (.cst (.int 1)) (.call "_law_draw" [.var 0, .cst (.int 4)])), .asg 4 (.lc (.bin .mul (.var 3) (.var 10)) (.n 10) (.seq true (.call "_law_split" [.var 0, .var 2, .bin .add (.cst (.int 1)) (.call "_law_draw" [.var 0, .bin .sub (.var 1) (.var 2)])])) none [10]), .asg 5 (.bin .mul (.lst [.var 3]) (.var 2)), .asg 6 (.call "_law_draw" [.var 0, .cst (.int 4)]), .asg 7 (.call "_law_draw" [.var 0, .bif "len" [.var 4]]), .ifs (.bool true [.cmp .eq (.var 6) (.cst (.int 0)), .cmp .gt (.var 2) (.cst (.int 1)), .cmp .gt (.var 3) (.cst (.int 1))]) [.seti (.var 5) (.cst (.int 0)) (.bin .add (.idx (.var 5) (.cst (.int 0))) (.cst (.int 1))), .seti (.var 5) (.cst (.int 1)) (.bin .sub (.idx (.var 5) (.cst (.int 1))) (.cst (.int 1)))] [], .ifs (.bool true [.cmp .eq (.var 6) (.cst (.int 1)), .cmp .gt (.bif "len" [.var 4]) (.cst (.int 1))]) [.seti (.var 4) (.var 7) (.bin .add (.idx (.var 4) (.var 7)) (.cst (.int 1))), .asg 9 (.bin .mod (.bif "int" [.bin .add (.var 7) (.cst (.int 1))]) (.bif "len" [.var 4])), .seti (.var 4) (.var 9) (.bin .sub (.idx (.var 4) (.var 9)) (.cst (.int 1))), .ifs (.cmp .eq (.idx (.var 4) (.var 9)) (.cst (.int 0))) [.expr (.bme (.var 4) "pop" [.var 9])] []] [], .asg 8 (.tup [.bif "list" [.call "_law_shuffled" [.var 0, .var 5]], .bif "list" [.call "_law_shuffled" [.var 0, .var 4]]]), .ifs (.cmp .eq (.call "_law_draw" [.var 0, .cst (.int 2)]) (.cst (.int 0))) [.ret (.tup [.idx (.var 8) (.cst (.int 1)), .idx (.var 8) (.cst (.int 0))])] [], .ret (.var 8)] ⟨[.v a0, .v a1, .un, .un, .un, .un, .un, .un, .un, .un, .un], st⟩) := W_run
theorem go_law_side (L : Fns) (st : List MO) (Q : RV → List MO → Prop) (a0 a1 a2 : Dt) : W Q (runD L d_law_side [a0, a1, a2] st) = W (finQ Q) (Mq.execs L [.ifs (.cmp .eq (.call "_law_draw" [.var 0, .cst (.int 4)]) (.cst (.int 0))) [.ret (.bin .mul (.lst [.bin .add (.cst (.int 1)) (.call "_law_draw" [.var 0, .var 2])]) (.var 1))] [], .ret (.lc (.bin .add (.cst (.int 1)) (.call "_law_draw" [.var 0, .var 2])) (.n 3) (.rng [.var 1]) none [3])] ⟨[.v a0, .v a1, .v a2, .un], st⟩) := W_run
theorem go_law_lists (L : Fns) (st : List MO) (Q : RV → List MO → Prop) (a0 a1 : Dt) : W Q (runD L d_law_lists [a0, a1] st) = W (finQ Q) (Mq.execs L [.ifs (.bool true [.cmp .gt (.var 1) (.cst (.int 3)), .cmp .eq (.call "_law_draw" [.var 0, .cst (.int 3)]) (.cst (.int 0))]) [.asg 5 (.call "_law_lists" [.var 0, .bin .fdiv (.var 1) (.cst (.int 2))]), .asg 6 (.call "_law_lists" [.var 0, .bin .sub (.bin .sub (.var 1) (.bif "len" [.idx (.var 5) (.cst (.int 0))])) (.bif "len" [.idx (.var 5) (.cst (.int 1))])]), .asg 3 (.call "_law_shuffled" [.var 0, .bin .add (.idx (.var 5) (.cst (.int 0))) (.idx (.var 6) (.cst (.int 0)))]), .ret (.tup [.bif "list" [.var 3], .bif "list" [.call "_law_shuffled" [.var 0, .bin .add (.idx (.var 5) (.cst (.int 1))) (.idx (.var 6) (.cst (.int 1)))]]])] [], .asg 2 (.bin .add (.cst (.int 1)) (.call "_law_draw" [.var 0, .bin .sub (.var 1) (.cst (.int 1))])), .asg 3 (.call "_law_side" [.var 0, .var 2, .idx (.lst [.cst (.int 2), .cst (.int 3), .cst (.int 6), .cst (.int 12)]) (.call "_law_draw" [.var 0, .cst (.int 4)])]), .asg 4 (.call "_law_split" [.var 0, .bif "sum" [.var 3], .bin .add (.cst (.int 1)) (.call "_law_draw" [.var 0, .bin .sub (.var 1) (.var 2)])]), .ifs (.cmp .eq (.call "_law_draw" [.var 0, .cst (.int 2)]) (.cst (.int 0))) [.ret (.tup [.var 4, .var 3])] [], .ret (.tup [.var 3, .var 4])] ⟨[.v a0, .v a1, .un, .un, .un, .un, .un], st⟩) := W_run
theorem go_law_some_lists (L : Fns) (st : List MO) (Q : RV → List MO → Prop) (a0 a1 : Dt) : W Q (runD L d_law_some_lists [a0, a1] st) = W (finQ Q) (Mq.execs L [.ifs (.cmp .eq (.call "_law_draw" [.var 0, .cst (.int 2)]) (.cst (.int 0))) [.ret (.call "_law_alike_lists" [.var 0, .var 1])] [], .ret (.call "_law_lists" [.var 0, .var 1])] ⟨[.v a0, .v a1], st⟩) := W_run
theorem go_law_told_unit (L : Fns) (st : List MO) (Q : RV → List MO → Prop) (a0 a1 : Dt) : W Q (runD L d_law_told_unit [a0, a1] st) = W (finQ Q) (Mq.execs L [.ifs (.cmp .isn (.var 0) (.cst .non)) [.ret (.cst .non)] [], .ret (.tup [.idx (.var 0) (.cst (.int 0)), .call "_law_amount" [.bin .mul (.idx (.var 0) (.cst (.int 1))) (.idx (.var 1) (.cst (.int 0))), .idx (.var 1) (.cst (.int 1))]])] ⟨[.v a0, .v a1], st⟩) := W_run
theorem go_law_unit (L : Fns) (st : List MO) (Q : RV → List MO → Prop) (a0 : Dt) : W Q (runD L d_law_unit [a0] st) = W (finQ Q) (Mq.execs L [.ret (.idx (.lst [.tup [.cst (.int 1), .cst (.int 1)], .tup [.cst (.int 1), .cst (.int 1)], .tup [.cst (.int 1), .cst (.int 2)], .tup [.cst (.int 5), .cst (.int 3)], .tup [.cst (.int 7), .cst (.int 1)], .tup [.cst (.int 10), .cst (.int 9)]]) (.call "_law_draw" [.var 0, .cst (.int 6)]))] ⟨[.v a0], st⟩) := W_run
theorem go_law_unit_of (L : Fns) (st : List MO) (Q : RV → List MO → Prop) (a0 : Dt) : W Q (runD L d_law_unit_of [a0] st) = W (finQ Q) (Mq.execs L [.forr (.n 1) (.rng [.cst (.int 2)]) [.asg 2 (.idx (.idx (.var 0) (.var 1)) (.cst (.int 0))), .ifs (.bool true [.cmp .eq (.idx (.var 0) (.var 1)) (.bin .mul (.lst [.var 2]) (.bif "len" [.idx (.var 0) (.var 1)])), .cmp .eq (.lc (.var 3) (.n 3) (.seq true (.idx (.var 0) (.bin .sub (.cst (.int 1)) (.var 1)))) (some (.cmp .ne (.bin .mod (.bif "int" [.var 3]) (.var 2)) (.cst (.int 0)))) [3]) (.lst [])]) [.ret (.tup [.idx (.lst [.cst (.str "owed"), .cst (.str "due")]) (.var 1), .var 2])] []], .ret (.cst .non)] ⟨[.v a0, .un, .un, .un], st⟩) := W_run
theorem go_over (L : Fns) (st : List MO) (Q : RV → List MO → Prop) (a0 a1 : Dt) : W Q (runD L d_over [a0, a1] st) = W (finQ Q) (Mq.execs L [.ret (.call "made" [.bin .mul (.idx (.var 0) (.cst (.int 0))) (.idx (.var 1) (.cst (.int 1))), .bin .mul (.idx (.var 0) (.cst (.int 1))) (.idx (.var 1) (.cst (.int 0)))])] ⟨[.v a0, .v a1], st⟩) := W_run
theorem go_is_unit (L : Fns) (st : List MO) (Q : RV → List MO → Prop) (a0 a1 : Dt) : W Q (runD L d_is_unit [a0, a1] st) = W (finQ Q) (Mq.execs L [.ret (.bool true [.bif "all" [.lc (.cmp .eq (.var 2) (.idx (.var 0) (.cst (.int 0)))) (.n 2) (.seq true (.var 0)) none [2]], .bif "all" [.lc (.cmp .eq (.idx (.call "over" [.var 2, .idx (.var 0) (.cst (.int 0))]) (.cst (.int 1))) (.cst (.int 1))) (.n 2) (.seq true (.var 1)) none [2]]])] ⟨[.v a0, .v a1, .un], st⟩) := W_run
theorem go_unit_of (L : Fns) (st : List MO) (Q : RV → List MO → Prop) (a0 : Dt) : W Q (runD L d_unit_of [a0] st) = W (finQ Q) (Mq.execs L [.ifs (.call "is_unit" [.fld (.var 0) "owed", .fld (.var 0) "due"]) [.ret (.tup [.cst (.str "owed"), .idx (.fld (.var 0) "owed") (.cst (.int 0))])] [], .ifs (.call "is_unit" [.fld (.var 0) "due", .fld (.var 0) "owed"]) [.ret (.tup [.cst (.str "due"), .idx (.fld (.var 0) "due") (.cst (.int 0))])] [], .ret (.cst .non)] ⟨[.v a0], st⟩) := W_run
theorem go_is_alike (L : Fns) (st : List MO) (Q : RV → List MO → Prop) (a0 : Dt) : W Q (runD L d_is_alike [a0] st) = W (finQ Q) (Mq.execs L [.ifs (.cmp .notn (.call "unit_of" [.var 0]) (.cst .non)) [.ret (.cst (.bl true))] [], .expr (.nevE), .ret (.cmp .eq (.idx (.nevE) (.neg (.cst (.int 1)))) (.cst (.int 1)))] ⟨[.v a0], st⟩) := W_run
theorem go_mirrored (L : Fns) (st : List MO) (Q : RV → List MO → Prop) (a0 : Dt) : W Q (runD L d_mirrored [a0] st) = W (finQ Q) (Mq.execs L [.ret (.make "RawEvening" [.fld (.var 0) "due", .fld (.var 0) "owed"])] ⟨[.v a0], st⟩) := W_run
theorem go_times (L : Fns) (st : List MO) (Q : RV → List MO → Prop) (a0 a1 : Dt) : W Q (runD L d_times [a0, a1] st) = W (finQ Q) (Mq.execs L [.ret (.call "made" [.bin .mul (.idx (.var 0) (.cst (.int 0))) (.idx (.var 1) (.cst (.int 0))), .bin .mul (.idx (.var 0) (.cst (.int 1))) (.idx (.var 1) (.cst (.int 1)))])] ⟨[.v a0, .v a1], st⟩) := W_run
theorem go_scaled (L : Fns) (st : List MO) (Q : RV → List MO → Prop) (a0 a1 : Dt) : W Q (runD L d_scaled [a0, a1] st) = W (finQ Q) (Mq.execs L [.ifs (.not (.call "is_amount" [.var 1])) [.nev] [], .asg 2 (.bif "tuple" [.lc (.call "times" [.var 3, .var 1]) (.n 3) (.seq true (.fld (.var 0) "owed")) none [3]]), .ret (.make "RawEvening" [.var 2, .bif "tuple" [.lc (.call "times" [.var 3, .var 1]) (.n 3) (.seq true (.fld (.var 0) "due")) none [3]]])] ⟨[.v a0, .v a1, .un, .un], st⟩) := W_run
theorem go_unlike_ways (L : Fns) (st : List MO) (Q : RV → List MO → Prop) (a0 : Dt) : W Q (runD L d_unlike_ways [a0] st) = W (finQ Q) (Mq.execs L [.ifs (.call "is_alike" [.var 0]) [.ret (.cst .non)] [], .ret (.tup [.nevE, .nevE])] ⟨[.v a0], st⟩) := W_run
theorem go_law (L : Fns) (st : List MO) (Q : RV → List MO → Prop) (a0 : Dt) : W Q (runD L d_law [a0] st) = W (finQ Q) (Mq.execs L [.asg 1 (.alloc (.call "_law_dice" [.var 0])), .asg 2 (.call "_law_some_lists" [.var 1, .idx (.lst [.cst (.int 6), .cst (.int 12), .cst (.int 20)]) (.call "_law_draw" [.var 1, .cst (.int 3)])]), .asg 3 (.call "_law_unit" [.var 1]), .asg 4 (.call "_law_made" [.var 2, .var 3]), .asg 5 (.call "_law_unit_of" [.var 2]), .asg 6 (.call "unit_of" [.var 4]), .ifs (.bool false [.cmp .ne (.var 6) (.call "_law_told_unit" [.var 5, .var 3]), .bool true [.cmp .notn (.var 6) (.cst .non), .not (.isi (.var 6) "tuple")]]) [.ret (.cst (.bl false))] [], .ifs (.cmp .ne (.call "unit_of" [.call "mirrored" [.var 4]]) (.call "_law_told_unit" [.call "_law_unit_of" [.tup [.idx (.var 2) (.cst (.int 1)), .idx (.var 2) (.cst (.int 0))]], .var 3])) [.ret (.cst (.bl false))] [], .ifs (.cmp .ne (.call "unit_of" [.call "scaled" [.var 4, .tup [.cst (.int 3), .cst (.int 7)]]]) (.call "_law_told_unit" [.var 5, .call "_law_amount" [.bin .mul (.cst (.int 3)) (.idx (.var 3) (.cst (.int 0))), .bin .mul (.cst (.int 7)) (.idx (.var 3) (.cst (.int 1)))]])) [.ret (.cst (.bl false))] [], .ifs (.cmp .isn (.var 5) (.cst .non)) [.ret (.cst (.bl true))] [], .ret (.bool true [.call "_law_flag" [.call "is_alike" [.var 4], .cst (.bl true)], .cmp .isn (.call "unlike_ways" [.var 4]) (.cst .non)])] ⟨[.v a0, .un, .un, .un, .un, .un, .un], st⟩) := W_run
@[simp] theorem gl_MOST_SIDE (k : Nat) : (FP PP k).glob "MOST_SIDE" = some (.int 100) := by cases k <;> rfl
@[simp] theorem gl_ZERO (k : Nat) : (FP PP k).glob "ZERO" = some (.tup [.int 0, .int 1]) := by cases k <;> rfl
@[simp] theorem is_0 (k : Nat) : (FP PP k).isi (Ty.b "NoneType") "bool" = some false := by rw [FP_isi]; decide +kernel
@[simp] theorem is_1 (k : Nat) : (FP PP k).isi (Ty.b "bool") "bool" = some true := by rw [FP_isi]; decide +kernel
@[simp] theorem is_2 (k : Nat) : (FP PP k).isi (Ty.b "int") "bool" = some false := by rw [FP_isi]; decide +kernel
@[simp] theorem is_3 (k : Nat) : (FP PP k).isi (Ty.b "str") "bool" = some false := by rw [FP_isi]; decide +kernel
@[simp] theorem is_4 (k : Nat) : (FP PP k).isi (Ty.b "tuple") "bool" = some false := by rw [FP_isi]; decide +kernel
@[simp] theorem is_5 (k : Nat) : (FP PP k).isi (Ty.b "list") "bool" = some false := by rw [FP_isi]; decide +kernel
@[simp] theorem is_6 (k : Nat) : (FP PP k).isi (Ty.b "dict") "bool" = some false := by rw [FP_isi]; decide +kernel
@[simp] theorem is_7 (k : Nat) : (FP PP k).isi (Ty.b "NoneType") "int" = some false := by rw [FP_isi]; decide +kernel
@[simp] theorem is_8 (k : Nat) : (FP PP k).isi (Ty.b "bool") "int" = some true := by rw [FP_isi]; decide +kernel
@[simp] theorem is_9 (k : Nat) : (FP PP k).isi (Ty.b "int") "int" = some true := by rw [FP_isi]; decide +kernel
@[simp] theorem is_10 (k : Nat) : (FP PP k).isi (Ty.b "str") "int" = some false := by rw [FP_isi]; decide +kernel
@[simp] theorem is_11 (k : Nat) : (FP PP k).isi (Ty.b "tuple") "int" = some false := by rw [FP_isi]; decide +kernel
@[simp] theorem is_12 (k : Nat) : (FP PP k).isi (Ty.b "list") "int" = some false := by rw [FP_isi]; decide +kernel
@[simp] theorem is_13 (k : Nat) : (FP PP k).isi (Ty.b "dict") "int" = some false := by rw [FP_isi]; decide +kernel
@[simp] theorem is_14 (k : Nat) : (FP PP k).isi (Ty.b "NoneType") "tuple" = some false := by rw [FP_isi]; decide +kernel
@[simp] theorem is_15 (k : Nat) : (FP PP k).isi (Ty.b "bool") "tuple" = some false := by rw [FP_isi]; decide +kernel
@[simp] theorem is_16 (k : Nat) : (FP PP k).isi (Ty.b "int") "tuple" = some false := by rw [FP_isi]; decide +kernel
@[simp] theorem is_17 (k : Nat) : (FP PP k).isi (Ty.b "str") "tuple" = some false := by rw [FP_isi]; decide +kernel
@[simp] theorem is_18 (k : Nat) : (FP PP k).isi (Ty.b "tuple") "tuple" = some true := by rw [FP_isi]; decide +kernel
@[simp] theorem is_19 (k : Nat) : (FP PP k).isi (Ty.b "list") "tuple" = some false := by rw [FP_isi]; decide +kernel
@[simp] theorem is_20 (k : Nat) : (FP PP k).isi (Ty.b "dict") "tuple" = some false := by rw [FP_isi]; decide +kernel
abbrev cn_Evening : Nat := 0
abbrev cn_RawEvening : Nat := 1
theorem ck_law_divisor : ddC (S0.on d_law_divisor s_law_divisor) d_law_divisor s_law_divisor = true := by decide +kernel
theorem ck_law_amount : ddC (S0.on d_law_amount s_law_amount) d_law_amount s_law_amount = true := by decide +kernel
theorem ck_law_dice : ddC (S0.on d_law_dice s_law_dice) d_law_dice s_law_dice = true := by decide +kernel
theorem ck_law_draw : ddC (S0.on d_law_draw s_law_draw) d_law_draw s_law_draw = true := by decide +kernel
theorem ck_law_flag : ddC (S0.on d_law_flag s_law_flag) d_law_flag s_law_flag = true := by decide +kernel
theorem ck_common_divisor : ddC (S0.on d_common_divisor s_common_divisor) d_common_divisor s_common_divisor = true := by decide +kernel
theorem ck_is_integer : ddC (S0.on d_is_integer s_is_integer) d_is_integer s_is_integer = true := by decide +kernel
theorem ck_is_pair : ddC (S0.on d_is_pair s_is_pair) d_is_pair s_is_pair = true := by decide +kernel
theorem ck_is_fraction : ddC (S0.on d_is_fraction s_is_fraction) d_is_fraction s_is_fraction = true := by decide +kernel
theorem ck_is_amount : ddC (S0.on d_is_amount s_is_amount) d_is_amount s_is_amount = true := by decide +kernel
theorem ck_are_sums : ddC (S0.on d_are_sums s_are_sums) d_are_sums s_are_sums = true := by decide +kernel
theorem ck_made : ddC (S0.on d_made s_made) d_made s_made = true := by decide +kernel
theorem ck_plus : ddC (S0.on d_plus s_plus) d_plus s_plus = true := by decide +kernel
theorem ck_total_of : ddC (S0.on d_total_of s_total_of) d_total_of s_total_of = true := by decide +kernel
theorem ck_Evening__init_ : ddC (S0.on d_Evening__init_ s_Evening__init_) d_Evening__init_ s_Evening__init_ = true := by decide +kernel
theorem ck_law_sums : ddC (S0.on d_law_sums s_law_sums) d_law_sums s_law_sums = true := by decide +kernel
theorem ck_law_made : ddC (S0.on d_law_made s_law_made) d_law_made s_law_made = true := by decide +kernel
theorem ck_law_shuffled : ddC (S0.on d_law_shuffled s_law_shuffled) d_law_shuffled s_law_shuffled = true := by decide +kernel
theorem ck_law_split : ddC (S0.on d_law_split s_law_split) d_law_split s_law_split = true := by decide +kernel
theorem ck_law_alike_lists : ddC (S0.on d_law_alike_lists s_law_alike_lists) d_law_alike_lists s_law_alike_lists = true := by decide +kernel
theorem ck_law_side : ddC (S0.on d_law_side s_law_side) d_law_side s_law_side = true := by decide +kernel
theorem ck_law_lists : ddC (S0.on d_law_lists s_law_lists) d_law_lists s_law_lists = true := by decide +kernel
theorem ck_law_some_lists : ddC (S0.on d_law_some_lists s_law_some_lists) d_law_some_lists s_law_some_lists = true := by decide +kernel
theorem ck_law_told_unit : ddC (S0.on d_law_told_unit s_law_told_unit) d_law_told_unit s_law_told_unit = true := by decide +kernel
theorem ck_law_unit : ddC (S0.on d_law_unit s_law_unit) d_law_unit s_law_unit = true := by decide +kernel
theorem ck_law_unit_of : ddC (S0.on d_law_unit_of s_law_unit_of) d_law_unit_of s_law_unit_of = true := by decide +kernel
theorem ck_over : ddC (S0.on d_over s_over) d_over s_over = true := by decide +kernel
theorem ck_is_unit : ddC (S0.on d_is_unit s_is_unit) d_is_unit s_is_unit = true := by decide +kernel
theorem ck_unit_of : ddC (S0.on d_unit_of s_unit_of) d_unit_of s_unit_of = true := by decide +kernel
theorem ck_is_alike : ddC (S0.on d_is_alike s_is_alike) d_is_alike s_is_alike = true := by decide +kernel
theorem ck_RawEvening__init_ : ddC (S0.on d_RawEvening__init_ s_RawEvening__init_) d_RawEvening__init_ s_RawEvening__init_ = true := by decide +kernel
theorem ck_mirrored : ddC (S0.on d_mirrored s_mirrored) d_mirrored s_mirrored = true := by decide +kernel
theorem ck_times : ddC (S0.on d_times s_times) d_times s_times = true := by decide +kernel
theorem ck_scaled : ddC (S0.on d_scaled s_scaled) d_scaled s_scaled = true := by decide +kernel
theorem ck_unlike_ways : ddC (S0.on d_unlike_ways s_unlike_ways) d_unlike_ways s_unlike_ways = true := by decide +kernel
theorem ck_law : ddC (S0.on d_law s_law) d_law s_law = true := by decide +kernel
end K38

namespace K38
open PySem L2 Mq
/-! ### the dice library's draws -/
def Hand (b : Nat) (mo : MO) : Prop := ∃ (cs : List Int) (i d m k : Int), mo = .l [.lst (cs.map .int), .int i, .int d, .int m, .int k] ∧ (∀ c ∈ cs, 0 ≤ c) ∧ 0 ≤ i ∧ 0 ≤ d ∧ 0 ≤ m ∧ m ≤ 2147483647 ∧ 0 ≤ k ∧ k ≤ b
theorem Hand.mono {b c : Nat} {mo : MO} (h : Hand b mo) (hb : b ≤ c) : Hand c mo := by
  obtain ⟨cs, i, d, m, k, e, z, a1, a2, a3, a4, a5, a6⟩ := h
  exact ⟨cs, i, d, m, k, e, z, a1, a2, a3, a4, a5, by omega⟩
theorem two64 : (18446744073709551616 : Nat) ≤ 2 ^ 4000 := by
  have : (2 : Nat) ^ 64 ≤ 2 ^ 4000 := Nat.pow_le_pow_right (by decide) (by decide)
  exact this
theorem sm64 {i : Int} (h : i.natAbs < 18446744073709551616) : Sm i := Nat.lt_of_lt_of_le h two64
theorem draw_tail (L : Fns) (st : List MO) (n b : Nat) (mo : MO) (many : Int) (x : Sl) (hn : n < st.length) (hh : Hand b mo) (hb : b ≤ 1000000) (h1 : 1 ≤ many) (hs : Sm many) :
    ∃ r mo' sl, Mq.execs L (d_law_draw.ms.drop 1) ⟨[.v (.ref n), .v (.int many), .un, x, .un], st.set n mo⟩ = .ok (.ret (.v (.int r))) ⟨sl, st.set n mo'⟩ ∧ Hand (b + 1) mo' ∧ 0 ≤ r ∧ r < many := by
  obtain ⟨cs, i, d, m, k, rfl, hc, i0, d0, m0, m1, k0, k1⟩ := hh
  unfold d_law_draw
  by_cases hd : 0 < d
  · refine ⟨d % many, .l [.lst (cs.map .int), .int i, .int (d / many), .int m, .int k], [.v (.ref n), .v (.int many), .un, x, .v (.int (d % many))], by simp [hn, hd, hs, show (0 : Int) < many by omega], ⟨cs, i, d / many, m, k, rfl, hc, i0, Int.ediv_nonneg d0 (by omega), m0, m1, k0, by omega⟩, Int.emod_nonneg _ (by omega), Int.emod_lt_of_pos _ (by omega)⟩
  · have s1 : Sm m := .of40 (by omega)
    have s2 : Sm (k + 1) := .of40 (by omega)
    have s3 : Sm 48271 := .of40 (by decide)
    have s4 : Sm 7919 := .of40 (by decide)
    have s5 : Sm 1009 := .of40 (by decide)
    have s6 : Sm 2003 := .of40 (by decide)
    have s7 : Sm 16 := .of40 (by decide)
    have t1 : ∀ x : Int, Sm (x % 2147483647) := fun x => .of40 (by omega)
    have t2 : ∀ x : Int, Sm (x % 2147483647 / 1009 + 69623) := fun x => .of40 (by omega)
    have t3 : ∀ x : Int, Sm (x % 2147483399) := fun x => .of40 (by omega)
    have t4 : ∀ x : Int, Sm (x % 2147483399 / 2003 + 40693) := fun x => .of40 (by omega)
    refine ⟨_, _, _, by simp [hn, hd, hs, s1, s2, s3, s4, s5, s6, s7, t1, t2, t3, t4, show (0 : Int) < many by omega]; exact ⟨rfl, rfl⟩, ⟨cs, i, d, (m * 48271 + (k + 1) * 7919 + 1) % 2147483647, k + 1, rfl, hc, i0, d0, by omega, by omega, by omega, by omega⟩, Int.emod_nonneg _ (by omega), Int.emod_lt_of_pos _ (by omega)⟩
theorem draw_ok (L : Fns) (st : List MO) (n b : Nat) (mo : MO) (many : Int) (h : st[n]? = some mo) (hh : Hand b mo) (hb : b ≤ 1000000) (h1 : 1 ≤ many) (hs : Sm many) :
    ∃ r mo', runD L d_law_draw [.ref n, .int many] st = .ok (.v (.int r)) (st.set n mo') ∧ Hand (b + 1) mo' ∧ 0 ≤ r ∧ r < many := by
  have hn := (List.getElem?_eq_some_iff.mp h).1
  have es := set_same h
  have start : ∀ (x : Sl) (mo2 : MO), Hand b mo2 → Mq.exec L (d_law_draw.ms[0]'(by decide)) ⟨[.v (.ref n), .v (.int many), .un, .un, .un], st⟩ = .ok .nx ⟨[.v (.ref n), .v (.int many), .un, x, .un], st.set n mo2⟩ →
      ∃ r mo', runD L d_law_draw [.ref n, .int many] st = .ok (.v (.int r)) (st.set n mo') ∧ Hand (b + 1) mo' ∧ 0 ≤ r ∧ r < many := fun x mo2 h2 e => by
    obtain ⟨r, mo', sl, e2, p⟩ := draw_tail L st n b mo2 many x hn h2 hb h1 hs
    refine ⟨r, mo', ?_, p⟩
    have ems : d_law_draw.ms = d_law_draw.ms[0]'(by decide) :: d_law_draw.ms.drop 1 := rfl
    unfold runD
    rw [ems, x_cons]
    have sl0 : slots d_law_draw.N.length ([Dt.ref n, .int many].map Sl.v) = [.v (.ref n), .v (.int many), .un, .un, .un] := rfl
    rw [sl0, e, r_ok, thenS_nx, e2]; rfl
  obtain ⟨cs, i, d, m, k, rfl, hc, i0, d0, m0, m1, k0, k1⟩ := hh
  by_cases c1 : d = 0 ∧ i < cs.length
  · obtain ⟨rfl, c2⟩ := c1
    obtain ⟨c, cm, ec⟩ := at_map i0 c2
    have s1 : Sm m := .of40 (by omega)
    have s2 : Sm 69621 := .of40 (by decide)
    have s3 : Sm 40692 := .of40 (by decide)
    have pw : ∀ s : SS, binV .pow (.v (.int 10)) (.v (.int 18)) s = some (.v (.int (10 ^ 18))) := fun s => v_powO (by decide)
    by_cases c3 : 10 ^ 18 ≤ c
    · refine start (.v (.int c)) (.l [.lst (cs.map .int), .int (i + 1), .int c, .int m, .int k]) ⟨cs, i + 1, c, m, k, rfl, hc, by omega, hc c cm, m0, m1, k0, k1⟩ ?_
      unfold d_law_draw
      rw [es]
      have c4 : (1000000000000000000 : Int) ≤ c := by omega
      simp [hn, s1, s2, ec, c2, pw, c4]
    · have c0 := hc c cm
      have s4 : Sm c := sm64 (by omega)
      refine start (.v (.int c)) (.l [.lst (cs.map .int), .int (i + 1), .int 0, .int ((m * 69621 + c * 40692 + (i + 1)) % 2147483647), .int k]) ⟨cs, i + 1, 0, _, k, rfl, hc, by omega, by omega, by omega, by omega, k0, k1⟩ ?_
      unfold d_law_draw
      rw [es]
      have c4 : ¬ (1000000000000000000 : Int) ≤ c := by omega
      simp [hn, s1, s2, s3, s4, ec, c2, pw, c4]
  · refine start .un _ ⟨cs, i, d, m, k, rfl, hc, i0, d0, m0, m1, k0, k1⟩ ?_
    unfold d_law_draw
    rw [es]
    simp [hn]
    by_cases c2 : d = 0
    · have c3 : ¬ i < cs.length := fun z => c1 ⟨c2, z⟩
      simp [c2, c3]
    · simp [c2]
theorem dr (k : Nat) (st : List MO) (n b : Nat) (mo : MO) (many : Int) (hn : n < st.length) (hh : Hand b mo) (hb : b ≤ 1000000) (h1 : 1 ≤ many) (hs : Sm many) :
    ∃ (r : Int) (mo' : MO), (FP PP (k + 1)).call "_law_draw" [.ref n, .int many] (st.set n mo) = .ok (.v (.int r)) (st.set n mo') ∧ Hand (b + 1) mo' ∧ 0 ≤ r ∧ r < many := by
  obtain ⟨r, mo', e, p⟩ := draw_ok (FP PP k) (st.set n mo) n b mo many (get_set hn) hh hb h1 hs
  refine ⟨r, mo', ?_, p⟩
  rw [c_law_draw, e]
  simp
/-- a draw of a whole number -/
theorem drN (k : Nat) (st : List MO) (n b : Nat) (mo : MO) (many : Nat) (hn : n < st.length) (hh : Hand b mo) (hb : b ≤ 1000000) (h1 : 1 ≤ many) (h2 : many < 1000000000) :
    ∃ (r : Nat) (mo' : MO), (FP PP (k + 1)).call "_law_draw" [.ref n, .int many] (st.set n mo) = .ok (.v (.int r)) (st.set n mo') ∧ Hand (b + 1) mo' ∧ r < many := by
  obtain ⟨r, mo', e, hh', r0, r1⟩ := dr k st n b mo many hn hh hb (by omega) (.of40 (by omega))
  obtain ⟨r, rfl⟩ := Int.eq_ofNat_of_zero_le r0
  exact ⟨r, mo', e, hh', by omega⟩
theorem dice_ok (L : Fns) (st : List MO) (ns : List Int) (h : ns.length ≤ 63) : ∃ cs : List Int, runD L d_law_dice [.rol (ns.map .int)] st = .ok (.nl [.lst (cs.map .int), .int 0, .int 0, .int 1, .int 0]) st ∧ ∀ c ∈ cs, 0 ≤ c := by
  let g : Dt → Dt := fun x => match x with | .int i => .int (if i < 0 then -i else i) | x => x
  have hm : (ns.map Dt.int).map g = (ns.map fun i => if i < 0 then -i else i).map Dt.int := by simp [g]
  have hz : (ns.map Dt.int).length ≤ sizeLine := by rw [List.length_map]; exact Nat.le_trans h (by decide)
  have tk : (ns.map Dt.int).take 63 = ns.map Dt.int := List.take_of_length_le (by rw [List.length_map]; exact h)
  have e : ∀ s : SS, s.sl = [.v (.rol (ns.map .int)), .un] → ev L (.lc (.bif "abs" [.bif "int" [.var 1]]) (.n 1) (.seq true (.slc (.var 0) none (some (.cst (.int 63))))) none [1]) s = .ok (.nl ((ns.map fun i => if i < 0 then -i else i).map Dt.int)) s := fun s hs => by
    have q := e_lc (L := L) (s := s) (el := .bif "abs" [.bif "int" [.var 1]]) (src := .slc (.var 0) none (some (.cst (.int 63)))) (i := 1) (s1 := s) (d := .lst (ns.map .int)) (xs := ns.map .int) (g := g)
      (i_seq (r := .nl (ns.map .int)) (s1 := s) (by
        have : slcV (.v (.rol (ns.map .int))) none (some 63) s = some (.nl (ns.map .int)) := by
          show some (RV.nl (cutD (ns.map .int) none (some ((63 : Nat) : Int)))) = _
          rw [cut_to, tk]
        simp [hs, this]) rfl rfl) (fun _ z => nomatch z) (.inl (by rw [hs]; rfl)) (fun x hx => by
          obtain ⟨i, _, rfl⟩ := List.mem_map.mp hx
          have : (s.set 1 (.v (.int i))).sl[1]? = some (.v (.int i)) := by unfold SS.set; simp [hs]
          simp [this, g]) hz
    rw [hm] at q
    exact q
  refine ⟨ns.map fun i => if i < 0 then -i else i, ?_, fun c hc => by
    obtain ⟨i, _, rfl⟩ := List.mem_map.mp hc
    split <;> omega⟩
  unfold runD d_law_dice
  have s5 : (5 : Nat) ≤ sizeLine := by decide
  have sl0 : slots 2 ([Dt.rol (ns.map .int)].map Sl.v) = [.v (.rol (ns.map .int)), .un] := rfl
  show finD (Mq.execs L [_] ⟨slots 2 _, st⟩) = _
  rw [sl0, x_cons, x_ret, e_lst, e_s1, e _ rfl]
  simp [val, s5]
end K38

namespace K38
open PySem L2 Mq
theorem gcd_rest {a b : Int} (ha : 0 ≤ a) (hb : 0 ≤ b) : Int.gcd b (a % b) = Int.gcd a b := by
  obtain ⟨m, rfl⟩ := Int.eq_ofNat_of_zero_le ha
  obtain ⟨n, rfl⟩ := Int.eq_ofNat_of_zero_le hb
  have : ((m : Int) % (n : Int)) = ((m % n : Nat) : Int) := (Int.natCast_emod m n).symm
  rw [this]
  show Nat.gcd _ _ = Nat.gcd _ _
  simp only [Int.natAbs_natCast]
  rw [Nat.gcd_comm n, ← Nat.gcd_rec, Nat.gcd_comm]
def gcdGo : Nat → Int → Int → Int
  | 0, a, _ => a
  | n + 1, a, b => if b = 0 then a else gcdGo n b (a % b)
theorem gcdGo_ok : ∀ (n : Nat) (a b : Int), 0 ≤ a → 0 ≤ b → b < 2 ^ n → ∀ m, 2 * n + 1 ≤ m → gcdGo m a b = (Int.gcd a b : Int)
  | 0, a, b, ha, hb, h, m, hm => by
    have : b = 0 := by simp at h; omega
    subst this
    obtain ⟨m, rfl⟩ : ∃ k, m = k + 1 := ⟨m - 1, by omega⟩
    rw [gcdGo, if_pos rfl, Int.gcd_zero_right]; omega
  | n + 1, a, b, ha, hb, h, m, hm => by
    obtain ⟨m, rfl⟩ : ∃ k, m = k + 2 := ⟨m - 2, by omega⟩
    by_cases h0 : b = 0
    · subst h0; rw [gcdGo, if_pos rfl, Int.gcd_zero_right]; omega
    · rw [gcdGo, if_neg h0]
      have e1 : Int.gcd a b = Int.gcd b (a % b) := (gcd_rest ha hb).symm
      by_cases h1 : a % b = 0
      · rw [h1, gcdGo, if_pos rfl, e1, h1, Int.gcd_zero_right]; omega
      · rw [gcdGo, if_neg h1]
        have p0 : 0 ≤ a % b := Int.emod_nonneg _ h0
        have p1 : a % b < b := Int.emod_lt_of_pos _ (by omega)
        have q0 : 0 ≤ b % (a % b) := Int.emod_nonneg _ h1
        have q1 : b % (a % b) < a % b := Int.emod_lt_of_pos _ (by omega)
        have q2 : b % (a % b) + (a % b) ≤ b := by
          have := Int.emod_add_mul_ediv b (a % b)
          have d1 : 1 ≤ b / (a % b) := by
            rw [Int.le_ediv_iff_mul_le (by omega)]; omega
          have : a % b * 1 ≤ a % b * (b / (a % b)) := Int.mul_le_mul_of_nonneg_left d1 p0
          omega
        have q3 : b % (a % b) < 2 ^ n := by
          have : (2 : Int) ^ (n + 1) = 2 ^ n * 2 := by rw [Int.pow_succ]
          omega
        rw [gcdGo_ok n (a % b) (b % (a % b)) p0 q0 q3 m (by omega), e1, gcd_rest hb p0]
def Md (i : Int) : Prop := i.natAbs < 2 ^ 290
theorem Md.sm {i : Int} (h : Md i) : Sm i := Nat.lt_of_lt_of_le h (Nat.pow_le_pow_right (by decide) (by decide))
end K38

namespace K38
open PySem L2 Mq
def fr (q : Rat) : Dt := .tup [.int q.num, .int q.den]
theorem fr_inj {p q : Rat} (h : fr p = fr q) : p = q := by
  simp only [fr, Dt.tup.injEq, List.cons.injEq, Dt.int.injEq, and_true] at h
  exact Rat.ext h.1 (by omega)
theorem mk_num {a : Int} {b : Nat} (hb : 0 < b) : (mkRat a b).num = a / (Int.gcd a b : Int) := by
  rw [Rat.num_mkRat, if_neg (by omega)]
  show a / ((b.gcd a.natAbs : Nat) : Int) = a / ((Nat.gcd a.natAbs (b : Int).natAbs : Nat) : Int)
  rw [Nat.gcd_comm]; rfl
theorem mk_den {a : Int} {b : Nat} (hb : 0 < b) : ((mkRat a b).den : Int) = (b : Int) / (Int.gcd a b : Int) := by
  rw [Rat.den_mkRat, if_neg (by omega)]
  rw [Int.natCast_ediv]
  show (b : Int) / ((b.gcd a.natAbs : Nat) : Int) = (b : Int) / ((Nat.gcd a.natAbs (b : Int).natAbs : Nat) : Int)
  rw [Nat.gcd_comm]; rfl
theorem gcd_pos {a b : Int} (hb : 0 < b) : 0 < (Int.gcd a b : Int) := by
  have : 0 < Int.gcd a b := Int.gcd_pos_of_ne_zero_right _ (by omega)
  omega
theorem gcd_md {a b : Int} (hb : 0 < b) (h : Md b) : Sm (Int.gcd a b : Int) := by
  have : Int.gcd a b ≤ b.natAbs := Nat.le_of_dvd (by omega) (Nat.gcd_dvd_right _ _)
  have h2 : b.natAbs < 2 ^ 290 := h
  refine Nat.lt_of_le_of_lt (m := b.natAbs) ?_ h.sm
  simpa using this
end K38

namespace K38
open PySem L2 Mq
/-! ### draws (the dice lie first in the store), rows of numbers, gcd -/
theorem W_draw {k b : Nat} {i : Int} {mo : MO} {r : List MO} {Q : RV → List MO → Prop} (hh : Hand b mo) (hb : b ≤ 1000000) (h1 : 1 ≤ i) (h2 : i < 1000000000)
    (q : ∀ (x : Nat) (mo' : MO), (x : Int) < i → Hand (b + 1) mo' → Q (.v (.int (x : Int))) (mo' :: r)) : W Q ((FP PP (k + 1)).call "_law_draw" [.ref 0, .int i] (mo :: r)) := by
  obtain ⟨y, mo', e, hh', r0, r1⟩ := dr k (mo :: r) 0 b mo i (by simp) hh hb h1 (.of40 (by omega))
  obtain ⟨x, rfl⟩ := Int.eq_ofNat_of_zero_le r0
  exact W.of e (q x mo' r1 hh')
def natsD (xs : List Nat) : List Dt := xs.map fun (x : Nat) => Dt.int x
theorem natsD_nil : natsD [] = [] := rfl
theorem natsD_app (xs : List Nat) (y : Nat) : natsD xs ++ [.int y] = natsD (xs ++ [y]) := by simp [natsD]
theorem natsD_app2 (xs ys : List Nat) : natsD xs ++ natsD ys = natsD (xs ++ ys) := by simp [natsD]
theorem natsD_len (xs : List Nat) : (natsD xs).length = xs.length := by simp [natsD]
theorem map_erase {a b : Type} (f : a → b) : ∀ (l : List a) (r : Nat), (l.map f).eraseIdx r = (l.eraseIdx r).map f
  | [], _ => rfl
  | x :: l, 0 => rfl
  | x :: l, r + 1 => by
    show f x :: (l.map f).eraseIdx r = f x :: (l.eraseIdx r).map f
    rw [map_erase f l r]
theorem nat_at {l : List Nat} {r : Nat} (h : r < l.length) : (natsD l)[r]? = some (.int (l.getD r 0 : Nat)) := by
  unfold natsD
  rw [List.getElem?_map, List.getElem?_eq_getElem h, List.getD_eq_getElem?_getD, List.getElem?_eq_getElem h]; rfl
theorem atI_nats {l : List Nat} {i : Nat} (h : i < l.length) : atI (natsD l) (i : Int) = some (.int (l.getD i 0 : Nat)) := at_n (k := i) (nat_at h) rfl
theorem pop_atM {A : Type} {f : A → Dt} {l : List A} {r : Nat} {x : A} (h : l[r]? = some x) (hz : l.length ≤ 1000) : mthF "pop" (.int (r : Int)) (l.map f) = some ((l.eraseIdx r).map f, f x) := by
  have e : mthF "pop" (.int (r : Int)) (l.map f) = popAtF (r : Int) (l.map f) := by
    unfold mthF
    rw [if_neg (by decide +kernel), if_pos rfl]; rfl
  have hr : r < l.length := (List.getElem?_eq_some_iff.mp h).1
  rw [e, ← map_erase]
  have hl : (l.map f).length = l.length := List.length_map _
  have g : (l.map f)[r]? = some (f x) := by rw [List.getElem?_map, h]; rfl
  generalize l.map f = X at *
  generalize f x = v at *
  unfold popAtF
  rw [if_pos (by omega), hl]
  have q : seqIndex? (r : Int) l.length = some r := by
    unfold seqIndex?
    simp; omega
  rw [q]
  show (X[r]?.map fun y => (X.eraseIdx r, y)) = _
  rw [g]; rfl
theorem erase_perm {A : Type} : ∀ {l : List A} {r : Nat} {x : A}, l[r]? = some x → (x :: l.eraseIdx r).Perm l
  | y :: l, 0, x, h => by
    simp at h; subst h; exact .refl _
  | y :: l, r + 1, x, h => by
    have := erase_perm (l := l) (r := r) (x := x) (by simpa using h)
    show (x :: y :: l.eraseIdx r).Perm (y :: l)
    exact (List.Perm.swap _ _ _).trans (this.cons _)
def shP {A : Type} (f : A → Dt) (b : Nat) (r : List MO) (X : Sl) (items : List A) (j : Nat) (acc : List Dt) (s : SS) : Prop := ∃ (a left : List A) (mo : MO) (y : Sl), acc = a.map f ∧ s = ⟨[.v (.ref 0), X, .ol (left.map f), y], mo :: r⟩ ∧ Hand (b + j) mo ∧ a.length = j ∧ (a ++ left).Perm items
/-- all in a drawn order -/
theorem W_shuf {A : Type} {f : A → Dt} {k b : Nat} {mo : MO} {r : List MO} {items : List A} {Q : RV → List MO → Prop} (hh : Hand b mo) (hb : b + 1000 ≤ 1000000) (hz : items.length ≤ 100)
    (q : ∀ (out : List A) (mo' : MO), Hand (b + items.length) mo' → out.Perm items → Q (.v (.tup (out.map f))) (mo' :: r)) : W Q ((FP PP (k + 2)).call "_law_shuffled" [.ref 0, .lst (items.map f)] (mo :: r)) := by
  rw [c_law_shuffled, go_law_shuffled]
  simp
  refine W_lcr items.length (shP f b r (.v (.lst (items.map f))) items) (by simp [len_bw]) (by omega) rfl ⟨[], items, mo, .un, rfl, rfl, hh, rfl, by simp⟩ ?_ ?_
  · rintro acc s ⟨a, left, m1, y, rfl, rfl, h1, h2, h3⟩
    have hl := h3.length_eq
    rw [List.length_append] at hl
    have : left = [] := List.eq_nil_of_length_eq_zero (by omega)
    subst this
    simp [backS]
    exact q a m1 h1 (by simpa using h3)
  · rintro j acc s hj ⟨a, left, m1, y, rfl, rfl, h1, h2, h3⟩
    have hl := h3.length_eq
    rw [List.length_append] at hl
    simp [wipeS, rdt_bw, len_bw]
    refine W_draw h1 (by omega) (by omega) (by omega) fun x m2 hx h1' => ?_
    have hx' : x < left.length := by omega
    obtain ⟨z, ez⟩ : ∃ z, left[x]? = some z := ⟨_, List.getElem?_eq_getElem hx'⟩
    simp [wr_own, pop_atM ez (by omega : left.length ≤ 1000)]
    refine ⟨a ++ [z], left.eraseIdx x, m2, _, by simp, rfl, h1', by simp [h2], ?_⟩
    rw [List.append_assoc]
    exact ((erase_perm ez).append_left a).trans h3
theorem shuf_nats {k b : Nat} {mo : MO} {r : List MO} {items : List Nat} {Q : RV → List MO → Prop} (hh : Hand b mo) (hb : b + 1000 ≤ 1000000) (hz : items.length ≤ 100)
    (q : ∀ (out : List Nat) (mo' : MO), Hand (b + items.length) mo' → out.Perm items → Q (.v (.tup (natsD out))) (mo' :: r)) : W Q ((FP PP (k + 2)).call "_law_shuffled" [.ref 0, .lst (natsD items)] (mo :: r)) :=
  W_shuf (f := fun (x : Nat) => Dt.int x) hh hb hz q
/-! ### gcd -/
def divP (G : Int) (st : List MO) (j : Nat) (s : SS) : Prop := ∃ (a b : Int) (y : Sl), s = ⟨[.v (.int a), .v (.int b), y], st⟩ ∧ 0 ≤ a ∧ 0 ≤ b ∧ gcdGo (400 - j) a b = G
theorem W_divisor {k : Nat} {a b : Int} {st : List MO} {Q : RV → List MO → Prop} (ha : 0 ≤ a) (hb : 0 ≤ b) (hm : b < 2 ^ 190) (q : Q (.v (.int (Int.gcd a b))) st) : W Q ((FP PP (k + 1)).call "_law_divisor" [.int a, .int b] st) := by
  rw [c_law_divisor, go_law_divisor]
  rw [← gcdGo_ok 190 a b ha hb hm 400 (by decide)] at q
  generalize hG : gcdGo 400 a b = G at q
  simp
  refine W_rng 400 (divP G st) (by simp) (by decide) ⟨a, b, .un, rfl, ha, hb, hG⟩ ?_ ?_
  · rintro s ⟨a, b, y, rfl, a0, b0, e⟩
    rw [Nat.sub_self, gcdGo] at e
    subst e
    simp
    exact q
  · rintro j s hj ⟨a, b, y, rfl, a0, b0, e⟩
    obtain ⟨n, en⟩ : ∃ n, 400 - j = n + 1 := ⟨399 - j, by omega⟩
    rw [en, gcdGo] at e
    simp
    refine wIf_dec (fun h => ?_) fun h => ?_
    · rw [if_pos h] at e
      subst e
      exact q
    · rw [if_neg h] at e
      have hb' : 0 < b := by omega
      simp [hb']
      exact ⟨b, a % b, _, rfl, b0, Int.emod_nonneg _ h, by rw [show 400 - (j + 1) = n by omega]; exact e⟩
theorem W_amount {k : Nat} {a : Int} {b : Nat} {st : List MO} {Q : RV → List MO → Prop} (ha : 0 ≤ a) (hb : 0 < b) (hm : b < 2 ^ 190) (q : Q (.v (fr (mkRat a b))) st) : W Q ((FP PP (k + 2)).call "_law_amount" [.int a, .int (b : Int)] st) := by
  rw [c_law_amount, go_law_amount]
  have hm' : (b : Int) < 2 ^ 190 := by exact_mod_cast hm
  have g0 := gcd_pos (a := a) (b := (b : Int)) (by omega)
  have sm : Sm (Int.gcd a b : Int) := gcd_md (by omega) (by
    show (b : Int).natAbs < 2 ^ 290
    rw [Int.natAbs_natCast]
    exact Nat.lt_trans hm (Nat.pow_lt_pow_right (by decide) (by decide)))
  unfold fr at q
  rw [mk_num hb, mk_den hb] at q
  simp
  refine W_divisor ha (by omega) hm' ?_
  generalize (Int.gcd a b : Int) = g at *
  simp [v_divO (sm.div g0)]
  exact q
end K38

namespace K38
open PySem L2 Mq
/-! ### the drawn lists -/
theorem rngD_at {n j : Nat} {x : Dt} (h : (rngD (n : Int) 0)[j]? = some x) : x = .int ((n - j : Nat) : Int) ∧ j < n := by
  unfold rngD at h
  rw [List.getElem?_map] at h
  obtain ⟨a, ha, rfl⟩ := Option.map_eq_some_iff.mp h
  have hj := (List.getElem?_eq_some_iff.mp ha).1
  simp at hj
  rw [List.getElem?_range (by simpa using hj)] at ha
  cases ha
  refine ⟨?_, by omega⟩
  show Dt.int _ = _
  congr 1; omega
theorem rngD_len (n : Nat) : (rngD (n : Int) 0).length = n := by simp [rngD]
theorem i_rngD {L : Fns} {s t : SS} {ms : List ME} {n : Nat} (h : evs L ms s = .ok [.int (n : Int), .int 0, .int (-1)] t) (hn : n ≤ 1000000) : evI L (.rng ms) s = .ok ⟨rngD n 0, .v .non, []⟩ t := by
  rw [evI, h, r_ok]
  simp only []
  rw [if_pos (by simp [rngOk]; omega)]
/-- for j in range(n, 0, -1) -/
theorem W_rngD {L : Fns} {s : SS} {i : Nat} {ms : List ME} {body : List Mq.MS} {Q : Fl → SS → Prop} (n : Nat) (P : Nat → SS → Prop) (h : evs L ms s = .ok [.int (n : Int), .int 0, .int (-1)] s) (hn : n ≤ 1000000) (h0 : P 0 s) (he : ∀ s, P n s → Q .nx s)
    (st : ∀ (j : Nat) (s : SS), j < n → P j s → W (forQ P Q j) (Mq.execs L body (s.set i (.v (.int ((n - j : Nat) : Int)))))) : W Q (Mq.exec L (.forr (.n i) (.rng ms) body) s) := by
  refine W_for P (i_rngD h hn) (fun _ => rfl) h0 (fun s h => he s (by rw [rngD_len] at h; exact h)) fun j x s hx hp => ?_
  obtain ⟨rfl, hj⟩ := rngD_at hx
  rw [w_bn]
  exact st j s hj hp
theorem at_lastN {l : List Nat} {x : Nat} : atI (natsD (l ++ [x])) (-1) = some (.int (x : Int)) := by
  have e1 : natsD (l ++ [x]) = natsD l ++ [.int (x : Int)] := (natsD_app l x).symm
  rw [e1]
  generalize natsD l = m
  have : L2.ixN (m ++ [Dt.int (x : Int)]).length (-1) = some m.length := by
    unfold L2.ixN
    simp
    omega
  unfold atI
  rw [this]
  simp
def splP (b : Nat) (r : List MO) (whole many n : Nat) (j : Nat) (s : SS) : Prop := ∃ (a : List Nat) (left : Nat) (mo : MO) (y : Sl), s = ⟨[.v (.ref 0), .v (.int (whole : Int)), .v (.int (many : Int)), .ol (natsD a), .v (.int (left : Int)), y], mo :: r⟩ ∧ Hand (b + j) mo ∧ a.length = j ∧ n + 1 ≤ left + j ∧ a.sum + left = whole ∧ ∀ p ∈ a, 1 ≤ p
theorem W_split {k b : Nat} {whole many : Nat} {mo : MO} {r : List MO} {Q : RV → List MO → Prop} (hh : Hand b mo) (hb : b + 1000 ≤ 1000000) (h1 : 1 ≤ whole) (h2 : 1 ≤ many) (h3 : many ≤ 100)
    (q : ∀ (out : List Nat) (mo' : MO), Hand (b + 100) mo' → out.length = min whole many → out.sum = whole → (∀ p ∈ out, 1 ≤ p) → Q (.nl (natsD out)) (mo' :: r)) : W Q ((FP PP (k + 2)).call "_law_split" [.ref 0, .int (whole : Int), .int (many : Int)] (mo :: r)) := by
  rw [c_law_split, go_law_split]
  obtain ⟨n, hn⟩ : ∃ n, min whole many = n + 1 := ⟨min whole many - 1, by omega⟩
  have hm : (if many < whole then (many : Int) else (whole : Int)) - 1 = (n : Int) := by split <;> omega
  simp
  refine W_rngD n (splP b r whole many n) (by simp [bif2, hm]) (by omega) ⟨[], whole, mo, .un, by simp [natsD], hh, rfl, by omega, by simp, fun _ h => nomatch h⟩ ?_ ?_
  · rintro s ⟨a, left, m1, y, rfl, a1, a2, a3, a4, a5⟩
    have hl := natsD_len a
    simp [add_bn, hl, show a.length + 1 ≤ sizeLine from sz (by omega)]
    rw [natsD_app]
    refine q (a ++ [left]) m1 (a1.mono (by omega)) (by rw [List.length_append, hn, a2]; rfl) (by rw [List.sum_append, List.sum_cons, List.sum_nil]; omega) fun p hp => ?_
    rcases List.mem_append.mp hp with hp | hp
    · exact a5 p hp
    · rw [List.mem_singleton.mp hp]; omega
  · rintro j s hj ⟨a, left, m1, y, rfl, a1, a2, a3, a4, a5⟩
    have hl := natsD_len a
    simp [rdt_bw, bif2]
    refine W_draw a1 (by omega) ?_ ?_ fun x m2 hx h1' => ?_
    · split <;> omega
    · split <;> omega
    have hx2 : (x : Int) < (left : Int) - ((n - j : Nat) : Int) := by split at hx <;> omega
    have ap : mthF "append" (.int (1 + (x : Int))) (natsD a) = some (natsD (a ++ [1 + x]), .non) := by
      rw [← natsD_app, Int.natCast_add]
      show appF _ _ = _
      unfold appF
      rw [if_pos (by rw [hl]; exact Nat.lt_of_lt_of_le (show a.length < 100000 by omega) (by decide))]; rfl
    have al := at_lastN (l := a) (x := 1 + x)
    simp [wr_own, ap, idx_bw, al]
    refine ⟨a ++ [1 + x], left - (1 + x), m2, .v (.int ((n - j : Nat) : Int)), ?_, h1'.mono (by omega), by simp [a2], by omega, by rw [List.sum_append, List.sum_cons, List.sum_nil]; omega, fun p hp => ?_⟩
    · have : (left : Int) - (1 + (x : Int)) = ((left - (1 + x) : Nat) : Int) := by omega
      rw [this]
    · rcases List.mem_append.mp hp with hp | hp
      · exact a5 p hp
      · rw [List.mem_singleton.mp hp]; omega
/-- so many numbers, at times all alike -/
theorem flat_rep {A : Type} (a : A) : ∀ n, (List.replicate n [a]).flatten = List.replicate n a
  | 0 => rfl
  | n + 1 => by rw [List.replicate_succ, List.flatten_cons, flat_rep a n, List.replicate_succ]; rfl
theorem rep_nats (c n : Nat) : List.replicate n (Dt.int (c : Int)) = natsD (List.replicate n c) := by unfold natsD; rw [List.map_replicate]
theorem mul_nl (c n : Nat) (hn : n ≤ 1000) : ∀ s, binV .mul (.nl [.int (c : Int)]) (.v (.int (n : Int))) s = some (.nl (natsD (List.replicate n c))) := fun s => by
  simp only [binV, binL, rdt]
  rw [if_pos (mulFits_iff.mpr ⟨by omega, by omega, by rw [sizeLine_eq, Int.toNat_natCast]; simp; omega⟩), Int.toNat_natCast, flat_rep, rep_nats]
def sidP (b n most : Nat) (r : List MO) (j : Nat) (acc : List Dt) (s : SS) : Prop := ∃ (xs : List Nat) (mo : MO) (y : Sl), acc = natsD xs ∧ s = ⟨[.v (.ref 0), .v (.int (n : Int)), .v (.int (most : Int)), y], mo :: r⟩ ∧ Hand (b + 1 + j) mo ∧ xs.length = j ∧ ∀ p ∈ xs, 1 ≤ p ∧ p ≤ most
theorem W_side {k b n most : Nat} {mo : MO} {r : List MO} {Q : RV → List MO → Prop} (hh : Hand b mo) (hb : b + 1000 ≤ 1000000) (hn : n ≤ 100) (h1 : 1 ≤ most) (h2 : most ≤ 1000) (q : ∀ (xs : List Nat) (mo' : MO), Hand (b + 200) mo' → xs.length = n → (∀ p ∈ xs, 1 ≤ p ∧ p ≤ most) → Q (.nl (natsD xs)) (mo' :: r)) : W Q ((FP PP (k + 2)).call "_law_side" [.ref 0, .int (n : Int), .int (most : Int)] (mo :: r)) := by
  rw [c_law_side, go_law_side]
  simp
  refine W_draw hh (by omega) (by omega) (by omega) fun x m1 hx h1 => ?_
  simp
  refine wIf_dec (fun h => ?_) fun h => ?_
  · refine W_draw h1 (by omega) (by omega) (by omega) fun y m2 hy h2 => ?_
    have ml : ∀ s, binV .mul (.nl [.int (1 + (y : Int))]) (.v (.int (n : Int))) s = some (.nl (natsD (List.replicate n (1 + y)))) := by
      have e := mul_nl (1 + y) n (by omega)
      have e1 : ((1 + y : Nat) : Int) = 1 + (y : Int) := Int.natCast_add 1 y
      rw [e1] at e
      exact e
    have fin := q (List.replicate n (1 + y)) m2 (h2.mono (by omega)) List.length_replicate fun p hp => by rw [List.eq_of_mem_replicate hp]; omega
    generalize natsD (List.replicate n (1 + y)) = L at *
    generalize Dt.int (n : Int) = ND at *
    simp [ml]
    exact fin
  · refine W_lcr n (sidP b n most r) (by simp) (by omega) rfl ⟨[], m1, .un, rfl, rfl, h1, rfl, fun _ h => nomatch h⟩ ?_ ?_
    · rintro acc s ⟨xs, m2, y, rfl, rfl, h2, l1, l2⟩
      simp [backS]
      exact q xs m2 (h2.mono (by omega)) l1 l2
    · rintro j acc s hj ⟨xs, m2, y, rfl, rfl, h2, l1, l2⟩
      simp [wipeS]
      refine W_draw h2 (by omega) (by omega) (by omega) fun v m3 hv h3 => ?_
      simp
      refine ⟨xs ++ [1 + v], m3, _, by rw [← natsD_app, Int.natCast_add]; rfl, rfl, h3.mono (by omega), by simp [l1], fun p hp => ?_⟩
      rcases List.mem_append.mp hp with h | h
      · exact l2 p h
      · rw [List.mem_singleton.mp h]; omega
/-- two lists of equal sums, of at most so many numbers -/
structure Two (most : Nat) (xs ys : List Nat) : Prop where
  a : 1 ≤ xs.length
  b : 1 ≤ ys.length
  c : xs.length + ys.length ≤ most
  d : xs.sum = ys.sum
  e : xs.sum ≤ 12 * (xs.length + ys.length)
  f : ∀ p ∈ xs, 1 ≤ p
  g : ∀ p ∈ ys, 1 ≤ p
theorem Two.swap {m : Nat} {xs ys : List Nat} (h : Two m xs ys) : Two m ys xs := ⟨h.b, h.a, by have := h.c; omega, h.d.symm, by rw [← h.d]; have := h.e; omega, h.g, h.f⟩
theorem sum_le {c : Nat} : ∀ {xs : List Nat}, (∀ p ∈ xs, p ≤ c) → xs.sum ≤ xs.length * c
  | [], _ => by simp
  | x :: r, h => by
    have := sum_le (xs := r) fun p hp => h p (List.mem_cons_of_mem _ hp)
    have := h x (List.mem_cons_self ..)
    rw [List.sum_cons, List.length_cons, Nat.add_mul]; omega
theorem sum_ge : ∀ {xs : List Nat}, (∀ p ∈ xs, 1 ≤ p) → xs.length ≤ xs.sum
  | [], _ => by simp
  | x :: r, h => by
    have := sum_ge (xs := r) fun p hp => h p (List.mem_cons_of_mem _ hp)
    have := h x (List.mem_cons_self ..)
    rw [List.sum_cons, List.length_cons]; omega
theorem allInts_nats : ∀ xs : List Nat, allInts (natsD xs) = some (xs.map fun (x : Nat) => (x : Int))
  | [] => rfl
  | x :: r => by
    have := allInts_nats r
    unfold natsD at *
    rw [List.map_cons, List.map_cons, allInts, this]; rfl
theorem sum_cast : ∀ xs : List Nat, (xs.map fun (x : Nat) => (x : Int)).sum = (xs.sum : Int)
  | [] => rfl
  | x :: r => by rw [List.map_cons, List.sum_cons, List.sum_cons, sum_cast r]; omega
theorem b_sumN {s : SS} {x : RV} {xs : List Nat} (h : rds s x = some (natsD xs)) : bif1 "sum" x s = some (.v (.int (xs.sum : Int))) := by
  show (((rds s x).bind allInts).map fun ns => RV.v (.int ns.sum)) = _
  rw [h]
  show ((allInts (natsD xs)).map _) = _
  rw [allInts_nats]
  show some (RV.v (.int _)) = _
  rw [sum_cast]
theorem rds_bwO {s : SS} {i : Nat} {xs : List Dt} (h : s.sl[i]? = some (.ol xs)) : rds s (.bw i) = some xs := rdt_bw h
theorem perm_two {m : Nat} {xs ys xs' ys' : List Nat} (h : Two m xs ys) (h1 : xs'.Perm xs) (h2 : ys'.Perm ys) : Two m xs' ys' :=
  ⟨by rw [h1.length_eq]; exact h.a, by rw [h2.length_eq]; exact h.b, by rw [h1.length_eq, h2.length_eq]; exact h.c, by rw [h1.sum_nat, h2.sum_nat]; exact h.d, by rw [h1.sum_nat, h1.length_eq, h2.length_eq]; exact h.e, fun p hp => h.f p (h1.mem_iff.mp hp), fun p hp => h.g p (h2.mem_iff.mp hp)⟩
theorem Two.app {m n p : Nat} {xs ys xs' ys' : List Nat} (h : Two m xs ys) (h' : Two n xs' ys') (hp : xs.length + ys.length + n ≤ p) : Two p (xs ++ xs') (ys ++ ys') :=
  ⟨by rw [List.length_append]; have := h.a; omega, by rw [List.length_append]; have := h.b; omega, by rw [List.length_append, List.length_append]; have := h.c; have := h'.c; omega, by rw [List.sum_append, List.sum_append, h.d, h'.d], by rw [List.sum_append, List.length_append, List.length_append]; have := h.e; have := h'.e; omega,
    fun p hp => (List.mem_append.mp hp).elim (h.f p) (h'.f p), fun p hp => (List.mem_append.mp hp).elim (h.g p) (h'.g p)⟩
theorem Two.mono {m n : Nat} {xs ys : List Nat} (h : Two m xs ys) (hm : m ≤ n) : Two n xs ys := ⟨h.a, h.b, by have := h.c; omega, h.d, h.e, h.f, h.g⟩
end K38

namespace K38
open PySem L2 Mq
/-! ### the drawn lists, at times joined of two -/
def lsD (xs ys : List Nat) : Dt := .tup [.lst (natsD xs), .lst (natsD ys)]
theorem four {u : Nat} (h : (u : Int) < 4) : ∃ c : Nat, atI [Dt.int 2, .int 3, .int 6, .int 12] (u : Int) = some (.int (c : Int)) ∧ 1 ≤ c ∧ c ≤ 12 := by
  have : u = 0 ∨ u = 1 ∨ u = 2 ∨ u = 3 := by omega
  rcases this with rfl | rfl | rfl | rfl
  · exact ⟨2, rfl, by omega, by omega⟩
  · exact ⟨3, rfl, by omega, by omega⟩
  · exact ⟨6, rfl, by omega, by omega⟩
  · exact ⟨12, rfl, by omega, by omega⟩
theorem W_leaf {k b m : Nat} {x5 x6 : Sl} {mo : MO} {r : List MO} {Q : RV → List MO → Prop} (hh : Hand b mo) (hb : b + 5000 ≤ 1000000) (h1 : 2 ≤ m) (h2 : m ≤ 90)
    (q : ∀ (xs ys : List Nat) (mo' : MO), Hand (b + 400) mo' → Two m xs ys → Q (.v (lsD xs ys)) (mo' :: r)) : W (finQ Q) (Mq.execs (FP PP (k + 2)) (d_law_lists.ms.drop 1) ⟨[.v (.ref 0), .v (.int (m : Int)), .un, .un, .un, x5, x6], mo :: r⟩) := by
  unfold d_law_lists
  dsimp only [List.drop]
  simp
  refine W_draw hh (by omega) (by omega) (by omega) fun x m1 hx h1' => ?_
  simp
  refine W_draw h1' (by omega) (by omega) (by omega) fun u m2 hu h2' => ?_
  obtain ⟨c, ec, c1, c2⟩ := four hu
  have e1 : (1 : Int) + (x : Int) = ((1 + x : Nat) : Int) := by omega
  simp [ec]
  rw [e1]
  refine W_side (n := 1 + x) (most := c) h2' (by omega) (by omega) (by omega) (by omega) fun xs m3 h3' l1 l2 => ?_
  have sm := fun s => b_sumN (s := s) (x := .bw 3) (xs := xs)
  have s1 := sum_le fun p hp => (l2 p hp).2
  have s2 := sum_ge fun p hp => (l2 p hp).1
  rw [l1] at s1 s2
  simp [-b_sum]
  rw [sm _ (rds_bwO rfl)]
  simp [-b_sum]
  refine W_draw h3' (by omega) (by omega) (by omega) fun v m4 hv h4' => ?_
  have e2 : (1 : Int) + (v : Int) = ((1 + v : Nat) : Int) := by omega
  simp [-b_sum]
  rw [e2]
  refine W_split (whole := xs.sum) (many := 1 + v) h4' (by omega) (by omega) (by omega) (by omega) fun ys m5 h5' k1 k2 k3 => ?_
  have t : Two m xs ys := ⟨by omega, by omega, by omega, k2.symm, by
    have : (1 + x) * c ≤ (1 + x) * 12 := Nat.mul_le_mul_left _ c2
    omega, fun p hp => (l2 p hp).1, k3⟩
  simp
  refine W_draw h5' (by omega) (by omega) (by omega) fun y m6 hy h6' => ?_
  simp
  refine wIf_dec (fun h => ?_) fun h => ?_
  · simp [val_bwO]
    exact q ys xs m6 (h6'.mono (by omega)) t.swap
  · simp [val_bwO]
    exact q xs ys m6 (h6'.mono (by omega)) t
theorem div2 (m : Nat) : (m : Int) / 2 = ((m / 2 : Nat) : Int) := by omega
theorem idx_ls0 {xs ys : List Nat} {s : SS} : idxV (.v (lsD xs ys)) (.v (.int 0)) s = some (.v (.lst (natsD xs))) := rfl
theorem idx_ls1 {xs ys : List Nat} {s : SS} : idxV (.v (lsD xs ys)) (.v (.int 1)) s = some (.v (.lst (natsD ys))) := rfl
theorem len_nats {xs : List Nat} {s : SS} : bif1 "len" (.v (.lst (natsD xs))) s = some (.v (.int (xs.length : Int))) := by
  show some (RV.v (.int ((natsD xs).length : Int))) = _
  rw [natsD_len]
theorem add_nats {xs ys : List Nat} {s : SS} (h : xs.length + ys.length ≤ 1000) : binV .add (.v (.lst (natsD xs))) (.v (.lst (natsD ys))) s = some (.nl (natsD (xs ++ ys))) := by
  simp only [binV, binL, rdt]
  rw [if_pos (by rw [natsD_len, natsD_len]; exact sz (by omega)), natsD_app2]
theorem list_nats {xs : List Nat} {s : SS} : bif1 "list" (.v (.tup (natsD xs))) s = some (.nl (natsD xs)) := rfl
theorem W_lists {r : List MO} : ∀ (n m k b : Nat) (mo : MO) (Q : RV → List MO → Prop), m ≤ n → n + 4 ≤ k → Hand b mo → b + 600 * m ≤ 900000 → 2 ≤ m → m ≤ 90 →
    (∀ (xs ys : List Nat) (mo' : MO), Hand (b + 600 * (xs.length + ys.length) - 300) mo' → Two m xs ys → Q (.v (lsD xs ys)) (mo' :: r)) → W Q ((FP PP k).call "_law_lists" [.ref 0, .int (m : Int)] (mo :: r))
  | 0, m, k, b, mo, Q, hm, hk, hh, hb, h2, h90, q => by omega
  | n + 1, m, k, b, mo, Q, hm, hk, hh, hb, h2, h90, q => by
    obtain ⟨k, rfl⟩ : ∃ k', k = k' + 3 := ⟨k - 3, by omega⟩
    rw [c_law_lists, W_run]
    have ih := W_lists (r := r) n
    have ems : d_law_lists.ms = d_law_lists.ms[0]'(by decide) :: d_law_lists.ms.drop 1 := rfl
    rw [ems, w_cons]
    have sl0 : slots d_law_lists.N.length ([Dt.ref 0, .int (m : Int)].map Sl.v) = [.v (.ref 0), .v (.int (m : Int)), .un, .un, .un, .un, .un] := rfl
    rw [sl0]
    have leaf : ∀ (b : Nat) (mo : MO), Hand b mo → b + 5000 ≤ 1000000 → (∀ (xs ys : List Nat) (mo' : MO), Hand (b + 400) mo' → Two m xs ys → Q (.v (lsD xs ys)) (mo' :: r)) → W (finQ Q) (Mq.execs (FP PP (k + 2)) (d_law_lists.ms.drop 1) ⟨[.v (.ref 0), .v (.int (m : Int)), .un, .un, .un, .un, .un], mo :: r⟩) := fun b mo h1 h2' q => W_leaf h1 h2' h2 h90 q
    generalize hR : d_law_lists.ms.drop 1 = R at *
    unfold d_law_lists
    dsimp only [List.getElem_cons_zero]
    rw [w_ifs]
    by_cases h3 : (3 : Int) < (m : Int)
    · simp [h3]
      refine W_draw hh (by omega) (by omega) (by omega) fun x m1 hx h1' => ?_
      simp
      refine wIf_dec (fun h => ?_) fun h => ?_
      · have hd2 : ∀ s, binV .fdiv (.v (.int (m : Int))) (.v (.int 2)) s = some (.v (.int ((m / 2 : Nat) : Int))) := fun s => by
          rw [v_divO (Sm.div (.of40 (by decide)) (by decide)), div2]
        simp [hd2]
        refine ih (m / 2) (k + 2) (b + 1) m1 _ (by omega) (by omega) h1' (by omega) (by omega) (by omega) fun xs ys m2 h2' t1 => ?_
        have c1 := t1.c
        have a1 := t1.a
        have b1 := t1.b
        have e1 : (m : Int) - (xs.length : Int) - (ys.length : Int) = ((m - xs.length - ys.length : Nat) : Int) := by omega
        simp [-b_len, idx_ls0, idx_ls1, len_nats, e1]
        refine ih (m - xs.length - ys.length) (k + 2) _ m2 _ (by omega) (by omega) h2' (by omega) (by omega) (by omega) fun xs' ys' m3 h3' t2 => ?_
        have c2 := t2.c
        have a2 := t2.a
        have b2 := t2.b
        have la : (xs ++ xs').length = xs.length + xs'.length := List.length_append
        have lb : (ys ++ ys').length = ys.length + ys'.length := List.length_append
        simp [idx_ls0, idx_ls1, add_nats (show xs.length + xs'.length ≤ 1000 by omega), add_nats (show ys.length + ys'.length ≤ 1000 by omega)]
        refine shuf_nats h3' (by omega) (by rw [List.length_append]; omega) fun p1 m4 h4' z1 => ?_
        simp [list_nats, idx_ls0, idx_ls1, add_nats (show ys.length + ys'.length ≤ 1000 by omega)]
        refine shuf_nats h4' (by omega) (by rw [List.length_append]; omega) fun p2 m5 h5' z2 => ?_
        simp [list_nats]
        have l1 := z1.length_eq
        have l2 := z2.length_eq
        exact q p1 p2 m5 (h5'.mono (by omega)) (perm_two (t1.app t2 (by omega)) z1 z2)
      · exact leaf _ _ h1' (by omega) fun xs ys m2 h2' t => q xs ys m2 (h2'.mono (by have := t.a; have := t.b; omega)) t
    · simp [h3]
      exact leaf _ _ hh (by omega) fun xs ys m2 h2' t => q xs ys m2 (h2'.mono (by have := t.a; have := t.b; omega)) t
end K38

namespace K38
open PySem L2 Mq
theorem wh_step (L : Fns) (st : List MO) (n : Nat) (a b : Int) (hb : 0 < b) :
    whN (fun s => (ev L (.cmp .gt (.var 1) (.cst (.int 0))) s).bind asB) (fun s => Mq.execs L [.par 0 1 (.var 1) (.bin .mod (.var 0) (.var 1))] s) (n + 1) ⟨[.v (.int a), .v (.int b)], st⟩ =
    whN (fun s => (ev L (.cmp .gt (.var 1) (.cst (.int 0))) s).bind asB) (fun s => Mq.execs L [.par 0 1 (.var 1) (.bin .mod (.var 0) (.var 1))] s) n ⟨[.v (.int b), .v (.int (a % b))], st⟩ := by
  rw [whN]
  simp [hb]
theorem wh_end (L : Fns) (st : List MO) (n : Nat) (a b : Int) (hb : b = 0) :
    whN (fun s => (ev L (.cmp .gt (.var 1) (.cst (.int 0))) s).bind asB) (fun s => Mq.execs L [.par 0 1 (.var 1) (.bin .mod (.var 0) (.var 1))] s) (n + 1) ⟨[.v (.int a), .v (.int b)], st⟩ = .ok .nx ⟨[.v (.int a), .v (.int 0)], st⟩ := by
  subst hb
  rw [whN]
  simp
theorem wh_gcd (L : Fns) (st : List MO) : ∀ (n : Nat) (a b : Int), 0 ≤ a → 0 ≤ b → b < 2 ^ n → ∀ m, 2 * n + 1 ≤ m →
    whN (fun s => (ev L (.cmp .gt (.var 1) (.cst (.int 0))) s).bind asB) (fun s => Mq.execs L [.par 0 1 (.var 1) (.bin .mod (.var 0) (.var 1))] s) m ⟨[.v (.int a), .v (.int b)], st⟩ = .ok .nx ⟨[.v (.int (Int.gcd a b)), .v (.int 0)], st⟩
  | 0, a, b, ha, hb, h, m, hm => by
    have h0 : b = 0 := by simp at h; omega
    obtain ⟨m, rfl⟩ : ∃ k, m = k + 1 := ⟨m - 1, by omega⟩
    rw [wh_end _ _ _ _ _ h0, h0, Int.gcd_zero_right]
    have : ((a.natAbs : Nat) : Int) = a := by omega
    rw [this]
  | n + 1, a, b, ha, hb, h, m, hm => by
    obtain ⟨m, rfl⟩ : ∃ k, m = k + 2 := ⟨m - 2, by omega⟩
    by_cases h0 : b = 0
    · rw [wh_end _ _ _ _ _ h0, h0, Int.gcd_zero_right]
      have : ((a.natAbs : Nat) : Int) = a := by omega
      rw [this]
    · rw [wh_step _ _ _ _ _ (by omega)]
      have e1 : Int.gcd a b = Int.gcd b (a % b) := (gcd_rest ha hb).symm
      by_cases h1 : a % b = 0
      · rw [wh_end _ _ _ _ _ h1, e1, h1, Int.gcd_zero_right]
        have : ((b.natAbs : Nat) : Int) = b := by omega
        rw [this]
      · have p0 : 0 ≤ a % b := Int.emod_nonneg _ h0
        have p1 : a % b < b := Int.emod_lt_of_pos _ (by omega)
        have q0 : 0 ≤ b % (a % b) := Int.emod_nonneg _ h1
        have q1 : b % (a % b) < a % b := Int.emod_lt_of_pos _ (by omega)
        have q2 : b % (a % b) + (a % b) ≤ b := by
          have := Int.emod_add_mul_ediv b (a % b)
          have d1 : 1 ≤ b / (a % b) := by
            rw [Int.le_ediv_iff_mul_le (by omega)]; omega
          have : a % b * 1 ≤ a % b * (b / (a % b)) := Int.mul_le_mul_of_nonneg_left d1 p0
          omega
        have q3 : b % (a % b) < 2 ^ n := by
          have : (2 : Int) ^ (n + 1) = 2 ^ n * 2 := by rw [Int.pow_succ]
          omega
        rw [wh_step _ _ _ _ _ (by omega), wh_gcd L st n (a % b) (b % (a % b)) p0 q0 q3 m (by omega), e1, gcd_rest hb p0]
theorem divisor_ok (L : Fns) (st : List MO) (a b : Int) (hb : Md b) : runD L d_common_divisor [.int a, .int b] st = .ok (.v (.int (Int.gcd a b))) st := by
  have A : ∀ i : Int, (if i < 0 then -i else i) = (i.natAbs : Int) := fun i => by split <;> omega
  have e := wh_gcd L st 290 a.natAbs b.natAbs (by omega) (by omega) (by
    have : b.natAbs < 2 ^ 290 := hb
    exact_mod_cast this) 1000 (by decide)
  have hg : Int.gcd (a.natAbs : Int) (b.natAbs : Int) = Int.gcd a b := by simp [Int.gcd]
  rw [hg] at e
  unfold runD d_common_divisor
  have sl0 : slots 2 ([Dt.int a, .int b].map Sl.v) = [.v (.int a), .v (.int b)] := rfl
  show finD (Mq.execs L [_, _, _] ⟨slots 2 _, st⟩) = _
  have h1 : Mq.exec L (.par 0 1 (.bif "abs" [.var 0]) (.bif "abs" [.var 1])) ⟨[.v (.int a), .v (.int b)], st⟩ = .ok .nx ⟨[.v (.int a.natAbs), .v (.int b.natAbs)], st⟩ := by simp [A]
  rw [sl0, x_cons, h1, r_ok, thenS_nx, x_cons, x_whl, e, r_ok, thenS_nx]
  simp
theorem made_ok (k : Nat) (st : List MO) (a : Int) (b : Nat) (hb : 0 < b) (h : Md b) : runD (FP PP (k + 1)) d_made [.int a, .int b] st = .ok (.v (fr (mkRat a b))) st := by
  have hb' : (0 : Int) < b := by omega
  have g0 : 0 < (Int.gcd a b : Int) := gcd_pos hb'
  have g1 : Sm (Int.gcd a b : Int) := gcd_md hb' h
  have s2 : (2 : Nat) ≤ sizeLine := by decide
  have ec := divisor_ok (FP PP k) st a b h
  unfold fr
  rw [mk_num hb, mk_den hb]
  generalize (Int.gcd a b : Int) = g at *
  unfold runD d_made
  simp [slots, c_common_divisor, ec, g0, g1, s2]
/-- fractions that are not great -/
structure Sq (q : Rat) : Prop where
  n : q.num.natAbs < 2 ^ 160
  d : q.den < 2 ^ 120
theorem Sq.sn {q : Rat} (h : Sq q) : Sm q.num := Nat.lt_of_lt_of_le h.n (Nat.pow_le_pow_right (by decide) (by decide))
theorem Sq.sd {q : Rat} (h : Sq q) : Sm q.den := Nat.lt_of_lt_of_le (show (q.den : Int).natAbs < 2 ^ 120 from h.d) (Nat.pow_le_pow_right (by decide) (by decide))
theorem Sq.md {p q : Rat} (h : Sq p) (h2 : Sq q) : Md ((p.den * q.den : Nat) : Int) := by
  have a := h.d
  have b := h2.d
  have : p.den * q.den < 2 ^ 120 * 2 ^ 120 := Nat.mul_lt_mul'' a b
  exact Nat.lt_of_lt_of_le (show ((p.den * q.den : Nat) : Int).natAbs < 2 ^ 120 * 2 ^ 120 from this) (by decide)
theorem plusP_ok (k : Nat) (st : List MO) (p q : Rat) (h1 : Sq p) (h2 : Sq q) : runD (FP PP (k + 2)) d_plus [fr p, fr q] st = .ok (.v (fr (p + q))) st := by
  have hb : 0 < p.den * q.den := Nat.mul_pos p.den_pos q.den_pos
  have e := made_ok k st (p.num * q.den + q.num * p.den) (p.den * q.den) hb (h1.md h2)
  rw [← Rat.add_def'] at e
  have e2 : ((p.den * q.den : Nat) : Int) = (p.den : Int) * (q.den : Int) := by simp
  rw [e2] at e
  unfold runD d_plus
  simp [slots, fr, c_made, h1.sn, h2.sn, h1.sd, h2.sd, e]
/-- a loop that adds up -/
theorem add_loop {b : SS → Out SS Fl} (st : List MO) (T : Sl) (hb : ∀ p q, Sq p → Sq q → b ⟨[T, .v (fr p), .v (fr q)], st⟩ = .ok .nx ⟨[T, .v (fr (p + q)), .v (fr q)], st⟩) {ck : SS → Bool} (hck : ∀ s, ck s = true) : ∀ (qs : List Rat) (acc : Rat) (y : Sl), (∀ j, Sq (acc + (qs.take j).sum)) → (∀ q ∈ qs, Sq q) →
    ∃ z, forL ck (fun s x => bindT (.n 2) x s) b (qs.map fr) ⟨[T, .v (fr acc), y], st⟩ = .ok .nx ⟨[T, .v (fr (acc + qs.sum)), z], st⟩
  | [], acc, y, _, _ => ⟨y, by rw [List.map_nil, forL]; simp [Rat.add_zero]⟩
  | q :: qs, acc, y, ha, hq => by
    have h0 : Sq acc := by have := ha 0; simpa [Rat.add_zero] using this
    obtain ⟨z, ez⟩ := add_loop st T hb hck qs (acc + q) (.v (fr q)) (fun j => by
      have := ha (j + 1)
      rw [List.take_succ_cons, List.sum_cons, ← Rat.add_assoc] at this; exact this) fun x hx => hq x (List.mem_cons_of_mem _ hx)
    refine ⟨z, ?_⟩
    rw [List.map_cons, forL, bindT]
    have e := hb acc q h0 (hq q (List.mem_cons_self ..))
    show (b ⟨[T, .v (fr acc), .v (fr q)], st⟩).bind _ = _
    rw [e, r_ok]
    simp only [hck, if_true]
    rw [ez, List.sum_cons, Rat.add_assoc]
end K38

namespace K38
open PySem L2 Mq
theorem fr0 : fr 0 = .tup [.int 0, .int 1] := rfl
/-- all sums of the first are not great -/
def Sums (qs : List Rat) : Prop := (∀ j, Sq ((qs.take j).sum)) ∧ ∀ q ∈ qs, Sq q
theorem total_ok (k : Nat) (st : List MO) (qs : List Rat) (h : Sums qs) : runD (FP PP (k + 3)) d_total_of [.tup (qs.map fr)] st = .ok (.v (fr qs.sum)) st := by
  have hb : ∀ p q, Sq p → Sq q → Mq.execs (FP PP (k + 3)) [.asg 1 (.call "plus" [.var 1, .var 2])] ⟨[.v (.tup (qs.map fr)), .v (fr p), .v (fr q)], st⟩ = .ok .nx ⟨[.v (.tup (qs.map fr)), .v (fr (p + q)), .v (fr q)], st⟩ := fun p q hp hq => by
    have e := plusP_ok k st p q hp hq
    simp [c_plus, e]
  obtain ⟨z, ez⟩ := add_loop (b := fun s => Mq.execs (FP PP (k + 3)) [.asg 1 (.call "plus" [.var 1, .var 2])] s) st (.v (.tup (qs.map fr))) hb (ck := fun _ => true) (fun _ => rfl) qs 0 .un (fun j => by rw [Rat.zero_add]; exact h.1 j) h.2
  rw [Rat.zero_add] at ez
  unfold runD d_total_of
  have sl0 : slots 3 ([Dt.tup (qs.map fr)].map Sl.v) = [.v (.tup (qs.map fr)), .un, .un] := rfl
  show finD (Mq.execs _ [_, _, _] ⟨slots 3 _, st⟩) = _
  have hz : (FP PP (k + 3)).glob "ZERO" = some (fr 0) := rfl
  have h1 : Mq.exec (FP PP (k + 3)) (.asg 1 (.glo "ZERO")) ⟨[.v (.tup (qs.map fr)), .un, .un], st⟩ = .ok .nx ⟨[.v (.tup (qs.map fr)), .v (fr 0), .un], st⟩ := by simp [e_glo hz]
  have h3 : evI (FP PP (k + 3)) (.seq true (.var 0)) ⟨[.v (.tup (qs.map fr)), .v (fr 0), .un], st⟩ = .ok ⟨qs.map fr, .v (.tup (qs.map fr)), qs.map fr⟩ ⟨[.v (.tup (qs.map fr)), .v (fr 0), .un], st⟩ := i_seq (r := .v (.tup (qs.map fr))) (by simp) rfl rfl
  rw [sl0, x_cons, h1, r_ok, thenS_nx, x_cons, x_for, h3, r_ok]
  show finD ((Out.fix _ (forL (fun _ => true) (fun s x => bindT (.n 2) x s) (fun s => Mq.execs (FP PP (k + 3)) [.asg 1 (.call "plus" [.var 1, .var 2])] s) (qs.map fr) ⟨[.v (.tup (qs.map fr)), .v (fr 0), .un], st⟩)).bind _) = _
  rw [ez, r_fix, r_ok, thenS_nx]
  show finD (Mq.execs _ _ ⟨_, st⟩) = _
  simp [unlock]
/-! ### what the package asks of sums -/
theorem isi_t {xs : List Dt} {s : SS} {L : Fns} (h : L.isi = isiOf isiT) : isiF L "tuple" (.v (.tup xs)) s = .ok (.v (.bl true)) s := isiF_y (ty := .b "tuple") rfl (by rw [h]; decide +kernel)
theorem isi_i {i : Int} {s : SS} {L : Fns} (h : L.isi = isiOf isiT) : isiF L "int" (.v (.int i)) s = .ok (.v (.bl true)) s := isiF_y (ty := .b "int") rfl (by rw [h]; decide +kernel)
theorem isi_ib {i : Int} {s : SS} {L : Fns} (h : L.isi = isiOf isiT) : isiF L "bool" (.v (.int i)) s = .ok (.v (.bl false)) s := isiF_y (ty := .b "int") rfl (by rw [h]; decide +kernel)
theorem fp_isi : ∀ k, (FP PP k).isi = isiOf isiT
  | 0 => rfl
  | k + 1 => rfl
theorem isint_ok (k : Nat) (st : List MO) (i : Int) : runD (FP PP k) d_is_integer [.int i] st = .ok (.v (.bl true)) st := by
  unfold runD d_is_integer
  simp [slots, isi_i (fp_isi k), isi_ib (fp_isi k)]
theorem ispair_ok (k : Nat) (st : List MO) (x y : Dt) : runD (FP PP k) d_is_pair [.tup [x, y]] st = .ok (.v (.bl true)) st := by
  unfold runD d_is_pair
  simp [slots, isi_t (fp_isi k)]
theorem isfr_ok (k : Nat) (st : List MO) (q : Rat) (h : Sq q) : runD (FP PP (k + 1)) d_is_fraction [fr q] st = .ok (.v (.bl true)) st := by
  have h1 : ¬ ((q.den : Int) < 1) := by have := q.den_pos; omega
  have hm : Md (q.den : Int) := Nat.lt_of_lt_of_le (show (q.den : Int).natAbs < 2 ^ 120 from h.d) (by decide)
  have e := divisor_ok (FP PP k) st q.num q.den hm
  have hg : Int.gcd q.num q.den = 1 := q.reduced
  rw [hg] at e
  unfold runD d_is_fraction fr
  simp [slots, c_is_pair, c_is_integer, c_common_divisor, ispair_ok, isint_ok, e, h1]
theorem isam_ok (k : Nat) (st : List MO) (q : Rat) (h : Sq q) (h0 : 0 < q.num) : runD (FP PP (k + 2)) d_is_amount [fr q] st = .ok (.v (.bl true)) st := by
  have e := isfr_ok k st q h
  unfold runD d_is_amount fr
  unfold fr at e
  simp [slots, c_is_fraction, e, h0]
end K38

namespace K38
open PySem L2 Mq
theorem var_oi {L : Fns} {c : Nat} {ns : List Str} {vs : List Dt} {r : List Sl} {st : List MO} : ev L (.var 0) ⟨.oi c ns vs :: r, st⟩ = .ok (.bw 0) ⟨.oi c ns vs :: r, st⟩ := by rw [ev]; rfl
theorem wr_oi {f : Str} {d : Dt} {c : Nat} {ns : List Str} {vs : List Dt} {r : List Sl} {st : List MO} (h : ns.length < 1000) : wrF (.bw 0) f d ⟨.oi c ns vs :: r, st⟩ = .ok () ⟨.oi c (putN f ns) (putD f d ns vs) :: r, st⟩ := by
  unfold wrF
  simp [h]
theorem rdl_n {s : SS} {xs : List Dt} : rdl s (.nl xs) = some xs := rfl
theorem allB (xs : List Dt) : allBls (xs.map fun _ => Dt.bl true) = some (xs.map fun _ => true) := by
  induction xs with
  | nil => rfl
  | cons x xs ih => simp [allBls, ih]
/-- one side of an evening -/
structure Side (qs : List Rat) : Prop where
  s : Sums qs
  p : ∀ q ∈ qs, 0 < q.num
  l : 1 ≤ qs.length
  u : qs.length ≤ 100
theorem sums_ok (k : Nat) (st : List MO) (qs : List Rat) (h : Side qs) : runD (FP PP (k + 3)) d_are_sums [.tup (qs.map fr)] st = .ok (.v (.bl true)) st := by
  have hz : (FP PP (k + 3)).glob "MOST_SIDE" = some (.int 100) := rfl
  have e : ∀ s : SS, s.sl = [.v (.tup (qs.map fr)), .un] → s.st = st → ev (FP PP (k + 3)) (.lc (.call "is_amount" [.var 1]) (.n 1) (.seq true (.var 0)) none [1]) s = .ok (.nl ((qs.map fr).map fun _ => Dt.bl true)) s := fun s hs hst =>
    e_lc (s1 := s) (d := .tup (qs.map fr)) (xs := qs.map fr) (g := fun _ => .bl true) (i_seq (r := .v (.tup (qs.map fr))) (by simp [hs]) rfl rfl) (fun _ z => nomatch z) (.inl (by rw [hs]; rfl)) (fun x hx => by
      obtain ⟨q, hq, rfl⟩ := List.mem_map.mp hx
      have e1 : (s.set 1 (.v (fr q))).sl[1]? = some (.v (fr q)) := by unfold SS.set; simp [hs]
      have e2 := isam_ok k st q (h.s.2 q hq) (h.p q hq)
      have e3 : (s.set 1 (.v (fr q))).st = st := hst
      simp [e1, e3, c_is_amount, e2, liftF]
      obtain ⟨sl, st0⟩ := s
      cases hst
      rfl) (by rw [List.length_map]; exact Nat.le_trans h.u (by decide))
  unfold runD d_are_sums
  have sl0 : slots 2 ([Dt.tup (qs.map fr)].map Sl.v) = [.v (.tup (qs.map fr)), .un] := rfl
  show finD (Mq.execs _ [_] ⟨slots 2 _, st⟩) = _
  rw [sl0]
  have l1 : (1 : Int) ≤ qs.length := by have := h.l; omega
  have l2 : (qs.length : Int) ≤ 100 := by have := h.u; omega
  have e0 := e ⟨[.v (.tup (qs.map fr)), .un], st⟩ rfl rfl
  simp only [List.map_map] at e0
  have ab : allBls (qs.map ((fun _ => Dt.bl true) ∘ fr)) = some (qs.map fun _ => true) := by
    have := allB (qs.map fr)
    rw [List.map_map, List.map_map] at this; exact this
  simp [isi_t (fp_isi (k + 3)), e_glo hz, l1, l2, e0, rdl_n, ab]
theorem flat_fr (n : Nat) (q : Rat) : flat (n + 1) (fr q) = true := rfl
theorem deq_fr (p q : Rat) : deq (fr p) (fr q) = decide (p = q) := by
  show (decide (p.num = q.num) && (decide ((p.den : Int) = (q.den : Int)) && true)) = _
  by_cases e : p = q
  · subst e; simp
  · have : ¬ (p.num = q.num ∧ (p.den : Int) = (q.den : Int)) := fun ⟨a, b⟩ => e (Rat.ext a (by omega))
    simp [e]
    intro a b
    exact this ⟨a, by omega⟩
theorem ne_fr {s : SS} (p q : Rat) : cmpV .ne (.v (fr p)) (.v (fr q)) s = some (!decide (p = q)) := by
  rw [c_neD (flat_fr 39 p) (flat_fr 39 q) rfl rfl, deq_fr]
def evg (os ds : List Rat) : Dt := .ins 0 ["owed", "due"] [.tup (os.map fr), .tup (ds.map fr)]
theorem init_ok (k : Nat) (st : List MO) (os ds : List Rat) (h1 : Side os) (h2 : Side ds) (he : os.sum = ds.sum) : Mq.runI (FP PP (k + 4)) d_Evening__init_ 0 [.tup (os.map fr), .tup (ds.map fr)] st = .ok (["owed", "due"], [.tup (os.map fr), .tup (ds.map fr)]) st := by
  have e1 := sums_ok k st os h1
  have e2 := sums_ok k st ds h2
  have e3 := total_ok k st os h1.s
  have e4 := total_ok k st ds h2.s
  unfold Mq.runI d_Evening__init_
  have sl0 : slots 3 (Sl.oi 0 [] [] :: [Dt.tup (os.map fr), Dt.tup (ds.map fr)].map Sl.v) = [.oi 0 [] [], .v (.tup (os.map fr)), .v (.tup (ds.map fr))] := rfl
  show finI 0 (Mq.execs _ [_, _, _, _, _] ⟨slots 3 _, st⟩) = _
  rw [sl0]
  simp [c_are_sums, c_total_of, e1, e2, e3, e4, ne_fr, he, var_oi, wr_oi]
  have n1 : putN "owed" [] = ([("owed" : Str)] : List Str) := rfl
  have n2 : putN "due" [("owed" : Str)] = ([("owed" : Str), ("due" : Str)] : List Str) := by decide +kernel
  have d2 : ∀ x y : Dt, putD "due" y [("owed" : Str)] [x] = [x, y] := fun x y => by
    unfold putD
    rw [if_neg (by decide +kernel)]; rfl
  simp [n1, n2, d2, wr_oi, putD, finI, oiAt]
  decide +kernel
theorem make_ok (k : Nat) (st : List MO) (os ds : List Rat) (h1 : Side os) (h2 : Side ds) (he : os.sum = ds.sum) : (FP PP (k + 5)).make "Evening" [.tup (os.map fr), .tup (ds.map fr)] st = .ok (.v (evg os ds)) st := by
  rw [n_Evening]
  unfold mkI
  rw [init_ok k st os ds h1 h2 he]
  rfl
/-! ### what is asked of an evening -/
theorem lk1 {x : Dt} {vs : List Dt} {ns : List Str} : lkF "owed" ("owed" :: ns) (x :: vs) = some x := by unfold lkF; rw [if_pos rfl]
theorem lk2 {x y : Dt} : lkF "due" ["owed", "due"] [x, y] = some y := by
  unfold lkF
  rw [if_neg (by decide +kernel)]
  unfold lkF
  rw [if_pos rfl]
theorem fo {s : SS} {os ds : List Rat} : fldV (.v (evg os ds)) "owed" s = some (.tup (os.map fr)) := lk1
theorem fd {s : SS} {os ds : List Rat} : fldV (.v (evg os ds)) "due" s = some (.tup (ds.map fr)) := lk2
end K38

namespace K38
open PySem L2 Mq
def mu (u : Rat) (n : Nat) : Rat := (n : Rat) * u
theorem num_eq (p : Rat) : (p.num : Rat) = p * (p.den : Rat) := by
  have h : p = (p.num : Rat) / (p.den : Rat) := by
    rw [← Rat.mkRat_eq_div, Rat.mkRat_self]
  have hd : (p.den : Rat) ≠ 0 := fun z => p.den_nz (Rat.natCast_eq_zero_iff.mp z)
  generalize (p.num : Rat) = a at *
  generalize (p.den : Rat) = d at *
  subst h
  grind
theorem mu_pos {u : Rat} (hu : 0 < u) {n : Nat} (hn : 0 < n) : 0 < mu u n := Rat.mul_pos (Rat.natCast_pos.mpr hn) hu
theorem num_posR {p : Rat} (h : 0 < p) : 0 < p.num := by
  have := (Rat.lt_iff 0 p).mp h
  simpa using this
/-- n u for numbers up to N are not great -/
structure Un (u : Rat) (N : Nat) : Prop where
  p : 0 < u
  s : ∀ n, n ≤ N → Sq (mu u n)
theorem fr_nat (c : Nat) : fr (c : Rat) = .tup [.int c, .int 1] := rfl
end K38

namespace K38
open PySem L2 Mq
/-! ### fractions with a common bottom -/
def Mz (D B : Nat) (q : Rat) : Prop := ∃ z : Int, q = (z : Rat) / (D : Rat) ∧ z.natAbs ≤ B
theorem natR_ne {D : Nat} (h : 0 < D) : (D : Rat) ≠ 0 := fun z => by have := Rat.natCast_eq_zero_iff.mp z; omega
theorem Mz.mono {D B C : Nat} {q : Rat} (h : Mz D B q) (hb : B ≤ C) : Mz D C q := by
  obtain ⟨z, e, l⟩ := h
  exact ⟨z, e, by omega⟩
theorem mk_nat (z : Int) (D : Nat) : mkRat z D = (z : Rat) / (D : Rat) := Rat.mkRat_eq_div z D
theorem Mz.sq {D B : Nat} {q : Rat} (h : Mz D B q) (hD : 0 < D) (hD2 : D < 2 ^ 40) (hB : B < 2 ^ 160) : Sq q := by
  obtain ⟨z, e, l⟩ := h
  rw [← mk_nat] at e
  subst e
  have n1 := mk_num (a := z) hD
  have d1 := mk_den (a := z) hD
  have g0 := gcd_pos (a := z) (b := (D : Int)) (by omega)
  constructor
  · rw [n1]
    refine Nat.lt_of_le_of_lt ?_ (Nat.lt_of_le_of_lt l hB)
    exact Int.natAbs_ediv_le_natAbs _ _
  · have : (D : Int) / (Int.gcd z D : Int) ≤ D := Int.ediv_le_self _ (by omega)
    omega
theorem Mz.add {D B C : Nat} {p q : Rat} (h1 : Mz D B p) (h2 : Mz D C q) (hD : 0 < D) : Mz D (B + C) (p + q) := by
  obtain ⟨z, rfl, l⟩ := h1
  obtain ⟨w, rfl, m⟩ := h2
  refine ⟨z + w, ?_, by omega⟩
  rw [Rat.intCast_add]
  have := natR_ne hD
  generalize (z : Rat) = a
  generalize (w : Rat) = b
  generalize (D : Rat) = d at *
  grind
theorem Mz.neg {D B : Nat} {q : Rat} (h : Mz D B q) : Mz D B (-q) := by
  obtain ⟨z, rfl, l⟩ := h
  refine ⟨-z, ?_, by omega⟩
  rw [Rat.intCast_neg]
  generalize (z : Rat) = a
  generalize (D : Rat) = d
  grind
theorem Mz.sub {D B C : Nat} {p q : Rat} (h1 : Mz D B p) (h2 : Mz D C q) (hD : 0 < D) : Mz D (B + C) (p - q) := by
  rw [Rat.sub_eq_add_neg]
  exact h1.add h2.neg hD
theorem Mz.mul {D E B C : Nat} {p q : Rat} (h1 : Mz D B p) (h2 : Mz E C q) (hD : 0 < D) (hE : 0 < E) : Mz (D * E) (B * C) (p * q) := by
  obtain ⟨z, rfl, l⟩ := h1
  obtain ⟨w, rfl, m⟩ := h2
  refine ⟨z * w, ?_, by rw [Int.natAbs_mul]; exact Nat.mul_le_mul l m⟩
  rw [Rat.intCast_mul, Rat.natCast_mul]
  have := natR_ne hD
  have := natR_ne hE
  generalize (z : Rat) = a
  generalize (w : Rat) = b
  generalize (D : Rat) = d at *
  generalize (E : Rat) = e at *
  grind
theorem Mz.up {D B : Nat} {q : Rat} (h : Mz D B q) (E : Nat) (hD : 0 < D) (hE : 0 < E) : Mz (D * E) (B * E) q := by
  have : Mz E E (1 : Rat) := ⟨E, by
    have := natR_ne hE
    rw [show ((E : Int) : Rat) = (E : Rat) from rfl]
    generalize (E : Rat) = e at *
    grind, by omega⟩
  have := h.mul this hD hE
  rwa [Rat.mul_one] at this
theorem Mz.int {D : Nat} (z : Int) (hD : 0 < D) : Mz D (z.natAbs * D) (z : Rat) := by
  have : Mz 1 z.natAbs (z : Rat) := ⟨z, by rw [show ((1 : Nat) : Rat) = 1 from rfl]; grind, Nat.le_refl _⟩
  have := this.up D (by decide) hD
  rwa [Nat.one_mul] at this
/-- a / b where b goes into D -/
theorem Mz.mk {D b : Nat} (a : Int) (c : Nat) (e : D = b * c) (hD : 0 < D) : Mz D (a.natAbs * c) (mkRat a b) := by
  subst e
  have hb : 0 < b := Nat.pos_of_mul_pos_right hD
  have hc : 0 < c := Nat.pos_of_mul_pos_left hD
  rw [mk_nat]
  exact Mz.up ⟨a, rfl, Nat.le_refl _⟩ c hb hc
theorem Mz.sum {D B : Nat} (hD : 0 < D) : ∀ {qs : List Rat}, (∀ q ∈ qs, Mz D B q) → Mz D (qs.length * B) qs.sum
  | [], _ => ⟨0, by rw [List.sum_nil]; grind, by simp⟩
  | q :: r, h => by
    have h1 := h q (List.mem_cons_self ..)
    have h2 := Mz.sum hD (qs := r) fun q hq => h q (List.mem_cons_of_mem _ hq)
    rw [List.sum_cons, List.length_cons]
    exact (h1.add h2 hD).mono (by rw [Nat.add_mul]; omega)
theorem Mz.sums {D B : Nat} {qs : List Rat} (hD : 0 < D) (hD2 : D < 2 ^ 40) (hB : qs.length * B < 2 ^ 160) (hB2 : B < 2 ^ 160) (h : ∀ q ∈ qs, Mz D B q) : Sums qs :=
  ⟨fun j => ((Mz.sum hD (qs := qs.take j) fun q hq => h q (List.mem_of_mem_take hq)).mono (Nat.mul_le_mul_right _ (List.length_take_le' ..))).sq hD hD2 hB, fun q hq => (h q hq).sq hD hD2 hB2⟩
theorem Mz.mu {D B : Nat} {u : Rat} (h : Mz D B u) (n : Nat) (hD : 0 < D) : Mz D (n * B) (mu u n) := by
  obtain ⟨z, rfl, l⟩ := h
  refine ⟨n * z, ?_, by rw [Int.natAbs_mul]; exact Nat.mul_le_mul_left _ l⟩
  unfold K38.mu
  rw [Rat.intCast_mul, show ((n : Int) : Rat) = (n : Rat) from rfl]
  have := natR_ne hD
  generalize (z : Rat) = a
  generalize (n : Rat) = b
  generalize (D : Rat) = d at *
  grind
end K38

namespace K38
open PySem L2 Mq
/-! ### units, sums, the evening -/
/-- a unit: a pair in lowest terms, not great -/
structure Ut (p q : Nat) : Prop where
  p0 : 0 < p
  q0 : 0 < q
  g : Int.gcd (p : Int) (q : Int) = 1
  p1 : p < 1000
  q1 : q < 1000
def utD (p q : Nat) : Dt := .tup [.int (p : Int), .int (q : Int)]
theorem six {u : Nat} (h : (u : Int) < 6) : ∃ p q : Nat, atI [Dt.tup [.int 1, .int 1], .tup [.int 1, .int 1], .tup [.int 1, .int 2], .tup [.int 5, .int 3], .tup [.int 7, .int 1], .tup [.int 10, .int 9]] (u : Int) = some (utD p q) ∧ Ut p q := by
  have : u = 0 ∨ u = 1 ∨ u = 2 ∨ u = 3 ∨ u = 4 ∨ u = 5 := by omega
  rcases this with rfl | rfl | rfl | rfl | rfl | rfl
  · exact ⟨1, 1, rfl, by omega, by omega, by decide, by omega, by omega⟩
  · exact ⟨1, 1, rfl, by omega, by omega, by decide, by omega, by omega⟩
  · exact ⟨1, 2, rfl, by omega, by omega, by decide, by omega, by omega⟩
  · exact ⟨5, 3, rfl, by omega, by omega, by decide, by omega, by omega⟩
  · exact ⟨7, 1, rfl, by omega, by omega, by decide, by omega, by omega⟩
  · exact ⟨10, 9, rfl, by omega, by omega, by decide, by omega, by omega⟩
theorem W_unit {k b : Nat} {mo : MO} {r : List MO} {Q : RV → List MO → Prop} (hh : Hand b mo) (hb : b + 10 ≤ 1000000) (q : ∀ (p d : Nat) (mo' : MO), Hand (b + 1) mo' → Ut p d → Q (.v (utD p d)) (mo' :: r)) : W Q ((FP PP (k + 2)).call "_law_unit" [.ref 0] (mo :: r)) := by
  rw [c_law_unit, go_law_unit]
  simp
  refine W_draw hh (by omega) (by omega) (by omega) fun u m2 hu h2 => ?_
  obtain ⟨p, d, e, ut⟩ := six hu
  simp [e]
  exact q p d m2 h2 ut
theorem Ut.pos {p q : Nat} (h : Ut p q) : (0 : Rat) < mkRat p q := by
  rw [mk_nat]
  have h1 : (0 : Rat) < ((p : Int) : Rat) := by
    have := Rat.natCast_pos.mpr h.p0
    exact_mod_cast this
  have h2 : (0 : Rat) < (q : Rat) := Rat.natCast_pos.mpr h.q0
  rw [Rat.div_def]
  exact Rat.mul_pos h1 (Rat.inv_pos.mpr h2)
theorem mu_mk {p q : Nat} (hq : 0 < q) (n : Nat) : mu (mkRat p q) n = mkRat ((n : Int) * p) q := by
  unfold mu
  rw [mk_nat, mk_nat, Rat.intCast_mul, Rat.div_def, Rat.div_def, ← Rat.mul_assoc]
  rfl
theorem Ut.mz {p q : Nat} (h : Ut p q) (n : Nat) : Mz q (n * p) (mu (mkRat p q) n) := by
  rw [mu_mk h.q0, mk_nat]
  refine ⟨(n : Int) * p, rfl, ?_⟩
  rw [Int.natAbs_mul]; simp
theorem Ut.un {p q : Nat} (h : Ut p q) : Un (mkRat p q) (2 ^ 60) := ⟨h.pos, fun n hn => (h.mz n).sq h.q0 (by have := h.q1; omega) (by
  have := h.p1
  have : n * p ≤ 2 ^ 60 * 1000 := Nat.mul_le_mul hn (by omega)
  omega)⟩
theorem sums_frz {k : Nat} {p q : Nat} (h : Ut p q) {xs : List Nat} {st : List MO} (hl : xs.length ≤ 1000) (hx : ∀ n ∈ xs, n < 2 ^ 100) : (FP PP (k + 3)).call "_law_sums" [.lst (natsD xs), utD p q] st = .ok (.v (.tup ((xs.map (mu (mkRat p q))).map fr))) st := by
  rw [c_law_sums]
  refine W.toEq ?_
  rw [go_law_sums]
  have i0 : ∀ s, idxV (.v (utD p q)) (.v (.int 0)) s = some (.v (.int (p : Int))) := fun _ => rfl
  have i1 : ∀ s, idxV (.v (utD p q)) (.v (.int 1)) s = some (.v (.int (q : Int))) := fun _ => rfl
  have am : ∀ n ∈ xs, (FP PP (k + 2)).call "_law_amount" [.int ((n : Int) * (p : Int)), .int (q : Int)] st = .ok (.v (fr (mu (mkRat p q) n))) st := fun n hn => by
    rw [mu_mk h.q0]
    exact W.toEq (W_amount (by exact_mod_cast Nat.zero_le _) h.q0 (by have := h.q1; omega) ⟨rfl, rfl⟩)
  have vm : ∀ n ∈ xs, ∀ s, binV .mul (.v (.int (n : Int))) (.v (.int (p : Int))) s = some (.v (.int ((n : Int) * (p : Int)))) := fun n hn s => by
    refine v_mulO (Sm.bits ?_ (.of40 (by have := h.p1; omega)))
    exact Nat.lt_of_lt_of_le (show (n : Int).natAbs < 2 ^ 100 from hx n hn) (Nat.pow_le_pow_right (by decide) (by decide))
  generalize utD p q = U at *
  simp
  rw [P_lcs (d := .lst (natsD xs)) xs (fun (n : Nat) => Dt.int n) (fun n => fr (mu (mkRat p q) n)) (by simp) rfl (fun _ h => nomatch h) (by omega) rfl rfl fun n hn => by simp [wipeS, backS, i0, i1, vm n hn, am n hn]]
  simp
theorem mu_sum (u : Rat) : ∀ xs : List Nat, (xs.map (mu u)).sum = mu u xs.sum
  | [] => by
    show (0 : Rat) = ((0 : Nat) : Rat) * u
    rw [show ((0 : Nat) : Rat) = 0 from rfl, Rat.zero_mul]
  | x :: xs => by
    rw [List.map_cons, List.sum_cons, mu_sum u xs, List.sum_cons]
    show (x : Rat) * u + (xs.sum : Rat) * u = ((x + xs.sum : Nat) : Rat) * u
    rw [Rat.natCast_add, Rat.add_mul]
theorem take_le (xs : List Nat) (j : Nat) : (xs.take j).sum ≤ xs.sum := by
  have := congrArg List.sum (List.take_append_drop j xs)
  rw [List.sum_append] at this
  omega
theorem mem_le {xs : List Nat} {x : Nat} (h : x ∈ xs) : x ≤ xs.sum := by
  induction xs with
  | nil => cases h
  | cons y ys ih =>
    rw [List.sum_cons]
    rcases List.mem_cons.mp h with e | h
    · omega
    · have := ih h; omega
theorem side_mu {u : Rat} {xs : List Nat} (hu : Un u (2 ^ 60)) (h1 : 1 ≤ xs.length) (h2 : xs.length ≤ 100) (h4 : ∀ p ∈ xs, 0 < p) (h5 : xs.sum < 2 ^ 60) : Side (xs.map (mu u)) where
  s := ⟨fun j => by
    rw [← List.map_take, mu_sum]
    exact hu.s _ (by have := take_le xs j; omega), fun q hq => by
    obtain ⟨x, hx, rfl⟩ := List.mem_map.mp hq
    exact hu.s _ (by have := mem_le hx; omega)⟩
  p := fun q hq => by
    obtain ⟨x, hx, rfl⟩ := List.mem_map.mp hq
    exact num_posR (mu_pos hu.p (h4 x hx))
  l := by simpa using h1
  u := by simpa using h2
/-- an evening of whole numbers times a unit -/
structure Evs (xs ys : List Nat) : Prop where
  a : 1 ≤ xs.length
  b : 1 ≤ ys.length
  c : xs.length ≤ 100
  d : ys.length ≤ 100
  e : xs.sum = ys.sum
  f : xs.sum < 2 ^ 60
  g : ∀ p ∈ xs, 0 < p
  h : ∀ p ∈ ys, 0 < p
theorem Two.evs {m : Nat} {xs ys : List Nat} (t : Two m xs ys) (hm : m ≤ 90) : Evs xs ys := ⟨t.a, t.b, by have := t.c; omega, by have := t.c; omega, t.d, by have := t.e; have := t.c; omega, t.f, t.g⟩
theorem made_frz {k : Nat} {p q : Nat} (h : Ut p q) {xs ys : List Nat} {st : List MO} (t : Evs xs ys) : (FP PP (k + 6)).call "_law_made" [lsD xs ys, utD p q] st = .ok (.v (evg (xs.map (mu (mkRat p q))) (ys.map (mu (mkRat p q))))) st := by
  obtain ⟨t1, t2, t3, t4, t5, t6, t7, t8⟩ := t
  rw [c_law_made]
  refine W.toEq ?_
  rw [go_law_made]
  have e1 := sums_frz (k := k + 2) h (xs := xs) (st := st) (by omega) (fun n hn => by have := mem_le hn; omega)
  have e2 := sums_frz (k := k + 2) h (xs := ys) (st := st) (by omega) (fun n hn => by have := mem_le hn; omega)
  have e3 := make_ok k st (xs.map (mu (mkRat p q))) (ys.map (mu (mkRat p q))) (side_mu h.un t1 (by omega) t7 t6) (side_mu h.un t2 (by omega) t8 (by omega)) (by rw [mu_sum, mu_sum, t5])
  have i0 : ∀ s, idxV (.v (lsD xs ys)) (.v (.int 0)) s = some (.v (.lst (natsD xs))) := fun _ => rfl
  have i1 : ∀ s, idxV (.v (lsD xs ys)) (.v (.int 1)) s = some (.v (.lst (natsD ys))) := fun _ => rfl
  generalize utD p q = U at *
  generalize lsD xs ys = LS at *
  generalize evg (xs.map (mu (mkRat p q))) (ys.map (mu (mkRat p q))) = E at *
  generalize (xs.map (mu (mkRat p q))).map fr = A at *
  generalize (ys.map (mu (mkRat p q))).map fr = B at *
  simp [i0, i1, e1, e2, e3]
end K38

namespace K38
open PySem L2 Mq
/-! ### lists with a unit or nearly -/
theorem set_nats {xs : List Nat} {i v : Nat} (h : i < xs.length) : setF (i : Int) (.int (v : Int)) (natsD xs) = some (natsD (xs.set i v), .non) := by
  rw [sf_n (k := i) (by rw [natsD_len]; exact h) rfl]
  unfold natsD
  rw [List.map_set]
theorem sum_set : ∀ (l : List Nat) (i v : Nat), i < l.length → (l.set i v).sum + l.getD i 0 = l.sum + v
  | x :: l, 0, v, h => by
    show (v :: l).sum + x = (x :: l).sum + v
    rw [List.sum_cons, List.sum_cons]; omega
  | x :: l, i + 1, v, h => by
    have := sum_set l i v (by simpa using h)
    show (x :: l.set i v).sum + l.getD i 0 = (x :: l).sum + v
    rw [List.sum_cons, List.sum_cons]; omega
theorem set_pos {l : List Nat} {i a : Nat} (h : ∀ p ∈ l, 1 ≤ p) (ha : 1 ≤ a) : ∀ p ∈ l.set i a, 1 ≤ p := fun p hp => by
  rcases List.mem_or_eq_of_mem_set hp with h' | h'
  · exact h p h'
  · omega
theorem getD_mem {l : List Nat} {r : Nat} (h : r < l.length) : l.getD r 0 ∈ l := by
  rw [List.getD_eq_getElem?_getD, List.getElem?_eq_getElem h]
  exact List.getElem_mem h
theorem sum_erase : ∀ (l : List Nat) (r : Nat) (h : r < l.length), (l.eraseIdx r).sum + l.getD r 0 = l.sum
  | x :: l, 0, h => by
    show l.sum + x = (x :: l).sum
    rw [List.sum_cons, Nat.add_comm]
  | x :: l, r + 1, h => by
    have := sum_erase l r (by simpa using h)
    show (x :: l.eraseIdx r).sum + l.getD r 0 = (x :: l).sum
    rw [List.sum_cons, List.sum_cons]
    omega
theorem pop_nats {l : List Nat} {r : Nat} (h : r < l.length) (hz : l.length ≤ 1000) : mthF "pop" (.int (r : Int)) (natsD l) = some (natsD (l.eraseIdx r), .int (l.getD r 0 : Nat)) := by
  have e : l[r]? = some (l.getD r 0) := by rw [List.getD_eq_getElem?_getD, List.getElem?_eq_getElem h]; rfl
  exact pop_atM (f := fun (x : Nat) => Dt.int x) e hz
/-- the slots -/
def alkS (m many un : Nat) (os ds : List Nat) (t a : Nat) (x8 x9 x10 : Sl) (mo : MO) (r : List MO) : SS := ⟨[.v (.ref 0), .v (.int (m : Int)), .v (.int (many : Int)), .v (.int (un : Int)), .ol (natsD ds), .ol (natsD os), .v (.int (t : Int)), .v (.int (a : Int)), x8, x9, x10], mo :: r⟩
structure AOk (m c : Nat) (os ds : List Nat) : Prop where
  a : 1 ≤ os.length
  b : 1 ≤ ds.length
  c : os.length + ds.length ≤ m
  d : os.sum = ds.sum
  e : os.sum ≤ 4 * os.length
  f : ∀ p ∈ os, 1 ≤ p
  g : ∀ p ∈ ds, 1 ≤ p
theorem AOk.two {m c : Nat} {os ds : List Nat} (h : AOk m c os ds) : Two m os ds := ⟨h.a, h.b, h.c, h.d, by have := h.e; omega, h.f, h.g⟩
theorem alk_tail {k b m c many un t a : Nat} {x8 x9 x10 : Sl} {os ds : List Nat} {mo : MO} {r : List MO} {Q : RV → List MO → Prop} (hh : Hand b mo) (hb : b + 5000 ≤ 1000000) (ok : AOk m c os ds) (hm : m ≤ 90) (h8 : x8 = .un)
    (q : ∀ (xs ys : List Nat) (mo' : MO), Hand (b + 200) mo' → Two m xs ys → Q (.v (lsD xs ys)) (mo' :: r)) : W (finQ Q) (Mq.execs (FP PP (k + 2)) (d_law_alike_lists.ms.drop 8) (alkS m many un os ds t a x8 x9 x10 mo r)) := by
  subst h8
  have c0 := ok.c
  unfold d_law_alike_lists alkS
  dsimp only [List.drop]
  simp [val_bwO]
  refine shuf_nats hh (by omega) (by omega) fun p1 m1 h1 z1 => ?_
  simp [list_nats, val_bwO]
  refine shuf_nats h1 (by omega) (by omega) fun p2 m2 h2 z2 => ?_
  have tw := perm_two ok.two z1 z2
  simp [list_nats]
  refine W_draw h2 (by omega) (by omega) (by omega) fun y m3 hy h3 => ?_
  simp
  refine wIf_dec (fun h => ?_) fun h => ?_
  · exact q p2 p1 m3 (h3.mono (by omega)) tw.swap
  · exact q p1 p2 m3 (h3.mono (by omega)) tw
theorem alk_7 {k b m c many un t a : Nat} {x9 x10 : Sl} {os ds : List Nat} {mo : MO} {r : List MO} {Q : RV → List MO → Prop} (hh : Hand b mo) (hb : b + 5000 ≤ 1000000) (ok : AOk m c os ds) (hm : m ≤ 90) (ha : a < ds.length)
    (q : ∀ (xs ys : List Nat) (mo' : MO), Hand (b + 200) mo' → Two m xs ys → Q (.v (lsD xs ys)) (mo' :: r)) : W (finQ Q) (Mq.execs (FP PP (k + 2)) (d_law_alike_lists.ms.drop 7) (alkS m many un os ds t a .un x9 x10 mo r)) := by
  have ems : d_law_alike_lists.ms.drop 7 = d_law_alike_lists.ms[7]'(by decide) :: d_law_alike_lists.ms.drop 8 := rfl
  rw [ems, w_cons]
  have tail := fun (ds' : List Nat) (x9 : Sl) (ok' : AOk m c os ds') => alk_tail (k := k) (x8 := .un) (x9 := x9) (x10 := x10) (many := many) (un := un) (t := t) (a := a) hh hb ok' hm rfl q
  generalize hR : d_law_alike_lists.ms.drop 8 = R at *
  have c0 := ok.c
  have hl := natsD_len ds
  unfold d_law_alike_lists alkS
  dsimp only [List.getElem_cons_succ, List.getElem_cons_zero]
  by_cases h1 : t = 1 ∧ 1 < ds.length
  · obtain ⟨rfl, h1⟩ := h1
    have h1' : (1 : Int) < (ds.length : Int) := by omega
    have ga := atI_nats ha
    have s1 := set_nats (v := ds.getD a 0 + 1) ha
    have e1 : ((ds.getD a 0 + 1 : Nat) : Int) = (ds.getD a 0 : Nat) + 1 := by omega
    rw [e1] at s1
    obtain ⟨o, ho, eo⟩ : ∃ o : Nat, o < ds.length ∧ ((a : Int) + 1) % (ds.length : Int) = (o : Int) := ⟨(a + 1) % ds.length, Nat.mod_lt _ (by omega), by exact_mod_cast rfl⟩
    have hne : o ≠ a := fun e => by
      subst e
      by_cases q : o + 1 < ds.length
      · rw [Int.emod_eq_of_lt (by omega) (by omega)] at eo; omega
      · have : (o : Int) + 1 = ds.length := by omega
        rw [this, Int.emod_self] at eo; omega
    have su := sum_set ds a (ds.getD a 0 + 1) ha
    have po := set_pos (i := a) (a := ds.getD a 0 + 1) ok.g (by omega)
    have ll : (ds.set a (ds.getD a 0 + 1)).length = ds.length := List.length_set
    generalize hS : ds.set a (ds.getD a 0 + 1) = D1 at *
    have hoo : D1.getD o 0 = ds.getD o 0 := by
      rw [← hS, List.getD_eq_getElem?_getD, List.getElem?_set_ne (Ne.symm hne), ← List.getD_eq_getElem?_getD]
    have ho1 : o < D1.length := by omega
    have gb := atI_nats ho1
    have hv := po _ (getD_mem ho1)
    have s2 := set_nats (v := D1.getD o 0 - 1) ho1
    have e2 : ((D1.getD o 0 - 1 : Nat) : Int) = (D1.getD o 0 : Nat) - 1 := by omega
    rw [e2] at s2
    have su2 := sum_set D1 o (D1.getD o 0 - 1) ho1
    have ll2 : (D1.set o (D1.getD o 0 - 1)).length = D1.length := List.length_set
    have g2 : (D1.set o (D1.getD o 0 - 1)).getD o 0 = D1.getD o 0 - 1 := by
      rw [List.getD_eq_getElem?_getD, List.getElem?_set_self ho1]; rfl
    have ee : (D1.set o (D1.getD o 0 - 1)).eraseIdx o = D1.eraseIdx o := List.eraseIdx_set_eq ..
    generalize hS2 : D1.set o (D1.getD o 0 - 1) = D2 at *
    have gc := atI_nats (show o < D2.length by omega)
    have pp := pop_nats (show o < D2.length by omega) (by omega)
    have se := sum_erase D2 o (by omega)
    rw [g2] at gc pp se
    have hl1 := natsD_len D1
    have le : (D2.eraseIdx o).length + 1 = D2.length := by rw [List.length_eraseIdx_of_lt (by omega)]; omega
    have ed : ∀ p ∈ D2, p ∈ D1 ∨ p = D1.getD o 0 - 1 := fun p hp => by
      rw [← hS2] at hp
      exact List.mem_or_eq_of_mem_set hp
    generalize hv1 : ds.getD a 0 = v1 at *
    generalize hv2 : D1.getD o 0 = v2 at *
    have hpos : (0 : Int) < (ds.length : Int) := by omega
    have hmod : ∀ s, binV .mod (.v (.int ((a : Int) + 1))) (.v (.int (ds.length : Int))) s = some (.v (.int (o : Int))) := fun s => by
      have : binI .mod ((a : Int) + 1) (ds.length : Int) = some (o : Int) := by
        simp only [binI]
        rw [if_pos hpos, eo]
      simp only [binV, this, Option.map_some]
    simp [idx_bw, rdt_bw, len_bw, hl, hl1, ll, h1', ga, gb, gc, wr_own, s1, s2, pp, hmod]
    refine wIf_dec (fun h => ?_) fun h => ?_
    · have hz : v2 - 1 = 0 := by omega
      have := tail (D2.eraseIdx o) (.v (.int (o : Int))) ⟨ok.a, by omega, by omega, by have := ok.d; omega, ok.e, ok.f, fun p hp => ?_⟩
      · unfold alkS at this
        simpa [wr_own, pp, rdt_bw] using this
      · rw [ee] at hp
        exact po p (List.mem_of_mem_eraseIdx hp)
    · have := tail D2 (.v (.int (o : Int))) ⟨ok.a, by omega, by omega, by have := ok.d; omega, ok.e, ok.f, fun p hp => ?_⟩
      · unfold alkS at this
        exact this
      · rcases ed p hp with h' | h'
        · exact po p h'
        · omega
  · have tl := tail ds x9 ok
    unfold alkS at tl
    by_cases ht : (t : Int) = 1
    · have h2 : ¬ ((1 : Int) < (ds.length : Int)) := by omega
      rw [ht] at tl
      simp [rdt_bw, len_bw, hl, ht, h2]
      exact tl
    · simp [ht]
      exact tl
theorem alk_6 {k b m c many un t a : Nat} {x9 x10 : Sl} {os ds : List Nat} {mo : MO} {r : List MO} {Q : RV → List MO → Prop} (hh : Hand b mo) (hb : b + 5000 ≤ 1000000) (ok : AOk m c os ds) (hm : m ≤ 90) (ha : a < ds.length) (hos : os = List.replicate many un)
    (q : ∀ (xs ys : List Nat) (mo' : MO), Hand (b + 200) mo' → Two m xs ys → Q (.v (lsD xs ys)) (mo' :: r)) : W (finQ Q) (Mq.execs (FP PP (k + 2)) (d_law_alike_lists.ms.drop 6) (alkS m many un os ds t a .un x9 x10 mo r)) := by
  have ems : d_law_alike_lists.ms.drop 6 = d_law_alike_lists.ms[6]'(by decide) :: d_law_alike_lists.ms.drop 7 := rfl
  rw [ems, w_cons]
  have tail := fun (os' : List Nat) (ok' : AOk m c os' ds) => alk_7 (k := k) (x9 := x9) (x10 := x10) (many := many) (un := un) (t := t) (a := a) hh hb ok' hm ha q
  generalize hR : d_law_alike_lists.ms.drop 7 = R at *
  have c0 := ok.c
  have hl := natsD_len os
  have ln : os.length = many := by rw [hos, List.length_replicate]
  unfold d_law_alike_lists alkS
  dsimp only [List.getElem_cons_succ, List.getElem_cons_zero]
  by_cases h1 : t = 0 ∧ 1 < many ∧ 1 < un
  · obtain ⟨rfl, h1, h2⟩ := h1
    have h1' : (1 : Int) < (many : Int) := by omega
    have h2' : (1 : Int) < (un : Int) := by omega
    have z0 : 0 < os.length := by omega
    have ga := atI_nats z0
    have g0 : os.getD 0 0 = un := by rw [hos, List.getD_eq_getElem?_getD, List.getElem?_replicate, if_pos (by omega)]; rfl
    have s1 := set_nats (v := os.getD 0 0 + 1) z0
    have e1 : ((os.getD 0 0 + 1 : Nat) : Int) = (os.getD 0 0 : Nat) + 1 := by omega
    rw [e1] at s1
    have su := sum_set os 0 (os.getD 0 0 + 1) z0
    have po := set_pos (i := 0) (a := os.getD 0 0 + 1) ok.f (by omega)
    have ll : (os.set 0 (os.getD 0 0 + 1)).length = os.length := List.length_set
    generalize hS : os.set 0 (os.getD 0 0 + 1) = D1 at *
    have z1 : 1 < D1.length := by omega
    have g1 : D1.getD 1 0 = un := by
      rw [← hS, List.getD_eq_getElem?_getD, List.getElem?_set_ne (by decide), hos, List.getElem?_replicate, if_pos (by omega)]; rfl
    have gb := atI_nats z1
    have s2 := set_nats (v := D1.getD 1 0 - 1) z1
    have e2 : ((D1.getD 1 0 - 1 : Nat) : Int) = (D1.getD 1 0 : Nat) - 1 := by omega
    rw [e2] at s2
    have su2 := sum_set D1 1 (D1.getD 1 0 - 1) z1
    have ll2 : (D1.set 1 (D1.getD 1 0 - 1)).length = D1.length := List.length_set
    have po2 := set_pos (i := 1) (a := D1.getD 1 0 - 1) po (by omega)
    generalize hS2 : D1.set 1 (D1.getD 1 0 - 1) = D2 at *
    rw [g0] at ga s1 su
    rw [g1] at gb s2 su2
    have tl := tail D2 ⟨by omega, ok.b, by omega, by have := ok.d; omega, by have := ok.e; omega, po2, ok.g⟩
    unfold alkS at tl
    have z0' : ((0 : Nat) : Int) = 0 := rfl
    have z1' : ((1 : Nat) : Int) = 1 := rfl
    rw [z0'] at ga s1
    rw [z1'] at gb s2
    simp [idx_bw, h1', h2', ga, gb, wr_own, s1, s2]
    exact tl
  · have tl := tail os ok
    unfold alkS at tl
    by_cases ht : t = 0
    · subst ht
      by_cases hm2 : (1 : Int) < (many : Int)
      · have h2 : ¬ ((1 : Int) < (un : Int)) := by omega
        simp [hm2, decide_eq_false h2]
        exact tl
      · simp [decide_eq_false hm2]
        exact tl
    · simp [ht]
      exact tl
theorem sum_mulL (c : Nat) : ∀ zs : List Nat, (zs.map fun n => c * n).sum = c * zs.sum
  | [] => rfl
  | a :: l => by rw [List.map_cons, List.sum_cons, List.sum_cons, sum_mulL c l, Nat.mul_add]
theorem W_alike {k b m : Nat} {mo : MO} {r : List MO} {Q : RV → List MO → Prop} (hh : Hand b mo) (hb : b + 6000 ≤ 1000000) (h1 : 2 ≤ m) (h2 : m ≤ 90)
    (q : ∀ (xs ys : List Nat) (mo' : MO), Hand (b + 400) mo' → Two m xs ys → Q (.v (lsD xs ys)) (mo' :: r)) : W Q ((FP PP (k + 3)).call "_law_alike_lists" [.ref 0, .int (m : Int)] (mo :: r)) := by
  rw [c_law_alike_lists, W_run]
  have ems : d_law_alike_lists.ms = d_law_alike_lists.ms[0]'(by decide) :: d_law_alike_lists.ms[1]'(by decide) :: d_law_alike_lists.ms[2]'(by decide) :: d_law_alike_lists.ms[3]'(by decide) :: d_law_alike_lists.ms[4]'(by decide) :: d_law_alike_lists.ms[5]'(by decide) :: d_law_alike_lists.ms.drop 6 := rfl
  have sl0 : slots d_law_alike_lists.N.length ([Dt.ref 0, .int (m : Int)].map Sl.v) = [.v (.ref 0), .v (.int (m : Int)), .un, .un, .un, .un, .un, .un, .un, .un, .un] := rfl
  rw [ems, sl0]
  have tail := fun (b' : Nat) (mo' : MO) (hh' : Hand b' mo') (hb' : b' + 5000 ≤ 1000000) (many un t a : Nat) (ds : List Nat) (ok : AOk m 0 (List.replicate many un) ds) (ha : a < ds.length) => alk_6 (k := k) (x9 := .un) (x10 := .un) (many := many) (un := un) (t := t) (a := a) (r := r) (Q := Q) hh' hb' ok h2 ha rfl
  generalize hR : d_law_alike_lists.ms.drop 6 = R at *
  unfold d_law_alike_lists
  dsimp only [List.getElem_cons_succ, List.getElem_cons_zero]
  simp
  refine W_draw hh (by omega) (by omega) (by omega) fun x m1 hx h1' => ?_
  simp
  refine W_draw h1' (by omega) (by omega) (by omega) fun u m2 hu h2' => ?_
  simp
  refine W_lcE (A := Nat) (fun (n : Nat) => Dt.int (n : Int)) (fun n => .int ((1 + (u : Int)) * n)) ?_
  simp only [w_call, w_s1, w_var, w_s0, w_bin, w_cst]
  simp
  refine W_draw h2' (by omega) (by omega) (by omega) fun v m3 hv h3' => ?_
  have e1 : (1 : Int) + (x : Int) = ((1 + x : Nat) : Int) := by omega
  have e2 : (1 : Int) + (v : Int) = ((1 + v : Nat) : Int) := by omega
  have e3 : (1 : Int) + (u : Int) = ((1 + u : Nat) : Int) := by omega
  simp
  rw [e1, e2]
  refine W_split (whole := 1 + x) (many := 1 + v) h3' (by omega) (by omega) (by omega) (by omega) fun zs m4 h4' k1 k2 k3 => ?_
  refine ⟨zs, srcOf.nl, by omega, rfl, rfl, fun z hz => ?_, ?_⟩
  · have hz1 : z ≤ 1 + x := by rw [← k2]; exact mem_le hz
    have mz : ∀ s, binV .mul (.v (.int (1 + (u : Int)))) (.v (.int (z : Int))) s = some (.v (.int ((1 + (u : Int)) * z))) := fun s => v_mulO (Sm.bits (.of40 (by omega)) (.of40 (by omega)))
    simp [wipeS, backS, mz]
  have zl : (zs.map fun n => (1 + u) * n).length = zs.length := List.length_map _
  have zm : (zs.map fun (n : Nat) => Dt.int ((1 + (u : Int)) * n)) = natsD (zs.map fun n => (1 + u) * n) := by
    unfold natsD; rw [List.map_map]
    refine List.map_congr_left fun n _ => ?_
    show Dt.int _ = Dt.int (((1 + u) * n : Nat) : Int)
    rw [Int.natCast_mul, Int.natCast_add]; rfl
  have zsu := sum_mulL (1 + u) zs
  have zp : ∀ p ∈ zs.map fun n => (1 + u) * n, 1 ≤ p := fun p hp => by
    obtain ⟨n, hn, rfl⟩ := List.mem_map.mp hp
    exact Nat.mul_pos (by omega) (k3 n hn)
  rw [zm]
  generalize (zs.map fun n => (1 + u) * n) = ds at *
  have ml : ∀ s, binV .mul (.nl [.int (1 + (u : Int))]) (.v (.int ((1 + x : Nat) : Int))) s = some (.nl (natsD (List.replicate (1 + x) (1 + u)))) := by
    have e := mul_nl (1 + u) (1 + x) (by omega)
    rw [← e3] at e
    exact e
  have ok : AOk m 0 (List.replicate (1 + x) (1 + u)) ds := by
    have hr : (List.replicate (1 + x) (1 + u)).sum = (1 + x) * (1 + u) := by rw [List.sum_replicate_nat]
    refine ⟨by rw [List.length_replicate]; omega, by omega, by rw [List.length_replicate]; omega, by rw [hr, zsu, k2, Nat.mul_comm], ?_, fun p hp => by rw [List.eq_of_mem_replicate hp]; omega, zp⟩
    rw [hr, List.length_replicate, Nat.mul_comm]
    exact Nat.mul_le_mul_right _ (by omega)
  have tl := fun (t a : Nat) (mo' : MO) (b' : Nat) hh' hb' ha => tail b' mo' hh' hb' (1 + x) (1 + u) t a ds ok ha
  have hl := natsD_len ds
  have dl : 1 ≤ ds.length := ok.b
  have dl2 : ds.length ≤ 90 := by have := ok.c; omega
  generalize List.replicate (1 + x) (1 + u) = os at *
  unfold alkS at tl
  rw [← e1, ← e3] at tl
  rw [← e1] at ml
  simp [ml]
  refine W_draw h4' (by omega) (by omega) (by omega) fun t m5 ht h5' => ?_
  simp [len_bw, hl]
  refine W_draw h5' (by omega) (by omega) (by omega) fun a m6 ha h6' => ?_
  simp
  exact tl t a m6 _ h6' (by omega) (by omega) fun xs ys mo' hm' tw => q xs ys mo' (hm'.mono (by omega)) tw
end K38

namespace K38
open PySem L2 Mq
/-! ### units of evenings, by the program -/
def evq (c : Nat) (os ds : List Rat) : Dt := .ins c ["owed", "due"] [.tup (os.map fr), .tup (ds.map fr)]
theorem fq_o {c : Nat} {os ds : List Rat} {s : SS} : fldV (.v (evq c os ds)) "owed" s = some (.tup (os.map fr)) := lk1
theorem fq_d {c : Nat} {os ds : List Rat} {s : SS} : fldV (.v (evq c os ds)) "due" s = some (.tup (ds.map fr)) := lk2
theorem raw_ok (k : Nat) (st : List MO) (os ds : List Rat) : (FP PP (k + 1)).make "RawEvening" [.tup (os.map fr), .tup (ds.map fr)] st = .ok (.v (evq 1 os ds)) st := by
  rw [n_RawEvening]
  unfold mkI
  unfold evq
  generalize Dt.tup (os.map fr) = A
  generalize Dt.tup (ds.map fr) = B
  have e : Mq.runI (FP PP k) d_RawEvening__init_ 1 [A, B] st = .ok (["owed", "due"], [A, B]) st := by
    unfold Mq.runI d_RawEvening__init_
    have sl0 : slots 3 (Sl.oi 1 [] [] :: [A, B].map Sl.v) = [.oi 1 [] [], .v A, .v B] := rfl
    show finI 1 (Mq.execs _ [_, _] ⟨slots 3 _, st⟩) = _
    rw [sl0]
    have n1 : putN "owed" [] = ([("owed" : Str)] : List Str) := rfl
    have n2 : putN "due" [("owed" : Str)] = ([("owed" : Str), ("due" : Str)] : List Str) := by decide +kernel
    have d2 : ∀ x y : Dt, putD "due" y [("owed" : Str)] [x] = [x, y] := fun x y => by
      unfold putD
      rw [if_neg (by decide +kernel)]; rfl
    simp [var_oi, wr_oi, n1, n2, d2, putD, finI, oiAt]
    decide +kernel
  rw [e]
theorem mirr_ok (k : Nat) (st : List MO) (c : Nat) (os ds : List Rat) : (FP PP (k + 2)).call "mirrored" [evq c os ds] st = .ok (.v (evq 1 ds os)) st := by
  rw [c_mirrored]
  refine W.toEq ?_
  rw [go_mirrored]
  have e := raw_ok k st ds os
  have h1 : ∀ s, fldV (.v (evq c os ds)) "owed" s = some (.tup (os.map fr)) := fun s => fq_o
  have h2 : ∀ s, fldV (.v (evq c os ds)) "due" s = some (.tup (ds.map fr)) := fun s => fq_d
  generalize evq c os ds = E at *
  generalize evq 1 ds os = F at *
  generalize Dt.tup (os.map fr) = A at *
  generalize Dt.tup (ds.map fr) = B at *
  simp [h1, h2, e]
theorem div_mk {p q : Rat} (h0 : 0 < q) : mkRat (p.num * q.den) (p.den * q.num.toNat) = p / q := by
  have t0 : 0 < q.num := num_posR h0
  have ep := num_eq p
  have eq := num_eq q
  have d0 : (p.den : Rat) ≠ 0 := fun z => p.den_nz (Rat.natCast_eq_zero_iff.mp z)
  have d1 : (q.den : Rat) ≠ 0 := fun z => q.den_nz (Rat.natCast_eq_zero_iff.mp z)
  have u0 : q ≠ 0 := fun z => by subst z; exact absurd h0 (by decide)
  have tn : ((q.num.toNat : Nat) : Rat) = (q.num : Rat) := by
    rw [← Rat.intCast_natCast]
    congr 1
    omega
  rw [Rat.mkRat_eq_div, Rat.intCast_mul, Rat.intCast_natCast, Rat.natCast_mul, tn, ep, eq]
  generalize (p.den : Rat) = x at *
  generalize (q.den : Rat) = y at *
  grind
theorem over_ok (k : Nat) (st : List MO) (p q : Rat) (h1 : Sq p) (h2 : Sq q) (h0 : 0 < q) : (FP PP (k + 3)).call "over" [fr p, fr q] st = .ok (.v (fr (p / q))) st := by
  have t0 : 0 < q.num := num_posR h0
  have hb : 0 < p.den * q.num.toNat := Nat.mul_pos p.den_pos (by omega)
  have hm : Md ((p.den * q.num.toNat : Nat) : Int) := by
    have a := h1.d
    have b := h2.n
    have : p.den * q.num.toNat < 2 ^ 120 * 2 ^ 160 := Nat.mul_lt_mul'' a (by omega)
    show ((p.den * q.num.toNat : Nat) : Int).natAbs < 2 ^ 290
    rw [Int.natAbs_natCast]
    exact Nat.lt_trans this (by decide)
  have e := made_ok k st (p.num * q.den) (p.den * q.num.toNat) hb hm
  rw [div_mk h0] at e
  have e2 : ((p.den * q.num.toNat : Nat) : Int) = (p.den : Int) * q.num := by
    rw [Int.natCast_mul]
    congr 1
    omega
  rw [e2] at e
  have a := h1.sn
  have b := h2.sn
  have c := h1.sd
  have d := h2.sd
  rw [c_over]
  refine W.toEq ?_
  rw [go_over]
  generalize p / q = r at *
  unfold fr at e ⊢
  simp [v_mulO (a.bits d), v_mulO (c.bits b), c_made, e]
theorem mu_inj {u : Rat} (hu : 0 < u) {x y : Nat} : mu u x = mu u y ↔ x = y := by
  constructor
  · intro h
    unfold mu at h
    have u0 : u ≠ 0 := fun z => by subst z; exact absurd hu (by decide)
    have : (x : Rat) = (y : Rat) := by
      generalize (x : Rat) = a at *
      generalize (y : Rat) = b at *
      grind
    exact Rat.natCast_inj.mp this
  · rintro rfl; rfl
theorem mu_div {u : Rat} (hu : 0 < u) {x y : Nat} (hx : 0 < x) : mu u y / mu u x = mkRat y x := by
  have u0 : u ≠ 0 := fun z => by subst z; exact absurd hu (by decide)
  have x0 : (x : Rat) ≠ 0 := fun z => by have := Rat.natCast_eq_zero_iff.mp z; omega
  rw [Rat.mkRat_eq_div]
  unfold mu
  rw [Rat.intCast_natCast]
  generalize (x : Rat) = a at *
  generalize (y : Rat) = b at *
  have : a * u ≠ 0 := by grind
  grind
theorem den_one {x y : Nat} (hx : 0 < x) : ((mkRat (y : Int) x).den : Int) = 1 ↔ x ∣ y := by
  rw [mk_den hx]
  have hg : Int.gcd (y : Int) (x : Int) = Nat.gcd y x := rfl
  rw [hg, ← Int.natCast_ediv]
  have gp : 0 < Nat.gcd y x := Nat.gcd_pos_of_pos_right _ hx
  constructor
  · intro h
    have h : x / Nat.gcd y x = 1 := by exact_mod_cast h
    have : x = Nat.gcd y x := by
      have := Nat.div_mul_cancel (Nat.gcd_dvd_right y x)
      rw [h, Nat.one_mul] at this
      exact this.symm
    rw [this]; exact Nat.gcd_dvd_left y x
  · intro h
    rw [Nat.gcd_eq_right h, Nat.div_self hx]; rfl
theorem eq_fr {s : SS} (p q : Rat) : cmpV .eq (.v (fr p)) (.v (fr q)) s = some (decide (p = q)) := by
  rw [c_eqD (flat_fr 39 p) (flat_fr 39 q) rfl rfl, deq_fr]
/-- all of the one side alike, those of the other side multiples -/
def isU (xs ys : List Nat) : Bool := (xs.all fun x => decide (x = xs.getD 0 0)) && ys.all fun y => decide (xs.getD 0 0 ∣ y)
theorem bif_allB {A : Type} {p : A → Bool} {xs : List A} {s : SS} : bif1 "all" (.nl (xs.map fun x => Dt.bl (p x))) s = some (.v (.bl (xs.all p))) := b_allP
theorem isunit_ok (k : Nat) (st : List MO) {u : Rat} {N : Nat} (hu : Un u N) {xs ys : List Nat} (hx : xs ≠ []) (h1 : ∀ x ∈ xs, 0 < x ∧ x ≤ N) (h2 : ∀ y ∈ ys, y ≤ N) (l1 : xs.length ≤ 1000) (l2 : ys.length ≤ 1000) :
    (FP PP (k + 4)).call "is_unit" [.tup ((xs.map (mu u)).map fr), .tup ((ys.map (mu u)).map fr)] st = .ok (.v (.bl (isU xs ys))) st := by
  rw [c_is_unit]
  refine W.toEq ?_
  rw [go_is_unit]
  cases xs with
  | nil => exact absurd rfl hx
  | cons x0 xs =>
    obtain ⟨p0, n0⟩ := h1 x0 (List.mem_cons_self ..)
    have hx0 : ∀ s, idxV (.v (.tup (((x0 :: xs).map (mu u)).map fr))) (.v (.int 0)) s = some (.v (fr (mu u x0))) := fun s => congrArg (Option.map RV.v) (at_n (k := 0) rfl rfl)
    have ov : ∀ y ∈ ys, (FP PP (k + 3)).call "over" [fr (mu u y), fr (mu u x0)] st = .ok (.v (fr (mkRat (y : Int) x0))) st := fun y hy => by
      rw [← mu_div hu.p p0]
      exact over_ok k st _ _ (hu.s y (h2 y hy)) (hu.s x0 n0) (mu_pos hu.p p0)
    have i1 : ∀ y s, idxV (.v (fr (mkRat (y : Int) x0))) (.v (.int 1)) s = some (.v (.int ((mkRat (y : Int) x0).den : Int))) := fun y s => rfl
    have r1 : ∀ s, rds s (.v (.tup (((x0 :: xs).map (mu u)).map fr))) = some ((x0 :: xs).map fun x => fr (mu u x)) := fun s => by
      show some (((x0 :: xs).map (mu u)).map fr) = _
      rw [List.map_map]; rfl
    have r2 : ∀ s, rds s (.v (.tup ((ys.map (mu u)).map fr))) = some (ys.map fun x => fr (mu u x)) := fun s => by
      show some ((ys.map (mu u)).map fr) = _
      rw [List.map_map]; rfl
    generalize hA : Dt.tup (((x0 :: xs).map (mu u)).map fr) = A at *
    generalize hB : Dt.tup ((ys.map (mu u)).map fr) = B at *
    have nA : ∀ n, A ≠ .ref n := fun n z => by rw [← hA] at z; cases z
    have nB : ∀ n, B ≠ .ref n := fun n z => by rw [← hB] at z; cases z
    simp only [w_cons, w_ret, w_bool, w_b2, w_b1, w_bif1]
    rw [P_lcs (d := A) (x0 :: xs) (fun x => fr (mu u x)) (fun x => .bl (decide (x = x0))) (by simp [slots]) (r1 _) nA (by omega) rfl rfl fun z hz => by simp [wipeS, backS, hx0, eq_fr, mu_inj hu.p]]
    rw [W_ok, bif_allB]
    have fin : isU (x0 :: xs) ys = (((x0 :: xs).all fun x => decide (x = x0)) && ys.all fun y => decide (x0 ∣ y)) := rfl
    rw [fin]
    generalize ((x0 :: xs).all fun x => decide (x = x0)) = b1
    cases b1 with
    | false => simp
    | true =>
      simp only [wOp_s, wB_b, wIf_t, w_b1, w_bif1]
      rw [P_lcs (d := B) ys (fun x => fr (mu u x)) (fun y => .bl (decide (x0 ∣ y))) (by simp) (r2 _) nB (by omega) rfl rfl fun z hz => by
        have e := den_one (y := z) p0
        simp [wipeS, backS, hx0, ov z hz, i1, e]]
      rw [W_ok, bif_allB]
      simp
/-- the unit of whole numbers: whether it is the owers' side, the number -/
def uof (xs ys : List Nat) : Option (Bool × Nat) := if isU xs ys then some (true, xs.getD 0 0) else if isU ys xs then some (false, ys.getD 0 0) else none
def sideW (b : Bool) : Dt := .str (if b then "owed" else "due")
def tolD (u : Rat) : Option (Bool × Nat) → Dt
  | none => .non
  | some (b, n) => .tup [sideW b, fr (mu u n)]
theorem unitof_ok (k : Nat) (st : List MO) (c : Nat) {u : Rat} {N : Nat} (hu : Un u N) {xs ys : List Nat} (hx : xs ≠ []) (hy : ys ≠ []) (h1 : ∀ x ∈ xs, 0 < x ∧ x ≤ N) (h2 : ∀ y ∈ ys, 0 < y ∧ y ≤ N) (l1 : xs.length ≤ 1000) (l2 : ys.length ≤ 1000) :
    (FP PP (k + 5)).call "unit_of" [evq c (xs.map (mu u)) (ys.map (mu u))] st = .ok (.v (tolD u (uof xs ys))) st := by
  rw [c_unit_of]
  refine W.toEq ?_
  rw [go_unit_of]
  have e1 := isunit_ok k st hu hx h1 (fun y hy => (h2 y hy).2) l1 l2
  have e2 := isunit_ok k st hu hy h2 (fun y hy => (h1 y hy).2) l2 l1
  have i1 : ∀ s, idxV (.v (.tup ((xs.map (mu u)).map fr))) (.v (.int 0)) s = some (.v (fr (mu u (xs.getD 0 0)))) := fun s => by
    cases xs with
    | nil => exact absurd rfl hx
    | cons a l => exact congrArg (Option.map RV.v) (at_n (k := 0) rfl rfl)
  have i2 : ∀ s, idxV (.v (.tup ((ys.map (mu u)).map fr))) (.v (.int 0)) s = some (.v (fr (mu u (ys.getD 0 0)))) := fun s => by
    cases ys with
    | nil => exact absurd rfl hy
    | cons a l => exact congrArg (Option.map RV.v) (at_n (k := 0) rfl rfl)
  have f1 : ∀ s, fldV (.v (evq c (xs.map (mu u)) (ys.map (mu u)))) "owed" s = some (.tup ((xs.map (mu u)).map fr)) := fun s => fq_o
  have f2 : ∀ s, fldV (.v (evq c (xs.map (mu u)) (ys.map (mu u)))) "due" s = some (.tup ((ys.map (mu u)).map fr)) := fun s => fq_d
  have un : uof xs ys = if isU xs ys then some (true, xs.getD 0 0) else if isU ys xs then some (false, ys.getD 0 0) else none := rfl
  rw [un]
  generalize evq c (xs.map (mu u)) (ys.map (mu u)) = E at *
  generalize Dt.tup ((xs.map (mu u)).map fr) = A at *
  generalize Dt.tup ((ys.map (mu u)).map fr) = B at *
  generalize xs.getD 0 0 = n1 at *
  generalize ys.getD 0 0 = n2 at *
  generalize isU xs ys = b1 at *
  generalize isU ys xs = b2 at *
  cases b1 <;> cases b2 <;> simp [f1, f2, e1, e2, i1, i2, tolD, sideW]
end K38

namespace K38
open PySem L2 Mq
/-! ### units by the law -/
theorem eqR {a b : RV} {x y : Dt} {s : SS} (h1 : rdD s a = some x) (h2 : rdD s b = some y) (hx : flat 40 x = true) (hy : flat 40 y = true) : cmpV .eq a b s = some (deq x y) := by
  unfold cmpV
  split <;> simp_all
theorem deq_nats : ∀ xs ys : List Nat, deqL (natsD xs) (natsD ys) = decide (xs = ys)
  | [], [] => rfl
  | [], y :: ys => by simp [natsD, deqL]
  | x :: xs, [] => by simp [natsD, deqL]
  | x :: xs, y :: ys => by
    have := deq_nats xs ys
    unfold natsD at *
    rw [List.map_cons, List.map_cons, deqL, this, deq]
    by_cases h : x = y
    · subst h; simp
    · have : ¬ (x : Int) = (y : Int) := by omega
      simp [h, this]
theorem flat_nats (n : Nat) (xs : List Nat) : flatL n (natsD xs) = true := by
  unfold natsD
  exact flatL_map (fun x => by cases n <;> rfl) xs
theorem eq_nats {xs ys : List Nat} {s : SS} : cmpV .eq (.v (.lst (natsD xs))) (.nl (natsD ys)) s = some (decide (xs = ys)) := by
  rw [eqR (x := .lst (natsD xs)) (y := .lst (natsD ys)) rfl rfl (flat_nats 39 xs) (flat_nats 39 ys), ← deq_nats]; rfl
theorem eq_nil {xs : List Nat} {s : SS} : cmpV .eq (.nl (natsD xs)) (.nl []) s = some (decide (xs = [])) := by
  rw [eqR (x := .lst (natsD xs)) (y := .lst (natsD [])) rfl rfl (flat_nats 39 xs) (flat_nats 39 []), ← deq_nats]; rfl
theorem isU_iff {xs ys : List Nat} : isU xs ys = (decide (xs = List.replicate xs.length (xs.getD 0 0)) && decide ((ys.filter fun (y : Nat) => !decide ((y : Int) % ((xs.getD 0 0 : Nat) : Int) = 0)) = [])) := by
  unfold isU
  congr 1
  · rw [Bool.eq_iff_iff, List.all_eq_true, decide_eq_true_eq]
    constructor
    · intro h
      exact List.eq_replicate_iff.mpr ⟨rfl, fun b hb => of_decide_eq_true (h b hb)⟩
    · intro h x hx
      rw [h] at hx
      exact decide_eq_true (List.eq_of_mem_replicate hx)
  · rw [Bool.eq_iff_iff, List.all_eq_true, decide_eq_true_eq, List.filter_eq_nil_iff]
    constructor
    · intro h y hy
      have := of_decide_eq_true (h y hy)
      have : ((xs.getD 0 0 : Nat) : Int) ∣ (y : Int) := Int.natCast_dvd_natCast.mpr this
      have e := Int.emod_eq_zero_of_dvd this
      rw [e]; decide
    · intro h y hy
      have := h y hy
      simp only [Bool.not_eq_true', decide_eq_false_iff_not, Classical.not_not] at this
      exact decide_eq_true (Int.natCast_dvd_natCast.mp (Int.dvd_of_emod_eq_zero this))
theorem mod_p {a b : Int} {s : SS} (h : 0 < b) : binV .mod (.v (.int a)) (.v (.int b)) s = some (.v (.int (a % b))) := by
  have : binI .mod a b = some (a % b) := by simp only [binI]; rw [if_pos h]
  simp only [binV, this, Option.map_some]
def lunD : Option (Bool × Nat) → Dt
  | none => .non
  | some (b, n) => .tup [sideW b, .int (n : Int)]
def lunT : ME := .bool true [.cmp .eq (.idx (.var 0) (.var 1)) (.bin .mul (.lst [.var 2]) (.bif "len" [.idx (.var 0) (.var 1)])), .cmp .eq (.lc (.var 3) (.n 3) (.seq true (.idx (.var 0) (.bin .sub (.cst (.int 1)) (.var 1)))) (some (.cmp .ne (.bin .mod (.bif "int" [.var 3]) (.var 2)) (.cst (.int 0)))) [3]) (.lst [])]
/-- a turn -/
theorem lun_cond {L : Fns} {s : SS} {st : List MO} {LS : Dt} {i : Nat} {Q : RV → SS → Prop} {xs ys : List Nat} (hx : xs ≠ []) (h0 : ∀ x ∈ xs, 0 < x) (l1 : xs.length ≤ 1000) (l2 : ys.length ≤ 1000) (h1 : ∀ s, idxV (.v LS) (.v (.int (i : Int))) s = some (.v (.lst (natsD xs)))) (h2 : ∀ s, idxV (.v LS) (.v (.int (1 - (i : Int)))) s = some (.v (.lst (natsD ys)))) (x3 : Sl) (hx3 : x3 = .un ∨ ∃ d, x3 = .v d)
    (q : ∀ x3, (x3 = .un ∨ ∃ d, x3 = Sl.v d) → Q (.v (.bl (isU xs ys))) ⟨[.v LS, .v (.int (i : Int)), .v (.int ((xs.getD 0 0 : Nat) : Int)), x3], st⟩) :
    W Q (ev L lunT ⟨[.v LS, .v (.int (i : Int)), .v (.int ((xs.getD 0 0 : Nat) : Int)), x3], st⟩) := by
  have ml : ∀ s, binV .mul (.nl [.int ((xs.getD 0 0 : Nat) : Int)]) (.v (.int (xs.length : Int))) s = some (.nl (natsD (List.replicate xs.length (xs.getD 0 0)))) := mul_nl (xs.getD 0 0) xs.length l1
  have p0 : 0 < xs.getD 0 0 := by
    cases xs with
    | nil => exact absurd rfl hx
    | cons a l => exact h0 a (List.mem_cons_self ..)
  rw [isU_iff] at q
  generalize xs.getD 0 0 = n at *
  have hn : (0 : Int) < (n : Int) := by omega
  unfold lunT
  simp [h1, ml, len_nats, -b_len, eq_nats]
  refine wIf_dec (fun h => ?_) fun h => ?_
  · rw [decide_eq_true h] at q
    rw [P_lcsC (d := .lst (natsD ys)) ys (fun (y : Nat) => Dt.int (y : Int)) (fun (y : Nat) => !decide ((y : Int) % (n : Int) = 0)) (fun (y : Nat) => .int (y : Int)) (by simp [h2]) rfl (fun _ z => nomatch z) (by omega) (by rcases hx3 with rfl | ⟨d, rfl⟩ <;> rfl) (by rcases hx3 with rfl | ⟨d, rfl⟩ <;> rfl) fun z hz => by
      by_cases hz0 : (z : Int) % (n : Int) = 0 <;> rcases hx3 with rfl | ⟨d, rfl⟩ <;> simp [wipeS, mod_p hn, hz0, backS]]
    simp
    have e := @eq_nil (ys.filter fun (y : Nat) => !decide ((y : Int) % (n : Int) = 0))
    unfold natsD at e
    rw [e]
    simpa using q x3 hx3
  · rw [decide_eq_false h] at q
    exact q x3 hx3
def lunP (LS : Dt) (st : List MO) (xs ys : List Nat) (j : Nat) (s : SS) : Prop := ∃ (y1 y2 x3 : Sl), s = ⟨[.v LS, y1, y2, x3], st⟩ ∧ (x3 = .un ∨ ∃ d, x3 = .v d) ∧ (1 ≤ j → isU xs ys = false) ∧ (2 ≤ j → isU ys xs = false)
theorem lun_ok (k : Nat) (st : List MO) {xs ys : List Nat} (hx : xs ≠ []) (hy : ys ≠ []) (h0 : ∀ x ∈ xs, 0 < x) (h1 : ∀ x ∈ ys, 0 < x) (l1 : xs.length ≤ 1000) (l2 : ys.length ≤ 1000) : (FP PP (k + 1)).call "_law_unit_of" [lsD xs ys] st = .ok (.v (lunD (uof xs ys))) st := by
  rw [c_law_unit_of]
  refine W.toEq ?_
  have ems : d_law_unit_of.ms = [.forr (.n 1) (.rng [.cst (.int 2)]) [.asg 2 (.idx (.idx (.var 0) (.var 1)) (.cst (.int 0))), .ifs lunT [.ret (.tup [.idx (.lst [.cst (.str "owed"), .cst (.str "due")]) (.var 1), .var 2])] []], .ret (.cst .non)] := rfl
  have sl0 : slots d_law_unit_of.N.length ([lsD xs ys].map Sl.v) = [.v (lsD xs ys), .un, .un, .un] := rfl
  rw [W_run, ems, sl0]
  have i0 : ∀ s, idxV (.v (lsD xs ys)) (.v (.int 0)) s = some (.v (.lst (natsD xs))) := fun _ => rfl
  have i1 : ∀ s, idxV (.v (lsD xs ys)) (.v (.int 1)) s = some (.v (.lst (natsD ys))) := fun _ => rfl
  have f0 : ∀ s, idxV (.v (.lst (natsD xs))) (.v (.int 0)) s = some (.v (.int ((xs.getD 0 0 : Nat) : Int))) := fun s => by
    cases xs with
    | nil => exact absurd rfl hx
    | cons a l => exact congrArg (Option.map RV.v) (at_n (k := 0) rfl rfl)
  have f1 : ∀ s, idxV (.v (.lst (natsD ys))) (.v (.int 0)) s = some (.v (.int ((ys.getD 0 0 : Nat) : Int))) := fun s => by
    cases ys with
    | nil => exact absurd rfl hy
    | cons a l => exact congrArg (Option.map RV.v) (at_n (k := 0) rfl rfl)
  have un : uof xs ys = if isU xs ys then some (true, xs.getD 0 0) else if isU ys xs then some (false, ys.getD 0 0) else none := rfl
  generalize lsD xs ys = LS at *
  simp
  refine W_rng 2 (lunP LS st xs ys) (by simp) (by decide) ⟨.un, .un, .un, rfl, .inl rfl, fun h => by omega, fun h => by omega⟩ ?_ ?_
  · rintro s ⟨y1, y2, x3, rfl, hx3, a, b⟩
    rw [un, a (by omega), b (by omega)]
    simp [lunD]
  · rintro j s hj ⟨y1, y2, x3, rfl, hx3, a, b⟩
    have : j = 0 ∨ j = 1 := by omega
    rcases this with rfl | rfl
    · have c := fun (Q : RV → SS → Prop) => lun_cond (L := FP PP k) (s := ⟨[], st⟩) (st := st) (LS := LS) (i := 0) (Q := Q) hx h0 l1 l2 (by simpa using i0) (by simpa using i1) x3 hx3
      have z0 : ((0 : Nat) : Int) = 0 := rfl
      rw [z0] at c ⊢
      generalize xs.getD 0 0 = n at *
      simp [i0, f0]
      refine c _ fun x3' hx3' => ?_
      cases hU : isU xs ys with
      | true =>
        rw [hU] at un
        simp
        rw [un]
        simp [lunD, sideW]
      | false =>
        simp
        exact ⟨_, _, x3', rfl, hx3', fun _ => hU, fun h => by omega⟩
    · have c := fun (Q : RV → SS → Prop) => lun_cond (L := FP PP k) (s := ⟨[], st⟩) (st := st) (LS := LS) (i := 1) (Q := Q) hy h1 l2 l1 (by simpa using i1) (by simpa using i0) x3 hx3
      have z0 : ((1 : Nat) : Int) = 1 := rfl
      rw [z0] at c ⊢
      have a := a (by omega)
      generalize ys.getD 0 0 = n at *
      simp [i1, f1]
      refine c _ fun x3' hx3' => ?_
      cases hU : isU ys xs with
      | true =>
        rw [a, hU] at un
        simp
        rw [un]
        simp [lunD, sideW]
      | false =>
        simp
        exact ⟨_, _, x3', rfl, hx3', fun _ => a, fun _ => hU⟩
theorem told_ok (k : Nat) (st : List MO) {u : Rat} (hu : 0 < u) (hn : Sm u.num) (hd : u.den < 2 ^ 190) (o : Option (Bool × Nat)) (ho : ∀ b n, o = some (b, n) → n < 2 ^ 100) : (FP PP (k + 3)).call "_law_told_unit" [lunD o, fr u] st = .ok (.v (tolD u o)) st := by
  rw [c_law_told_unit]
  refine W.toEq ?_
  rw [go_law_told_unit]
  cases o with
  | none => simp [lunD, tolD]
  | some bn =>
    obtain ⟨b, n⟩ := bn
    have n0 := num_posR hu
    have e1 : mu u n = mkRat ((n : Int) * u.num) u.den := by
      rw [Rat.mkRat_eq_div, Rat.intCast_mul, num_eq u]
      unfold mu
      have d0 : (u.den : Rat) ≠ 0 := fun z => u.den_nz (Rat.natCast_eq_zero_iff.mp z)
      rw [Rat.intCast_natCast]
      generalize (u.den : Rat) = d at *
      grind
    have am : (FP PP (k + 2)).call "_law_amount" [.int ((n : Int) * u.num), .int (u.den : Int)] st = .ok (.v (fr (mu u n))) st := by
      rw [e1]
      exact W.toEq (W_amount (Int.mul_nonneg (by omega) (by omega)) u.den_pos hd ⟨rfl, rfl⟩)
    have vm : ∀ s, binV .mul (.v (.int (n : Int))) (.v (.int u.num)) s = some (.v (.int ((n : Int) * u.num))) := fun s => v_mulO (Sm.bits (Nat.lt_of_lt_of_le (show (n : Int).natAbs < 2 ^ 100 from ho b n rfl) (Nat.pow_le_pow_right (by decide) (by decide))) hn)
    have tl : tolD u (some (b, n)) = .tup [sideW b, fr (mu u n)] := rfl
    have ll : lunD (some (b, n)) = .tup [sideW b, .int (n : Int)] := rfl
    rw [tl, ll]
    generalize mu u n = r at *
    generalize sideW b = SW
    unfold fr at am ⊢
    simp [vm, am]
end K38

namespace K38
open PySem L2 Mq
/-! ### flags -/
theorem eq_bb (a b : Bool) (s : SS) : cmpV .eq (.v (.bl a)) (.v (.bl b)) s = some (a == b) := by
  rw [c_eqD rfl rfl rfl rfl]; rfl
theorem flagC (k : Nat) (st : List MO) (a : Bool) : (FP PP (k + 1)).call "_law_flag" [.bl a, .bl a] st = .ok (.v (.bl true)) st := by
  rw [c_law_flag]
  refine W.toEq ?_
  rw [go_law_flag]
  simp [eq_bb]
end K38

namespace K38
open PySem L2 Mq
/-! ### the law -/
theorem W_some {k b m : Nat} {mo : MO} {r : List MO} {Q : RV → List MO → Prop} (hh : Hand b mo) (hb : b + 100000 ≤ 900000) (h1 : 2 ≤ m) (h2 : m ≤ 90)
    (q : ∀ (xs ys : List Nat) (mo' : MO), Hand (b + 60000) mo' → Two m xs ys → Q (.v (lsD xs ys)) (mo' :: r)) : W Q ((FP PP (k + 100)).call "_law_some_lists" [.ref 0, .int (m : Int)] (mo :: r)) := by
  rw [c_law_some_lists, go_law_some_lists]
  simp
  refine W_draw hh (by omega) (by omega) (by omega) fun x m1 hx h1' => ?_
  simp
  refine wIf_dec (fun h => ?_) fun h => ?_
  · refine W_alike h1' (by omega) h1 h2 fun xs ys m2 h2' t => ?_
    simp
    exact q xs ys m2 (h2'.mono (by omega)) t
  · refine W_lists m m (k + 99) (b + 1) m1 _ (Nat.le_refl _) (by omega) h1' (by omega) h1 h2 fun xs ys m2 h2' t => ?_
    simp
    exact q xs ys m2 (h2'.mono (by have := t.c; omega)) t
theorem flat_tol (u : Rat) (o : Option (Bool × Nat)) : flat 40 (tolD u o) = true := by
  cases o with
  | none => rfl
  | some bn =>
    obtain ⟨b, n⟩ := bn
    cases b
    · show (PyData.strOk "due" && (flat 39 (fr (mu u n)) && true)) = true
      rw [flat_fr 38]; decide +kernel
    · show (PyData.strOk "owed" && (flat 39 (fr (mu u n)) && true)) = true
      rw [flat_fr 38]; decide +kernel
theorem fr_ut {p q : Nat} (h : Ut p q) : utD p q = fr (mkRat p q) := by
  unfold fr utD
  rw [mk_num h.q0, mk_den h.q0, h.g]
  simp
theorem timesP_ok (k : Nat) (st : List MO) (p q : Rat) (h1 : Sq p) (h2 : Sq q) : runD (FP PP (k + 2)) d_times [fr p, fr q] st = .ok (.v (fr (p * q))) st := by
  have hb : 0 < p.den * q.den := Nat.mul_pos p.den_pos q.den_pos
  have e := made_ok k st (p.num * q.num) (p.den * q.den) hb (h1.md h2)
  rw [← Rat.mul_def'] at e
  have e2 : ((p.den * q.den : Nat) : Int) = (p.den : Int) * (q.den : Int) := by simp
  rw [e2] at e
  have a := h1.sn
  have b := h2.sn
  have c := h1.sd
  have d := h2.sd
  unfold runD d_times
  generalize p * q = r at *
  unfold fr at e ⊢
  simp [slots, c_made, a, b, c, d, e]
/-! ### one unit for two -/
def lw (p q : Rat) : Nat := Nat.lcm p.den q.den
def ca (p : Rat) (L : Nat) : Nat := p.num.natAbs * (L / p.den)
theorem mk_un {a b : Nat} (ha : 0 < a) (hb : 0 < b) (ha2 : a < 100000) (hb2 : b < 100000) : Un (mkRat (a : Int) b) (2 ^ 60) := by
  have pos : (0 : Rat) < mkRat (a : Int) b := by
    rw [mk_nat]
    have h1 : (0 : Rat) < ((a : Int) : Rat) := by
      have := Rat.natCast_pos.mpr ha
      exact_mod_cast this
    have h2 : (0 : Rat) < (b : Rat) := Rat.natCast_pos.mpr hb
    rw [Rat.div_def]
    exact Rat.mul_pos h1 (Rat.inv_pos.mpr h2)
  refine ⟨pos, fun n hn => ?_⟩
  have mz : Mz b (n * a) (mu (mkRat (a : Int) b) n) := by
    rw [mu_mk hb, mk_nat]
    refine ⟨(n : Int) * a, rfl, ?_⟩
    rw [Int.natAbs_mul]; simp
  have : n * a ≤ 2 ^ 60 * 100000 := Nat.mul_le_mul hn (by omega)
  exact mz.sq hb (by omega) (by omega)
theorem alike_ok (k : Nat) (st : List MO) (E : Dt) (u : Rat) (o : Option (Bool × Nat)) (e : (FP PP k).call "unit_of" [E] st = .ok (.v (tolD u o)) st) (ho : o ≠ none) : (FP PP (k + 1)).call "is_alike" [E] st = .ok (.v (.bl true)) st := by
  rw [c_is_alike]
  refine W.toEq ?_
  rw [go_is_alike]
  cases o with
  | none => exact absurd rfl ho
  | some bn =>
    obtain ⟨b, n⟩ := bn
    have tl : tolD u (some (b, n)) = .tup [sideW b, fr (mu u n)] := rfl
    rw [tl] at e
    simp [e]
theorem unlike_ok (k : Nat) (st : List MO) (E : Dt) (u : Rat) (o : Option (Bool × Nat)) (e : (FP PP k).call "unit_of" [E] st = .ok (.v (tolD u o)) st) (ho : o ≠ none) : (FP PP (k + 2)).call "unlike_ways" [E] st = .ok (.v .non) st := by
  rw [c_unlike_ways]
  refine W.toEq ?_
  rw [go_unlike_ways]
  simp [alike_ok k st E u o e ho]
theorem scal_ok (k : Nat) (st : List MO) {p q : Nat} (h : Ut p q) {xs ys : List Nat} (t : Evs xs ys) : (FP PP (k + 4)).call "scaled" [evq 0 (xs.map (mu (mkRat p q))) (ys.map (mu (mkRat p q))), .tup [.int 3, .int 7]] st = .ok (.v (evq 1 (xs.map (mu (mkRat p q * mkRat 3 7))) (ys.map (mu (mkRat p q * mkRat 3 7))))) st := by
  rw [c_scaled]
  refine W.toEq ?_
  rw [go_scaled]
  have f37 : Dt.tup [.int 3, .int 7] = fr (mkRat 3 7) := by decide +kernel
  have s37 : Sq (mkRat 3 7) := ⟨by decide +kernel, by decide +kernel⟩
  have tm : ∀ n, n ≤ 2 ^ 60 → (FP PP (k + 3)).call "times" [fr (mu (mkRat p q) n), .tup [.int 3, .int 7]] st = .ok (.v (fr (mu (mkRat p q * mkRat 3 7) n))) st := fun n hn => by
    rw [c_times, f37, timesP_ok k st _ _ (h.un.s n hn) s37]
    unfold mu
    rw [Rat.mul_assoc]
  have am : (FP PP (k + 3)).call "is_amount" [.tup [.int 3, .int 7]] st = .ok (.v (.bl true)) st := by
    rw [c_is_amount, f37]
    exact isam_ok k st _ s37 (by decide +kernel)
  have f1 : ∀ s, fldV (.v (evq 0 (xs.map (mu (mkRat p q))) (ys.map (mu (mkRat p q))))) "owed" s = some (.tup ((xs.map (mu (mkRat p q))).map fr)) := fun s => fq_o
  have f2 : ∀ s, fldV (.v (evq 0 (xs.map (mu (mkRat p q))) (ys.map (mu (mkRat p q))))) "due" s = some (.tup ((ys.map (mu (mkRat p q))).map fr)) := fun s => fq_d
  have rw1 := raw_ok (k + 2) st (xs.map (mu (mkRat p q * mkRat 3 7))) (ys.map (mu (mkRat p q * mkRat 3 7)))
  have r1 : ∀ (zs : List Nat) (s : SS), rds s (.v (.tup ((zs.map (mu (mkRat p q))).map fr))) = some (zs.map fun x => fr (mu (mkRat p q) x))   := fun zs s => by
    show some ((zs.map (mu (mkRat p q))).map fr) = _
    rw [List.map_map]; rfl
  have g1 : ∀ zs : List Nat, (zs.map fun x => fr (mu (mkRat p q * mkRat 3 7) x)) = (zs.map (mu (mkRat p q * mkRat 3 7))).map fr := fun zs => by rw [List.map_map]; rfl
  generalize evq 0 (xs.map (mu (mkRat p q))) (ys.map (mu (mkRat p q))) = E at *
  generalize evq 1 (xs.map (mu (mkRat p q * mkRat 3 7))) (ys.map (mu (mkRat p q * mkRat 3 7))) = F at *
  generalize Dt.tup [.int 3, .int 7] = T at *
  generalize mkRat p q * mkRat 3 7 = w at *
  simp [am]
  have lx := t.c
  have ly := t.d
  have sx := fun n hn => Nat.le_trans (mem_le (xs := xs) (x := n) hn) (Nat.le_of_lt t.f)
  have sy := fun n hn => Nat.le_trans (mem_le (xs := ys) (x := n) hn) (by rw [← t.e]; exact Nat.le_of_lt t.f)
  have nt : ∀ zs : List Rat, ∀ n, Dt.tup (zs.map fr) ≠ .ref n := fun _ _ z => nomatch z
  rw [P_lcs (d := Dt.tup ((xs.map (mu (mkRat p q))).map fr)) xs (fun x => fr (mu (mkRat p q) x)) (fun x => fr (mu w x)) (by simp [f1]) (r1 xs _) (nt _) (by omega) rfl rfl fun z hz => by simp [wipeS, backS, tm z (sx z hz)]]
  rw [g1]
  generalize (xs.map (mu w)).map fr = A at *
  simp
  rw [P_lcs (d := Dt.tup ((ys.map (mu (mkRat p q))).map fr)) ys (fun x => fr (mu (mkRat p q) x)) (fun x => fr (mu w x)) (by simp [f2]) (r1 ys _) (nt _) (by omega) rfl rfl fun z hz => by simp [wipeS, backS, tm z (sy z hz)]]
  rw [g1]
  generalize (ys.map (mu w)).map fr = B at *
  simp [rw1]
theorem uof_le {xs ys : List Nat} {b : Bool} {n : Nat} (hx : xs ≠ []) (hy : ys ≠ []) (h : uof xs ys = some (b, n)) : n ≤ xs.sum + ys.sum := by
  have g : ∀ zs : List Nat, zs ≠ [] → zs.getD 0 0 ≤ zs.sum := fun zs hz => by
    cases zs with
    | nil => exact absurd rfl hz
    | cons a l => rw [List.sum_cons]; show a ≤ _; omega
  have gx := g xs hx
  have gy := g ys hy
  unfold uof at h
  split at h
  · cases h; omega
  · split at h
    · cases h; omega
    · cases h
/-- behind the drawing -/
theorem law_t {k : Nat} {T : Dt} {st : List MO} {p q : Nat} (h : Ut p q) {xs ys : List Nat} (t : Evs xs ys) :
    W (fun f s => ∃ l, f = .ret (.v (.bl true)) ∧ s = ⟨l, st⟩) (Mq.execs (FP PP (k + 20)) (d_law.ms.drop 3) ⟨[.v T, .v (.ref 0), .v (lsD xs ys), .v (utD p q), .un, .un, .un], st⟩) := by
  have nx : xs ≠ [] := fun e => by have := t.a; rw [e] at this; simp at this
  have ny : ys ≠ [] := fun e => by have := t.b; rw [e] at this; simp at this
  have sx := fun n hn => Nat.le_trans (mem_le (xs := xs) (x := n) hn) (Nat.le_of_lt t.f)
  have sy := fun n hn => Nat.le_trans (mem_le (xs := ys) (x := n) hn) (by rw [← t.e]; exact Nat.le_of_lt t.f)
  have e1 := made_frz (k := k + 14) (st := st) h t
  have e2 := lun_ok (k + 19) st nx ny t.g t.h (by have := t.c; omega) (by have := t.d; omega)
  have e2' := lun_ok (k + 19) st ny nx t.h t.g (by have := t.d; omega) (by have := t.c; omega)
  have e3 := unitof_ok (k + 15) st 0 h.un nx ny (fun x hx => ⟨t.g x hx, sx x hx⟩) (fun x hx => ⟨t.h x hx, sy x hx⟩) (by have := t.c; omega) (by have := t.d; omega)
  have e3' := unitof_ok (k + 15) st 1 h.un ny nx (fun x hx => ⟨t.h x hx, sy x hx⟩) (fun x hx => ⟨t.g x hx, sx x hx⟩) (by have := t.d; omega) (by have := t.c; omega)
  have wm : mkRat p q * mkRat 3 7 = mkRat ((3 * p : Nat) : Int) (7 * q) := by
    rw [Rat.mkRat_mul_mkRat, Nat.mul_comm q 7, Nat.mul_comm 3 p]; rfl
  have uw := mk_un (a := 3 * p) (b := 7 * q) (by have := h.p0; omega) (by have := h.q0; omega) (by have := h.p1; omega) (by have := h.q1; omega)
  have e4 := scal_ok (k + 16) st h t
  rw [wm] at e4
  have e5 := unitof_ok (k + 15) st 1 uw nx ny (fun x hx => ⟨t.g x hx, sx x hx⟩) (fun x hx => ⟨t.h x hx, sy x hx⟩) (by have := t.c; omega) (by have := t.d; omega)
  have am : (FP PP (k + 20)).call "_law_amount" [.int (3 * (p : Int)), .int (7 * (q : Int))] st = .ok (.v (fr (mkRat ((3 * p : Nat) : Int) (7 * q)))) st := by
    have := W_amount (k := k + 18) (a := ((3 * p : Nat) : Int)) (b := 7 * q) (st := st) (Q := fun v t => v = .v (fr (mkRat ((3 * p : Nat) : Int) (7 * q))) ∧ t = st) (by omega) (by have := h.q0; omega) (by have := h.q1; omega) ⟨rfl, rfl⟩
    have e := W.toEq this
    rw [Int.natCast_mul, Int.natCast_mul] at e
    exact e
  have os : ∀ b n, uof xs ys = some (b, n) → n < 2 ^ 100 := fun b n e => by
    have := uof_le nx ny e
    have := t.e
    have := t.f
    omega
  have os' : ∀ b n, uof ys xs = some (b, n) → n < 2 ^ 100 := fun b n e => by
    have := uof_le ny nx e
    have := t.e
    have := t.f
    omega
  have sq : Sq (mkRat p q) := by
    have := h.un.s 1 (by decide)
    unfold mu at this
    rwa [show ((1 : Nat) : Rat) = 1 from rfl, Rat.one_mul] at this
  have sq2 : Sq (mkRat ((3 * p : Nat) : Int) (7 * q)) := by
    have := uw.s 1 (by decide)
    unfold mu at this
    rwa [show ((1 : Nat) : Rat) = 1 from rfl, Rat.one_mul] at this
  have lt : (2 : Nat) ^ 120 < 2 ^ 190 := by decide
  have t1 := told_ok (k + 17) st h.pos sq.sn (Nat.lt_trans sq.d lt) (uof xs ys) os
  have t2 := told_ok (k + 17) st h.pos sq.sn (Nat.lt_trans sq.d lt) (uof ys xs) os'
  have t3 := told_ok (k + 17) st uw.p sq2.sn (Nat.lt_trans sq2.d lt) (uof xs ys) os
  have mi := mirr_ok (k + 18) st 0 (xs.map (mu (mkRat p q))) (ys.map (mu (mkRat p q)))
  have u0 : ∀ s, idxV (.v (utD p q)) (.v (.int 0)) s = some (.v (.int (p : Int))) := fun _ => rfl
  have u1 : ∀ s, idxV (.v (utD p q)) (.v (.int 1)) s = some (.v (.int (q : Int))) := fun _ => rfl
  have i0 : ∀ s, idxV (.v (lsD xs ys)) (.v (.int 0)) s = some (.v (.lst (natsD xs))) := fun _ => rfl
  have i1 : ∀ s, idxV (.v (lsD xs ys)) (.v (.int 1)) s = some (.v (.lst (natsD ys))) := fun _ => rfl
  have lsw : Dt.tup [.lst (natsD ys), .lst (natsD xs)] = lsD ys xs := rfl
  have ev0 : evg (xs.map (mu (mkRat p q))) (ys.map (mu (mkRat p q))) = evq 0 (xs.map (mu (mkRat p q))) (ys.map (mu (mkRat p q))) := rfl
  rw [ev0] at e1
  rw [← fr_ut h] at t1 t2
  have m3 : ∀ s, binV .mul (.v (.int 3)) (.v (.int (p : Int))) s = some (.v (.int (3 * (p : Int)))) := fun s => v_mulO (Sm.bits (.of40 (by decide)) (.of40 (by have := h.p1; omega)))
  have m7 : ∀ s, binV .mul (.v (.int 7)) (.v (.int (q : Int))) s = some (.v (.int (7 * (q : Int)))) := fun s => v_mulO (Sm.bits (.of40 (by decide)) (.of40 (by have := h.q1; omega)))
  have n1 := fun s => ne_self (s := s) (flat_tol (mkRat p q) (uof xs ys))
  have n2 := fun s => ne_self (s := s) (flat_tol (mkRat p q) (uof ys xs))
  have n3 := fun s => ne_self (s := s) (flat_tol (mkRat ((3 * p : Nat) : Int) (7 * q)) (uof xs ys))
  have al := alike_ok (k + 19) st (evq 0 (xs.map (mu (mkRat p q))) (ys.map (mu (mkRat p q)))) (mkRat p q) (uof xs ys) (unitof_ok (k + 14) st 0 h.un nx ny (fun x hx => ⟨t.g x hx, sx x hx⟩) (fun x hx => ⟨t.h x hx, sy x hx⟩) (by have := t.c; omega) (by have := t.d; omega))
  have ul := unlike_ok (k + 18) st (evq 0 (xs.map (mu (mkRat p q))) (ys.map (mu (mkRat p q)))) (mkRat p q) (uof xs ys) (unitof_ok (k + 13) st 0 h.un nx ny (fun x hx => ⟨t.g x hx, sx x hx⟩) (fun x hx => ⟨t.h x hx, sy x hx⟩) (by have := t.c; omega) (by have := t.d; omega))
  have fl := flagC (k + 19) st true
  generalize hE : evq 0 (xs.map (mu (mkRat p q))) (ys.map (mu (mkRat p q))) = E at *
  generalize hF : evq 1 (ys.map (mu (mkRat p q))) (xs.map (mu (mkRat p q))) = F at *
  generalize hG : evq 1 (xs.map (mu (mkRat ((3 * p : Nat) : Int) (7 * q)))) (ys.map (mu (mkRat ((3 * p : Nat) : Int) (7 * q)))) = G at *
  generalize hW : fr (mkRat ((3 * p : Nat) : Int) (7 * q)) = WD at *
  generalize lsD xs ys = LS at *
  generalize hU : utD p q = U at *
  generalize hT1 : tolD (mkRat p q) (uof xs ys) = T1 at *
  generalize hT2 : tolD (mkRat p q) (uof ys xs) = T2 at *
  generalize hT3 : tolD (mkRat ((3 * p : Nat) : Int) (7 * q)) (uof xs ys) = T3 at *
  generalize hL1 : lunD (uof xs ys) = L1 at *
  generalize hL2 : lunD (uof ys xs) = L2 at *
  unfold d_law
  dsimp only [List.drop]
  have lsw2 : ∀ s, rdD s (.v T1) = rdD s (.v T1) := fun _ => rfl
  cases ho : uof xs ys with
  | none =>
    have h1 : T1 = .non := by rw [← hT1, ho]; rfl
    have h3 : T3 = .non := by rw [← hT3, ho]; rfl
    have h4 : L1 = .non := by rw [← hL1, ho]; rfl
    subst h1 h3 h4
    simp [e1, e2, e3, e3', i0, i1, u0, u1, t1, t2, t3, n1, n2, n3, mi, lsw, e2', e4, e5, am, m3, m7]
  | some bn =>
    obtain ⟨b, n⟩ := bn
    have h1 : T1 = .tup [sideW b, fr (mu (mkRat p q) n)] := by rw [← hT1, ho]; rfl
    have h4 : L1 = .tup [sideW b, .int (n : Int)] := by rw [← hL1, ho]; rfl
    rw [ho] at al ul
    have al := al (fun z => nomatch z)
    have ul := ul (fun z => nomatch z)
    generalize sideW b = SW at *
    generalize fr (mu (mkRat p q) n) = X at *
    generalize Dt.int (n : Int) = NN at *
    subst h1 h4
    simp [e1, e2, e3, e3', i0, i1, u0, u1, t1, t2, t3, n1, n2, n3, mi, lsw, e2', e4, e5, am, m3, m7, al, ul, fl]
theorem runs : Runs PP d_law 110 := fun ns hns => by
  obtain ⟨cs, e, hc⟩ := dice_ok (FP PP 109) [] ns hns
  have hh : Hand 0 (.l [.lst (cs.map .int), .int 0, .int 0, .int 1, .int 0]) := ⟨cs, 0, 0, 1, 0, rfl, hc, by omega, by omega, by omega, by omega, by omega, by omega⟩
  have w : W (fun v t => v = .v (.bl true)) (runD (FP PP 110) d_law [.rol (ns.map Dt.int)] []) := by
    have ems : d_law.ms = d_law.ms[0]'(by decide) :: d_law.ms[1]'(by decide) :: d_law.ms[2]'(by decide) :: d_law.ms.drop 3 := rfl
    have sl0 : slots d_law.N.length ([Dt.rol (ns.map Dt.int)].map Sl.v) = [.v (.rol (ns.map Dt.int)), .un, .un, .un, .un, .un, .un] := rfl
    rw [W_run, ems, sl0]
    have lt := fun (r : MO) (p q : Nat) (h : Ut p q) (xs ys : List Nat) (t : Evs xs ys) => law_t (k := 90) (T := .rol (ns.map Dt.int)) (st := [r]) h t
    generalize hR : d_law.ms.drop 3 = R at *
    unfold d_law
    dsimp only [List.getElem_cons_succ, List.getElem_cons_zero]
    have e' : (FP PP 110).call "_law_dice" [.rol (ns.map Dt.int)] [] = .ok (.nl [.lst (cs.map .int), .int 0, .int 0, .int 1, .int 0]) [] := by rw [c_law_dice]; exact e
    generalize Dt.rol (ns.map Dt.int) = T at *
    generalize Dt.lst (cs.map .int) = C at *
    simp [e', allocF]
    refine W_draw hh (by omega) (by omega) (by omega) fun x m1 hx h1 => ?_
    obtain ⟨m, em, m2, m90⟩ : ∃ m : Nat, atI [Dt.int 6, .int 12, .int 20] (x : Int) = some (.int (m : Int)) ∧ 2 ≤ m ∧ m ≤ 90 := by
      have : x = 0 ∨ x = 1 ∨ x = 2 := by omega
      rcases this with rfl | rfl | rfl
      · exact ⟨6, rfl, by omega, by omega⟩
      · exact ⟨12, rfl, by omega, by omega⟩
      · exact ⟨20, rfl, by omega, by omega⟩
    simp [em]
    refine W_some (k := 10) h1 (by omega) m2 m90 fun xs ys m3 h3 t => ?_
    simp
    refine W_unit h3 (by omega) fun p q m4 h4 ut => ?_
    simp
    refine (lt m4 p q ut xs ys (t.evs m90)).mono fun f s h => ?_
    obtain ⟨l, rfl, rfl⟩ := h
    rfl
  obtain ⟨v, t, e, rfl⟩ := w.eq
  exact ⟨t, e⟩
end K38

namespace K38
open PySem L2 Mq
theorem pc_ok : pC PP S0 = true := by decide +kernel
theorem all_mk {K : PySem.W.Frag} {mg : Str → Option Value} {h : Heap} (X : K.In h) (N : h.Ns mainGlobals mg) {f0 f1 f2 f3 f4 f5 f6 f7 f8 f9 f10 f11 f12 f13 f14 f15 f16 f17 f18 f19 f20 f21 f22 f23 f24 f25 f26 f27 f28 f29 f30 f31 f32 f33 f34 f35 C0 C1 g1a : Addr} {oc0 kV0 dc0 pm0 cd0 ct0 oc1 kV1 dc1 pm1 cd1 ct1 oc2 kV2 dc2 pm2 cd2 ct2 oc3 kV3 dc3 pm3 cd3 ct3 oc4 kV4 dc4 pm4 cd4 ct4 oc5 kV5 dc5 pm5 cd5 ct5 oc6 kV6 dc6 pm6 cd6 ct6 oc7 kV7 dc7 pm7 cd7 ct7 oc8 kV8 dc8 pm8 cd8 ct8 oc9 kV9 dc9 pm9 cd9 ct9 oc10 kV10 dc10 pm10 cd10 ct10 oc11 kV11 dc11 pm11 cd11 ct11 oc12 kV12 dc12 pm12 cd12 ct12 oc13 kV13 dc13 pm13 cd13 ct13 oc14 kV14 dc14 pm14 cd14 ct14 oc15 kV15 dc15 pm15 cd15 ct15 oc16 kV16 dc16 pm16 cd16 ct16 oc17 kV17 dc17 pm17 cd17 ct17 oc18 kV18 dc18 pm18 cd18 ct18 oc19 kV19 dc19 pm19 cd19 ct19 oc20 kV20 dc20 pm20 cd20 ct20 oc21 kV21 dc21 pm21 cd21 ct21 oc22 kV22 dc22 pm22 cd22 ct22 oc23 kV23 dc23 pm23 cd23 ct23 oc24 kV24 dc24 pm24 cd24 ct24 oc25 kV25 dc25 pm25 cd25 ct25 oc26 kV26 dc26 pm26 cd26 ct26 oc27 kV27 dc27 pm27 cd27 ct27 oc28 kV28 dc28 pm28 cd28 ct28 oc29 kV29 dc29 pm29 cd29 ct29 oc30 kV30 dc30 pm30 cd30 ct30 oc31 kV31 dc31 pm31 cd31 ct31 oc32 kV32 dc32 pm32 cd32 ct32 oc33 kV33 dc33 pm33 cd33 ct33 oc34 kV34 dc34 pm34 cd34 ct34 oc35 kV35 dc35 pm35 cd35 ct35 : Value} {od0 an0 od1 an1 od2 an2 od3 an3 od4 an4 od5 an5 od6 an6 od7 an7 od8 an8 od9 an9 od10 an10 od11 an11 od12 an12 od13 an13 od14 an14 od15 an15 od16 an16 od17 an17 od18 an18 od19 an19 od20 an20 od21 an21 od22 an22 od23 an23 od24 an24 od25 an25 od26 an26 od27 an27 od28 an28 od29 an29 od30 an30 od31 an31 od32 an32 od33 an33 od34 an34 od35 an35 g1o : Option Addr} {sl0 sl1 sl2 sl3 sl4 sl5 sl6 sl7 sl8 sl9 sl10 sl11 sl12 sl13 sl14 sl15 sl16 sl17 sl18 sl19 sl20 sl21 sl22 sl23 sl24 sl25 sl26 sl27 sl28 sl29 sl30 sl31 sl32 sl33 sl34 sl35 g1s : Array (Option Value)} {g0t g1t1 g1t0 : Tok} {g1n : Nat}
    (aC0 : PySem.W.nsIn K mainGlobals "Evening" = some (some (.ref C0)))
    (mk0 : PySem.W.makesIn K C0 = true)
    (kc0 : PySem.W.keepIn K (.ref C0) = true)
    (pg0 : PySem.W.plainGet K C0 Str.empty = true)
    (hd0 : PySem.W.hasDictIn K C0 = true)
    (po0 : PySem.W.plainOver K C0 = true)
    (sa0 : PySem.W.findIn K (.ref C0) "__setattr__" = some (some (.builtin "object.__setattr__")))
    (ha0 : PySem.W.findIn K (.ref C0) "__class__" = some (some (.builtin "object.__class__")))
    (hm0 : PySem.W.mroIn K C0 (.type "object") = some true)
    (na0_0 : PySem.W.findIn K (.ref C0) "due" = some none)
    (na0_1 : PySem.W.findIn K (.ref C0) "owed" = some none)
    (aC1 : PySem.W.nsIn K mainGlobals "RawEvening" = some (some (.ref C1)))
    (mk1 : PySem.W.makesIn K C1 = true)
    (kc1 : PySem.W.keepIn K (.ref C1) = true)
    (pg1 : PySem.W.plainGet K C1 Str.empty = true)
    (hd1 : PySem.W.hasDictIn K C1 = true)
    (po1 : PySem.W.plainOver K C1 = true)
    (sa1 : PySem.W.findIn K (.ref C1) "__setattr__" = some (some (.builtin "object.__setattr__")))
    (ha1 : PySem.W.findIn K (.ref C1) "__class__" = some (some (.builtin "object.__class__")))
    (hm1 : PySem.W.mroIn K C1 (.type "object") = some true)
    (na1_0 : PySem.W.findIn K (.ref C1) "due" = some none)
    (na1_1 : PySem.W.findIn K (.ref C1) "owed" = some none)
    (hn : PySem.W.specialIn K (.builtin "object.__class__") "__get__" = some (some (.builtin "getset_descriptor.__get__")))
    (htk : PySem.W.takesIn K (.builtin "object.__class__") = some true)
    (z0 : PySem.W.nsIn K mainGlobals "abs" = some none)
    (z1 : PySem.W.nsIn K mainGlobals "all" = some none)
    (z2 : PySem.W.nsIn K mainGlobals "int" = some none)
    (z3 : PySem.W.nsIn K mainGlobals "isinstance" = some none)
    (z4 : PySem.W.nsIn K mainGlobals "len" = some none)
    (z5 : PySem.W.nsIn K mainGlobals "list" = some none)
    (z6 : PySem.W.nsIn K mainGlobals "min" = some none)
    (z7 : PySem.W.nsIn K mainGlobals "range" = some none)
    (z8 : PySem.W.nsIn K mainGlobals "sum" = some none)
    (z9 : PySem.W.nsIn K mainGlobals "tuple" = some none)
    (zt0 : PySem.W.nsIn K mainGlobals "bool" = some none)
    (zt1 : PySem.W.nsIn K mainGlobals "int" = some none)
    (zt2 : PySem.W.nsIn K mainGlobals "tuple" = some none)
    (qg0 : PySem.W.nsIn K mainGlobals "MOST_SIDE" = some (some (.int 100 g0t)))
    (qg1 : PySem.W.nsIn K mainGlobals "ZERO" = some (some (.ref g1a)))
    (qg1l : K.lookup g1a = some ⟨.type "tuple", g1o, .seq #[.int 0 g1t0, .int 1 g1t1] g1n, g1s⟩)
    (a0 : PySem.W.nsIn K mainGlobals "_law_divisor" = some (some (.ref f0)))
    (l0 : K.lookup f0 = some ⟨oc0, od0, .func (PySem.W.fnOf "_law_divisor" "_law_divisor" (defArgs s_law_divisor) (defBody s_law_divisor) (defScope s_law_divisor) .none kV0 dc0 pm0 an0 cd0 ct0), sl0⟩)
    (c0 : PySem.W.codeIn K cd0 "_law_divisor" = true)
    (k0 : PySem.W.keepIn K (.ref f0) = true)
    (a1 : PySem.W.nsIn K mainGlobals "_law_amount" = some (some (.ref f1)))
    (l1 : K.lookup f1 = some ⟨oc1, od1, .func (PySem.W.fnOf "_law_amount" "_law_amount" (defArgs s_law_amount) (defBody s_law_amount) (defScope s_law_amount) .none kV1 dc1 pm1 an1 cd1 ct1), sl1⟩)
    (c1 : PySem.W.codeIn K cd1 "_law_amount" = true)
    (k1 : PySem.W.keepIn K (.ref f1) = true)
    (a2 : PySem.W.nsIn K mainGlobals "_law_dice" = some (some (.ref f2)))
    (l2 : K.lookup f2 = some ⟨oc2, od2, .func (PySem.W.fnOf "_law_dice" "_law_dice" (defArgs s_law_dice) (defBody s_law_dice) (defScope s_law_dice) .none kV2 dc2 pm2 an2 cd2 ct2), sl2⟩)
    (c2 : PySem.W.codeIn K cd2 "_law_dice" = true)
    (k2 : PySem.W.keepIn K (.ref f2) = true)
    (a3 : PySem.W.nsIn K mainGlobals "_law_draw" = some (some (.ref f3)))
    (l3 : K.lookup f3 = some ⟨oc3, od3, .func (PySem.W.fnOf "_law_draw" "_law_draw" (defArgs s_law_draw) (defBody s_law_draw) (defScope s_law_draw) .none kV3 dc3 pm3 an3 cd3 ct3), sl3⟩)
    (c3 : PySem.W.codeIn K cd3 "_law_draw" = true)
    (k3 : PySem.W.keepIn K (.ref f3) = true)
    (a4 : PySem.W.nsIn K mainGlobals "_law_flag" = some (some (.ref f4)))
    (l4 : K.lookup f4 = some ⟨oc4, od4, .func (PySem.W.fnOf "_law_flag" "_law_flag" (defArgs s_law_flag) (defBody s_law_flag) (defScope s_law_flag) .none kV4 dc4 pm4 an4 cd4 ct4), sl4⟩)
    (c4 : PySem.W.codeIn K cd4 "_law_flag" = true)
    (k4 : PySem.W.keepIn K (.ref f4) = true)
    (a5 : PySem.W.nsIn K mainGlobals "common_divisor" = some (some (.ref f5)))
    (l5 : K.lookup f5 = some ⟨oc5, od5, .func (PySem.W.fnOf "common_divisor" "common_divisor" (defArgs s_common_divisor) (defBody s_common_divisor) (defScope s_common_divisor) .none kV5 dc5 pm5 an5 cd5 ct5), sl5⟩)
    (c5 : PySem.W.codeIn K cd5 "common_divisor" = true)
    (k5 : PySem.W.keepIn K (.ref f5) = true)
    (a6 : PySem.W.nsIn K mainGlobals "is_integer" = some (some (.ref f6)))
    (l6 : K.lookup f6 = some ⟨oc6, od6, .func (PySem.W.fnOf "is_integer" "is_integer" (defArgs s_is_integer) (defBody s_is_integer) (defScope s_is_integer) .none kV6 dc6 pm6 an6 cd6 ct6), sl6⟩)
    (c6 : PySem.W.codeIn K cd6 "is_integer" = true)
    (k6 : PySem.W.keepIn K (.ref f6) = true)
    (a7 : PySem.W.nsIn K mainGlobals "is_pair" = some (some (.ref f7)))
    (l7 : K.lookup f7 = some ⟨oc7, od7, .func (PySem.W.fnOf "is_pair" "is_pair" (defArgs s_is_pair) (defBody s_is_pair) (defScope s_is_pair) .none kV7 dc7 pm7 an7 cd7 ct7), sl7⟩)
    (c7 : PySem.W.codeIn K cd7 "is_pair" = true)
    (k7 : PySem.W.keepIn K (.ref f7) = true)
    (a8 : PySem.W.nsIn K mainGlobals "is_fraction" = some (some (.ref f8)))
    (l8 : K.lookup f8 = some ⟨oc8, od8, .func (PySem.W.fnOf "is_fraction" "is_fraction" (defArgs s_is_fraction) (defBody s_is_fraction) (defScope s_is_fraction) .none kV8 dc8 pm8 an8 cd8 ct8), sl8⟩)
    (c8 : PySem.W.codeIn K cd8 "is_fraction" = true)
    (k8 : PySem.W.keepIn K (.ref f8) = true)
    (a9 : PySem.W.nsIn K mainGlobals "is_amount" = some (some (.ref f9)))
    (l9 : K.lookup f9 = some ⟨oc9, od9, .func (PySem.W.fnOf "is_amount" "is_amount" (defArgs s_is_amount) (defBody s_is_amount) (defScope s_is_amount) .none kV9 dc9 pm9 an9 cd9 ct9), sl9⟩)
    (c9 : PySem.W.codeIn K cd9 "is_amount" = true)
    (k9 : PySem.W.keepIn K (.ref f9) = true)
    (a10 : PySem.W.nsIn K mainGlobals "are_sums" = some (some (.ref f10)))
    (l10 : K.lookup f10 = some ⟨oc10, od10, .func (PySem.W.fnOf "are_sums" "are_sums" (defArgs s_are_sums) (defBody s_are_sums) (defScope s_are_sums) .none kV10 dc10 pm10 an10 cd10 ct10), sl10⟩)
    (c10 : PySem.W.codeIn K cd10 "are_sums" = true)
    (k10 : PySem.W.keepIn K (.ref f10) = true)
    (a11 : PySem.W.nsIn K mainGlobals "made" = some (some (.ref f11)))
    (l11 : K.lookup f11 = some ⟨oc11, od11, .func (PySem.W.fnOf "made" "made" (defArgs s_made) (defBody s_made) (defScope s_made) .none kV11 dc11 pm11 an11 cd11 ct11), sl11⟩)
    (c11 : PySem.W.codeIn K cd11 "made" = true)
    (k11 : PySem.W.keepIn K (.ref f11) = true)
    (a12 : PySem.W.nsIn K mainGlobals "plus" = some (some (.ref f12)))
    (l12 : K.lookup f12 = some ⟨oc12, od12, .func (PySem.W.fnOf "plus" "plus" (defArgs s_plus) (defBody s_plus) (defScope s_plus) .none kV12 dc12 pm12 an12 cd12 ct12), sl12⟩)
    (c12 : PySem.W.codeIn K cd12 "plus" = true)
    (k12 : PySem.W.keepIn K (.ref f12) = true)
    (a13 : PySem.W.nsIn K mainGlobals "total_of" = some (some (.ref f13)))
    (l13 : K.lookup f13 = some ⟨oc13, od13, .func (PySem.W.fnOf "total_of" "total_of" (defArgs s_total_of) (defBody s_total_of) (defScope s_total_of) .none kV13 dc13 pm13 an13 cd13 ct13), sl13⟩)
    (c13 : PySem.W.codeIn K cd13 "total_of" = true)
    (k13 : PySem.W.keepIn K (.ref f13) = true)
    (a14_0 : PySem.W.findIn K (.ref C0) "__init__" = some (some (.ref f14)))
    (i14 : PySem.W.isFn K (.ref f14) = true)
    (l14 : K.lookup f14 = some ⟨oc14, od14, .func (PySem.W.fnOf "__init__" "Evening.__init__" (defArgs s_Evening__init_) (defBody s_Evening__init_) (defScope s_Evening__init_) .none kV14 dc14 pm14 an14 cd14 ct14), sl14⟩)
    (c14 : PySem.W.codeIn K cd14 "Evening.__init__" = true)
    (k14 : PySem.W.keepIn K (.ref f14) = true)
    (a15 : PySem.W.nsIn K mainGlobals "_law_sums" = some (some (.ref f15)))
    (l15 : K.lookup f15 = some ⟨oc15, od15, .func (PySem.W.fnOf "_law_sums" "_law_sums" (defArgs s_law_sums) (defBody s_law_sums) (defScope s_law_sums) .none kV15 dc15 pm15 an15 cd15 ct15), sl15⟩)
    (c15 : PySem.W.codeIn K cd15 "_law_sums" = true)
    (k15 : PySem.W.keepIn K (.ref f15) = true)
    (a16 : PySem.W.nsIn K mainGlobals "_law_made" = some (some (.ref f16)))
    (l16 : K.lookup f16 = some ⟨oc16, od16, .func (PySem.W.fnOf "_law_made" "_law_made" (defArgs s_law_made) (defBody s_law_made) (defScope s_law_made) .none kV16 dc16 pm16 an16 cd16 ct16), sl16⟩)
    (c16 : PySem.W.codeIn K cd16 "_law_made" = true)
    (k16 : PySem.W.keepIn K (.ref f16) = true)
    (a17 : PySem.W.nsIn K mainGlobals "_law_shuffled" = some (some (.ref f17)))
    (l17 : K.lookup f17 = some ⟨oc17, od17, .func (PySem.W.fnOf "_law_shuffled" "_law_shuffled" (defArgs s_law_shuffled) (defBody s_law_shuffled) (defScope s_law_shuffled) .none kV17 dc17 pm17 an17 cd17 ct17), sl17⟩)
    (c17 : PySem.W.codeIn K cd17 "_law_shuffled" = true)
    (k17 : PySem.W.keepIn K (.ref f17) = true)
    (a18 : PySem.W.nsIn K mainGlobals "_law_split" = some (some (.ref f18)))
    (l18 : K.lookup f18 = some ⟨oc18, od18, .func (PySem.W.fnOf "_law_split" "_law_split" (defArgs s_law_split) (defBody s_law_split) (defScope s_law_split) .none kV18 dc18 pm18 an18 cd18 ct18), sl18⟩)
    (c18 : PySem.W.codeIn K cd18 "_law_split" = true)
    (k18 : PySem.W.keepIn K (.ref f18) = true)
    (a19 : PySem.W.nsIn K mainGlobals "_law_alike_lists" = some (some (.ref f19)))
    (l19 : K.lookup f19 = some ⟨oc19, od19, .func (PySem.W.fnOf "_law_alike_lists" "_law_alike_lists" (defArgs s_law_alike_lists) (defBody s_law_alike_lists) (defScope s_law_alike_lists) .none kV19 dc19 pm19 an19 cd19 ct19), sl19⟩)
    (c19 : PySem.W.codeIn K cd19 "_law_alike_lists" = true)
    (k19 : PySem.W.keepIn K (.ref f19) = true)
    (a20 : PySem.W.nsIn K mainGlobals "_law_side" = some (some (.ref f20)))
    (l20 : K.lookup f20 = some ⟨oc20, od20, .func (PySem.W.fnOf "_law_side" "_law_side" (defArgs s_law_side) (defBody s_law_side) (defScope s_law_side) .none kV20 dc20 pm20 an20 cd20 ct20), sl20⟩)
    (c20 : PySem.W.codeIn K cd20 "_law_side" = true)
    (k20 : PySem.W.keepIn K (.ref f20) = true)
    (a21 : PySem.W.nsIn K mainGlobals "_law_lists" = some (some (.ref f21)))
    (l21 : K.lookup f21 = some ⟨oc21, od21, .func (PySem.W.fnOf "_law_lists" "_law_lists" (defArgs s_law_lists) (defBody s_law_lists) (defScope s_law_lists) .none kV21 dc21 pm21 an21 cd21 ct21), sl21⟩)
    (c21 : PySem.W.codeIn K cd21 "_law_lists" = true)
    (k21 : PySem.W.keepIn K (.ref f21) = true)
    (a22 : PySem.W.nsIn K mainGlobals "_law_some_lists" = some (some (.ref f22)))
    (l22 : K.lookup f22 = some ⟨oc22, od22, .func (PySem.W.fnOf "_law_some_lists" "_law_some_lists" (defArgs s_law_some_lists) (defBody s_law_some_lists) (defScope s_law_some_lists) .none kV22 dc22 pm22 an22 cd22 ct22), sl22⟩)
    (c22 : PySem.W.codeIn K cd22 "_law_some_lists" = true)
    (k22 : PySem.W.keepIn K (.ref f22) = true)
    (a23 : PySem.W.nsIn K mainGlobals "_law_told_unit" = some (some (.ref f23)))
    (l23 : K.lookup f23 = some ⟨oc23, od23, .func (PySem.W.fnOf "_law_told_unit" "_law_told_unit" (defArgs s_law_told_unit) (defBody s_law_told_unit) (defScope s_law_told_unit) .none kV23 dc23 pm23 an23 cd23 ct23), sl23⟩)
    (c23 : PySem.W.codeIn K cd23 "_law_told_unit" = true)
    (k23 : PySem.W.keepIn K (.ref f23) = true)
    (a24 : PySem.W.nsIn K mainGlobals "_law_unit" = some (some (.ref f24)))
    (l24 : K.lookup f24 = some ⟨oc24, od24, .func (PySem.W.fnOf "_law_unit" "_law_unit" (defArgs s_law_unit) (defBody s_law_unit) (defScope s_law_unit) .none kV24 dc24 pm24 an24 cd24 ct24), sl24⟩)
    (c24 : PySem.W.codeIn K cd24 "_law_unit" = true)
    (k24 : PySem.W.keepIn K (.ref f24) = true)
    (a25 : PySem.W.nsIn K mainGlobals "_law_unit_of" = some (some (.ref f25)))
    (l25 : K.lookup f25 = some ⟨oc25, od25, .func (PySem.W.fnOf "_law_unit_of" "_law_unit_of" (defArgs s_law_unit_of) (defBody s_law_unit_of) (defScope s_law_unit_of) .none kV25 dc25 pm25 an25 cd25 ct25), sl25⟩)
    (c25 : PySem.W.codeIn K cd25 "_law_unit_of" = true)
    (k25 : PySem.W.keepIn K (.ref f25) = true)
    (a26 : PySem.W.nsIn K mainGlobals "over" = some (some (.ref f26)))
    (l26 : K.lookup f26 = some ⟨oc26, od26, .func (PySem.W.fnOf "over" "over" (defArgs s_over) (defBody s_over) (defScope s_over) .none kV26 dc26 pm26 an26 cd26 ct26), sl26⟩)
    (c26 : PySem.W.codeIn K cd26 "over" = true)
    (k26 : PySem.W.keepIn K (.ref f26) = true)
    (a27 : PySem.W.nsIn K mainGlobals "is_unit" = some (some (.ref f27)))
    (l27 : K.lookup f27 = some ⟨oc27, od27, .func (PySem.W.fnOf "is_unit" "is_unit" (defArgs s_is_unit) (defBody s_is_unit) (defScope s_is_unit) .none kV27 dc27 pm27 an27 cd27 ct27), sl27⟩)
    (c27 : PySem.W.codeIn K cd27 "is_unit" = true)
    (k27 : PySem.W.keepIn K (.ref f27) = true)
    (a28 : PySem.W.nsIn K mainGlobals "unit_of" = some (some (.ref f28)))
    (l28 : K.lookup f28 = some ⟨oc28, od28, .func (PySem.W.fnOf "unit_of" "unit_of" (defArgs s_unit_of) (defBody s_unit_of) (defScope s_unit_of) .none kV28 dc28 pm28 an28 cd28 ct28), sl28⟩)
    (c28 : PySem.W.codeIn K cd28 "unit_of" = true)
    (k28 : PySem.W.keepIn K (.ref f28) = true)
    (a29 : PySem.W.nsIn K mainGlobals "is_alike" = some (some (.ref f29)))
    (l29 : K.lookup f29 = some ⟨oc29, od29, .func (PySem.W.fnOf "is_alike" "is_alike" (defArgs s_is_alike) (defBody s_is_alike) (defScope s_is_alike) .none kV29 dc29 pm29 an29 cd29 ct29), sl29⟩)
    (c29 : PySem.W.codeIn K cd29 "is_alike" = true)
    (k29 : PySem.W.keepIn K (.ref f29) = true)
    (a30_1 : PySem.W.findIn K (.ref C1) "__init__" = some (some (.ref f30)))
    (i30 : PySem.W.isFn K (.ref f30) = true)
    (l30 : K.lookup f30 = some ⟨oc30, od30, .func (PySem.W.fnOf "__init__" "RawEvening.__init__" (defArgs s_RawEvening__init_) (defBody s_RawEvening__init_) (defScope s_RawEvening__init_) .none kV30 dc30 pm30 an30 cd30 ct30), sl30⟩)
    (c30 : PySem.W.codeIn K cd30 "RawEvening.__init__" = true)
    (k30 : PySem.W.keepIn K (.ref f30) = true)
    (a31 : PySem.W.nsIn K mainGlobals "mirrored" = some (some (.ref f31)))
    (l31 : K.lookup f31 = some ⟨oc31, od31, .func (PySem.W.fnOf "mirrored" "mirrored" (defArgs s_mirrored) (defBody s_mirrored) (defScope s_mirrored) .none kV31 dc31 pm31 an31 cd31 ct31), sl31⟩)
    (c31 : PySem.W.codeIn K cd31 "mirrored" = true)
    (k31 : PySem.W.keepIn K (.ref f31) = true)
    (a32 : PySem.W.nsIn K mainGlobals "times" = some (some (.ref f32)))
    (l32 : K.lookup f32 = some ⟨oc32, od32, .func (PySem.W.fnOf "times" "times" (defArgs s_times) (defBody s_times) (defScope s_times) .none kV32 dc32 pm32 an32 cd32 ct32), sl32⟩)
    (c32 : PySem.W.codeIn K cd32 "times" = true)
    (k32 : PySem.W.keepIn K (.ref f32) = true)
    (a33 : PySem.W.nsIn K mainGlobals "scaled" = some (some (.ref f33)))
    (l33 : K.lookup f33 = some ⟨oc33, od33, .func (PySem.W.fnOf "scaled" "scaled" (defArgs s_scaled) (defBody s_scaled) (defScope s_scaled) .none kV33 dc33 pm33 an33 cd33 ct33), sl33⟩)
    (c33 : PySem.W.codeIn K cd33 "scaled" = true)
    (k33 : PySem.W.keepIn K (.ref f33) = true)
    (a34 : PySem.W.nsIn K mainGlobals "unlike_ways" = some (some (.ref f34)))
    (l34 : K.lookup f34 = some ⟨oc34, od34, .func (PySem.W.fnOf "unlike_ways" "unlike_ways" (defArgs s_unlike_ways) (defBody s_unlike_ways) (defScope s_unlike_ways) .none kV34 dc34 pm34 an34 cd34 ct34), sl34⟩)
    (c34 : PySem.W.codeIn K cd34 "unlike_ways" = true)
    (k34 : PySem.W.keepIn K (.ref f34) = true)
    (a35 : PySem.W.nsIn K mainGlobals "law" = some (some (.ref f35)))
    (l35 : K.lookup f35 = some ⟨oc35, od35, .func (PySem.W.fnOf "law" "law" (defArgs s_law) (defBody s_law) (defScope s_law) .none kV35 dc35 pm35 an35 cd35 ct35), sl35⟩)
    (c35 : PySem.W.codeIn K cd35 "law" = true)
    (k35 : PySem.W.keepIn K (.ref f35) = true)
    : LawF PP S0 d_law "_law_script" K mg "law" := by
  have F0 : HD K (S0.on d_law_divisor s_law_divisor) d_law_divisor f0 "_law_divisor" "_law_divisor" s_law_divisor := hd_mk (h := h) l0 c0 k0 (fun _ _ _ _ _ _ us hl => match us, hl with | [_, _], _ => rfl) ck_law_divisor
  have F1 : HD K (S0.on d_law_amount s_law_amount) d_law_amount f1 "_law_amount" "_law_amount" s_law_amount := hd_mk (h := h) l1 c1 k1 (fun _ _ _ _ _ _ us hl => match us, hl with | [_, _], _ => rfl) ck_law_amount
  have F2 : HD K (S0.on d_law_dice s_law_dice) d_law_dice f2 "_law_dice" "_law_dice" s_law_dice := hd_mk (h := h) l2 c2 k2 (fun _ _ _ _ _ _ us hl => match us, hl with | [_], _ => rfl) ck_law_dice
  have F3 : HD K (S0.on d_law_draw s_law_draw) d_law_draw f3 "_law_draw" "_law_draw" s_law_draw := hd_mk (h := h) l3 c3 k3 (fun _ _ _ _ _ _ us hl => match us, hl with | [_, _], _ => rfl) ck_law_draw
  have F4 : HD K (S0.on d_law_flag s_law_flag) d_law_flag f4 "_law_flag" "_law_flag" s_law_flag := hd_mk (h := h) l4 c4 k4 (fun _ _ _ _ _ _ us hl => match us, hl with | [_, _], _ => rfl) ck_law_flag
  have F5 : HD K (S0.on d_common_divisor s_common_divisor) d_common_divisor f5 "common_divisor" "common_divisor" s_common_divisor := hd_mk (h := h) l5 c5 k5 (fun _ _ _ _ _ _ us hl => match us, hl with | [_, _], _ => rfl) ck_common_divisor
  have F6 : HD K (S0.on d_is_integer s_is_integer) d_is_integer f6 "is_integer" "is_integer" s_is_integer := hd_mk (h := h) l6 c6 k6 (fun _ _ _ _ _ _ us hl => match us, hl with | [_], _ => rfl) ck_is_integer
  have F7 : HD K (S0.on d_is_pair s_is_pair) d_is_pair f7 "is_pair" "is_pair" s_is_pair := hd_mk (h := h) l7 c7 k7 (fun _ _ _ _ _ _ us hl => match us, hl with | [_], _ => rfl) ck_is_pair
  have F8 : HD K (S0.on d_is_fraction s_is_fraction) d_is_fraction f8 "is_fraction" "is_fraction" s_is_fraction := hd_mk (h := h) l8 c8 k8 (fun _ _ _ _ _ _ us hl => match us, hl with | [_], _ => rfl) ck_is_fraction
  have F9 : HD K (S0.on d_is_amount s_is_amount) d_is_amount f9 "is_amount" "is_amount" s_is_amount := hd_mk (h := h) l9 c9 k9 (fun _ _ _ _ _ _ us hl => match us, hl with | [_], _ => rfl) ck_is_amount
  have F10 : HD K (S0.on d_are_sums s_are_sums) d_are_sums f10 "are_sums" "are_sums" s_are_sums := hd_mk (h := h) l10 c10 k10 (fun _ _ _ _ _ _ us hl => match us, hl with | [_], _ => rfl) ck_are_sums
  have F11 : HD K (S0.on d_made s_made) d_made f11 "made" "made" s_made := hd_mk (h := h) l11 c11 k11 (fun _ _ _ _ _ _ us hl => match us, hl with | [_, _], _ => rfl) ck_made
  have F12 : HD K (S0.on d_plus s_plus) d_plus f12 "plus" "plus" s_plus := hd_mk (h := h) l12 c12 k12 (fun _ _ _ _ _ _ us hl => match us, hl with | [_, _], _ => rfl) ck_plus
  have F13 : HD K (S0.on d_total_of s_total_of) d_total_of f13 "total_of" "total_of" s_total_of := hd_mk (h := h) l13 c13 k13 (fun _ _ _ _ _ _ us hl => match us, hl with | [_], _ => rfl) ck_total_of
  have F14 : HD K (S0.on d_Evening__init_ s_Evening__init_) d_Evening__init_ f14 "__init__" "Evening.__init__" s_Evening__init_ := hd_mk (h := h) l14 c14 k14 (fun _ _ _ _ _ _ us hl => match us, hl with | [_, _, _], _ => rfl) ck_Evening__init_
  have F15 : HD K (S0.on d_law_sums s_law_sums) d_law_sums f15 "_law_sums" "_law_sums" s_law_sums := hd_mk (h := h) l15 c15 k15 (fun _ _ _ _ _ _ us hl => match us, hl with | [_, _], _ => rfl) ck_law_sums
  have F16 : HD K (S0.on d_law_made s_law_made) d_law_made f16 "_law_made" "_law_made" s_law_made := hd_mk (h := h) l16 c16 k16 (fun _ _ _ _ _ _ us hl => match us, hl with | [_, _], _ => rfl) ck_law_made
  have F17 : HD K (S0.on d_law_shuffled s_law_shuffled) d_law_shuffled f17 "_law_shuffled" "_law_shuffled" s_law_shuffled := hd_mk (h := h) l17 c17 k17 (fun _ _ _ _ _ _ us hl => match us, hl with | [_, _], _ => rfl) ck_law_shuffled
  have F18 : HD K (S0.on d_law_split s_law_split) d_law_split f18 "_law_split" "_law_split" s_law_split := hd_mk (h := h) l18 c18 k18 (fun _ _ _ _ _ _ us hl => match us, hl with | [_, _, _], _ => rfl) ck_law_split
  have F19 : HD K (S0.on d_law_alike_lists s_law_alike_lists) d_law_alike_lists f19 "_law_alike_lists" "_law_alike_lists" s_law_alike_lists := hd_mk (h := h) l19 c19 k19 (fun _ _ _ _ _ _ us hl => match us, hl with | [_, _], _ => rfl) ck_law_alike_lists
  have F20 : HD K (S0.on d_law_side s_law_side) d_law_side f20 "_law_side" "_law_side" s_law_side := hd_mk (h := h) l20 c20 k20 (fun _ _ _ _ _ _ us hl => match us, hl with | [_, _, _], _ => rfl) ck_law_side
  have F21 : HD K (S0.on d_law_lists s_law_lists) d_law_lists f21 "_law_lists" "_law_lists" s_law_lists := hd_mk (h := h) l21 c21 k21 (fun _ _ _ _ _ _ us hl => match us, hl with | [_, _], _ => rfl) ck_law_lists
  have F22 : HD K (S0.on d_law_some_lists s_law_some_lists) d_law_some_lists f22 "_law_some_lists" "_law_some_lists" s_law_some_lists := hd_mk (h := h) l22 c22 k22 (fun _ _ _ _ _ _ us hl => match us, hl with | [_, _], _ => rfl) ck_law_some_lists
  have F23 : HD K (S0.on d_law_told_unit s_law_told_unit) d_law_told_unit f23 "_law_told_unit" "_law_told_unit" s_law_told_unit := hd_mk (h := h) l23 c23 k23 (fun _ _ _ _ _ _ us hl => match us, hl with | [_, _], _ => rfl) ck_law_told_unit
  have F24 : HD K (S0.on d_law_unit s_law_unit) d_law_unit f24 "_law_unit" "_law_unit" s_law_unit := hd_mk (h := h) l24 c24 k24 (fun _ _ _ _ _ _ us hl => match us, hl with | [_], _ => rfl) ck_law_unit
  have F25 : HD K (S0.on d_law_unit_of s_law_unit_of) d_law_unit_of f25 "_law_unit_of" "_law_unit_of" s_law_unit_of := hd_mk (h := h) l25 c25 k25 (fun _ _ _ _ _ _ us hl => match us, hl with | [_], _ => rfl) ck_law_unit_of
  have F26 : HD K (S0.on d_over s_over) d_over f26 "over" "over" s_over := hd_mk (h := h) l26 c26 k26 (fun _ _ _ _ _ _ us hl => match us, hl with | [_, _], _ => rfl) ck_over
  have F27 : HD K (S0.on d_is_unit s_is_unit) d_is_unit f27 "is_unit" "is_unit" s_is_unit := hd_mk (h := h) l27 c27 k27 (fun _ _ _ _ _ _ us hl => match us, hl with | [_, _], _ => rfl) ck_is_unit
  have F28 : HD K (S0.on d_unit_of s_unit_of) d_unit_of f28 "unit_of" "unit_of" s_unit_of := hd_mk (h := h) l28 c28 k28 (fun _ _ _ _ _ _ us hl => match us, hl with | [_], _ => rfl) ck_unit_of
  have F29 : HD K (S0.on d_is_alike s_is_alike) d_is_alike f29 "is_alike" "is_alike" s_is_alike := hd_mk (h := h) l29 c29 k29 (fun _ _ _ _ _ _ us hl => match us, hl with | [_], _ => rfl) ck_is_alike
  have F30 : HD K (S0.on d_RawEvening__init_ s_RawEvening__init_) d_RawEvening__init_ f30 "__init__" "RawEvening.__init__" s_RawEvening__init_ := hd_mk (h := h) l30 c30 k30 (fun _ _ _ _ _ _ us hl => match us, hl with | [_, _, _], _ => rfl) ck_RawEvening__init_
  have F31 : HD K (S0.on d_mirrored s_mirrored) d_mirrored f31 "mirrored" "mirrored" s_mirrored := hd_mk (h := h) l31 c31 k31 (fun _ _ _ _ _ _ us hl => match us, hl with | [_], _ => rfl) ck_mirrored
  have F32 : HD K (S0.on d_times s_times) d_times f32 "times" "times" s_times := hd_mk (h := h) l32 c32 k32 (fun _ _ _ _ _ _ us hl => match us, hl with | [_, _], _ => rfl) ck_times
  have F33 : HD K (S0.on d_scaled s_scaled) d_scaled f33 "scaled" "scaled" s_scaled := hd_mk (h := h) l33 c33 k33 (fun _ _ _ _ _ _ us hl => match us, hl with | [_, _], _ => rfl) ck_scaled
  have F34 : HD K (S0.on d_unlike_ways s_unlike_ways) d_unlike_ways f34 "unlike_ways" "unlike_ways" s_unlike_ways := hd_mk (h := h) l34 c34 k34 (fun _ _ _ _ _ _ us hl => match us, hl with | [_], _ => rfl) ck_unlike_ways
  have F35 : HD K (S0.on d_law s_law) d_law f35 "law" "law" s_law := hd_mk (h := h) l35 c35 k35 (fun _ _ _ _ _ _ us hl => match us, hl with | [_], _ => rfl) ck_law
  have HPP : HP ⟨K, fun n => [C0, C1][n]?, fun n => ([] : List (Addr × List Str))[n]?, none⟩ PP S0 K mg := hp_mk (T := isiT) (N := nfT) (XT := xisT) (Es := []) pc_ok rfl ⟨hc_mk pg0 hd0 po0 sa0 ha0 hn htk hm0 (List.forall_mem_cons.mpr ⟨na0_0, (List.forall_mem_cons.mpr ⟨na0_1, (fun _ h => nomatch h)⟩)⟩), ⟨hc_mk pg1 hd1 po1 sa1 ha1 hn htk hm1 (List.forall_mem_cons.mpr ⟨na1_0, (List.forall_mem_cons.mpr ⟨na1_1, (fun _ h => nomatch h)⟩)⟩), trivial⟩⟩
    (List.forall_mem_cons.mpr ⟨hdef_mk X N rfl a0 F0, (List.forall_mem_cons.mpr ⟨hdef_mk X N rfl a1 F1, (List.forall_mem_cons.mpr ⟨hdef_mk X N rfl a2 F2, (List.forall_mem_cons.mpr ⟨hdef_mk X N rfl a3 F3, (List.forall_mem_cons.mpr ⟨hdef_mk X N rfl a4 F4, (List.forall_mem_cons.mpr ⟨hdef_mk X N rfl a5 F5, (List.forall_mem_cons.mpr ⟨hdef_mk X N rfl a6 F6, (List.forall_mem_cons.mpr ⟨hdef_mk X N rfl a7 F7, (List.forall_mem_cons.mpr ⟨hdef_mk X N rfl a8 F8, (List.forall_mem_cons.mpr ⟨hdef_mk X N rfl a9 F9, (List.forall_mem_cons.mpr ⟨hdef_mk X N rfl a10 F10, (List.forall_mem_cons.mpr ⟨hdef_mk X N rfl a11 F11, (List.forall_mem_cons.mpr ⟨hdef_mk X N rfl a12 F12, (List.forall_mem_cons.mpr ⟨hdef_mk X N rfl a13 F13, (List.forall_mem_cons.mpr ⟨hdef_mk X N rfl a15 F15, (List.forall_mem_cons.mpr ⟨hdef_mk X N rfl a16 F16, (List.forall_mem_cons.mpr ⟨hdef_mk X N rfl a17 F17, (List.forall_mem_cons.mpr ⟨hdef_mk X N rfl a18 F18, (List.forall_mem_cons.mpr ⟨hdef_mk X N rfl a19 F19, (List.forall_mem_cons.mpr ⟨hdef_mk X N rfl a20 F20, (List.forall_mem_cons.mpr ⟨hdef_mk X N rfl a21 F21, (List.forall_mem_cons.mpr ⟨hdef_mk X N rfl a22 F22, (List.forall_mem_cons.mpr ⟨hdef_mk X N rfl a23 F23, (List.forall_mem_cons.mpr ⟨hdef_mk X N rfl a24 F24, (List.forall_mem_cons.mpr ⟨hdef_mk X N rfl a25 F25, (List.forall_mem_cons.mpr ⟨hdef_mk X N rfl a26 F26, (List.forall_mem_cons.mpr ⟨hdef_mk X N rfl a27 F27, (List.forall_mem_cons.mpr ⟨hdef_mk X N rfl a28 F28, (List.forall_mem_cons.mpr ⟨hdef_mk X N rfl a29 F29, (List.forall_mem_cons.mpr ⟨hdef_mk X N rfl a31 F31, (List.forall_mem_cons.mpr ⟨hdef_mk X N rfl a32 F32, (List.forall_mem_cons.mpr ⟨hdef_mk X N rfl a33 F33, (List.forall_mem_cons.mpr ⟨hdef_mk X N rfl a34 F34, (List.forall_mem_cons.mpr ⟨hdef_mk X N rfl a35 F35, (fun _ h => nomatch h)⟩)⟩)⟩)⟩)⟩)⟩)⟩)⟩)⟩)⟩)⟩)⟩)⟩)⟩)⟩)⟩)⟩)⟩)⟩)⟩)⟩)⟩)⟩)⟩)⟩)⟩)⟩)⟩)⟩)⟩)⟩)⟩)⟩)⟩)
    (List.forall_mem_cons.mpr ⟨⟨C0, f14, _, _, s_Evening__init_, PySem.W.mg_of X N aC0, ⟨mk0, a14_0, i14, kc0⟩, rfl, F14⟩, (List.forall_mem_cons.mpr ⟨⟨C1, f30, _, _, s_RawEvening__init_, PySem.W.mg_of X N aC1, ⟨mk1, a30_1, i30, kc1⟩, rfl, F30⟩, (fun _ h => nomatch h)⟩)⟩)
    (fun _ h => nomatch h)
    (List.forall_mem_cons.mpr ⟨glo_int X N qg0 (by rfl), (List.forall_mem_cons.mpr ⟨glo_tup (vs := [.int 0, .int 1]) X N rfl qg1 qg1l (by simp) (.cons ⟨g1t0, rfl⟩ (.cons ⟨g1t1, rfl⟩ (.nil))) (fun _ _ => .cons (.int _) (.cons (.int _) (.nil))) (by rfl), (fun _ h => nomatch h)⟩)⟩)
    (fun X0 hm => (List.forall_mem_cons.mpr ⟨ty_b (hm ▸ PySem.W.mg_none_of X N zt0) (by rfl) (by decide +kernel), (List.forall_mem_cons.mpr ⟨ty_b (hm ▸ PySem.W.mg_none_of X N zt1) (by rfl) (by decide +kernel), (List.forall_mem_cons.mpr ⟨ty_b (hm ▸ PySem.W.mg_none_of X N zt2) (by rfl) (by decide +kernel), (fun _ h => nomatch h)⟩)⟩)⟩))
    (List.forall_mem_cons.mpr ⟨PySem.W.mg_none_of X N z0, (List.forall_mem_cons.mpr ⟨PySem.W.mg_none_of X N z1, (List.forall_mem_cons.mpr ⟨PySem.W.mg_none_of X N z2, (List.forall_mem_cons.mpr ⟨PySem.W.mg_none_of X N z3, (List.forall_mem_cons.mpr ⟨PySem.W.mg_none_of X N z4, (List.forall_mem_cons.mpr ⟨PySem.W.mg_none_of X N z5, (List.forall_mem_cons.mpr ⟨PySem.W.mg_none_of X N z6, (List.forall_mem_cons.mpr ⟨PySem.W.mg_none_of X N z7, (List.forall_mem_cons.mpr ⟨PySem.W.mg_none_of X N z8, (List.forall_mem_cons.mpr ⟨PySem.W.mg_none_of X N z9, (fun _ h => nomatch h)⟩)⟩)⟩)⟩)⟩)⟩)⟩)⟩)⟩)⟩) rfl
    (fun _ h => nomatch h)
    (fun _ h => nomatch h)
    rfl (fun _ h => nomatch h)
    (fun _ h => nomatch h)
    (fun _ h => nomatch h)
  exact ⟨_, f35, _, "law", s_law, HPP, PySem.W.mg_of X N a35, fun_mk (st := s_law) l35 c35 k35, ck_law, fun s v => .of_eq rfl⟩
-- run
end K38
open PySem PySem.W PyProof.Rows in
theorem PySem.Challenge.cw_quitsways_k38_whole_units_of_evenings_holds : PySem.Challenge.rw_quitsways_k38_whole_units_of_evenings.Holds := by
  w_on; o_law; k_head; (case hw => w_witness2)
  k_fill
  refine Mq.law_walk (l := PySem.Challenge.rw_quitsways_k38_whole_units_of_evenings) K38.PP K38.S0 K38.d_law "_law_script" 110 rfl rfl ⟨rfl, by decide, by decide⟩ K38.runs rfl (fun w h Y => PySem.W.kIn_of Y) ?F
  case F =>
    intro w mg h KX G
    refine' K38.all_mk KX G ?aC0 ?mk0 ?kc0 ?pg0 ?hd0 ?po0 ?sa0 ?ha0 ?hm0 ?na0_0 ?na0_1 ?aC1 ?mk1 ?kc1 ?pg1 ?hd1 ?po1 ?sa1 ?ha1 ?hm1 ?na1_0 ?na1_1 ?hn ?htk ?z0 ?z1 ?z2 ?z3 ?z4 ?z5 ?z6 ?z7 ?z8 ?z9 ?zt0 ?zt1 ?zt2 ?qg0 ?qg1 ?qg1l ?a0 ?l0 ?c0 ?k0 ?a1 ?l1 ?c1 ?k1 ?a2 ?l2 ?c2 ?k2 ?a3 ?l3 ?c3 ?k3 ?a4 ?l4 ?c4 ?k4 ?a5 ?l5 ?c5 ?k5 ?a6 ?l6 ?c6 ?k6 ?a7 ?l7 ?c7 ?k7 ?a8 ?l8 ?c8 ?k8 ?a9 ?l9 ?c9 ?k9 ?a10 ?l10 ?c10 ?k10 ?a11 ?l11 ?c11 ?k11 ?a12 ?l12 ?c12 ?k12 ?a13 ?l13 ?c13 ?k13 ?a14_0 ?i14 ?l14 ?c14 ?k14 ?a15 ?l15 ?c15 ?k15 ?a16 ?l16 ?c16 ?k16 ?a17 ?l17 ?c17 ?k17 ?a18 ?l18 ?c18 ?k18 ?a19 ?l19 ?c19 ?k19 ?a20 ?l20 ?c20 ?k20 ?a21 ?l21 ?c21 ?k21 ?a22 ?l22 ?c22 ?k22 ?a23 ?l23 ?c23 ?k23 ?a24 ?l24 ?c24 ?k24 ?a25 ?l25 ?c25 ?k25 ?a26 ?l26 ?c26 ?k26 ?a27 ?l27 ?c27 ?k27 ?a28 ?l28 ?c28 ?k28 ?a29 ?l29 ?c29 ?k29 ?a30_1 ?i30 ?l30 ?c30 ?k30 ?a31 ?l31 ?c31 ?k31 ?a32 ?l32 ?c32 ?k32 ?a33 ?l33 ?c33 ?k33 ?a34 ?l34 ?c34 ?k34 ?a35 ?l35 ?c35 ?k35
    (case aC0 => k_is)
    (case mk0 => k_is)
    (case kc0 => k_is)
    (case pg0 => k_is)
    (case hd0 => k_is)
    (case po0 => k_is)
    (case sa0 => k_is)
    (case ha0 => k_is)
    (case hm0 => k_is)
    (case na0_0 => k_is)
    (case na0_1 => k_is)
    (case aC1 => k_is)
    (case mk1 => k_is)
    (case kc1 => k_is)
    (case pg1 => k_is)
    (case hd1 => k_is)
    (case po1 => k_is)
    (case sa1 => k_is)
    (case ha1 => k_is)
    (case hm1 => k_is)
    (case na1_0 => k_is)
    (case na1_1 => k_is)
    (case hn => k_is)
    (case htk => k_is)
    (case z0 => k_is)
    (case z1 => k_is)
    (case z2 => k_is)
    (case z3 => k_is)
    (case z4 => k_is)
    (case z5 => k_is)
    (case z6 => k_is)
    (case z7 => k_is)
    (case z8 => k_is)
    (case z9 => k_is)
    (case zt0 => k_is)
    (case zt1 => k_is)
    (case zt2 => k_is)
    (case qg0 => k_is)
    (case qg1 => k_is)
    (case qg1l => k_is)
    (case a0 => k_is)
    (case l0 => k_is)
    (case c0 => k_is)
    (case k0 => k_is)
    (case a1 => k_is)
    (case l1 => k_is)
    (case c1 => k_is)
    (case k1 => k_is)
    (case a2 => k_is)
    (case l2 => k_is)
    (case c2 => k_is)
    (case k2 => k_is)
    (case a3 => k_is)
    (case l3 => k_is)
    (case c3 => k_is)
    (case k3 => k_is)
    (case a4 => k_is)
    (case l4 => k_is)
    (case c4 => k_is)
    (case k4 => k_is)
    (case a5 => k_is)
    (case l5 => k_is)
    (case c5 => k_is)
    (case k5 => k_is)
    (case a6 => k_is)
    (case l6 => k_is)
    (case c6 => k_is)
    (case k6 => k_is)
    (case a7 => k_is)
    (case l7 => k_is)
    (case c7 => k_is)
    (case k7 => k_is)
    (case a8 => k_is)
    (case l8 => k_is)
    (case c8 => k_is)
    (case k8 => k_is)
    (case a9 => k_is)
    (case l9 => k_is)
    (case c9 => k_is)
    (case k9 => k_is)
    (case a10 => k_is)
    (case l10 => k_is)
    (case c10 => k_is)
    (case k10 => k_is)
    (case a11 => k_is)
    (case l11 => k_is)
    (case c11 => k_is)
    (case k11 => k_is)
    (case a12 => k_is)
    (case l12 => k_is)
    (case c12 => k_is)
    (case k12 => k_is)
    (case a13 => k_is)
    (case l13 => k_is)
    (case c13 => k_is)
    (case k13 => k_is)
    (case a14_0 => k_is)
    (case i14 => k_is)
    (case l14 => k_is)
    (case c14 => k_is)
    (case k14 => k_is)
    (case a15 => k_is)
    (case l15 => k_is)
    (case c15 => k_is)
    (case k15 => k_is)
    (case a16 => k_is)
    (case l16 => k_is)
    (case c16 => k_is)
    (case k16 => k_is)
    (case a17 => k_is)
    (case l17 => k_is)
    (case c17 => k_is)
    (case k17 => k_is)
    (case a18 => k_is)
    (case l18 => k_is)
    (case c18 => k_is)
    (case k18 => k_is)
    (case a19 => k_is)
    (case l19 => k_is)
    (case c19 => k_is)
    (case k19 => k_is)
    (case a20 => k_is)
    (case l20 => k_is)
    (case c20 => k_is)
    (case k20 => k_is)
    (case a21 => k_is)
    (case l21 => k_is)
    (case c21 => k_is)
    (case k21 => k_is)
    (case a22 => k_is)
    (case l22 => k_is)
    (case c22 => k_is)
    (case k22 => k_is)
    (case a23 => k_is)
    (case l23 => k_is)
    (case c23 => k_is)
    (case k23 => k_is)
    (case a24 => k_is)
    (case l24 => k_is)
    (case c24 => k_is)
    (case k24 => k_is)
    (case a25 => k_is)
    (case l25 => k_is)
    (case c25 => k_is)
    (case k25 => k_is)
    (case a26 => k_is)
    (case l26 => k_is)
    (case c26 => k_is)
    (case k26 => k_is)
    (case a27 => k_is)
    (case l27 => k_is)
    (case c27 => k_is)
    (case k27 => k_is)
    (case a28 => k_is)
    (case l28 => k_is)
    (case c28 => k_is)
    (case k28 => k_is)
    (case a29 => k_is)
    (case l29 => k_is)
    (case c29 => k_is)
    (case k29 => k_is)
    (case a30_1 => k_is)
    (case i30 => k_is)
    (case l30 => k_is)
    (case c30 => k_is)
    (case k30 => k_is)
    (case a31 => k_is)
    (case l31 => k_is)
    (case c31 => k_is)
    (case k31 => k_is)
    (case a32 => k_is)
    (case l32 => k_is)
    (case c32 => k_is)
    (case k32 => k_is)
    (case a33 => k_is)
    (case l33 => k_is)
    (case c33 => k_is)
    (case k33 => k_is)
    (case a34 => k_is)
    (case l34 => k_is)
    (case c34 => k_is)
    (case k34 => k_is)
    (case a35 => k_is)
    (case l35 => k_is)
    (case c35 => k_is)
    (case k35 => k_is)
