import PyProof.Rows.All
import Wide.All
import OpenK.AllK
import Wide.FinOn
import HandS.ForMost
import KE.SortData
import KE.LtData
import KE.DataIsa
import KE.DataMinMax
import HandS.Zip
import HandS.Walk
import KE.GoesEnum
import HandS.TupAny
import HandS.TupMul
import HandS.Wide
import HandS.Deep
import HandS.Style
import HandS.TupLe
import KE.DataCmp
import HandS.Sort
import HandS.Conv
import HandS.More
import HandS.Rev
import HandS.SetFor
import HandS.TupSets
import HandS.Strs
import HandS.Small
import PyProof.DictUpdate
import HandS.Ends
import HandS.IsInst
import HandS.Defaults
import HandS.Head0
import HandS.Head1
import HandS.Head2
import HandS.HeadEnd
import HandS.HeadHook1
import HandS.HeadHook2
import KE.BitLaws
import PyProof.ReprLen
import PySem.Challenge.RW_staysjoined_k80_whole_walks_and_classes
set_option Elab.async false
set_option linter.all false
set_option autoImplicit false
set_option maxRecDepth 100000
/-! # Core: a small language of pure data, its evaluator.
Cells hold data with a state: fz shared and never changed again, ow the name's own, pn an argument that is changed for the caller too. -/
namespace Cr
open PySem

abbrev D := PyData

mutual
/-- no list, no dict within -/
def imm : D → Bool
  | .none => true
  | .bool _ => true
  | .int _ => true
  | .str _ => true
  | .tuple xs => imms xs
  | .list _ => false
  | .dict _ => false
def imms : List D → Bool
  | [] => true
  | x :: xs => imm x && imms xs
end

inductive Stt | fz | ow | pn | lo
  deriving DecidableEq, Repr
abbrev Cell := Option (D × Stt)
abbrev Rho := List Cell

def nth : Rho → Nat → Cell
  | [], _ => none
  | c :: _, 0 => c
  | _ :: r, n + 1 => nth r n
def put : Rho → Nat → Cell → Rho
  | [], _, _ => []
  | _ :: r, 0, c => c :: r
  | x :: r, n + 1, c => x :: put r n c

/-- an operand: a name, or a value that was made (true: nobody else has it) -/
inductive Opd | nm (i : Nat) | val (d : D) (o : Bool)

/-- what a name holds, unless it is taken away -/
def got (r : Rho) (i : Nat) : Option (D × Stt) :=
  match nth r i with
  | some (_, .lo) => none
  | c => c
def dat (r : Rho) : Opd → Option D
  | .nm i => (got r i).map (·.1)
  | .val d _ => some d
def dats (r : Rho) : List Opd → Option (List D)
  | [] => some []
  | o :: os => (dat r o).bind fun d => (dats r os).map (d :: ·)

/-- from here on nobody changes what the name holds -/
def frz1 (r : Rho) (i : Nat) : Option Rho :=
  match got r i with
  | some (d, st) => if imm d then some r else match st with
    | .fz => some r
    | .ow => some (put r i (some (d, .fz)))
    | _ => none
  | none => none
def frzs (r : Rho) : List Opd → Option Rho
  | [] => some r
  | .nm i :: os => (frz1 r i).bind fun r' => frzs r' os
  | .val _ _ :: os => frzs r os

/-- the end of an operation: what it gives may hold parts of its operands (cp: a new list or dict on top) -/
def fin (cp : Bool) (top : List D) (d : D) (os : List Opd) (r : Rho) : Option (Opd × Rho) :=
  if imm d then some (.val d true, r)
  else if cp && imms top then some (.val d true, r)
  else (frzs r os).map fun r' => (.val d false, r')

/-- each has nothing that changes, or is nobody else's -/
def allOwn (r : Rho) : List Opd → Bool
  | [] => true
  | .nm i :: os => (match got r i with | some (d, _) => imm d | none => false) && allOwn r os
  | .val d o :: os => (imm d || o) && allOwn r os

/-! ### operations on data -/
def small (n : Nat) : Bool := decide (n ≤ 1000000)
def mulOk (i j : Int) : Bool := decide (i.natAbs.log2 + j.natAbs.log2 < 1000000)
def divOk (j : Int) : Bool := decide (0 < j) && decide (j.natAbs.log2 < 9000)

def arith (o : Operator) (i j : Int) : Option Int :=
  match o with
  | .Add => some (i + j)
  | .Sub => some (i - j)
  | .Mult => if mulOk i j then some (i * j) else none
  | .FloorDiv => if divOk j then some (i / j) else none
  | .Mod => if decide (0 < j) then some (i % j) else none
  | .Pow => if decide (0 ≤ j) && decide (j ≤ 1000) && decide (i.natAbs < 2 ^ 64) then some (i ^ j.toNat) else none
  | .LShift => if decide (0 ≤ j) && decide (j ≤ 1000) && decide (i.natAbs < 2 ^ 64) then some (i * 2 ^ j.toNat) else none
  | .RShift => if decide (0 ≤ j) then some (i / 2 ^ j.toNat) else none
  | .BitAnd => some (Builtin.bitAnd i j)
  | .BitOr => some (Builtin.bitOr i j)
  | .BitXor => some (Builtin.bitXor i j)
  | _ => none

/-- what a op b gives; the list: the items of a new list -/
def opD (o : Operator) (a b : D) : Option (D × List D) :=
  match a, b with
  | .int i, .int j => (arith o i j).map fun k => (.int k, [])
  | .str x, .str y => if (o == .Add) && small (x.length + y.length) then some (.str (x ++ y), []) else none
  | .tuple xs, .tuple ys => if (o == .Add) && small (xs.length + ys.length) then some (.tuple (xs ++ ys), xs ++ ys) else none
  | .list xs, .list ys => if (o == .Add) && small (xs.length + ys.length) then some (.list (xs ++ ys), xs ++ ys) else none
  | .list xs, .int k => if (o == .Mult) && decide (k ≤ 1000) && decide (-1000 ≤ k) && small (xs.length * k.toNat) then
      some (.list (List.replicate k.toNat xs).flatten, (List.replicate k.toNat xs).flatten) else none
  | .tuple xs, .int k => if (o == .Mult) && decide (k ≤ 1000) && decide (2 ≤ k) && decide (1 ≤ xs.length) && decide (xs.length ≤ 1000) then
      some (.tuple (List.replicate k.toNat xs).flatten, (List.replicate k.toNat xs).flatten) else none
  | _, _ => none

def isScal : D → Bool
  | .list _ => false
  | .tuple _ => false
  | .dict _ => false
  | _ => true
def eqOk (a b : D) : Bool := (isScal a && isScal b) || (SeqAt.shaped a && SeqAt.shaped b)

def isNon : D → Bool
  | .none => true
  | _ => false
/-- what < and the like take -/
def ordOk (a b : D) : Bool := W.alike a b && !isNon a && SeqAt.shaped a && SeqAt.shaped b
def dkeys : List (D × D) → D → Option D
  | [], _ => none
  | (k, v) :: r, x => if PyData.eqv k x then some v else dkeys r x
def isKey : D → Bool
  | .int _ => true
  | .str _ => true
  | _ => false

def cmpD (o : CmpOp) (a b : D) : Option Bool :=
  match o with
  | .Eq => if eqOk a b then some (PyData.eqv a b) else none
  | .NotEq => if eqOk a b then some (!PyData.eqv a b) else none
  | .Lt => if ordOk a b then some (W.dataLt a b) else none
  | .LtE => if ordOk a b then some (!W.dataLt b a) else none
  | .Gt => if ordOk a b then some (W.dataLt b a) else none
  | .GtE => if ordOk a b then some (!W.dataLt a b) else none
  | .Is => match b with
    | .none => some (match a with | .none => true | _ => false)
    | .bool y => match a with
      | .bool x => some (x == y)
      | _ => none
    | _ => none
  | .IsNot => match b with
    | .none => some (match a with | .none => false | _ => true)
    | .bool y => match a with
      | .bool x => some (!(x == y))
      | _ => none
    | _ => none
  | .In => match b with
    | .list ds => if SeqAt.shaped a && SeqAt.shaped b then some (ds.any fun z => PyData.eqv z a) else none
    | .tuple ds => if SeqAt.shaped a && SeqAt.shaped b then some (ds.any fun z => PyData.eqv z a) else none
    | .dict kvs => if isKey a then some (dkeys kvs a).isSome else none
    | _ => none
  | .NotIn => match b with
    | .list ds => if SeqAt.shaped a && SeqAt.shaped b then some (!ds.any fun z => PyData.eqv z a) else none
    | .tuple ds => if SeqAt.shaped a && SeqAt.shaped b then some (!ds.any fun z => PyData.eqv z a) else none
    | .dict kvs => if isKey a then some (!(dkeys kvs a).isSome) else none
    | _ => none

/-- the place of an index, counted from the end if below 0 -/
abbrev ixD (n : Nat) (i : Int) : Option Nat := L2.ixN n i
def idxD (a b : D) : Option D :=
  match a, b with
  | .list xs, .int i => (ixD xs.length i).bind fun j => xs[j]?
  | .tuple xs, .int i => (ixD xs.length i).bind fun j => xs[j]?
  | .dict kvs, k => if isKey k then dkeys kvs k else none
  | _, _ => none
def cutD (xs : List D) (lo hi : Option Int) : List D := (xs.drop (HT.sIx xs.length 0 lo)).take (HT.sIx xs.length xs.length hi - HT.sIx xs.length 0 lo)
def slcD (a : D) (lo hi : Option Int) : Option (D × List D) :=
  match a with
  | .list xs => some (.list (cutD xs lo hi), cutD xs lo hi)
  | .tuple xs => some (.tuple (cutD xs lo hi), cutD xs lo hi)
  | _ => none
def rvsD (a : D) : Option (D × List D) :=
  match a with
  | .list xs => some (.list xs.reverse, xs.reverse)
  | .tuple xs => some (.tuple xs.reverse, xs.reverse)
  | _ => none

def intsD : List D → Option (List Int)
  | [] => some []
  | .int i :: r => (intsD r).map (i :: ·)
  | _ => none
def boolsD : List D → Option (List Bool)
  | [] => some []
  | .bool b :: r => (boolsD r).map (b :: ·)
  | _ => none
def items : D → Option (List D)
  | .list xs => some xs
  | .tuple xs => some xs
  | _ => none

mutual
/-- a bound of the length of repr -/
def rlen : D → Nat
  | .none => 4
  | .bool _ => 5
  | .int i => i.natAbs.log2 + 3
  | .str x => 10 * x.length + 2
  | .list xs => rlens xs + 2
  | .tuple xs => rlens xs + 3
  | .dict kvs => rlenk kvs + 2
def rlens : List D → Nat
  | [] => 0
  | x :: xs => rlen x + 2 + rlens xs
def rlenk : List (D × D) → Nat
  | [] => 0
  | (k, v) :: r => rlen k + rlen v + 4 + rlenk r
end
def reprOk (d : D) : Bool := d.showable && !d.hasDict && small d.shown.length && decide (d.depth ≤ 64)

/-- sorting -/
def alikes : List D → Bool
  | [] => true
  | x :: xs => W.alike x x && xs.all (fun y => W.alike x y && W.alike y x) && alikes xs
/-- tuples with a first item -/
def tupsFull : List D → Bool
  | [] => true
  | .tuple (_ :: _) :: xs => tupsFull xs
  | _ :: _ => false
/-- neither None nor tuples -/
def noTups : List D → Bool
  | [] => true
  | .tuple _ :: _ => false
  | .none :: _ => false
  | _ :: xs => noTups xs
def sortOk (xs : List D) : Bool := alikes xs && (tupsFull xs || noTups xs) && small xs.length && xs.all fun x => SeqAt.shaped x
def sortD (xs : List D) : List D := xs.mergeSort (W.dataLe false id)
/-- the items of tuples of ints -/
def tupsD : List D → Option (List (List Int))
  | [] => some []
  | .tuple xs :: r => (intsD xs).bind fun ns => (tupsD r).map (ns :: ·)
  | _ => none
/-- each but once -/
def onceD : List D → List D
  | [] => []
  | x :: xs => x :: (onceD xs).filter fun y => !PyData.eqv x y
inductive BI
  | len | abs | int | max2 | min2 | maxs | mins | sum | sorted | tuple | list | all | any | repr | sset | lset | lrng | trng | dvm
  deriving DecidableEq, Repr

def intRange : Nat → Int → List D
  | 0, _ => []
  | n + 1, i => .int i :: intRange n (i + 1)

/-- a built-in function by its data: what it gives; the items of a new list -/
def biD : BI → List D → Option (D × List D)
  | .len, [.list xs] => some (.int xs.length, [])
  | .len, [.tuple xs] => some (.int xs.length, [])
  | .len, [.str x] => if small x.length then some (.int x.length, []) else none
  | .abs, [.int i] => some (.int i.natAbs, [])
  | .int, [.int i] => some (.int i, [])
  | .int, [.bool b] => some (.int (if b then 1 else 0), [])
  | .max2, [.int i, .int j] => some (.int (if j > i then j else i), [])
  | .min2, [.int i, .int j] => some (.int (if j < i then j else i), [])
  | .max2, [.tuple xs, .tuple ys] => if alikes [.tuple xs, .tuple ys] && SeqAt.shaped (.tuple xs) && SeqAt.shaped (.tuple ys) then some (if W.dataLt (.tuple xs) (.tuple ys) then .tuple ys else .tuple xs, [.tuple xs, .tuple ys]) else none
  | .min2, [.tuple xs, .tuple ys] => if alikes [.tuple xs, .tuple ys] && SeqAt.shaped (.tuple xs) && SeqAt.shaped (.tuple ys) then some (if W.dataLt (.tuple ys) (.tuple xs) then .tuple ys else .tuple xs, [.tuple xs, .tuple ys]) else none
  | .sum, [.list xs] => (intsD xs).map fun ns => (.int ns.sum, [])
  | .mins, [.list (x :: xs)] => if alikes (x :: xs) && ((x :: xs).all fun x => SeqAt.shaped x && !isNon x) then some (W.minD x xs, [W.minD x xs]) else none
  | .maxs, [.list (x :: xs)] => if alikes (x :: xs) && ((x :: xs).all fun x => SeqAt.shaped x && !isNon x) then some (W.maxD x xs, [W.maxD x xs]) else none
  | .sorted, [.list xs] => if sortOk xs then some (.list (sortD xs), sortD xs) else none
  | .sorted, [.dict kvs] => if sortOk (kvs.map (·.1)) && decide (kvs.length < 64) && (intsD (kvs.map (·.1))).isSome then some (.list (sortD (kvs.map (·.1))), sortD (kvs.map (·.1))) else none
  | .tuple, [.list xs] => some (.tuple xs, xs)
  | .tuple, [.tuple xs] => some (.tuple xs, xs)
  | .list, [.list xs] => some (.list xs, xs)
  | .list, [.tuple xs] => some (.list xs, xs)
  | .all, [.list xs] => (boolsD xs).map fun bs => (.bool (bs.all id), [])
  | .any, [.list xs] => (boolsD xs).map fun bs => (.bool (bs.any id), [])
  | .repr, [d] => if reprOk d then some (.str d.shown, []) else none
  | .sset, [.list xs] => if decide (xs.length < 64) && ((intsD xs).isSome || ((tupsD xs).isSome && tupsFull xs)) then some (.list (sortD (onceD xs)), sortD (onceD xs)) else none
  | .sset, [.tuple xs] => if decide (xs.length < 64) && (intsD xs).isSome then some (.list (sortD (onceD xs)), sortD (onceD xs)) else none
  | .lrng, [.int n] => if decide (n ≤ 100000) && decide (-100000 ≤ n) then some (.list (intRange n.toNat 0), intRange n.toNat 0) else none
  | .trng, [.int n] => if decide (n ≤ 100000) && decide (-100000 ≤ n) then some (.tuple (intRange n.toNat 0), []) else none
  | _, _ => none

/-! ### the language -/
inductive Tg | nm (i : Nat) | tup (ts : List Tg)
inductive Ty | int | bool | str | tuple | list | dict
  deriving DecidableEq, Repr
inductive MT | get | index
  deriving DecidableEq, Repr

mutual
inductive CE
  | var (i : Nat)
  | con (d : D)
  | glb (x : Str) (d : D)
  | op2 (o : Operator) (a b : CE)
  | neg (a : CE)
  | cmp (o : CmpOp) (a b : CE)
  | cmp3 (o1 o2 : CmpOp) (a b c : CE)
  | nt (a : CE)
  | an (a b : CE)
  | orr (a b : CE)
  | ife (c a b : CE)
  | tup (es : CEs)
  | lst (es : CEs)
  | dic (ks vs : CEs)
  | idx (a b : CE)
  | slc (a : CE) (lo hi : CEo)
  | rvs (a : CE)
  | call (f : Nat) (es : CEs)
  | callp (f : Nat) (i : Nat) (es : CEs)
  | callk (f : Nat) (ix : List Nat) (es : CEs)
  | bi (b : BI) (es : CEs)
  | isi (e : CE) (ts : List Ty)
  | get1 (o k : CE)
  | get2 (o k x : CE)
  | index (o x : CE)
  | pop0 (i : Nat)
  | pop1 (i : Nat) (e : CE)
  | comp (elt : CE) (tg : Tg) (it : CIt) (ln : Bool) (cond : CEo) (own : List Nat)
inductive CEs
  | nil
  | cons (e : CE) (es : CEs)
inductive CEo
  | no
  | yes (e : CE)
inductive CIt
  | ofE (e : CE)
  | rng1 (e : CE)
  | rng2 (a b : CE)
  | enum (e : CE)
  | zip (a b : CE)
end

mutual
inductive CS
  | set (i : Nat) (e : CE)
  | par2 (i j : Nat) (a b : CE)
  | unp (t : Tg) (e : CE)
  | sub (i : Nat) (k e : CE)
  | aug (i : Nat) (o : Operator) (e : CE)
  | augs (i : Nat) (k : CE) (o : Operator) (e : CE)
  | expr (e : CE)
  | app (i : Nat) (e : CE)
  | ext (i : Nat) (e : CE)
  | upd (i : Nat) (e : CE)
  | rem (i : Nat) (e : CE)
  | ife (c : CE) (a b : CSs)
  | forr (t : Tg) (it : CIt) (ln : Bool) (body : CSs)
  | whil (c : CE) (body : CSs)
  | ret (e : CE)
  | retN
  | brk
  | cnt
  | pas
  | rai
  | spoil (j i : Nat)
inductive CSs
  | nil
  | cons (s : CS) (ss : CSs)
end

/-! ### the evaluator; call f args: what is given, whether it is new, what the first argument is then -/
abbrev CallT := Nat → List (D × Stt) → Option (D × Bool × D)

/-- the arguments as the callee gets them -/
def argOf (r : Rho) : Opd → Option (D × Stt)
  | .nm i => match got r i with
    | some (d, _) => some (d, if imm d then .ow else .fz)
    | none => none
  | .val d o => some (d, if imm d || o then .ow else .fz)
def argsOf (r : Rho) : List Opd → Option (List (D × Stt))
  | [] => some []
  | o :: os => (argOf r o).bind fun a => (argsOf r os).map (a :: ·)

/-- behind a call -/
def endCall (d : D) (o : Bool) (os : List Opd) (r : Rho) : Option (Opd × Rho) :=
  if imm d then some (.val d true, r)
  else if o then some (.val d true, r)
  else (frzs r os).map fun r' => (.val d false, r')

def noName (i : Nat) : List Opd → Bool
  | [] => true
  | .nm j :: os => decide (i ≠ j) && noName i os
  | .val _ _ :: os => noName i os

/-- a name that may be given another value -/
def open1 (r : Rho) (i : Nat) : Bool :=
  decide (i < r.length) && match nth r i with
  | some (_, .pn) => false
  | some (_, .lo) => false
  | _ => true
def opens (r : Rho) (l : List Nat) : Bool := l.all (open1 r)
mutual
/-- a target gets a value (w: nobody else has it) -/
def asg (w : Bool) : Tg → D → Rho → Option Rho
  | .nm i, d, r => if open1 r i then some (put r i (some (d, if imm d || w then .ow else .fz))) else none
  | .tup ts, .tuple ds, r => asgs w ts ds r
  | .tup _, _, _ => none
def asgs (w : Bool) : List Tg → List D → Rho → Option Rho
  | [], [], r => some r
  | t :: ts, d :: ds, r => (asg w t d r).bind fun r' => asgs w ts ds r'
  | _, _, _ => none
end

def wipeR (r : Rho) : List Nat → Rho
  | [] => r
  | v :: vs => put (wipeR r vs) v none

/-- names that a comprehension's own ones hide come back, where they have nothing that changes -/
def restR (r0 r : Rho) : List Nat → Rho
  | [] => r
  | v :: vs => match nth r0 v with
    | some (d, .ow) => if imm d then put (restR r0 r vs) v (some (d, .ow)) else restR r0 r vs
    | _ => restR r0 r vs

/-- where the items come from: a name that is taken away meanwhile is given back -/
def takeOpd (ln : Bool) (o : Opd) (r : Rho) : Option (List D × Rho) :=
  match o with
  | .nm i => match got r i with
    | some (d, st) => match d with
      | .list ds => if ln && imms ds && decide (st = .ow) then some (ds, put r i (some (d, .lo))) else (frz1 r i).map fun r' => (ds, r')
      | .tuple ds => (frz1 r i).map fun r' => (ds, r')
      | _ => none
    | none => none
  | .val d _ => (items d).map fun ds => (ds, r)
/-- what was taken away comes back -/
def backOpd (ln : Bool) (o : Opd) (r0 r : Rho) : Rho :=
  match o with
  | .nm i => match got r0 i with
    | some (d, st) => match d with
      | .list ds => if ln && imms ds && decide (st = .ow) then put r i (some (d, .ow)) else r
      | _ => r
    | none => r
  | .val _ _ => r

def enumD : Nat → List D → List D
  | _, [] => []
  | n, x :: xs => .tuple [.int n, x] :: enumD (n + 1) xs
def isList : D → Bool
  | .list _ => true
  | _ => false
/-- both lists or both tuples -/
def sameK : Option D → Option D → Bool
  | some (.list _), some (.list _) => true
  | some (.tuple _), some (.tuple _) => true
  | _, _ => false
def zipD : List D → List D → List D
  | x :: xs, y :: ys => .tuple [x, y] :: zipD xs ys
  | _, _ => []

/-- the items of a comprehension, one after another -/
def loopC (elt : Rho → Option (D × Bool × Rho)) (cond : Rho → Option (Bool × Rho)) (tg : D → Rho → Option Rho) (own : List Nat) : List D → Rho → List D → Bool → Option (List D × Bool × Rho)
  | [], r, acc, o => some (acc, o, r)
  | x :: xs, r, acc, o => (tg x (wipeR r own)).bind fun r1 => (cond r1).bind fun (b, r2) =>
      if b then (elt r2).bind fun (y, o', r3) => loopC elt cond tg own xs r3 (acc ++ [y]) (o && o') else loopC elt cond tg own xs r2 acc o

/-- an operand's value, for keeps -/
def keep (o : Opd) (r : Rho) : Option (D × Bool × Rho) :=
  match o with
  | .nm i => match got r i with
    | some (d, _) => if imm d then some (d, true, r) else (frz1 r i).map fun r' => (d, false, r')
    | none => none
  | .val d o => some (d, imm d || o, r)

def tyD (d : D) : Ty → Bool
  | .int => match d with | .int _ => true | .bool _ => true | _ => false
  | .bool => match d with | .bool _ => true | _ => false
  | .str => match d with | .str _ => true | _ => false
  | .tuple => match d with | .tuple _ => true | _ => false
  | .list => match d with | .list _ => true | _ => false
  | .dict => match d with | .dict _ => true | _ => false

/-- a keyword call's arguments in the parameters' order: the keywords stand in the opposite order -/
def permD (ix : List Nat) (os : List Opd) (n : Nat) : Option (List Opd) := if ix = (List.range n).reverse then some os.reverse else none
def indexD (x : D) : List D → Nat → Option Nat
  | [], _ => none
  | y :: ys, n => if PyData.eqv y x then some n else indexD x ys (n + 1)

/-- a new dict's entries; a key given again takes the later value -/
def dput (m : List (D × D)) (k v : D) : List (D × D) := if m.any (fun p => PyData.eqv p.1 k) then m.map (fun p => if PyData.eqv p.1 k then (p.1, v) else p) else m ++ [(k, v)]
def dputs : List (D × D) → List (D × D) → List (D × D)
  | m, [] => m
  | m, (k, v) :: r => dputs (dput m k v) r

/-- a list, a dict that may be changed -/
def isListC : Cell → Bool
  | some (.list _, .ow) => true
  | some (.list _, .pn) => true
  | _ => false
def isDictC : Cell → Bool
  | some (.dict _, .ow) => true
  | some (.dict _, .pn) => true
  | _ => false
def isDictO : Option D → Bool
  | some (.dict _) => true
  | _ => false
def get1D (a k : D) : Option D :=
  match a with
  | .dict kvs => if isKey k then some ((dkeys kvs k).getD .none) else none
  | _ => none
def get2D (a k c : D) : Option D :=
  match a with
  | .dict kvs => if isKey k then some ((dkeys kvs k).getD c) else none
  | _ => none
/-- names that are changed in place: their data -/
def ownD (r : Rho) (i : Nat) : Option (D × Stt) :=
  match nth r i with
  | some (d, .ow) => some (d, .ow)
  | some (d, .pn) => some (d, .pn)
  | _ => none

variable (call : CallT)
mutual
def ev : CE → Rho → Option (Opd × Rho)
  | .var i, r => (got r i).map fun _ => (.nm i, r)
  | .con d, r => some (.val d true, r)
  | .glb _ d, r => some (.val d true, r)
  | .op2 o a b, r => (ev a r).bind fun (x, r1) => (ev b r1).bind fun (y, r2) =>
      (dat r2 x).bind fun da => (dat r2 y).bind fun db => (opD o da db).bind fun (d, top) => fin true top d [x, y] r2
  | .neg a, r => (ev a r).bind fun (x, r1) => match dat r1 x with
      | some (.int i) => some (.val (.int (-i)) true, r1)
      | _ => none
  | .cmp o a b, r => (ev a r).bind fun (x, r1) => (ev b r1).bind fun (y, r2) =>
      (dat r2 x).bind fun da => (dat r2 y).bind fun db => (cmpD o da db).map fun c => (.val (.bool c) true, r2)
  | .cmp3 o1 o2 a b c, r => (ev a r).bind fun (x, r1) => (ev b r1).bind fun (y, r2) =>
      (dat r2 x).bind fun da => (dat r2 y).bind fun db => (cmpD o1 da db).bind fun k =>
        if k then (ev c r2).bind fun (z, r3) => (dat r3 y).bind fun db => (dat r3 z).bind fun dc => (cmpD o2 db dc).map fun k2 => (.val (.bool k2) true, r3)
        else some (.val (.bool false) true, r2)
  | .nt a, r => (ev a r).bind fun (x, r1) => match dat r1 x with
      | some (.bool b) => some (.val (.bool (!b)) true, r1)
      | _ => none
  | .an a b, r => (ev a r).bind fun (x, r1) => match dat r1 x with
      | some (.bool c) => if c then ev b r1 else some (.val (.bool false) true, r1)
      | _ => none
  | .orr a b, r => (ev a r).bind fun (x, r1) => match dat r1 x with
      | some (.bool c) => if c then some (.val (.bool true) true, r1) else ev b r1
      | _ => none
  | .ife c a b, r => (ev c r).bind fun (x, r1) => match dat r1 x with
      | some (.bool c) => if c then ev a r1 else ev b r1
      | _ => none
  | .tup es, r => (evs es r).bind fun (os, r1) => (dats r1 os).bind fun ds => if small ds.length then
      if allOwn r1 os then some (.val (.tuple ds) true, r1) else (frzs r1 os).map fun r' => (.val (.tuple ds) false, r') else none
  | .lst es, r => (evs es r).bind fun (os, r1) => (dats r1 os).bind fun ds => if small ds.length then
      if allOwn r1 os then some (.val (.list ds) true, r1) else (frzs r1 os).map fun r' => (.val (.list ds) false, r') else none
  | .dic ks vs, r => (evs ks r).bind fun (os, r1) => (evs vs r1).bind fun (os', r2) => (dats r2 os).bind fun dk => (dats r2 os').bind fun dv =>
      if decide (dk.length ≤ 1) && decide (dk.length = dv.length) && dk.all isKey && imms dv then some (.val (.dict (dputs [] (dk.zip dv))) true, r2) else none
  | .idx a b, r => (ev a r).bind fun (x, r1) => (ev b r1).bind fun (y, r2) =>
      (dat r2 x).bind fun da => (dat r2 y).bind fun db => (idxD da db).bind fun d => fin false [] d [x, y] r2
  | .slc a lo hi, r => (ev a r).bind fun (x, r1) => (evo lo r1).bind fun (l, r2) => (evo hi r2).bind fun (h, r3) =>
      (dat r3 x).bind fun da => (slcD da l h).bind fun (d, top) => fin true top d [x] r3
  | .rvs a, r => (ev a r).bind fun (x, r1) => (dat r1 x).bind fun da => (rvsD da).bind fun (d, top) => fin true top d [x] r1
  | .call f es, r => (evs es r).bind fun (os, r1) => (argsOf r1 os).bind fun as => (call f as).bind fun (d, o, _) => endCall d o os r1
  | .callp f i es, r => (ownD r i).bind fun _ => (evs es r).bind fun (os, r1) => (ownD r1 i).bind fun (d0, st) => if noName i os then
      (argsOf r1 os).bind fun as => (call f ((d0, .pn) :: as)).bind fun (d, o, d1) => endCall d o os (put r1 i (some (d1, st))) else none
  | .callk f ix es, r => (evs es r).bind fun (os, r1) => (permD ix os os.length).bind fun ps => (argsOf r1 ps).bind fun as => (call f as).bind fun (d, o, _) => endCall d o ps r1
  | .bi b es, r => (evs es r).bind fun (os, r1) => (dats r1 os).bind fun ds => (biD b ds).bind fun (d, top) => fin true top d os r1
  | .isi e ts, r => (ev e r).bind fun (x, r1) => (dat r1 x).bind fun d => some (.val (.bool (ts.any (tyD d))) true, r1)
  | .get1 a b, r => (ev a r).bind fun (x, r1) => if isDictO (dat r1 x) then (ev b r1).bind fun (y, r2) => (dat r2 x).bind fun da => (dat r2 y).bind fun db =>
      (get1D da db).bind fun d => fin false [] d [x, y] r2
      else none
  | .get2 a b c, r => (ev a r).bind fun (x, r1) => if isDictO (dat r1 x) then (ev b r1).bind fun (y, r2) => (ev c r2).bind fun (z, r3) => (dat r3 x).bind fun da => (dat r3 y).bind fun db => (dat r3 z).bind fun dc =>
      (get2D da db dc).bind fun d => fin false [] d [x, y, z] r3
      else none
  | .index a b, r => (ev a r).bind fun (x, r1) => (ev b r1).bind fun (y, r2) => (dat r2 x).bind fun da => (dat r2 y).bind fun db =>
      (items da).bind fun ds => if SeqAt.shaped da && SeqAt.shaped db then (indexD db ds 0).map fun n => (.val (.int n) true, r2) else none
  | .pop0 i, r => (ownD r i).bind fun (d, st) => match d with
      | .list ds => match ds.getLast? with
        | some x => if imms ds then some (.val x true, put r i (some (.list ds.dropLast, st))) else none
        | none => none
      | _ => none
  | .pop1 i e, r => if isListC (nth r i) then (ev e r).bind fun (x, r1) => (ownD r1 i).bind fun (d, st) => (dat r1 x).bind fun k => match d, k with
      | .list ds, .int j => (ixD ds.length j).bind fun n => (ds[n]?).bind fun y => if imms ds then some (.val y true, put r1 i (some (.list (ds.eraseIdx n), st))) else none
      | _, _ => none
      else none
  | .comp elt tg it ln cond own, r => (evIt it ln r).bind fun (xs, r1, back) => if opens r1 own then
      (loopC (fun r => (ev elt r).bind fun (o, r') => keep o r') (fun r => evc cond r) (asg false tg) own xs r1 [] true).bind fun (ys, o, r2) =>
        if small ys.length then some (.val (.list ys) o, back (restR r1 (wipeR r2 own) own)) else none
      else none
def evs : CEs → Rho → Option (List Opd × Rho)
  | .nil, r => some ([], r)
  | .cons e es, r => (ev e r).bind fun (o, r1) => (evs es r1).map fun (os, r2) => (o :: os, r2)
/-- a slice's bound -/
def evo : CEo → Rho → Option (Option Int × Rho)
  | .no, r => some (none, r)
  | .yes e, r => (ev e r).bind fun (o, r1) => match dat r1 o with
      | some (.int i) => some (some i, r1)
      | _ => none
/-- a comprehension's test -/
def evc : CEo → Rho → Option (Bool × Rho)
  | .no, r => some (true, r)
  | .yes e, r => (ev e r).bind fun (x, r1) => match dat r1 x with
      | some (.bool b) => some (b, r1)
      | _ => none
/-- the items of a loop; the state meanwhile; how what was taken comes back -/
def evIt : CIt → Bool → Rho → Option (List D × Rho × (Rho → Rho))
  | .ofE e, ln, r => (ev e r).bind fun (o, r1) => (takeOpd ln o r1).map fun (ds, r2) => (ds, r2, backOpd ln o r1)
  | .rng1 e, _, r => (ev e r).bind fun (o, r1) => match dat r1 o with
      | some (.int n) => if decide (n ≤ 100000) && decide (-100000 ≤ n) then some (intRange n.toNat 0, r1, id) else none
      | _ => none
  | .rng2 a b, _, r => (ev a r).bind fun (o, r1) => (ev b r1).bind fun (o2, r2) => match dat r2 o, dat r2 o2 with
      | some (.int m), some (.int n) => if decide (n ≤ 100000) && decide (-100000 ≤ n) && decide (m ≤ 100000) && decide (-100000 ≤ m) then some (intRange (n - m).toNat m, r2, id) else none
      | _, _ => none
  | .enum e, ln, r => (ev e r).bind fun (o, r1) => (takeOpd ln o r1).map fun (ds, r2) => (enumD 0 ds, r2, backOpd ln o r1)
  | .zip a b, ln, r => (ev a r).bind fun (o, r1) => (ev b r1).bind fun (o2, r2) => (takeOpd ln o r2).bind fun (ds, r3) => if sameK (dat r2 o) (dat r3 o2) then (takeOpd ln o2 r3).map fun (es, r4) =>
      (zipD ds es, r4, fun q => backOpd ln o r2 (backOpd ln o2 r3 q)) else none
end

/-! ### statements -/
inductive Fl | nx | bk | ct | rt (d : D) (o : Bool)

def forL (body : Rho → Option (Rho × Fl)) (tg : D → Rho → Option Rho) : List D → Rho → Option (Rho × Fl)
  | [], r => some (r, .nx)
  | x :: xs, r => (tg x r).bind fun r1 => (body r1).bind fun (r2, f) => match f with
      | .nx => forL body tg xs r2
      | .ct => forL body tg xs r2
      | .bk => some (r2, .nx)
      | .rt d o => some (r2, .rt d o)
def whileL (cond : Rho → Option (Bool × Rho)) (body : Rho → Option (Rho × Fl)) : Nat → Rho → Option (Rho × Fl)
  | 0, _ => none
  | n + 1, r => (cond r).bind fun (b, r1) => if b then (body r1).bind fun (r2, f) => match f with
      | .nx => whileL cond body n r2
      | .ct => whileL cond body n r2
      | .bk => some (r2, .nx)
      | .rt d o => some (r2, .rt d o)
    else some (r1, .nx)

/-- a name gets an operand -/
def setO (i : Nat) (o : Opd) (r : Rho) : Option Rho :=
  (keep o r).bind fun (d, w, r') => if open1 r' i then some (put r' i (some (d, if w then .ow else .fz))) else none
/-- an operand goes into what name i holds, which then holds d' -/
def into (i : Nat) (st : Stt) (d' : D) (x : Opd) (r : Rho) : Option Rho :=
  if allOwn r [x] then some (put r i (some (d', st)))
  else if noName i [x] then match st with
    | .ow => (frzs r [x]).map fun r' => put r' i (some (d', .fz))
    | _ => none
  else none
def retO (o : Opd) (r : Rho) : Option (D × Bool × Rho) :=
  match o with
  | .nm i => match got r i with
    | some (d, st) => if imm d then some (d, true, r) else match st with
      | .ow => some (d, true, put r i none)
      | .fz => some (d, false, r)
      | _ => none
    | none => none
  | .val d o => some (d, imm d || o, r)
def test (c : CE) (r : Rho) : Option (Bool × Rho) := (ev call c r).bind fun (x, r1) => match dat r1 x with
  | some (.bool b) => some (b, r1)
  | _ => none

variable (fuel : Nat)
mutual
def ex : CS → Rho → Option (Rho × Fl)
  | .set i e, r => (ev call e r).bind fun (o, r1) => (setO i o r1).map fun r2 => (r2, .nx)
  | .par2 i j a b, r => (evs call (.cons a (.cons b .nil)) r).bind fun (os, r1) => match os with
      | [x, y] => (keep x r1).bind fun (d, w, r2) => (keep y r2).bind fun (d', w', r3) =>
          if open1 r3 i && open1 r3 j then some (put (put r3 i (some (d, if w then .ow else .fz))) j (some (d', if w' then .ow else .fz)), .nx) else none
      | _ => none
  | .unp t e, r => (ev call e r).bind fun (o, r1) => (keep o r1).bind fun (d, w, r2) => (asg w t d r2).map fun r3 => (r3, .nx)
  | .sub i k e, r => (ev call e r).bind fun (x, r1) => (ownD r1 i).bind fun _ => (ev call k r1).bind fun (y, r2) => (ownD r2 i).bind fun (d, st) => (dat r2 x).bind fun dx => (dat r2 y).bind fun dk =>
      match d, dk with
      | .list ds, .int j => (ixD ds.length j).bind fun n => if imms ds && imm dx then some (put r2 i (some (.list (ds.set n dx), st)), .nx) else none
      | .dict kvs, dk => if isKey dk && imm dx && small kvs.length && imms (kvs.map (·.2)) then some (put r2 i (some (.dict (dput kvs dk dx), st)), .nx) else none
      | _, _ => none
  | .aug i o e, r => match nth r i with
      | some (.int a, .ow) => (ev call e r).bind fun (x, r1) => match dat r1 x with
        | some (.int b) => (arith o a b).bind fun c => if ((o == .Add) || (o == .Sub)) && open1 r1 i then some (put r1 i (some (.int c, .ow)), .nx) else none
        | _ => none
      | _ => none
  | .augs i k o e, r => (ownD r i).bind fun _ => (ev call k r).bind fun (y, r1) => (ownD r1 i).bind fun (d0, _) => (dat r1 y).bind fun dk => match d0, dk with
      | .list ds0, .int j => (ixD ds0.length j).bind fun n => match ds0[n]? with
        | some (.int a) => (ev call e r1).bind fun (x, r2) => (dat r2 x).bind fun dx => (ownD r2 i).bind fun (d, st) => match d, dx with
          | .list ds, .int b => (arith o a b).bind fun c => if imms ds && decide (ds.length = ds0.length) && ((o == .Add) || (o == .Sub)) then some (put r2 i (some (.list (ds.set n (.int c)), st)), .nx) else none
          | _, _ => none
        | _ => none
      | _, _ => none
  | .expr e, r => (ev call e r).map fun (_, r1) => (r1, .nx)
  | .app i e, r => if isListC (nth r i) then (ev call e r).bind fun (x, r1) => (ownD r1 i).bind fun (d, st) => (dat r1 x).bind fun dx => match d with
      | .list ds => if small ds.length then (into i st (.list (ds ++ [dx])) x r1).map fun r2 => (r2, .nx) else none
      | _ => none
      else none
  | .ext i e, r => if isListC (nth r i) then (ev call e r).bind fun (x, r1) => (ownD r1 i).bind fun (d, st) => (dat r1 x).bind fun dx => match d with
      | .list ds => (items dx).bind fun es => if small (ds.length + es.length) && imms es && imms ds && isList dx then some (put r1 i (some (.list (ds ++ es), st)), .nx) else none
      | _ => none
      else none
  | .upd i e, r => if isDictC (nth r i) then (ev call e r).bind fun (x, r1) => (ownD r1 i).bind fun (d, st) => (dat r1 x).bind fun dx => match d, dx with
      | .dict kvs, .dict kvs' => if small (kvs.length + kvs'.length) && imms (kvs'.map (·.2)) && imms (kvs.map (·.2)) && noName i [x] then some (put r1 i (some (.dict (dputs kvs kvs'), st)), .nx) else none
      | _, _ => none
      else none
  | .rem i e, r => if isListC (nth r i) then (ev call e r).bind fun (x, r1) => (ownD r1 i).bind fun (d, st) => (dat r1 x).bind fun dx => match d, dx with
      | .list ds, .int k => (intsD ds).bind fun _ => (indexD dx ds 0).map fun n => (put r1 i (some (.list (ds.eraseIdx n), st)), .nx)
      | _, _ => none
      else none
  | .ife c a b, r => (test call c r).bind fun (k, r1) => if k then exs a r1 else exs b r1
  | .forr t it ln body, r => (evIt call it ln r).bind fun (xs, r1, back) => (forL (fun r => exs body r) (asg false t) xs r1).map fun (r2, f) => (back r2, f)
  | .whil c body, r => whileL (fun r => test call c r) (fun r => exs body r) fuel r
  | .ret e, r => (ev call e r).bind fun (o, r1) => (retO o r1).map fun (d, w, r2) => (r2, .rt d w)
  | .retN, r => some (r, .rt .none true)
  | .brk, r => some (r, .bk)
  | .cnt, r => some (r, .ct)
  | .pas, r => some (r, .nx)
  | .rai, _ => none
  | .spoil j i, r => (ownD r i).bind fun (d, st) => match d, st with
      | .list ds, .ow => if (ds.all fun d => match d with | .list xs => small xs.length | _ => false) && decide (i ≠ j) && decide (ds.length ≤ 1000) && open1 r j then some (put (put r i none) j none, .nx) else none
      | _, _ => none
def exs : CSs → Rho → Option (Rho × Fl)
  | .nil, r => some (r, .nx)
  | .cons s ss, r => (ex s r).bind fun (r1, f) => match f with
      | .nx => exs ss r1
      | f => some (r1, f)
end

/-! ### functions -/
structure FE where
  name : Str
  par : Nat
  N : List Str
  pin : Bool
  body : CSs

def start (N : List Str) (as : List (D × Stt)) : Rho := as.map some ++ List.replicate (N.length - as.length) none
def isPn : Cell → Bool
  | some (_, .pn) => true
  | _ => false
def runF (f : FE) (as : List (D × Stt)) : Option (D × Bool × D) :=
  if decide (as.length = f.par) && (!f.pin || isPn (nth (start f.N as) 0)) then
    match exs call fuel f.body (start f.N as) with
    | some (r, .rt d o) => if f.pin then match nth r 0 with
        | some (d0, .pn) => some (d, o, d0)
        | _ => none
      else some (d, o, .none)
    | some (r, .nx) => if f.pin then match nth r 0 with
        | some (d0, .pn) => some (.none, true, d0)
        | _ => none
      else some (.none, true, .none)
    | _ => none
  else none
def callF (T : List FE) (fuel : Nat) : Nat → CallT
  | 0, _, _ => none
  | n + 1, f, as => match T[f]? with
    | some fe => runF (callF T fuel n) fuel fe as
    | none => none
end Cr
/-! # Rel: how data lie in the abstract heap; what a state of the evaluator says of slots and heap. -/
namespace Cr
open PySem L2

def keyD : Key → D
  | .inl i => .int i
  | .inr x => .str x

/-- a list that is locked, or one of the written part -/
def SqK (K : PySem.W.Frag) (H : Hp) (a : Addr) (xs : List V) : Prop := (∃ o, H a = some (.frz o (.lst xs))) ∨ ∃ (its : List Value) (n : Nat), K.lookup a = some { cls := .type "list", data := .seq its.toArray n } ∧ xs.length ≤ sizeLine ∧ Vals xs its
theorem SqK.sq {K : PySem.W.Frag} {H : Hp} {a : Addr} {xs : List V} (h : SqK K H a xs) : SqL K H a xs := by
  rcases h with ⟨o, h⟩ | ⟨its, n, h1, h2, h3⟩
  · exact .inl (.inr ⟨o, h⟩)
  · exact .inr ⟨_, its.toArray, n, h1, rfl, rfl, rfl, by rw [List.size_toArray, ← h3.length]; exact h2, by simpa using h3⟩

mutual
/-- v is the datum d; the list: its lists and dicts, in order -/
inductive R (K : PySem.W.Frag) (H : Hp) : V → D → List Addr → Prop
  | non : R K H .non .none []
  | bl (b : Bool) : R K H (.bl b) (.bool b) []
  | int (i : Int) : R K H (.int i) (.int i) []
  | str (x : Str) : R K H (.str x) (.str x) []
  | lst {a : Addr} {vs : List V} {ds : List D} {F : List Addr} : H a = some (.lst vs) → Rs K H vs ds F → R K H (.ref a) (.list ds) (a :: F)
  | lstK {a : Addr} {vs : List V} {ds : List D} {F : List Addr} : SqK K H a vs → Rs K H vs ds F → R K H (.ref a) (.list ds) F
  | tup {a : Addr} {vs : List V} {ds : List D} {F : List Addr} : SqT K H a vs → Rs K H vs ds F → R K H (.ref a) (.tuple ds) F
  | dic {a : Addr} {kvs : List (Key × V)} {ds : List (D × D)} {F : List Addr} : H a = some (.dK kvs) → Rk K H kvs ds F → R K H (.ref a) (.dict ds) (a :: F)
inductive Rs (K : PySem.W.Frag) (H : Hp) : List V → List D → List Addr → Prop
  | nil : Rs K H [] [] []
  | cons {v : V} {vs : List V} {d : D} {ds : List D} {F G : List Addr} : R K H v d F → Rs K H vs ds G → Rs K H (v :: vs) (d :: ds) (F ++ G)
inductive Rk (K : PySem.W.Frag) (H : Hp) : List (Key × V) → List (D × D) → List Addr → Prop
  | nil : Rk K H [] [] []
  | cons {k : Key} {v : V} {r : List (Key × V)} {d : D} {s : List (D × D)} {F G : List Addr} : R K H v d F → Rk K H r s G → Rk K H ((k, v) :: r) ((keyD k, d) :: s) (F ++ G)
end

mutual
/-- how many lists and dicts there are within -/
def cnt : D → Nat
  | .list xs => cnts xs + 1
  | .tuple xs => cnts xs
  | .dict kvs => cntk kvs + 1
  | .none => 0
  | .bool _ => 0
  | .int _ => 0
  | .str _ => 0
def cnts : List D → Nat
  | [] => 0
  | x :: xs => cnt x + cnts xs
def cntk : List (D × D) → Nat
  | [] => 0
  | (_, v) :: r => cnt v + cntk r
end
mutual
theorem cnt_imm : ∀ {d : D}, imm d = true → cnt d = 0
  | .none, _ => rfl
  | .bool _, _ => rfl
  | .int _, _ => rfl
  | .str _, _ => rfl
  | .list _, h => by simp [imm] at h
  | .dict _, h => by simp [imm] at h
  | .tuple xs, h => by
    have h' : imms xs = true := by simpa [imm] using h
    rw [cnt]; exact cnts_imm h'
theorem cnts_imm : ∀ {ds : List D}, imms ds = true → cnts ds = 0
  | [], _ => rfl
  | d :: ds, h => by
    have h' : Cr.imm d = true ∧ imms ds = true := by simpa [imms] using h
    rw [cnts, cnt_imm h'.1, cnts_imm h'.2]
end
section
variable {K : PySem.W.Frag} {H : Hp}
mutual
theorem R.cnt_le : ∀ {v : V} {d : D} {F : List Addr}, R K H v d F → F.length ≤ cnt d
  | _, _, _, .non => Nat.le_refl _
  | _, _, _, .bl _ => Nat.le_refl _
  | _, _, _, .int _ => Nat.le_refl _
  | _, _, _, .str _ => Nat.le_refl _
  | _, _, _, .lst e r => by rw [List.length_cons, cnt]; exact Nat.succ_le_succ (Rs.cnt_le r)
  | _, _, _, .lstK e r => by rw [cnt]; exact Nat.le_succ_of_le (Rs.cnt_le r)
  | _, _, _, .tup e r => by rw [cnt]; exact Rs.cnt_le r
  | _, _, _, .dic e r => by rw [List.length_cons, cnt]; exact Nat.succ_le_succ (Rk.cnt_le r)
theorem Rs.cnt_le : ∀ {v : List V} {d : List D} {F : List Addr}, Rs K H v d F → F.length ≤ cnts d
  | _, _, _, .nil => Nat.le_refl _
  | _, _, _, .cons r s => by rw [List.length_append, cnts]; exact Nat.add_le_add (R.cnt_le r) (Rs.cnt_le s)
theorem Rk.cnt_le : ∀ {v : List (Key × V)} {d : List (D × D)} {F : List Addr}, Rk K H v d F → F.length ≤ cntk d
  | _, _, _, .nil => Nat.le_refl _
  | _, _, _, .cons r s => by rw [List.length_append, cntk]; exact Nat.add_le_add (R.cnt_le r) (Rk.cnt_le s)
end
end
/-- an object that may change -/
def Mt : Option HO → Prop
  | some (.lst _) => True
  | some (.dK _) => True
  | _ => False

section
variable {K : PySem.W.Frag} {H H' : Hp}
mutual
theorem R.mt : ∀ {v : V} {d : D} {F : List Addr}, R K H v d F → ∀ a ∈ F, Mt (H a)
  | _, _, _, .non, a, h => by cases h
  | _, _, _, .bl _, a, h => by cases h
  | _, _, _, .int _, a, h => by cases h
  | _, _, _, .str _, a, h => by cases h
  | _, _, _, .lst e r, a, h => by
    rcases List.mem_cons.mp h with rfl | h
    · rw [e]; trivial
    · exact Rs.mt r a h
  | _, _, _, .lstK e r, a, h => Rs.mt r a h
  | _, _, _, .tup e r, a, h => Rs.mt r a h
  | _, _, _, .dic e r, a, h => by
    rcases List.mem_cons.mp h with rfl | h
    · rw [e]; trivial
    · exact Rk.mt r a h
theorem Rs.mt : ∀ {v : List V} {d : List D} {F : List Addr}, Rs K H v d F → ∀ a ∈ F, Mt (H a)
  | _, _, _, .nil, a, h => by cases h
  | _, _, _, .cons r s, a, h => by
    rcases List.mem_append.mp h with h | h
    · exact R.mt r a h
    · exact Rs.mt s a h
theorem Rk.mt : ∀ {v : List (Key × V)} {d : List (D × D)} {F : List Addr}, Rk K H v d F → ∀ a ∈ F, Mt (H a)
  | _, _, _, .nil, a, h => by cases h
  | _, _, _, .cons r s, a, h => by
    rcases List.mem_append.mp h with h | h
    · exact R.mt r a h
    · exact Rk.mt s a h
end
mutual
theorem R.imm : ∀ {v : V} {d : D} {F : List Addr}, R K H v d F → imm d = true → F = []
  | _, _, _, .non, _ => rfl
  | _, _, _, .bl _, _ => rfl
  | _, _, _, .int _, _ => rfl
  | _, _, _, .str _, _ => rfl
  | _, _, _, .lst e r, h => by simp [Cr.imm] at h
  | _, _, _, .lstK e r, h => by simp [Cr.imm] at h
  | _, _, _, .tup e r, h => Rs.imm r (by simpa [Cr.imm] using h)
  | _, _, _, .dic e r, h => by simp [Cr.imm] at h
theorem Rs.imm : ∀ {v : List V} {d : List D} {F : List Addr}, Rs K H v d F → imms d = true → F = []
  | _, _, _, .nil, _ => rfl
  | _, d :: ds, _, .cons r s, h => by
    have h' : Cr.imm d = true ∧ imms ds = true := by simpa [imms] using h
    rw [R.imm r h'.1, Rs.imm s h'.2]; rfl
end
/-- what is not in O stays -/
def Keep (O : Addr → Prop) (H H' : Hp) : Prop := ∀ a o, H a = some o → ¬ O a → H' a = some o
theorem Keep.trans {O : Addr → Prop} {H1 H2 H3 : Hp} (x : Keep O H1 H2) (y : Keep O H2 H3) : Keep O H1 H3 := fun a o e n => y a o (x a o e n) n
theorem Keep.rd {O : Addr → Prop} (k : Keep O H H') (m : ∀ a, O a → Mt (H a)) {a : Addr} {xs : List V} (r : Rd H a (.tup xs)) : Rd H' a (.tup xs) := by
  rcases r with r | ⟨o, r⟩
  · exact .inl (k a _ r fun z => by have := m a z; rw [r] at this; exact this)
  · exact .inr ⟨o, k a _ r fun z => by have := m a z; rw [r] at this; exact this⟩
theorem Keep.sqt {O : Addr → Prop} (k : Keep O H H') (m : ∀ a, O a → Mt (H a)) {a : Addr} {xs : List V} (r : SqT K H a xs) : SqT K H' a xs := by
  rcases r with r | r
  · exact .inl (k.rd m r)
  · exact .inr r
theorem Keep.sqk {O : Addr → Prop} (k : Keep O H H') (m : ∀ a, O a → Mt (H a)) {a : Addr} {xs : List V} (r : SqK K H a xs) : SqK K H' a xs := by
  rcases r with ⟨o, r⟩ | r
  · exact .inl ⟨o, k a _ r fun z => by have := m a z; rw [r] at this; exact this⟩
  · exact .inr r
mutual
theorem R.keep {O : Addr → Prop} (k : Keep O H H') (m : ∀ a, O a → Mt (H a)) : ∀ {v : V} {d : D} {F : List Addr}, R K H v d F → (∀ a ∈ F, ¬ O a) → R K H' v d F
  | _, _, _, .non, _ => .non
  | _, _, _, .bl _, _ => .bl _
  | _, _, _, .int _, _ => .int _
  | _, _, _, .str _, _ => .str _
  | _, _, _, .lst e r, h => .lst (k _ _ e (h _ (List.mem_cons_self))) (Rs.keep k m r fun a ha => h a (List.mem_cons_of_mem _ ha))
  | _, _, _, .lstK e r, h => .lstK (k.sqk m e) (Rs.keep k m r h)
  | _, _, _, .tup e r, h => .tup (k.sqt m e) (Rs.keep k m r h)
  | _, _, _, .dic e r, h => .dic (k _ _ e (h _ (List.mem_cons_self))) (Rk.keep k m r fun a ha => h a (List.mem_cons_of_mem _ ha))
theorem Rs.keep {O : Addr → Prop} (k : Keep O H H') (m : ∀ a, O a → Mt (H a)) : ∀ {v : List V} {d : List D} {F : List Addr}, Rs K H v d F → (∀ a ∈ F, ¬ O a) → Rs K H' v d F
  | _, _, _, .nil, _ => .nil
  | _, _, _, .cons r s, h => .cons (R.keep k m r fun a ha => h a (List.mem_append_left _ ha)) (Rs.keep k m s fun a ha => h a (List.mem_append_right _ ha))
theorem Rk.keep {O : Addr → Prop} (k : Keep O H H') (m : ∀ a, O a → Mt (H a)) : ∀ {v : List (Key × V)} {d : List (D × D)} {F : List Addr}, Rk K H v d F → (∀ a ∈ F, ¬ O a) → Rk K H' v d F
  | _, _, _, .nil, _ => .nil
  | _, _, _, .cons r s, h => .cons (R.keep k m r fun a ha => h a (List.mem_append_left _ ha)) (Rk.keep k m s fun a ha => h a (List.mem_append_right _ ha))
end
theorem Rs.len : ∀ {v : List V} {d : List D} {F : List Addr}, Rs K H v d F → v.length = d.length
  | _, _, _, .nil => rfl
  | _, _, _, .cons r s => by rw [List.length_cons, List.length_cons, Rs.len s]
theorem Rk.len : ∀ {v : List (Key × V)} {d : List (D × D)} {F : List Addr}, Rk K H v d F → v.length = d.length
  | _, _, _, .nil => rfl
  | _, _, _, .cons r s => by rw [List.length_cons, List.length_cons, Rk.len s]
theorem Rs.append : ∀ {v : List V} {d : List D} {F : List Addr} {v' : List V} {d' : List D} {F' : List Addr}, Rs K H v d F → Rs K H v' d' F' → Rs K H (v ++ v') (d ++ d') (F ++ F')
  | _, _, _, _, _, _, .nil, s => s
  | _, _, _, _, _, _, .cons r t, s => by
    rw [List.cons_append, List.cons_append, List.append_assoc]
    exact .cons r (Rs.append t s)
theorem Rs.get : ∀ {v : List V} {d : List D} {F : List Addr} {i : Nat} {x : D}, Rs K H v d F → d[i]? = some x → ∃ y G, v[i]? = some y ∧ R K H y x G ∧ ∀ a ∈ G, a ∈ F
  | _, _, _, _, _, .nil, h => by simp at h
  | _, _, _, 0, _, .cons r s, h => by
    simp only [List.getElem?_cons_zero, Option.some.injEq] at h
    subst h
    exact ⟨_, _, rfl, r, fun a ha => List.mem_append_left _ ha⟩
  | _, _, _, i + 1, _, .cons r s, h => by
    obtain ⟨y, G, e, q, m⟩ := Rs.get s (by simpa using h)
    exact ⟨y, G, by simpa using e, q, fun a ha => List.mem_append_right _ (m a ha)⟩
/-- some of the items, in any order -/
theorem Rs.sub {v : List V} {d : List D} {F : List Addr} (r : Rs K H v d F) : ∀ (is : List Nat), (∀ i ∈ is, i < d.length) →
    ∃ G, Rs K H (is.filterMap (v[·]?)) (is.filterMap (d[·]?)) G ∧ ∀ a ∈ G, a ∈ F
  | [], _ => ⟨[], .nil, fun a h => by cases h⟩
  | i :: is, h => by
    obtain ⟨G, q, m⟩ := Rs.sub r is fun j hj => h j (List.mem_cons_of_mem _ hj)
    have hi := h i List.mem_cons_self
    obtain ⟨y, F', e, q', m'⟩ := r.get (i := i) (x := d[i]) (List.getElem?_eq_getElem hi)
    refine ⟨F' ++ G, ?_, fun a ha => (List.mem_append.mp ha).elim (m' a) (m a)⟩
    rw [List.filterMap_cons, List.filterMap_cons, e, List.getElem?_eq_getElem hi]
    exact .cons q' q
end

/-! ### states -/
inductive Cells (K : PySem.W.Frag) (Z : Addr → Prop) (H : Hp) : Rho → St → List Addr → Prop
  | nil : Cells K Z H [] [] []
  | no {r : Rho} {σ : St} {O : List Addr} {s : Option V} : Cells K Z H r σ O → Cells K Z H (none :: r) (s :: σ) O
  | lo {r : Rho} {σ : St} {O : List Addr} {s : Option V} {d : D} : Cells K Z H r σ O → Cells K Z H (some (d, .lo) :: r) (s :: σ) O
  | own {r : Rho} {σ : St} {O F : List Addr} {v : V} {d : D} {st : Stt} : st = .ow ∨ st = .pn → R K H v d F → cnt d = F.length → Cells K Z H r σ O → Cells K Z H (some (d, st) :: r) (some v :: σ) (F ++ O)
  | fz {r : Rho} {σ : St} {O F : List Addr} {v : V} {d : D} : R K H v d F → (∀ a ∈ F, Z a) → Cells K Z H r σ O → Cells K Z H (some (d, .fz) :: r) (some v :: σ) O

structure Sta (K : PySem.W.Frag) (Z : Addr → Prop) (O : List Addr) (r : Rho) (σ : St) (H : Hp) : Prop where
  cells : Cells K Z H r σ O
  nd : O.Nodup
  sep : ∀ a ∈ O, ¬ Z a
  zm : ∀ a, Z a → Mt (H a)

structure Step (Z : Addr → Prop) (O : List Addr) (H : Hp) (Z' : Addr → Prop) (O' : List Addr) (H' : Hp) : Prop where
  keep : Keep (· ∈ O) H H'
  alloc : ∀ a, H a ≠ none → H' a ≠ none
  zle : ∀ a, Z a → Z' a
  znew : ∀ a, Z' a → Z a ∨ a ∈ O ∨ H a = none
  onew : ∀ a ∈ O', a ∈ O ∨ H a = none

section
variable {K : PySem.W.Frag} {Z Z1 Z2 Z' : Addr → Prop} {O O1 O2 O' : List Addr} {r r' : Rho} {σ σ' : St} {H H1 H2 H' : Hp}
theorem Step.refl : Step Z O H Z O H := ⟨fun _ _ e _ => e, fun _ h => h, fun _ h => h, fun _ h => .inl h, fun _ h => .inl h⟩
theorem Step.trans (x : Step Z O H Z1 O1 H1) (y : Step Z1 O1 H1 Z2 O2 H2) : Step Z O H Z2 O2 H2 where
  keep := fun a o e n => y.keep a o (x.keep a o e n) fun h => (x.onew a h).elim n fun z => by rw [z] at e; cases e
  alloc := fun a h => y.alloc a (x.alloc a h)
  zle := fun a h => y.zle a (x.zle a h)
  znew := fun a h => by
    rcases y.znew a h with h | h | h
    · exact x.znew a h
    · exact .inr (x.onew a h)
    · refine .inr (.inr ?_)
      cases e : H a with
      | none => rfl
      | some o => exact absurd h (x.alloc a (by rw [e]; simp))
  onew := fun a h => by
    rcases y.onew a h with h | h
    · exact x.onew a h
    · refine .inr ?_
      cases e : H a with
      | none => rfl
      | some o => exact absurd h (x.alloc a (by rw [e]; simp))
theorem Cells.mt : ∀ {r : Rho} {σ : St} {O : List Addr}, Cells K Z H r σ O → ∀ a ∈ O, Mt (H a)
  | _, _, _, .nil, _, h => by cases h
  | _, _, _, .no c, a, h => Cells.mt c a h
  | _, _, _, .lo c, a, h => Cells.mt c a h
  | _, _, _, .own _ q _ c, a, h => (List.mem_append.mp h).elim (q.mt a) (Cells.mt c a)
  | _, _, _, .fz _ _ c, a, h => Cells.mt c a h
theorem Cells.len : ∀ {r : Rho} {σ : St} {O : List Addr}, Cells K Z H r σ O → r.length = σ.length
  | _, _, _, .nil => rfl
  | _, _, _, .no c => by simp [Cells.len c]
  | _, _, _, .lo c => by simp [Cells.len c]
  | _, _, _, .own _ _ _ c => by simp [Cells.len c]
  | _, _, _, .fz _ _ c => by simp [Cells.len c]
theorem Sta.mo (s : Sta K Z O r σ H) : ∀ a, a ∈ O → Mt (H a) := fun a h => s.cells.mt a h
theorem Mt.some {x : Option HO} (h : Mt x) : x ≠ none := fun e => by rw [e] at h; exact h
/-- cells over a heap in which what is theirs stays -/
theorem Cells.keep {P : Addr → Prop} (k : Keep P H H') (m : ∀ a, P a → Mt (H a)) (hz : ∀ a, Z a → ¬ P a) (zz : ∀ a, Z a → Z' a) : ∀ {r : Rho} {σ : St} {O : List Addr}, Cells K Z H r σ O → (∀ a ∈ O, ¬ P a) → Cells K Z' H' r σ O
  | _, _, _, .nil, _ => .nil
  | _, _, _, .no c, h => .no (Cells.keep k m hz zz c h)
  | _, _, _, .lo c, h => .lo (Cells.keep k m hz zz c h)
  | _, _, _, .own e q n c, h => .own e (q.keep k m fun a ha => h a (List.mem_append_left _ ha)) n (Cells.keep k m hz zz c fun a ha => h a (List.mem_append_right _ ha))
  | _, _, _, .fz q f c, h => .fz (q.keep k m fun a ha => hz a (f a ha)) (fun a ha => zz a (f a ha)) (Cells.keep k m hz zz c h)
/-- one cell taken out (F is what it owned, G what the others own); another one may be put in -/
structure At (K : PySem.W.Frag) (Z : Addr → Prop) (H : Hp) (r : Rho) (σ : St) (O : List Addr) (i : Nat) (F G : List Addr) : Prop where
  perm : O.Perm (F ++ G)
  rd : ∀ d st, nth r i = some (d, st) → st ≠ .lo → ∃ v Fd, σ[i]? = some (some v) ∧ R K H v d Fd ∧ (st = .fz → ∀ a ∈ Fd, Z a) ∧ (st ≠ .fz → F = Fd ∧ cnt d = Fd.length)
  out : Cells K Z H (put r i none) σ G
  outS : ∀ s, Cells K Z H (put r i none) (σ.set i s) G
  lo : ∀ d, Cells K Z H (put r i (some (d, .lo))) σ G
  own : ∀ d v F' st, st = .ow ∨ st = .pn → R K H v d F' → cnt d = F'.length → ∃ O', O'.Perm (F' ++ G) ∧ Cells K Z H (put r i (some (d, st))) (σ.set i (some v)) O'
  fz : ∀ Z' : Addr → Prop, (∀ a, Z a → Z' a) → ∀ d v F', R K H v d F' → (∀ a ∈ F', Z' a) → Cells K Z' H (put r i (some (d, .fz))) (σ.set i (some v)) G
theorem Cells.zmono (zz : ∀ a, Z a → Z' a) : ∀ {r : Rho} {σ : St} {O : List Addr}, Cells K Z H r σ O → Cells K Z' H r σ O
  | _, _, _, .nil => .nil
  | _, _, _, .no c => .no (Cells.zmono zz c)
  | _, _, _, .lo c => .lo (Cells.zmono zz c)
  | _, _, _, .own e q n c => .own e q n (Cells.zmono zz c)
  | _, _, _, .fz q f c => .fz q (fun a ha => zz a (f a ha)) (Cells.zmono zz c)
theorem Cells.at : ∀ {r : Rho} {σ : St} {O : List Addr} {i : Nat}, Cells K Z H r σ O → i < r.length → ∃ F G, At K Z H r σ O i F G := by
  intro r σ O i c
  induction c generalizing i with
  | nil => intro h; exact absurd h (Nat.not_lt_zero _)
  | @no r σ O s c ih =>
    intro h
    cases i with
    | zero => exact ⟨[], O, .refl _, (fun _ _ h => by simp [nth] at h), .no c, fun _ => .no c, fun _ => .lo c, fun d v F' st e q n => ⟨_, .refl _, .own e q n c⟩, fun Z' zz d v F' q f => .fz q f (c.zmono zz)⟩
    | succ i =>
      obtain ⟨F, G, a⟩ := ih (Nat.lt_of_succ_lt_succ h)
      exact ⟨F, G, a.perm, a.rd, .no a.out, fun s => .no (a.outS s), fun d => .no (a.lo d), fun d v F' st e q n => let ⟨O', p', c'⟩ := a.own d v F' st e q n; ⟨O', p', .no c'⟩, fun Z' zz d v F' q f => .no (a.fz Z' zz d v F' q f)⟩
  | @lo r σ O s d c ih =>
    intro h
    cases i with
    | zero => exact ⟨[], O, .refl _, (fun d' st h hs => by
        simp only [nth, Option.some.injEq, Prod.mk.injEq] at h
        exact absurd h.2.symm hs), .no c, fun _ => .no c, fun _ => .lo c, fun d v F' st e q n => ⟨_, .refl _, .own e q n c⟩, fun Z' zz d v F' q f => .fz q f (c.zmono zz)⟩
    | succ i =>
      obtain ⟨F, G, a⟩ := ih (Nat.lt_of_succ_lt_succ h)
      exact ⟨F, G, a.perm, a.rd, .lo a.out, fun s => .lo (a.outS s), fun d => .lo (a.lo d), fun d v F' st e q n => let ⟨O', p', c'⟩ := a.own d v F' st e q n; ⟨O', p', .lo c'⟩, fun Z' zz d v F' q f => .lo (a.fz Z' zz d v F' q f)⟩
  | @own r σ O F0 v d st e q n0 c ih =>
    intro h
    cases i with
    | zero =>
      refine ⟨F0, O, .refl _, (fun d' st' h _ => ?_), .no c, fun _ => .no c, fun _ => .lo c, fun d v F' st e q n => ⟨_, .refl _, .own e q n c⟩, fun Z' zz d v F' q f => .fz q f (c.zmono zz)⟩
      simp only [nth, Option.some.injEq, Prod.mk.injEq] at h
      obtain ⟨rfl, rfl⟩ := h
      exact ⟨v, F0, rfl, q, (fun z => by rcases e with e | e <;> rw [e] at z <;> cases z), fun _ => ⟨rfl, n0⟩⟩
    | succ i =>
      obtain ⟨F, G, a⟩ := ih (Nat.lt_of_succ_lt_succ h)
      have p2 : ∀ {A B G : List Addr}, A.Perm (B ++ G) → (F0 ++ A).Perm (B ++ (F0 ++ G)) := fun {A B G} p => (p.append_left F0).trans (by
        rw [← List.append_assoc, ← List.append_assoc]
        exact List.perm_append_comm.append_right G)
      exact ⟨F, F0 ++ G, p2 a.perm, a.rd, .own e q n0 a.out, fun s => .own e q n0 (a.outS s), fun d => .own e q n0 (a.lo d), fun d v F' st e' q' n' => let ⟨O', p', c'⟩ := a.own d v F' st e' q' n'; ⟨F0 ++ O', p2 p', .own e q n0 c'⟩, fun Z' zz d v F' q' f => .own e q n0 (a.fz Z' zz d v F' q' f)⟩
  | @fz r σ O F0 v d q f c ih =>
    intro h
    cases i with
    | zero =>
      refine ⟨[], O, .refl _, (fun d' st' h _ => ?_), .no c, fun _ => .no c, fun _ => .lo c, fun d v F' st e q n => ⟨_, .refl _, .own e q n c⟩, fun Z' zz d v F' q f => .fz q f (c.zmono zz)⟩
      simp only [nth, Option.some.injEq, Prod.mk.injEq] at h
      obtain ⟨rfl, rfl⟩ := h
      exact ⟨v, F0, rfl, q, fun _ => f, fun z => absurd rfl z⟩
    | succ i =>
      obtain ⟨F, G, a⟩ := ih (Nat.lt_of_succ_lt_succ h)
      exact ⟨F, G, a.perm, a.rd, .fz q f a.out, fun s => .fz q f (a.outS s), fun d => .fz q f (a.lo d), fun d v F' st e' q' n' => let ⟨O', p', c'⟩ := a.own d v F' st e' q' n'; ⟨O', p', .fz q f c'⟩, fun Z' zz d v F' q' f' => .fz q (fun x hx => zz x (f x hx)) (a.fz Z' zz d v F' q' f')⟩
theorem nth_lt : ∀ {r : Rho} {i : Nat} {x : D × Stt}, nth r i = some x → i < r.length
  | [], _, _, h => by simp [nth] at h
  | _ :: _, 0, _, _ => Nat.succ_pos _
  | _ :: r, i + 1, _, h => Nat.succ_lt_succ (nth_lt (r := r) h)
theorem put_len : ∀ {r : Rho} {i : Nat} {c : Cell}, (put r i c).length = r.length
  | [], _, _ => rfl
  | _ :: _, 0, _ => rfl
  | _ :: r, i + 1, c => by show (put r i c).length + 1 = r.length + 1; rw [put_len]
theorem nth_put_same : ∀ {r : Rho} {i : Nat} {c : Cell}, i < r.length → nth (put r i c) i = c
  | [], _, _, h => absurd h (Nat.not_lt_zero _)
  | _ :: _, 0, _, _ => rfl
  | _ :: r, i + 1, c, h => nth_put_same (r := r) (Nat.lt_of_succ_lt_succ h)
theorem nth_put_ne : ∀ {r : Rho} {i j : Nat} {c : Cell}, i ≠ j → nth (put r i c) j = nth r j
  | [], _, _, _, _ => rfl
  | _ :: _, 0, 0, _, h => absurd rfl h
  | _ :: _, 0, _ + 1, _, _ => rfl
  | _ :: _, _ + 1, 0, _, _ => rfl
  | _ :: r, i + 1, j + 1, c, h => nth_put_ne (r := r) fun e => h (congrArg Nat.succ e)
theorem got_nth {r : Rho} {i : Nat} {d : D} {st : Stt} (h : got r i = some (d, st)) : nth r i = some (d, st) ∧ st ≠ .lo := by
  unfold got at h
  split at h
  · cases h
  · rename_i hn
    exact ⟨h, fun e => by subst e; exact hn _ h⟩
/-- a name that is read -/
theorem Cells.read {i : Nat} {d : D} {st : Stt} (c : Cells K Z H r σ O) (h : got r i = some (d, st)) : ∃ v F, σ[i]? = some (some v) ∧ R K H v d F ∧ ∀ a ∈ F, a ∈ O ∨ Z a := by
  obtain ⟨hn, hs⟩ := got_nth h
  obtain ⟨F, G, A⟩ := c.at (nth_lt hn)
  obtain ⟨v, Fd, e, q, z1, z2⟩ := A.rd d st hn hs
  refine ⟨v, Fd, e, q, fun a ha => ?_⟩
  by_cases hz : st = .fz
  · exact .inr (z1 hz a ha)
  · refine .inl (A.perm.mem_iff.mpr (List.mem_append_left _ ?_))
    rw [(z2 hz).1]; exact ha
end
end Cr
/-! # Good: what a reading must do for the evaluator's step. -/
namespace Cr
open PySem L2

inductive Ops (K : PySem.W.Frag) (Z : Addr → Prop) (H : Hp) (σ : St) : List Opd → List V → List Addr → Prop
  | nil : Ops K Z H σ [] [] []
  | nm {i : Nat} {v : V} {os : List Opd} {vs : List V} {P : List Addr} : σ[i]? = some (some v) → Ops K Z H σ os vs P → Ops K Z H σ (.nm i :: os) (v :: vs) P
  | own {v : V} {d : D} {F : List Addr} {os : List Opd} {vs : List V} {P : List Addr} : R K H v d F → cnt d = F.length → Ops K Z H σ os vs P → Ops K Z H σ (.val d true :: os) (v :: vs) (F ++ P)
  | fz {v : V} {d : D} {F : List Addr} {os : List Opd} {vs : List V} {P : List Addr} : R K H v d F → (∀ a ∈ F, Z a) → Ops K Z H σ os vs P → Ops K Z H σ (.val d false :: os) (v :: vs) P

/-- operands in flight: P is theirs alone -/
structure Fly (K : PySem.W.Frag) (Z : Addr → Prop) (O : List Addr) (H : Hp) (σ : St) (os : List Opd) (vs : List V) (P : List Addr) : Prop where
  ops : Ops K Z H σ os vs P
  nd : P.Nodup
  out : ∀ a ∈ P, a ∉ O
  sep : ∀ a ∈ P, ¬ Z a

/-- names that are pinned or taken away stay so -/
def Kp (r r' : Rho) (σ σ' : St) : Prop := ∀ i d st, nth r i = some (d, st) →
  (st = .pn → ∃ d', nth r' i = some (d', .pn)) ∧ (st = .lo → nth r' i = some (d, .lo)) ∧ (st = .pn ∨ st = .lo → σ'[i]? = σ[i]?)

section
variable {K : PySem.W.Frag} {Z Z1 Z2 Z' E : Addr → Prop} {O O1 O2 O' P P' : List Addr} {r r' r1 r2 : Rho} {σ σ' σ1 : St} {H H1 H2 H' : Hp} {os os' : List Opd} {vs vs' : List V}
theorem Kp.refl : Kp r r σ σ := fun i d st h => ⟨fun e => ⟨d, by rw [h, e]⟩, fun e => by rw [h, e], fun _ => rfl⟩
theorem Kp.trans (x : Kp r r1 σ σ1) (y : Kp r1 r2 σ1 σ') : Kp r r2 σ σ' := fun i d st h => by
  obtain ⟨a, b, c⟩ := x i d st h
  refine ⟨fun e => ?_, fun e => ?_, fun e => ?_⟩
  · obtain ⟨d', h'⟩ := a e
    exact (y i d' .pn h').1 rfl
  · exact (y i d .lo (b e)).2.1 rfl
  · rcases e with e | e
    · obtain ⟨d', h'⟩ := a e
      exact ((y i d' .pn h').2.2 (.inl rfl)).trans (c (.inl e))
    · exact ((y i d .lo (b e)).2.2 (.inr rfl)).trans (c (.inr e))
/-- a cell that is not pinned nor away is given another value -/
theorem Kp.put {i : Nat} {c : Cell} (h : ∀ d st, nth r i = some (d, st) → st ≠ .pn ∧ st ≠ .lo) {s : Option V} : Kp r (Cr.put r i c) σ (σ.set i s) := fun j d st hj => by
  by_cases e : i = j
  · subst e
    obtain ⟨a, b⟩ := h d st hj
    exact ⟨fun z => absurd z a, fun z => absurd z b, fun z => z.elim (fun z => absurd z a) fun z => absurd z b⟩
  · rw [nth_put_ne e, List.getElem?_set_ne e]
    exact Kp.refl (σ := σ) j d st hj
theorem Kp.put0 {i : Nat} {c : Cell} (h : ∀ d st, nth r i = some (d, st) → st ≠ .pn ∧ st ≠ .lo) : Kp r (Cr.put r i c) σ σ := fun j d st hj => by
  by_cases e : i = j
  · subst e
    obtain ⟨a, b⟩ := h d st hj
    exact ⟨fun z => absurd z a, fun z => absurd z b, fun z => z.elim (fun z => absurd z a) fun z => absurd z b⟩
  · rw [nth_put_ne e]
    exact Kp.refl (σ := σ) j d st hj
/-- a cell keeps its state -/
theorem Kp.data {i : Nat} {d d' : D} {st : Stt} (h : nth r i = some (d, st)) (hs : st ≠ .lo) : Kp r (Cr.put r i (some (d', st))) σ σ := fun j e s hj => by
  by_cases q : i = j
  · subst q
    rw [h] at hj
    cases hj
    refine ⟨fun z => ⟨d', by rw [nth_put_same (nth_lt h), z]⟩, fun z => absurd z hs, fun _ => rfl⟩
  · rw [nth_put_ne q]
    exact Kp.refl (σ := σ) j e s hj
theorem Keep.no (k : Keep (fun _ => False) H H') {a : Addr} {o : HO} (e : H a = some o) : H' a = some o := k a o e fun z => z
theorem Keep.mt0 (k : Keep (fun _ => False) H H') {a : Addr} (m : Mt (H a)) : Mt (H' a) := by
  cases e : H a with
  | none => rw [e] at m; cases m
  | some o => rw [k.no e, ← e]; exact m
theorem Keep.step (k : Keep (fun _ => False) H H') : Step Z O H Z O H' where
  keep := fun a o e _ => k.no e
  alloc := fun a h => by
    cases e : H a with
    | none => exact absurd e h
    | some o => rw [k.no e]; simp
  zle := fun _ h => h
  znew := fun _ h => .inl h
  onew := fun _ h => .inl h
theorem Keep.upd {p : Addr} {o : HO} (h : H p = none) : Keep (fun _ => False) H (upd H p o) := fun a u e _ => by
  rw [upd_ne (ne_of_none e h)]; exact e
theorem Sta.heap (s : Sta K Z O r σ H) (k : Keep (fun _ => False) H H') : Sta K Z O r σ H' where
  cells := s.cells.keep k (fun _ z => z.elim) (fun _ _ z => z) (fun _ h => h) (fun _ _ z => z)
  nd := s.nd
  sep := s.sep
  zm := fun a h => k.mt0 (s.zm a h)
theorem Sta.zmore (s : Sta K Z O r σ H) (h : ∀ a, E a → a ∉ O) (m : ∀ a, E a → Mt (H a)) : Sta K (fun a => Z a ∨ E a) O r σ H where
  cells := s.cells.keep (P := fun _ => False) (fun _ _ e _ => e) (fun _ z => z.elim) (fun _ _ z => z) (fun _ h => .inl h) (fun _ _ z => z)
  nd := s.nd
  sep := fun a ha z => z.elim (s.sep a ha) fun z => h a z ha
  zm := fun a z => z.elim (s.zm a) (m a)
theorem R.heap {v : V} {d : D} {F : List Addr} (q : R K H v d F) (k : Keep (fun _ => False) H H') : R K H' v d F := q.keep k (fun _ z => z.elim) fun _ _ z => z
theorem Rs.heap {v : List V} {d : List D} {F : List Addr} (q : Rs K H v d F) (k : Keep (fun _ => False) H H') : Rs K H' v d F := q.keep k (fun _ z => z.elim) fun _ _ z => z
theorem Rk.heap {v : List (Key × V)} {d : List (D × D)} {F : List Addr} (q : Rk K H v d F) (k : Keep (fun _ => False) H H') : Rk K H' v d F := q.keep k (fun _ z => z.elim) fun _ _ z => z

theorem Ops.keep (k : Keep (· ∈ O) H H') (m : ∀ a, a ∈ O → Mt (H a)) (hz : ∀ a, Z a → a ∉ O) (zz : ∀ a, Z a → Z' a) : ∀ {os : List Opd} {vs : List V} {P : List Addr}, Ops K Z H σ os vs P → (∀ a ∈ P, a ∉ O) → Ops K Z' H' σ os vs P
  | _, _, _, .nil, _ => .nil
  | _, _, _, .nm e o, h => .nm e (Ops.keep k m hz zz o h)
  | _, _, _, .own q n o, h => .own (q.keep k m fun a ha => h a (List.mem_append_left _ ha)) n (Ops.keep k m hz zz o fun a ha => h a (List.mem_append_right _ ha))
  | _, _, _, .fz q f o, h => .fz (q.keep k m fun a ha => hz a (f a ha)) (fun a ha => zz a (f a ha)) (Ops.keep k m hz zz o h)
theorem Ops.mt : ∀ {os : List Opd} {vs : List V} {P : List Addr}, Ops K Z H σ os vs P → ∀ a ∈ P, Mt (H a)
  | _, _, _, .nil, _, h => by cases h
  | _, _, _, .nm e o, a, h => Ops.mt o a h
  | _, _, _, .own q _ o, a, h => (List.mem_append.mp h).elim (q.mt a) (Ops.mt o a)
  | _, _, _, .fz q f o, a, h => Ops.mt o a h
theorem Ops.append : ∀ {os : List Opd} {vs : List V} {P : List Addr} {os' : List Opd} {vs' : List V} {P' : List Addr}, Ops K Z H σ os vs P → Ops K Z H σ os' vs' P' → Ops K Z H σ (os ++ os') (vs ++ vs') (P ++ P')
  | _, _, _, _, _, _, .nil, s => s
  | _, _, _, _, _, _, .nm e o, s => .nm e (Ops.append o s)
  | _, _, _, _, _, _, .own q n o, s => by
    rw [List.cons_append, List.cons_append, List.append_assoc]
    exact .own q n (Ops.append o s)
  | _, _, _, _, _, _, .fz q f o, s => .fz q f (Ops.append o s)
theorem Fly.nil : Fly K Z O H σ [] [] [] := ⟨.nil, List.nodup_nil, fun _ h => (by cases h), fun _ h => (by cases h)⟩
/-- operands in flight over a step -/
theorem Fly.step (f : Fly K Z O H σ os vs P) (s : Sta K Z O r σ H) (st : Step Z O H Z' O' H') : Fly K Z' O' H' σ os vs P where
  ops := f.ops.keep st.keep s.mo (fun a z h => s.sep a h z) st.zle f.out
  nd := f.nd
  out := fun a ha h => (st.onew a h).elim (f.out a ha) fun z => (f.ops.mt a ha).some z
  sep := fun a ha z => by
    rcases st.znew a z with z | z | z
    · exact f.sep a ha z
    · exact f.out a ha z
    · exact (f.ops.mt a ha).some z
/-- .. and those that come behind -/
theorem Fly.append (f : Fly K Z O H σ os vs P) (g : Fly K Z O H σ os' vs' P') (h : ∀ a ∈ P', a ∉ P) : Fly K Z O H σ (os ++ os') (vs ++ vs') (P ++ P') where
  ops := f.ops.append g.ops
  nd := List.nodup_append.mpr ⟨f.nd, g.nd, fun a ha b hb e => h b hb (e ▸ ha)⟩
  out := fun a ha => (List.mem_append.mp ha).elim (f.out a) (g.out a)
  sep := fun a ha => (List.mem_append.mp ha).elim (f.sep a) (g.sep a)

/-- what operands hold -/
theorem Ops.rs (s : Sta K Z O r σ H) : ∀ {os : List Opd} {vs : List V} {P : List Addr} {ds : List D}, Ops K Z H σ os vs P → dats r os = some ds → ∃ F, Rs K H vs ds F ∧ ∀ a ∈ F, a ∈ O ∨ Z a ∨ a ∈ P
  | [], _, _, ds, .nil, h => by
    simp only [dats, Option.some.injEq] at h
    subst h
    exact ⟨[], .nil, fun _ h => by cases h⟩
  | .nm i :: os, _, _, ds, .nm e o, h => by
    simp only [dats, dat, Option.bind_eq_bind, Option.bind_eq_some_iff, Option.map_eq_some_iff] at h
    obtain ⟨d, ⟨⟨d', st⟩, hg, rfl⟩, ds', hd, rfl⟩ := h
    obtain ⟨F, q, m⟩ := Ops.rs s o hd
    obtain ⟨v, F', e', q', m'⟩ := s.cells.read hg
    rw [e] at e'
    cases e'
    exact ⟨F' ++ F, .cons q' q, fun a ha => (List.mem_append.mp ha).elim (fun z => (m' a z).elim .inl fun z => .inr (.inl z)) (m a)⟩
  | .val d true :: os, _, _, ds, .own q' _ o, h => by
    simp only [dats, dat, Option.bind_some, Option.map_eq_some_iff] at h
    obtain ⟨ds', hd, rfl⟩ := h
    obtain ⟨F, q, m⟩ := Ops.rs s o hd
    exact ⟨_, .cons q' q, fun a ha => (List.mem_append.mp ha).elim (fun z => .inr (.inr (List.mem_append_left _ z))) fun z => (m a z).elim .inl fun z => .inr (z.elim .inl fun z => .inr (List.mem_append_right _ z))⟩
  | .val d false :: os, _, _, ds, .fz q' f' o, h => by
    simp only [dats, dat, Option.bind_some, Option.map_eq_some_iff] at h
    obtain ⟨ds', hd, rfl⟩ := h
    obtain ⟨F, q, m⟩ := Ops.rs s o hd
    exact ⟨_, .cons q' q, fun a ha => (List.mem_append.mp ha).elim (fun z => .inr (.inl (f' a z))) (m a)⟩

/-- a logical step: more is frozen, nothing runs -/
structure Lg (Z : Addr → Prop) (O : List Addr) (Z' : Addr → Prop) (O' : List Addr) : Prop where
  zle : ∀ a, Z a → Z' a
  znew : ∀ a, Z' a → Z a ∨ a ∈ O
  ole : ∀ a ∈ O', a ∈ O
theorem Lg.refl : Lg Z O Z O := ⟨fun _ h => h, fun _ h => .inl h, fun _ h => h⟩
theorem Lg.trans (x : Lg Z O Z1 O1) (y : Lg Z1 O1 Z2 O2) : Lg Z O Z2 O2 :=
  ⟨fun a h => y.zle a (x.zle a h), fun a h => (y.znew a h).elim (x.znew a) fun h => .inr (x.ole a h), fun a h => x.ole a (y.ole a h)⟩
theorem Lg.step (x : Lg Z O Z' O') : Step Z O H Z' O' H := ⟨fun _ _ e _ => e, fun _ h => h, x.zle, fun a h => (x.znew a h).elim .inl fun h => .inr (.inl h), fun a h => .inl (x.ole a h)⟩
theorem put_self : ∀ {r : Rho} {i : Nat} {x : D × Stt}, nth r i = some x → put r i (some x) = r
  | [], _, _, h => rfl
  | c :: _, 0, _, h => by simp only [nth] at h; rw [put, h]
  | c :: r, i + 1, _, h => by rw [put, put_self (r := r) h]
theorem set_self {σ : St} {i : Nat} {v : V} (h : σ[i]? = some (some v)) : σ.set i (some v) = σ := by
  obtain ⟨hi, e⟩ := List.getElem?_eq_some_iff.mp h
  rw [← e, List.set_getElem_self]
theorem Sta.frz1 {i : Nat} (s : Sta K Z O r σ H) (h : frz1 r i = some r') : ∃ Z' O', Sta K Z' O' r' σ H ∧ Lg Z O Z' O' ∧ Kp r r' σ σ ∧
    (∀ d st, got r i = some (d, st) → ∃ v F, σ[i]? = some (some v) ∧ R K H v d F ∧ ∀ a ∈ F, Z' a) ∧ (∀ j d st, got r j = some (d, st) → ∃ st', got r' j = some (d, st')) := by
  unfold Cr.frz1 at h
  cases hg : got r i with
  | none => rw [hg] at h; cases h
  | some x =>
    obtain ⟨d, st⟩ := x
    rw [hg] at h
    simp only at h
    obtain ⟨v, F, e, q, m⟩ := s.cells.read hg
    by_cases hi : imm d = true
    · rw [if_pos hi] at h
      cases h
      have hF := q.imm hi
      subst hF
      exact ⟨Z, O, s, .refl, .refl, fun d' st' h' => by cases h'; exact ⟨v, [], e, q, fun a ha => by cases ha⟩, fun j d st h => ⟨st, h⟩⟩
    · rw [if_neg hi] at h
      obtain ⟨hn, hs⟩ := got_nth hg
      cases st with
      | fz =>
        cases h
        obtain ⟨F1, G, A⟩ := s.cells.at (nth_lt hn)
        obtain ⟨v', F', e', q', z1, z2⟩ := A.rd d .fz hn (by decide)
        exact ⟨Z, O, s, .refl, .refl, fun d' st' h' => by cases h'; exact ⟨v', F', e', q', z1 rfl⟩, fun j d st h => ⟨st, h⟩⟩
      | ow =>
        cases h
        obtain ⟨F1, G, A⟩ := s.cells.at (nth_lt hn)
        obtain ⟨v', F', e', q', z1, z2⟩ := A.rd d .ow hn (by decide)
        have hF : F1 = F' := (z2 (by decide)).1
        subst hF
        have nd := A.perm.nodup_iff.mp s.nd
        have nd2 := List.nodup_append.mp nd
        have s2 : Sta K (fun a => Z a ∨ a ∈ F1) G (put r i none) σ H := by
          have s0 : Sta K Z G (put r i none) σ H := ⟨A.out, nd2.2.1, fun a ha => s.sep a (A.perm.mem_iff.mpr (List.mem_append_right _ ha)), s.zm⟩
          exact s0.zmore (fun a ha hg => nd2.2.2 a ha a hg rfl) fun a ha => q'.mt a ha
        have c := A.fz (fun a => Z a ∨ a ∈ F1) (fun a h => .inl h) d v' F1 q' fun a ha => .inr ha
        rw [set_self e'] at c
        refine ⟨fun a => Z a ∨ a ∈ F1, G, ⟨c, s2.nd, s2.sep, s2.zm⟩, ⟨fun a h => .inl h, fun a h => h.elim .inl fun h => .inr (A.perm.mem_iff.mpr (List.mem_append_left _ h)), fun a h => A.perm.mem_iff.mpr (List.mem_append_right _ h)⟩, ?_, fun d' st' h' => by cases h'; exact ⟨v', F1, e', q', fun a ha => .inr ha⟩, fun j d2 st2 h2 => ?_⟩
        · exact Kp.put0 fun d' st' h' => by rw [hn] at h'; cases h'; exact ⟨by decide, by decide⟩
        · by_cases ej : i = j
          · subst ej
            rw [hg] at h2
            cases h2
            exact ⟨.fz, by unfold got; rw [nth_put_same (nth_lt hn)]⟩
          · refine ⟨st2, ?_⟩
            unfold got at h2 ⊢
            rw [nth_put_ne ej]
            exact h2
      | pn => cases h
      | lo => cases h
theorem Ops.zmono (zz : ∀ a, Z a → Z' a) : ∀ {os : List Opd} {vs : List V} {P : List Addr}, Ops K Z H σ os vs P → Ops K Z' H σ os vs P
  | _, _, _, .nil => .nil
  | _, _, _, .nm e o => .nm e (Ops.zmono zz o)
  | _, _, _, .own q n o => .own q n (Ops.zmono zz o)
  | _, _, _, .fz q f o => .fz q (fun a ha => zz a (f a ha)) (Ops.zmono zz o)
/-- the data are the same, whatever their states -/
def SameD (r r' : Rho) : Prop := ∀ j d st, got r j = some (d, st) → ∃ st', got r' j = some (d, st')
theorem SameD.refl : SameD r r := fun _ _ st h => ⟨st, h⟩
theorem SameD.trans (x : SameD r r1) (y : SameD r1 r2) : SameD r r2 := fun j d st h => let ⟨st1, h1⟩ := x j d st h; y j d st1 h1
theorem SameD.dat (x : SameD r r') {o : Opd} {d : D} (h : dat r o = some d) : dat r' o = some d := by
  cases o with
  | nm i =>
    simp only [Cr.dat, Option.map_eq_some_iff] at h ⊢
    obtain ⟨⟨d', st⟩, hg, rfl⟩ := h
    obtain ⟨st', h'⟩ := x i d' st hg
    exact ⟨_, h', rfl⟩
  | val d' o => exact h
theorem SameD.dats (x : SameD r r') : ∀ {os : List Opd} {ds : List D}, dats r os = some ds → dats r' os = some ds
  | [], _, h => h
  | o :: os, ds, h => by
    simp only [Cr.dats, Option.bind_eq_some_iff, Option.map_eq_some_iff] at h ⊢
    obtain ⟨d, hd, ds', h', rfl⟩ := h
    exact ⟨d, x.dat hd, ds', SameD.dats x h', rfl⟩
theorem Ops.frzs : ∀ {os : List Opd} {vs : List V} {P : List Addr} {ds : List D} {r r' : Rho} {Z : Addr → Prop} {O : List Addr}, Sta K Z O r σ H → Ops K Z H σ os vs P → dats r os = some ds → frzs r os = some r' →
    ∃ Z' O' F, Sta K Z' O' r' σ H ∧ Lg Z O Z' O' ∧ Kp r r' σ σ ∧ Rs K H vs ds F ∧ (∀ a ∈ F, Z' a ∨ a ∈ P) ∧ SameD r r' ∧
      (∀ i d st, Opd.nm i ∈ os → got r i = some (d, st) → ∃ v F, σ[i]? = some (some v) ∧ R K H v d F ∧ ∀ a ∈ F, Z' a)
  | [], _, _, ds, r, r', Z, O, s, .nil, h, hf => by
    simp only [dats, Option.some.injEq] at h
    simp only [Cr.frzs, Option.some.injEq] at hf
    subst h hf
    exact ⟨Z, O, [], s, .refl, .refl, .nil, (fun _ h => by cases h), .refl, fun _ _ _ h => by cases h⟩
  | .nm i :: os, _, _, ds, r, r', Z, O, s, .nm (v := v) e o, h, hf => by
    simp only [dats, dat, Option.bind_eq_some_iff, Option.map_eq_some_iff] at h
    obtain ⟨d, ⟨⟨d', st⟩, hg, rfl⟩, ds', hd, rfl⟩ := h
    simp only [Cr.frzs, Option.bind_eq_some_iff] at hf
    obtain ⟨r1, h1, h2⟩ := hf
    obtain ⟨Z1, O1, s1, l1, k1, a1, b1⟩ := s.frz1 h1
    obtain ⟨Z2, O2, F, s2, l2, k2, q, m, sd, nn⟩ := Ops.frzs s1 (o.zmono l1.zle) (SameD.dats b1 hd) h2
    obtain ⟨v', F', e', q', m'⟩ := a1 d' st hg
    have e2 := e'
    rw [e] at e'
    cases e'
    refine ⟨Z2, O2, F' ++ F, s2, l1.trans l2, k1.trans k2, .cons q' q, fun a ha => (List.mem_append.mp ha).elim (fun z => .inl (l2.zle a (m' a z))) (m a), SameD.trans b1 sd, fun j dj stj hj hgj => ?_⟩
    rcases List.mem_cons.mp hj with ej | hj
    · cases ej
      rw [hg] at hgj
      cases hgj
      exact ⟨_, F', e2, q', fun a ha => l2.zle a (m' a ha)⟩
    · obtain ⟨st', h'⟩ := b1 j dj stj hgj
      exact nn j dj st' hj h'
  | .val d true :: os, _, _, ds, r, r', Z, O, s, .own q' _ o, h, hf => by
    simp only [dats, dat, Option.bind_some, Option.map_eq_some_iff] at h
    obtain ⟨ds', hd, rfl⟩ := h
    simp only [Cr.frzs] at hf
    obtain ⟨Z2, O2, F, s2, l2, k2, q, m, sd, nn⟩ := Ops.frzs s o hd hf
    exact ⟨Z2, O2, _, s2, l2, k2, .cons q' q, fun a ha => (List.mem_append.mp ha).elim (fun z => .inr (List.mem_append_left _ z)) fun z => (m a z).elim .inl fun z => .inr (List.mem_append_right _ z), sd, fun i d st hi => nn i d st ((List.mem_cons.mp hi).resolve_left fun e => by cases e)⟩
  | .val d false :: os, _, _, ds, r, r', Z, O, s, .fz q' f' o, h, hf => by
    simp only [dats, dat, Option.bind_some, Option.map_eq_some_iff] at h
    obtain ⟨ds', hd, rfl⟩ := h
    simp only [Cr.frzs] at hf
    obtain ⟨Z2, O2, F, s2, l2, k2, q, m, sd, nn⟩ := Ops.frzs s o hd hf
    exact ⟨Z2, O2, _, s2, l2, k2, .cons q' q, fun a ha => (List.mem_append.mp ha).elim (fun z => .inl (l2.zle a (f' a z))) (m a), sd, fun i d st hi => nn i d st ((List.mem_cons.mp hi).resolve_left fun e => by cases e)⟩
/-- operands none of which has anything that changes but what is its own: nothing has to be frozen -/
theorem Ops.allOwn (s : Sta K Z O r σ H) : ∀ {os : List Opd} {vs : List V} {P : List Addr} {ds : List D}, Ops K Z H σ os vs P → dats r os = some ds → allOwn r os = true → ∃ F, Rs K H vs ds F ∧ F.Sublist P ∧ cnts ds = F.length
  | [], _, _, ds, .nil, h, _ => by
    simp only [dats, Option.some.injEq] at h
    subst h
    exact ⟨[], .nil, .refl _, rfl⟩
  | .nm i :: os, _, _, ds, .nm e o, h, ha => by
    simp only [dats, dat, Option.bind_eq_some_iff, Option.map_eq_some_iff] at h
    obtain ⟨d, ⟨⟨d', st⟩, hg, rfl⟩, ds', hd, rfl⟩ := h
    simp only [Cr.allOwn, hg, Bool.and_eq_true] at ha
    obtain ⟨F, q, m, n⟩ := Ops.allOwn s o hd ha.2
    obtain ⟨v', F', e', q', _⟩ := s.cells.read hg
    rw [e] at e'
    cases e'
    have z := q'.imm ha.1
    subst z
    exact ⟨[] ++ F, .cons q' q, by simpa using m, by rw [cnts, cnt_imm ha.1, n]; simp⟩
  | .val d true :: os, _, _, ds, .own q' n' o, h, ha => by
    simp only [dats, dat, Option.bind_some, Option.map_eq_some_iff] at h
    obtain ⟨ds', hd, rfl⟩ := h
    simp only [Cr.allOwn, Bool.and_eq_true] at ha
    obtain ⟨F, q, m, n⟩ := Ops.allOwn s o hd ha.2
    exact ⟨_, .cons q' q, m.append_left _, by rw [cnts, n, n', List.length_append]⟩
  | .val d false :: os, _, _, ds, .fz q' f' o, h, ha => by
    simp only [dats, dat, Option.bind_some, Option.map_eq_some_iff] at h
    obtain ⟨ds', hd, rfl⟩ := h
    simp only [Cr.allOwn, Bool.and_eq_true, Bool.or_false] at ha
    obtain ⟨F, q, m, n⟩ := Ops.allOwn s o hd ha.2
    have z := q'.imm ha.1
    subst z
    exact ⟨[] ++ F, .cons q' q, by simpa using m, by rw [cnts, cnt_imm ha.1, n]; simp⟩
end

theorem nil_all {p : Addr → Prop} : ∀ a ∈ ([] : List Addr), p a := fun _ h => nomatch h
theorem Step.none {Z Z' : Addr → Prop} {O O' : List Addr} {H H' : Hp} (s : Step Z O H Z' O' H') {a : Addr} (h : H' a = .none) : H a = .none := by
  cases e : H a with
  | none => rfl
  | some o => exact absurd h (s.alloc a (by rw [e]; simp))
/-! ### readings that are right for a step of the evaluator -/
section
variable (K : PySem.W.Frag)
/-- behind an expression -/
structure Post (Z : Addr → Prop) (O : List Addr) (H : Hp) (r : Rho) (σ : St) (Z' : Addr → Prop) (O' : List Addr) (H' : Hp) (r' : Rho) (os : List Opd) (vs : List V) (P : List Addr) : Prop where
  sta : Sta K Z' O' r' σ H'
  step : Step Z O H Z' O' H'
  kp : Kp r r' σ σ
  fly : Fly K Z' O' H' σ os vs P
  from_ : ∀ a ∈ P, a ∈ O ∨ H a = none
def GoodL (t : TA) (f : Rho → Option (List Opd × Rho)) : Prop := ∀ (r : Rho) (σ : St) (H : Hp) (Z : Addr → Prop) (O : List Addr) (Q : List V → Hp → Prop), Sta K Z O r σ H → ∀ os r', f r = some (os, r') →
  (∀ vs H' Z' O' P, Post K Z O H r σ Z' O' H' r' os vs P → Q vs H') → t σ H Q
def Good (t : TE) (f : Rho → Option (Opd × Rho)) : Prop := ∀ (r : Rho) (σ : St) (H : Hp) (Z : Addr → Prop) (O : List Addr) (Q : VK), Sta K Z O r σ H → ∀ x r', f r = some (x, r') →
  (∀ v H' Z' O' P, Post K Z O H r σ Z' O' H' r' [x] [v] P → Q v H') → t σ H Q
/-- a test -/
def GoodT (t : TT) (f : Rho → Option (Bool × Rho)) : Prop := ∀ (r : Rho) (σ : St) (H : Hp) (Z : Addr → Prop) (O : List Addr) (Q : Bool → Hp → Prop), Sta K Z O r σ H → ∀ b r', f r = some (b, r') →
  (∀ H' Z' O', Post K Z O H r σ Z' O' H' r' [] [] [] → Q b H') → t σ H Q
/-- what a rule for values must do: g says what comes of the data -/
def BR (rule : List V → Hp → VK → Prop) (cp : Bool) (g : List D → Option (D × List D)) : Prop := ∀ (vs : List V) (ds : List D) (F : List Addr) (H : Hp) (Q : VK) (d : D) (top : List D), Rs K H vs ds F → g ds = some (d, top) →
  (∀ v H' G, Keep (fun _ => False) H H' → R K H' v d G → (∀ a ∈ G, a ∈ F ∨ H a = none) → (cp = true → imms top = true → imm d = false → ∃ p, G = [p] ∧ H p = none ∧ cnt d = 1) → Q v H') → rule vs H Q
end
section
variable {K : PySem.W.Frag} {Z Z1 Z2 Z' E : Addr → Prop} {O O1 O2 O' P P' : List Addr} {r r' r1 r2 : Rho} {σ σ' σ1 : St} {H H1 H2 H' : Hp} {os os' : List Opd} {vs vs' : List V}
theorem Post.nil (s : Sta K Z O r σ H) : Post K Z O H r σ Z O H r [] [] [] := ⟨s, .refl, .refl, .nil, fun _ h => by cases h⟩
/-- one behind another -/
theorem Post.cons (x : Post K Z O H r σ Z1 O1 H1 r1 os vs P) (y : Post K Z1 O1 H1 r1 σ Z2 O2 H2 r2 os' vs' P') : Post K Z O H r σ Z2 O2 H2 r2 (os ++ os') (vs ++ vs') (P ++ P') where
  sta := y.sta
  step := x.step.trans y.step
  kp := x.kp.trans y.kp
  fly := (x.fly.step x.sta y.step).append y.fly fun a ha h => (y.from_ a ha).elim (x.fly.out a h) fun z => (x.fly.ops.mt a h).some z
  from_ := fun a ha => by
    rcases List.mem_append.mp ha with h | h
    · exact x.from_ a h
    · rcases y.from_ a h with h | h
      · exact x.step.onew a h
      · refine .inr ?_
        cases e : H a with
        | none => rfl
        | some o => exact absurd h (x.step.alloc a (by rw [e]; simp))
/-- the operands are no longer asked for -/
theorem Post.drop (x : Post K Z O H r σ Z1 O1 H1 r1 os vs P) : Post K Z O H r σ Z1 O1 H1 r1 [] [] [] := ⟨x.sta, x.step, x.kp, .nil, fun _ h => by cases h⟩
/-- the heap grows -/
theorem Post.grow (x : Post K Z O H r σ Z1 O1 H1 r1 os vs P) (k : Keep (fun _ => False) H1 H2) : Post K Z O H r σ Z1 O1 H2 r1 os vs P :=
  ⟨x.sta.heap k, x.step.trans k.step, x.kp, x.fly.step x.sta k.step, x.from_⟩
/-- a value without anything that changes -/
theorem Post.val0 (x : Post K Z O H r σ Z1 O1 H1 r1 os vs P) {v : V} {d : D} (q : R K H1 v d []) (hc : cnt d = 0 := by rfl) : Post K Z O H r σ Z1 O1 H1 r1 [.val d true] [v] [] :=
  ⟨x.sta, x.step, x.kp, ⟨.own q hc .nil, List.nodup_nil, nil_all, nil_all⟩, nil_all⟩
/-- more is frozen -/
theorem Post.lg (x : Post K Z O H r σ Z1 O1 H1 r1 os vs P) (s : Sta K Z2 O2 r2 σ H1) (l : Lg Z1 O1 Z2 O2) (k : Kp r1 r2 σ σ) : Post K Z O H r σ Z2 O2 H1 r2 os vs P :=
  ⟨s, x.step.trans l.step, x.kp.trans k, x.fly.step x.sta l.step, x.from_⟩
/-- all that is in flight is frozen, and new things too -/
theorem Post.freeze (x : Post K Z O H r σ Z1 O1 H1 r1 os vs P) {E : Addr → Prop} (he : ∀ a, E a → a ∈ P ∨ H1 a = none) (k : Keep (fun _ => False) H1 H2) (me : ∀ a, E a → Mt (H2 a)) {v : V} {d : D} {G : List Addr} (q : R K H2 v d G) (hg : ∀ a ∈ G, Z1 a ∨ E a) :
    Post K Z O H r σ (fun a => Z1 a ∨ E a) O1 H2 r1 [.val d false] [v] [] where
  sta := (x.sta.heap k).zmore (fun a ha h => (he a ha).elim (fun z => x.fly.out a z h) fun z => (x.sta.mo a h).some z) me
  step := {
    keep := fun a o e n => k.no (x.step.keep a o e n)
    alloc := fun a h => (k.step (Z := Z) (O := O)).alloc a (x.step.alloc a h)
    zle := fun a h => .inl (x.step.zle a h)
    znew := fun a h => h.elim (x.step.znew a) fun h => (he a h).elim (fun z => .inr (x.from_ a z)) fun z => .inr (.inr (x.step.none z))
    onew := x.step.onew }
  kp := x.kp
  fly := ⟨.fz q (fun a ha => hg a ha) .nil, List.nodup_nil, nil_all, nil_all⟩
  from_ := nil_all
end
end Cr
/-! # Comb: the readings of expressions are right for the evaluator. -/
namespace Cr
open PySem L2
section
variable {K : PySem.W.Frag} {Z Z1 Z2 Z' E : Addr → Prop} {O O1 O2 O' P P' : List Addr} {r r' r1 r2 : Rho} {σ σ' σ1 : St} {H H1 H2 H' : Hp} {os os' : List Opd} {vs vs' : List V}
theorem dats2 {r : Rho} {x y : Opd} {da db : D} (h1 : dat r x = some da) (h2 : dat r y = some db) : dats r [x, y] = some [da, db] := by
  simp [dats, h1, h2]
theorem dats1 {r : Rho} {x : Opd} {da : D} (h1 : dat r x = some da) : dats r [x] = some [da] := by simp [dats, h1]
theorem dats3 {r : Rho} {x y z : Opd} {da db dc : D} (h1 : dat r x = some da) (h2 : dat r y = some db) (h3 : dat r z = some dc) : dats r [x, y, z] = some [da, db, dc] := by
  simp [dats, h1, h2, h3]
/-- the end of an operation -/
theorem fin_good {rule : List V → Hp → VK → Prop} {cp : Bool} {g : List D → Option (D × List D)} {ds : List D} {d : D} {top : List D} {x : Opd} {Q : VK} (b : BR K rule cp g) (p : Post K Z O H r σ Z1 O1 H1 r1 os vs P)
    (hd : dats r1 os = some ds) (hg : g ds = some (d, top)) (hf : fin cp top d os r1 = some (x, r')) (k : ∀ v H' Z' O' P', Post K Z O H r σ Z' O' H' r' [x] [v] P' → Q v H') : rule vs H1 Q := by
  unfold fin at hf
  by_cases hi : imm d = true
  · rw [if_pos hi] at hf
    cases hf
    obtain ⟨F, q, m⟩ := p.fly.ops.rs p.sta hd
    refine b vs ds F H1 Q d top q hg fun v H' G kk qv mg _ => ?_
    have z := qv.imm hi
    subst z
    exact k v H' _ _ _ ((p.grow kk).val0 qv (cnt_imm hi))
  · rw [if_neg hi] at hf
    by_cases hc : (cp && imms top) = true
    · rw [if_pos hc] at hf
      cases hf
      obtain ⟨F, q, m⟩ := p.fly.ops.rs p.sta hd
      refine b vs ds F H1 Q d top q hg fun v H' G kk qv mg ht => ?_
      rw [Bool.and_eq_true] at hc
      obtain ⟨a, rfl, ha, hn⟩ := ht hc.1 hc.2 (by simpa using hi)
      have pg := p.grow kk
      refine k v H' _ _ [a] ⟨pg.sta, pg.step, pg.kp, ⟨.own qv hn .nil, by simp, fun a' h h' => ?_, fun a' h h' => ?_⟩, fun a' h => ?_⟩
      · obtain rfl : a' = a := by simpa using h
        exact (p.sta.mo _ h').some ha
      · obtain rfl : a' = a := by simpa using h
        exact (p.sta.zm _ h').some ha
      · obtain rfl : a' = a := by simpa using h
        exact .inr (p.step.none ha)
    · rw [if_neg hc] at hf
      simp only [Option.map_eq_some_iff] at hf
      obtain ⟨r2, hf, e⟩ := hf
      cases e
      obtain ⟨Z2, O2, F, s2, l2, k2, q, m, _, _⟩ := Ops.frzs p.sta p.fly.ops hd hf
      refine b vs ds F H1 Q d top q hg fun v H' G kk qv mg _ => ?_
      have p2 := p.lg s2 l2 k2
      refine k v H' _ _ _ (p2.freeze (E := fun a => a ∈ G ∧ (a ∈ P ∨ H1 a = none)) (fun a h => h.2) kk (fun a h => qv.mt a h.1) qv fun a h => ?_)
      rcases mg a h with z | z
      · exact (m a z).elim .inl fun z => .inr ⟨h, .inl z⟩
      · exact .inr ⟨h, .inr z⟩
theorem good_var {i : Nat} : Good K (tVar i) (fun r => (got r i).map fun _ => (.nm i, r)) := by
  intro r σ H Z O Q s x r' h k
  simp only [Option.map_eq_some_iff] at h
  obtain ⟨⟨d, st⟩, hg, e⟩ := h
  cases e
  obtain ⟨v, F, e, q, m⟩ := s.cells.read hg
  exact ⟨v, e, k v H Z O [] ⟨s, .refl, .refl, ⟨.nm e .nil, List.nodup_nil, nil_all, nil_all⟩, nil_all⟩⟩
theorem good_con {v : V} {d : D} (hv : ∀ H, R K H v d []) (hc : cnt d = 0) : Good K (tC v) (fun r => some (.val d true, r)) := by
  intro r σ H Z O Q s x r' h k
  cases h
  exact k v H Z O [] ((Post.nil s).val0 (hv H) hc)
theorem goodL_nil : GoodL K tNil (fun r => some ([], r)) := by
  intro r σ H Z O Q s x r' h k
  cases h
  exact k [] H Z O [] (Post.nil s)
theorem goodL_cons {ta : TE} {tr : TA} {f : Rho → Option (Opd × Rho)} {g : Rho → Option (List Opd × Rho)} (ha : Good K ta f) (hr : GoodL K tr g) :
    GoodL K (tCons ta tr) (fun r => (f r).bind fun (o, r1) => (g r1).map fun (os, r2) => (o :: os, r2)) := by
  intro r σ H Z O Q s x r' h k
  simp only [Option.bind_eq_some_iff, Option.map_eq_some_iff] at h
  obtain ⟨⟨o, r1⟩, h1, ⟨os, r2⟩, h2, e⟩ := h
  cases e
  refine ha r σ H Z O _ s o r1 h1 fun v H1 Z1 O1 P1 p1 => ?_
  refine hr r1 σ H1 Z1 O1 _ p1.sta os _ h2 fun vs H2 Z2 O2 P2 p2 => ?_
  exact k (v :: vs) H2 Z2 O2 _ (p1.cons p2)
/-- an operation on several values -/
theorem good_opL {t : TA} {fs : Rho → Option (List Opd × Rho)} {rule : List V → Hp → VK → Prop} {cp : Bool} {g : List D → Option (D × List D)} (ht : GoodL K t fs) (b : BR K rule cp g) :
    Good K (fun σ H Q => t σ H fun vs H1 => rule vs H1 Q) (fun r => (fs r).bind fun (os, r1) => (dats r1 os).bind fun ds => (g ds).bind fun (d, top) => fin cp top d os r1) := by
  intro r σ H Z O Q s x r' h k
  simp only [Option.bind_eq_some_iff] at h
  obtain ⟨⟨os, r1⟩, h1, ds, h2, ⟨d, top⟩, h3, h4⟩ := h
  exact ht r σ H Z O _ s os r1 h1 fun vs H1 Z1 O1 P1 p1 => fin_good b p1 h2 h3 h4 k
theorem good_op2 {ta tb : TE} {f g : Rho → Option (Opd × Rho)} {rule : V → V → Hp → VK → Prop} {cp : Bool} {u : D → D → Option (D × List D)} (ha : Good K ta f) (hb : Good K tb g)
    (b : BR K (fun vs H Q => ∃ x y, vs = [x, y] ∧ rule x y H Q) cp (fun ds => match ds with | [x, y] => u x y | _ => none)) :
    Good K (fun σ H Q => ta σ H fun x H1 => tb σ H1 fun y H2 => rule x y H2 Q) (fun r => (f r).bind fun (x, r1) => (g r1).bind fun (y, r2) =>
      (dat r2 x).bind fun da => (dat r2 y).bind fun db => (u da db).bind fun (d, top) => fin cp top d [x, y] r2) := by
  intro r σ H Z O Q s x r' h k
  simp only [Option.bind_eq_some_iff] at h
  obtain ⟨⟨x, r1⟩, h1, ⟨y, r2⟩, h2, da, h3, db, h4, ⟨d, top⟩, h5, h6⟩ := h
  refine ha r σ H Z O _ s x r1 h1 fun v H1 Z1 O1 P1 p1 => ?_
  refine hb r1 σ H1 Z1 O1 _ p1.sta y r2 h2 fun w H2 Z2 O2 P2 p2 => ?_
  have p := p1.cons p2
  obtain ⟨x', y', e, q⟩ := fin_good (vs := [v, w]) b p (dats2 h3 h4) h5 h6 k
  cases e
  exact q
theorem good_op1 {ta : TE} {f : Rho → Option (Opd × Rho)} {rule : V → Hp → VK → Prop} {cp : Bool} {u : D → Option (D × List D)} (ha : Good K ta f)
    (b : BR K (fun vs H Q => ∃ x, vs = [x] ∧ rule x H Q) cp (fun ds => match ds with | [x] => u x | _ => none)) :
    Good K (fun σ H Q => ta σ H fun x H1 => rule x H1 Q) (fun r => (f r).bind fun (x, r1) => (dat r1 x).bind fun da => (u da).bind fun (d, top) => fin cp top d [x] r1) := by
  intro r σ H Z O Q s x r' h k
  simp only [Option.bind_eq_some_iff] at h
  obtain ⟨⟨x, r1⟩, h1, da, h3, ⟨d, top⟩, h5, h6⟩ := h
  refine ha r σ H Z O _ s x r1 h1 fun v H1 Z1 O1 P1 p1 => ?_
  obtain ⟨x', e, q⟩ := fin_good (vs := [v]) b p1 (dats1 h3) h5 h6 k
  cases e
  exact q
/-- displays -/
theorem good_disp {t : TA} {fs : Rho → Option (List Opd × Rho)} {mk : List D → D} {mo : List V → HO} (ht : GoodL K t fs)
    (hmk : ∀ (H : Hp) (p : Addr) (vs : List V) (ds : List D) (F : List Addr), H p = none → Rs K H vs ds F → (R K (upd H p (mo vs)) (.ref p) (mk ds) (p :: F) ∧ cnt (mk ds) = cnts ds + 1) ∨ (R K (upd H p (mo vs)) (.ref p) (mk ds) F ∧ cnt (mk ds) = cnts ds)) :
    Good K (fun σ H Q => t σ H fun vs H1 => vs.length ≤ sizeLine ∧ ∀ p, H1 p = none → Q (.ref p) (upd H1 p (mo vs)))
      (fun r => (fs r).bind fun (os, r1) => (dats r1 os).bind fun ds => if small ds.length then
        if allOwn r1 os then some (.val (mk ds) true, r1) else (frzs r1 os).map fun r' => (.val (mk ds) false, r') else none) := by
  intro r σ H Z O Q s x r' h k
  simp only [Option.bind_eq_some_iff] at h
  obtain ⟨⟨os, r1⟩, h1, ds, h2, h3⟩ := h
  refine ht r σ H Z O _ s os r1 h1 fun vs H1 Z1 O1 P1 p1 => ?_
  by_cases hs : small ds.length = true
  · rw [if_pos hs] at h3
    have hl : vs.length ≤ sizeLine := by
      obtain ⟨F, q, _⟩ := p1.fly.ops.rs p1.sta h2
      rw [q.len]
      have : ds.length ≤ 1000000 := of_decide_eq_true hs
      exact Nat.le_trans this (by decide)
    refine ⟨hl, fun p hp => ?_⟩
    have kk : Keep (fun _ => False) H1 (upd H1 p (mo vs)) := Keep.upd hp
    by_cases hw : allOwn r1 os = true
    · rw [if_pos hw] at h3
      cases h3
      obtain ⟨F, q, m, hn⟩ := Ops.allOwn p1.sta p1.fly.ops h2 hw
      have pg := p1.grow kk
      have pF : p ∉ F := fun h => (q.mt p h).some hp
      have fin2 : ∀ G, R K (upd H1 p (mo vs)) (.ref p) (mk ds) G → cnt (mk ds) = G.length → G.Nodup → (∀ a ∈ G, a = p ∨ a ∈ F) → Q (.ref p) (upd H1 p (mo vs)) := fun G qv nG nd mg => by
        have mp : ∀ a ∈ F, a ∈ P1 := fun a ha => m.subset ha
        refine k _ _ _ _ G ⟨pg.sta, pg.step, pg.kp, ⟨by simpa using Ops.own (σ := σ) (Z := Z1) qv nG .nil, nd, fun a h h' => ?_, fun a h h' => ?_⟩, fun a h => ?_⟩
        · rcases mg a h with rfl | h
          · exact (p1.sta.mo _ h').some hp
          · exact p1.fly.out a (mp a h) h'
        · rcases mg a h with rfl | h
          · exact (p1.sta.zm _ h').some hp
          · exact p1.fly.sep a (mp a h) h'
        · rcases mg a h with rfl | h
          · exact .inr (p1.step.none hp)
          · exact p1.from_ a (mp a h)
      have ndF : F.Nodup := m.nodup p1.fly.nd
      rcases hmk H1 p vs ds F hp q with ⟨qv, hc⟩ | ⟨qv, hc⟩
      · exact fin2 _ qv (by rw [hc, hn, List.length_cons]) (List.nodup_cons.mpr ⟨pF, ndF⟩) fun a h => List.mem_cons.mp h
      · exact fin2 _ qv (by rw [hc, hn]) ndF fun a h => .inr h
    · rw [if_neg hw] at h3
      simp only [Option.map_eq_some_iff] at h3
      obtain ⟨r2, hf, e⟩ := h3
      cases e
      obtain ⟨Z2, O2, F, s2, l2, k2, q, m, _, _⟩ := Ops.frzs p1.sta p1.fly.ops h2 hf
      have p2 := p1.lg s2 l2 k2
      have fin2 : ∀ G, R K (upd H1 p (mo vs)) (.ref p) (mk ds) G → (∀ a ∈ G, a = p ∨ a ∈ F) → Q (.ref p) (upd H1 p (mo vs)) := fun G qv mg => by
        refine k _ _ _ _ _ (p2.freeze (E := fun a => a ∈ G ∧ (a ∈ P1 ∨ H1 a = none)) (fun a h => h.2) kk (fun a h => qv.mt a h.1) qv fun a h => ?_)
        rcases mg a h with rfl | z
        · exact .inr ⟨h, .inr hp⟩
        · exact (m a z).elim .inl fun z => .inr ⟨h, .inl z⟩
      rcases hmk H1 p vs ds F hp q with ⟨qv, _⟩ | ⟨qv, _⟩
      · exact fin2 _ qv fun a h => List.mem_cons.mp h
      · exact fin2 _ qv fun a h => .inr h
  · rw [if_neg hs] at h3
    cases h3
theorem good_lst {t : TA} {fs : Rho → Option (List Opd × Rho)} (ht : GoodL K t fs) : Good K (tLst t) (fun r => (fs r).bind fun (os, r1) => (dats r1 os).bind fun ds => if small ds.length then
        if allOwn r1 os then some (.val (.list ds) true, r1) else (frzs r1 os).map fun r' => (.val (.list ds) false, r') else none) :=
  good_disp (mo := .lst) ht fun H p vs ds F hp q => .inl ⟨.lst upd_same (q.heap (Keep.upd hp)), by rw [cnt]⟩
theorem good_tup {t : TA} {fs : Rho → Option (List Opd × Rho)} (ht : GoodL K t fs) : Good K (tTup t) (fun r => (fs r).bind fun (os, r1) => (dats r1 os).bind fun ds => if small ds.length then
        if allOwn r1 os then some (.val (.tuple ds) true, r1) else (frzs r1 os).map fun r' => (.val (.tuple ds) false, r') else none) :=
  good_disp (mo := .tup) ht fun H p vs ds F hp q => .inr ⟨.tup (.inl (.inl upd_same)) (q.heap (Keep.upd hp)), by rw [cnt]⟩
/-! ### tests, and, or, not, if -/
theorem R.bool_inv {v : V} {b : Bool} {F : List Addr} (q : R K H v (.bool b) F) : v = .bl b ∧ F = [] := by cases q; exact ⟨rfl, rfl⟩
theorem R.int_inv {v : V} {i : Int} {F : List Addr} (q : R K H v (.int i) F) : v = .int i ∧ F = [] := by cases q; exact ⟨rfl, rfl⟩
theorem R.str_inv {v : V} {i : Str} {F : List Addr} (q : R K H v (.str i) F) : v = .str i ∧ F = [] := by cases q; exact ⟨rfl, rfl⟩
/-- a single operand's data -/
theorem Post.one {x : Opd} {v : V} {d : D} (p : Post K Z O H r σ Z1 O1 H1 r1 [x] [v] P) (h : dat r1 x = some d) : ∃ F, R K H1 v d F ∧ ∀ a ∈ F, a ∈ O1 ∨ Z1 a ∨ a ∈ P := by
  obtain ⟨F, q, m⟩ := p.fly.ops.rs p.sta (dats1 h)
  cases q with
  | cons q q' =>
    cases q'
    exact ⟨_, q, fun a ha => m a (by simpa using ha)⟩
theorem goodT_of {t : TE} {f : Rho → Option (Opd × Rho)} (h : Good K t f) : GoodT K (tTest t) (fun r => (f r).bind fun (x, r1) => match dat r1 x with
  | some (.bool b) => some (b, r1)
  | _ => none) := by
  intro r σ H Z O Q s b r' hf k
  simp only [Option.bind_eq_some_iff] at hf
  obtain ⟨⟨x, r1⟩, h1, h2⟩ := hf
  refine h r σ H Z O _ s x r1 h1 fun v H1 Z1 O1 P1 p1 => ?_
  cases hd : dat r1 x with
  | none => simp [hd] at h2
  | some d =>
    cases d with
    | bool c =>
      simp only [hd, Option.some.injEq, Prod.mk.injEq] at h2
      obtain ⟨rfl, rfl⟩ := h2
      obtain ⟨F, q, _⟩ := p1.one hd
      obtain ⟨rfl, _⟩ := q.bool_inv
      exact ⟨_, rfl, k _ _ _ p1.drop⟩
    | _ => simp [hd] at h2
end
end Cr
/-! # Comb2: tests, and, or, not, conditional expressions, chains, slices; calls of defs. -/
namespace Cr
open PySem L2
section
variable {K : PySem.W.Frag} {Z Z1 Z2 Z' E : Addr → Prop} {O O1 O2 O' P P' : List Addr} {r r' r1 r2 : Rho} {σ σ' σ1 : St} {H H1 H2 H' : Hp} {os os' : List Opd} {vs vs' : List V}
/-- the test of what f gives -/
def tst (f : Rho → Option (Opd × Rho)) (r : Rho) : Option (Bool × Rho) := (f r).bind fun (x, r1) => match dat r1 x with
  | some (.bool b) => some (b, r1)
  | _ => none
theorem tst_inv {f : Rho → Option (Opd × Rho)} {b : Bool} (h : tst f r = some (b, r')) : ∃ x, f r = some (x, r') ∧ dat r' x = some (.bool b) := by
  unfold tst at h
  simp only [Option.bind_eq_some_iff] at h
  obtain ⟨⟨x, r1⟩, h1, h2⟩ := h
  split at h2
  · rename_i c hc
    simp only [Option.some.injEq, Prod.mk.injEq] at h2
    obtain ⟨rfl, rfl⟩ := h2
    exact ⟨x, h1, hc⟩
  · cases h2
theorem goodT_tst {t : TE} {f : Rho → Option (Opd × Rho)} (h : Good K t f) : GoodT K (tTest t) (tst f) := goodT_of h
theorem goodT_and {t u : TT} {f g : Rho → Option (Bool × Rho)} (ht : GoodT K t f) (hu : GoodT K u g) : GoodT K (tAnd t u) (fun r => (f r).bind fun (c, r1) => if c then g r1 else some (false, r1)) := by
  intro r σ H Z O Q s b r' h k
  simp only [Option.bind_eq_some_iff] at h
  obtain ⟨⟨c, r1⟩, h1, h2⟩ := h
  refine ht r σ H Z O _ s c r1 h1 fun H1 Z1 O1 p1 => ?_
  cases c with
  | true =>
    simp only [if_true] at h2 ⊢
    exact hu r1 σ H1 Z1 O1 Q p1.sta b r' h2 fun H2 Z2 O2 p2 => k H2 Z2 O2 (p1.cons p2)
  | false =>
    simp only [Bool.false_eq_true, if_false] at h2 ⊢
    cases h2
    exact k _ _ _ p1
theorem goodT_or {t u : TT} {f g : Rho → Option (Bool × Rho)} (ht : GoodT K t f) (hu : GoodT K u g) : GoodT K (tOr t u) (fun r => (f r).bind fun (c, r1) => if c then some (true, r1) else g r1) := by
  intro r σ H Z O Q s b r' h k
  simp only [Option.bind_eq_some_iff] at h
  obtain ⟨⟨c, r1⟩, h1, h2⟩ := h
  refine ht r σ H Z O _ s c r1 h1 fun H1 Z1 O1 p1 => ?_
  cases c with
  | false =>
    simp only [Bool.false_eq_true, if_false] at h2 ⊢
    exact hu r1 σ H1 Z1 O1 Q p1.sta b r' h2 fun H2 Z2 O2 p2 => k H2 Z2 O2 (p1.cons p2)
  | true =>
    simp only [if_true] at h2 ⊢
    cases h2
    exact k _ _ _ p1
theorem goodT_not {t : TT} {f : Rho → Option (Bool × Rho)} (ht : GoodT K t f) : GoodT K (tNot t) (fun r => (f r).map fun (c, r1) => (!c, r1)) := by
  intro r σ H Z O Q s b r' h k
  simp only [Option.map_eq_some_iff] at h
  obtain ⟨⟨c, r1⟩, h1, e⟩ := h
  cases e
  exact ht r σ H Z O _ s c r1 h1 fun H1 Z1 O1 p1 => k _ _ _ p1
theorem GoodT.eq {t : TT} {f g : Rho → Option (Bool × Rho)} (h : GoodT K t f) (e : ∀ r b r', g r = some (b, r') → f r = some (b, r')) : GoodT K t g :=
  fun r σ H Z O Q s b r' hg k => h r σ H Z O Q s b r' (e r b r' hg) k
theorem Good.eq {t : TE} {f g : Rho → Option (Opd × Rho)} (h : Good K t f) (e : ∀ r b r', g r = some (b, r') → f r = some (b, r')) : Good K t g :=
  fun r σ H Z O Q s b r' hg k => h r σ H Z O Q s b r' (e r b r' hg) k

/-! the values of and, or, not -/
theorem good_and {ta tb : TE} {f g : Rho → Option (Opd × Rho)} (ha : Good K ta f) (hb : Good K tb g) : Good K (tAndV ta tb) (fun r => (f r).bind fun (x, r1) => match dat r1 x with
      | some (.bool c) => if c then g r1 else some (.val (.bool false) true, r1)
      | _ => none) := by
  intro r σ H Z O Q s x r' h k
  simp only [Option.bind_eq_some_iff] at h
  obtain ⟨⟨y, r1⟩, h1, h2⟩ := h
  refine ha r σ H Z O _ s y r1 h1 fun v H1 Z1 O1 P1 p1 => ?_
  split at h2
  · rename_i c hc
    obtain ⟨F, q, _⟩ := p1.one hc
    obtain ⟨rfl, _⟩ := q.bool_inv
    refine ⟨c, rfl, ?_⟩
    cases c with
    | true =>
      simp only [if_true] at h2 ⊢
      exact hb r1 σ H1 Z1 O1 Q p1.sta x r' h2 fun v H2 Z2 O2 P2 p2 => k v H2 Z2 O2 P2 (p1.drop.cons p2)
    | false =>
      simp only [Bool.false_eq_true, if_false] at h2 ⊢
      cases h2
      exact k _ _ _ _ _ (p1.val0 (.bl false))
  · cases h2
theorem good_or {ta tb : TE} {f g : Rho → Option (Opd × Rho)} (ha : Good K ta f) (hb : Good K tb g) : Good K (tOrV ta tb) (fun r => (f r).bind fun (x, r1) => match dat r1 x with
      | some (.bool c) => if c then some (.val (.bool true) true, r1) else g r1
      | _ => none) := by
  intro r σ H Z O Q s x r' h k
  simp only [Option.bind_eq_some_iff] at h
  obtain ⟨⟨y, r1⟩, h1, h2⟩ := h
  refine ha r σ H Z O _ s y r1 h1 fun v H1 Z1 O1 P1 p1 => ?_
  split at h2
  · rename_i c hc
    obtain ⟨F, q, _⟩ := p1.one hc
    obtain ⟨rfl, _⟩ := q.bool_inv
    refine ⟨c, rfl, ?_⟩
    cases c with
    | false =>
      simp only [Bool.false_eq_true, if_false] at h2 ⊢
      exact hb r1 σ H1 Z1 O1 Q p1.sta x r' h2 fun v H2 Z2 O2 P2 p2 => k v H2 Z2 O2 P2 (p1.drop.cons p2)
    | true =>
      simp only [if_true] at h2 ⊢
      cases h2
      exact k _ _ _ _ _ (p1.val0 (.bl true))
  · cases h2
theorem good_not {ta : TE} {f : Rho → Option (Opd × Rho)} (ha : Good K ta f) : Good K (tNotV ta) (fun r => (f r).bind fun (x, r1) => match dat r1 x with
      | some (.bool b) => some (.val (.bool (!b)) true, r1)
      | _ => none) := by
  intro r σ H Z O Q s x r' h k
  simp only [Option.bind_eq_some_iff] at h
  obtain ⟨⟨y, r1⟩, h1, h2⟩ := h
  refine ha r σ H Z O _ s y r1 h1 fun v H1 Z1 O1 P1 p1 => ?_
  split at h2
  · rename_i c hc
    obtain ⟨F, q, _⟩ := p1.one hc
    obtain ⟨rfl, _⟩ := q.bool_inv
    cases h2
    exact ⟨c, rfl, k _ _ _ _ _ (p1.val0 (.bl _))⟩
  · cases h2
theorem good_ife {t : TT} {ta tb : TE} {f : Rho → Option (Bool × Rho)} {g h : Rho → Option (Opd × Rho)} (ht : GoodT K t f) (ha : Good K ta g) (hb : Good K tb h) :
    Good K (tIf t ta tb) (fun r => (f r).bind fun (c, r1) => if c then g r1 else h r1) := by
  intro r σ H Z O Q s x r' hh k
  simp only [Option.bind_eq_some_iff] at hh
  obtain ⟨⟨c, r1⟩, h1, h2⟩ := hh
  refine ht r σ H Z O _ s c r1 h1 fun H1 Z1 O1 p1 => ?_
  cases c with
  | true =>
    simp only [if_true] at h2 ⊢
    exact ha r1 σ H1 Z1 O1 Q p1.sta x r' h2 fun v H2 Z2 O2 P2 p2 => k v H2 Z2 O2 P2 (p1.cons p2)
  | false =>
    simp only [Bool.false_eq_true, if_false] at h2 ⊢
    exact hb r1 σ H1 Z1 O1 Q p1.sta x r' h2 fun v H2 Z2 O2 P2 p2 => k v H2 Z2 O2 P2 (p1.cons p2)
theorem Ops.tail {x : Opd} {v : V} (o : Ops K Z H σ (x :: os) (v :: vs) P) : ∃ P', Ops K Z H σ os vs P' ∧ P'.Sublist P := by
  cases o with
  | nm e o => exact ⟨_, o, .refl _⟩
  | own q _ o => exact ⟨_, o, List.sublist_append_right _ _⟩
  | fz q f o => exact ⟨_, o, .refl _⟩
theorem Post.tail {x : Opd} {v : V} (p : Post K Z O H r σ Z1 O1 H1 r1 (x :: os) (v :: vs) P) : ∃ P', Post K Z O H r σ Z1 O1 H1 r1 os vs P' := by
  obtain ⟨P', o, m⟩ := p.fly.ops.tail
  exact ⟨P', p.sta, p.step, p.kp, ⟨o, m.nodup p.fly.nd, fun a ha => p.fly.out a (m.subset ha), fun a ha => p.fly.sep a (m.subset ha)⟩, fun a ha => p.from_ a (m.subset ha)⟩
/-- what a rule for a comparison must do -/
def BC (K : PySem.W.Frag) (rule : V → V → Hp → VK → Prop) (u : D → D → Option Bool) : Prop := ∀ (x y : V) (da db : D) (F G : List Addr) (H : Hp) (Q : VK) (c : Bool), R K H x da F → R K H y db G → u da db = some c →
  (∀ H', Keep (fun _ => False) H H' → Q (.bl c) H') → rule x y H Q
theorem good_cmp {ta tb : TE} {f g : Rho → Option (Opd × Rho)} {rule : V → V → Hp → VK → Prop} {u : D → D → Option Bool} (ha : Good K ta f) (hb : Good K tb g) (b : BC K rule u) :
    Good K (tOp rule ta tb) (fun r => (f r).bind fun (x, r1) => (g r1).bind fun (y, r2) =>
      (dat r2 x).bind fun da => (dat r2 y).bind fun db => (u da db).map fun c => (.val (.bool c) true, r2)) := by
  intro r σ H Z O Q s x r' h k
  simp only [Option.bind_eq_some_iff, Option.map_eq_some_iff] at h
  obtain ⟨⟨x, r1⟩, h1, ⟨y, r2⟩, h2, da, h3, db, h4, c, h5, e⟩ := h
  cases e
  refine ha r σ H Z O _ s x r1 h1 fun v H1 Z1 O1 P1 p1 => ?_
  refine hb r1 σ H1 Z1 O1 _ p1.sta y r2 h2 fun w H2 Z2 O2 P2 p2 => ?_
  have p := p1.cons p2
  obtain ⟨F, q, _⟩ := p.fly.ops.rs p.sta (dats2 h3 h4)
  cases q with
  | cons q1 q =>
    cases q with
    | cons q2 q =>
      refine b v w da db _ _ H2 Q c q1 q2 h5 fun H3 kk => ?_
      exact k _ _ _ _ _ ((p.grow kk).val0 (.bl c))
theorem good_cmp3 {ta tb tc : TE} {f g h : Rho → Option (Opd × Rho)} {rule rule' : V → V → Hp → VK → Prop} {u u' : D → D → Option Bool} (ha : Good K ta f) (hb : Good K tb g) (hc : Good K tc h) (b : BC K rule u) (b' : BC K rule' u') :
    Good K (tChain rule rule' ta tb tc) (fun r => (f r).bind fun (x, r1) => (g r1).bind fun (y, r2) =>
      (dat r2 x).bind fun da => (dat r2 y).bind fun db => (u da db).bind fun k =>
        if k then (h r2).bind fun (z, r3) => (dat r3 y).bind fun db => (dat r3 z).bind fun dc => (u' db dc).map fun k2 => (.val (.bool k2) true, r3)
        else some (.val (.bool false) true, r2)) := by
  intro r σ H Z O Q s x r' hh k
  simp only [Option.bind_eq_some_iff] at hh
  obtain ⟨⟨x, r1⟩, h1, ⟨y, r2⟩, h2, da, h3, db, h4, c, h5, h6⟩ := hh
  refine ha r σ H Z O _ s x r1 h1 fun v H1 Z1 O1 P1 p1 => ?_
  refine hb r1 σ H1 Z1 O1 _ p1.sta y r2 h2 fun w H2 Z2 O2 P2 p2 => ?_
  have p := p1.cons p2
  obtain ⟨F, q, _⟩ := p.fly.ops.rs p.sta (dats2 h3 h4)
  cases q with
  | cons q1 q =>
    cases q with
    | cons q2 q =>
      refine b v w da db _ _ H2 _ c q1 q2 h5 fun H3 kk => ⟨c, rfl, ?_⟩
      have p3 := p.grow kk
      cases c with
      | false =>
        simp only [Bool.false_eq_true, if_false] at h6 ⊢
        cases h6
        exact k _ _ _ _ _ (p3.val0 (.bl false))
      | true =>
        simp only [if_true] at h6 ⊢
        simp only [Option.bind_eq_some_iff, Option.map_eq_some_iff] at h6
        obtain ⟨⟨z, r3⟩, k1, db', k2, dc, k3, c2, k4, e⟩ := h6
        cases e
        refine hc r2 σ H3 Z2 O2 _ p3.sta z r3 k1 fun w' H4 Z4 O4 P4 p4 => ?_
        obtain ⟨P6, p6⟩ := p3.tail
        have p5 := p6.cons p4
        obtain ⟨F', q', _⟩ := p5.fly.ops.rs p5.sta (dats2 k2 k3)
        cases q' with
        | cons q1 q' =>
          cases q' with
          | cons q2 q' => exact b' w w' db' dc _ _ H4 Q c2 q1 q2 k4 fun H5 kk => k _ _ _ _ _ ((p5.grow kk).val0 (.bl c2))
end
end Cr
/-! # Call: the promise of a def of the table; calls. -/
namespace Cr
open PySem L2

/-- behind a call -/
structure CallEnd (K : PySem.W.Frag) (pin : Bool) (vs : List V) (Z : Addr → Prop) (O : List Addr) (H : Hp) (d : D) (o : Bool) (d1 : D) (v : V) (Z' : Addr → Prop) (O' : List Addr) (H' : Hp) (P : List Addr) : Prop where
  step : Step Z O H Z' O' H'
  zm : ∀ a, Z' a → Mt (H' a)
  res : R K H' v d P
  own : o = true → (P.Nodup ∧ cnt d = P.length) ∧ ∀ a ∈ P, ¬ Z' a ∧ (a ∈ O ∨ H a = none)
  fz : o = false → ∀ a ∈ P, Z' a
  pin : pin = true → ∃ v0 F0, vs[0]? = some v0 ∧ R K H' v0 d1 F0 ∧ (F0.Nodup ∧ cnt d1 = F0.length) ∧ (∀ a ∈ F0, ¬ Z' a ∧ (a ∈ O ∨ H a = none)) ∧ (o = true → ∀ a ∈ P, a ∉ F0)
/-- the promise of a def that does what F says -/
def spF (K : PySem.W.Frag) (par : Nat) (pin : Bool) (F : List (D × Stt) → Option (D × Bool × D)) : Sp := fun vs H Q _ => ∃ as Z O, Sta K Z O (as.map some) (vs.map some) H ∧ as.length = par ∧ ∃ d o d1, F as = some (d, o, d1) ∧
  ∀ v H' Z' O' P, CallEnd K pin vs Z O H d o d1 v Z' O' H' P → Q v H'
theorem spF_len {K : PySem.W.Frag} {par : Nat} {pin : Bool} {F : List (D × Stt) → Option (D × Bool × D)} {vs : List V} {H : Hp} {Q : VK} {E : XK} (h : spF K par pin F vs H Q E) : vs.length = par := by
  obtain ⟨as, Z, O, s, e, _⟩ := h
  have := s.cells.len
  simp only [List.length_map] at this
  omega
section
variable {K : PySem.W.Frag} {Z Z1 Z2 Z' Zc E : Addr → Prop} {O O1 O2 O' P P' : List Addr} {r r' r1 r2 : Rho} {σ σ' σ1 : St} {H H1 H2 H' : Hp} {os os' : List Opd} {vs vs' : List V}
/-- the arguments as the callee's cells -/
theorem Ops.args (zz : ∀ a, Z a → Zc a) : ∀ {os : List Opd} {vs : List V} {P : List Addr} {as : List (D × Stt)}, Ops K Z H σ os vs P → argsOf r os = some as →
    (∀ i d st, Opd.nm i ∈ os → got r i = some (d, st) → ∃ v F, σ[i]? = some (some v) ∧ R K H v d F ∧ ∀ a ∈ F, Zc a) → ∃ Oc, Cells K Zc H (as.map some) (vs.map some) Oc ∧ Oc.Sublist P
  | [], _, _, as, .nil, h, _ => by
    simp only [argsOf, Option.some.injEq] at h
    subst h
    exact ⟨[], .nil, .refl _⟩
  | .nm i :: os, _, _, as, .nm e o, h, hn => by
    simp only [argsOf, argOf, Option.bind_eq_some_iff, Option.map_eq_some_iff] at h
    obtain ⟨a, ha, as', h2, rfl⟩ := h
    obtain ⟨Oc, c, m⟩ := Ops.args zz o h2 fun j d st hj => hn j d st (List.mem_cons_of_mem _ hj)
    cases hg : got r i with
    | none => rw [hg] at ha; cases ha
    | some x =>
      obtain ⟨d, st⟩ := x
      rw [hg] at ha
      simp only [Option.some.injEq] at ha
      subst ha
      obtain ⟨v, F, e', q, f⟩ := hn i d st List.mem_cons_self hg
      rw [e] at e'
      cases e'
      by_cases hi : imm d = true
      · rw [if_pos hi]
        have z := q.imm hi
        subst z
        exact ⟨[] ++ Oc, .own (.inl rfl) q (cnt_imm hi) c, by simpa using m⟩
      · rw [if_neg hi]
        exact ⟨Oc, .fz q f c, m⟩
  | .val d true :: os, _, _, as, .own q n o, h, hn => by
    simp only [argsOf, argOf, Option.bind_eq_some_iff, Option.map_eq_some_iff, Bool.or_true, if_true, Option.some.injEq] at h
    obtain ⟨a, rfl, as', h2, rfl⟩ := h
    obtain ⟨Oc, c, m⟩ := Ops.args zz o h2 fun j d st hj => hn j d st (List.mem_cons_of_mem _ hj)
    exact ⟨_, .own (.inl rfl) q n c, m.append_left _⟩
  | .val d false :: os, _, _, as, .fz q f o, h, hn => by
    simp only [argsOf, argOf, Option.bind_eq_some_iff, Option.map_eq_some_iff, Bool.or_false, Option.some.injEq] at h
    obtain ⟨a, rfl, as', h2, rfl⟩ := h
    obtain ⟨Oc, c, m⟩ := Ops.args zz o h2 fun j d st hj => hn j d st (List.mem_cons_of_mem _ hj)
    by_cases hi : imm d = true
    · rw [if_pos hi]
      have z := q.imm hi
      subst z
      exact ⟨[] ++ Oc, .own (.inl rfl) q (cnt_imm hi) c, by simpa using m⟩
    · rw [if_neg hi]
      exact ⟨Oc, .fz q (fun a ha => zz a (f a ha)) c, m⟩
theorem dats_of_args : ∀ {os : List Opd} {as : List (D × Stt)}, argsOf r os = some as → ∃ ds, dats r os = some ds
  | [], _, _ => ⟨[], rfl⟩
  | o :: os, as, h => by
    simp only [argsOf, Option.bind_eq_some_iff, Option.map_eq_some_iff] at h
    obtain ⟨a, ha, as', h2, rfl⟩ := h
    obtain ⟨ds, hd⟩ := dats_of_args h2
    cases o with
    | nm i =>
      simp only [argOf] at ha
      cases hg : got r i with
      | none => rw [hg] at ha; cases ha
      | some x => exact ⟨x.1 :: ds, by simp [dats, dat, hg, hd]⟩
    | val d o => exact ⟨d :: ds, by simp [dats, dat, hd]⟩
/-- a call -/
theorem call_good {par : Nat} {F : List (D × Stt) → Option (D × Bool × D)} {as : List (D × Stt)} {d d1 : D} {o : Bool} {x : Opd} {Q : VK} {E : XK} (p : Post K Z O H r σ Z1 O1 H1 r1 os vs P) (ha : argsOf r1 os = some as) (hp : as.length = par) (hF : F as = some (d, o, d1))
    (he : endCall d o os r1 = some (x, r')) (k : ∀ v H' Z' O' P', Post K Z O H r σ Z' O' H' r' [x] [v] P' → Q v H') : spF K par false F vs H1 Q E := by
  unfold endCall at he
  have nP : ∀ {Oc : List Addr}, Oc.Sublist P → ∀ a, a ∈ Oc → Mt (H1 a) := fun m a h => p.fly.ops.mt a (m.subset h)
  by_cases hio : imm d = true ∨ o = true
  · -- nothing of the operands' is in it: they stay as they are
    obtain ⟨Oc, c, m⟩ := p.fly.ops.args (Zc := fun a => Z1 a ∨ a ∈ O1) (fun a h => .inl h) ha fun i d st _ hg => by
      obtain ⟨v, F, e, q, f⟩ := p.sta.cells.read hg
      exact ⟨v, F, e, q, fun a h => (f a h).elim .inr .inl⟩
    refine ⟨as, _, Oc, ⟨c, m.nodup p.fly.nd, fun a h z => z.elim (p.fly.sep a (m.subset h)) (p.fly.out a (m.subset h)), fun a z => z.elim (p.sta.zm a) (p.sta.mo a)⟩, hp, d, o, d1, hF, fun v H' Z' O' P' ce => ?_⟩
    have sta : Sta K Z1 O1 r1 σ H' := ⟨p.sta.cells.keep ce.step.keep (nP m) (fun a z h => p.fly.sep a (m.subset h) z) (fun _ z => z) fun a h h' => p.fly.out a (m.subset h') h, p.sta.nd, p.sta.sep, fun a z => ce.zm a (ce.step.zle a (.inl z))⟩
    have step : Step Z O H Z1 O1 H' := ⟨fun a u e n => ce.step.keep a u (p.step.keep a u e n) fun h => (p.from_ a (m.subset h)).elim n fun z => (by rw [z] at e; cases e), fun a h => ce.step.alloc a (p.step.alloc a h), p.step.zle, p.step.znew, p.step.onew⟩
    have hx : r' = r1 ∧ x = .val d true := by
      by_cases hi : imm d = true
      · rw [if_pos hi] at he; cases he; exact ⟨rfl, rfl⟩
      · rw [if_neg hi, if_pos (hio.resolve_left hi)] at he; cases he; exact ⟨rfl, rfl⟩
    obtain ⟨rfl, rfl⟩ := hx
    by_cases hi : imm d = true
    · have z := ce.res.imm hi
      subst z
      have b : Post K Z O H r σ Z1 O1 H' r' [] [] [] := ⟨sta, step, p.kp, .nil, nil_all⟩
      exact k v H' _ _ _ (b.val0 ce.res (cnt_imm hi))
    · have ho := hio.resolve_left hi
      obtain ⟨⟨nd, nc⟩, f⟩ := ce.own ho
      refine k v H' Z1 O1 P' ⟨sta, step, p.kp, ⟨by simpa using Ops.own (σ := σ) (Z := Z1) ce.res nc .nil, nd, fun a h h' => ?_, fun a h h' => ?_⟩, fun a h => ?_⟩
      · exact (f a h).1 (ce.step.zle a (.inr h'))
      · exact (f a h).1 (ce.step.zle a (.inl h'))
      · rcases (f a h).2 with z | z
        · exact p.from_ a (m.subset z)
        · exact .inr (p.step.none z)
  · have hi : ¬ imm d = true := fun h => hio (.inl h)
    have ho : ¬ o = true := fun h => hio (.inr h)
    have ho' : o = false := by simpa using ho
    rw [if_neg hi, if_neg ho] at he
    simp only [Option.map_eq_some_iff] at he
    obtain ⟨r2, hf, e⟩ := he
    cases e
    obtain ⟨ds, hd⟩ := dats_of_args ha
    obtain ⟨Z2, O2, F2, s2, l2, k2, _, _, _, nn⟩ := Ops.frzs p.sta p.fly.ops hd hf
    obtain ⟨Oc, c, m⟩ := p.fly.ops.args l2.zle ha nn
    have nZ : ∀ a, Z2 a → a ∉ Oc := fun a z h => (l2.znew a z).elim (p.fly.sep a (m.subset h)) (p.fly.out a (m.subset h))
    have nO : ∀ a ∈ O2, a ∉ Oc := fun a h h' => p.fly.out a (m.subset h') (l2.ole a h)
    refine ⟨as, Z2, Oc, ⟨c, m.nodup p.fly.nd, fun a h z => nZ a z h, s2.zm⟩, hp, d, o, d1, hF, fun v H' Z' O' P' ce => ?_⟩
    have sta : Sta K Z' O2 r' σ H' := ⟨s2.cells.keep ce.step.keep (nP m) nZ ce.step.zle nO, s2.nd, fun a h z => by
      rcases ce.step.znew a z with z | z | z
      · exact s2.sep a h z
      · exact nO a h z
      · exact (s2.mo a h).some z, ce.zm⟩
    have p2 := p.lg s2 l2 k2
    have step : Step Z O H Z' O2 H' := ⟨fun a u e n => ce.step.keep a u (p2.step.keep a u e n) fun h => (p.from_ a (m.subset h)).elim n fun z => (by rw [z] at e; cases e), fun a h => ce.step.alloc a (p2.step.alloc a h), fun a h => ce.step.zle a (p2.step.zle a h), fun a h => by
      rcases ce.step.znew a h with z | z | z
      · exact p2.step.znew a z
      · exact .inr (p.from_ a (m.subset z))
      · exact .inr (.inr (p2.step.none z)), p2.step.onew⟩
    exact k v H' Z' O2 [] ⟨sta, step, p2.kp, ⟨.fz ce.res (ce.fz ho') .nil, List.nodup_nil, nil_all, nil_all⟩, nil_all⟩
theorem Cells.fill : ∀ {r : Rho} {σ : St} {G : List Addr} {i : Nat}, Cells K Z H (put r i none) σ G → i < r.length → ∀ {d : D} {v : V} {F : List Addr} {st : Stt}, st = .ow ∨ st = .pn → R K H v d F → cnt d = F.length →
    ∃ O', O'.Perm (F ++ G) ∧ Cells K Z H (put r i (some (d, st))) (σ.set i (some v)) O'
  | [], _, _, _, _, h, _, _, _, _, _, _, _ => absurd h (Nat.not_lt_zero _)
  | c :: r, _, _, 0, .no cs, _, d, v, F, st, e, q, n => ⟨_, .refl _, .own e q n cs⟩
  | c :: r, _, _, i + 1, cs, h, d, v, F, st, e, q, n => by
    have hi : i < r.length := Nat.lt_of_succ_lt_succ h
    generalize hc : put (c :: r) (i + 1) none = r0 at cs
    cases cs with
    | nil => cases hc
    | no cs =>
      simp only [put, List.cons.injEq] at hc
      obtain ⟨rfl, rfl⟩ := hc
      obtain ⟨O', p, c'⟩ := Cells.fill cs hi e q n
      exact ⟨O', p, .no c'⟩
    | lo cs =>
      simp only [put, List.cons.injEq] at hc
      obtain ⟨rfl, rfl⟩ := hc
      obtain ⟨O', p, c'⟩ := Cells.fill cs hi e q n
      exact ⟨O', p, .lo c'⟩
    | own e0 q0 n0 cs =>
      simp only [put, List.cons.injEq] at hc
      obtain ⟨rfl, rfl⟩ := hc
      obtain ⟨O', p, c'⟩ := Cells.fill cs hi e q n
      refine ⟨_, ?_, .own e0 q0 n0 c'⟩
      refine (p.append_left _).trans ?_
      rw [← List.append_assoc, ← List.append_assoc]
      exact List.perm_append_comm.append_right _
    | fz q0 f0 cs =>
      simp only [put, List.cons.injEq] at hc
      obtain ⟨rfl, rfl⟩ := hc
      obtain ⟨O', p, c'⟩ := Cells.fill cs hi e q n
      exact ⟨O', p, .fz q0 f0 c'⟩
theorem got_put_ne {i j : Nat} {c : Cell} (h : i ≠ j) : got (put r i c) j = got r j := by
  unfold got; rw [nth_put_ne h]
theorem put_comm : ∀ {r : Rho} {i j : Nat} {c e : Cell}, i ≠ j → put (put r i c) j e = put (put r j e) i c
  | [], _, _, _, _, _ => rfl
  | _ :: _, 0, 0, _, _, h => absurd rfl h
  | _ :: _, 0, _ + 1, _, _, _ => rfl
  | _ :: _, _ + 1, 0, _, _, _ => rfl
  | x :: r, i + 1, j + 1, c, e, h => by
    show x :: put (put r i c) j e = x :: put (put r j e) i c
    rw [put_comm fun q => h (congrArg Nat.succ q)]
theorem put_put : ∀ {r : Rho} {i : Nat} {c e : Cell}, put (put r i c) i e = put r i e
  | [], _, _, _ => rfl
  | _ :: _, 0, _, _ => rfl
  | x :: r, i + 1, c, e => by
    show x :: put (put r i c) i e = x :: put r i e
    rw [put_put]
theorem frz1_comm {i j : Nat} {c : Cell} (h : i ≠ j) (hf : frz1 (put r i c) j = some r') : ∃ r2, frz1 r j = some r2 ∧ r' = put r2 i c ∧ nth r2 i = nth r i := by
  unfold frz1 at hf ⊢
  rw [got_put_ne h] at hf
  cases hg : got r j with
  | none => rw [hg] at hf; cases hf
  | some x =>
    obtain ⟨d, st⟩ := x
    rw [hg] at hf
    simp only at hf ⊢
    by_cases hi : imm d = true
    · rw [if_pos hi] at hf ⊢
      cases hf
      exact ⟨r, rfl, rfl, rfl⟩
    · rw [if_neg hi] at hf ⊢
      cases st with
      | fz => cases hf; exact ⟨r, rfl, rfl, rfl⟩
      | ow => cases hf; exact ⟨_, rfl, put_comm h, nth_put_ne (Ne.symm h)⟩
      | pn => cases hf
      | lo => cases hf
theorem frzs_comm {i : Nat} {c : Cell} : ∀ {os : List Opd} {r r' : Rho}, noName i os = true → frzs (put r i c) os = some r' → ∃ r2, frzs r os = some r2 ∧ r' = put r2 i c ∧ nth r2 i = nth r i
  | [], r, r', _, hf => by
    simp only [frzs, Option.some.injEq] at hf
    exact ⟨r, rfl, hf.symm, rfl⟩
  | .nm j :: os, r, r', hn, hf => by
    simp only [noName, Bool.and_eq_true, decide_eq_true_eq] at hn
    simp only [frzs, Option.bind_eq_some_iff] at hf
    obtain ⟨q, h1, h2⟩ := hf
    obtain ⟨r2, e1, rfl, e2⟩ := frz1_comm hn.1 h1
    obtain ⟨r3, e3, e4, e5⟩ := frzs_comm hn.2 h2
    exact ⟨r3, by simp only [frzs, e1, Option.bind_some, e3], e4, e5.trans e2⟩
  | .val _ _ :: os, r, r', hn, hf => by
    simp only [noName] at hn
    simp only [frzs] at hf ⊢
    exact frzs_comm hn hf
theorem noName_mem {i j : Nat} : ∀ {os : List Opd}, noName i os = true → Opd.nm j ∈ os → i ≠ j
  | .nm k :: os, hn, hm => by
    simp only [noName, Bool.and_eq_true, decide_eq_true_eq] at hn
    rcases List.mem_cons.mp hm with e | hm
    · cases e; exact hn.1
    · exact noName_mem hn.2 hm
  | .val _ _ :: os, hn, hm => by
    simp only [noName] at hn
    exact noName_mem hn ((List.mem_cons.mp hm).resolve_left fun e => by cases e)
theorem ownD_nth {i : Nat} {d : D} {st : Stt} (h : ownD r i = some (d, st)) : nth r i = some (d, st) ∧ (st = .ow ∨ st = .pn) := by
  unfold ownD at h
  split at h
  · rename_i d' e; cases h; exact ⟨e, .inl rfl⟩
  · rename_i d' e; cases h; exact ⟨e, .inr rfl⟩
  · cases h
/-- a call whose first argument is a name, changed by the callee -/
theorem callp_good {par i : Nat} {F : List (D × Stt) → Option (D × Bool × D)} {as : List (D × Stt)} {d d0 d1 : D} {st : Stt} {o : Bool} {x : Opd} {Q : VK} {E : XK} (p : Post K Z O H r σ Z1 O1 H1 r1 os vs P) (ha : argsOf r1 os = some as) (hp : as.length + 1 = par)
    (hw : ownD r1 i = some (d0, st)) (hn : noName i os = true) (hF : F ((d0, .pn) :: as) = some (d, o, d1)) (he : endCall d o os (put r1 i (some (d1, st))) = some (x, r'))
    (k : ∀ v H' Z' O' P', Post K Z O H r σ Z' O' H' r' [x] [v] P' → Q v H') {v0 : V} (hv : σ[i]? = some (some v0)) : spF K par true F (v0 :: vs) H1 Q E := by
  obtain ⟨hnth, hst⟩ := ownD_nth hw
  have hlo : st ≠ .lo := by rcases hst with e | e <;> rw [e] <;> decide
  have hfz : st ≠ .fz := by rcases hst with e | e <;> rw [e] <;> decide
  unfold endCall at he
  by_cases hio : imm d = true ∨ o = true
  · obtain ⟨F0, G, A⟩ := p.sta.cells.at (nth_lt hnth)
    obtain ⟨v', F', e', q0, z1, z2⟩ := A.rd d0 st hnth hlo
    rw [hv] at e'
    cases e'
    have hF0 : F0 = F' := (z2 hfz).1
    have hcn := (z2 hfz).2
    subst hF0
    have nd := List.nodup_append.mp (A.perm.nodup_iff.mp p.sta.nd)
    have inO : ∀ a, a ∈ F0 ∨ a ∈ G → a ∈ O1 := fun a h => A.perm.mem_iff.mpr (List.mem_append.mpr h)
    obtain ⟨Oc, c, m⟩ := p.fly.ops.args (Zc := fun a => Z1 a ∨ a ∈ G) (fun a h => .inl h) ha fun j dj stj hj hg => by
      have hne := noName_mem hn hj
      obtain ⟨v, F, e, q, f⟩ := A.out.read (i := j) (d := dj) (st := stj) (by rw [got_put_ne hne]; exact hg)
      exact ⟨v, F, e, q, fun a h => (f a h).elim .inr .inl⟩
    have mOc : ∀ a, a ∈ F0 ++ Oc → a ∈ F0 ∨ a ∈ P := fun a h => (List.mem_append.mp h).imp id fun h => m.subset h
    have mt : ∀ a, a ∈ F0 ++ Oc → Mt (H1 a) := fun a h => (mOc a h).elim (q0.mt a) (p.fly.ops.mt a)
    refine ⟨(d0, .pn) :: as, fun a => Z1 a ∨ a ∈ G, F0 ++ Oc, ⟨.own (.inr rfl) q0 hcn c, ?_, fun a h z => ?_, fun a z => z.elim (p.sta.zm a) fun z => p.sta.mo a (inO a (.inr z))⟩, hp, d, o, d1, hF, fun v H' Z' O' P' ce => ?_⟩
    · exact List.nodup_append.mpr ⟨nd.1, m.nodup p.fly.nd, fun a h b h' e => p.fly.out b (m.subset h') (e ▸ inO a (.inl h))⟩
    · rcases mOc a h with h | h
      · exact z.elim (p.sta.sep a (inO a (.inl h))) fun z => nd.2.2 a h a z rfl
      · exact z.elim (p.fly.sep a h) fun z => p.fly.out a h (inO a (.inr z))
    obtain ⟨v0', F0', ev, q1, ⟨nd1, nc1⟩, f1, f2⟩ := ce.pin rfl
    have ev : v0' = v0 := by simpa using ev.symm
    subst ev
    have nG : ∀ a ∈ G, a ∉ F0 ++ Oc := fun a h h' => (mOc a h').elim (fun z => nd.2.2 a z a h rfl) fun z => p.fly.out a z (inO a (.inr h))
    have nZ : ∀ a, Z1 a → a ∉ F0 ++ Oc := fun a z h' => (mOc a h').elim (fun y => p.sta.sep a (inO a (.inl y)) z) fun y => p.fly.sep a y z
    have cG : Cells K Z1 H' (put r1 i none) σ G := A.out.keep ce.step.keep mt nZ (fun _ z => z) nG
    obtain ⟨O3, p3, c3⟩ := cG.fill (nth_lt hnth) hst q1 nc1
    rw [set_self hv] at c3
    have m3 : ∀ a, a ∈ O3 → a ∈ F0' ∨ a ∈ G := fun a h => List.mem_append.mp (p3.mem_iff.mp h)
    have sta : Sta K Z1 O3 (put r1 i (some (d1, st))) σ H' := ⟨c3, p3.nodup_iff.mpr (List.nodup_append.mpr ⟨nd1, nd.2.1, fun a h b h' e => (f1 a h).1 (ce.step.zle a (.inr (e ▸ h')))⟩),
      fun a h z => (m3 a h).elim (fun h => (f1 a h).1 (ce.step.zle a (.inl z))) fun h => p.sta.sep a (inO a (.inr h)) z, fun a z => ce.zm a (ce.step.zle a (.inl z))⟩
    have fromP : ∀ a, a ∈ F0 ++ Oc ∨ H1 a = none → a ∈ O ∨ H a = none := fun a h => by
      rcases h with h | h
      · rcases mOc a h with h | h
        · exact p.step.onew a (inO a (.inl h))
        · exact p.from_ a h
      · exact .inr (p.step.none h)
    have step : Step Z O H Z1 O3 H' := ⟨fun a u e n => ce.step.keep a u (p.step.keep a u e n) fun h => (fromP a (.inl h)).elim n fun z => (by rw [z] at e; cases e), fun a h => ce.step.alloc a (p.step.alloc a h), p.step.zle, p.step.znew,
      fun a h => (m3 a h).elim (fun h => fromP a (f1 a h).2) fun h => p.step.onew a (inO a (.inr h))⟩
    have kp : Kp r (put r1 i (some (d1, st))) σ σ := p.kp.trans (Kp.data hnth hlo)
    have hx : r' = put r1 i (some (d1, st)) ∧ x = .val d true := by
      by_cases hi : imm d = true
      · rw [if_pos hi] at he; cases he; exact ⟨rfl, rfl⟩
      · rw [if_neg hi, if_pos (hio.resolve_left hi)] at he; cases he; exact ⟨rfl, rfl⟩
    obtain ⟨rfl, rfl⟩ := hx
    by_cases hi : imm d = true
    · have z := ce.res.imm hi
      subst z
      have b : Post K Z O H r σ Z1 O3 H' (put r1 i (some (d1, st))) [] [] [] := ⟨sta, step, kp, .nil, nil_all⟩
      exact k v H' _ _ _ (b.val0 ce.res (cnt_imm hi))
    · have ho := hio.resolve_left hi
      obtain ⟨⟨ndp, nc⟩, f⟩ := ce.own ho
      refine k v H' Z1 O3 P' ⟨sta, step, kp, ⟨by simpa using Ops.own (σ := σ) (Z := Z1) ce.res nc .nil, ndp, fun a h h' => ?_, fun a h h' => ?_⟩, fun a h => fromP a (f a h).2⟩
      · exact (m3 a h').elim (f2 ho a h) fun h' => (f a h).1 (ce.step.zle a (.inr h'))
      · exact (f a h).1 (ce.step.zle a (.inl h'))
  · have hi : ¬ imm d = true := fun h => hio (.inl h)
    have ho : ¬ o = true := fun h => hio (.inr h)
    have ho' : o = false := by simpa using ho
    rw [if_neg hi, if_neg ho] at he
    simp only [Option.map_eq_some_iff] at he
    obtain ⟨r3, hf, e⟩ := he
    cases e
    obtain ⟨r2, hf2, rfl, hn2⟩ := frzs_comm hn hf
    obtain ⟨ds, hd⟩ := dats_of_args ha
    obtain ⟨Z2, O2, F2, s2, l2, k2, _, _, _, nn⟩ := Ops.frzs p.sta p.fly.ops hd hf2
    have hnth2 := hn2.trans hnth
    obtain ⟨F0, G, A⟩ := s2.cells.at (nth_lt hnth2)
    obtain ⟨v', F', e', q0, z1, z2⟩ := A.rd d0 st hnth2 hlo
    rw [hv] at e'
    cases e'
    have hF0 : F0 = F' := (z2 hfz).1
    have hcn := (z2 hfz).2
    subst hF0
    have nd := List.nodup_append.mp (A.perm.nodup_iff.mp s2.nd)
    have inO : ∀ a, a ∈ F0 ∨ a ∈ G → a ∈ O2 := fun a h => A.perm.mem_iff.mpr (List.mem_append.mpr h)
    obtain ⟨Oc, c, m⟩ := p.fly.ops.args l2.zle ha nn
    have mOc : ∀ a, a ∈ F0 ++ Oc → a ∈ F0 ∨ a ∈ P := fun a h => (List.mem_append.mp h).imp id fun h => m.subset h
    have mt : ∀ a, a ∈ F0 ++ Oc → Mt (H1 a) := fun a h => (mOc a h).elim (q0.mt a) (p.fly.ops.mt a)
    have nPZ : ∀ a ∈ P, ¬ Z2 a := fun a h z => (l2.znew a z).elim (p.fly.sep a h) (p.fly.out a h)
    have nPO : ∀ a ∈ P, a ∉ O2 := fun a h h' => p.fly.out a h (l2.ole a h')
    have nZ : ∀ a, Z2 a → a ∉ F0 ++ Oc := fun a z h' => (mOc a h').elim (fun y => s2.sep a (inO a (.inl y)) z) fun y => nPZ a y z
    have nG : ∀ a ∈ G, a ∉ F0 ++ Oc := fun a h h' => (mOc a h').elim (fun z => nd.2.2 a z a h rfl) fun z => nPO a z (inO a (.inr h))
    refine ⟨(d0, .pn) :: as, Z2, F0 ++ Oc, ⟨.own (.inr rfl) q0 hcn c, ?_, fun a h z => nZ a z h, s2.zm⟩, hp, d, o, d1, hF, fun v H' Z' O' P' ce => ?_⟩
    · exact List.nodup_append.mpr ⟨nd.1, m.nodup p.fly.nd, fun a h b h' e => nPO b (m.subset h') (e ▸ inO a (.inl h))⟩
    obtain ⟨v0', F0', ev, q1, ⟨nd1, nc1⟩, f1, f2⟩ := ce.pin rfl
    have ev : v0' = v0 := by simpa using ev.symm
    subst ev
    have cG : Cells K Z' H' (put r2 i none) σ G := A.out.keep ce.step.keep mt nZ ce.step.zle nG
    obtain ⟨O3, p3, c3⟩ := cG.fill (nth_lt hnth2) hst q1 nc1
    rw [set_self hv] at c3
    have m3 : ∀ a, a ∈ O3 → a ∈ F0' ∨ a ∈ G := fun a h => List.mem_append.mp (p3.mem_iff.mp h)
    have sepG : ∀ a ∈ G, ¬ Z' a := fun a h z => by
      rcases ce.step.znew a z with z | z | z
      · exact s2.sep a (inO a (.inr h)) z
      · exact nG a h z
      · exact (s2.mo a (inO a (.inr h))).some z
    have ndFG : ∀ a ∈ F0', a ∉ G := fun a h h' => by
      rcases (f1 a h).2 with z | z
      · exact nG a h' z
      · exact (s2.mo a (inO a (.inr h'))).some z
    have sta : Sta K Z' O3 (put r2 i (some (d1, st))) σ H' := ⟨c3, p3.nodup_iff.mpr (List.nodup_append.mpr ⟨nd1, nd.2.1, fun a h b h' e => ndFG a h (e ▸ h')⟩), fun a h z => (m3 a h).elim (fun h => (f1 a h).1 z) fun h => sepG a h z, ce.zm⟩
    have p2 := p.lg s2 l2 k2
    have fromP : ∀ a, a ∈ F0 ++ Oc ∨ H1 a = none → a ∈ O ∨ H a = none := fun a h => by
      rcases h with h | h
      · rcases mOc a h with h | h
        · exact p2.step.onew a (inO a (.inl h))
        · exact p.from_ a h
      · exact .inr (p.step.none h)
    have step : Step Z O H Z' O3 H' := ⟨fun a u e n => ce.step.keep a u (p2.step.keep a u e n) fun h => (fromP a (.inl h)).elim n fun z => (by rw [z] at e; cases e), fun a h => ce.step.alloc a (p2.step.alloc a h), fun a h => ce.step.zle a (p2.step.zle a h), fun a h => by
      rcases ce.step.znew a h with z | z | z
      · exact p2.step.znew a z
      · exact .inr (fromP a (.inl z))
      · exact .inr (.inr (p2.step.none z)), fun a h => (m3 a h).elim (fun h => fromP a (f1 a h).2) fun h => p2.step.onew a (inO a (.inr h))⟩
    exact k v H' Z' O3 [] ⟨sta, step, p2.kp.trans (Kp.data hnth2 hlo), ⟨.fz ce.res (ce.fz ho') .nil, List.nodup_nil, nil_all, nil_all⟩, nil_all⟩
end
end Cr
/-! # Targ: targets of assignments and loops. -/
namespace Cr
open PySem L2
mutual
/-- the slots of a target -/
def slots : Tg → List Nat
  | .nm i => [i]
  | .tup ts => slotss ts
def slotss : List Tg → List Nat
  | [] => []
  | t :: ts => slots t ++ slotss ts
end
section
variable {K : PySem.W.Frag} {Z Z1 Z2 Z' Zc E : Addr → Prop} {O O1 O2 O' P P' : List Addr} {r r' r1 r2 : Rho} {σ σ' σ1 : St} {H H1 H2 H' : Hp} {os os' : List Opd} {vs vs' : List V}
/-- what may go into a cell: shared (w false), or nobody else's -/
structure Give (Z : Addr → Prop) (O : List Addr) (w : Bool) (F : List Addr) (n : Nat) : Prop where
  sh : w = false → ∀ a ∈ F, Z a
  own : w = true → F.Nodup ∧ ∀ a ∈ F, a ∉ O ∧ ¬ Z a
  num : w = true → n = F.length
/-- outside of some slots nothing has changed -/
def Only (l : List Nat) (σ σ' : St) : Prop := ∀ vs : List Nat, (∀ i ∈ l, i ∈ vs) → wipe σ' vs = wipe σ vs
theorem Only.refl {l : List Nat} : Only l σ σ := fun _ _ => rfl
theorem wipe_set {i : Nat} {x : Option V} : ∀ {vs : List Nat} {σ : St}, i ∈ vs → wipe (σ.set i x) vs = wipe σ vs := by
  intro vs
  induction vs with
  | nil => intro σ h; cases h
  | cons v vs ih =>
    intro σ h
    unfold wipe
    by_cases e : i ∈ vs
    · rw [ih e]
    · have : i = v := (List.mem_cons.mp h).resolve_right e
      subst this
      have key : ∀ (ws : List Nat) (σ : St), (wipe (σ.set i x) ws).set i none = (wipe σ ws).set i none := by
        intro ws
        induction ws with
        | nil => intro σ; show (σ.set i x).set i none = _; rw [List.set_set]; rfl
        | cons w ws ih2 =>
          intro σ
          unfold wipe
          by_cases ew : w = i
          · subst ew
            rw [List.set_set, List.set_set]
            exact ih2 σ
          · rw [List.set_comm _ _ ew, List.set_comm _ _ ew, ih2 σ]
      exact key vs σ
/-- one name gets a value -/
theorem Sta.give {i : Nat} {v : V} {d : D} {F : List Addr} {w : Bool} (s : Sta K Z O r σ H) (q : R K H v d F) (g : Give Z O w F (cnt d)) (ho : open1 r i = true) :
    ∃ O', Sta K Z O' (put r i (some (d, if imm d || w then .ow else .fz))) (σ.set i (some v)) H ∧ (∀ a ∈ O', a ∈ O ∨ (w = true ∧ a ∈ F)) ∧ Kp r (put r i (some (d, if imm d || w then .ow else .fz))) σ (σ.set i (some v)) := by
  unfold open1 at ho
  rw [Bool.and_eq_true, decide_eq_true_eq] at ho
  have hk : ∀ d st, nth r i = some (d, st) → st ≠ .pn ∧ st ≠ .lo := fun d st h => by
    have := ho.2
    rw [h] at this
    cases st <;> simp at this ⊢
  obtain ⟨F1, G, A⟩ := s.cells.at ho.1
  have nd := List.nodup_append.mp (A.perm.nodup_iff.mp s.nd)
  have inG : ∀ a ∈ G, a ∈ O := fun a h => A.perm.mem_iff.mpr (List.mem_append_right _ h)
  by_cases hw : (imm d || w) = true
  · rw [if_pos hw]
    have hn : cnt d = F.length := by
      rw [Bool.or_eq_true] at hw
      rcases hw with h | h
      · rw [cnt_imm h, q.imm h]; rfl
      · exact g.num h
    obtain ⟨O', p, c⟩ := A.own d v F .ow (.inl rfl) q hn
    have hF : F = [] ∨ w = true := by
      rw [Bool.or_eq_true] at hw
      exact hw.imp (fun h => q.imm h) id
    have gF : F.Nodup ∧ ∀ a ∈ F, a ∉ O ∧ ¬ Z a := by
      rcases hF with rfl | h
      · exact ⟨List.nodup_nil, nil_all⟩
      · exact g.own h
    refine ⟨O', ⟨c, p.nodup_iff.mpr (List.nodup_append.mpr ⟨gF.1, nd.2.1, fun a h b h' e => (gF.2 a h).1 (e ▸ inG b h')⟩), fun a h => ?_, s.zm⟩, fun a h => ?_, Kp.put hk⟩
    · rcases List.mem_append.mp (p.mem_iff.mp h) with h | h
      · exact (gF.2 a h).2
      · exact s.sep a (inG a h)
    · rcases List.mem_append.mp (p.mem_iff.mp h) with h | h
      · rcases hF with rfl | hw
        · cases h
        · exact .inr ⟨hw, h⟩
      · exact .inl (inG a h)
  · rw [if_neg hw]
    have hw' : w = false := by
      cases w with
      | false => rfl
      | true => simp at hw
    exact ⟨G, ⟨A.fz Z (fun _ z => z) d v F q (g.sh hw'), nd.2.1, fun a h => s.sep a (inG a h), s.zm⟩, fun a h => .inl (inG a h), Kp.put hk⟩
/-- a target -/
def GoodG (K : PySem.W.Frag) (g : TG) (l : List Nat) (f : Bool → D → Rho → Option Rho) : Prop := ∀ (r r' : Rho) (σ : St) (H : Hp) (Z : Addr → Prop) (O F : List Addr) (v : V) (d : D) (w : Bool) (Q : St → Hp → Prop), Sta K Z O r σ H → R K H v d F → Give Z O w F (cnt d) →
  f w d r = some r' → (∀ σ' O', Sta K Z O' r' σ' H → (∀ a ∈ O', a ∈ O ∨ (w = true ∧ a ∈ F)) → Kp r r' σ σ' → Only l σ σ' → Q σ' H) → g v σ H Q
def GoodGs (K : PySem.W.Frag) (g : TGs) (l : List Nat) (f : Bool → List D → Rho → Option Rho) : Prop := ∀ (r r' : Rho) (σ : St) (H : Hp) (Z : Addr → Prop) (O F : List Addr) (vs : List V) (ds : List D) (w : Bool) (Q : St → Hp → Prop), Sta K Z O r σ H → Rs K H vs ds F → Give Z O w F (cnts ds) →
  f w ds r = some r' → (∀ σ' O', Sta K Z O' r' σ' H → (∀ a ∈ O', a ∈ O ∨ (w = true ∧ a ∈ F)) → Kp r r' σ σ' → Only l σ σ' → Q σ' H) → g vs σ H Q
theorem goodG_name {i : Nat} : GoodG K (gName i) [i] (fun w d r => asg w (.nm i) d r) := by
  intro r r' σ H Z O F v d w Q s q g h k
  simp only [asg] at h
  split at h
  · rename_i ho
    cases h
    obtain ⟨O', s', m, kp⟩ := s.give q g ho
    exact k _ O' s' m kp fun vs hv => wipe_set (hv i (by simp))
  · cases h
theorem goodGs_nil : GoodGs K gNil [] (fun w ds r => asgs w [] ds r) := by
  intro r r' σ H Z O F vs ds w Q s q g h k
  cases ds with
  | nil =>
    cases q
    simp only [asgs, Option.some.injEq] at h
    subst h
    exact ⟨rfl, k σ O s (fun a h => .inl h) .refl .refl⟩
  | cons d ds => simp [asgs] at h
theorem goodGs_cons {t : Tg} {ts : List Tg} {g : TG} {gs : TGs} {l ls : List Nat} (h1 : GoodG K g l (fun w d r => asg w t d r)) (h2 : GoodGs K gs ls (fun w ds r => asgs w ts ds r)) : GoodGs K (gCons g gs) (l ++ ls) (fun w ds r => asgs w (t :: ts) ds r) := by
  intro r r' σ H Z O F vs ds w Q s q g h k
  cases ds with
  | nil => simp [asgs] at h
  | cons d ds =>
    cases q with
    | @cons v vs d ds F1 F2 q1 q2 =>
      simp only [asgs, Option.bind_eq_some_iff] at h
      obtain ⟨r1, e1, e2⟩ := h
      have hnum : w = true → cnt d = F1.length ∧ cnts ds = F2.length := fun e => by
        have h1 := g.num e
        have h2 := q1.cnt_le
        have h3 := q2.cnt_le
        rw [cnts, List.length_append] at h1
        omega
      have g1 : Give Z O w F1 (cnt d) := ⟨fun e a h => g.sh e a (List.mem_append_left _ h), fun e => ⟨(List.nodup_append.mp (g.own e).1).1, fun a h => (g.own e).2 a (List.mem_append_left _ h)⟩, fun e => (hnum e).1⟩
      refine ⟨v, vs, rfl, h1 r r1 σ H Z O F1 v d w _ s q1 g1 e1 fun σ1 O1 s1 m1 kp1 on1 => ?_⟩
      have g2 : Give Z O1 w F2 (cnts ds) := ⟨fun e a h => g.sh e a (List.mem_append_right _ h), fun e => ⟨(List.nodup_append.mp (g.own e).1).2.1, fun a h => ⟨fun h' => (m1 a h').elim ((g.own e).2 a (List.mem_append_right _ h)).1 fun z => (List.nodup_append.mp (g.own e).1).2.2 a z.2 a h rfl, ((g.own e).2 a (List.mem_append_right _ h)).2⟩⟩, fun e => (hnum e).2⟩
      refine h2 r1 r' σ1 H Z O1 F2 vs ds w _ s1 q2 g2 e2 fun σ2 O2 s2 m2 kp2 on2 => ?_
      refine k σ2 O2 s2 (fun a h => ?_) (kp1.trans kp2) fun vs hv => (on2 vs fun i hi => hv i (List.mem_append_right _ hi)).trans (on1 vs fun i hi => hv i (List.mem_append_left _ hi))
      rcases m2 a h with h | h
      · rcases m1 a h with h | h
        · exact .inl h
        · exact .inr ⟨h.1, List.mem_append_left _ h.2⟩
      · exact .inr ⟨h.1, List.mem_append_right _ h.2⟩
theorem R.tup_inv {v : V} {ds : List D} {F : List Addr} (q : R K H v (.tuple ds) F) : ∃ a vs, v = .ref a ∧ SqT K H a vs ∧ Rs K H vs ds F := by
  cases q with
  | tup e q => exact ⟨_, _, rfl, e, q⟩
theorem asgs_len {w : Bool} : ∀ {ts : List Tg} {ds : List D} {r r' : Rho}, asgs w ts ds r = some r' → ds.length = ts.length
  | [], [], _, _, _ => rfl
  | [], _ :: _, _, _, h => by simp [asgs] at h
  | _ :: _, [], _, _, h => by simp [asgs] at h
  | t :: ts, d :: ds, r, r', h => by
    simp only [asgs, Option.bind_eq_some_iff] at h
    obtain ⟨r1, _, h⟩ := h
    rw [List.length_cons, List.length_cons, asgs_len h]
theorem goodG_tup {ts : List Tg} {n : Nat} {gs : TGs} {l : List Nat} (hn : ts.length = n) (h2 : GoodGs K gs l (fun w ds r => asgs w ts ds r)) : GoodG K (gTup K n gs) l (fun w d r => asg w (.tup ts) d r) := by
  intro r r' σ H Z O F v d w Q s q g h k
  cases d with
  | tuple ds =>
    simp only [asg] at h
    obtain ⟨a, vs, rfl, e, qs⟩ := q.tup_inv
    exact ⟨a, vs, rfl, e, by rw [qs.len, asgs_len h, hn], h2 r r' σ H Z O F vs ds w _ s qs ⟨g.sh, g.own, fun e => by have := g.num e; rw [cnt] at this; exact this⟩ h k⟩
  | _ => simp [asg] at h
end
end Cr
/-! # Iters: a for over a list or a tuple, whichever it is; enumerate of either. -/
namespace Cr
open PySem PySem.Spec PyProof.Rows L2

set_option maxHeartbeats 1000000 in
theorem meets_enumerate_new1B {v : Value} {o : Obj} {H : Heap → Prop} (B : Begins v o H) :
    Meets (Builtin.«enumerate.__new__» ⟨[.type "enumerate", v], []⟩) (fun _ R s => H s.heap ∧
      R (.ok (.ret (.ref (s.heap.push o).objs.size))) { s with heap := (s.heap.push o).push { cls := .type "enumerate", data := .fields #[.none, .bool false, .ref s.heap.objs.size, rawInt 0, .none, .none] } }) :=
  .of_wp fun prog w A R s h => by
    obtain ⟨hp, g, d, tk, os⟩ := s; obtain ⟨h1, h⟩ := h
    have hsub := sub_enumerate
    have q1 : ∀ {A' : Around} {E : Value → Shared → Prop} {Q : Value → Shared → Prop}, Q (.ref hp.objs.size) ⟨hp.push o, g, d, tk, os⟩ → wpAny (model prog w) A' (pyIter v) Q E ⟨hp, g, d, tk, os⟩ :=
      fun q => B.iter prog w _ _ ⟨hp, g, d, tk, os⟩ _ h1 q
    wp_walk using q1
    refine wpAny_stack_any fun st => wpAny_pure ?_
    split
    · rename_i c _ _ _ _ _
      cases (c == Value.type "enumerate")
      · wp_walk using q1
        exact ⟨_, rfl, h⟩
      · wp_walk using q1
        exact ⟨_, rfl, h⟩
    · wp_walk using q1
      exact ⟨_, rfl, h⟩
section
variable {prog : Program} {w : World} {A : Around} {E : Value → Shared → Prop} {s : Shared}
theorem enum_begins1 {v : Value} {o : Obj} {H : Heap → Prop} {Q : Value → Shared → Prop} (B : Begins v o H) (h1 : H s.heap)
    (h : ∀ h', IsEnum h' (s.heap.objs.size + 1) s.heap.objs.size 0 .none → h'.get? s.heap.objs.size = some o → h'.objs.size = s.heap.objs.size + 2 →
      (∀ b o, s.heap.get? b = some o → h'.get? b = some o) → Q (.ref (s.heap.objs.size + 1)) { s with heap := h' }) :
    wpAny (model prog w) A (call (.type "enumerate") [v]) Q E s := by
  refine callType_new F.called_enumerate (by decide) (F.typeCall_enumerate_1 _) (F.newCall_enumerate_1 _) (fun obj => F.args_object_init_2 obj _) F.entry_enumerate_new
    (meets_enumerate_new1B B) ⟨h1, ?_⟩
  have hz : (s.heap.push o).objs.size = s.heap.objs.size + 1 := Heap.size_push ..
  show _ ∧ _
  rw [hz]
  have he : IsEnum ((s.heap.push o).push { cls := .type "enumerate", data := .fields #[.none, .bool false, .ref s.heap.objs.size, rawInt 0, .none, .none] }) (s.heap.objs.size + 1) s.heap.objs.size 0 .none := by
    have := Heap.get?_push_size (s.heap.push o) (o := { cls := .type "enumerate", data := .fields #[.none, .bool false, .ref s.heap.objs.size, rawInt 0, .none, .none] }) rfl
    rw [hz] at this; exact this
  refine ⟨⟨_, he, rfl⟩, h _ he (Heap.get?_push_of_some _ (Heap.get?_push_size _ B.free)) (by rw [Heap.size_push, hz]) fun b o x => Heap.get?_push_of_some _ (Heap.get?_push_of_some _ x)⟩
end
/-- enumerate(tuple): the tuple at a, each item in a new pair -/
def IteT (K : PySem.W.Frag) (a : Addr) : It :=
  ⟨fun i H => ∃ (xs : List V) (x : V), SqT K H a xs ∧ xs[i]? = some x, fun i H v H' => ∃ T x, v = .ref T ∧ H T = none ∧ H' = upd H T (.tup [.int (i : Nat), x]) ∧ ∀ xs, SqT K H a xs → xs[i]? = some x, fun i H => ∃ xs : List V, SqT K H a xs ∧ xs.length ≤ i⟩
theorem walk_enumT {K : PySem.W.Frag} {a : Addr} {xs : List V} : Walk (IteT K a) xs.length (fun H => SqT K H a xs) (YPair (fun i => some (.int (i : Nat))) (fun i => xs[i]?)) := by
  refine ⟨fun i _ hi q => ⟨xs, xs[i], q, by simp [hi]⟩, fun _ q => ⟨xs, q, Nat.le_refl _⟩, fun i H v H' _ q y => ?_⟩
  obtain ⟨T, x, h1, h2, h3, h4⟩ := y
  exact ⟨T, .int (i : Nat), x, h1, h2, h3, rfl, h4 xs q⟩
theorem turn_enumT {P : Program} {w : World} {K : PySem.W.Frag} {elts : List Expr} {kk : Nat} {tpos : Pos} (a e it : Addr) (hae : a ≠ e) (hai : a ≠ it) :
    Turn P w K (.Tuple elts kk tpos) (IteT K a) [e, it] e (fun i h => (∃ old, IsEnum h e it ((i : Nat) : Int) old) ∧ h.IsTupleIter it a i ∧ e ≠ it) where
  mem := by simp
  obj := fun i h st b hb => by
    obtain ⟨⟨old, he⟩, ⟨o, ho, hc, hd⟩, _⟩ := st
    have e' : b = e ∨ b = it := by simpa using hb
    rcases e' with z | z
    · rw [z]; exact ⟨_, he, fun v q => nomatch q⟩
    · rw [z]; exact ⟨o, ho, fun v q => by rw [hd] at q; cases q⟩
  keep := fun i h h' st k => let ⟨⟨old, he⟩, hi, hne⟩ := st; ⟨⟨old, k e (by simp) _ he⟩, hi.at fun o q => k it (by simp) o q, hne⟩
  item := by
    intro X hP hw hK hc i pins s σ H E I hf st hg
    subst hP hw hK
    obtain ⟨⟨old, he⟩, hit, hne⟩ := st
    obtain ⟨xs, x, hq, hx⟩ := hg
    obtain ⟨its, rv, p, hz⟩ := I.tuple hq
    obtain ⟨u, hu, ru⟩ := rv.get hx
    have hel : e < s.heap.objs.size := Heap.lt_size he
    have hil : it < s.heap.objs.size := by obtain ⟨_, q, _⟩ := hit; exact Heap.lt_size q
    have D := Draws.tuple (prog := X.prog) (w := X.w) (A := X.A.in1) (I.ok.hd hc) it a hai its.toArray
    have hlt : i < its.toArray.size := by
      have := (List.getElem?_eq_some_iff.mp hu).1
      simpa using this
    refine wpAny_pyNext_enum_itemD D he ⟨hit, p⟩ hlt hne ?_ fun y h' tk hy ho hit' hT hsz hk => ?_
    · intro z
      have : e = it ∨ e = a := by simpa using z
      rcases this with z | z
      · exact hne z
      · exact hae z.symm
    have ey : y = u := by
      have : its.toArray[i]? = some y := hy
      rw [show its.toArray[i]? = some u by simpa using hu] at this
      exact (Option.some.inj this).symm
    subst ey
    refine ⟨_, rfl, wpAny_letOwnedTupleGo_enum (s := { s with heap := h', toks := tk + 1 }) ho fun h'' he' sb => ?_⟩
    have hT2 : h''.get? s.heap.objs.size = some { cls := .type "tuple", data := .seq #[.int i tk, y] } := (sb.2 _ (Nat.ne_of_gt hel)).trans hT
    have new : ObjOk X.prog X.w (upd H s.heap.objs.size (.tup [.int (i : Nat), x])) h'' s.heap.objs.size (.tup [.int (i : Nat), x]) :=
      ⟨by show 2 ≤ sizeLine; decide, [.int i tk, y], .cons ⟨_, rfl⟩ (.cons ru .nil), ⟨_, hT2, rfl, _, rfl⟩⟩
    have I1 : Inv X pins σ (upd H s.heap.objs.size (.tup [.int (i : Nat), x])) { s with heap := h'', toks := tk + 1 } :=
      I.turnedNew (ch := [e, it]) (fun b ob hb q => (sb.2 b (fun z => hb (by simp [z]))).trans (hk b ob (fun z => hb (by simp [z])) (fun z => hb (by simp [z])) q)) hf (Nat.le_refl _) new
    refine ⟨.ref s.heap.objs.size, _, I1, rfl, ⟨_, x, rfl, I.hok.fresh (Nat.le_refl _), rfl, fun ys hy => by rw [I.tuple_inj hy hq]; exact hx⟩, ⟨⟨y, ?_⟩, hit'.1.at fun o q => (sb.2 it (Ne.symm hne)).trans q, hne⟩, fun b hb => ?_⟩
    · have e1 : ((i + 1 : Nat) : Int) = (i : Int) + 1 := by omega
      rw [e1]; exact he'
    · have hb' : b < s.heap.objs.size := by
        have e' : b = e ∨ b = it := by simpa using hb
        rcases e' with z | z
        · rw [z]; exact hel
        · rw [z]; exact hil
      rw [upd_ne (Nat.ne_of_lt hb')]
      exact (hf b hb).1
  done := by
    intro X hP hw hK hc i pins s σ H E I hf st hg
    subst hP hw hK
    obtain ⟨⟨old, he⟩, hit, hne⟩ := st
    obtain ⟨xs, hq, hx⟩ := hg
    obtain ⟨its, rv, p, hz⟩ := I.tuple hq
    obtain ⟨f0, f1, f2, f3, f4, f5⟩ := hf it (by simp)
    have hl := rv.length
    have hT : s.TypeIs (.ref e) "enumerate" := ⟨_, he, rfl⟩
    have hnone : its.toArray[i]? = none := by
      rw [Array.getElem?_eq_none]
      simp; omega
    unfold pyNext
    refine wpAny_bind (wpAny_attempt (wpAny_callSpecial?_slot (name := Str.ofString "__next__") hT F.slot_enumerate_next
      (wpAny_call_entry F.slot_enumerate_next hT F.entry_enumerate_next ?_ (F.args_enumerate_next_1 _))))
    show wpAny _ _ (field (.ref e) 2 >>= _) _ _ _
    refine wpAny_bind (wpAny_field he rfl (x := .ref it) rfl ?_)
    refine wpAny_bind (wpAny_nextOf_tuple_end (A := X.A.in1) (I.ok.hd hc) hit (show s.heap.IsTuple a its.toArray from p) hnone fun h' x he' hx' => ?_)
    obtain ⟨o, ho, hcc⟩ := hx'
    refine wpAny_bind (wpAny_isInstance (T := "StopIteration") (b := true) ⟨o, ho, hcc⟩ isSubtype_stop ?_)
    exact wpAny_pure ⟨rfl, I.turned (t' := s.toks) (fun b o hb q => he' b o hb q) f0 f1 f3 f4 f5⟩
  self := fun A i s Q E st h => let ⟨⟨_, he⟩, _⟩ := st; wpAny_pyIter_enum he h

/-- a for over a list or a tuple -/
def iSeq (K : PySem.W.Frag) (tl : TE) : TI := fun σ H R => tl σ H fun x H1 => ∃ a xs, x = .ref a ∧ ((SqL K H1 a xs ∧ R (Itl K a) H1) ∨ (SqT K H1 a xs ∧ R (Itt K a) H1))
theorem pi_seq {X : Cx} {tg l : Expr} {tl : TE} (hl : PE X l tl) : PI X tg l (iSeq X.K tl) := by
  refine ⟨fun pins s σ H R I h => ?_⟩
  refine thn (hl.run pins s σ H _ I h) fun v s1 ⟨x, H1, I1, r1, q1⟩ => ?_
  obtain ⟨a, xs, e, q1⟩ := q1
  subst e
  cases r1
  rcases q1 with ⟨hq, q⟩ | ⟨hq, q⟩
  · obtain ⟨its, rv, p, hz⟩ := I1.list hq
    refine wpAny_pyIter_list p.isList ?_
    refine ⟨s1.heap.objs.size, [s1.heap.objs.size], _, _, H1, rfl, I1.kept (t' := s1.toks) fun b o e => Heap.get?_push_of_some _ e, turn_list a _, ⟨_, Heap.get?_push_size _ rfl, rfl, rfl⟩, fun b hb => ?_, q⟩
    have e : b = s1.heap.objs.size := by simpa using hb
    subst e
    exact I1.fpOk (Nat.le_refl _) (I1.hok.fresh (Nat.le_refl _))
  · obtain ⟨its, rv, p, hz⟩ := I1.tuple hq
    refine wpAny_pyIter_tuple (show s1.heap.IsTuple a its.toArray from p) ?_
    refine ⟨s1.heap.objs.size, [s1.heap.objs.size], _, _, H1, rfl, I1.kept (t' := s1.toks) fun b o e => Heap.get?_push_of_some _ e, turn_tuple a _, ⟨_, Heap.get?_push_size _ rfl, rfl, rfl⟩, fun b hb => ?_, q⟩
    have e : b = s1.heap.objs.size := by simpa using hb
    subst e
    exact I1.fpOk (Nat.le_refl _) (I1.hok.fresh (Nat.le_refl _))
def iEnumA (K : PySem.W.Frag) (ta : TA) : TI := fun σ H R => ta σ H fun vs H1 => ∃ a xs, vs = [.ref a] ∧ ((SqL K H1 a xs ∧ R (Ite K a) H1) ∨ (SqT K H1 a xs ∧ R (IteT K a) H1))
theorem pi_enumA {X : Cx} {e : Expr} {ta : TA} {p pos tpos : Pos} {elts : List Expr} {kk : Nat} (hg : Gl X "enumerate") (hm : X.mg "enumerate" = none) (ha : PA X [e] ta) (hs : starEach [e] X.env = [(false, eval e X.env)]) :
    PI X (.Tuple elts kk tpos) (.Call (.Name "enumerate" p) [e] [] pos) (iEnumA X.K ta) := by
  refine ⟨fun pins s σ H R I h => ?_⟩
  refine Call_ (ld_blt I hg hm boot_enumerate (PyProof.Rows.callWith_type1 (thn (ha.run pos pins s σ H _ I h) fun us s1 ⟨vs, H1, I1, r1, q1⟩ => ?_) hs rfl))
  obtain ⟨a, xs, ex, q1⟩ := q1
  subst ex
  cases r1 with
  | cons r rr =>
    cases rr
    cases r
    rcases q1 with ⟨hq, q⟩ | ⟨hq, q⟩
    · obtain ⟨its, rv, p', hz⟩ := I1.list hq
      refine call_enumerate_list p'.isList fun h' he hit hsz hk => wpAny_pyIter_enum he ?_
      have I2 : Inv X pins σ H1 { s1 with heap := h' } := I1.kept (t' := s1.toks) hk
      refine ⟨s1.heap.objs.size + 1, [s1.heap.objs.size + 1, s1.heap.objs.size], _, _, H1, rfl, I2, turn_enum a (s1.heap.objs.size + 1) s1.heap.objs.size, ⟨⟨.none, he⟩, hit, Nat.succ_ne_self _⟩, fun b hb => ?_, q⟩
      have e' : b = s1.heap.objs.size + 1 ∨ b = s1.heap.objs.size := by simpa using hb
      have hle : s1.heap.objs.size ≤ b := by
        rcases e' with z | z
        · rw [z]; exact Nat.le_add_right _ _
        · rw [z]; exact Nat.le_refl _
      exact I1.fpOk hle (I1.hok.fresh hle)
    · obtain ⟨its, rv, p', hz⟩ := I1.tuple hq
      have hlt : a < s1.heap.objs.size := p'.lt
      refine enum_begins1 (begins_tuple a its.toArray) (show s1.heap.IsTuple a its.toArray from p') fun h' he hit hsz hk => wpAny_pyIter_enum he ?_
      have I2 : Inv X pins σ H1 { s1 with heap := h' } := I1.kept (t' := s1.toks) hk
      refine ⟨s1.heap.objs.size + 1, [s1.heap.objs.size + 1, s1.heap.objs.size], _, _, H1, rfl, I2, turn_enumT a (s1.heap.objs.size + 1) s1.heap.objs.size (Nat.ne_of_lt (Nat.lt_succ_of_lt hlt)) (Nat.ne_of_lt hlt), ⟨⟨.none, he⟩, ⟨_, hit, rfl, rfl⟩, Nat.succ_ne_self _⟩, fun b hb => ?_, q⟩
      have e' : b = s1.heap.objs.size + 1 ∨ b = s1.heap.objs.size := by simpa using hb
      have hle : s1.heap.objs.size ≤ b := by
        rcases e' with z | z
        · rw [z]; exact Nat.le_add_right _ _
        · rw [z]; exact Nat.le_refl _
      exact I1.fpOk hle (I1.hok.fresh hle)
end Cr
/-! # Loop: what loops and comprehensions walk. -/
namespace Cr
open PySem L2 RZ
theorem walk_zipT {K : PySem.W.Frag} {a b : Addr} {xs ys : List V} {n : Nat} (hn : n = min xs.length ys.length) : Walk (ItzT K a b) n (fun H => SqT K H a xs ∧ SqT K H b ys) (YPair (fun i => xs[i]?) (fun i => ys[i]?)) := by
  subst hn
  refine ⟨fun i _ hi q => ?_, fun _ q => ⟨xs, ys, q.1, q.2, by omega⟩, fun i H v H' _ q y => ?_⟩
  · have h1 : i < xs.length := by omega
    have h2 : i < ys.length := by omega
    exact ⟨xs, ys, xs[i], ys[i], q.1, q.2, by simp [h1], by simp [h2]⟩
  · obtain ⟨T, x, z, h1, h2, h3, h4, h5⟩ := y
    exact ⟨T, x, z, h1, h2, h3, h4 xs q.1, h5 ys q.2⟩
section
variable {K : PySem.W.Frag} {Z Z1 Z2 Z' Zc E : Addr → Prop} {O O1 O2 O' P P' : List Addr} {r r' r1 r2 : Rho} {σ σ' σ1 : St} {H H1 H2 H' : Hp} {os os' : List Opd} {vs vs' : List V}
/-- a list (kd) or tuple with these items, that stays whatever the evaluator does from here on -/
def Src (K : PySem.W.Frag) (Z : Addr → Prop) (O : List Addr) (H : Hp) (v : V) (xs : List D) (kd : Bool) : Prop := ∃ a vs, v = .ref a ∧
  ∀ (Z' : Addr → Prop) (H' : Hp), Keep (· ∈ O) H H' → (∀ a, Z a → Z' a) → (if kd = true then SqL K H' a vs else SqT K H' a vs) ∧ ∃ F, Rs K H' vs xs F ∧ ∀ b ∈ F, Z' b
theorem Src.mono {v : V} {xs : List D} {kd : Bool} (s : Src K Z O H v xs kd) (k : Keep (· ∈ O) H H1) (z : ∀ a, Z a → Z1 a) (on : ∀ a ∈ O1, a ∈ O ∨ H a = none) : Src K Z1 O1 H1 v xs kd := by
  have kk : ∀ {H' : Hp}, Keep (· ∈ O1) H1 H' → Keep (· ∈ O) H H' := fun t a o e n => t a o (k a o e n) fun h => (on a h).elim n fun q => by rw [q] at e; cases e
  obtain ⟨a, vs, e, s⟩ := s
  exact ⟨a, vs, e, fun Z' H' t y => s _ _ (kk t) fun a h => y a (z a h)⟩
/-- frozen data are a source -/
theorem Src.of {v : V} {d : D} {F : List Addr} {xs : List D} (s : Sta K Z O r σ H) (q : R K H v d F) (f : ∀ a ∈ F, Z a) (hi : items d = some xs) : Src K Z O H v xs (isList d) := by
  have nO : ∀ a ∈ F, a ∉ O := fun a h h' => s.sep a h' (f a h)
  cases d with
  | list ds =>
    simp only [items, Option.some.injEq] at hi
    subst hi
    cases q with
    | lst e q =>
      refine ⟨_, _, rfl, fun Z' H' t y => ⟨.inl (.inl (t _ _ e (nO _ List.mem_cons_self))), _, q.keep t s.mo fun a h => nO a (List.mem_cons_of_mem _ h), fun b h => y b (f b (List.mem_cons_of_mem _ h))⟩⟩
    | lstK e q => exact ⟨_, _, rfl, fun Z' H' t y => ⟨(t.sqk s.mo e).sq, _, q.keep t s.mo nO, fun b h => y b (f b h)⟩⟩
  | tuple ds =>
    simp only [items, Option.some.injEq] at hi
    subst hi
    obtain ⟨a, vs, e, h, q⟩ := q.tup_inv
    exact ⟨a, vs, e, fun Z' H' t y => ⟨t.sqt s.mo h, _, q.keep t s.mo nO, fun b h => y b (f b h)⟩⟩
  | _ => simp [items] at hi
theorem took {ln : Bool} {x : Opd} {v : V} {xs : List D} (s : Sta K Z O r σ H) (f : Fly K Z O H σ [x] [v] P) (h : takeOpd ln x r = some (xs, r1)) : ∃ Z1 O1 kd, (∃ dd, dat r x = some dd ∧ kd = isList dd) ∧ (∀ a, Z1 a → Z a ∨ a ∈ O ∨ a ∈ P) ∧ (∀ a ∈ O1, a ∈ O) ∧ Sta K Z1 O1 r1 σ H ∧ (∀ a, Z a → Z1 a) ∧ Kp r r1 σ σ ∧ Src K Z1 O1 H v xs kd ∧
    (∀ r2 σ2 H2 Z2 O2, Sta K Z2 O2 r2 σ2 H2 → Keep (· ∈ O1) H H2 → (∀ a ∈ O2, a ∈ O1 ∨ H a = none) → (∀ a ∈ O, Z2 a → Z1 a ∨ a ∈ O1) → Kp r1 r2 σ σ2 → ∃ O3, Sta K Z2 O3 (backOpd ln x r r2) σ2 H2 ∧ (∀ a ∈ O3, a ∈ O2 ∨ (a ∈ O ∧ a ∉ O1)) ∧ Kp r (backOpd ln x r r2) σ σ2) := by
  have keepBack : ∀ {O1 : List Addr} {r1 : Rho} {x : Opd}, Kp r r1 σ σ → (∀ r2, backOpd ln x r r2 = r2) → ∀ r2 σ2 H2 (Z2 : Addr → Prop) (O2 : List Addr), Sta K Z2 O2 r2 σ2 H2 → Kp r1 r2 σ σ2 → ∃ O3, Sta K Z2 O3 (backOpd ln x r r2) σ2 H2 ∧ (∀ a ∈ O3, a ∈ O2 ∨ (a ∈ O ∧ a ∉ O1)) ∧ Kp r (backOpd ln x r r2) σ σ2 :=
    fun kp hb r2 σ2 H2 Z2 O2 s2 k2 => ⟨O2, by rw [hb]; exact s2, fun a h => .inl h, by rw [hb]; exact kp.trans k2⟩
  cases x with
  | val d o =>
    simp only [takeOpd, Option.map_eq_some_iff] at h
    obtain ⟨ds, hi, e⟩ := h
    cases e
    -- all that is in flight is frozen
    have hE : ∀ a, a ∈ P → a ∉ O := f.out
    have s1 := s.zmore (E := (· ∈ P)) hE f.ops.mt
    have fin : ∀ {F : List Addr}, R K H v d F → (∀ a ∈ F, Z a ∨ a ∈ P) → _ := fun {F} q fz =>
      (⟨fun a => Z a ∨ a ∈ P, O, isList d, ⟨d, rfl, rfl⟩, fun a h => h.elim .inl fun h => .inr (.inr h), fun a h => h, s1, fun a h => .inl h, .refl, Src.of s1 q fz hi, fun r2 σ2 H2 Z2 O2 s2 _ _ _ k2 => keepBack .refl (fun _ => rfl) r2 σ2 H2 Z2 O2 s2 k2⟩ :
        ∃ Z1 O1 kd, (∃ dd, dat r (.val d o) = some dd ∧ kd = isList dd) ∧ (∀ a, Z1 a → Z a ∨ a ∈ O ∨ a ∈ P) ∧ (∀ a ∈ O1, a ∈ O) ∧ Sta K Z1 O1 r σ H ∧ (∀ a, Z a → Z1 a) ∧ Kp r r σ σ ∧ Src K Z1 O1 H v xs kd ∧
    (∀ r2 σ2 H2 Z2 O2, Sta K Z2 O2 r2 σ2 H2 → Keep (· ∈ O1) H H2 → (∀ a ∈ O2, a ∈ O1 ∨ H a = none) → (∀ a ∈ O, Z2 a → Z1 a ∨ a ∈ O1) → Kp r r2 σ σ2 → ∃ O3, Sta K Z2 O3 (backOpd ln (.val d o) r r2) σ2 H2 ∧ (∀ a ∈ O3, a ∈ O2 ∨ (a ∈ O ∧ a ∉ O1)) ∧ Kp r (backOpd ln (.val d o) r r2) σ σ2))
    have hop := f.ops
    cases hop with
    | own q' _ o' =>
      cases o'
      exact fin q' fun a h => .inr (by simpa using h)
    | fz q' f' o' => exact fin q' fun a h => .inl (f' a h)
  | nm i =>
    have hv : σ[i]? = some (some v) := by
      have hop := f.ops
      cases hop with
      | nm e _ => exact e
    simp only [takeOpd] at h
    cases hg : got r i with
    | none => rw [hg] at h; cases h
    | some y =>
      obtain ⟨d, st⟩ := y
      rw [hg] at h
      obtain ⟨hnth, hlo⟩ := got_nth hg
      -- frozen
      have frozen : ∀ {r1 : Rho}, frz1 r i = some r1 → items d = some xs → (∀ r2, backOpd ln (.nm i) r r2 = r2) → _ := fun {r1} hf hi hb =>
        (by
          obtain ⟨Z1, O1, s1, l1, k1, a1, _⟩ := s.frz1 hf
          obtain ⟨v', F', e', q', m'⟩ := a1 d st hg
          rw [hv] at e'
          cases e'
          exact ⟨Z1, O1, isList d, ⟨d, by simp [dat, hg], rfl⟩, fun a h => (l1.znew a h).elim .inl fun h => .inr (.inl h), l1.ole, s1, l1.zle, k1, Src.of s1 q' m' hi, fun r2 σ2 H2 Z2 O2 s2 _ _ _ k2 => keepBack k1 hb r2 σ2 H2 Z2 O2 s2 k2⟩ :
        ∃ Z1 O1 kd, (∃ dd, dat r (.nm i) = some dd ∧ kd = isList dd) ∧ (∀ a, Z1 a → Z a ∨ a ∈ O ∨ a ∈ P) ∧ (∀ a ∈ O1, a ∈ O) ∧ Sta K Z1 O1 r1 σ H ∧ (∀ a, Z a → Z1 a) ∧ Kp r r1 σ σ ∧ Src K Z1 O1 H v xs kd ∧
    (∀ r2 σ2 H2 Z2 O2, Sta K Z2 O2 r2 σ2 H2 → Keep (· ∈ O1) H H2 → (∀ a ∈ O2, a ∈ O1 ∨ H a = none) → (∀ a ∈ O, Z2 a → Z1 a ∨ a ∈ O1) → Kp r1 r2 σ σ2 → ∃ O3, Sta K Z2 O3 (backOpd ln (.nm i) r r2) σ2 H2 ∧ (∀ a ∈ O3, a ∈ O2 ∨ (a ∈ O ∧ a ∉ O1)) ∧ Kp r (backOpd ln (.nm i) r r2) σ σ2))
      cases d with
      | tuple ds =>
        simp only [Option.map_eq_some_iff] at h
        obtain ⟨r2, hf, e⟩ := h
        cases e
        exact frozen hf rfl fun r2 => by simp [backOpd, hg]
      | list ds =>
        simp only at h
        by_cases hc : (ln && imms ds && decide (st = .ow)) = true
        · rw [if_pos hc] at h
          cases h
          simp only [Bool.and_eq_true, decide_eq_true_eq] at hc
          obtain ⟨⟨_, him⟩, rfl⟩ := hc
          obtain ⟨F0, G, A⟩ := s.cells.at (nth_lt hnth)
          obtain ⟨v', F', e', q0, z1, z2⟩ := A.rd _ _ hnth hlo
          rw [hv] at e'
          cases e'
          have hF0 : F0 = F' := (z2 (by decide)).1
          have hcn := (z2 (by decide)).2
          subst hF0
          have nd := List.nodup_append.mp (A.perm.nodup_iff.mp s.nd)
          have inO : ∀ a, a ∈ F0 ∨ a ∈ G → a ∈ O := fun a h => A.perm.mem_iff.mpr (List.mem_append.mpr h)
          have s1 : Sta K Z G (put r i (some (.list xs, .lo))) σ H := ⟨A.lo _, nd.2.1, fun a h => s.sep a (inO a (.inr h)), s.zm⟩
          have kp1 : Kp r (put r i (some (.list xs, .lo))) σ σ := Kp.put0 fun d' st' h' => by rw [hnth] at h'; cases h'; exact ⟨by decide, by decide⟩
          have nG : ∀ a ∈ F0, a ∉ G := fun a h h' => nd.2.2 a h a h' rfl
          refine ⟨Z, G, true, ⟨_, by simp only [dat, hg]; rfl, rfl⟩, fun a h => .inl h, fun a h => inO a (.inr h), s1, fun a h => h, kp1, ?_, fun r2 σ2 H2 Z2 O2 s2 stk ston stz k2 => ?_⟩
          · -- it stays
            cases q0 with
            | lst e q =>
              have zF := q.imm him
              subst zF
              refine ⟨_, _, rfl, fun Z' H' t _ => ⟨.inl (.inl (t _ _ e (nG _ List.mem_cons_self))), _, q.keep t s1.mo nil_all, nil_all⟩⟩
            | lstK e q =>
              have zF := q.imm him
              subst zF
              exact ⟨_, _, rfl, fun Z' H' t _ => ⟨(t.sqk s1.mo e).sq, _, q.keep t s1.mo nil_all, nil_all⟩⟩
          · have hlo2 := (k2 i _ .lo (nth_put_same (nth_lt hnth))).2.1 rfl
            have hσ2 : σ2[i]? = some (some v) := ((k2 i _ .lo (nth_put_same (nth_lt hnth))).2.2 (.inr rfl)).trans hv
            have hb : backOpd ln (.nm i) r r2 = put r2 i (some (.list xs, .ow)) := by
              simp only [backOpd, hg]
              rw [if_pos (by simp_all)]
            rw [hb]
            have q2 : R K H2 v (.list xs) F0 := q0.keep stk s1.mo nG
            obtain ⟨F2, G2, A2⟩ := s2.cells.at (nth_lt hlo2)
            have nd2 := List.nodup_append.mp (A2.perm.nodup_iff.mp s2.nd)
            obtain ⟨O3, p3, c3⟩ := A2.own (.list xs) v F0 .ow (.inl rfl) q2 hcn
            rw [set_self hσ2] at c3
            have out2 : ∀ a ∈ F0, a ∉ O2 ∧ ¬ Z2 a := fun a h => ⟨fun h' => (ston a h').elim (nG a h) (q0.mt a h).some, fun z => by
              rcases stz a (inO a (.inl h)) z with z | z
              · exact s.sep a (inO a (.inl h)) z
              · exact nG a h z⟩
            have inO2 : ∀ a ∈ G2, a ∈ O2 := fun a h => A2.perm.mem_iff.mpr (List.mem_append_right _ h)
            have m3 : ∀ a ∈ O3, a ∈ F0 ∨ a ∈ G2 := fun a h => List.mem_append.mp (p3.mem_iff.mp h)
            refine ⟨O3, ⟨c3, p3.nodup_iff.mpr (List.nodup_append.mpr ⟨nd.1, nd2.2.1, fun a h b h' e => (out2 a h).1 (e ▸ inO2 b h')⟩), fun a h => (m3 a h).elim (fun h => (out2 a h).2) fun h => s2.sep a (inO2 a h), s2.zm⟩, fun a h => (m3 a h).elim (fun h => .inr ⟨inO a (.inl h), nG a h⟩) fun h => .inl (inO2 a h), ?_⟩
            intro j dj stj hj
            by_cases ej : i = j
            · subst ej
              rw [hnth] at hj
              cases hj
              exact ⟨(fun z => by cases z), (fun z => by cases z), fun z => by rcases z with z | z <;> cases z⟩
            · rw [nth_put_ne ej]
              exact (kp1.trans k2) j dj stj hj
        · rw [if_neg hc] at h
          simp only [Option.map_eq_some_iff] at h
          obtain ⟨r2, hf, e⟩ := h
          cases e
          exact frozen hf rfl fun r2 => by simp only [backOpd, hg]; rw [if_neg hc]
      | _ => simp at h
/-! ### what a loop walks -/
/-- the walk gives the items one after another, whatever the evaluator does meanwhile -/
def Wk (K : PySem.W.Frag) (Z : Addr → Prop) (O : List Addr) (H : Hp) (J : It) (xs : List D) : Prop := ∃ G Y, Walk J xs.length G Y ∧ ∀ Z' O' H', Step Z O H Z' O' H' → G H' ∧
  ∀ i x v H'', xs[i]? = some x → Y i H' v H'' → Keep (fun _ => False) H' H'' ∧ ∃ F, R K H'' v x F ∧ ∀ a ∈ F, Z' a
structure ItEnd (K : PySem.W.Frag) (Z : Addr → Prop) (O : List Addr) (H : Hp) (r : Rho) (σ : St) (Z1 : Addr → Prop) (O1 : List Addr) (H1 : Hp) (r1 : Rho) (J : It) (xs : List D) (back : Rho → Rho) : Prop where
  sta : Sta K Z1 O1 r1 σ H1
  step : Step Z O H Z1 O1 H1
  kp : Kp r r1 σ σ
  wk : Wk K Z1 O1 H1 J xs
  back : ∀ r2 σ2 H2 Z2 O2, Sta K Z2 O2 r2 σ2 H2 → Step Z1 O1 H1 Z2 O2 H2 → Kp r1 r2 σ σ2 → ∃ O3, Sta K Z2 O3 (back r2) σ2 H2 ∧ Step Z O H Z2 O3 H2 ∧ Kp r (back r2) σ σ2 ∧ ∀ a ∈ O3, a ∈ O2 ∨ (a ∉ O1 ∧ H1 a ≠ none)
def GoodI (K : PySem.W.Frag) (wi : TI) (f : Rho → Option (List D × Rho × (Rho → Rho))) : Prop := ∀ (r : Rho) (σ : St) (H : Hp) (Z : Addr → Prop) (O : List Addr) (Rq : It → Hp → Prop), Sta K Z O r σ H → ∀ xs r1 back, f r = some (xs, r1, back) →
  (∀ J H1 Z1 O1, ItEnd K Z O H r σ Z1 O1 H1 r1 J xs back → Rq J H1) → wi σ H Rq
theorem Wk.seq {a : Addr} {vs : List V} {xs : List D} {kd : Bool} (h : ∀ (Z' : Addr → Prop) (H' : Hp), Keep (· ∈ O) H H' → (∀ a, Z a → Z' a) → (if kd = true then SqL K H' a vs else SqT K H' a vs) ∧ ∃ F, Rs K H' vs xs F ∧ ∀ b ∈ F, Z' b) : Wk K Z O H (if kd = true then Itl K a else Itt K a) xs := by
  obtain ⟨_, F, q, _⟩ := h Z H (fun _ _ e _ => e) fun _ z => z
  cases kd with
  | true =>
    refine ⟨_, _, by rw [← q.len]; exact walk_list, fun Z' O' H' t => ⟨(h Z' H' t.keep t.zle).1, fun i x v H'' hx y => ?_⟩⟩
    obtain ⟨_, F', q', m'⟩ := h Z' H' t.keep t.zle
    obtain ⟨rfl, hv⟩ := y
    obtain ⟨y, G, e, qy, my⟩ := q'.get hx
    rw [hv] at e
    cases e
    exact ⟨fun _ _ e _ => e, G, qy, fun b hb => m' b (my b hb)⟩
  | false =>
    refine ⟨_, _, by rw [← q.len]; exact walk_tup, fun Z' O' H' t => ⟨(h Z' H' t.keep t.zle).1, fun i x v H'' hx y => ?_⟩⟩
    obtain ⟨_, F', q', m'⟩ := h Z' H' t.keep t.zle
    obtain ⟨rfl, hv⟩ := y
    obtain ⟨y, G, e, qy, my⟩ := q'.get hx
    rw [hv] at e
    cases e
    exact ⟨fun _ _ e _ => e, G, qy, fun b hb => m' b (my b hb)⟩
/-- what a loop over an operand does with it, from behind the operand on -/
theorem Post.took {ln : Bool} {x : Opd} {v : V} {xs : List D} (p : Post K Z O H r σ Z1 O1 H1 r1 [x] [v] P) (h : takeOpd ln x r1 = some (xs, r2)) : ∃ Z2 O2 kd, Sta K Z2 O2 r2 σ H1 ∧ Step Z O H Z2 O2 H1 ∧ Kp r r2 σ σ ∧ Src K Z2 O2 H1 v xs kd ∧
    (∀ r3 σ3 H3 Z3 O3, Sta K Z3 O3 r3 σ3 H3 → Step Z2 O2 H1 Z3 O3 H3 → Kp r2 r3 σ σ3 → ∃ O4, Sta K Z3 O4 (backOpd ln x r1 r3) σ3 H3 ∧ Step Z O H Z3 O4 H3 ∧ Kp r (backOpd ln x r1 r3) σ σ3 ∧ ∀ a ∈ O4, a ∈ O3 ∨ (a ∉ O2 ∧ H1 a ≠ none)) := by
  obtain ⟨Z2, O2, kd, _, a1, a2, a3, a4, a5, a6, a7⟩ := Cr.took p.sta p.fly h
  have st2 : Step Z O H Z2 O2 H1 := ⟨p.step.keep, p.step.alloc, fun a h => a4 a (p.step.zle a h), fun a h => by
    rcases a1 a h with h | h | h
    · exact p.step.znew a h
    · exact .inr (p.step.onew a h)
    · exact .inr (p.from_ a h), fun a h => p.step.onew a (a2 a h)⟩
  refine ⟨Z2, O2, kd, a3, st2, p.kp.trans a5, a6, fun r3 σ3 H3 Z3 O3 s3 st3 k3 => ?_⟩
  obtain ⟨O4, s4, m4, k4⟩ := a7 r3 σ3 H3 Z3 O3 s3 st3.keep st3.onew (fun a ha z => (st3.znew a z).imp id fun z => z.resolve_right (p.sta.mo a ha).some) k3
  have t := st2.trans st3
  exact ⟨O4, s4, ⟨t.keep, t.alloc, t.zle, t.znew, fun a h => (m4 a h).elim (t.onew a) fun h => p.step.onew a h.1⟩, p.kp.trans k4, fun a h => (m4 a h).imp id fun h => ⟨h.2, (p.sta.mo a h.1).some⟩⟩
theorem goodI_seq {te : TE} {f : Rho → Option (Opd × Rho)} {ln : Bool} (he : Good K te f) : GoodI K (iSeq K te) (fun r => (f r).bind fun (o, r1) => (takeOpd ln o r1).map fun (ds, r2) => (ds, r2, backOpd ln o r1)) := by
  intro r σ H Z O Rq s xs r' back h k
  simp only [Option.bind_eq_some_iff, Option.map_eq_some_iff] at h
  obtain ⟨⟨o, r1⟩, h1, ⟨ds, r2⟩, h2, e⟩ := h
  cases e
  refine he r σ H Z O _ s o r1 h1 fun v H1 Z1 O1 P p => ?_
  obtain ⟨Z2, O2, kd, a1, a2, a3, ⟨a, vs, rfl, src⟩, a5⟩ := p.took h2
  refine ⟨a, vs, rfl, ?_⟩
  have w := Wk.seq src
  have e0 := (src Z2 H1 (fun _ _ e _ => e) fun _ z => z).1
  cases kd with
  | true => exact .inl ⟨e0, k _ _ Z2 O2 ⟨a1, a2, a3, w, a5⟩⟩
  | false => exact .inr ⟨e0, k _ _ Z2 O2 ⟨a1, a2, a3, w, a5⟩⟩
theorem enumD_get : ∀ {xs : List D} {n i : Nat} {x : D}, (enumD n xs)[i]? = some x → ∃ y, xs[i]? = some y ∧ x = .tuple [.int (n + i : Nat), y]
  | [], _, _, _, h => by simp [enumD] at h
  | y :: xs, n, 0, x, h => by
    simp only [enumD, List.getElem?_cons_zero, Option.some.injEq] at h
    exact ⟨y, rfl, by rw [← h]; simp⟩
  | y :: xs, n, i + 1, x, h => by
    obtain ⟨z, e, h'⟩ := enumD_get (xs := xs) (n := n + 1) (i := i) (x := x) (by simpa [enumD] using h)
    refine ⟨z, by simpa using e, ?_⟩
    rw [h']
    have : n + 1 + i = n + (i + 1) := by omega
    rw [this]
theorem enumD_len : ∀ {xs : List D} {n : Nat}, (enumD n xs).length = xs.length
  | [], _ => rfl
  | _ :: xs, n => by simp [enumD, enumD_len (xs := xs)]
/-- a pair that is made at each turn -/
theorem pair_item {i : Nat} {fx fy : Nat → Option V} {v : V} {H'' : Hp} {dx dy : D} {x y : V} {Fx Fy : List Addr} (h : YPair fx fy i H' v H'') (hx : fx i = some x) (hy : fy i = some y) (qx : R K H' x dx Fx) (qy : R K H' y dy Fy) :
    Keep (fun _ => False) H' H'' ∧ R K H'' v (.tuple [dx, dy]) (Fx ++ (Fy ++ [])) := by
  obtain ⟨T, x', y', rfl, hT, rfl, e1, e2⟩ := h
  rw [hx] at e1
  rw [hy] at e2
  cases e1
  cases e2
  have k : Keep (fun _ => False) H' (upd H' T (.tup [x, y])) := Keep.upd hT
  exact ⟨k, .tup (.inl (.inl upd_same)) (.cons (qx.heap k) (.cons (qy.heap k) .nil))⟩
/-- one operand, as a list of operands -/
theorem goodL_one {ta : TE} {f : Rho → Option (Opd × Rho)} (ha : Good K ta f) : GoodL K (tCons ta tNil) (fun r => (f r).map fun (o, r1) => ([o], r1)) := by
  intro r σ H Z O Q s os r' h k
  simp only [Option.map_eq_some_iff] at h
  obtain ⟨⟨o, r1⟩, h1, e⟩ := h
  cases e
  exact ha r σ H Z O _ s o _ h1 fun v H1 Z1 O1 P1 p1 => k _ _ _ _ _ p1
theorem goodL_two {ta tb : TE} {f g : Rho → Option (Opd × Rho)} (ha : Good K ta f) (hb : Good K tb g) : GoodL K (tCons ta (tCons tb tNil)) (fun r => (f r).bind fun (o, r1) => (g r1).map fun (o2, r2) => ([o, o2], r2)) := by
  intro r σ H Z O Q s os r' h k
  simp only [Option.bind_eq_some_iff, Option.map_eq_some_iff] at h
  obtain ⟨⟨o, r1⟩, h1, ⟨o2, r2⟩, h2, e⟩ := h
  cases e
  refine ha r σ H Z O _ s o _ h1 fun v H1 Z1 O1 P1 p1 => ?_
  exact hb r1 σ H1 Z1 O1 _ p1.sta o2 _ h2 fun w H2 Z2 O2 P2 p2 => k _ _ _ _ _ (p1.cons p2)
theorem goodI_enum {te : TE} {f : Rho → Option (Opd × Rho)} {ln : Bool} (he : Good K te f) :
    GoodI K (iEnumA K (tCons te tNil)) (fun r => (f r).bind fun (o, r1) => (takeOpd ln o r1).map fun (ds, r2) => (enumD 0 ds, r2, backOpd ln o r1)) := by
  intro r σ H Z O Rq s xs r' back h k
  simp only [Option.bind_eq_some_iff, Option.map_eq_some_iff] at h
  obtain ⟨⟨o, r1⟩, h1, ⟨ds, r2⟩, h2, e⟩ := h
  cases e
  refine he r σ H Z O _ s o r1 h1 fun v H1 Z1 O1 P p => ?_
  obtain ⟨Z2, O2, kd, a1, a2, a3, ⟨a, vs, rfl, src⟩, a5⟩ := p.took h2
  refine ⟨a, vs, rfl, ?_⟩
  have item : ∀ {Z' : Addr → Prop} {O' : List Addr} {H' : Hp}, Step Z2 O2 H1 Z' O' H' → ∀ i x v H'', (enumD 0 ds)[i]? = some x → YPair (fun i => some (.int (i : Nat))) (fun i => vs[i]?) i H' v H'' → Keep (fun _ => False) H' H'' ∧ ∃ F, R K H'' v x F ∧ ∀ a ∈ F, Z' a := fun {Z' O' H'} t i x v H'' hx y => by
    obtain ⟨_, F', q', m'⟩ := src Z' H' t.keep t.zle
    obtain ⟨z, hz, rfl⟩ := enumD_get hx
    obtain ⟨w, G, e, qw, mw⟩ := q'.get hz
    obtain ⟨kk, qq⟩ := pair_item y rfl e (.int (K := K) (H := H') ((i : Nat) : Int)) qw
    rw [Nat.zero_add]
    exact ⟨kk, _, qq, fun b hb => m' b (mw b (by simpa using hb))⟩
  obtain ⟨e0, F, q, _⟩ := src Z2 H1 (fun _ _ e _ => e) fun _ z => z
  cases kd with
  | true => exact .inl ⟨e0, k _ _ Z2 O2 ⟨a1, a2, a3, ⟨_, _, by rw [enumD_len, ← q.len]; exact walk_enum, fun Z' O' H' t => ⟨(src Z' H' t.keep t.zle).1, item t⟩⟩, a5⟩⟩
  | false => exact .inr ⟨e0, k _ _ Z2 O2 ⟨a1, a2, a3, ⟨_, _, by rw [enumD_len, ← q.len]; exact walk_enumT, fun Z' O' H' t => ⟨(src Z' H' t.keep t.zle).1, item t⟩⟩, a5⟩⟩
theorem intRange_get : ∀ {n : Nat} {lo : Int} {i : Nat} {x : D}, (intRange n lo)[i]? = some x → i < n ∧ x = .int (lo + i)
  | 0, _, _, _, h => by simp [intRange] at h
  | n + 1, lo, 0, x, h => by
    simp only [intRange, List.getElem?_cons_zero, Option.some.injEq] at h
    exact ⟨Nat.succ_pos _, by rw [← h]; simp⟩
  | n + 1, lo, i + 1, x, h => by
    obtain ⟨h1, h2⟩ := intRange_get (n := n) (lo := lo + 1) (i := i) (x := x) (by simpa [intRange] using h)
    refine ⟨Nat.succ_lt_succ h1, ?_⟩
    rw [h2]
    have : lo + 1 + (i : Int) = lo + ((i + 1 : Nat) : Int) := by omega
    rw [this]
theorem intRange_len : ∀ {n : Nat} {lo : Int}, (intRange n lo).length = n
  | 0, _ => rfl
  | n + 1, lo => by simp [intRange, intRange_len (n := n)]
theorem Wk.range {n : Nat} {lo : Int} : Wk K Z O H (Itr lo n) (intRange n lo) := by
  refine ⟨_, _, by rw [intRange_len]; exact walk_range, fun Z' O' H' t => ⟨trivial, fun i x v H'' hx y => ?_⟩⟩
  obtain ⟨rfl, rfl⟩ := y
  obtain ⟨_, rfl⟩ := intRange_get hx
  exact ⟨fun _ _ e _ => e, [], .int _, nil_all⟩
theorem Post.itEnd {J : It} {xs : List D} (p : Post K Z O H r σ Z1 O1 H1 r1 os vs P) (w : Wk K Z1 O1 H1 J xs) : ItEnd K Z O H r σ Z1 O1 H1 r1 J xs id :=
  ⟨p.sta, p.step, p.kp, w, fun r2 σ2 H2 Z2 O2 s2 st2 k2 => ⟨O2, s2, p.step.trans st2, p.kp.trans k2, fun a h => .inl h⟩⟩
theorem goodI_rng1 {te : TE} {f : Rho → Option (Opd × Rho)} (he : Good K te f) : GoodI K (iRng1 (tCons te tNil)) (fun r => (f r).bind fun (o, r1) => match dat r1 o with
      | some (.int n) => if decide (n ≤ 100000) && decide (-100000 ≤ n) then some (intRange n.toNat 0, r1, id) else none
      | _ => none) := by
  intro r σ H Z O Rq s xs r' back h k
  simp only [Option.bind_eq_some_iff] at h
  obtain ⟨⟨o, r1⟩, h1, h2⟩ := h
  refine he r σ H Z O _ s o r1 h1 fun v H1 Z1 O1 P p => ?_
  split at h2
  · rename_i n hn
    split at h2
    · rename_i hb
      cases h2
      simp only [Bool.and_eq_true, decide_eq_true_eq] at hb
      obtain ⟨F, q, _⟩ := p.one hn
      obtain ⟨rfl, _⟩ := q.int_inv
      have e1 : (2 : Int) ^ 62 = 4611686018427387904 := by decide
      exact ⟨n, rfl, by omega, by omega, k _ _ _ _ (p.itEnd Wk.range)⟩
    · cases h2
  · cases h2
theorem Post.two {x y : Opd} {v w : V} {d e : D} (p : Post K Z O H r σ Z1 O1 H1 r1 [x, y] [v, w] P) (h : dat r1 x = some d) (h' : dat r1 y = some e) : ∃ F G, R K H1 v d F ∧ R K H1 w e G := by
  obtain ⟨F, q, m⟩ := p.fly.ops.rs p.sta (dats2 h h')
  cases q with
  | cons q q' =>
    cases q' with
    | cons q' _ => exact ⟨_, _, q, q'⟩
theorem goodI_rng2 {ta tb : TE} {f g : Rho → Option (Opd × Rho)} (ha : Good K ta f) (hb : Good K tb g) : GoodI K (iRng2 (tCons ta (tCons tb tNil))) (fun r => (f r).bind fun (o, r1) => (g r1).bind fun (o2, r2) => match dat r2 o, dat r2 o2 with
      | some (.int m), some (.int n) => if decide (n ≤ 100000) && decide (-100000 ≤ n) && decide (m ≤ 100000) && decide (-100000 ≤ m) then some (intRange (n - m).toNat m, r2, id) else none
      | _, _ => none) := by
  intro r σ H Z O Rq s xs r' back h k
  simp only [Option.bind_eq_some_iff] at h
  obtain ⟨⟨o, r1⟩, h1, ⟨o2, r2⟩, h2, h3⟩ := h
  refine ha r σ H Z O _ s o r1 h1 fun v H1 Z1 O1 P1 p1 => ?_
  refine hb r1 σ H1 Z1 O1 _ p1.sta o2 r2 h2 fun w H2 Z2 O2 P2 p2 => ?_
  have p := p1.cons p2
  split at h3
  · rename_i m n hm hn
    split at h3
    · rename_i hb
      cases h3
      simp only [Bool.and_eq_true, decide_eq_true_eq] at hb
      obtain ⟨F, G, q1, q2⟩ := p.two hm hn
      obtain ⟨rfl, _⟩ := q1.int_inv
      obtain ⟨rfl, _⟩ := q2.int_inv
      have e1 : (2 : Int) ^ 62 = 4611686018427387904 := by decide
      exact ⟨m, n, rfl, by omega, k _ _ _ _ (p.itEnd Wk.range)⟩
    · cases h3
  · cases h3
theorem zipD_get : ∀ {xs ys : List D} {i : Nat} {x : D}, (zipD xs ys)[i]? = some x → ∃ y z, xs[i]? = some y ∧ ys[i]? = some z ∧ x = .tuple [y, z]
  | [], _, _, _, h => by simp [zipD] at h
  | _ :: _, [], _, _, h => by simp [zipD] at h
  | y :: xs, z :: ys, 0, x, h => by
    simp only [zipD, List.getElem?_cons_zero, Option.some.injEq] at h
    exact ⟨y, z, rfl, rfl, h.symm⟩
  | y :: xs, z :: ys, i + 1, x, h => by
    obtain ⟨y', z', e1, e2, e3⟩ := zipD_get (xs := xs) (ys := ys) (i := i) (x := x) (by simpa [zipD] using h)
    exact ⟨y', z', by simpa using e1, by simpa using e2, e3⟩
theorem zipD_len : ∀ {xs ys : List D}, (zipD xs ys).length = min xs.length ys.length
  | [], _ => by simp [zipD]
  | _ :: _, [] => by simp [zipD]
  | _ :: xs, _ :: ys => by simp [zipD, zipD_len (xs := xs) (ys := ys)]
theorem sameK_inv {a b : D} (h : sameK (some a) (some b) = true) : isList a = isList b := by
  cases a <;> cases b <;> first | rfl | (simp [sameK] at h)
theorem Ops.split {x : Opd} {v : V} (o : Ops K Z H σ (x :: os) (v :: vs) P) : ∃ P1 P2, P = P1 ++ P2 ∧ Ops K Z H σ [x] [v] P1 ∧ Ops K Z H σ os vs P2 := by
  cases o with
  | nm e o => exact ⟨[], _, rfl, .nm e .nil, o⟩
  | own q n o => exact ⟨_, _, rfl, by simpa using Ops.own q n .nil, o⟩
  | fz q f o => exact ⟨[], _, rfl, .fz q f .nil, o⟩
theorem goodI_zip {ta tb : TE} {f g : Rho → Option (Opd × Rho)} {ln : Bool} (ha : Good K ta f) (hb : Good K tb g) : GoodI K (iZipA K (tCons ta (tCons tb tNil))) (fun r => (f r).bind fun (o, r1) => (g r1).bind fun (o2, r2) => (takeOpd ln o r2).bind fun (ds, r3) => if sameK (dat r2 o) (dat r3 o2) then (takeOpd ln o2 r3).map fun (es, r4) =>
      (zipD ds es, r4, fun q => backOpd ln o r2 (backOpd ln o2 r3 q)) else none) := by
  intro r σ H Z O Rq s xs r' back h k
  simp only [Option.bind_eq_some_iff] at h
  obtain ⟨⟨o, r1⟩, h1, ⟨o2, r2⟩, h2, ⟨ds, r3⟩, h3, h4⟩ := h
  split at h4
  · rename_i hk
    simp only [Option.map_eq_some_iff] at h4
    obtain ⟨⟨es, r4⟩, h4, e⟩ := h4
    cases e
    refine ha r σ H Z O _ s o r1 h1 fun v H1 Z1 O1 P1 p1 => ?_
    refine hb r1 σ H1 Z1 O1 _ p1.sta o2 r2 h2 fun w H2 Z2 O2 P2 p2 => ?_
    have p := p1.cons p2
    obtain ⟨Px, Py, eP, ox, oy⟩ := Ops.split (x := o) (os := [o2]) (v := v) (vs := [w]) p.fly.ops
    have nd := List.nodup_append.mp (eP ▸ p.fly.nd)
    have inP : ∀ a, a ∈ Px ∨ a ∈ Py → a ∈ P1 ++ P2 := fun a h => by rw [eP]; exact List.mem_append.mpr h
    have fx : Fly K Z2 O2 H2 σ [o] [v] Px := ⟨ox, nd.1, fun a h => p.fly.out a (inP a (.inl h)), fun a h => p.fly.sep a (inP a (.inl h))⟩
    obtain ⟨Z3, O3, kx, ⟨dx, ex, ekx⟩, a1, a2, a3, a4, a5, a6, a7⟩ := took p.sta fx h3
    have fy : Fly K Z3 O3 H2 σ [o2] [w] Py := ⟨oy.zmono a4, nd.2.1, fun a h h' => p.fly.out a (inP a (.inr h)) (a2 a h'), fun a h z => by
      rcases a1 a z with z | z | z
      · exact p.fly.sep a (inP a (.inr h)) z
      · exact p.fly.out a (inP a (.inr h)) z
      · exact nd.2.2 a z a h rfl⟩
    obtain ⟨Z4, O4, ky, ⟨dy, ey, eky⟩, b1, b2, b3, b4, b5, b6, b7⟩ := took a3 fy h4
    rw [ex, ey] at hk
    have ekk := sameK_inv hk
    rw [← ekx, ← eky] at ekk
    subst ekk
    have sx : Src K Z4 O4 H2 v ds kx := a6.mono (fun _ _ e _ => e) b4 fun a h => .inl (b2 a h)
    obtain ⟨ax, vs, rfl, sx⟩ := sx
    obtain ⟨ay, ws, rfl, sy⟩ := b6
    have st4 : Step Z O H Z4 O4 H2 := ⟨p.step.keep, p.step.alloc, fun a h => b4 a (a4 a (p.step.zle a h)), fun a h => by
      rcases b1 a h with h | h | h
      · rcases a1 a h with h | h | h
        · exact p.step.znew a h
        · exact .inr (p.step.onew a h)
        · exact .inr (p.from_ a (inP a (.inl h)))
      · exact .inr (p.step.onew a (a2 a h))
      · exact .inr (p.from_ a (inP a (.inr h))), fun a h => p.step.onew a (a2 a (b2 a h))⟩
    have back : ∀ r5 σ5 H5 Z5 O5, Sta K Z5 O5 r5 σ5 H5 → Step Z4 O4 H2 Z5 O5 H5 → Kp r4 r5 σ σ5 → ∃ O6, Sta K Z5 O6 (backOpd ln o r2 (backOpd ln o2 r3 r5)) σ5 H5 ∧ Step Z O H Z5 O6 H5 ∧ Kp r (backOpd ln o r2 (backOpd ln o2 r3 r5)) σ σ5 ∧ ∀ a ∈ O6, a ∈ O5 ∨ (a ∉ O4 ∧ H2 a ≠ none) := by
      intro r5 σ5 H5 Z5 O5 s5 st5 k5
      have zz : ∀ a ∈ O3, Z5 a → Z4 a ∨ a ∈ O4 := fun a ha z => (st5.znew a z).imp id fun z => z.resolve_right (a3.mo a ha).some
      obtain ⟨O7, s7, m7, k7⟩ := b7 r5 σ5 H5 Z5 O5 s5 st5.keep st5.onew zz k5
      have keep7 : Keep (· ∈ O3) H2 H5 := fun a u e n => st5.keep a u e fun h => n (b2 a h)
      obtain ⟨O8, s8, m8, k8⟩ := a7 _ σ5 H5 Z5 O7 s7 keep7 (fun a h => (m7 a h).elim (fun h => (st5.onew a h).imp (b2 a) id) fun h => .inl h.1) (fun a ha z => by
        have nPy : a ∉ Py := fun h => p.fly.out a (inP a (.inr h)) ha
        rcases st5.znew a z with z | z | z
        · rcases b1 a z with z | z | z
          · exact .inl z
          · exact .inr z
          · exact absurd z nPy
        · exact .inr (b2 a z)
        · exact absurd z (p.sta.mo a ha).some) k7
      have t := st4.trans st5
      have m : ∀ a ∈ O8, a ∈ O5 ∨ (a ∉ O4 ∧ a ∈ O2) := fun a h => by
        rcases m8 a h with h | h
        · rcases m7 a h with h | h
          · exact .inl h
          · exact .inr ⟨h.2, a2 a h.1⟩
        · exact .inr ⟨fun z => h.2 (b2 a z), h.1⟩
      exact ⟨O8, s8, ⟨t.keep, t.alloc, t.zle, t.znew, fun a h => (m a h).elim (t.onew a) fun h => p.step.onew a h.2⟩, p.kp.trans k8, fun a h => (m a h).imp id fun h => ⟨h.1, (p.sta.mo a h.2).some⟩⟩
    have item : ∀ {Z' : Addr → Prop} {O' : List Addr} {H' : Hp}, Step Z4 O4 H2 Z' O' H' → ∀ i x v H'', (zipD ds es)[i]? = some x → YPair (fun i => vs[i]?) (fun i => ws[i]?) i H' v H'' → Keep (fun _ => False) H' H'' ∧ ∃ F, R K H'' v x F ∧ ∀ a ∈ F, Z' a := fun {Z' O' H'} t i x v H'' hx y => by
      obtain ⟨_, F1, q1, m1⟩ := sx Z' H' t.keep t.zle
      obtain ⟨_, F2, q2, m2⟩ := sy Z' H' t.keep t.zle
      obtain ⟨y1, z1, hy, hz, rfl⟩ := zipD_get hx
      obtain ⟨w1, G1, e1, qw1, mw1⟩ := q1.get hy
      obtain ⟨w2, G2, e2, qw2, mw2⟩ := q2.get hz
      obtain ⟨kk, qq⟩ := pair_item y e1 e2 qw1 qw2
      exact ⟨kk, _, qq, fun b hb => by
        rcases List.mem_append.mp hb with hb | hb
        · exact m1 b (mw1 b hb)
        · exact m2 b (mw2 b (by simpa using hb))⟩
    obtain ⟨e1, F1, q1, _⟩ := sx Z4 H2 (fun _ _ e _ => e) fun _ z => z
    obtain ⟨e2, F2, q2, _⟩ := sy Z4 H2 (fun _ _ e _ => e) fun _ z => z
    have hn : (zipD ds es).length = min vs.length ws.length := by rw [zipD_len, q1.len, q2.len]
    refine ⟨ax, ay, vs, ws, rfl, ?_⟩
    have kp := p.kp.trans (a5.trans b5)
    cases kx with
    | true => exact .inl ⟨e1, e2, k _ _ Z4 O4 ⟨b3, st4, kp, ⟨_, _, walk_zip hn, fun Z' O' H' t => ⟨⟨(sx Z' H' t.keep t.zle).1, (sy Z' H' t.keep t.zle).1⟩, item t⟩⟩, back⟩⟩
    | false => exact .inr ⟨e1, e2, k _ _ Z4 O4 ⟨b3, st4, kp, ⟨_, _, walk_zipT hn, fun Z' O' H' t => ⟨⟨(sx Z' H' t.keep t.zle).1, (sy Z' H' t.keep t.zle).1⟩, item t⟩⟩, back⟩⟩
  · cases h4
end
end Cr
/-! # Comp: list comprehensions. -/
namespace Cr
open PySem L2 RZ
section
variable {K : PySem.W.Frag} {Z Z1 Z2 Z' Zc E : Addr → Prop} {O O1 O2 O' P P' : List Addr} {r r' r1 r2 : Rho} {σ σ' σ1 : St} {H H1 H2 H' : Hp} {os os' : List Opd} {vs vs' : List V}
theorem Cells.congr : ∀ {r : Rho} {σ σ' : St} {O : List Addr}, Cells K Z H r σ O → σ'.length = σ.length → (∀ i d st, nth r i = some (d, st) → σ'[i]? = σ[i]?) → Cells K Z H r σ' O
  | _, _, σ', _, .nil, hl, _ => by
    have : σ' = [] := List.length_eq_zero_iff.mp (by simpa using hl)
    subst this; exact .nil
  | _, _, [], _, .no c, hl, _ => by simp at hl
  | _, _, s :: σ', _, .no c, hl, h => .no (Cells.congr c (by simpa using hl) fun i d st e => by simpa using h (i + 1) d st e)
  | _, _, [], _, .lo c, hl, _ => by simp at hl
  | _, _, s :: σ', _, .lo c, hl, h => .lo (Cells.congr c (by simpa using hl) fun i d st e => by simpa using h (i + 1) d st e)
  | _, _, [], _, .own e q n c, hl, _ => by simp at hl
  | _, _, s :: σ', _, .own e q n c, hl, h => by
    have z := h 0 _ _ rfl
    simp only [List.getElem?_cons_zero, Option.some.injEq] at z
    subst z
    exact .own e q n (Cells.congr c (by simpa using hl) fun i d st e => by simpa using h (i + 1) d st e)
  | _, _, [], _, .fz q f c, hl, _ => by simp at hl
  | _, _, s :: σ', _, .fz q f c, hl, h => by
    have z := h 0 _ _ rfl
    simp only [List.getElem?_cons_zero, Option.some.injEq] at z
    subst z
    exact .fz q f (Cells.congr c (by simpa using hl) fun i d st e => by simpa using h (i + 1) d st e)
theorem nth_none : ∀ {r : Rho} {i : Nat}, r.length ≤ i → nth r i = none
  | [], _, _ => rfl
  | _ :: _, 0, h => by simp at h
  | _ :: r, i + 1, h => nth_none (r := r) (by simpa using h)
theorem wipeR_len : ∀ {l : List Nat}, (wipeR r l).length = r.length
  | [] => rfl
  | v :: l => by show (put (wipeR r l) v none).length = _; rw [put_len, wipeR_len]
theorem nth_wipeR_mem {i : Nat} : ∀ {l : List Nat}, i ∈ l → nth (wipeR r l) i = none
  | v :: l, h => by
    show nth (put (wipeR r l) v none) i = none
    by_cases e : v = i
    · subst e
      by_cases hl : v < (wipeR r l).length
      · exact nth_put_same hl
      · exact nth_none (by rw [put_len]; omega)
    · rw [nth_put_ne e]
      exact nth_wipeR_mem ((List.mem_cons.mp h).resolve_left fun q => e q.symm)
theorem nth_wipeR_not {i : Nat} : ∀ {l : List Nat}, i ∉ l → nth (wipeR r l) i = nth r i
  | [], _ => rfl
  | v :: l, h => by
    show nth (put (wipeR r l) v none) i = _
    rw [nth_put_ne fun e => h (by simp [e])]
    exact nth_wipeR_not fun q => h (List.mem_cons_of_mem _ q)
theorem nth_wipeR {i : Nat} {l : List Nat} {d : D} {st : Stt} (h : nth (wipeR r l) i = some (d, st)) : i ∉ l ∧ nth r i = some (d, st) := by
  by_cases e : i ∈ l
  · rw [nth_wipeR_mem e] at h; cases h
  · rw [nth_wipeR_not e] at h; exact ⟨e, h⟩
theorem wipe_get {i : Nat} : ∀ {l : List Nat}, i ∉ l → (wipe σ l)[i]? = σ[i]?
  | [], _ => rfl
  | v :: l, h => by
    show ((wipe σ l).set v none)[i]? = _
    rw [List.getElem?_set_ne fun e => h (by simp [e])]
    exact wipe_get fun q => h (List.mem_cons_of_mem _ q)
theorem wipe_wipe {l : List Nat} : wipe (wipe σ l) l = wipe σ l := by
  have key : ∀ (m : List Nat), (∀ v ∈ m, v ∈ l) → wipe (wipe σ l) m = wipe σ l := by
    intro m
    induction m with
    | nil => intro _; rfl
    | cons v m ih =>
      intro h
      show (wipe (wipe σ l) m).set v none = _
      rw [ih fun w hw => h w (List.mem_cons_of_mem _ hw)]
      have hv := h v List.mem_cons_self
      have none_at : ∀ (m : List Nat) {σ : St}, v ∈ m → (wipe σ m).set v none = wipe σ m := by
        intro m
        induction m with
        | nil => intro σ h; cases h
        | cons w m ih =>
          intro σ h
          show ((wipe σ m).set w none).set v none = (wipe σ m).set w none
          by_cases e : v = w
          · subst e; rw [List.set_set]
          · rw [List.set_comm _ _ (fun q => e q.symm), ih ((List.mem_cons.mp h).resolve_left e)]
      exact none_at l hv
  exact key l fun _ h => h
theorem Sta.wipe (s : Sta K Z O r σ H) : ∀ (l : List Nat), ∃ O', Sta K Z O' (wipeR r l) (wipe σ l) H ∧ ∀ a ∈ O', a ∈ O
  | [] => ⟨O, s, fun _ h => h⟩
  | v :: l => by
    obtain ⟨O', s', m⟩ := Sta.wipe s l
    show ∃ O', Sta K Z O' (put (wipeR r l) v none) ((L2.wipe σ l).set v none) H ∧ _
    by_cases hl : v < (wipeR r l).length
    · obtain ⟨F, G, A⟩ := s'.cells.at hl
      have nd := List.nodup_append.mp (A.perm.nodup_iff.mp s'.nd)
      have inG : ∀ a ∈ G, a ∈ O' := fun a h => A.perm.mem_iff.mpr (List.mem_append_right _ h)
      exact ⟨G, ⟨A.outS none, nd.2.1, fun a h => s'.sep a (inG a h), s'.zm⟩, fun a h => m a (inG a h)⟩
    · refine ⟨O', ⟨?_, s'.nd, s'.sep, s'.zm⟩, m⟩
      have e1 : put (wipeR r l) v none = wipeR r l := by
        have key : ∀ (r : Rho) (v : Nat), ¬ v < r.length → put r v none = r := by
          intro r
          induction r with
          | nil => intro _ _; rfl
          | cons c r ih =>
            intro v h
            cases v with
            | zero => simp at h
            | succ v => show c :: put r v none = _; rw [ih v (by simpa using h)]
        exact key _ _ hl
      have e2 : (L2.wipe σ l).set v none = L2.wipe σ l := by
        rw [List.set_eq_of_length_le]
        have := s'.cells.len
        omega
      rw [e1, e2]
      exact s'.cells
theorem Kp.wipe {r3 : Rho} {σw σ3 : St} {l : List Nat} (k : Kp (wipeR r1 l) r3 σw σ3) : Kp (wipeR r1 l) (wipeR r3 l) σw σw := fun i d st h => by
  obtain ⟨hn, _⟩ := nth_wipeR h
  obtain ⟨a, b, _⟩ := k i d st h
  rw [nth_wipeR_not hn]
  exact ⟨a, b, fun _ => rfl⟩
/-- a value that is kept -/
theorem Post.keep {x : Opd} {v : V} {d : D} {w : Bool} (p : Post K Z O H r σ Z1 O1 H1 r1 [x] [v] P) (h : keep x r1 = some (d, w, r2)) :
    ∃ Z2 O2 F, Sta K Z2 O2 r2 σ H1 ∧ Step Z O H Z2 O2 H1 ∧ Kp r r2 σ σ ∧ R K H1 v d F ∧ Give Z2 O2 w F (cnt d) ∧ (w = true → ∀ a ∈ F, a ∈ O ∨ H a = none) := by
  cases x with
  | val d' o =>
    simp only [Cr.keep, Option.some.injEq, Prod.mk.injEq] at h
    obtain ⟨rfl, rfl, rfl⟩ := h
    have hop := p.fly.ops
    have nd := p.fly.nd
    have out := p.fly.out
    have sep := p.fly.sep
    have fr := p.from_
    cases hop with
    | @own _ _ F _ _ _ q hn o' =>
      cases o'
      simp only [List.append_nil] at nd out sep fr
      exact ⟨Z1, O1, F, p.sta, p.step, p.kp, q, ⟨fun e => by simp at e, fun _ => ⟨nd, fun a h => ⟨out a h, sep a h⟩⟩, fun _ => hn⟩, fun _ => fr⟩
    | @fz _ _ F _ _ _ q f o' =>
      refine ⟨Z1, O1, F, p.sta, p.step, p.kp, q, ⟨fun _ => f, fun e => ?_, fun e => ?_⟩, fun e => ?_⟩
      · have z := q.imm (by simpa using e)
        subst z
        exact ⟨List.nodup_nil, nil_all⟩
      · rw [cnt_imm (by simpa using e), q.imm (by simpa using e)]; rfl
      · have z := q.imm (by simpa using e)
        subst z
        exact nil_all
  | nm i =>
    simp only [Cr.keep] at h
    cases hg : got r1 i with
    | none => rw [hg] at h; cases h
    | some y =>
      obtain ⟨d', st⟩ := y
      rw [hg] at h
      simp only at h
      have hv : σ[i]? = some (some v) := by
        have hop := p.fly.ops
        cases hop with
        | nm e _ => exact e
      by_cases hi : imm d' = true
      · rw [if_pos hi] at h
        simp only [Option.some.injEq, Prod.mk.injEq] at h
        obtain ⟨rfl, rfl, rfl⟩ := h
        obtain ⟨v', F, e, q, _⟩ := p.sta.cells.read hg
        rw [hv] at e
        cases e
        have z := q.imm hi
        subst z
        exact ⟨Z1, O1, [], p.sta, p.step, p.kp, q, ⟨fun _ => nil_all, fun _ => ⟨List.nodup_nil, nil_all⟩, fun _ => cnt_imm hi⟩, fun _ => nil_all⟩
      · rw [if_neg hi] at h
        simp only [Option.map_eq_some_iff] at h
        obtain ⟨r', hf, e⟩ := h
        simp only [Prod.mk.injEq] at e
        obtain ⟨rfl, rfl, rfl⟩ := e
        obtain ⟨Z2, O2, s2, l2, k2, a2, _⟩ := p.sta.frz1 hf
        obtain ⟨v', F, e, q, m⟩ := a2 _ _ hg
        rw [hv] at e
        cases e
        have p2 := p.lg s2 l2 k2
        exact ⟨Z2, O2, F, s2, p2.step, p2.kp, q, ⟨fun _ => m, fun e => by simp at e, fun e => by simp at e⟩, fun e => by simp at e⟩
theorem loopC_len {elt : Rho → Option (D × Bool × Rho)} {cond : Rho → Option (Bool × Rho)} {tg : D → Rho → Option Rho} {own : List Nat} : ∀ {xs : List D} {r : Rho} {acc : List D} {o : Bool} {ys : List D} {o' : Bool} {r' : Rho}, loopC elt cond tg own xs r acc o = some (ys, o', r') → acc.length ≤ ys.length
  | [], r, acc, o, ys, o', r', h => by
    simp only [loopC, Option.some.injEq, Prod.mk.injEq] at h
    rw [h.1]
    exact Nat.le_refl _
  | x :: xs, r, acc, o, ys, o', r', h => by
    simp only [loopC, Option.bind_eq_some_iff] at h
    obtain ⟨r1, _, ⟨b, r2⟩, _, h3⟩ := h
    cases b with
    | true =>
      simp only [if_true, Option.bind_eq_some_iff] at h3
      obtain ⟨⟨y, o2, r3⟩, _, h4⟩ := h3
      have := loopC_len h4
      simp only [List.length_append, List.length_cons, List.length_nil] at this
      omega
    | false =>
      simp only [Bool.false_eq_true, if_false] at h3
      exact loopC_len h3
theorem nth_restR_not {r0 : Rho} {i : Nat} : ∀ {l : List Nat}, i ∉ l → nth (restR r0 r l) i = nth r i
  | [], _ => rfl
  | v :: l, h => by
    have ih : nth (restR r0 r l) i = nth r i := nth_restR_not fun q => h (List.mem_cons_of_mem _ q)
    have hne : v ≠ i := fun e => h (by simp [e])
    unfold restR
    split
    · split
      · rw [nth_put_ne hne]; exact ih
      · exact ih
    · exact ih
theorem restR_len {r0 : Rho} : ∀ {l : List Nat}, (restR r0 r l).length = r.length
  | [] => rfl
  | v :: l => by
    unfold restR
    split
    · split
      · rw [put_len]; exact restR_len
      · exact restR_len
    · exact restR_len
theorem Sta.rest {r0 : Rho} (s : Sta K Z O r σ H) (h : ∀ i d, nth r0 i = some (d, .ow) → imm d = true → ∃ v, σ[i]? = some (some v) ∧ R K H v d []) : ∀ (l : List Nat), ∃ O', Sta K Z O' (restR r0 r l) σ H ∧ ∀ a ∈ O', a ∈ O
  | [] => ⟨O, s, fun _ h => h⟩
  | v :: l => by
    obtain ⟨O', s', m⟩ := Sta.rest s h l
    unfold restR
    split
    · rename_i d hd
      split
      · rename_i hi
        obtain ⟨w, hw, q⟩ := h v d hd hi
        have hl : v < (restR r0 r l).length := by
          rw [s'.cells.len]
          exact (List.getElem?_eq_some_iff.mp hw).1
        obtain ⟨F, G, A⟩ := s'.cells.at hl
        have nd := List.nodup_append.mp (A.perm.nodup_iff.mp s'.nd)
        have inG : ∀ a ∈ G, a ∈ O' := fun a h => A.perm.mem_iff.mpr (List.mem_append_right _ h)
        obtain ⟨O3, p3, c3⟩ := A.own d w [] .ow (.inl rfl) q (cnt_imm hi)
        rw [set_self hw] at c3
        have in3 : ∀ a ∈ O3, a ∈ G := fun a h => by simpa using p3.mem_iff.mp h
        exact ⟨O3, ⟨c3, p3.nodup_iff.mpr (by simpa using nd.2.1), fun a h => s'.sep a (inG a (in3 a h)), s'.zm⟩, fun a h => m a (inG a (in3 a h))⟩
      · exact ⟨O', s', m⟩
    · exact ⟨O', s', m⟩
/-- the list that a comprehension fills -/
structure CI (K : PySem.W.Frag) (Z1 : Addr → Prop) (O1 : List Addr) (H1 : Hp) (r1w : Rho) (σw : St) (Dl : Addr) (own : List Nat) (ri : Rho) (acc : List D) (o : Bool) (H : Hp) (Zi : Addr → Prop) (Oi : List Addr) (accV : List V) (F P : List Addr) : Prop where
  sta : Sta K Zi Oi (wipeR ri own) σw H
  step : Step Z1 O1 H1 Zi Oi H
  kp : Kp r1w (wipeR ri own) σw σw
  lst : H Dl = some (.lst accV)
  rs : Rs K H accV acc F
  fp : ∀ a ∈ F, Zi a ∨ a ∈ P
  own : o = true → (F.Nodup ∧ cnts acc = F.length) ∧ ∀ a ∈ F, a ∈ P
  nd : P.Nodup
  out : ∀ a ∈ P, a ∉ Oi
  sep : ∀ a ∈ P, ¬ Zi a
  fr : ∀ a ∈ P, a ∈ O1 ∨ H1 a = none
  mt : ∀ a ∈ P, Mt (H a)
  dO : Dl ∉ Oi
  dZ : ¬ Zi Dl
  dP : Dl ∉ P
/-- the list takes another item -/
theorem CI.more {r1w ri r4 : Rho} {σw σ2 : St} {Dl : Addr} {own : List Nat} {acc : List D} {o o' : Bool} {Zi Z4 : Addr → Prop} {Oi O4 : List Addr} {accV : List V} {F Fy : List Addr} {H0 H4 : Hp} {y : D} {v : V}
    (c : CI K Z1 O1 H1 r1w σw Dl own ri acc o H0 Zi Oi accV F P) (hD : H1 Dl = none) (s : Sta K Z4 O4 r4 σ2 H4) (st : Step Zi Oi H0 Z4 O4 H4) (k : Kp r1w r4 σw σ2) (hw : wipe σ2 own = σw) (hr1 : ∃ r0, r1w = wipeR r0 own)
    (q : R K H4 v y Fy) (g : Give Z4 O4 o' Fy (cnt y)) (gf : o' = true → ∀ a ∈ Fy, a ∈ Oi ∨ H0 a = none) :
    H4 Dl = some (.lst accV) ∧ ∃ O5 F5 P5, CI K Z1 O1 H1 r1w σw Dl own r4 (acc ++ [y]) (o && o') (upd H4 Dl (.lst (accV ++ [v]))) Z4 O5 (accV ++ [v]) F5 P5 := by
  have hlst : H4 Dl = some (.lst accV) := st.keep _ _ c.lst c.dO
  refine ⟨hlst, ?_⟩
  obtain ⟨r0, rfl⟩ := hr1
  have hDm : H0 Dl ≠ none := by rw [c.lst]; simp
  have dO4 : Dl ∉ O4 := fun h => (st.onew _ h).elim c.dO hDm
  have dZ4 : ¬ Z4 Dl := fun h => by
    rcases st.znew _ h with z | z | z
    · exact c.dZ z
    · exact c.dO z
    · exact hDm z
  have kD : Keep (fun a => a = Dl) H4 (upd H4 Dl (.lst (accV ++ [v]))) := fun a u e n => by rw [upd_ne n]; exact e
  have mD : ∀ a, a = Dl → Mt (H4 a) := fun a e => by rw [e, hlst]; trivial
  have s5 : Sta K Z4 O4 r4 σ2 (upd H4 Dl (.lst (accV ++ [v]))) := ⟨s.cells.keep kD mD (fun a z e => dZ4 (e ▸ z)) (fun _ z => z) (fun a h e => dO4 (e ▸ h)), s.nd, s.sep, fun a z => by
    rw [upd_ne (show a ≠ Dl from fun e => dZ4 (e ▸ z))]; exact s.zm a z⟩
  obtain ⟨O5, s6, m6⟩ := s5.wipe own
  rw [hw] at s6
  have outP : ∀ a ∈ P, a ∉ O4 := fun a h h' => (st.onew a h').elim (c.out a h) (c.mt a h).some
  have sepP : ∀ a ∈ P, ¬ Z4 a := fun a h z => by
    rcases st.znew a z with z | z | z
    · exact c.sep a h z
    · exact c.out a h z
    · exact (c.mt a h).some z
  have rs4 : Rs K H4 accV acc F := c.rs.keep st.keep c.sta.mo fun a h h' => (c.fp a h).elim (fun z => c.sta.sep a h' z) fun z => c.out a z h'
  have dF : ∀ a ∈ F, a ≠ Dl := fun a h e => (c.fp a h).elim (fun z => c.dZ (e ▸ z)) fun z => c.dP (e ▸ z)
  have dFy : ∀ a ∈ Fy, a ≠ Dl := fun a h e => by
    cases o' with
    | false => exact dZ4 (e ▸ g.sh rfl a h)
    | true => exact (gf rfl a h).elim (fun z => c.dO (e ▸ z)) fun z => hDm (e ▸ z)
  have rs5 : Rs K (upd H4 Dl (.lst (accV ++ [v]))) (accV ++ [v]) (acc ++ [y]) (F ++ (Fy ++ [])) := (rs4.append (.cons q .nil)).keep kD mD fun a h => (List.mem_append.mp h).elim (dF a) fun h => dFy a (by simpa using h)
  have step5 : Step Z1 O1 H1 Z4 O5 (upd H4 Dl (.lst (accV ++ [v]))) := by
    have t := c.step.trans st
    refine ⟨fun a u e n => ?_, fun a h => ?_, t.zle, t.znew, fun a h => t.onew a (m6 a h)⟩
    · rw [upd_ne (ne_of_none e hD)]; exact t.keep a u e n
    · by_cases e : a = Dl
      · rw [e, upd_same]; simp
      · rw [upd_ne e]; exact t.alloc a h
  have mtP : ∀ a ∈ P, Mt ((upd H4 Dl (.lst (accV ++ [v]))) a) := fun a h => by
    rw [upd_ne (show a ≠ Dl from fun e => c.dP (e ▸ h))]
    have m := c.mt a h
    cases e : H0 a with
    | none => rw [e] at m; cases m
    | some u => rw [st.keep a u e (c.out a h)]; rw [e] at m; exact m
  cases o' with
  | false =>
    refine ⟨O5, _, P, s6, step5, k.wipe, upd_same, rs5, fun a h => ?_, fun e => by simp at e, c.nd, fun a h h' => outP a h (m6 a h'), sepP, c.fr, mtP, fun h => dO4 (m6 _ h), dZ4, c.dP⟩
    rcases List.mem_append.mp h with h | h
    · exact (c.fp a h).imp (st.zle a) id
    · exact .inl (g.sh rfl a (by simpa using h))
  | true =>
    obtain ⟨ndy, gy⟩ := g.own rfl
    have dj : ∀ a ∈ P, ∀ b ∈ Fy, a ≠ b := fun a h b hb e => (gf rfl b hb).elim (fun z => c.out a h (e ▸ z)) fun z => (c.mt a h).some (e ▸ z)
    refine ⟨O5, _, P ++ Fy, s6, step5, k.wipe, upd_same, rs5, fun a h => ?_, fun e => ?_, List.nodup_append.mpr ⟨c.nd, ndy, dj⟩, fun a h h' => ?_, fun a h => ?_, fun a h => ?_, fun a h => ?_, fun h => dO4 (m6 _ h), dZ4, fun h => ?_⟩
    · rcases List.mem_append.mp h with h | h
      · exact (c.fp a h).imp (st.zle a) (List.mem_append_left _)
      · exact .inr (List.mem_append_right _ (by simpa using h))
    · have ho : o = true := by simpa using e
      obtain ⟨⟨n1, n3⟩, n2⟩ := c.own ho
      refine ⟨⟨?_, ?_⟩, fun a h => ?_⟩
      rotate_left
      · have e1 : ∀ l : List D, cnts (l ++ [y]) = cnts l + cnt y := fun l => by
          induction l with
          | nil => simp [cnts]
          | cons x l ih => rw [List.cons_append, cnts, ih, cnts]; omega
        rw [e1, n3, g.num rfl]; simp
      rotate_left
      · rw [List.append_nil]
        exact List.nodup_append.mpr ⟨n1, ndy, fun a h b hb => dj a (n2 a h) b hb⟩
      · rcases List.mem_append.mp h with h | h
        · exact List.mem_append_left _ (n2 a h)
        · exact List.mem_append_right _ (by simpa using h)
    · exact (List.mem_append.mp h).elim (fun h => outP a h (m6 a h')) fun h => (gy a h).1 (m6 a h')
    · exact (List.mem_append.mp h).elim (sepP a) fun h => (gy a h).2
    · rcases List.mem_append.mp h with h | h
      · exact c.fr a h
      · rcases gf rfl a h with z | z
        · exact c.step.onew a z
        · exact .inr (c.step.none z)
    · rcases List.mem_append.mp h with h | h
      · exact mtP a h
      · rw [upd_ne (dFy a h)]; exact q.mt a h
    · exact (List.mem_append.mp h).elim c.dP fun h => dFy _ h rfl
/-- the list stays as it is -/
theorem CI.same {r1w ri r4 : Rho} {σw σ2 : St} {Dl : Addr} {own : List Nat} {acc : List D} {o : Bool} {Zi Z4 : Addr → Prop} {Oi O4 : List Addr} {accV : List V} {F : List Addr} {H0 H4 : Hp}
    (c : CI K Z1 O1 H1 r1w σw Dl own ri acc o H0 Zi Oi accV F P) (s : Sta K Z4 O4 r4 σ2 H4) (st : Step Zi Oi H0 Z4 O4 H4) (k : Kp r1w r4 σw σ2) (hw : wipe σ2 own = σw) (hr1 : ∃ r0, r1w = wipeR r0 own) :
    ∃ O5, CI K Z1 O1 H1 r1w σw Dl own r4 acc o H4 Z4 O5 accV F P := by
  obtain ⟨r0, rfl⟩ := hr1
  obtain ⟨O5, s6, m6⟩ := s.wipe own
  rw [hw] at s6
  have hDm : H0 Dl ≠ none := by rw [c.lst]; simp
  have t := c.step.trans st
  refine ⟨O5, s6, ⟨t.keep, t.alloc, t.zle, t.znew, fun a h => t.onew a (m6 a h)⟩, k.wipe, st.keep _ _ c.lst c.dO, c.rs.keep st.keep c.sta.mo fun a h h' => (c.fp a h).elim (fun z => c.sta.sep a h' z) fun z => c.out a z h',
    fun a h => (c.fp a h).imp (st.zle a) id, c.own, c.nd, fun a h h' => (st.onew a (m6 a h')).elim (c.out a h) (c.mt a h).some, fun a h z => ?_, c.fr, fun a h => ?_, fun h => (st.onew _ (m6 _ h)).elim c.dO hDm, fun h => ?_, c.dP⟩
  · rcases st.znew a z with z | z | z
    · exact c.sep a h z
    · exact c.out a h z
    · exact (c.mt a h).some z
  · have m := c.mt a h
    cases e : H0 a with
    | none => rw [e] at m; cases m
    | some u => rw [st.keep a u e (c.out a h)]; rw [e] at m; exact m
  · rcases st.znew _ h with z | z | z
    · exact c.dZ z
    · exact c.dO z
    · exact hDm z
theorem opens_inv {l : List Nat} (h : opens r l = true) {i : Nat} (hi : i ∈ l) {d : D} {st : Stt} (hn : nth r i = some (d, st)) : st ≠ .pn ∧ st ≠ .lo := by
  have := (List.all_eq_true.mp h) i hi
  unfold open1 at this
  rw [Bool.and_eq_true, hn] at this
  cases st <;> simp at this ⊢
theorem good_comp {wi : TI} {g : TG} {tt : TT} {te : TE} {fi : Rho → Option (List D × Rho × (Rho → Rho))} {fc : Rho → Option (Bool × Rho)} {fe : Rho → Option (Opd × Rho)} {fg : Bool → D → Rho → Option Rho} {l own : List Nat}
    (hi : GoodI K wi fi) (hg : GoodG K g l fg) (hl : ∀ i ∈ l, i ∈ own) (ht : GoodT K tt fc) (he : Good K te fe) :
    Good K (tLc wi g tt te own) (fun r => (fi r).bind fun (xs, r1, back) => if opens r1 own then
      (loopC (fun r => (fe r).bind fun (o, r') => keep o r') (fun r => fc r) (fg false) own xs r1 [] true).bind fun (ys, o, r2) =>
        if small ys.length then some (.val (.list ys) o, back (restR r1 (wipeR r2 own) own)) else none
      else none) := by
  intro r σ H Z O Q s x r' h k
  simp only [Option.bind_eq_some_iff] at h
  obtain ⟨⟨xs, r1, back⟩, h1, h⟩ := h
  split at h
  · rename_i hop
    simp only [Option.bind_eq_some_iff] at h
    obtain ⟨⟨ys, of, r2⟩, h2, h3⟩ := h
    split at h3
    · rename_i hsm
      have hsm : ys.length ≤ 1000000 := of_decide_eq_true hsm
      cases h3
      refine hi r σ H Z O _ s xs r1 back h1 fun J H1 Z1 O1 ie Dl hD => ?_
      obtain ⟨G, Y, wk, hw⟩ := ie.wk
      refine lc_it wk (fun i H => ∃ ri acc o Zi Oi accV F P, CI K Z1 O1 H1 (wipeR r1 own) (wipe σ own) Dl own ri acc o H Zi Oi accV F P ∧ loopC (fun r => (fe r).bind fun (o, r') => keep o r') (fun r => fc r) (fg false) own (xs.drop i) ri acc o = some (ys, of, r2)) ?_ ?_ ?_ ?_
      · obtain ⟨O2, s2, m2⟩ := ie.sta.wipe own
        have kk : Keep (fun _ => False) H1 (upd H1 Dl (.lst [])) := Keep.upd hD
        refine ⟨r1, [], true, Z1, O2, [], [], [], ⟨s2.heap kk, ⟨fun a u e n => kk.no e, fun a h => ?_, fun _ z => z, fun _ z => .inl z, fun a h => .inl (m2 a h)⟩, .refl, upd_same, .nil, nil_all, fun _ => ⟨⟨List.nodup_nil, rfl⟩, nil_all⟩, List.nodup_nil, nil_all, nil_all, nil_all, nil_all, fun h => (ie.sta.mo _ (m2 _ h)).some hD, fun z => (ie.sta.zm _ z).some hD, fun h => by cases h⟩, h2⟩
        exact (kk.step (Z := Z) (O := O)).alloc a h
      · rintro i H _ ⟨ri, acc, o, Zi, Oi, accV, F, P, c, _⟩
        exact (hw Zi Oi H c.step).1
      · rintro i x H H' hi' ⟨ri, acc, o, Zi, Oi, accV, F, P, c, hloop⟩ hy
        rw [List.drop_eq_getElem_cons hi'] at hloop
        simp only [loopC, Option.bind_eq_some_iff] at hloop
        obtain ⟨r3, e3, ⟨b, r4⟩, e4, hrest⟩ := hloop
        obtain ⟨kk, Fx, qx, fx⟩ := (hw Zi Oi H c.step).2 i xs[i] x H' (List.getElem?_eq_getElem hi') hy
        refine hg _ r3 _ H' Zi Oi Fx x xs[i] false _ (c.sta.heap kk) qx ⟨fun _ => fx, fun e => (by cases e), fun e => (by cases e)⟩ e3 fun σ3 O3 s3 m3 k3 on3 => ⟨?_, ?_⟩
        · exact (on3 own hl).trans wipe_wipe
        have hw3 : wipe σ3 own = wipe σ own := (on3 own hl).trans wipe_wipe
        have st3 : Step Zi Oi H Zi O3 H' := ⟨fun a u e n => kk.no e, (kk.step (Z := Zi) (O := Oi)).alloc, fun _ z => z, fun _ z => .inl z, fun a h => (m3 a h).elim .inl fun h => by cases h.1⟩
        refine ht r3 σ3 H' Zi O3 _ s3 b r4 e4 fun H4 Z4 O4 p4 => ?_
        have st4 := st3.trans p4.step
        have k4 := c.kp.trans (k3.trans p4.kp)
        cases b with
        | false =>
          simp only [Bool.false_eq_true, if_false] at hrest ⊢
          obtain ⟨O5, c5⟩ := c.same p4.sta st4 k4 hw3 ⟨r1, rfl⟩
          exact ⟨r4, acc, o, Z4, O5, accV, F, P, c5, hrest⟩
        | true =>
          simp only [if_true, Option.bind_eq_some_iff] at hrest ⊢
          obtain ⟨⟨y, o', r6⟩, ⟨⟨ox, r5⟩, e5, e6⟩, hrest⟩ := hrest
          refine he r4 σ3 H4 Z4 O4 _ p4.sta ox r5 e5 fun v H5 Z5 O5 P5 p5 => ?_
          obtain ⟨Z6, O6, F6, s6, st6, k6, q6, g6, f6⟩ := p5.keep e6
          have st7 := st4.trans st6
          obtain ⟨e7, O7, F7, P7, c7⟩ := c.more hD s6 st7 (k4.trans k6) hw3 ⟨r1, rfl⟩ q6 g6 fun e a h => (f6 e a h).elim (st4.onew a) fun z => .inr (st4.none z)
          refine ⟨accV, e7, ?_, r6, _, _, Z6, O7, _, F7, P7, c7, hrest⟩
          have l1 := loopC_len hrest
          have l2 := c.rs.len
          simp only [List.length_append, List.length_cons, List.length_nil] at l1
          have : (1000000 : Nat) < sizeLine := by decide
          omega
      · rintro H2 ⟨ri, acc, o, Zi, Oi, accV, F, P, c, hloop⟩
        rw [List.drop_eq_nil_of_le (Nat.le_refl _)] at hloop
        simp only [loopC, Option.some.injEq, Prod.mk.injEq] at hloop
        obtain ⟨rfl, rfl, rfl⟩ := hloop
        -- back to the def's slots
        have s3 : Sta K Zi Oi (wipeR ri own) σ H2 := ⟨c.sta.cells.congr (by rw [wipe_length]) fun i d st e => (wipe_get (nth_wipeR e).1).symm, c.sta.nd, c.sta.sep, c.sta.zm⟩
        obtain ⟨O4, s4, m4⟩ := s3.rest (r0 := r1) (fun i d hn hi => by
          obtain ⟨v, F', e, q, _⟩ := ie.sta.cells.read (i := i) (d := d) (st := .ow) (by unfold got; rw [hn])
          have z := q.imm hi
          subst z
          exact ⟨v, e, q.keep c.step.keep ie.sta.mo nil_all⟩) own
        have kp4 : Kp r1 (restR r1 (wipeR ri own) own) σ σ := fun i d st hn => by
          by_cases hs : st = .pn ∨ st = .lo
          · have hni : i ∉ own := fun hi => by
              obtain ⟨a, b⟩ := opens_inv hop hi hn
              exact hs.elim a b
            obtain ⟨a, b, _⟩ := c.kp i d st (by rw [nth_wipeR_not hni]; exact hn)
            rw [nth_restR_not hni]
            exact ⟨a, b, fun _ => rfl⟩
          · exact ⟨fun e => absurd (.inl e) hs, fun e => absurd (.inr e) hs, fun _ => rfl⟩
        have st4 : Step Z1 O1 H1 Zi O4 H2 := ⟨c.step.keep, c.step.alloc, c.step.zle, c.step.znew, fun a h => c.step.onew a (m4 a h)⟩
        obtain ⟨O5, s5, st5, k5, m5⟩ := ie.back _ σ H2 Zi O4 s4 st4 kp4
        have dm : H2 Dl ≠ none := by rw [c.lst]; simp
        have dO5 : Dl ∉ O5 := fun h => (m5 _ h).elim (fun h => c.dO (m4 _ h)) fun h => h.2 hD
        have pO5 : ∀ a ∈ P, a ∉ O5 := fun a h h' => (m5 _ h').elim (fun h' => c.out a h (m4 _ h')) fun h' => (c.fr a h).elim h'.1 h'.2
        have fr5 : ∀ a ∈ P, a ∈ O ∨ H a = none := fun a h => (c.fr a h).elim (ie.step.onew a) fun z => .inr (ie.step.none z)
        cases o with
        | true =>
          obtain ⟨⟨n1, n3⟩, n2⟩ := c.own rfl
          have dF : Dl ∉ F := fun h => c.dP (n2 _ h)
          refine k _ H2 Zi O5 (Dl :: F) ⟨s5, st5, k5, ⟨by simpa using Ops.own (σ := σ) (Z := Zi) (.lst c.lst c.rs) (by rw [cnt, n3, List.length_cons]) .nil, List.nodup_cons.mpr ⟨dF, n1⟩, fun a h => ?_, fun a h => ?_⟩, fun a h => ?_⟩
          · rcases List.mem_cons.mp h with rfl | h
            · exact dO5
            · exact pO5 a (n2 a h)
          · rcases List.mem_cons.mp h with rfl | h
            · exact c.dZ
            · exact c.sep a (n2 a h)
          · rcases List.mem_cons.mp h with rfl | h
            · exact .inr (ie.step.none hD)
            · exact fr5 a (n2 a h)
        | false =>
          have hE : ∀ a, (a ∈ P ∨ a = Dl) → a ∉ O5 := fun a h => h.elim (pO5 a) fun e => e ▸ dO5
          have s6 := s5.zmore (E := fun a => a ∈ P ∨ a = Dl) hE fun a h => h.elim (c.mt a) fun e => by rw [e, c.lst]; trivial
          refine k _ H2 _ O5 [] ⟨s6, ⟨st5.keep, st5.alloc, fun a z => .inl (st5.zle a z), fun a z => ?_, st5.onew⟩, k5, ⟨.fz (.lst c.lst c.rs) (fun a h => ?_) .nil, List.nodup_nil, nil_all, nil_all⟩, nil_all⟩
          · rcases z with z | z | rfl
            · exact st5.znew a z
            · exact .inr (fr5 a z)
            · exact .inr (.inr (ie.step.none hD))
          · rcases List.mem_cons.mp h with rfl | h
            · exact .inr (.inr rfl)
            · exact (c.fp a h).imp id .inl
    · cases h3
  · cases h
end
end Cr
/-! # Stm: statements. -/
namespace Cr
open PySem L2 RZ
section
variable {K : PySem.W.Frag} {Z Z1 Z2 Z' Zc E : Addr → Prop} {O O1 O2 O' P P' : List Addr} {r r' r1 r2 : Rho} {σ σ' σ1 : St} {H H1 H2 H' : Hp} {os os' : List Opd} {vs vs' : List V}
def Ok (K : PySem.W.Frag) (Z : Addr → Prop) (O : List Addr) (H : Hp) (r : Rho) (σ : St) (r' : Rho) (N : St → Hp → Prop) : Prop := ∀ Z' O' H' σ', Sta K Z' O' r' σ' H' → Step Z O H Z' O' H' → Kp r r' σ σ' → N σ' H'
def OkR (K : PySem.W.Frag) (Z : Addr → Prop) (O : List Addr) (H : Hp) (r : Rho) (σ : St) (r' : Rho) (d : D) (o : Bool) (N : VK) : Prop := ∀ Z' O' H' σ' v P, Sta K Z' O' r' σ' H' → Step Z O H Z' O' H' → Kp r r' σ σ' →
  Fly K Z' O' H' σ' [.val d o] [v] P → (∀ a ∈ P, a ∈ O ∨ H a = none) → N v H'
/-- what is wanted behind a statement is right for what the evaluator says -/
def EndsOk (K : PySem.W.Frag) (Z : Addr → Prop) (O : List Addr) (H : Hp) (r : Rho) (σ : St) (D : Ends) (r' : Rho) : Fl → Prop
  | .nx => Ok K Z O H r σ r' D.nx
  | .bk => Ok K Z O H r σ r' D.bk
  | .ct => Ok K Z O H r σ r' D.ct
  | .rt d o => OkR K Z O H r σ r' d o D.rt
def GoodS (K : PySem.W.Frag) (t : TS) (f : Rho → Option (Rho × Fl)) : Prop := ∀ (r : Rho) (σ : St) (H : Hp) (Z : Addr → Prop) (O : List Addr) (D : Ends), Sta K Z O r σ H → ∀ r' fl, f r = some (r', fl) → EndsOk K Z O H r σ D r' fl → t D σ H
theorem Ok.after {N : St → Hp → Prop} (h : Ok K Z O H r σ r' N) (st : Step Z O H Z1 O1 H1) (k : Kp r r1 σ σ1) : Ok K Z1 O1 H1 r1 σ1 r' N := fun Z' O' H' σ' s' st' k' => h Z' O' H' σ' s' (st.trans st') (k.trans k')
theorem OkR.after {N : VK} {d : D} {o : Bool} (h : OkR K Z O H r σ r' d o N) (st : Step Z O H Z1 O1 H1) (k : Kp r r1 σ σ1) : OkR K Z1 O1 H1 r1 σ1 r' d o N := fun Z' O' H' σ' v P s' st' k' f m =>
  h Z' O' H' σ' v P s' (st.trans st') (k.trans k') f fun a ha => (m a ha).elim (st.onew a) fun z => .inr (st.none z)
theorem EndsOk.after {D : Ends} {fl : Fl} (h : EndsOk K Z O H r σ D r' fl) (st : Step Z O H Z1 O1 H1) (k : Kp r r1 σ σ1) : EndsOk K Z1 O1 H1 r1 σ1 D r' fl := by
  cases fl with
  | nx => exact Ok.after h st k
  | bk => exact Ok.after h st k
  | ct => exact Ok.after h st k
  | rt d o => exact OkR.after h st k
theorem GoodS.eq {t : TS} {f g : Rho → Option (Rho × Fl)} (h : GoodS K t f) (e : ∀ r x, g r = some x → f r = some x) : GoodS K t g := fun r σ H Z O D s r' fl hg k => h r σ H Z O D s r' fl (e r _ hg) k
theorem goodS_nil : GoodS K tNext (fun r => some (r, .nx)) := by
  intro r σ H Z O D s r' fl h k
  cases h
  exact k Z O H σ s .refl .refl
theorem goodS_brk : GoodS K tBreak (fun r => some (r, .bk)) := by
  intro r σ H Z O D s r' fl h k
  cases h
  exact k Z O H σ s .refl .refl
theorem goodS_cnt : GoodS K tCont (fun r => some (r, .ct)) := by
  intro r σ H Z O D s r' fl h k
  cases h
  exact k Z O H σ s .refl .refl
theorem goodS_never {t : TS} : GoodS K t (fun _ => none) := by
  intro r σ H Z O D s r' fl h k
  cases h
theorem goodS_seq {t u : TS} {f g : Rho → Option (Rho × Fl)} (ht : GoodS K t f) (hu : GoodS K u g) : GoodS K (tSeq t u) (fun r => (f r).bind fun (r1, fl) => match fl with
      | .nx => g r1
      | fl => some (r1, fl)) := by
  intro r σ H Z O D s r' fl h k
  simp only [Option.bind_eq_some_iff] at h
  obtain ⟨⟨r1, f1⟩, h1, h2⟩ := h
  refine ht r σ H Z O _ s r1 f1 h1 ?_
  cases f1 with
  | nx =>
    intro Z1 O1 H1 σ1 s1 st1 k1
    exact hu r1 σ1 H1 Z1 O1 D s1 r' fl h2 (k.after st1 k1)
  | bk => cases h2; exact k
  | ct => cases h2; exact k
  | rt d o => cases h2; exact k
theorem goodS_if {c : TT} {t u : TS} {fc : Rho → Option (Bool × Rho)} {f g : Rho → Option (Rho × Fl)} (hc : GoodT K c fc) (ht : GoodS K t f) (hu : GoodS K u g) : GoodS K (tIfS c t u) (fun r => (fc r).bind fun (k, r1) => if k then f r1 else g r1) := by
  intro r σ H Z O D s r' fl h k
  simp only [Option.bind_eq_some_iff] at h
  obtain ⟨⟨b, r1⟩, h1, h2⟩ := h
  refine hc r σ H Z O _ s b r1 h1 fun H1 Z1 O1 p => ?_
  cases b with
  | true =>
    simp only [if_true] at h2 ⊢
    exact ht r1 σ H1 Z1 O1 D p.sta r' fl h2 (k.after p.step p.kp)
  | false =>
    simp only [Bool.false_eq_true, if_false] at h2 ⊢
    exact hu r1 σ H1 Z1 O1 D p.sta r' fl h2 (k.after p.step p.kp)
theorem goodS_drop {te : TE} {f : Rho → Option (Opd × Rho)} (he : Good K te f) : GoodS K (tDrop te) (fun r => (f r).map fun (_, r1) => (r1, .nx)) := by
  intro r σ H Z O D s r' fl h k
  simp only [Option.map_eq_some_iff] at h
  obtain ⟨⟨x, r1⟩, h1, e⟩ := h
  cases e
  exact he r σ H Z O _ s x _ h1 fun v H1 Z1 O1 P p => k Z1 O1 H1 σ p.sta p.step p.kp
/-- a target gets a value that is kept -/
theorem goodS_asg {te : TE} {g : TG} {l : List Nat} {f : Rho → Option (Opd × Rho)} {fg : Bool → D → Rho → Option Rho} (he : Good K te f) (hg : GoodG K g l fg) : GoodS K (tAsg te g) (fun r => (f r).bind fun (o, r1) => (keep o r1).bind fun (d, w, r2) => (fg w d r2).map fun r3 => (r3, .nx)) := by
  intro r σ H Z O D s r' fl h k
  simp only [Option.bind_eq_some_iff, Option.map_eq_some_iff] at h
  obtain ⟨⟨o, r1⟩, h1, ⟨d, w, r2⟩, h2, r3, h3, e⟩ := h
  cases e
  refine he r σ H Z O _ s o r1 h1 fun v H1 Z1 O1 P p => ?_
  obtain ⟨Z2, O2, F, s2, st2, k2, q, g2, f2⟩ := p.keep h2
  refine hg r2 _ σ H1 Z2 O2 F v d w _ s2 q g2 h3 fun σ3 O3 s3 m3 k3 _ => ?_
  exact k Z2 O3 H1 σ3 s3 ⟨st2.keep, st2.alloc, st2.zle, st2.znew, fun a h => (m3 a h).elim (st2.onew a) fun h => f2 h.1 a h.2⟩ (k2.trans k3)
/-- the value of a name or of an expression goes out -/
theorem goodS_ret {te : TE} {f : Rho → Option (Opd × Rho)} (he : Good K te f) : GoodS K (tRet te) (fun r => (f r).bind fun (o, r1) => (retO o r1).map fun (d, w, r2) => (r2, .rt d w)) := by
  intro r σ H Z O D s r' fl h k
  simp only [Option.bind_eq_some_iff, Option.map_eq_some_iff] at h
  obtain ⟨⟨o, r1⟩, h1, ⟨d, w, r2⟩, h2, e⟩ := h
  cases e
  refine he r σ H Z O _ s o r1 h1 fun v H1 Z1 O1 P p => ?_
  cases o with
  | val d' o' =>
    simp only [retO, Option.some.injEq, Prod.mk.injEq] at h2
    obtain ⟨rfl, rfl, rfl⟩ := h2
    have hop := p.fly.ops
    have nd := p.fly.nd
    have out := p.fly.out
    have sep := p.fly.sep
    have fr := p.from_
    cases hop with
    | @own _ _ F _ _ _ q hcn o2 =>
      cases o2
      simp only [List.append_nil] at nd out sep fr
      exact k Z1 O1 H1 σ v F p.sta p.step p.kp ⟨by simpa using Ops.own (σ := σ) (Z := Z1) q hcn .nil, nd, out, sep⟩ fr
    | @fz _ _ F _ _ _ q f' o2 =>
      cases o2
      by_cases hi : imm d' = true
      · have z := q.imm hi
        subst z
        refine k Z1 O1 H1 σ v [] p.sta p.step p.kp ⟨?_, List.nodup_nil, nil_all, nil_all⟩ nil_all
        rw [hi]
        exact .own q (cnt_imm hi) .nil
      · have hi' : imm d' = false := by simpa using hi
        refine k Z1 O1 H1 σ v [] p.sta p.step p.kp ⟨?_, List.nodup_nil, nil_all, nil_all⟩ nil_all
        rw [hi']
        exact .fz q f' .nil
  | nm i =>
    have hv : σ[i]? = some (some v) := by
      have hop := p.fly.ops
      cases hop with
      | nm e _ => exact e
    simp only [retO] at h2
    cases hg : got r1 i with
    | none => rw [hg] at h2; cases h2
    | some y =>
      obtain ⟨d', st⟩ := y
      rw [hg] at h2
      simp only at h2
      obtain ⟨hn, hlo⟩ := got_nth hg
      obtain ⟨F0, G, A⟩ := p.sta.cells.at (nth_lt hn)
      obtain ⟨v', F', e', q, z1, z2⟩ := A.rd d' st hn hlo
      rw [hv] at e'
      cases e'
      by_cases hi : imm d' = true
      · rw [if_pos hi] at h2
        simp only [Option.some.injEq, Prod.mk.injEq] at h2
        obtain ⟨rfl, rfl, rfl⟩ := h2
        have z := q.imm hi
        subst z
        exact k Z1 O1 H1 σ v [] p.sta p.step p.kp ⟨.own q (cnt_imm hi) .nil, List.nodup_nil, nil_all, nil_all⟩ nil_all
      · rw [if_neg hi] at h2
        cases st with
        | ow =>
          simp only [Option.some.injEq, Prod.mk.injEq] at h2
          obtain ⟨rfl, rfl, rfl⟩ := h2
          have hF : F0 = F' := (z2 (by decide)).1
          have hcn := (z2 (by decide)).2
          subst hF
          have nd := List.nodup_append.mp (A.perm.nodup_iff.mp p.sta.nd)
          have inO : ∀ a, a ∈ F0 ∨ a ∈ G → a ∈ O1 := fun a h => A.perm.mem_iff.mpr (List.mem_append.mpr h)
          refine k Z1 G H1 σ v F0 ⟨A.out, nd.2.1, fun a h => p.sta.sep a (inO a (.inr h)), p.sta.zm⟩ ⟨p.step.keep, p.step.alloc, p.step.zle, p.step.znew, fun a h => p.step.onew a (inO a (.inr h))⟩
            (p.kp.trans (Kp.put0 fun d2 st2 h2 => by rw [hn] at h2; cases h2; exact ⟨by decide, by decide⟩)) ⟨by simpa using Ops.own (σ := σ) (Z := Z1) q hcn .nil, nd.1, fun a h h' => nd.2.2 a h a h' rfl, fun a h => p.sta.sep a (inO a (.inl h))⟩ fun a h => p.step.onew a (inO a (.inl h))
        | fz =>
          simp only [Option.some.injEq, Prod.mk.injEq] at h2
          obtain ⟨rfl, rfl, rfl⟩ := h2
          exact k Z1 O1 H1 σ v [] p.sta p.step p.kp ⟨.fz q (z1 rfl) .nil, List.nodup_nil, nil_all, nil_all⟩ nil_all
        | pn => cases h2
        | lo => cases h2
theorem goodS_retN : GoodS K tRetN (fun r => some (r, .rt .none true)) := by
  intro r σ H Z O D s r' fl h k
  cases h
  exact k Z O H σ .non [] s .refl .refl ⟨.own .non rfl .nil, List.nodup_nil, nil_all, nil_all⟩ nil_all
/-- a for -/
theorem goodS_for {wi : TI} {g : TG} {tb : TS} {fi : Rho → Option (List D × Rho × (Rho → Rho))} {fb : Rho → Option (Rho × Fl)} {fg : Bool → D → Rho → Option Rho} {l : List Nat} (hi : GoodI K wi fi) (hg : GoodG K g l fg) (hb : GoodS K tb fb) :
    GoodS K (tFor wi g tb) (fun r => (fi r).bind fun (xs, r1, back) => (forL fb (fg false) xs r1).map fun (r2, f) => (back r2, f)) := by
  intro r σ H Z O D s r' fl h k
  simp only [Option.bind_eq_some_iff, Option.map_eq_some_iff] at h
  obtain ⟨⟨xs, r1, back⟩, h1, ⟨r2, f2⟩, h2, e⟩ := h
  simp only [Prod.mk.injEq] at e
  obtain ⟨rfl, rfl⟩ := e
  refine hi r σ H Z O _ s xs r1 back h1 fun J H1 Z1 O1 ie => ?_
  obtain ⟨G, Y, wk, hw⟩ := ie.wk
  refine for_it wk (fun i σ2 H2 => ∃ ri Zi Oi, Sta K Zi Oi ri σ2 H2 ∧ Step Z1 O1 H1 Zi Oi H2 ∧ Kp r1 ri σ σ2 ∧ forL fb (fg false) (xs.drop i) ri = some (r2, f2)) ⟨r1, Z1, O1, ie.sta, .refl, .refl, h2⟩ ?_ ?_ ?_
  · rintro i σ2 H2 _ ⟨ri, Zi, Oi, si, sti, ki, _⟩
    exact (hw Zi Oi H2 sti).1
  · rintro i x σ2 H2 H3 hi' ⟨ri, Zi, Oi, si, sti, ki, hl⟩ hy
    rw [List.drop_eq_getElem_cons hi'] at hl
    simp only [forL, Option.bind_eq_some_iff] at hl
    obtain ⟨r3, e3, ⟨r4, f4⟩, e4, hrest⟩ := hl
    obtain ⟨kk, Fx, qx, fx⟩ := (hw Zi Oi H2 sti).2 i xs[i] x H3 (List.getElem?_eq_getElem hi') hy
    refine hg _ r3 _ H3 Zi Oi Fx x xs[i] false _ (si.heap kk) qx ⟨fun _ => fx, fun e => (by cases e), fun e => (by cases e)⟩ e3 fun σ3 O3 s3 m3 k3 on3 => ?_
    have st3 : Step Zi Oi H2 Zi O3 H3 := ⟨fun a u e n => kk.no e, (kk.step (Z := Zi) (O := Oi)).alloc, fun _ z => z, fun _ z => .inl z, fun a h => (m3 a h).elim .inl fun h => by cases h.1⟩
    have st4 := sti.trans st3
    have k4 := ki.trans k3
    refine hb r3 σ3 H3 Zi O3 _ s3 r4 f4 e4 ?_
    cases f4 with
    | nx => exact fun Z5 O5 H5 σ5 s5 st5 k5 => ⟨r4, Z5, O5, s5, st4.trans st5, k4.trans k5, hrest⟩
    | ct => exact fun Z5 O5 H5 σ5 s5 st5 k5 => ⟨r4, Z5, O5, s5, st4.trans st5, k4.trans k5, hrest⟩
    | bk =>
      cases hrest
      intro Z5 O5 H5 σ5 s5 st5 k5
      obtain ⟨O6, s6, st6, k6, _⟩ := ie.back _ σ5 H5 Z5 O5 s5 (st4.trans st5) (k4.trans k5)
      exact k Z5 O6 H5 σ5 s6 st6 k6
    | rt d o =>
      cases hrest
      intro Z5 O5 H5 σ5 v P s5 st5 k5 fl5 m5
      have t := st4.trans st5
      obtain ⟨O6, s6, st6, k6, m6⟩ := ie.back _ σ5 H5 Z5 O5 s5 t (k4.trans k5)
      have fr : ∀ a ∈ P, a ∈ O1 ∨ H1 a = none := fun a h => (m5 a h).elim (st4.onew a) fun z => .inr (st4.none z)
      exact k Z5 O6 H5 σ5 v P s6 st6 k6 ⟨fl5.ops, fl5.nd, fun a h h' => (m6 a h').elim (fl5.out a h) fun h' => (fr a h).elim h'.1 h'.2, fl5.sep⟩ fun a h => (fr a h).elim (ie.step.onew a) fun z => .inr (ie.step.none z)
  · rintro σ2 H2 ⟨ri, Zi, Oi, si, sti, ki, hl⟩
    rw [List.drop_eq_nil_of_le (Nat.le_refl _)] at hl
    simp only [forL, Option.some.injEq, Prod.mk.injEq] at hl
    obtain ⟨rfl, rfl⟩ := hl
    obtain ⟨O6, s6, st6, k6, _⟩ := ie.back _ σ2 H2 Zi Oi si sti ki
    exact k Zi O6 H2 σ2 s6 st6 k6
/-- a while -/
theorem goodS_while {tc : TT} {tb : TS} {fc : Rho → Option (Bool × Rho)} {fb : Rho → Option (Rho × Fl)} {n : Nat} (hc : GoodT K tc fc) (hb : GoodS K tb fb) : GoodS K (tWhile tc tb) (fun r => whileL fc fb n r) := by
  intro r σ H Z O D s r' fl h k
  refine ⟨fun m σ2 H2 => ∃ ri Zi Oi, Sta K Zi Oi ri σ2 H2 ∧ Step Z O H Zi Oi H2 ∧ Kp r ri σ σ2 ∧ whileL fc fb m ri = some (r', fl), ⟨n, r, Z, O, s, .refl, .refl, h⟩, ?_⟩
  rintro m σ2 H2 ⟨ri, Zi, Oi, si, sti, ki, hl⟩
  cases m with
  | zero => simp [whileL] at hl
  | succ m =>
    simp only [whileL, Option.bind_eq_some_iff] at hl
    obtain ⟨⟨b, r1⟩, e1, hl⟩ := hl
    refine hc ri σ2 H2 Zi Oi _ si b r1 e1 fun H3 Z3 O3 p => ?_
    have st3 := sti.trans p.step
    have k3 := ki.trans p.kp
    cases b with
    | false =>
      simp only [Bool.false_eq_true, if_false] at hl ⊢
      cases hl
      exact k Z3 O3 H3 σ2 p.sta st3 k3
    | true =>
      simp only [if_true, Option.bind_eq_some_iff] at hl ⊢
      obtain ⟨⟨r4, f4⟩, e4, hrest⟩ := hl
      refine ⟨fun σ4 H4 => ∃ ri Zi Oi, Sta K Zi Oi ri σ4 H4 ∧ Step Z O H Zi Oi H4 ∧ Kp r ri σ σ4 ∧ whileL fc fb m ri = some (r', fl), fun σ' H' w => ⟨m, Nat.lt_succ_self m, w⟩, hb r1 σ2 H3 Z3 O3 _ p.sta r4 f4 e4 ?_⟩
      cases f4 with
      | nx => exact fun Z5 O5 H5 σ5 s5 st5 k5 => ⟨r4, Z5, O5, s5, st3.trans st5, k3.trans k5, hrest⟩
      | ct => exact fun Z5 O5 H5 σ5 s5 st5 k5 => ⟨r4, Z5, O5, s5, st3.trans st5, k3.trans k5, hrest⟩
      | bk =>
        cases hrest
        exact Ok.after k st3 k3
      | rt d o =>
        cases hrest
        exact OkR.after k st3 k3
end
end Cr
/-! # Rules: operators by data. -/
namespace Cr
open PySem PySem.Spec PyProof.Rows L2
section
variable {K : PySem.W.Frag} {H H' : Hp} {X : Cx}
/-- a rule for a two-place operation, by data -/
def rD2 (K : PySem.W.Frag) (f : D → D → Option (D × List D)) : R2 := fun x y H Q => ∃ da db F G d top, R K H x da F ∧ R K H y db G ∧ f da db = some (d, top) ∧
  ∀ v H' G', Keep (fun _ => False) H H' → R K H' v d G' → (∀ a ∈ G', a ∈ F ∨ a ∈ G ∨ H a = none) → (imms top = true → imm d = false → ∃ p, G' = [p] ∧ H p = none ∧ cnt d = 1) → Q v H'
theorem br_rD2 {f : D → D → Option (D × List D)} : BR K (fun vs H Q => ∃ x y, vs = [x, y] ∧ rD2 K f x y H Q) true (fun ds => match ds with | [x, y] => f x y | _ => none) := by
  intro vs ds F H Q d top q h k
  cases q with
  | nil => cases h
  | cons q1 q =>
    cases q with
    | nil => cases h
    | cons q2 q =>
      cases q with
      | cons _ _ => cases h
      | nil =>
        refine ⟨_, _, rfl, _, _, _, _, d, top, q1, q2, h, fun v H' G' kk qv m c => ?_⟩
        refine k v H' G' kk qv (fun a ha => ?_) fun _ => c
        rcases m a ha with z | z | z
        · exact .inl (List.mem_append_left _ z)
        · exact .inl (List.mem_append_right _ (by simpa using z))
        · exact .inr z
theorem good_op2D {ta tb : TE} {f g : Rho → Option (Opd × Rho)} {u : D → D → Option (D × List D)} (ha : Good K ta f) (hb : Good K tb g) :
    Good K (tOp (rD2 K u) ta tb) (fun r => (f r).bind fun (x, r1) => (g r1).bind fun (y, r2) => (dat r2 x).bind fun da => (dat r2 y).bind fun db => (u da db).bind fun (d, top) => fin true top d [x, y] r2) :=
  good_op2 ha hb br_rD2
/-- where nothing is copied: the result is within -/
def rD2n (K : PySem.W.Frag) (f : D → D → Option D) : R2 := fun x y H Q => ∃ da db F G d, R K H x da F ∧ R K H y db G ∧ f da db = some d ∧
  ∀ v H' G', Keep (fun _ => False) H H' → R K H' v d G' → (∀ a ∈ G', a ∈ F ∨ a ∈ G ∨ H a = none) → Q v H'
theorem good_op2N {ta tb : TE} {f g : Rho → Option (Opd × Rho)} {u : D → D → Option D} (ha : Good K ta f) (hb : Good K tb g) :
    Good K (tOp (rD2n K u) ta tb) (fun r => (f r).bind fun (x, r1) => (g r1).bind fun (y, r2) => (dat r2 x).bind fun da => (dat r2 y).bind fun db => (u da db).bind fun d => fin false [] d [x, y] r2) := by
  refine (good_op2 (K := K) (rule := rD2n K u) (cp := false) (u := fun a b => (u a b).map fun d => (d, [])) ha hb ?_).eq ?_
  · intro vs ds F H Q d top q h k
    cases q with
    | nil => cases h
    | cons q1 q =>
      cases q with
      | nil => cases h
      | cons q2 q =>
        cases q with
        | cons _ _ => cases h
        | nil =>
          simp only [Option.map_eq_some_iff] at h
          obtain ⟨d', h, e⟩ := h
          cases e
          refine ⟨_, _, rfl, _, _, _, _, d, q1, q2, h, fun v H' G' kk qv m => ?_⟩
          refine k v H' G' kk qv (fun a ha => ?_) fun c => by cases c
          rcases m a ha with z | z | z
          · exact .inl (List.mem_append_left _ z)
          · exact .inl (List.mem_append_right _ (by simpa using z))
          · exact .inr z
  · intro r b r' h
    simp only [Option.bind_eq_some_iff, Option.map_eq_some_iff] at h ⊢
    obtain ⟨x, h1, y, h2, da, h3, db, h4, d, h5, h6⟩ := h
    exact ⟨x, h1, y, h2, da, h3, db, h4, (d, []), ⟨d, h5, rfl⟩, h6⟩

/-! ### shapes -/
/-- a list, whatever its state -/
def LsR (K : PySem.W.Frag) (H : Hp) (a : Addr) (xs : List V) : Prop := H a = some (.lst xs) ∨ SqK K H a xs
theorem LsR.sq {a : Addr} {xs : List V} (h : LsR K H a xs) : SqL K H a xs := h.elim SqL.of SqK.sq
theorem R.lst_inv {v : V} {ds : List D} {F : List Addr} (q : R K H v (.list ds) F) : ∃ a vs G, v = .ref a ∧ LsR K H a vs ∧ Rs K H vs ds G ∧ (∀ b ∈ G, b ∈ F) := by
  cases q with
  | lst e q => exact ⟨_, _, _, rfl, .inl e, q, fun b h => List.mem_cons_of_mem _ h⟩
  | lstK e q => exact ⟨_, _, _, rfl, .inr e, q, fun b h => h⟩
theorem Rs.take : ∀ {v : List V} {d : List D} {F : List Addr} (n : Nat), Rs K H v d F → ∃ G, Rs K H (v.take n) (d.take n) G ∧ ∀ a ∈ G, a ∈ F
  | _, _, _, 0, _ => ⟨[], by simpa using Rs.nil, nil_all⟩
  | _, _, _, n + 1, .nil => ⟨[], by simpa using Rs.nil, nil_all⟩
  | _, _, _, n + 1, .cons q r => by
    obtain ⟨G, q', m⟩ := Rs.take n r
    exact ⟨_, by simpa using Rs.cons q q', fun a h => (List.mem_append.mp h).elim (List.mem_append_left _) fun h => List.mem_append_right _ (m a h)⟩
theorem Rs.drop : ∀ {v : List V} {d : List D} {F : List Addr} (n : Nat), Rs K H v d F → ∃ G, Rs K H (v.drop n) (d.drop n) G ∧ ∀ a ∈ G, a ∈ F
  | _, _, F, 0, q => ⟨F, by simpa using q, fun _ h => h⟩
  | _, _, _, n + 1, .nil => ⟨[], by simpa using Rs.nil, nil_all⟩
  | _, _, _, n + 1, .cons q r => by
    obtain ⟨G, q', m⟩ := Rs.drop n r
    exact ⟨G, by simpa using q', fun a h => List.mem_append_right _ (m a h)⟩
theorem Rs.rev : ∀ {v : List V} {d : List D} {F : List Addr}, Rs K H v d F → ∃ G, Rs K H v.reverse d.reverse G ∧ ∀ a ∈ G, a ∈ F
  | _, _, _, .nil => ⟨[], .nil, nil_all⟩
  | _, _, _, .cons q r => by
    obtain ⟨G, q', m⟩ := Rs.rev r
    refine ⟨_, by simpa using q'.append (.cons q .nil), fun a h => ?_⟩
    rcases List.mem_append.mp h with h | h
    · exact List.mem_append_right _ (m a h)
    · exact List.mem_append_left _ (by simpa using h)
theorem Rs.rep {v : List V} {d : List D} {F : List Addr} (q : Rs K H v d F) : ∀ n : Nat, ∃ G, Rs K H (List.replicate n v).flatten (List.replicate n d).flatten G ∧ ∀ a ∈ G, a ∈ F
  | 0 => ⟨[], .nil, nil_all⟩
  | n + 1 => by
    obtain ⟨G, q', m⟩ := Rs.rep q n
    exact ⟨_, by simpa [List.replicate_succ] using q.append q', fun a h => (List.mem_append.mp h).elim id (m a)⟩
theorem flat_imms {l : List D} (h : imms l = true) {v : List V} {F : List Addr} (q : Rs K H v l F) : F = [] := q.imm h

/-- a new list at p: what a rule that makes one is to be given -/
theorem new_list {Q : VK} {ds : List D} {vs : List V} {G F : List Addr} (q : Rs K H vs ds G) (m : ∀ a ∈ G, a ∈ F) (k : ∀ v H' G', Keep (fun _ => False) H H' → R K H' v (.list ds) G' → (∀ a ∈ G', a ∈ F ∨ H a = none) → (imms ds = true → imm (.list ds) = false → ∃ p, G' = [p] ∧ H p = none ∧ cnt (.list ds) = 1) → Q v H') :
    ∀ p, H p = none → Q (.ref p) (upd H p (.lst vs)) := fun p hp =>
  k _ _ (p :: G) (Keep.upd hp) (.lst upd_same (q.heap (Keep.upd hp))) (fun a h => (List.mem_cons.mp h).elim (fun e => .inr (e ▸ hp)) fun h => .inl (m a h)) fun hi _ => ⟨p, by rw [q.imm hi], hp, by rw [cnt, cnts_imm hi]⟩
theorem new_tup {Q : VK} {ds : List D} {vs : List V} {G F : List Addr} (q : Rs K H vs ds G) (m : ∀ a ∈ G, a ∈ F) (k : ∀ v H' G', Keep (fun _ => False) H H' → R K H' v (.tuple ds) G' → (∀ a ∈ G', a ∈ F ∨ H a = none) → Q v H') :
    ∀ p, H p = none → Q (.ref p) (upd H p (.tup vs)) := fun p hp =>
  k _ _ G (Keep.upd hp) (.tup (.inl (.inl upd_same)) (q.heap (Keep.upd hp))) fun a h => .inl (m a h)
/-! list + list, list * int of any lists -/
theorem Inv.lstR {pins : List (Addr × Obj)} {σ : L2.St} {s : Shared} {l : Addr} {xs : List V} (I : Inv X pins σ H s) (hH : LsR X.K H l xs) : xs.length ≤ sizeLine ∧ ∃ (its : List Value) (n : Nat), Vals xs its ∧ xs.length = its.length ∧ s.heap.get? l = some { cls := .type "list", data := .seq its.toArray n } := by
  rcases hH with h | ⟨o, h⟩ | ⟨its, n, h1, h2, h3⟩
  · obtain ⟨z, its, n, r, e⟩ := (Rd.of h).ok I.hok
    exact ⟨z, its, n, r, r.length, e⟩
  · obtain ⟨z, its, n, r, e⟩ := (show Rd H l (.lst xs) from .inr ⟨o, h⟩).ok I.hok
    exact ⟨z, its, n, r, r.length, e⟩
  · exact ⟨h2, its, n, h3, h3.length, I.kIn _ _ h1⟩
def rCatR (K : PySem.W.Frag) : R2 := fun x y H Q => ∃ l b xs zs, x = .ref l ∧ y = .ref b ∧ LsR K H l xs ∧ LsR K H b zs ∧ xs.length + zs.length ≤ sizeLine ∧ ∀ p, H p = none → Q (.ref p) (upd H p (.lst (xs ++ zs)))
theorem op_catR : OpR X (binaryOp .Add) (rCatR X.K) := by
  intro pins s σ H x y v u Q I rx ry h
  obtain ⟨l, b, xs, zs, rfl, rfl, hH, hB, hz, q⟩ := h
  cases rx
  cases ry
  obtain ⟨z, its, n, r, hl, e⟩ := Inv.lstR I hH
  obtain ⟨z2, its2, n2, r2, hl2, e2⟩ := Inv.lstR I hB
  refine PySem.P.add_list e e2 ?_ (by rw [List.size_toArray, List.size_toArray]; omega)
  have ea : its.toArray ++ its2.toArray = (its ++ its2).toArray := by simp
  rw [ea]
  exact ⟨.ref _, _, I.lnew (t' := s.toks) (r.append r2) (by rw [List.length_append]; omega), rfl, q _ I.fresh⟩
def rRepR (K : PySem.W.Frag) : R2 := fun x y H Q => ∃ l k xs, x = .ref l ∧ y = .int k ∧ LsR K H l xs ∧ -(2 ^ 63) ≤ k ∧ k < 2 ^ 63 ∧ xs.length * k.toNat ≤ sizeLine ∧
  ∀ p, H p = none → Q (.ref p) (upd H p (.lst (List.replicate k.toNat xs).flatten))
theorem op_repR : OpR X (binaryOp .Mult) (rRepR X.K) := by
  intro pins s σ H x y v u Q I rx ry h
  obtain ⟨l, k, xs, rfl, rfl, hH, h1, h2, hz, q⟩ := h
  cases rx
  obtain ⟨t, rfl⟩ := ry
  obtain ⟨z, its, n, r, hl, e⟩ := Inv.lstR I hH
  have hlen : its.toArray.size * k.toNat ≤ sizeLine := by rw [List.size_toArray, ← hl]; exact hz
  have hcap : ¬ its.toArray.size * k.toNat > (2 ^ 63 - 1) / 8 := by
    have : (sizeLine : Nat) ≤ (2 ^ 63 - 1) / 8 := by decide
    omega
  have hfit : ¬ (!Builtin.List.listFitsIndex k) = true := by
    rw [fitsIndex_both h1 h2]
    exact Bool.false_ne_true
  have hlong : ¬ Builtin.List.listTooLong (its.toArray.size * k.toNat) = true := by
    rw [notLongL hlen]
    exact Bool.false_ne_true
  have hnew : List.foldl (fun x1 x2 => x1 ++ x2) #[] (List.replicate (if its.toArray.isEmpty = true then 0 else k.toNat) its.toArray) = (List.replicate k.toNat its).flatten.toArray := by
    have f0 : ∀ m : Nat, List.foldl (fun x1 x2 => x1 ++ x2) #[] (List.replicate m its.toArray) = (List.replicate m its).flatten.toArray := fun m => by
      have := foldl_rep its m []
      rw [List.nil_append] at this
      exact this
    rw [f0]
    cases its with
    | nil => simp
    | cons a r' => rw [if_neg (by simp)]
  refine wpAny_binaryOp_repeat_ref (T := "list") (U := "int") (by decide) ⟨_, e, rfl⟩ (fun s' => typeIs_int s' k t) noFill_list_mul F.fills_int_mul F.slot_int_rmul repeat_list F.slot_int_index.lookup
    (call_meets F.slot_int_rmul (typeIs_int s k t) F.entry_int_rmul (F.args_int_rmul_2 _ _) (int___rmul___int_list k t l its.toArray n)
      ⟨e, rfl, ⟨_, e, rfl⟩, call_meets F.slot_list_mul ⟨_, e, rfl⟩ F.entry_list_mul (F.args_list_mul_2 _ _) (AutoListH.list___mul___list_int_3 l its.toArray n k t hfit hcap hlong) ⟨e, ?_⟩⟩)
  rw [hnew]
  exact ⟨.ref _, _, I.lnew (t' := s.toks) (r.rep k.toNat) (by rw [PyProof.Rows.lm_len_rep_flat, Nat.mul_comm]; exact hz), rfl, q _ I.fresh⟩
/-! ### binary operators -/
theorem small_le {n : Nat} (h : small n = true) : n ≤ sizeLine := by
  have : n ≤ 1000000 := of_decide_eq_true h
  exact Nat.le_trans this (by decide)
theorem opD_int {o : Operator} {C : Int → Int → Prop} {g : Int → Int → Int} (h : OpR X (binaryOp o) (rI C fun i j => .int (g i j))) (ha : ∀ i j k, arith o i j = some k → C i j ∧ k = g i j) (h1 : (o == .Add) = false) (h2 : (o == .Mult) = false) :
    OpR X (binaryOp o) (rD2 X.K (opD o)) := by
  intro pins s σ H x y v u Q I rx ry hh
  obtain ⟨da, db, F, G, d, top, qx, qy, hf, k⟩ := hh
  unfold opD at hf
  simp only [h1, h2, Bool.false_and, Bool.false_eq_true, if_false] at hf
  split at hf
  · rename_i i j
    obtain ⟨rfl, _⟩ := qx.int_inv
    obtain ⟨rfl, _⟩ := qy.int_inv
    simp only [Option.map_eq_some_iff] at hf
    obtain ⟨n, hn, e⟩ := hf
    cases e
    obtain ⟨hc, rfl⟩ := ha i j n hn
    exact h pins s σ H _ _ v u Q I rx ry ⟨i, j, rfl, rfl, hc, k _ H [] (fun _ _ e _ => e) (.int _) nil_all fun _ e => by simp [imm] at e⟩
  · cases hf
  · cases hf
  · cases hf
  · cases hf
  · cases hf
  · cases hf
theorem op_subD : OpR X (binaryOp .Sub) (rD2 X.K (opD .Sub)) := opD_int (C := fun _ _ => True) (g := fun i j => i - j) (fun pins s σ H x y v u Q I rx ry ⟨i, j, e1, e2, _, q⟩ => op_sub pins s σ H x y v u Q I rx ry ⟨i, j, e1, e2, q⟩) (fun i j k h => ⟨trivial, (Option.some.inj h).symm⟩) rfl rfl
theorem op_fdivD : OpR X (binaryOp .FloorDiv) (rD2 X.K (opD .FloorDiv)) := opD_int (g := fun i j => i / j) op_fdivW (fun i j k h => by
  simp only [arith] at h
  by_cases hc : divOk j = true
  · rw [if_pos hc] at h
    simp only [divOk, Bool.and_eq_true, decide_eq_true_eq] at hc
    exact ⟨hc, (Option.some.inj h).symm⟩
  · rw [if_neg hc] at h; cases h) rfl rfl
theorem op_modD : OpR X (binaryOp .Mod) (rD2 X.K (opD .Mod)) := opD_int (g := fun i j => i % j) op_mod (fun i j k h => by
  simp only [arith] at h
  split at h
  · rename_i hc
    exact ⟨of_decide_eq_true hc, (Option.some.inj h).symm⟩
  · cases h) rfl rfl
theorem op_powD : OpR X (binaryOp .Pow) (rD2 X.K (opD .Pow)) := opD_int (g := fun i j => i ^ j.toNat) op_pow (fun i j k h => by
  simp only [arith] at h
  split at h
  · rename_i hc
    simp only [Bool.and_eq_true, decide_eq_true_eq] at hc
    exact ⟨⟨hc.1.1, by omega, hc.2⟩, (Option.some.inj h).symm⟩
  · cases h) rfl rfl
theorem op_shlD : OpR X (binaryOp .LShift) (rD2 X.K (opD .LShift)) := opD_int (g := fun i j => i * 2 ^ j.toNat) op_shl (fun i j k h => by
  simp only [arith] at h
  split at h
  · rename_i hc
    simp only [Bool.and_eq_true, decide_eq_true_eq] at hc
    exact ⟨⟨hc.1.1, by omega, hc.2⟩, (Option.some.inj h).symm⟩
  · cases h) rfl rfl
theorem op_shrD : OpR X (binaryOp .RShift) (rD2 X.K (opD .RShift)) := opD_int (g := fun i j => i / 2 ^ j.toNat) op_shr (fun i j k h => by
  simp only [arith] at h
  split at h
  · rename_i hc
    exact ⟨of_decide_eq_true hc, (Option.some.inj h).symm⟩
  · cases h) rfl rfl
theorem op_andD : OpR X (binaryOp .BitAnd) (rD2 X.K (opD .BitAnd)) := opD_int (C := fun _ _ => True) (g := fun i j => Builtin.bitAnd i j) (fun pins s σ H x y v u Q I rx ry ⟨i, j, e1, e2, _, q⟩ => op_and pins s σ H x y v u Q I rx ry ⟨i, j, e1, e2, q⟩) (fun i j k h => ⟨trivial, (Option.some.inj h).symm⟩) rfl rfl
theorem op_orD : OpR X (binaryOp .BitOr) (rD2 X.K (opD .BitOr)) := opD_int (C := fun _ _ => True) (g := fun i j => Builtin.bitOr i j) (fun pins s σ H x y v u Q I rx ry ⟨i, j, e1, e2, _, q⟩ => op_or pins s σ H x y v u Q I rx ry ⟨i, j, e1, e2, q⟩) (fun i j k h => ⟨trivial, (Option.some.inj h).symm⟩) rfl rfl
theorem op_xorD : OpR X (binaryOp .BitXor) (rD2 X.K (opD .BitXor)) := opD_int (C := fun _ _ => True) (g := fun i j => Builtin.bitXor i j) (fun pins s σ H x y v u Q I rx ry ⟨i, j, e1, e2, _, q⟩ => op_xor pins s σ H x y v u Q I rx ry ⟨i, j, e1, e2, q⟩) (fun i j k h => ⟨trivial, (Option.some.inj h).symm⟩) rfl rfl
theorem op_addD : OpR X (binaryOp .Add) (rD2 X.K (opD .Add)) := by
  intro pins s σ H x y v u Q I rx ry hh
  obtain ⟨da, db, F, G, d, top, qx, qy, hf, k⟩ := hh
  unfold opD at hf
  split at hf
  · rename_i i j
    obtain ⟨rfl, _⟩ := qx.int_inv
    obtain ⟨rfl, _⟩ := qy.int_inv
    simp only [arith, Option.map_some, Option.some.injEq, Prod.mk.injEq] at hf
    obtain ⟨rfl, rfl⟩ := hf
    exact op_add pins s σ H _ _ v u Q I rx ry ⟨i, j, rfl, rfl, k _ H [] (fun _ _ e _ => e) (.int _) nil_all fun _ e => by simp [imm] at e⟩
  · rename_i i j
    obtain ⟨rfl, _⟩ := qx.str_inv
    obtain ⟨rfl, _⟩ := qy.str_inv
    split at hf
    · rename_i hc
      cases hf
      simp only [Bool.and_eq_true] at hc
      exact op_add_str pins s σ H _ _ v u Q I rx ry ⟨i, j, rfl, rfl, small_le hc.2, k _ H [] (fun _ _ e _ => e) (.str _) nil_all fun _ e => by simp [imm] at e⟩
    · cases hf
  · rename_i xs ys
    obtain ⟨a, vs, rfl, ha, qa⟩ := qx.tup_inv
    obtain ⟨b, ws, rfl, hb, qb⟩ := qy.tup_inv
    split at hf
    · rename_i hc
      cases hf
      simp only [Bool.and_eq_true] at hc
      have hz : vs.length + ws.length ≤ sizeLine := by rw [qa.len, qb.len]; exact small_le hc.2
      refine op_catA pins s σ H _ _ v u Q I rx ry ⟨a, b, vs, ws, rfl, rfl, ha, hb, hz, fun e => ?_, fun _ e => ?_, fun _ _ => ?_⟩
      · subst e
        have e2 := qa.len
        have e3 : xs = [] := List.eq_nil_of_length_eq_zero e2.symm
        subst e3
        exact k _ H G (fun _ _ e _ => e) (by simpa using qy) (fun a h => .inr (.inl h)) fun hi hn => by simp [imm] at hn; simp at hi; simp_all
      · subst e
        have e2 := qb.len
        have e3 : ys = [] := List.eq_nil_of_length_eq_zero e2.symm
        subst e3
        exact k _ H F (fun _ _ e _ => e) (by simpa using qx) (fun a h => .inl h) fun hi hn => by simp [imm] at hn; simp at hi; simp_all
      · exact new_tup (F := F ++ G) (qa.append qb) (fun _ h => h) fun v H' G' kk q m => k v H' G' kk q (fun a h => (m a h).elim (fun h => (List.mem_append.mp h).elim .inl fun h => .inr (.inl h)) fun h => .inr (.inr h)) fun hi hn => by simp [imm] at hn; simp_all
    · cases hf
  · rename_i xs ys
    obtain ⟨a, vs, G1, rfl, ha, qa, ma⟩ := qx.lst_inv
    obtain ⟨b, ws, G2, rfl, hb, qb, mb⟩ := qy.lst_inv
    split at hf
    · rename_i hc
      cases hf
      simp only [Bool.and_eq_true] at hc
      have hz : vs.length + ws.length ≤ sizeLine := by rw [qa.len, qb.len]; exact small_le hc.2
      refine op_catR pins s σ H _ _ v u Q I rx ry ⟨a, b, vs, ws, rfl, rfl, ha, hb, hz, ?_⟩
      exact new_list (F := F ++ G) (qa.append qb) (fun c h => (List.mem_append.mp h).elim (fun h => List.mem_append_left _ (ma c h)) fun h => List.mem_append_right _ (mb c h)) fun v H' G' kk q m c => k v H' G' kk q (fun a h => (m a h).elim (fun h => (List.mem_append.mp h).elim .inl fun h => .inr (.inl h)) fun h => .inr (.inr h)) c
    · cases hf
  · simp at hf
  · simp at hf
  · cases hf
theorem op_mulD : OpR X (binaryOp .Mult) (rD2 X.K (opD .Mult)) := by
  intro pins s σ H x y v u Q I rx ry hh
  obtain ⟨da, db, F, G, d, top, qx, qy, hf, k⟩ := hh
  unfold opD at hf
  split at hf
  · rename_i i j
    obtain ⟨rfl, _⟩ := qx.int_inv
    obtain ⟨rfl, _⟩ := qy.int_inv
    simp only [arith, Option.map_eq_some_iff] at hf
    obtain ⟨n, hn, e⟩ := hf
    split at hn
    · rename_i hc
      cases hn
      cases e
      exact op_mulW pins s σ H _ _ v u Q I rx ry ⟨i, j, rfl, rfl, of_decide_eq_true (p := i.natAbs.log2 + j.natAbs.log2 < 1000000) hc, k _ H [] (fun _ _ e _ => e) (.int _) nil_all fun _ e => by simp [imm] at e⟩
    · cases hn
  · simp at hf
  · simp at hf
  · simp at hf
  · rename_i xs n
    obtain ⟨a, vs, G1, rfl, ha, qa, ma⟩ := qx.lst_inv
    obtain ⟨rfl, _⟩ := qy.int_inv
    split at hf
    · rename_i hc
      cases hf
      simp only [Bool.and_eq_true, decide_eq_true_eq] at hc
      obtain ⟨G2, qr, mr⟩ := qa.rep n.toNat
      refine op_repR pins s σ H _ _ v u Q I rx ry ⟨a, n, vs, rfl, rfl, ha, by omega, by omega, by rw [qa.len]; exact small_le hc.2, ?_⟩
      exact new_list (F := F) qr (fun c h => ma c (mr c h)) fun v H' G' kk q m c => k v H' G' kk q (fun a h => (m a h).elim .inl fun h => .inr (.inr h)) c
    · cases hf
  · rename_i xs n
    obtain ⟨a, vs, rfl, ha, qa⟩ := qx.tup_inv
    obtain ⟨rfl, _⟩ := qy.int_inv
    split at hf
    · rename_i hc
      cases hf
      simp only [Bool.and_eq_true, decide_eq_true_eq] at hc
      obtain ⟨G2, qr, mr⟩ := qa.rep n.toNat
      have hl := qa.len
      refine op_repT pins s σ H _ _ v u Q I rx ry ⟨a, n, vs, rfl, rfl, ha, fun e => ?_, by omega, by omega, by omega, ?_⟩
      · rw [e] at hl; simp at hl; omega
      · exact new_tup (F := F) qr mr fun v H' G' kk q m => k v H' G' kk q (fun a h => (m a h).elim .inl fun h => .inr (.inr h)) fun hi hn => by simp [imm] at hn; simp_all
    · cases hf
  · cases hf
end
end Cr
/-! # Rules2: comparisons by data. -/
namespace Cr
open PySem PySem.Spec PyProof.Rows L2
section
variable {K : PySem.W.Frag} {H H' : Hp} {X : Cx}
/-- a rule for a comparison, by data -/
def rC (K : PySem.W.Frag) (u : D → D → Option Bool) : R2 := fun x y H Q => ∃ da db F G c, R K H x da F ∧ R K H y db G ∧ u da db = some c ∧ Q (.bl c) H
theorem bc_rC {u : D → D → Option Bool} : BC K (rC K u) u := fun x y da db F G H Q c q1 q2 h k => ⟨da, db, F, G, c, q1, q2, h, k H fun _ _ e _ => e⟩
mutual
theorem R.dp : ∀ {v : V} {d : D} {F : List Addr}, R K H v d F → d.canLay0 = true → Dp K H v d
  | _, _, _, .non, _ => .non
  | _, _, _, .bl _, _ => .bl _
  | _, _, _, .int _, _ => .int _
  | _, _, _, .str _, _ => .str _
  | _, _, _, .lst e q, h => .lst (.inl (.inl e)) (Rs.dp q h)
  | _, _, _, .lstK e q, h => .lst e.sq (Rs.dp q h)
  | _, _, _, .tup e q, h => .tup e (Rs.dp q h)
  | _, _, _, .dic e q, h => by simp [PyData.canLay0] at h
theorem Rs.dp : ∀ {v : List V} {d : List D} {F : List Addr}, Rs K H v d F → PyData.canLayAll0 d = true → DpAll K H v d
  | _, _, _, .nil, _ => .nil
  | _, d :: ds, _, .cons q r, h => by
    have h' : d.canLay0 = true ∧ PyData.canLayAll0 ds = true := by simpa [PyData.canLayAll0] using h
    exact .cons (R.dp q h'.1) (Rs.dp r h'.2)
end
theorem R.dps {v : V} {d : D} {F : List Addr} (q : R K H v d F) (h : SeqAt.shaped d = true) : Dp K H v d := q.dp (SeqAt.canLay_of_shaped h)
theorem eqv_scal {da db : D} {x y : V} {F G : List Addr} (qx : R K H x da F) (qy : R K H y db G) (ha : isScal da = true) (hb : isScal db = true) (hn : ¬ (SeqAt.shaped da = true ∧ SeqAt.shaped db = true)) :
    scal x y = true ∧ PyData.eqv da db = decide (x = y) := by
  cases da <;> (first | (simp [isScal] at ha; done) | skip) <;> cases db <;> (first | (simp [isScal] at hb; done) | skip) <;> cases qx <;> cases qy <;>
    first
    | (exfalso; exact hn ⟨rfl, rfl⟩)
    | (refine ⟨rfl, ?_⟩; simp [PyData.eqv]; done)
    | (refine ⟨rfl, ?_⟩; rw [dec_str]; simp [PyData.eqv]; done)
theorem op_eqC (hu : X.A.units + 65 < cLine) : OpR X (compareOp .Eq) (rC X.K (cmpD .Eq)) := by
  intro pins s σ H x y v u Q I rx ry h
  obtain ⟨da, db, F, G, c, qx, qy, hc, q⟩ := h
  simp only [cmpD] at hc
  split at hc
  · rename_i he
    cases hc
    by_cases hn : SeqAt.shaped da = true ∧ SeqAt.shaped db = true
    · exact op_eqD (by omega) pins s σ H x y v u Q I rx ry ⟨da, db, qx.dps hn.1, qy.dps hn.2, hn.1, hn.2, q⟩
    · simp only [eqOk, Bool.or_eq_true, Bool.and_eq_true] at he
      obtain ⟨h1, h2⟩ := he.resolve_right hn
      obtain ⟨e1, e2⟩ := eqv_scal qx qy h1 h2 hn
      exact op_eq pins s σ H x y v u Q I rx ry ⟨e1, by rw [← e2]; exact q⟩
  · cases hc
theorem op_neC (hu : X.A.units + 65 < cLine) : OpR X (compareOp .NotEq) (rC X.K (cmpD .NotEq)) := by
  intro pins s σ H x y v u Q I rx ry h
  obtain ⟨da, db, F, G, c, qx, qy, hc, q⟩ := h
  simp only [cmpD] at hc
  split at hc
  · rename_i he
    cases hc
    by_cases hn : SeqAt.shaped da = true ∧ SeqAt.shaped db = true
    · exact op_neD (by omega) pins s σ H x y v u Q I rx ry ⟨da, db, qx.dps hn.1, qy.dps hn.2, hn.1, hn.2, q⟩
    · simp only [eqOk, Bool.or_eq_true, Bool.and_eq_true] at he
      obtain ⟨h1, h2⟩ := he.resolve_right hn
      obtain ⟨e1, e2⟩ := eqv_scal qx qy h1 h2 hn
      exact op_ne pins s σ H x y v u Q I rx ry ⟨e1, by rw [← e2]; exact q⟩
  · cases hc
theorem ord_inv {a b : D} (h : ordOk a b = true) : W.alike a b = true ∧ a ≠ .none ∧ SeqAt.shaped a = true ∧ SeqAt.shaped b = true := by
  simp only [ordOk, Bool.and_eq_true, Bool.not_eq_true'] at h
  exact ⟨h.1.1.1, fun e => by rw [e] at h; simp [isNon] at h, h.1.2, h.2⟩
theorem op_ltC (hu : X.A.units + 65 < cLine) : OpR X (compareOp .Lt) (rC X.K (cmpD .Lt)) := by
  intro pins s σ H x y v u Q I rx ry h
  obtain ⟨da, db, F, G, c, qx, qy, hc, q⟩ := h
  simp only [cmpD] at hc
  split at hc
  · rename_i he
    cases hc
    obtain ⟨h1, h2, h3, h4⟩ := ord_inv he
    obtain ⟨as, r1⟩ := Dp.reads I da x v (qx.dps h3) rx
    obtain ⟨bs, r2⟩ := Dp.reads I db y u (qy.dps h4) ry
    exact W.lt_data r1 r2 h1 h2 (SeqAt.room_of_shaped h3 (by omega)) ⟨.bl _, H, I, rfl, q⟩
  · cases hc
theorem op_leC (hu : X.A.units + 65 < cLine) : OpR X (compareOp .LtE) (rC X.K (cmpD .LtE)) := by
  intro pins s σ H x y v u Q I rx ry h
  obtain ⟨da, db, F, G, c, qx, qy, hc, q⟩ := h
  simp only [cmpD] at hc
  split at hc
  · rename_i he
    cases hc
    obtain ⟨h1, h2, h3, h4⟩ := ord_inv he
    obtain ⟨as, r1⟩ := Dp.reads I da x v (qx.dps h3) rx
    obtain ⟨bs, r2⟩ := Dp.reads I db y u (qy.dps h4) ry
    exact W.le_data r1 r2 h1 h2 (SeqAt.room_of_shaped h3 (by omega)) ⟨.bl _, H, I, rfl, q⟩
  · cases hc
theorem op_gtC (hu : X.A.units + 65 < cLine) : OpR X (compareOp .Gt) (rC X.K (cmpD .Gt)) := by
  intro pins s σ H x y v u Q I rx ry h
  obtain ⟨da, db, F, G, c, qx, qy, hc, q⟩ := h
  simp only [cmpD] at hc
  split at hc
  · rename_i he
    cases hc
    obtain ⟨h1, h2, h3, h4⟩ := ord_inv he
    obtain ⟨as, r1⟩ := Dp.reads I da x v (qx.dps h3) rx
    obtain ⟨bs, r2⟩ := Dp.reads I db y u (qy.dps h4) ry
    exact W.gt_data r1 r2 h1 h2 (SeqAt.room_of_shaped h3 (by omega)) ⟨.bl _, H, I, rfl, q⟩
  · cases hc
theorem op_geC (hu : X.A.units + 65 < cLine) : OpR X (compareOp .GtE) (rC X.K (cmpD .GtE)) := by
  intro pins s σ H x y v u Q I rx ry h
  obtain ⟨da, db, F, G, c, qx, qy, hc, q⟩ := h
  simp only [cmpD] at hc
  split at hc
  · rename_i he
    cases hc
    obtain ⟨h1, h2, h3, h4⟩ := ord_inv he
    obtain ⟨as, r1⟩ := Dp.reads I da x v (qx.dps h3) rx
    obtain ⟨bs, r2⟩ := Dp.reads I db y u (qy.dps h4) ry
    exact W.ge_data r1 r2 h1 h2 (SeqAt.room_of_shaped h3 (by omega)) ⟨.bl _, H, I, rfl, q⟩
  · cases hc
theorem R.non_inv {v : V} {F : List Addr} (q : R K H v .none F) : v = .non := by cases q; rfl
theorem R.non_dec {v : V} {d : D} {F : List Addr} (q : R K H v d F) : decide (v = .non) = isNon d := by cases q <;> simp [isNon]
theorem op_isC : OpR X (compareOp .Is) (rC X.K (cmpD .Is)) := by
  intro pins s σ H x y v u Q I rx ry h
  obtain ⟨da, db, F, G, c, qx, qy, hc, q⟩ := h
  cases db with
  | none =>
    cases qy.non_inv
    have e : c = decide (x = .non) := by
      rw [qx.non_dec]
      cases da <;> simp [cmpD] at hc <;> simp [isNon, hc]
    subst e
    exact op_isN pins s σ H x _ v u Q I rx ry ⟨rfl, q⟩
  | bool b =>
    obtain ⟨rfl, _⟩ := qy.bool_inv
    cases da with
    | bool a =>
      obtain ⟨rfl, _⟩ := qx.bool_inv
      have e : c = decide (a = b) := by
        cases a <;> cases b <;> simp_all [cmpD]
      subst e
      exact op_is_bl pins s σ H _ _ v u Q I rx ry ⟨a, b, rfl, rfl, q⟩
    | _ => simp [cmpD] at hc
  | _ => simp [cmpD] at hc
theorem op_isnotC : OpR X (compareOp .IsNot) (rC X.K (cmpD .IsNot)) := by
  intro pins s σ H x y v u Q I rx ry h
  obtain ⟨da, db, F, G, c, qx, qy, hc, q⟩ := h
  cases db with
  | none =>
    cases qy.non_inv
    have e : c = !decide (x = .non) := by
      rw [qx.non_dec]
      cases da <;> simp [cmpD] at hc <;> simp [isNon, hc]
    subst e
    exact op_notN pins s σ H x _ v u Q I rx ry ⟨rfl, q⟩
  | bool b =>
    obtain ⟨rfl, _⟩ := qy.bool_inv
    cases da with
    | bool a =>
      obtain ⟨rfl, _⟩ := qx.bool_inv
      have e : c = !decide (a = b) := by
        cases a <;> cases b <;> simp_all [cmpD]
      subst e
      exact op_isnot_bl pins s σ H _ _ v u Q I rx ry ⟨a, b, rfl, rfl, q⟩
    | _ => simp [cmpD] at hc
  | _ => simp [cmpD] at hc
/-! ### dicts -/
def keyOf : D → Option Key
  | .int i => some (.inl i)
  | .str x => some (.inr x)
  | _ => none
theorem isKey_inv {d : D} (h : isKey d = true) : ∃ k, keyOf d = some k ∧ d = keyD k := by
  cases d <;> simp [isKey] at h
  · exact ⟨_, rfl, rfl⟩
  · exact ⟨_, rfl, rfl⟩
theorem R.key_inv {v : V} {k : Key} {F : List Addr} (q : R K H v (keyD k) F) : v = kV k := by
  cases k <;> (simp only [keyD] at q; cases q; rfl)
theorem eqv_key {k j : Key} : PyData.eqv (keyD k) (keyD j) = decide (k = j) := by
  cases k <;> cases j <;> simp [keyD, PyData.eqv]
  · rename_i a b; rw [Bool.eq_iff_iff]; simp
  · rename_i a b; rw [Bool.eq_iff_iff]; simp
theorem Rk.val : ∀ {kvs : List (Key × V)} {ds : List (D × D)} {F : List Addr} (k : Key), Rk K H kvs ds F → (valV kvs k = none ∧ dkeys ds (keyD k) = none) ∨ ∃ v d G, valV kvs k = some v ∧ dkeys ds (keyD k) = some d ∧ R K H v d G ∧ ∀ a ∈ G, a ∈ F
  | _, _, _, k, .nil => .inl ⟨rfl, rfl⟩
  | _, _, _, k, .cons (k := j) (v := v) (d := d) (s := s) q r => by
    by_cases e : j = k
    · subst e
      refine .inr ⟨_, _, _, valV_pos rfl, ?_, q, fun a h => List.mem_append_left _ h⟩
      simp [dkeys, eqv_key]
    · have h1 : dkeys ((keyD j, d) :: s) (keyD k) = dkeys s (keyD k) := by
        simp only [dkeys, eqv_key, decide_eq_false e, Bool.false_eq_true, if_false]
      rw [h1]
      rcases Rk.val k r with ⟨a, b⟩ | ⟨v', d', G, a, b, c, m⟩
      · exact .inl ⟨(valV_neg (p := (j, v)) e).trans a, b⟩
      · exact .inr ⟨v', d', G, (valV_neg (p := (j, v)) e).trans a, b, c, fun a h => List.mem_append_right _ (m a h)⟩
theorem R.dic_inv {v : V} {ds : List (D × D)} {F : List Addr} (q : R K H v (.dict ds) F) : ∃ a kvs G, v = .ref a ∧ H a = some (.dK kvs) ∧ F = a :: G ∧ Rk K H kvs ds G := by
  cases q with
  | dic e q => exact ⟨_, _, _, rfl, e, rfl, q⟩
/-- a dict is asked for a key -/
theorem R.dget {x y : V} {ds : List (D × D)} {dk : D} {F G : List Addr} (qx : R K H x (.dict ds) F) (qy : R K H y dk G) (hk : isKey dk = true) : ∃ a o, x = .ref a ∧ DGet H a y o ∧ IsD H a ∧ o.isSome = (dkeys ds dk).isSome ∧
    (∀ v, o = some v → ∃ d G, dkeys ds dk = some d ∧ R K H v d G ∧ ∀ b ∈ G, b ∈ F) := by
  obtain ⟨a, kvs, F', rfl, e, rfl, q⟩ := qx.dic_inv
  obtain ⟨k, _, rfl⟩ := isKey_inv hk
  cases qy.key_inv
  refine ⟨a, valV kvs k, rfl, .inl ⟨kvs, k, .inl e, rfl, rfl⟩, .inl ⟨kvs, .inl e⟩, ?_, fun v hv => ?_⟩
  · rcases q.val k with ⟨e1, e2⟩ | ⟨v, d, G, e1, e2, _, _⟩
    · rw [e1, e2]; rfl
    · rw [e1, e2]; rfl
  · rcases q.val k with ⟨e1, e2⟩ | ⟨v', d, G, e1, e2, q', m⟩
    · rw [e1] at hv; cases hv
    · rw [e1] at hv
      cases hv
      exact ⟨d, G, e2, q', fun b h => List.mem_cons_of_mem _ (m b h)⟩
theorem op_inC (hu : X.A.units + 65 < cLine) : OpR X (compareOp .In) (rC X.K (cmpD .In)) := by
  intro pins s σ H x y v u Q I rx ry h
  obtain ⟨da, db, F, G, c, qx, qy, hc, q⟩ := h
  cases db with
  | list ds =>
    simp only [cmpD] at hc
    split at hc
    · rename_i he
      cases hc
      simp only [Bool.and_eq_true] at he
      exact op_inD hu pins s σ H x y v u Q I rx ry ⟨da, ds, qx.dps he.1, qy.dps he.2, he.1, he.2, q⟩
    · cases hc
  | tuple ds =>
    simp only [cmpD] at hc
    split at hc
    · rename_i he
      cases hc
      simp only [Bool.and_eq_true] at he
      obtain ⟨as, r1⟩ := Dp.reads I da x v (qx.dps he.1) rx
      obtain ⟨bs, r2⟩ := Dp.reads I (.tuple ds) y u (qy.dps he.2) ry
      exact SeqAt.in_tuple_reads r2 r1 (SeqAt.canLay_of_shaped he.2) (SeqAt.canLay_of_shaped he.1) (room_in_shaped he.1 hu) ⟨.bl _, H, I, rfl, q⟩
    · cases hc
  | dict kvs =>
    simp only [cmpD] at hc
    split at hc
    · rename_i he
      cases hc
      obtain ⟨a, o, rfl, g, _, e, _⟩ := qy.dget qx he
      cases ry
      exact d_in (by omega) I g rx fun s3 I3 => ⟨.bl o.isSome, H, I3, rfl, by rw [e]; exact q⟩
    · cases hc
  | _ => simp [cmpD] at hc
theorem op_notInC (hu : X.A.units + 65 < cLine) : OpR X (compareOp .NotIn) (rC X.K (cmpD .NotIn)) := by
  intro pins s σ H x y v u Q I rx ry h
  obtain ⟨da, db, F, G, c, qx, qy, hc, q⟩ := h
  cases db with
  | list ds =>
    simp only [cmpD] at hc
    split at hc
    · rename_i he
      cases hc
      simp only [Bool.and_eq_true] at he
      exact op_notInD hu pins s σ H x y v u Q I rx ry ⟨da, ds, qx.dps he.1, qy.dps he.2, he.1, he.2, q⟩
    · cases hc
  | tuple ds =>
    simp only [cmpD] at hc
    split at hc
    · rename_i he
      cases hc
      simp only [Bool.and_eq_true] at he
      obtain ⟨as, r1⟩ := Dp.reads I da x v (qx.dps he.1) rx
      obtain ⟨bs, r2⟩ := Dp.reads I (.tuple ds) y u (qy.dps he.2) ry
      exact SeqAt.notIn_tuple_reads r2 r1 (SeqAt.canLay_of_shaped he.2) (SeqAt.canLay_of_shaped he.1) (room_in_shaped he.1 hu) ⟨.bl _, H, I, rfl, q⟩
    · cases hc
  | dict kvs =>
    simp only [cmpD] at hc
    split at hc
    · rename_i he
      cases hc
      obtain ⟨a, o, rfl, g, _, e, _⟩ := qy.dget qx he
      cases ry
      exact d_notIn (by omega) I g rx fun s3 I3 => ⟨.bl (!o.isSome), H, I3, rfl, by rw [e]; exact q⟩
    · cases hc
  | _ => simp [cmpD] at hc
/-! ### subscripts -/
theorem Rs.atI {vs : List V} {ds : List D} {F : List Addr} {i : Int} {d : D} (q : Rs K H vs ds F) (h : ((ixD ds.length i).bind fun j => ds[j]?) = some d) : ∃ v G, L2.atI vs i = some v ∧ R K H v d G ∧ ∀ a ∈ G, a ∈ F := by
  simp only [Option.bind_eq_some_iff] at h
  obtain ⟨j, h1, h2⟩ := h
  obtain ⟨v, G, e, qv, m⟩ := q.get h2
  exact ⟨v, G, by unfold L2.atI; rw [q.len, show ixN ds.length i = some j from h1]; exact e, qv, m⟩
/-- d[y] as a rule of values -/
theorem ix_dict (hu : X.A.units + 65 < cLine) : IxR X (fun x y H Q => ∃ a v, x = .ref a ∧ DGet H a y (some v) ∧ Q v H) := by
  intro value slice pins s σ H x y v u Q I rx ry h hs
  obtain ⟨a, w, rfl, g, q⟩ := h
  obtain rfl : v = Value.ref a := rx
  have hT := dict_typeIs I g
  unfold subscriptTail
  refine wpAny_bind ?_
  rw [getitemInPython_of_ne hT.not_modules]
  refine wpAny_bind (wpAny_specialOf hT PySem.F.slot_dict_getitem.lookup ?_)
  have fin : wpAny (model X.prog X.w) X.A (subscripted slice false (.ref a) u) (fun r s₃ => wpAny (model X.prog X.w) X.A (letTemporaryGo value (.ref a) r >>= fun _ => pure r) (EP X pins σ Q) X.xe s₃) X.xe s := by
    rw [hs]
    exact wpAny_operating (d_getItem (by omega) I g ry fun w' s3 I3 rw' => wpAny_bind (wpAny_letTemporaryGo (wpAny_pure ⟨w, H, I3, rw', q⟩)))
  first
    | exact wpAny_pure (wpAny_bind fin)
    | exact wpAny_bind (wpAny_pure (wpAny_bind fin))
    | exact wpAny_bind fin
theorem ix_D (hu : X.A.units + 65 < cLine) : IxR X (rD2n X.K idxD) := by
  intro value slice pins s σ H x y v u Q I rx ry h hs
  obtain ⟨da, db, F, G, d, qx, qy, hf, k⟩ := h
  cases da with
  | list xs =>
    cases db with
    | int i =>
      obtain ⟨rfl, _⟩ := qy.int_inv
      obtain ⟨a, vs, G1, rfl, ha, qa, ma⟩ := qx.lst_inv
      obtain ⟨w, G2, e, qw, mw⟩ := qa.atI (i := i) (d := d) hf
      exact ix_list value slice pins s σ H _ _ v u Q I rx ry ⟨a, vs, i, w, rfl, rfl, ha.sq, e, k w H G2 (fun _ _ e _ => e) qw fun b h => .inl (ma b (mw b h))⟩ hs
    | _ => simp [idxD] at hf
  | tuple xs =>
    cases db with
    | int i =>
      obtain ⟨rfl, _⟩ := qy.int_inv
      obtain ⟨a, vs, rfl, ha, qa⟩ := qx.tup_inv
      obtain ⟨w, G2, e, qw, mw⟩ := qa.atI (i := i) (d := d) hf
      exact ix_tup value slice pins s σ H _ _ v u Q I rx ry ⟨a, vs, i, w, rfl, rfl, ha, e, k w H G2 (fun _ _ e _ => e) qw fun b h => .inl (mw b h)⟩ hs
    | _ => simp [idxD] at hf
  | dict kvs =>
    simp only [idxD] at hf
    split at hf
    · rename_i hk
      obtain ⟨a, o, rfl, g, _, e, m⟩ := qx.dget qy hk
      rw [hf] at e
      obtain ⟨w, rfl⟩ := Option.isSome_iff_exists.mp e
      obtain ⟨d', G', e2, qw, mw⟩ := m w rfl
      rw [hf] at e2
      cases e2
      exact ix_dict hu value slice pins s σ H _ _ v u Q I rx ry ⟨a, w, rfl, g, k w H G' (fun _ _ e _ => e) qw fun b h => .inl (mw b h)⟩ hs
    · cases hf
  | _ => simp [idxD] at hf
/-! ### slices -/
def rSD (K : PySem.W.Frag) : V → Option Int → Option Int → Hp → VK → Prop := fun x lo hi H Q => ∃ da F d top, R K H x da F ∧ slcD da lo hi = some (d, top) ∧
  ∀ v H' G', Keep (fun _ => False) H H' → R K H' v d G' → (∀ a ∈ G', a ∈ F ∨ H a = none) → (imms top = true → imm d = false → ∃ p, G' = [p] ∧ H p = none ∧ cnt d = 1) → Q v H'
theorem Rs.cut {vs : List V} {ds : List D} {F : List Addr} (q : Rs K H vs ds F) (lo hi : Option Int) : ∃ G, Rs K H (cutV vs lo hi) (cutD ds lo hi) G ∧ ∀ a ∈ G, a ∈ F := by
  unfold cutV cutD
  rw [q.len]
  obtain ⟨G, q1, m1⟩ := q.drop (HT.sIx ds.length 0 lo)
  obtain ⟨G2, q2, m2⟩ := q1.take (HT.sIx ds.length ds.length hi - HT.sIx ds.length 0 lo)
  exact ⟨G2, q2, fun a h => m1 a (m2 a h)⟩
theorem sl_D : SlR X (rSD X.K) := by
  intro pins s σ H x v vl vu lo hi sl Q I rx hs pl pu h
  obtain ⟨da, F, d, top, qx, hf, k⟩ := h
  cases da with
  | list xs =>
    cases hf
    obtain ⟨a, vs, G1, rfl, ha, qa, ma⟩ := qx.lst_inv
    obtain ⟨G2, qc, mc⟩ := qa.cut lo hi
    exact sl_list pins s σ H _ v vl vu lo hi sl Q I rx hs pl pu ⟨a, vs, rfl, ha.sq, new_list (F := F) qc (fun b h => ma b (mc b h)) k⟩
  | tuple xs =>
    cases hf
    obtain ⟨a, vs, rfl, ha, qa⟩ := qx.tup_inv
    obtain ⟨G2, qc, mc⟩ := qa.cut lo hi
    refine sl_tupA pins s σ H _ v vl vu lo hi sl Q I rx hs pl pu ⟨a, vs, rfl, ha, fun e => ?_, fun _ => ?_⟩
    · have hw : cutD xs lo hi = xs := by
        unfold cutD
        rw [← qa.len, e.1, e.2, List.drop_zero, Nat.sub_zero, qa.len, List.take_length]
      rw [hw] at k
      exact k _ H F (fun _ _ e _ => e) qx (fun b h => .inl h) fun hi hn => by simp [imm] at hn; simp_all
    · exact new_tup (F := F) qc mc fun v H' G' kk q m => k v H' G' kk q m fun hi hn => by simp [imm] at hn; simp_all
  | _ => simp [slcD] at hf
end
end Cr
set_option maxHeartbeats 1000000
/-! # Rules3: built-in functions by data. -/
namespace Cr
open PySem PySem.Spec PyProof.Rows L2
section
variable {K : PySem.W.Frag} {H H' : Hp} {X : Cx}
def rB (K : PySem.W.Frag) (b : BI) : List V → Hp → VK → Prop := fun vs H Q => ∃ ds F d top, Rs K H vs ds F ∧ biD b ds = some (d, top) ∧
  ∀ v H' G', Keep (fun _ => False) H H' → R K H' v d G' → (∀ a ∈ G', a ∈ F ∨ H a = none) → (imms top = true → imm d = false → ∃ p, G' = [p] ∧ H p = none ∧ cnt d = 1) → Q v H'
theorem br_rB {b : BI} : BR K (rB K b) true (biD b) := fun vs ds F H Q d top q h k => ⟨ds, F, d, top, q, h, fun v H' G' kk qv m c => k v H' G' kk qv m fun _ => c⟩
theorem Rs.one {vs : List V} {d : D} {F : List Addr} (q : Rs K H vs [d] F) : ∃ v G, vs = [v] ∧ R K H v d G ∧ ∀ a ∈ G, a ∈ F := by
  cases q with
  | cons q r => cases r; exact ⟨_, _, rfl, q, fun a h => by simpa using h⟩
theorem Rs.two {vs : List V} {d e : D} {F : List Addr} (q : Rs K H vs [d, e] F) : ∃ v w G1 G2, vs = [v, w] ∧ R K H v d G1 ∧ R K H w e G2 ∧ (∀ a ∈ G1, a ∈ F) ∧ ∀ a ∈ G2, a ∈ F := by
  cases q with
  | cons q r =>
    cases r with
    | cons q2 r =>
      cases r
      exact ⟨_, _, _, _, rfl, q, q2, fun a h => List.mem_append_left _ h, fun a h => List.mem_append_right _ (by simpa using h)⟩
/-- one argument or none that fits -/
theorem biD_one {b : BI} {ds : List D} {x : D × List D} (h : biD b ds = some x) : (∃ d, ds = [d]) ∨ ∃ d e, ds = [d, e] := by
  match ds with
  | [] => cases b <;> simp [biD] at h
  | [d] => exact .inl ⟨d, rfl⟩
  | [d, e] => exact .inr ⟨d, e, rfl⟩
  | _ :: _ :: _ :: _ => cases b <;> simp [biD] at h
theorem biD_fst {b : BI} {ds : List D} {x : D × List D} (h : biD b ds = some x) (hb : b ≠ .max2 ∧ b ≠ .min2) : ∃ d, ds = [d] := by
  rcases biD_one h with h1 | ⟨d, e, rfl⟩
  · exact h1
  · cases b <;> first | exact absurd rfl hb.1 | exact absurd rfl hb.2 | (simp [biD] at h; done)
theorem nof {Q : VK} {F : List Addr} {v : V} {d : D} {top : List D} (q : R K H v d []) (k : ∀ v H' G', Keep (fun _ => False) H H' → R K H' v d G' → (∀ a ∈ G', a ∈ F ∨ H a = none) → (imms top = true → imm d = false → ∃ p, G' = [p] ∧ H p = none ∧ cnt d = 1) → Q v H') (hi : imm d = true) : Q v H :=
  k v H [] (fun _ _ e _ => e) q nil_all fun _ e => by rw [hi] at e; cases e
theorem cr_lenD : CallR X (.builtin "len") (rB X.K .len) := by
  intro pins s σ H vs us Q I r h
  obtain ⟨ds, F, d, top, q, hf, k⟩ := h
  obtain ⟨x, rfl⟩ := biD_fst hf ⟨by decide, by decide⟩
  obtain ⟨v, G, rfl, qv, mv⟩ := q.one
  cases x with
  | list xs =>
    simp only [biD, Option.some.injEq, Prod.mk.injEq] at hf
    obtain ⟨rfl, rfl⟩ := hf
    obtain ⟨a, ws, G1, rfl, ha, qa, ma⟩ := qv.lst_inv
    exact call_len_seq pins s σ H _ us Q I r ⟨a, ws, rfl, .inl ha.sq, by rw [qa.len]; exact nof (.int _) k rfl⟩
  | tuple xs =>
    simp only [biD, Option.some.injEq, Prod.mk.injEq] at hf
    obtain ⟨rfl, rfl⟩ := hf
    obtain ⟨a, ws, rfl, ha, qa⟩ := qv.tup_inv
    exact call_len_seq pins s σ H _ us Q I r ⟨a, ws, rfl, .inr ha, by rw [qa.len]; exact nof (.int _) k rfl⟩
  | str z =>
    simp only [biD] at hf
    split at hf
    · rename_i hz
      cases hf
      obtain ⟨rfl, _⟩ := qv.str_inv
      exact call_len_str pins s σ H _ us Q I r ⟨z, rfl, small_le hz, nof (.int _) k rfl⟩
    · cases hf
  | _ => simp [biD] at hf
theorem cr_absD : CallR X (.builtin "abs") (rB X.K .abs) := by
  intro pins s σ H vs us Q I r h
  obtain ⟨ds, F, d, top, q, hf, k⟩ := h
  obtain ⟨x, rfl⟩ := biD_fst hf ⟨by decide, by decide⟩
  obtain ⟨v, G, rfl, qv, mv⟩ := q.one
  cases x with
  | int i =>
    simp only [biD, Option.some.injEq, Prod.mk.injEq] at hf
    obtain ⟨rfl, rfl⟩ := hf
    obtain ⟨rfl, _⟩ := qv.int_inv
    have e : (if i < 0 then -i else i) = (i.natAbs : Int) := by split <;> omega
    exact call_abs pins s σ H _ us Q I r ⟨i, rfl, by rw [e]; exact nof (.int _) k rfl⟩
  | _ => simp [biD] at hf
theorem cr_intD : CallR X (.type "int") (rB X.K .int) := by
  intro pins s σ H vs us Q I r h
  obtain ⟨ds, F, d, top, q, hf, k⟩ := h
  obtain ⟨x, rfl⟩ := biD_fst hf ⟨by decide, by decide⟩
  obtain ⟨v, G, rfl, qv, mv⟩ := q.one
  cases x with
  | int i =>
    simp only [biD, Option.some.injEq, Prod.mk.injEq] at hf
    obtain ⟨rfl, rfl⟩ := hf
    obtain ⟨rfl, _⟩ := qv.int_inv
    exact call_int1 pins s σ H _ us Q I r (.inl ⟨i, rfl, nof (.int _) k rfl⟩)
  | bool b =>
    simp only [biD, Option.some.injEq, Prod.mk.injEq] at hf
    obtain ⟨rfl, rfl⟩ := hf
    obtain ⟨rfl, _⟩ := qv.bool_inv
    exact call_int1 pins s σ H _ us Q I r (.inr ⟨b, rfl, nof (.int _) k rfl⟩)
  | _ => simp [biD] at hf
theorem intsD_inv : ∀ {xs : List D} {ns : List Int}, intsD xs = some ns → xs = ns.map .int
  | [], ns, h => by simp [intsD] at h; subst h; rfl
  | x :: xs, ns, h => by
    cases x with
    | int i =>
      simp only [intsD, Option.map_eq_some_iff] at h
      obtain ⟨ms, h, rfl⟩ := h
      rw [intsD_inv h]; rfl
    | _ => simp [intsD] at h
theorem boolsD_inv : ∀ {xs : List D} {ns : List Bool}, boolsD xs = some ns → xs = ns.map .bool
  | [], ns, h => by simp [boolsD] at h; subst h; rfl
  | x :: xs, ns, h => by
    cases x with
    | bool i =>
      simp only [boolsD, Option.map_eq_some_iff] at h
      obtain ⟨ms, h, rfl⟩ := h
      rw [boolsD_inv h]; rfl
    | _ => simp [boolsD] at h
theorem Rs.ints : ∀ {vs : List V} {ns : List Int} {F : List Addr}, Rs K H vs (ns.map .int) F → vs = ns.map V.int
  | _, [], _, q => by cases q; rfl
  | _, n :: ns, _, q => by
    cases q with
    | cons q r => rw [(R.int_inv q).1, Rs.ints r]; rfl
theorem Rs.bools : ∀ {vs : List V} {ns : List Bool} {F : List Addr}, Rs K H vs (ns.map .bool) F → vs = ns.map V.bl
  | _, [], _, q => by cases q; rfl
  | _, n :: ns, _, q => by
    cases q with
    | cons q r => rw [(R.bool_inv q).1, Rs.bools r]; rfl
theorem ints_Rs : ∀ (ns : List Int), Rs K H (ns.map V.int) (ns.map .int) []
  | [] => .nil
  | n :: ns => by
    have := Rs.cons (.int n) (ints_Rs ns)
    simpa using this
theorem cr_sumD (hc : X.calm = true) : CallR X (.builtin "sum") (rB X.K .sum) := by
  intro pins s σ H vs us Q I r h
  obtain ⟨ds, F, d, top, q, hf, k⟩ := h
  obtain ⟨x, rfl⟩ := biD_fst hf ⟨by decide, by decide⟩
  obtain ⟨v, G, rfl, qv, mv⟩ := q.one
  cases x with
  | list xs =>
    simp only [biD, Option.map_eq_some_iff] at hf
    obtain ⟨ns, hn, e⟩ := hf
    cases e
    cases intsD_inv hn
    obtain ⟨a, ws, G1, rfl, ha, qa, ma⟩ := qv.lst_inv
    cases qa.ints
    exact cr_sum hc pins s σ H _ us Q I r ⟨a, ns, rfl, ha.sq, nof (.int _) k rfl⟩
  | _ => simp [biD] at hf
theorem cr_allD (hc : X.calm = true) : CallR X (.builtin "all") (rB X.K .all) := by
  intro pins s σ H vs us Q I r h
  obtain ⟨ds, F, d, top, q, hf, k⟩ := h
  obtain ⟨x, rfl⟩ := biD_fst hf ⟨by decide, by decide⟩
  obtain ⟨v, G, rfl, qv, mv⟩ := q.one
  cases x with
  | list xs =>
    simp only [biD, Option.map_eq_some_iff] at hf
    obtain ⟨ns, hn, e⟩ := hf
    cases e
    cases boolsD_inv hn
    obtain ⟨a, ws, G1, rfl, ha, qa, ma⟩ := qv.lst_inv
    cases qa.bools
    exact cr_all hc pins s σ H _ us Q I r ⟨a, ns, rfl, ha.sq, nof (.bl _) k rfl⟩
  | _ => simp [biD] at hf
theorem cr_anyD (hc : X.calm = true) : CallR X (.builtin "any") (rB X.K .any) := by
  intro pins s σ H vs us Q I r h
  obtain ⟨ds, F, d, top, q, hf, k⟩ := h
  obtain ⟨x, rfl⟩ := biD_fst hf ⟨by decide, by decide⟩
  obtain ⟨v, G, rfl, qv, mv⟩ := q.one
  cases x with
  | list xs =>
    simp only [biD, Option.map_eq_some_iff] at hf
    obtain ⟨ns, hn, e⟩ := hf
    cases e
    cases boolsD_inv hn
    obtain ⟨a, ws, G1, rfl, ha, qa, ma⟩ := qv.lst_inv
    cases qa.bools
    exact cr_any hc pins s σ H _ us Q I r ⟨a, ns, rfl, ha.sq, nof (.bl _) k rfl⟩
  | _ => simp [biD] at hf
theorem cr_listD : CallR X (.type "list") (rB X.K .list) := by
  intro pins s σ H vs us Q I r h
  obtain ⟨ds, F, d, top, q, hf, k⟩ := h
  obtain ⟨x, rfl⟩ := biD_fst hf ⟨by decide, by decide⟩
  obtain ⟨v, G, rfl, qv, mv⟩ := q.one
  cases x with
  | list xs =>
    simp only [biD, Option.some.injEq, Prod.mk.injEq] at hf
    obtain ⟨rfl, rfl⟩ := hf
    obtain ⟨a, ws, G1, rfl, ha, qa, ma⟩ := qv.lst_inv
    exact call_list_of pins s σ H _ us Q I r ⟨a, ws, rfl, .inl ha.sq, new_list (F := F) qa (fun b h => mv b (ma b h)) k⟩
  | tuple xs =>
    simp only [biD, Option.some.injEq, Prod.mk.injEq] at hf
    obtain ⟨rfl, rfl⟩ := hf
    obtain ⟨a, ws, rfl, ha, qa⟩ := qv.tup_inv
    exact call_list_of pins s σ H _ us Q I r ⟨a, ws, rfl, .inr ha, new_list (F := F) qa mv k⟩
  | _ => simp [biD] at hf
theorem cr_tupleD : CallR X (.type "tuple") (rB X.K .tuple) := by
  intro pins s σ H vs us Q I r h
  obtain ⟨ds, F, d, top, q, hf, k⟩ := h
  obtain ⟨x, rfl⟩ := biD_fst hf ⟨by decide, by decide⟩
  obtain ⟨v, G, rfl, qv, mv⟩ := q.one
  cases x with
  | list xs =>
    simp only [biD, Option.some.injEq, Prod.mk.injEq] at hf
    obtain ⟨rfl, rfl⟩ := hf
    obtain ⟨a, ws, G1, rfl, ha, qa, ma⟩ := qv.lst_inv
    exact call_tuple_of pins s σ H _ us Q I r ⟨a, ws, rfl, .inl ⟨ha.sq, new_tup (F := F) qa (fun b h => mv b (ma b h)) fun v H' G' kk q m => k v H' G' kk q m fun hi hn => by simp [imm] at hn; simp_all⟩⟩
  | tuple xs =>
    simp only [biD, Option.some.injEq, Prod.mk.injEq] at hf
    obtain ⟨rfl, rfl⟩ := hf
    obtain ⟨a, ws, rfl, ha, qa⟩ := qv.tup_inv
    exact call_tuple_of pins s σ H _ us Q I r ⟨a, ws, rfl, .inr ⟨ha, k _ H G (fun _ _ e _ => e) qv (fun b h => .inl (mv b h)) fun hi hn => by simp [imm] at hn; simp_all⟩⟩
  | _ => simp [biD] at hf
mutual
theorem R.dpN : ∀ {v : V} {d : D} {F : List Addr}, R K H v d F → d.hasDict = false → Dp K H v d
  | _, _, _, .non, _ => .non
  | _, _, _, .bl _, _ => .bl _
  | _, _, _, .int _, _ => .int _
  | _, _, _, .str _, _ => .str _
  | _, _, _, .lst e q, h => .lst (.inl (.inl e)) (Rs.dpN q h)
  | _, _, _, .lstK e q, h => .lst e.sq (Rs.dpN q h)
  | _, _, _, .tup e q, h => .tup e (Rs.dpN q h)
  | _, _, _, .dic e q, h => by simp [PyData.hasDict] at h
theorem Rs.dpN : ∀ {v : List V} {d : List D} {F : List Addr}, Rs K H v d F → PyData.hasDictAll d = false → DpAll K H v d
  | _, _, _, .nil, _ => .nil
  | _, d :: ds, _, .cons q r, h => by
    have h' : d.hasDict = false ∧ PyData.hasDictAll ds = false := by simpa [PyData.hasDictAll] using h
    exact .cons (R.dpN q h'.1) (Rs.dpN r h'.2)
end
theorem cr_reprD (hu : X.A.units + 100 < cLine) (hg : X.A.guards = some []) : CallR X (.builtin "repr") (rB X.K .repr) := by
  intro pins s σ H vs us Q I r h
  obtain ⟨ds, F, d, top, q, hf, k⟩ := h
  obtain ⟨x, rfl⟩ := biD_fst hf ⟨by decide, by decide⟩
  obtain ⟨v, G, rfl, qv, mv⟩ := q.one
  simp only [biD] at hf
  split at hf
  · rename_i ho
    cases hf
    simp only [reprOk, Bool.and_eq_true, Bool.not_eq_true', decide_eq_true_eq] at ho
    obtain ⟨⟨⟨h1, h2⟩, h3⟩, h4⟩ := ho
    have hz : x.shown.length ≤ sizeLine := small_le h3
    have done : ∀ s', L2.Inv X pins σ H s' → ∀ tk, EP X pins σ Q (.str x.shown tk) s' := fun s' I' tk => ⟨.str x.shown, H, I', ⟨_, rfl⟩, nof (.str _) k rfl⟩
    cases r with
    | cons rv rt =>
      cases rt
      have viaRef : ∀ a, R X.K H (.ref a) x G → wpAny (model X.prog X.w) X.A (call (.builtin "repr") [.ref a]) (EP X pins σ Q) X.xe s := fun a qa => by
        obtain ⟨as, rd⟩ := Dp.reads I x _ (.ref a) (qa.dpN h2) rfl
        exact repr_of_reads' rd h1 (PyData.noDict_hsm h2) hg (by omega) (fun _ _ e => e) (fun h' u tk hk => done _ (I.kept hk) u) hz
      cases x with
      | none =>
        cases qv
        cases rv
        exact PySem.P.repr_of_none (done _ (I.tok _) _)
      | bool b =>
        cases qv
        cases rv
        refine PySem.P.repr_of_bool ?_
        have e : ((if b = true then "True" else "False" : String) : Str) = (PyData.bool b).shown := by cases b <;> rfl
        cases b
        · exact done _ (I.tok _) _
        · exact done _ (I.tok _) _
      | int i =>
        cases qv
        obtain ⟨t, rfl⟩ := rv
        exact PySem.P.repr_of_int (by simpa [PyData.showable] using h1) (done _ (I.tok _) _)
      | str z =>
        cases qv
        obtain ⟨t, rfl⟩ := rv
        exact PySem.P.repr_of_str (done _ (I.tok _) _) hz
      | list xs =>
        obtain ⟨a, ws, G1, rfl, _⟩ := qv.lst_inv
        cases rv
        exact viaRef a qv
      | tuple xs =>
        obtain ⟨a, ws, rfl, _⟩ := qv.tup_inv
        cases rv
        exact viaRef a qv
      | dict kvs => simp [PyData.hasDict] at h2
  · cases hf
/-! ### sorting -/
theorem alikes_all : ∀ {xs : List D}, alikes xs = true → W.AllAlike xs
  | [], _ => fun d hd => by cases hd
  | x :: xs, h => by
    simp only [alikes, Bool.and_eq_true, List.all_eq_true] at h
    obtain ⟨⟨h1, h2⟩, h3⟩ := h
    have ih := alikes_all h3
    intro d hd e he
    rcases List.mem_cons.mp hd with e1 | hd1
    · rcases List.mem_cons.mp he with e2 | he1
      · rw [e1, e2]; exact h1
      · rw [e1]; exact (h2 e he1).1
    · rcases List.mem_cons.mp he with e2 | he1
      · rw [e2]; exact (h2 d hd1).2
      · exact ih d hd1 e he1
theorem tupsFull_all : ∀ {xs : List D}, tupsFull xs = true → ∀ d, d ∈ xs → ∃ x r, d = .tuple (x :: r)
  | [], _, d, hd => by cases hd
  | x :: xs, h, d, hd => by
    cases x with
    | tuple ys =>
      cases ys with
      | nil => simp [tupsFull] at h
      | cons y r =>
        rcases List.mem_cons.mp hd with rfl | hd
        · exact ⟨y, r, rfl⟩
        · exact tupsFull_all (by simpa [tupsFull] using h) d hd
    | _ => simp [tupsFull] at h
theorem noTups_all : ∀ {xs : List D}, noTups xs = true → ∀ d, d ∈ xs → d ≠ .none ∧ ∀ ys, d ≠ .tuple ys
  | [], _, d, hd => by cases hd
  | x :: xs, h, d, hd => by
    cases x <;> simp [noTups] at h <;> rcases List.mem_cons.mp hd with rfl | hd <;> first
      | exact noTups_all h _ hd
      | exact ⟨by simp, by simp⟩
theorem sortable_of {xs : List D} (h : (tupsFull xs || noTups xs) = true) : W.Sortable xs := by
  rw [Bool.or_eq_true] at h
  exact h.imp tupsFull_all noTups_all
/-- items with what they stand for -/
theorem each_of {X : Cx} {pins : List (Addr × Obj)} {σ : L2.St} {s : Shared} (I : L2.Inv X pins σ H s) : ∀ {ws : List V} {ds : List D} {F : List Addr} {us : List Value}, Rs X.K H ws ds F → Vals ws us → (∀ d ∈ ds, d.hasDict = false) →
    ∃ bs : List (D × V), bs.map (·.1) = ds ∧ W.EachIs (fun u b => RelV b.2 u ∧ ∃ G, R X.K H b.2 b.1 G ∧ ∀ a ∈ G, a ∈ F) us bs ∧ W.EachIs (fun u (b : D × V) => ∃ as, Reads s.heap u b.1 as) us bs
  | _, _, _, _, .nil, .nil, _ => ⟨[], rfl, .nil, .nil⟩
  | _, _, _, _, .cons (v := v) (d := d) q r, .cons rv rt, h => by
    obtain ⟨bs, e, h1, h2⟩ := each_of I r rt fun d hd => h d (List.mem_cons_of_mem _ hd)
    obtain ⟨as, rd⟩ := Dp.reads I d v _ (q.dpN (h d List.mem_cons_self)) rv
    exact ⟨(d, v) :: bs, by rw [List.map_cons, e], .cons ⟨rv, _, q, fun a h => List.mem_append_left _ h⟩ (h1.mono fun u b ⟨x, G, y, z⟩ => ⟨x, G, y, fun a h => List.mem_append_right _ (z a h)⟩), .cons ⟨as, rd⟩ h2⟩
theorem each_back {us : List Value} {F : List Addr} : ∀ {bs : List (D × V)}, W.EachIs (fun u b => RelV b.2 u ∧ ∃ G, R K H b.2 b.1 G ∧ ∀ a ∈ G, a ∈ F) us bs → Vals (bs.map (·.2)) us ∧ ∃ G, Rs K H (bs.map (·.2)) (bs.map (·.1)) G ∧ ∀ a ∈ G, a ∈ F := by
  intro bs h
  induction h with
  | nil => exact ⟨.nil, [], .nil, nil_all⟩
  | cons h t ih =>
    obtain ⟨rv, G, q, m⟩ := h
    obtain ⟨r1, G2, q2, m2⟩ := ih
    exact ⟨.cons rv r1, _, .cons q q2, fun a h => (List.mem_append.mp h).elim (m a) (m2 a)⟩
theorem shaped_noDict {d : D} (h : SeqAt.shaped d = true) : d.hasDict = false := PyData.hasDict_of_canLay d (SeqAt.canLay_of_shaped h)
theorem sortD_map (bs : List (D × V)) : (bs.mergeSort (W.dataLe false (·.1))).map (·.1) = sortD (bs.map (·.1)) := by
  unfold sortD
  exact List.map_mergeSort fun a _ b _ => rfl
theorem sortD_ints (ns : List Int) : sortD (ns.map .int) = (ns.mergeSort (fun a b => decide (a ≤ b))).map .int := by
  unfold sortD
  refine (List.map_mergeSort fun a _ b _ => ?_).symm
  have := congrFun (congrFun (W.dataLe_int (fun n : Int => n)) a) b
  exact this.symm
theorem le_trans_b : ∀ a b c : Int, decide (a ≤ b) = true → decide (b ≤ c) = true → decide (a ≤ c) = true := fun a b c h1 h2 => by simp at *; omega
theorem le_total_b : ∀ a b : Int, (decide (a ≤ b) || decide (b ≤ a)) = true := fun a b => by simp; omega
theorem sorted_uniq {ys ns : List Int} (h : ys.Perm ns) (hs : ys.Pairwise (· ≤ ·)) : ys = ns.mergeSort (fun a b => decide (a ≤ b)) := by
  have h2 := List.pairwise_mergeSort le_trans_b le_total_b ns
  refine List.Perm.eq_of_pairwise (le := fun a b => a ≤ b) (fun a b _ _ h1 h2 => by omega) hs (h2.imp fun h => by simpa using h) (h.trans (List.mergeSort_perm ns _).symm)
theorem Rk.keys : ∀ {kvs : List (Key × V)} {ds : List (D × D)} {F : List Addr}, Rk K H kvs ds F → kvs.map (fun p => keyD p.1) = ds.map (·.1)
  | _, _, _, .nil => rfl
  | _, _, _, .cons q r => by rw [List.map_cons, List.map_cons, Rk.keys r]
theorem keys_int : ∀ {ks : List Key} {ns : List Int}, ks.map keyD = ns.map .int → ks = ns.map Sum.inl
  | [], [], _ => rfl
  | [], _ :: _, h => by simp at h
  | _ :: _, [], h => by simp at h
  | k :: ks, n :: ns, h => by
    simp only [List.map_cons, List.cons.injEq] at h
    rw [List.map_cons, keys_int h.2]
    cases k with
    | inl i => simp only [keyD, PyData.int.injEq] at h; rw [h.1]
    | inr x => simp [keyD] at h
theorem cr_sortedD (hc : X.calm = true) (hu : X.A.units + 100 < cLine) : CallR X (.builtin "sorted") (rB X.K .sorted) := by
  intro pins s σ H vs us Q I r h
  obtain ⟨ds, F, d, top, q, hf, k⟩ := h
  obtain ⟨x, rfl⟩ := biD_fst hf ⟨by decide, by decide⟩
  obtain ⟨v, G, rfl, qv, mv⟩ := q.one
  cases x with
  | list xs =>
    simp only [biD] at hf
    split at hf
    · rename_i ho
      cases hf
      simp only [sortOk, Bool.and_eq_true, List.all_eq_true] at ho
      obtain ⟨⟨⟨h1, h2⟩, h3⟩, h4⟩ := ho
      obtain ⟨a, ws, G1, rfl, ha, qa, ma⟩ := qv.lst_inv
      obtain ⟨u, rfl, ru⟩ := vals1 r
      cases ru
      obtain ⟨its, rv, pl, hz⟩ := I.list ha.sq
      obtain ⟨bs, eb, e1, e2⟩ := each_of I qa rv fun d hd => shaped_noDict (h4 d hd)
      subst eb
      refine W.sorted_data (enc := fun b : D × V => b.1) pl.isList e1 e2 (alikes_all h1) (sortable_of h2) (by rw [← List.length_map (f := fun b : D × V => b.1)]; exact small_le h3) (fun b hb => ?_) fun out hl e3 => ?_
      · have := SeqAt.depth_of_shaped (h4 b.1 (List.mem_map.mpr ⟨b, hb, rfl⟩))
        omega
      · obtain ⟨r3, G3, q3, m3⟩ := each_back e3
        obtain ⟨ep, he⟩ := PyProof.Rows.sortedAll_at s.heap its (List.toArray out)
        rw [sortD_map] at q3
        have hlen : ((bs.mergeSort (W.dataLe false (·.1))).map (·.2)).length ≤ sizeLine := by
          rw [r3.length, hl, ← List.length_map (f := fun b : D × V => b.1)]; exact small_le h3
        refine ⟨.ref _, upd H (s.heap.objs.size + 1) (.lst ((bs.mergeSort (W.dataLe false (·.1))).map (·.2))), I.laid (t' := s.toks) (fun _ _ => PyProof.Rows.sortedAll_old) (Nat.le_succ _) ⟨hlen, out, ep, r3, he⟩, rfl, ?_⟩
        exact new_list (F := F) q3 (fun b h => mv b (ma b (m3 b h))) k _ (I.hok.fresh (Nat.le_succ _))
    · cases hf
  | dict kvs =>
    simp only [biD] at hf
    split at hf
    · rename_i ho
      cases hf
      simp only [Bool.and_eq_true, decide_eq_true_eq] at ho
      obtain ⟨⟨h1, h2⟩, h3⟩ := ho
      obtain ⟨ns, hn⟩ := Option.isSome_iff_exists.mp h3
      have hk := intsD_inv hn
      obtain ⟨a, ks, G1, rfl, ha, rfl, qa⟩ := qv.dic_inv
      have e1 : ks.map (·.1) = ns.map Sum.inl := keys_int (by rw [List.map_map, ← hk]; exact qa.keys)
      have hl : ns.length < 64 := by
        have := congrArg List.length hk
        simp only [List.length_map] at this
        omega
      refine call_sortedDI hc pins s σ H _ us Q I r ⟨a, ks, ns, rfl, .inl ha, e1, hl, fun ys p hp hs hn' => ?_⟩
      rw [sorted_uniq hp hs]
      rw [hk, sortD_ints] at k
      exact new_list (F := F) (ints_Rs _) nil_all k p hn'
    · cases hf
  | _ => simp [biD] at hf
/-! ### min, max -/
theorem call_min_twoH {prog : Program} {w : World} {A : Around} {E : Value → Shared → Prop} {s : Shared} {a b : Value} {Q : Value → Shared → Prop}
    (h : wpAny (model prog w) A.in1 (pyIter (.ref s.heap.objs.size)) (fun it s₂ => ∃ I fp wr G n P St0 H bt, it = .ref I ∧ WalksS prog w A.in1 I fp wr G n P St0 ∧ St0 0 s₂ ∧ (∀ b ∈ fp, b < s₂.heap.objs.size) ∧ 0 < n ∧
      (∀ b o, Heap.get? H b = some o → b ∉ wr) ∧ (∀ b o, Heap.get? H b = some o → s₂.heap.get? b = some o) ∧ CmpIn prog w A.in1 .Lt H P bt ∧ ∀ v s', P (argBest bt (n - 1)) v → Moved wr G s₂ s' → Q v s') E { s with heap := s.heap.push { cls := .type "tuple", data := .seq #[a, b] } }) :
    wpAny (model prog w) A (call (.builtin "min") [a, b]) Q E s := by
  have hname : (toString "min" ++ toString ".loop" : String) = "min.loop" := by decide
  refine call_function_tree F.kind_min F.plain_min F.entry_min (F.args_min2 _ _) ?_
  show wpAny _ A.in1 (Builtin.Builtins.bindParams "min" ["key", "default"] 0 ⟨[], []⟩ >>= _) _ _ s
  refine wpAny_bind (wpAny_of_eq (show Builtin.Builtins.bindParams "min" ["key", "default"] 0 ⟨[], []⟩ = pure [none, none] from rfl) ?_)
  show wpAny _ A.in1 (newTuple [a, b] >>= _) _ _ s
  refine wpAny_bind (wpAny_newObj_type ?_)
  refine wpAny_bind (wpAny_mono h (fun it s₂ h₂ => ?_) fun _ _ e => e)
  obtain ⟨I, fp, wr, G, n, P, St0, H, bt, rfl, W, hst, hfp, hn, hw, hkeep, hcmp, hQ⟩ := h₂
  refine wpAny_bind (wpAny_newObj_type ?_)
  have hSf : s₂.heap.objs.size ∉ fp := fun hm => Nat.lt_irrefl _ (hfp _ hm)
  rw [hname]
  refine wpAny_pure ⟨plainId_quiet F.plain_min_loop _, codeAny_min_loop_firstH W H hw bt hcmp s₂.heap.objs.size hSf (fresh_in hkeep) _ hn (fun b o e => Heap.get?_push_of_some _ (hkeep b o e)) (W.frame 0 s₂ _ s₂.toks hst (Nat.le_refl _) fun b _ o e => Heap.get?_push_of_some _ e) (Heap.get?_push_size _ rfl) fun v s' hP hm => ?_⟩
  exact hQ v s' hP (Moved.drop_new (tk := s₂.toks) hm (Nat.le_refl _))
theorem call_max_twoH {prog : Program} {w : World} {A : Around} {E : Value → Shared → Prop} {s : Shared} {a b : Value} {Q : Value → Shared → Prop}
    (h : wpAny (model prog w) A.in1 (pyIter (.ref s.heap.objs.size)) (fun it s₂ => ∃ I fp wr G n P St0 H bt, it = .ref I ∧ WalksS prog w A.in1 I fp wr G n P St0 ∧ St0 0 s₂ ∧ (∀ b ∈ fp, b < s₂.heap.objs.size) ∧ 0 < n ∧
      (∀ b o, Heap.get? H b = some o → b ∉ wr) ∧ (∀ b o, Heap.get? H b = some o → s₂.heap.get? b = some o) ∧ CmpIn prog w A.in1 .Gt H P bt ∧ ∀ v s', P (argBest bt (n - 1)) v → Moved wr G s₂ s' → Q v s') E { s with heap := s.heap.push { cls := .type "tuple", data := .seq #[a, b] } }) :
    wpAny (model prog w) A (call (.builtin "max") [a, b]) Q E s := by
  have hname : (toString "max" ++ toString ".loop" : String) = "max.loop" := by decide
  refine call_function_tree F.kind_max F.plain_max F.entry_max (F.args_max2 _ _) ?_
  show wpAny _ A.in1 (Builtin.Builtins.bindParams "max" ["key", "default"] 0 ⟨[], []⟩ >>= _) _ _ s
  refine wpAny_bind (wpAny_of_eq (show Builtin.Builtins.bindParams "max" ["key", "default"] 0 ⟨[], []⟩ = pure [none, none] from rfl) ?_)
  show wpAny _ A.in1 (newTuple [a, b] >>= _) _ _ s
  refine wpAny_bind (wpAny_newObj_type ?_)
  refine wpAny_bind (wpAny_mono h (fun it s₂ h₂ => ?_) fun _ _ e => e)
  obtain ⟨I, fp, wr, G, n, P, St0, H, bt, rfl, W, hst, hfp, hn, hw, hkeep, hcmp, hQ⟩ := h₂
  refine wpAny_bind (wpAny_newObj_type ?_)
  have hSf : s₂.heap.objs.size ∉ fp := fun hm => Nat.lt_irrefl _ (hfp _ hm)
  rw [hname]
  refine wpAny_pure ⟨plainId_quiet F.plain_max_loop _, codeAny_max_loop_firstH W H hw bt hcmp s₂.heap.objs.size hSf (fresh_in hkeep) _ hn (fun b o e => Heap.get?_push_of_some _ (hkeep b o e)) (W.frame 0 s₂ _ s₂.toks hst (Nat.le_refl _) fun b _ o e => Heap.get?_push_of_some _ e) (Heap.get?_push_size _ rfl) fun v s' hP hm => ?_⟩
  exact hQ v s' hP (Moved.drop_new (tk := s₂.toks) hm (Nat.le_refl _))
theorem cr_min2D (hc : X.calm = true) (hu : X.A.units + 100 < cLine) : CallR X (.builtin "min") (rB X.K .min2) := by
  intro pins s σ H vs us Q I r h
  obtain ⟨ds, F, d, top, q, hf, k⟩ := h
  rcases biD_one hf with ⟨x, rfl⟩ | ⟨x, y, rfl⟩
  · cases x <;> simp [biD] at hf
  obtain ⟨v, w, G1, G2, rfl, qv, qw, m1, m2⟩ := q.two
  cases x with
  | int i =>
    cases y with
    | int j =>
      simp only [biD, Option.some.injEq, Prod.mk.injEq] at hf
      obtain ⟨rfl, rfl⟩ := hf
      obtain ⟨rfl, _⟩ := qv.int_inv
      obtain ⟨rfl, _⟩ := qw.int_inv
      exact call_min2 hc pins s σ H _ us Q I r ⟨i, j, rfl, nof (.int _) k rfl⟩
    | _ => simp [biD] at hf
  | tuple xs =>
    cases y with
    | tuple ys =>
      simp only [biD] at hf
      split at hf
      · rename_i ho
        cases hf
        simp only [Bool.and_eq_true] at ho
        obtain ⟨⟨h1, h2⟩, h3⟩ := ho
        have hal := alikes_all h1
        obtain ⟨u1, u2, rfl, ru1, ru2⟩ := vals2 r
        obtain ⟨as1, rd1⟩ := Dp.reads I _ _ u1 (qv.dps h2) ru1
        obtain ⟨as2, rd2⟩ := Dp.reads I _ _ u2 (qw.dps h3) ru2
        have hT : (s.heap.push { cls := .type "tuple", data := .seq #[u1, u2] }).IsTuple s.heap.objs.size #[u1, u2] := ⟨_, Heap.get?_push_size _ rfl, rfl, 0, rfl⟩
        refine call_min_twoH (W.iter_tupleW (A := X.A.in1) (I.ok.hd hc) hT fun s₂ e Wv st hfp hw hk => ?_)
        have kk : ∀ b o, s.heap.get? b = some o → (s.heap.push { cls := .type "tuple", data := .seq #[u1, u2] }).get? b = some o := fun b o e => Heap.get?_push_of_some _ e
        have rall : ReadsAll (s.heap.push { cls := .type "tuple", data := .seq #[u1, u2] }) (#[u1, u2] : Array Value).toList [.tuple xs, .tuple ys] (as1 ++ (as2 ++ [])) := .cons (Reads.keeps kk rd1) (.cons (Reads.keeps kk rd2) .nil)
        have ha : W.AlikeAll [.tuple xs, .tuple ys] := ⟨hal, fun d hd => by rcases List.mem_cons.mp hd with rfl | hd <;> simp_all⟩
        have hdp : X.A.in1.units + PyData.depthAll [.tuple xs, .tuple ys] < cLine := by
          have e1 := SeqAt.depth_of_shaped h2
          have e2 := SeqAt.depth_of_shaped h3
          show X.A.units + 1 + _ < cLine
          simp only [PyData.depthAll]
          omega
        refine ⟨_, _, _, _, _, _, _, _, _, rfl, Wv, st, hfp, Nat.zero_lt_succ 1, hw, hk, W.cmpIn_lt (A := X.A.in1) (s := { s with heap := s.heap.push { cls := .type "tuple", data := .seq #[u1, u2] } }) rall ha hdp, fun v' s' hP m => ?_⟩
        obtain ⟨h', tk, rfl, hk'⟩ := W.moved_old (s := { s with heap := s.heap.push { cls := .type "tuple", data := .seq #[u1, u2] } }) e rfl m
        have I' : L2.Inv X pins σ H { s with heap := h', toks := tk } := I.kept fun b o e => hk' b o (kk b o e)
        have hP' : (#[u1, u2] : Array Value)[argBest (fun i j => W.dataLt ([.tuple xs, .tuple ys].getD i .none) ([.tuple xs, .tuple ys].getD j .none)) 1]? = some v' := hP
        cases hb : W.dataLt (.tuple ys) (.tuple xs) with
        | true =>
          rw [if_pos hb] at k
          have e1 : argBest (fun i j => W.dataLt ([.tuple xs, .tuple ys].getD i .none) ([.tuple xs, .tuple ys].getD j .none)) 1 = 1 := by simp [argBest, hb]
          rw [e1] at hP'
          cases (show some u2 = some v' from hP')
          exact ⟨w, H, I', ru2, k w H G2 (fun _ _ e _ => e) qw (fun a h => .inl (m2 a h)) fun hi hn => by simp [imms] at hi; simp_all⟩
        | false =>
          rw [if_neg (by rw [hb]; exact Bool.false_ne_true)] at k
          have e1 : argBest (fun i j => W.dataLt ([.tuple xs, .tuple ys].getD i .none) ([.tuple xs, .tuple ys].getD j .none)) 1 = 0 := by simp [argBest, hb]
          rw [e1] at hP'
          cases (show some u1 = some v' from hP')
          exact ⟨v, H, I', ru1, k v H G1 (fun _ _ e _ => e) qv (fun a h => .inl (m1 a h)) fun hi hn => by simp [imms] at hi; simp_all⟩
      · cases hf
    | _ => simp [biD] at hf
  | _ => simp [biD] at hf
theorem cr_max2D (hc : X.calm = true) (hu : X.A.units + 100 < cLine) : CallR X (.builtin "max") (rB X.K .max2) := by
  intro pins s σ H vs us Q I r h
  obtain ⟨ds, F, d, top, q, hf, k⟩ := h
  rcases biD_one hf with ⟨x, rfl⟩ | ⟨x, y, rfl⟩
  · cases x <;> simp [biD] at hf
  obtain ⟨v, w, G1, G2, rfl, qv, qw, m1, m2⟩ := q.two
  cases x with
  | int i =>
    cases y with
    | int j =>
      simp only [biD, Option.some.injEq, Prod.mk.injEq] at hf
      obtain ⟨rfl, rfl⟩ := hf
      obtain ⟨rfl, _⟩ := qv.int_inv
      obtain ⟨rfl, _⟩ := qw.int_inv
      exact call_max2 hc pins s σ H _ us Q I r ⟨i, j, rfl, nof (.int _) k rfl⟩
    | _ => simp [biD] at hf
  | tuple xs =>
    cases y with
    | tuple ys =>
      simp only [biD] at hf
      split at hf
      · rename_i ho
        cases hf
        simp only [Bool.and_eq_true] at ho
        obtain ⟨⟨h1, h2⟩, h3⟩ := ho
        have hal := alikes_all h1
        obtain ⟨u1, u2, rfl, ru1, ru2⟩ := vals2 r
        obtain ⟨as1, rd1⟩ := Dp.reads I _ _ u1 (qv.dps h2) ru1
        obtain ⟨as2, rd2⟩ := Dp.reads I _ _ u2 (qw.dps h3) ru2
        have hT : (s.heap.push { cls := .type "tuple", data := .seq #[u1, u2] }).IsTuple s.heap.objs.size #[u1, u2] := ⟨_, Heap.get?_push_size _ rfl, rfl, 0, rfl⟩
        refine call_max_twoH (W.iter_tupleW (A := X.A.in1) (I.ok.hd hc) hT fun s₂ e Wv st hfp hw hk => ?_)
        have kk : ∀ b o, s.heap.get? b = some o → (s.heap.push { cls := .type "tuple", data := .seq #[u1, u2] }).get? b = some o := fun b o e => Heap.get?_push_of_some _ e
        have rall : ReadsAll (s.heap.push { cls := .type "tuple", data := .seq #[u1, u2] }) (#[u1, u2] : Array Value).toList [.tuple xs, .tuple ys] (as1 ++ (as2 ++ [])) := .cons (Reads.keeps kk rd1) (.cons (Reads.keeps kk rd2) .nil)
        have ha : W.AlikeAll [.tuple xs, .tuple ys] := ⟨hal, fun d hd => by rcases List.mem_cons.mp hd with rfl | hd <;> simp_all⟩
        have hdp : X.A.in1.units + PyData.depthAll [.tuple xs, .tuple ys] < cLine := by
          have e1 := SeqAt.depth_of_shaped h2
          have e2 := SeqAt.depth_of_shaped h3
          show X.A.units + 1 + _ < cLine
          simp only [PyData.depthAll]
          omega
        refine ⟨_, _, _, _, _, _, _, _, _, rfl, Wv, st, hfp, Nat.zero_lt_succ 1, hw, hk, W.cmpIn_gt (A := X.A.in1) (s := { s with heap := s.heap.push { cls := .type "tuple", data := .seq #[u1, u2] } }) rall ha hdp, fun v' s' hP m => ?_⟩
        obtain ⟨h', tk, rfl, hk'⟩ := W.moved_old (s := { s with heap := s.heap.push { cls := .type "tuple", data := .seq #[u1, u2] } }) e rfl m
        have I' : L2.Inv X pins σ H { s with heap := h', toks := tk } := I.kept fun b o e => hk' b o (kk b o e)
        have hP' : (#[u1, u2] : Array Value)[argBest (fun i j => W.dataLt ([.tuple xs, .tuple ys].getD j .none) ([.tuple xs, .tuple ys].getD i .none)) 1]? = some v' := hP
        cases hb : W.dataLt (.tuple xs) (.tuple ys) with
        | true =>
          rw [if_pos hb] at k
          have e1 : argBest (fun i j => W.dataLt ([.tuple xs, .tuple ys].getD j .none) ([.tuple xs, .tuple ys].getD i .none)) 1 = 1 := by simp [argBest, hb]
          rw [e1] at hP'
          cases (show some u2 = some v' from hP')
          exact ⟨w, H, I', ru2, k w H G2 (fun _ _ e _ => e) qw (fun a h => .inl (m2 a h)) fun hi hn => by simp [imms] at hi; simp_all⟩
        | false =>
          rw [if_neg (by rw [hb]; exact Bool.false_ne_true)] at k
          have e1 : argBest (fun i j => W.dataLt ([.tuple xs, .tuple ys].getD j .none) ([.tuple xs, .tuple ys].getD i .none)) 1 = 0 := by simp [argBest, hb]
          rw [e1] at hP'
          cases (show some u1 = some v' from hP')
          exact ⟨v, H, I', ru1, k v H G1 (fun _ _ e _ => e) qv (fun a h => .inl (m1 a h)) fun hi hn => by simp [imms] at hi; simp_all⟩
      · cases hf
    | _ => simp [biD] at hf
  | _ => simp [biD] at hf
end
end Cr
/-! # SetL: set(a list of ints). -/
namespace Cr
open PySem PySem.Spec PyProof.Rows L2
section
variable {P : Program} {w : World} {A : Around} {E : Value → Shared → Prop} {s : Shared}
set_option maxHeartbeats 3200000 in
theorem call_set_lstI {l : Addr} {items : Array Value} (ns : List Int) {Q : Value → Shared → Prop} (hh : A.handled = none) (hl : s.heap.IsList l items) (hit : IntsAre items.toList ns) (hb : ns.length + 1 < scanBound)
    (h : ∀ (h' : Heap) (tk c : Nat), SetR w h' s.heap.objs.size (fun j => decide (j ∈ ns)) c → c ≤ ns.length → (∀ b o, s.heap.get? b = some o → h'.get? b = some o) → Q (.ref s.heap.objs.size) { s with heap := h', toks := tk }) :
    wpAny (model P w) A (call (.type "set") [.ref l]) Q E s := by
  have hisz : items.size = ns.length := by
    have q := IntsAre.length hit
    rw [Array.length_toList] at q
    exact q
  obtain ⟨c, tl, hmro⟩ := F.called_set.mro
  have hmade := F.called_set.made
  have hsub := F.called_set.sub
  refine wpAny_call (codeAny_of_tree ?_)
  show wpAny _ _ (callAny (.type "set") _) _ _ _
  refine wpAny_pure ⟨Code.quiet_builtin _ (by decide +kernel), codeAny_builtin F.entry_type_call ?_⟩
  rw [Around.under_plain (weight_type_call_type "set" [.ref l] []) rfl]
  have h1 := F.called_set.notType
  have h2 := F.called_set.canCreate
  have hct := F.typeCall_set_1 (.ref l)
  repeat (any_goals (first | assumption | wp_step))

  refine codeAny_mono (code_set_led1 (.ref l) (E := E) (Q₁ := fun obj s₁ => obj = .ref s.heap.objs.size ∧ s₁ = { s with heap := s.heap.push { cls := .type "set", dict := none, data := .set #[] 0 (.fresh 0 0 (!w.params.followText "set-order")) } }) ⟨rfl, rfl⟩) fun r s₁ hr => ?_
  cases r with
  | error e => exact hr
  | ok fl =>
    cases fl with
    | ret obj =>
      obtain ⟨rfl, rfl⟩ := hr
      have hS : (s.heap.push { cls := .type "set", dict := none, data := .set #[] 0 (.fresh 0 0 (!w.params.followText "set-order")) }).get? s.heap.objs.size = some { cls := .type "set", dict := none, data := .set #[] 0 (.fresh 0 0 (!w.params.followText "set-order")) } := Heap.get?_push_size _ rfl
      have hT : Shared.TypeIs { s with heap := s.heap.push { cls := .type "set", dict := none, data := .set #[] 0 (.fresh 0 0 (!w.params.followText "set-order")) } } (.ref s.heap.objs.size) "set" := ⟨_, hS, rfl⟩
      have hli := F.called_set.init.lookup
      have hbi := F.called_set.init.bind (.ref s.heap.objs.size)
      repeat (any_goals (first | assumption | wp_step))

      refine codeAny_mono (codeAny_call_builtin (R := wants (fun r s₂ => r = .none ∧ ∃ h' tk c, s₂ = { s with heap := h', toks := tk } ∧ SetR w h' s.heap.objs.size (fun j => decide (j ∈ ns)) c ∧ c ≤ ns.length ∧
          (∀ b o, s.heap.get? b = some o → h'.get? b = some o)) E) F.called_set.init.plain F.entry_set_init (check_set_init_1 hT ?_)) fun r₂ s₂ hr₂ => ?_
      · obtain ⟨ol, hol, hcl, nl, hdl⟩ := hl
        obtain ⟨ocls, odict, odata, oslots⟩ := ol
        simp only at hcl hdl
        subst hcl; subst hdl
        have hol' : (s.heap.push { cls := .type "set", dict := none, data := .set #[] 0 (.fresh 0 0 (!w.params.followText "set-order")) }).get? l = some { cls := .type "list", dict := odict, data := .seq items nl, slots := oslots } := Heap.get?_push_of_some _ hol
        have hsls := F.sub_list_set
        have hslf := F.sub_list_frozenset
        have hne : (Value.type "list" == Value.type "dict") = false := by decide
        have hl1 : (s.heap.push { cls := .type "set", dict := none, data := .set #[] 0 (.fresh 0 0 (!w.params.followText "set-order")) }).IsList l items := ⟨_, hol', rfl, nl, rfl⟩
        unfold Builtin.«set.__init__» noKeywords Builtin.Frozenset.updateFrom
        generalize hPI : pyIter = PI
        wp_walk
        subst hPI

        refine wpAny_pyIter_list hl1 ?_
        refine wpAny_bind (wpAny_runValue ?_)
        have hlS : l < s.heap.objs.size := Heap.lt_size hol
        have hh3 : A.in1.in1.in1.handled = none := by simp [hh]
        have hz1 : (s.heap.push { cls := .type "set", dict := none, data := .set #[] 0 (.fresh 0 0 (!w.params.followText "set-order")) }).objs.size = s.heap.objs.size + 1 := Heap.size_push ..
        have hneI : l ≠ (s.heap.push { cls := .type "set", dict := none, data := .set #[] 0 (.fresh 0 0 (!w.params.followText "set-order")) }).objs.size := by
          rw [Heap.size_push]; exact Nat.ne_of_lt (Nat.lt_succ_of_lt hlS)
        have hSf : s.heap.objs.size ∉ [(s.heap.push { cls := .type "set", dict := none, data := .set #[] 0 (.fresh 0 0 (!w.params.followText "set-order")) }).objs.size, l] := by
          rw [Heap.size_push]; simp only [List.mem_cons, List.mem_singleton, List.not_mem_nil, or_false, not_or]
          exact ⟨Nat.ne_of_lt (Nat.lt_succ_self _), Nat.ne_of_gt hlS⟩
        have hval : ∀ (i : Nat) (v : Value), items[i]? = some v → ∃ k t, ns[i]? = some k ∧ v = .int k t := fun i v hv => by
          have hi : i < ns.length := by rw [← hisz]; exact (Array.getElem?_eq_some_iff.mp hv).1
          obtain ⟨t, e⟩ := PyProof.Rows.IntsAre.int_at hit i v (by rw [Array.getElem?_toList]; exact hv)
          refine ⟨ns[i], t, List.getElem?_eq_getElem hi, ?_⟩
          rw [e, List.getD_eq_getElem?_getD, List.getElem?_eq_getElem hi] <;> rfl
        refine set_update_ints ((Walks.list hh3 _ l hneI items).toS) s.heap.objs.size
          hSf ns hisz hb hval (items.size - 0) 0 _ (by omega) (Nat.zero_le _)
          ⟨⟨_, Heap.get?_push_size _ rfl, rfl, rfl⟩, (hl1.push _)⟩ ?hS0 ?hR
        case hS0 =>
          have hget : ((s.heap.push { cls := .type "set", dict := none, data := .set #[] 0 (.fresh 0 0 (!w.params.followText "set-order")) }).push { cls := .type "list_iterator", data := .fields #[.ref l, .int 0 0] }).get? s.heap.objs.size
              = some { cls := .type "set", dict := none, data := .set #[] 0 (.fresh 0 0 (!w.params.followText "set-order")) } := Heap.get?_push_of_some _ hS
          exact ⟨0, Nat.le_refl 0, setR_new_at hget⟩
        case hR =>
          intro s' c' hm hc' hS'
          obtain ⟨h', g2, d', tk', os'⟩ := s'
          have eg : g2 = s.gens := hm.gens
          have ed : d' = s.drawn := hm.drawn
          have eo : os' = s.os := hm.os
          subst eg; subst ed; subst eo
          show wpAny _ _ _ _ _ _
          refine wpAny_pure ?_
          show wpAny _ _ (ret Value.none) _ _ _
          rw [hisz] at hc'
          refine wpAny_pure ⟨rfl, h', tk', c', rfl, hS', hc', fun b o e => ?_⟩
          have hb0 : b < s.heap.objs.size := Heap.lt_size e
          have hb1 : b ≠ s.heap.objs.size := Nat.ne_of_lt hb0
          have hb2 : b ≠ (s.heap.push { cls := .type "set", dict := none, data := .set #[] 0 (.fresh 0 0 (!w.params.followText "set-order")) }).objs.size := by
            rw [Heap.size_push]; exact Nat.ne_of_lt (Nat.lt_succ_of_lt hb0)
          exact hm.heap b o (by simp only [List.mem_cons, List.mem_singleton, List.not_mem_nil, or_false, not_or]; exact ⟨hb1, hb2⟩) (Heap.get?_push_of_some _ (Heap.get?_push_of_some _ e))

      · cases r₂ with
        | error e => exact hr₂
        | ok fl₂ =>
          cases fl₂ with
          | ret r =>
            obtain ⟨rfl, h', tk, c', rfl, hS', hc', hk'⟩ := hr₂
            repeat (any_goals (first | assumption | wp_step))
            exact h _ _ _ hS' hc' hk'
          | _ => exact hr₂.elim
    | _ => exact hr.elim

end
end Cr
set_option maxHeartbeats 1000000
/-! # Rules4: min, max of lists; sorted sets; ranges as lists. -/
namespace Cr
open PySem PySem.Spec PyProof.Rows L2
section
variable {K : PySem.W.Frag} {H H' : Hp} {X : Cx}
theorem depthAll_le {n : Nat} : ∀ {xs : List D}, (∀ d ∈ xs, d.depth ≤ n) → PyData.depthAll xs ≤ n
  | [], _ => by simp [PyData.depthAll]
  | x :: xs, h => by
    have h1 := h x List.mem_cons_self
    have h2 := depthAll_le (xs := xs) fun d hd => h d (List.mem_cons_of_mem _ hd)
    simp only [PyData.depthAll]
    omega
theorem cr_minsD (hc : X.calm = true) (hu : X.A.units + 100 < cLine) : CallR X (.builtin "min") (rB X.K .mins) := by
  intro pins s σ H vs us Q I r h
  obtain ⟨ds, F, d, top, q, hf, k⟩ := h
  obtain ⟨x, rfl⟩ := biD_fst hf ⟨by decide, by decide⟩
  obtain ⟨v, G, rfl, qv, mv⟩ := q.one
  cases x with
  | list zs =>
    cases zs with
    | nil => simp [biD] at hf
    | cons x xs =>
      simp only [biD] at hf
      split at hf
      · rename_i ho
        cases hf
        simp only [Bool.and_eq_true, List.all_eq_true, Bool.not_eq_true'] at ho
        obtain ⟨h1, h2⟩ := ho
        have hal := alikes_all h1
        obtain ⟨a, ws, G1, rfl, ha, qa, ma⟩ := qv.lst_inv
        obtain ⟨u, rfl, ru⟩ := vals1 r
        cases ru
        obtain ⟨its, rv, pl, hz⟩ := I.list ha.sq
        obtain ⟨as, rd⟩ := Dp.readsAll I (x :: xs) ws its (Rs.dpN qa (by
          have : ∀ l : List D, (∀ d ∈ l, d.hasDict = false) → PyData.hasDictAll l = false := fun l => by
            induction l with
            | nil => intro _; rfl
            | cons d l ih => intro h; simp only [PyData.hasDictAll, h d List.mem_cons_self, ih fun e he => h e (List.mem_cons_of_mem _ he), Bool.or_false]
          exact this _ fun d hd => shaped_noDict (h2 d hd).1)) rv
        have hA : W.AlikeAll (x :: xs) := ⟨hal, fun d hd e => by have := (h2 d hd).2; rw [e] at this; simp [isNon] at this⟩
        have hd := depthAll_le (n := 64) (xs := x :: xs) fun d hd => SeqAt.depth_of_shaped (h2 d hd).1
        refine W.min_list_data (I.ok.hd hc) pl.isList (by simpa using rd) hA (by omega) fun i w h' tk bs hi rw' hk => ?_
        have hiL : its[i]? = some w := by simpa using hi
        obtain ⟨y, ey⟩ : ∃ y, (x :: xs)[i]? = some y := by
          have l1 := (List.getElem?_eq_some_iff.mp hiL).1
          have l2 := rv.length
          have l3 := qa.len
          exact ⟨_, List.getElem?_eq_getElem (by omega)⟩
        obtain ⟨z, G2, ez, qz, mz⟩ := qa.get ey
        obtain ⟨w', ew, rz⟩ := rv.get ez
        rw [hiL] at ew
        cases ew
        have hy : y ∈ x :: xs := List.mem_of_getElem? ey
        obtain ⟨bs2, rd2⟩ := Dp.reads I y z _ (qz.dpN (shaped_noDict (h2 y hy).1)) rz
        have hm : W.minD x xs ∈ x :: xs := by
          have key : ∀ (l : List D) (a : D), W.minD a l ∈ a :: l := fun l => by
            induction l with
            | nil => intro a; exact List.mem_cons_self
            | cons b l ih =>
              intro a
              have e : W.minD a (b :: l) = W.minD (if W.dataLt b a then b else a) l := rfl
              rw [e]
              have := ih (if W.dataLt b a then b else a)
              split at this <;> rename_i hh
              · rw [if_pos hh]; exact List.mem_cons_of_mem _ this
              · rw [if_neg hh]
                rcases List.mem_cons.mp this with e1 | e1
                · rw [e1]; exact List.mem_cons_self
                · exact List.mem_cons_of_mem _ (List.mem_cons_of_mem _ e1)
          exact key xs x
        have e := W.alike_unique y (W.minD x xs) w bs2 bs (hal y hy _ hm) (Reads.keeps hk rd2) rw'
        subst e
        exact ⟨z, H, I.kept hk, rz, k z H G2 (fun _ _ e _ => e) qz (fun b hb => .inl (mv b (ma b (mz b hb)))) fun hi' hn => by simp [imms] at hi'; simp_all⟩
      · cases hf
  | _ => simp [biD] at hf
theorem cr_maxsD (hc : X.calm = true) (hu : X.A.units + 100 < cLine) : CallR X (.builtin "max") (rB X.K .maxs) := by
  intro pins s σ H vs us Q I r h
  obtain ⟨ds, F, d, top, q, hf, k⟩ := h
  obtain ⟨x, rfl⟩ := biD_fst hf ⟨by decide, by decide⟩
  obtain ⟨v, G, rfl, qv, mv⟩ := q.one
  cases x with
  | list zs =>
    cases zs with
    | nil => simp [biD] at hf
    | cons x xs =>
      simp only [biD] at hf
      split at hf
      · rename_i ho
        cases hf
        simp only [Bool.and_eq_true, List.all_eq_true, Bool.not_eq_true'] at ho
        obtain ⟨h1, h2⟩ := ho
        have hal := alikes_all h1
        obtain ⟨a, ws, G1, rfl, ha, qa, ma⟩ := qv.lst_inv
        obtain ⟨u, rfl, ru⟩ := vals1 r
        cases ru
        obtain ⟨its, rv, pl, hz⟩ := I.list ha.sq
        obtain ⟨as, rd⟩ := Dp.readsAll I (x :: xs) ws its (Rs.dpN qa (by
          have : ∀ l : List D, (∀ d ∈ l, d.hasDict = false) → PyData.hasDictAll l = false := fun l => by
            induction l with
            | nil => intro _; rfl
            | cons d l ih => intro h; simp only [PyData.hasDictAll, h d List.mem_cons_self, ih fun e he => h e (List.mem_cons_of_mem _ he), Bool.or_false]
          exact this _ fun d hd => shaped_noDict (h2 d hd).1)) rv
        have hA : W.AlikeAll (x :: xs) := ⟨hal, fun d hd e => by have := (h2 d hd).2; rw [e] at this; simp [isNon] at this⟩
        have hd := depthAll_le (n := 64) (xs := x :: xs) fun d hd => SeqAt.depth_of_shaped (h2 d hd).1
        refine W.max_list_data (I.ok.hd hc) pl.isList (by simpa using rd) hA (by omega) fun i w h' tk bs hi rw' hk => ?_
        have hiL : its[i]? = some w := by simpa using hi
        obtain ⟨y, ey⟩ : ∃ y, (x :: xs)[i]? = some y := by
          have l1 := (List.getElem?_eq_some_iff.mp hiL).1
          have l2 := rv.length
          have l3 := qa.len
          exact ⟨_, List.getElem?_eq_getElem (by omega)⟩
        obtain ⟨z, G2, ez, qz, mz⟩ := qa.get ey
        obtain ⟨w', ew, rz⟩ := rv.get ez
        rw [hiL] at ew
        cases ew
        have hy : y ∈ x :: xs := List.mem_of_getElem? ey
        obtain ⟨bs2, rd2⟩ := Dp.reads I y z _ (qz.dpN (shaped_noDict (h2 y hy).1)) rz
        have hm : W.maxD x xs ∈ x :: xs := by
          have key : ∀ (l : List D) (a : D), W.maxD a l ∈ a :: l := fun l => by
            induction l with
            | nil => intro a; exact List.mem_cons_self
            | cons b l ih =>
              intro a
              have e : W.maxD a (b :: l) = W.maxD (if W.dataLt a b then b else a) l := rfl
              rw [e]
              have := ih (if W.dataLt a b then b else a)
              split at this <;> rename_i hh
              · rw [if_pos hh]; exact List.mem_cons_of_mem _ this
              · rw [if_neg hh]
                rcases List.mem_cons.mp this with e1 | e1
                · rw [e1]; exact List.mem_cons_self
                · exact List.mem_cons_of_mem _ (List.mem_cons_of_mem _ e1)
          exact key xs x
        have e := W.alike_unique y (W.maxD x xs) w bs2 bs (hal y hy _ hm) (Reads.keeps hk rd2) rw'
        subst e
        exact ⟨z, H, I.kept hk, rz, k z H G2 (fun _ _ e _ => e) qz (fun b hb => .inl (mv b (ma b (mz b hb)))) fun hi' hn => by simp [imms] at hi'; simp_all⟩
      · cases hf
  | _ => simp [biD] at hf
/-! ### list(range(n)), tuple(range(n)) -/
theorem intRange_map : ∀ (n : Nat) (lo : Int), intRange n lo = ((List.range n).map fun i : Nat => lo + (i : Int)).map .int
  | 0, _ => rfl
  | n + 1, lo => by
    have e : (List.range n).map (fun i : Nat => lo + 1 + (i : Int)) = (List.range n).map ((fun i : Nat => lo + (i : Int)) ∘ Nat.succ) := List.map_congr_left fun i _ => by
      simp only [Function.comp]
      omega
    rw [List.range_succ_eq_map, List.map_cons, List.map_cons, intRange, intRange_map n (lo + 1), e]
    simp
theorem rgV_map (n : Int) : rgV 0 n = ((List.range n.toNat).map fun i : Nat => (0 : Int) + (i : Int)).map V.int := by
  unfold rgV
  rw [List.map_map, Int.sub_zero]
  rfl
theorem imms_ints : ∀ ns : List Int, imms (ns.map .int) = true
  | [] => rfl
  | n :: ns => by simp [imms, imm, imms_ints ns]
theorem imms_tups {α : Type} {f : α → List Int} : ∀ l : List α, imms (l.map ((fun ns : List Int => PyData.tuple (ns.map .int)) ∘ f)) = true
  | [] => rfl
  | a :: l => by simp [imms, imm, imms_ints, imms_tups l, Function.comp]
theorem good_lrng {te : TE} {f : Rho → Option (Opd × Rho)} (he : Good K te f) : Good K (tLstRg (tRg1 te)) (fun r => (f r).bind fun (x, r1) => (dats r1 [x]).bind fun ds => (biD .lrng ds).bind fun (d, top) => fin true top d [x] r1) := by
  intro r σ H Z O Q s x r' h k
  simp only [Option.bind_eq_some_iff] at h
  obtain ⟨⟨o, r1⟩, h1, ds, h2, ⟨d, top⟩, h3, h4⟩ := h
  refine he r σ H Z O _ s o r1 h1 fun v H1 Z1 O1 P p => ?_
  refine fin_good (K := K) (rule := fun vs H Q => ∀ v, vs = [v] → ∃ n : Int, v = .int n ∧ RgOk 0 n ∧ ∀ q, H q = none → Q (.ref q) (upd H q (.lst (rgV 0 n)))) (cp := true) (g := biD .lrng) ?_ p h2 h3 h4 k v rfl
  intro vs ds F H Q d top q hf k v hv
  obtain ⟨x, rfl⟩ := biD_fst hf ⟨by decide, by decide⟩
  obtain ⟨w, G, rfl, qv, mv⟩ := q.one
  cases hv
  cases x with
  | int n =>
    simp only [biD] at hf
    split at hf
    · rename_i hn
      cases hf
      simp only [Bool.and_eq_true, decide_eq_true_eq] at hn
      obtain ⟨rfl, _⟩ := qv.int_inv
      refine ⟨n, rfl, ⟨by decide, by decide, by omega, by omega, by omega⟩, ?_⟩
      rw [rgV_map]
      rw [intRange_map n.toNat 0] at k
      exact new_list (F := F) (ints_Rs _) nil_all (fun v H' G' kk qv m c => k v H' G' kk qv m fun _ => c)
    · cases hf
  | _ => simp [biD] at hf
theorem good_trng {te : TE} {f : Rho → Option (Opd × Rho)} (he : Good K te f) : Good K (tTupRg (tRg1 te)) (fun r => (f r).bind fun (x, r1) => (dats r1 [x]).bind fun ds => (biD .trng ds).bind fun (d, top) => fin true top d [x] r1) := by
  intro r σ H Z O Q s x r' h k
  simp only [Option.bind_eq_some_iff] at h
  obtain ⟨⟨o, r1⟩, h1, ds, h2, ⟨d, top⟩, h3, h4⟩ := h
  refine he r σ H Z O _ s o r1 h1 fun v H1 Z1 O1 P p => ?_
  refine fin_good (K := K) (rule := fun vs H Q => ∀ v, vs = [v] → ∃ n : Int, v = .int n ∧ RgOk 0 n ∧ ∀ q, H q = none → Q (.ref q) (upd H q (.tup (rgV 0 n)))) (cp := true) (g := biD .trng) ?_ p h2 h3 h4 k v rfl
  intro vs ds F H Q d top q hf k v hv
  obtain ⟨x, rfl⟩ := biD_fst hf ⟨by decide, by decide⟩
  obtain ⟨w, G, rfl, qv, mv⟩ := q.one
  cases hv
  cases x with
  | int n =>
    simp only [biD] at hf
    split at hf
    · rename_i hn
      cases hf
      simp only [Bool.and_eq_true, decide_eq_true_eq] at hn
      obtain ⟨rfl, _⟩ := qv.int_inv
      refine ⟨n, rfl, ⟨by decide, by decide, by omega, by omega, by omega⟩, ?_⟩
      rw [rgV_map]
      rw [intRange_map n.toNat 0] at k
      exact new_tup (F := F) (ints_Rs _) nil_all (fun v H' G' kk qv m => k v H' G' kk qv m fun _ hi hn => by rw [imm, imms_ints] at hn; cases hn)
    · cases hf
  | _ => simp [biD] at hf
/-! ### sorted(set(xs)) -/
theorem tupsD_inv : ∀ {xs : List D} {nss : List (List Int)}, tupsD xs = some nss → xs = nss.map fun ns => .tuple (ns.map .int)
  | [], nss, h => by simp [tupsD] at h; subst h; rfl
  | x :: xs, nss, h => by
    cases x with
    | tuple ys =>
      simp only [tupsD, Option.bind_eq_some_iff, Option.map_eq_some_iff] at h
      obtain ⟨ns, h1, ms, h2, rfl⟩ := h
      rw [intsD_inv h1, tupsD_inv h2]; rfl
    | _ => simp [tupsD] at h
def onceOf {α : Type} [DecidableEq α] : List α → List α
  | [] => []
  | x :: xs => x :: (onceOf xs).filter fun y => !decide (x = y)
theorem onceD_map {α : Type} [DecidableEq α] (f : α → D) (hf : ∀ a b, PyData.eqv (f a) (f b) = decide (a = b)) : ∀ xs : List α, onceD (xs.map f) = (onceOf xs).map f
  | [] => rfl
  | x :: xs => by
    simp only [List.map_cons, onceD, onceOf, onceD_map f hf xs, List.filter_map]
    congr 2
    apply List.filter_congr
    intro y _
    simp [Function.comp, hf]
theorem mem_onceOf {α : Type} [DecidableEq α] : ∀ {xs : List α} {a : α}, a ∈ onceOf xs ↔ a ∈ xs
  | [], a => by simp [onceOf]
  | x :: xs, a => by
    simp only [onceOf, List.mem_cons, List.mem_filter, mem_onceOf (xs := xs), Bool.not_eq_true', decide_eq_false_iff_not]
    constructor
    · rintro (h | h)
      · exact .inl h
      · exact .inr h.1
    · intro h
      by_cases e : a = x
      · exact .inl e
      · exact .inr ⟨h.resolve_left e, fun z => e z.symm⟩
theorem nodup_onceOf {α : Type} [DecidableEq α] : ∀ {xs : List α}, (onceOf xs).Nodup
  | [] => List.nodup_nil
  | x :: xs => List.nodup_cons.mpr ⟨fun h => by simp at h, (nodup_onceOf (xs := xs)).filter _⟩
theorem eqv_int (a b : Int) : PyData.eqv (.int a) (.int b) = decide (a = b) := by rw [Bool.eq_iff_iff]; simp [PyData.eqv]
theorem eqvAll_ints : ∀ (ns ms : List Int), PyData.eqvAll (ns.map .int) (ms.map .int) = decide (ns = ms)
  | [], [] => by simp [PyData.eqvAll]
  | [], _ :: _ => by simp [PyData.eqvAll]
  | _ :: _, [] => by simp [PyData.eqvAll]
  | n :: ns, m :: ms => by
    rw [List.map_cons, List.map_cons, W.eqv_all_cons, eqv_int, eqvAll_ints ns ms, Bool.eq_iff_iff]
    simp
theorem eqv_tups (ns ms : List Int) : PyData.eqv (.tuple (ns.map .int)) (.tuple (ms.map .int)) = decide (ns = ms) := by
  rw [← eqvAll_ints]; simp [PyData.eqv]
theorem dataLe_tups {α : Type} (x : α → List Int) : W.dataLe false (fun b => .tuple ((x b).map .int)) = fun p q => decide (x p ≤ x q) := by
  have := W.dataLe_rows x
  rw [← this]
  funext p q
  simp only [W.dataLe_eq, W.dataLt_tuple, W.dataLt_list]
theorem sortD_tups (nss : List (List Int)) : sortD (nss.map fun ns => .tuple (ns.map .int)) = (nss.mergeSort (fun a b => decide (a ≤ b))).map fun ns => .tuple (ns.map .int) := by
  unfold sortD
  refine (List.map_mergeSort fun a _ b _ => ?_).symm
  have := congrFun (congrFun (dataLe_tups (fun n : List Int => n)) a) b
  exact this.symm
theorem row_trans_b : ∀ a b c : List Int, decide (a ≤ b) = true → decide (b ≤ c) = true → decide (a ≤ c) = true := fun a b c h1 h2 => by
  simp only [decide_eq_true_eq] at *; exact List.le_trans h1 h2
theorem row_total_b : ∀ a b : List Int, (decide (a ≤ b) || decide (b ≤ a)) = true := fun a b => by
  simp only [Bool.or_eq_true, decide_eq_true_eq]; exact List.le_total a b
theorem rows_uniq {ys ns : List (List Int)} (h : ys.Perm ns) (hs : ys.Pairwise (fun a b => a ≤ b)) : ys = ns.mergeSort (fun a b => decide (a ≤ b)) := by
  have h2 := List.pairwise_mergeSort row_trans_b row_total_b ns
  refine List.Perm.eq_of_pairwise (le := fun a b => a ≤ b) (fun a b _ _ h1 h2 => List.le_antisymm h1 h2) hs (h2.imp fun h => by simpa using h) (h.trans (List.mergeSort_perm ns _).symm)
/-- set(xs), xs a list of ints -/
def rSetI (K : PySem.W.Frag) (w : World) : List V → Hp → VK → Prop := fun vs H Q => ∃ (l : Addr) (ns : List Int), vs = [V.ref l] ∧ (SqL K H l (ns.map V.int) ∨ SqT K H l (ns.map V.int)) ∧ ns.length < 64 ∧
  ∀ (p : Addr) (S : Int → Bool) (n : Nat), H p = none → (∀ k, S k = true ↔ k ∈ ns) → n < 64 → Q (.ref p) (upd H p (SetO w p S n))
theorem cr_setI (hc : X.calm = true) : CallR X (.type "set") (rSetI X.K X.w) := by
  intro pins s σ H vs us Q I r h
  obtain ⟨l, ns, rfl, hl, h64, q⟩ := h
  rw [Vals.ref1 r]
  rcases hl with hl | hl
  · obtain ⟨its, rv, pl, hz⟩ := I.list hl
    refine call_set_lstI ns (I.ok.hd hc) pl.isList (by simpa using rv.ints) (by unfold scanBound; omega) fun h' tk c R hcl hk => ?_
    exact ⟨.ref s.heap.objs.size, upd H s.heap.objs.size (SetO X.w s.heap.objs.size (fun j => decide (j ∈ ns)) c), I.laid (t' := tk) hk (Nat.le_refl _) (setO_new R), rfl, q _ _ c (I.hok.fresh (Nat.le_refl _)) (fun k => by simp) (by omega)⟩
  · obtain ⟨its, rv, pl, hz⟩ := I.tuple hl
    refine call_set_tupI ns (I.ok.hd hc) (show s.heap.IsTuple l its.toArray from pl) (by simpa using rv.ints) (by unfold scanBound; omega) fun h' tk c R hcl hk => ?_
    exact ⟨.ref s.heap.objs.size, upd H s.heap.objs.size (SetO X.w s.heap.objs.size (fun j => decide (j ∈ ns)) c), I.laid (t' := tk) hk (Nat.le_refl _) (setO_new R), rfl, q _ _ c (I.hok.fresh (Nat.le_refl _)) (fun k => by simp) (by omega)⟩
/-- sorted(set), the tuples of ints not empty: the same in the tuples' order -/
def rSortedTD (K : PySem.W.Frag) (P : Program) (w : World) : List V → Hp → VK → Prop := fun vs H Q => ∃ (a : Addr) (L : List (Addr × List Int)), vs = [V.ref a] ∧ H a = some (SetTO P w a L) ∧ (∀ p ∈ L, SqT K H p.1 (p.2.map V.int)) ∧ (∀ p ∈ L, p.2 ≠ []) ∧
  ∀ (L' : List (Addr × List Int)) (p : Addr), L'.Perm L → (L.map (·.2)).Nodup → L'.length < 64 → L'.Pairwise (fun q r => q.2 ≤ r.2) → H p = none → Q (.ref p) (upd H p (.lst (L'.map fun q => V.ref q.1)))
theorem reads_T {P : Program} {w : World} {h : Heap} {k : List Int} {b : Addr} (x : IsT P w h k b) : ∃ as, Reads h (.ref b) (.tuple (k.map .int)) as ∧ ∀ a ∈ as, a = b := by
  obtain ⟨o, items, n, ho, hc, hd, hi⟩ := x
  have key : ∀ {k : List Int} {vs : List Value}, ItemsAre (intKind P w) k vs → ∃ as, ReadsAll h vs (k.map .int) as ∧ as = [] := fun {k vs} hi => by
    induction hi with
    | nil => exact ⟨[], .nil, rfl⟩
    | @cons k0 v ks vs h1 _ ih =>
      obtain ⟨t, rfl⟩ := Value.isInt_shape h1
      obtain ⟨as, r, rfl⟩ := ih
      exact ⟨_, .cons (.int k0 t) r, rfl⟩
  obtain ⟨as, r, rfl⟩ := key hi
  exact ⟨_, .tuple ho hc hd r, fun a h => by simpa using h⟩
theorem perm_map_inv {α β : Type} {f : α → β} {l1 l2 : List β} (h : l1.Perm l2) : ∀ L : List α, l2 = L.map f → ∃ L1 : List α, L1.Perm L ∧ l1 = L1.map f := by
  induction h with
  | nil => intro L e; exact ⟨L, .refl _, e⟩
  | cons x p ih =>
    intro L e
    cases L with
    | nil => cases e
    | cons q L =>
      simp only [List.map_cons, List.cons.injEq] at e
      obtain ⟨L1, p1, e1⟩ := ih L e.2
      exact ⟨q :: L1, p1.cons q, by rw [List.map_cons, ← e1, e.1]⟩
  | swap x y l =>
    intro L e
    match L, e with
    | q :: r :: L, e =>
      simp only [List.map_cons, List.cons.injEq] at e
      exact ⟨r :: q :: L, .swap _ _ _, by rw [List.map_cons, List.map_cons, ← e.1, ← e.2.1, ← e.2.2]⟩
  | trans _ _ ih1 ih2 =>
    intro L e
    obtain ⟨L1, p1, e1⟩ := ih2 L e
    obtain ⟨L2, p2, e2⟩ := ih1 L1 e1
    exact ⟨L2, p2.trans p1, e2⟩
theorem cr_sortedTD (hc : X.calm = true) (hu : X.A.units + 100 < cLine) : CallR X (.builtin "sorted") (rSortedTD X.K X.prog X.w) := by
  intro pins s σ H vs us Q I r h
  obtain ⟨a, L, rfl, ha, hk, hne, q⟩ := h
  have R0 : SetT0 X.prog X.w s.heap a L := (I.hok a _ ha).1
  obtain ⟨es, ep, t, R⟩ := R0.full fun p hp => I.isT (hk p hp)
  rw [Vals.ref1 r]
  obtain ⟨o, ho, hex, hd⟩ := R.ob
  have hsz := R.size
  have hfew := R.few
  refine Calls.call_function_entry kind_sorted plain_sorted entry_sorted (args_sorted1 _) ?_
  unfold Builtin.«sorted»
  refine wpAny_bind (m := checkCount "sorted" 1 1 _) (wpAny_pure ?_)
  refine wpAny_bind (collect_set (A := X.A.in1) (I.ok.hd hc) ⟨o, ho, hex.1, hd⟩ R.fits (by unfold scanBound; omega) R.tab.ris R.led fun s1 vs k1 hz g1 o1 pm => ?_)
  have hes : es.toList.map (·.2) = L.map fun q => Value.ref q.1 := by
    rw [R.rows]
    unfold rowsOf
    rw [List.map_map] <;> rfl
  rw [hes] at pm
  obtain ⟨L1, p1, rfl⟩ := perm_map_inv pm L rfl
  have h1l : L1.length < 64 := by rw [p1.length_eq]; exact hfew
  refine wpAny_bind (wpAny_newList ?_ (by rw [List.length_map, sizeLine_eq]; omega))
  have hoL : (s1.heap.push (seqObj "list" (L1.map fun q => Value.ref q.1).toArray 0)).get? s1.heap.objs.size = some (seqObj "list" (L1.map fun q => Value.ref q.1).toArray 0) := Heap.get?_push_size _ rfl
  have rd : ∀ q ∈ L1, ∃ as, Reads (s1.heap.push (seqObj "list" (L1.map fun q => Value.ref q.1).toArray 0)) (.ref q.1) (.tuple (q.2.map .int)) as ∧ s1.heap.objs.size ∉ as := fun q hq => by
    have hq' : q ∈ L := p1.mem_iff.mp hq
    obtain ⟨as, r, m⟩ := reads_T (R.tup q hq')
    refine ⟨as, Reads.keeps (fun b u e => Heap.get?_push_of_some _ (k1 b u e)) r, fun h => ?_⟩
    have e := m _ h
    obtain ⟨o', _, _, ho', _⟩ := R.tup q hq'
    have hlt := Heap.lt_size (k1 _ _ ho')
    rw [← e] at hlt
    exact Nat.lt_irrefl _ hlt
  have eI : ∀ l : List (Addr × List Int), W.EachIs (fun u (q : Addr × List Int) => u = Value.ref q.1) (l.map fun q => Value.ref q.1) l := fun l => by
    induction l with
    | nil => exact .nil
    | cons q l ih => exact .cons rfl ih
  have eR : ∀ l : List (Addr × List Int), (∀ q ∈ l, q ∈ L1) → W.EachIs (fun u (q : Addr × List Int) => ∃ as, Reads (s1.heap.push (seqObj "list" (L1.map fun q => Value.ref q.1).toArray 0)) u (.tuple (q.2.map .int)) as ∧ s1.heap.objs.size ∉ as) (l.map fun q => Value.ref q.1) l := fun l => by
    induction l with
    | nil => intro _; exact .nil
    | cons q l ih => intro h; exact .cons (rd q (h q List.mem_cons_self)) (ih fun r hr => h r (List.mem_cons_of_mem _ hr))
  have aAll : ∀ xs ys : List Int, W.alike (.tuple (xs.map .int)) (.tuple (ys.map .int)) = true := fun xs ys => by
    simp only [W.alike]; exact W.alike_ints xs ys
  refine wpAny_bind (wpAny_holding (W.list_sort_data (A := X.A.in1) (s := { s1 with heap := s1.heap.push (seqObj "list" (L1.map fun q => Value.ref q.1).toArray 0) }) (enc := fun q : Addr × List Int => .tuple (q.2.map .int)) hoL (eI L1) (eR L1 fun _ h => h) (W.AllAlike.of fun b b' => aAll b.2 b'.2) (.inl fun d hd => ?_) (by rw [sizeLine_eq]; omega) (fun b hb => ?_) fun out hl e3 => ?_))
  · obtain ⟨q, hq, rfl⟩ := List.mem_map.mp hd
    have := hne q (p1.mem_iff.mp hq)
    cases hq2 : q.2 with
    | nil => exact absurd hq2 this
    | cons x r => exact ⟨.int x, r.map .int, rfl⟩
  · have : (PyData.tuple (b.2.map .int)).depth ≤ 1 := by
      simp only [PyData.depth, W.depth_ints]
      omega
    show X.A.units + 1 + 1 + (PyData.tuple (b.2.map .int)).depth < cLine
    omega
  · have e4 : ∀ {us : List Value} {l : List (Addr × List Int)}, W.EachIs (fun u (q : Addr × List Int) => u = Value.ref q.1) us l → us = l.map fun q => Value.ref q.1 := fun {us l} h => by
      induction h with
      | nil => rfl
      | cons h _ ih => rw [h, ih]; rfl
    have eo := e4 e3
    generalize hL' : L1.mergeSort (W.dataLe false fun q : Addr × List Int => .tuple (q.2.map .int)) = L' at e3 eo
    have pL : L'.Perm L := by rw [← hL']; exact (List.mergeSort_perm _ _).trans p1
    have pw : L'.Pairwise (fun q r => q.2 ≤ r.2) := by
      rw [← hL', dataLe_tups (fun q : Addr × List Int => q.2)]
      exact (List.pairwise_mergeSort (fun a b c h1 h2 => row_trans_b a.2 b.2 c.2 h1 h2) (fun a b => row_total_b a.2 b.2) L1).imp fun h => by simpa using h
    obtain ⟨c, hcc⟩ := sortedHeap_at (vs := L1.map fun q => Value.ref q.1) (out := List.toArray out) hoL
    have hn : H s1.heap.objs.size = none := I.hok.fresh hz
    have hlen : (L'.map fun q => V.ref q.1).length ≤ sizeLine := by rw [List.length_map, pL.length_eq, sizeLine_eq]; omega
    have k2 : ∀ b u, s.heap.get? b = some u → (sortedHeap (s1.heap.push (seqObj "list" (L1.map fun q => Value.ref q.1).toArray 0)) s1.heap.objs.size (L1.map fun q => Value.ref q.1) (List.toArray out)).get? b = some u := fun b u e => by
      have q := k1 b u e
      have hlt := Heap.lt_size q
      rw [sortedHeap_old (Nat.ne_of_lt hlt) (by rw [size_push']; exact Nat.lt_succ_of_lt hlt)]
      exact Heap.get?_push_of_some _ q
    have J : L2.Inv X pins σ (upd H s1.heap.objs.size (.lst (L'.map fun q => V.ref q.1))) { s with heap := sortedHeap (s1.heap.push (seqObj "list" (L1.map fun q => Value.ref q.1).toArray 0)) s1.heap.objs.size (L1.map fun q => Value.ref q.1) (List.toArray out), gens := s1.gens, drawn := s1.drawn, toks := s1.toks } :=
      I.call (ch := []) (Un.laid k2 hz hn) (I.hok.laid k2 hz ⟨hlen, out, c, by rw [eo]; exact vals_of_refs L', hcc⟩) (by rw [g1]; exact I.bare) (fun _ z => nomatch z)
    have e : ({ s1 with heap := sortedHeap (s1.heap.push (seqObj "list" (L1.map fun q => Value.ref q.1).toArray 0)) s1.heap.objs.size (L1.map fun q => Value.ref q.1) (List.toArray out) } : Shared) = { s with heap := sortedHeap (s1.heap.push (seqObj "list" (L1.map fun q => Value.ref q.1).toArray 0)) s1.heap.objs.size (L1.map fun q => Value.ref q.1) (List.toArray out), gens := s1.gens, drawn := s1.drawn, toks := s1.toks } := by
      cases s1
      cases s
      cases o1
      rfl
    refine wpAny_pure ⟨_, rfl, ?_⟩
    rw [e]
    exact ⟨.ref _, _, J, rfl, q L' _ pL R.nd (by rw [pL.length_eq]; exact hfew) pw hn⟩
/-- sorted(set(..)) -/
def rSS (K : PySem.W.Frag) (P : Program) (w : World) : List V → Hp → VK → Prop := fun vs H Q => (rSetI K w vs H fun x H1 => rSortedSet w [x] H1 Q) ∨ (rSetOfT K P w vs H fun x H1 => rSortedTD K P w [x] H1 Q)
def rSet (K : PySem.W.Frag) (P : Program) (w : World) : List V → Hp → VK → Prop := fun vs H Q => rSetI K w vs H Q ∨ rSetOfT K P w vs H Q
def rSrt (K : PySem.W.Frag) (P : Program) (w : World) : List V → Hp → VK → Prop := fun vs H Q => rSortedSet w vs H Q ∨ rSortedTD K P w vs H Q
theorem cr_set (hc : X.calm = true) (hu : X.A.units + 100 < cLine) : CallR X (.type "set") (rSet X.K X.prog X.w) := (cr_setI hc).or (cr_setOfT hc (by omega))
theorem cr_srt (hc : X.calm = true) (hu : X.A.units + 100 < cLine) : CallR X (.builtin "sorted") (rSrt X.K X.prog X.w) := (cr_sortedSet hc).or (cr_sortedTD hc hu)
theorem refs_of_tups : ∀ {nss : List (List Int)} {vs : List V} {F : List Addr}, Rs K H vs (nss.map fun ns => .tuple (ns.map .int)) F → ∃ ks : List (Addr × List Int), vs = (ks.map fun p => V.ref p.1) ∧ ks.map (·.2) = nss ∧ ∀ p ∈ ks, SqT K H p.1 (p.2.map V.int)
  | [], _, _, q => by cases q; exact ⟨[], rfl, rfl, fun p h => by cases h⟩
  | ns :: nss, _, _, q => by
    cases q with
    | cons q r =>
      obtain ⟨a, ws, rfl, ha, qa⟩ := R.tup_inv q
      cases qa.ints
      obtain ⟨ks, rfl, e, h⟩ := refs_of_tups r
      exact ⟨(a, ns) :: ks, rfl, by rw [List.map_cons, e], fun p hp => by
        rcases List.mem_cons.mp hp with rfl | hp
        · exact ha
        · exact h p hp⟩
theorem br_ss {P : Program} {w : World} : BR K (fun vs H Q => rSet K P w vs H fun x H1 => rSrt K P w [x] H1 Q) true (biD .sset) := by
  intro vs ds F H Q d top q hf k
  obtain ⟨x, rfl⟩ := biD_fst hf ⟨by decide, by decide⟩
  obtain ⟨v, G, rfl, qv, mv⟩ := q.one
  cases x with
  | list xs =>
    simp only [biD] at hf
    split at hf
    · rename_i ho
      cases hf
      simp only [Bool.and_eq_true, Bool.or_eq_true, decide_eq_true_eq] at ho
      obtain ⟨h64, ho⟩ := ho
      obtain ⟨a, ws, G1, rfl, ha, qa, ma⟩ := qv.lst_inv
      by_cases hi : (intsD xs).isSome = true
      · obtain ⟨ns, hn⟩ := Option.isSome_iff_exists.mp hi
        cases intsD_inv hn
        cases qa.ints
        refine .inl ⟨a, ns, rfl, .inl ha.sq, by simpa using h64, fun p S n hp hS hn64 => .inl ⟨p, S, n, rfl, upd_same, hn64, fun ms p' hs hm hl hp' => ?_⟩⟩
        have e : sortD (onceD (ns.map .int)) = ms.map .int := by
          rw [onceD_map PyData.int eqv_int, sortD_ints]
          congr 1
          refine (sorted_uniq ?_ (hs.imp fun h => Int.le_of_lt h)).symm
          exact (List.perm_ext_iff_of_nodup (hs.imp fun h => Int.ne_of_lt h) nodup_onceOf).mpr fun b => by rw [hm, hS, mem_onceOf]
        rw [e] at k
        have hp2 : H p' = none := by
          by_cases e : p' = p
          · rw [e]; exact hp
          · rw [upd_ne e] at hp'; exact hp'
        have kk : Keep (fun _ => False) H (upd H p (SetO w p S n)) := Keep.upd hp
        exact k _ _ [p'] (kk.trans (Keep.upd hp')) (.lst upd_same (ints_Rs _)) (fun b hb => .inr (by rw [List.mem_singleton.mp hb]; exact hp2)) fun _ _ _ => ⟨p', rfl, hp2, by rw [cnt, cnts_imm (by first | exact imms_ints _ | (rw [List.map_map]; exact imms_tups _))]⟩
      · obtain ⟨h1, h2⟩ := ho.resolve_left hi
        obtain ⟨nss, hn⟩ := Option.isSome_iff_exists.mp h1
        cases tupsD_inv hn
        obtain ⟨ks, rfl, rfl, hk⟩ := refs_of_tups qa
        have hne : ∀ p ∈ ks, p.2 ≠ [] := fun p hp e => by
          obtain ⟨x, r, er⟩ := tupsFull_all h2 (.tuple (p.2.map .int)) (List.mem_map.mpr ⟨p.2, List.mem_map.mpr ⟨p, hp, rfl⟩, rfl⟩)
          rw [e] at er
          simp at er
        refine .inr ⟨a, ks, rfl, ha.sq, hk, by simpa using h64, fun p L hp hL1 hL2 => .inr ⟨p, L, rfl, upd_same, fun q hq => ?_, fun q hq => hne q (hL1 q hq), fun L' p' pm nd h64' pw hp' => ?_⟩⟩
        · exact (Keep.upd hp : Keep (fun _ => False) H (upd H p (SetTO P w p L))).sqt (fun _ z => z.elim) (hk q (hL1 q hq))
        · have kk : Keep (fun _ => False) H (upd H p (SetTO P w p L)) := Keep.upd hp
          have e : sortD (onceD ((ks.map (·.2)).map fun ns => .tuple (ns.map .int))) = (L'.map (·.2)).map fun ns => .tuple (ns.map .int) := by
            rw [onceD_map (fun ns : List Int => PyData.tuple (ns.map .int)) eqv_tups, sortD_tups]
            congr 1
            refine (rows_uniq ?_ (List.pairwise_map.mpr pw)).symm
            refine (pm.map (·.2)).trans ((List.perm_ext_iff_of_nodup nd nodup_onceOf).mpr fun b => ?_)
            rw [mem_onceOf]
            constructor
            · intro hb
              obtain ⟨q, hq, rfl⟩ := List.mem_map.mp hb
              exact List.mem_map.mpr ⟨q, hL1 q hq, rfl⟩
            · intro hb
              obtain ⟨q, hq, rfl⟩ := List.mem_map.mp hb
              exact hL2 q hq
          rw [e] at k
          have hp2 : H p' = none := by
            by_cases e : p' = p
            · rw [e]; exact hp
            · rw [upd_ne e] at hp'; exact hp'
          have rr : ∀ l : List (Addr × List Int), (∀ q ∈ l, SqT K H q.1 (q.2.map V.int)) → Rs K H (l.map fun q => V.ref q.1) ((l.map (·.2)).map fun ns => .tuple (ns.map .int)) [] := fun l => by
            induction l with
            | nil => intro _; exact .nil
            | cons q l ih =>
              intro h
              have := Rs.cons (.tup (h q List.mem_cons_self) (ints_Rs q.2)) (ih fun r hr => h r (List.mem_cons_of_mem _ hr))
              simpa using this
          have r0 := rr L' fun q hq => hk q (hL1 q (pm.mem_iff.mp hq))
          have k2 : Keep (fun _ => False) H (upd (upd H p (SetTO P w p L)) p' (.lst (L'.map fun q => V.ref q.1))) := kk.trans (Keep.upd hp')
          exact k _ _ [p'] k2 (.lst upd_same (r0.heap k2)) (fun b hb => .inr (by rw [List.mem_singleton.mp hb]; exact hp2)) fun _ _ _ => ⟨p', rfl, hp2, by rw [cnt, cnts_imm (by first | exact imms_ints _ | (rw [List.map_map]; exact imms_tups _))]⟩
    · cases hf
  | tuple xs =>
    simp only [biD] at hf
    split at hf
    · rename_i ho
      cases hf
      simp only [Bool.and_eq_true, decide_eq_true_eq] at ho
      obtain ⟨h64, ho⟩ := ho
      obtain ⟨a, ws, rfl, ha, qa⟩ := R.tup_inv qv
      obtain ⟨ns, hn⟩ := Option.isSome_iff_exists.mp ho
      cases intsD_inv hn
      cases qa.ints
      refine .inl ⟨a, ns, rfl, .inr ha, by simpa using h64, fun p S n hp hS hn64 => .inl ⟨p, S, n, rfl, upd_same, hn64, fun ms p' hs hm hl hp' => ?_⟩⟩
      have e : sortD (onceD (ns.map .int)) = ms.map .int := by
        rw [onceD_map PyData.int eqv_int, sortD_ints]
        congr 1
        refine (sorted_uniq ?_ (hs.imp fun h => Int.le_of_lt h)).symm
        exact (List.perm_ext_iff_of_nodup (hs.imp fun h => Int.ne_of_lt h) nodup_onceOf).mpr fun b => by rw [hm, hS, mem_onceOf]
      rw [e] at k
      have hp2 : H p' = none := by
        by_cases e : p' = p
        · rw [e]; exact hp
        · rw [upd_ne e] at hp'; exact hp'
      have kk : Keep (fun _ => False) H (upd H p (SetO w p S n)) := Keep.upd hp
      exact k _ _ [p'] (kk.trans (Keep.upd hp')) (.lst upd_same (ints_Rs _)) (fun b hb => .inr (by rw [List.mem_singleton.mp hb]; exact hp2)) fun _ _ _ => ⟨p', rfl, hp2, by rw [cnt, cnts_imm (by first | exact imms_ints _ | (rw [List.map_map]; exact imms_tups _))]⟩
    · cases hf
  | _ => simp [biD] at hf
end
end Cr
/-! # Stm2: things changed in place. -/
namespace Cr
open PySem PySem.Spec PyProof.Rows L2
section
variable {K : PySem.W.Frag} {Z Z1 Z2 Z' E : Addr → Prop} {O O1 O2 O' P P' : List Addr} {r r' r1 r2 : Rho} {σ σ' σ1 : L2.St} {H H1 H2 H' : Hp} {os os' : List Opd} {vs vs' : List V}
theorem Sta.list {i : Nat} {ds : List D} {st : Stt} (s : Sta K Z O r σ H) (h : ownD r i = some (.list ds, st)) : ∃ l vs F G, σ[i]? = some (some (.ref l)) ∧ H l = some (.lst vs) ∧ Rs K H vs ds F ∧ cnts ds = F.length ∧ At K Z H r σ O i (l :: F) G := by
  obtain ⟨hn, hst⟩ := ownD_nth h
  have hlo : st ≠ .lo := by rcases hst with e | e <;> rw [e] <;> decide
  have hfz : st ≠ .fz := by rcases hst with e | e <;> rw [e] <;> decide
  obtain ⟨F, G, A⟩ := s.cells.at (nth_lt hn)
  obtain ⟨v, Fd, e, q, _, z2⟩ := A.rd _ st hn hlo
  obtain ⟨rfl, hc⟩ := z2 hfz
  rw [cnt] at hc
  cases q with
  | lst e1 q => exact ⟨_, _, _, G, e, e1, q, by simpa using hc, A⟩
  | lstK e1 q =>
    have := q.cnt_le
    omega
theorem Sta.dict {i : Nat} {ds : List (D × D)} {st : Stt} (s : Sta K Z O r σ H) (h : ownD r i = some (.dict ds, st)) : ∃ l kvs F G, σ[i]? = some (some (.ref l)) ∧ H l = some (.dK kvs) ∧ Rk K H kvs ds F ∧ cntk ds = F.length ∧ At K Z H r σ O i (l :: F) G := by
  obtain ⟨hn, hst⟩ := ownD_nth h
  have hlo : st ≠ .lo := by rcases hst with e | e <;> rw [e] <;> decide
  have hfz : st ≠ .fz := by rcases hst with e | e <;> rw [e] <;> decide
  obtain ⟨F, G, A⟩ := s.cells.at (nth_lt hn)
  obtain ⟨v, Fd, e, q, _, z2⟩ := A.rd _ st hn hlo
  obtain ⟨rfl, hc⟩ := z2 hfz
  rw [cnt] at hc
  cases q with
  | dic e1 q => exact ⟨_, _, _, G, e, e1, q, by simpa using hc, A⟩
theorem At.nd {F G : List Addr} {i : Nat} (A : At K Z H r σ O i F G) (s : Sta K Z O r σ H) : F.Nodup ∧ G.Nodup ∧ (∀ a ∈ F, a ∉ G) ∧ (∀ a, a ∈ F ∨ a ∈ G → a ∈ O) := by
  have nd := List.nodup_append.mp (A.perm.nodup_iff.mp s.nd)
  exact ⟨nd.1, nd.2.1, fun a h h' => nd.2.2 a h a h' rfl, fun a h => A.perm.mem_iff.mpr (List.mem_append.mpr h)⟩
/-- the thing at l, owned by name i, is written -/
theorem Post.write {i l : Nat} {d0 d' : D} {st : Stt} {F F2 G : List Addr} {o' : HO} (p : Post K Z O H r σ Z1 O1 H1 r1 os vs P) (h : nth r1 i = some (d0, st)) (hst : st = .ow ∨ st = .pn) (A : At K Z1 H1 r1 σ O1 i (l :: F) G) (hσ : σ[i]? = some (some (.ref l)))
    (hM : Mt (H1 l)) (q : R K (upd H1 l o') (.ref l) d' (l :: F2)) (hc : cnt d' = (l :: F2).length) (nd : (l :: F2).Nodup) (hF2 : ∀ a ∈ F2, a ∈ F ∨ a ∈ P) :
    ∃ O', Sta K Z1 O' (put r1 i (some (d', st))) σ (upd H1 l o') ∧ Step Z O H Z1 O' (upd H1 l o') ∧ Kp r (put r1 i (some (d', st))) σ σ := by
  have hlo : st ≠ .lo := by rcases hst with e | e <;> rw [e] <;> decide
  obtain ⟨n1, n2, n3, n4⟩ := A.nd p.sta
  have lO : l ∈ O1 := n4 l (.inl List.mem_cons_self)
  have lG : l ∉ G := n3 l List.mem_cons_self
  have kD : Keep (fun a => a = l) H1 (upd H1 l o') := fun a u e n => by rw [upd_ne n]; exact e
  have mD : ∀ a, a = l → Mt (H1 a) := fun a e => by rw [e]; exact hM
  have zl : ¬ Z1 l := p.sta.sep l lO
  have cG : Cells K Z1 (upd H1 l o') (put r1 i none) σ G := A.out.keep kD mD (fun a z e => zl (e ▸ z)) (fun _ z => z) (fun a h e => lG (e ▸ h))
  obtain ⟨O', pm, c⟩ := cG.fill (nth_lt h) hst q hc
  rw [set_self hσ] at c
  have dis : ∀ a ∈ l :: F2, a ∉ G ∧ ¬ Z1 a := fun a ha => by
    rcases List.mem_cons.mp ha with rfl | ha
    · exact ⟨lG, zl⟩
    · rcases hF2 a ha with h1 | h1
      · exact ⟨n3 a (List.mem_cons_of_mem _ h1), p.sta.sep a (n4 a (.inl (List.mem_cons_of_mem _ h1)))⟩
      · exact ⟨fun h2 => p.fly.out a h1 (n4 a (.inr h2)), p.fly.sep a h1⟩
  have m : ∀ a ∈ O', a ∈ l :: F2 ∨ a ∈ G := fun a h => List.mem_append.mp (pm.mem_iff.mp h)
  refine ⟨O', ⟨c, pm.nodup_iff.mpr (List.nodup_append.mpr ⟨nd, n2, fun a ha b hb e => (dis a ha).1 (e ▸ hb)⟩), fun a ha => (m a ha).elim (fun h => (dis a h).2) fun h => p.sta.sep a (n4 a (.inr h)), fun a z => by rw [upd_ne (show a ≠ l from fun e => zl (e ▸ z))]; exact p.sta.zm a z⟩,
    ⟨fun a u e n => ?_, fun a hh => ?_, p.step.zle, p.step.znew, fun a ha => ?_⟩, p.kp.trans (Kp.data h hlo)⟩
  · have : a ≠ l := fun e' => (p.step.onew l lO).elim (fun z => n (e' ▸ z)) fun z => by rw [e', z] at e; cases e
    rw [upd_ne this]; exact p.step.keep a u e n
  · by_cases e : a = l
    · rw [e, upd_same]; simp
    · rw [upd_ne e]; exact p.step.alloc a hh
  · rcases m a ha with h1 | h1
    · rcases List.mem_cons.mp h1 with rfl | h1
      · exact p.step.onew _ lO
      · rcases hF2 a h1 with h2 | h2
        · exact p.step.onew a (n4 a (.inl (List.mem_cons_of_mem _ h2)))
        · exact p.from_ a h2
    · exact p.step.onew a (n4 a (.inr h1))
/-- .. and from then on nobody changes it -/
theorem Post.writeFz {i l : Nat} {d0 d' : D} {F F2 G : List Addr} {o' : HO} (p : Post K Z O H r σ Z1 O1 H1 r1 os vs P) (h : nth r1 i = some (d0, .ow)) (A : At K Z1 H1 r1 σ O1 i (l :: F) G) (hσ : σ[i]? = some (some (.ref l)))
    (hM : Mt (H1 l)) (hM' : Mt (some o')) (q : R K (upd H1 l o') (.ref l) d' (l :: F2)) (hF2 : ∀ a ∈ F2, a ∈ F ∨ a ∈ P ∨ Z1 a) (hmF : ∀ a ∈ F, Mt (H1 a)) :
    ∃ Z' O', Sta K Z' O' (put r1 i (some (d', .fz))) σ (upd H1 l o') ∧ Step Z O H Z' O' (upd H1 l o') ∧ Kp r (put r1 i (some (d', .fz))) σ σ := by
  obtain ⟨n1, n2, n3, n4⟩ := A.nd p.sta
  have lO : l ∈ O1 := n4 l (.inl List.mem_cons_self)
  have lG : l ∉ G := n3 l List.mem_cons_self
  have kD : Keep (fun a => a = l) H1 (upd H1 l o') := fun a u e n => by rw [upd_ne n]; exact e
  have mD : ∀ a, a = l → Mt (H1 a) := fun a e => by rw [e]; exact hM
  have zl : ¬ Z1 l := p.sta.sep l lO
  have lP : l ∉ P := fun h => p.fly.out l h lO
  have cG : Cells K Z1 (upd H1 l o') (put r1 i none) σ G := A.out.keep kD mD (fun a z e => zl (e ▸ z)) (fun _ z => z) (fun a h e => lG (e ▸ h))
  obtain ⟨F3, G3, A3⟩ := cG.at (i := i) (by rw [put_len]; exact nth_lt h)
  have inG : ∀ a ∈ G3, a ∈ G := fun a h => A3.perm.mem_iff.mpr (List.mem_append_right _ h)
  have nd3 := (List.nodup_append.mp (A3.perm.nodup_iff.mp n2)).2.1
  have c := A3.fz (fun a => Z1 a ∨ a = l ∨ a ∈ F ∨ a ∈ P) (fun a z => .inl z) d' (.ref l) (l :: F2) q (fun a ha => by
    rcases List.mem_cons.mp ha with rfl | ha
    · exact .inr (.inl rfl)
    · rcases hF2 a ha with h1 | h1 | h1
      · exact .inr (.inr (.inl h1))
      · exact .inr (.inr (.inr h1))
      · exact .inl h1)
  rw [set_self hσ, put_put] at c
  refine ⟨_, G3, ⟨c, nd3, fun a ha z => ?_, fun a z => ?_⟩, ⟨fun a u e n => ?_, fun a hh => ?_, fun a z => .inl (p.step.zle a z), fun a z => ?_, fun a ha => p.step.onew a (n4 a (.inr (inG a ha)))⟩, p.kp.trans (Kp.put0 fun d2 st2 h2 => by rw [h] at h2; cases h2; exact ⟨by decide, by decide⟩)⟩
  · have hG := inG a ha
    rcases z with z | rfl | z | z
    · exact p.sta.sep a (n4 a (.inr hG)) z
    · exact lG hG
    · exact n3 a (List.mem_cons_of_mem _ z) hG
    · exact p.fly.out a z (n4 a (.inr hG))
  · by_cases e : a = l
    · rw [e, upd_same]; exact hM'
    · rw [upd_ne e]
      rcases z with z | z | z | z
      · exact p.sta.zm a z
      · exact absurd z e
      · exact hmF a z
      · exact p.fly.ops.mt a z
  · have : a ≠ l := fun e' => (p.step.onew l lO).elim (fun z => n (e' ▸ z)) fun z => by rw [e', z] at e; cases e
    rw [upd_ne this]; exact p.step.keep a u e n
  · by_cases e : a = l
    · rw [e, upd_same]; simp
    · rw [upd_ne e]; exact p.step.alloc a hh
  · rcases z with z | rfl | z | z
    · exact p.step.znew a z
    · exact .inr (p.step.onew _ lO)
    · exact .inr (p.step.onew a (n4 a (.inl (List.mem_cons_of_mem _ z))))
    · exact .inr (p.from_ a z)
theorem nth_frzs {i : Nat} : ∀ {os : List Opd} {r r' : Rho}, noName i os = true → frzs r os = some r' → nth r' i = nth r i
  | [], r, r', _, hf => by simp only [frzs, Option.some.injEq] at hf; rw [hf]
  | .nm j :: os, r, r', hn, hf => by
    simp only [noName, Bool.and_eq_true, decide_eq_true_eq] at hn
    simp only [frzs, Option.bind_eq_some_iff] at hf
    obtain ⟨q, h1, h2⟩ := hf
    rw [nth_frzs hn.2 h2]
    unfold frz1 at h1
    cases hg : got r j with
    | none => rw [hg] at h1; cases h1
    | some x =>
      obtain ⟨d, st⟩ := x
      rw [hg] at h1
      simp only at h1
      split at h1
      · cases h1; rfl
      · cases st with
        | fz => cases h1; rfl
        | ow => cases h1; exact nth_put_ne (Ne.symm hn.1)
        | pn => cases h1
        | lo => cases h1
  | .val _ _ :: os, r, r', hn, hf => by
    simp only [noName] at hn
    simp only [frzs] at hf
    exact nth_frzs hn hf
theorem cnts_append : ∀ (l m : List D), cnts (l ++ m) = cnts l + cnts m
  | [], m => by simp [cnts]
  | x :: l, m => by rw [List.cons_append, cnts, cnts_append l m, cnts]; omega
theorem isListC_inv {i : Nat} (h : isListC (nth r i) = true) : ∃ ds st, ownD r i = some (.list ds, st) := by
  unfold ownD
  cases hn : nth r i with
  | none => rw [hn] at h; cases h
  | some x =>
    obtain ⟨d, st⟩ := x
    rw [hn] at h
    cases d <;> cases st <;> first | exact ⟨_, _, rfl⟩ | (simp [isListC] at h)
theorem isDictC_inv {i : Nat} (h : isDictC (nth r i) = true) : ∃ ds st, ownD r i = some (.dict ds, st) := by
  unfold ownD
  cases hn : nth r i with
  | none => rw [hn] at h; cases h
  | some x =>
    obtain ⟨d, st⟩ := x
    rw [hn] at h
    cases d <;> cases st <;> first | exact ⟨_, _, rfl⟩ | (simp [isDictC] at h)
theorem Rs.other {l : Addr} {o' : HO} {ws : List V} {ds : List D} {F : List Addr} (q : Rs K H ws ds F) (hM : Mt (H l)) (h : l ∉ F) : Rs K (upd H l o') ws ds F :=
  q.keep (O := fun a => a = l) (fun a u e n => by rw [upd_ne n]; exact e) (fun a e => by rw [e]; exact hM) fun a ha e => h (e ▸ ha)
theorem R.other {l : Addr} {o' : HO} {w : V} {d : D} {F : List Addr} (q : R K H w d F) (hM : Mt (H l)) (h : l ∉ F) : R K (upd H l o') w d F :=
  q.keep (O := fun a => a = l) (fun a u e n => by rw [upd_ne n]; exact e) (fun a e => by rw [e]; exact hM) fun a ha e => h (e ▸ ha)
/-- found.append(e) -/
theorem goodS_app {i : Nat} {te : TE} {f : Rho → Option (Opd × Rho)} (he : Good K te f) : GoodS K (tDrop (tBM K "list" rAppend (tVar i) (tCons te tNil))) (fun r => if isListC (nth r i) then (f r).bind fun (x, r1) => (ownD r1 i).bind fun (d, st) => (dat r1 x).bind fun dx => match d with
      | .list ds => if small ds.length then (into i st (.list (ds ++ [dx])) x r1).map fun r2 => (r2, .nx) else none
      | _ => none
      else none) := by
  intro r σ H Z O D s r' fl h k
  simp only at h
  split at h
  · rename_i hl0
    obtain ⟨ds0, st0, ho0⟩ := isListC_inv hl0
    obtain ⟨l0, vs0, F0, G0, hσ0, hH0, _⟩ := s.list ho0
    simp only [Option.bind_eq_some_iff] at h
    obtain ⟨⟨x, r1⟩, h1, ⟨d, st⟩, h2, dx, h3, h4⟩ := h
    refine ⟨.ref l0, hσ0, .inl ⟨rfl, vs0, SqL.of hH0⟩, ?_⟩
    refine he r σ H Z O _ s x r1 h1 fun y H1 Z1 O1 P p => ?_
    cases d with
    | list ds =>
      simp only at h4
      split at h4
      · rename_i hsm
        simp only [Option.map_eq_some_iff] at h4
        obtain ⟨r2, h4, e⟩ := h4
        cases e
        obtain ⟨l, ws, F, G, hσ, hH, q, hcn, A⟩ := p.sta.list h2
        rw [hσ0] at hσ
        cases hσ
        obtain ⟨hn, hst⟩ := ownD_nth h2
        have hM : Mt (H1 l0) := by rw [hH]; trivial
        have hlen : ws.length < sizeLine := by
          have : ds.length ≤ 1000000 := of_decide_eq_true hsm
          have e2 : (1000000 : Nat) < sizeLine := by decide
          rw [q.len]; omega
        obtain ⟨n1, n2, n3, n4⟩ := A.nd p.sta
        refine ⟨l0, ws, y, rfl, rfl, hH, hlen, ?_⟩
        unfold into at h4
        split at h4
        · rename_i hown
          cases h4
          obtain ⟨Fx, qx, mx, cx⟩ := Ops.allOwn p.sta p.fly.ops (dats1 h3) hown
          obtain ⟨lF, ndF⟩ := List.nodup_cons.mp n1
          have lO : l0 ∈ O1 := n4 l0 (.inl List.mem_cons_self)
          have lx : l0 ∉ Fx := fun h => p.fly.out l0 (mx.subset h) lO
          have dj : ∀ a ∈ F, a ∉ Fx := fun a h h' => p.fly.out a (mx.subset h') (n4 a (.inl (List.mem_cons_of_mem _ h)))
          have ndx : Fx.Nodup := mx.nodup p.fly.nd
          obtain ⟨O', s', st', kp'⟩ := p.write (i := i) (d' := .list (ds ++ [dx])) (F2 := F ++ Fx) (o' := .lst (ws ++ [y])) hn hst A hσ0 hM
            (.lst upd_same ((q.other hM lF).append (qx.other hM lx))) (by rw [cnt, cnts_append, hcn, cx, List.length_cons, List.length_append])
            (List.nodup_cons.mpr ⟨fun h => (List.mem_append.mp h).elim lF lx, List.nodup_append.mpr ⟨ndF, ndx, fun a h b h' e => dj a h (e ▸ h')⟩⟩)
            (fun a h => (List.mem_append.mp h).imp id fun h => mx.subset h)
          exact k Z1 O' _ σ s' st' kp'
        · split at h4
          · rename_i hnn
            split at h4
            · simp only [Option.map_eq_some_iff] at h4
              obtain ⟨r3, hf, rfl⟩ := h4
              obtain ⟨Z2, O2, Fx, s2, l2, k2, qx, mx, _, _⟩ := Ops.frzs p.sta p.fly.ops (dats1 h3) hf
              have p2 := p.lg s2 l2 k2
              have hn3 : nth r3 i = some (.list ds, .ow) := (nth_frzs hnn hf).trans hn
              obtain ⟨l, ws', F', G', hσ', hH', q', hcn', A'⟩ := s2.list (i := i) (ds := ds) (st := .ow) (by unfold ownD; rw [hn3])
              rw [hσ0] at hσ'
              cases hσ'
              rw [hH] at hH'
              cases hH'
              obtain ⟨m1, m2, m3, m4⟩ := A'.nd s2
              obtain ⟨lF, ndF⟩ := List.nodup_cons.mp m1
              have lx : l0 ∉ Fx := fun h => (mx _ h).elim (s2.sep _ (m4 _ (.inl List.mem_cons_self))) fun h => p2.fly.out _ h (m4 _ (.inl List.mem_cons_self))
              obtain ⟨Z3, O3, s3, st3, kp3⟩ := p2.writeFz (i := i) (d' := .list (ds ++ [dx])) (F2 := F' ++ Fx) (o' := .lst (ws ++ [y])) hn3 A' hσ0 hM trivial
                (.lst upd_same ((q'.other hM lF).append (qx.other hM lx))) (fun a h => (List.mem_append.mp h).imp id fun h => (mx a h).symm) (fun a h => q'.mt a h)
              exact k Z3 O3 _ σ s3 st3 kp3
            · cases h4
          · cases h4
      · cases h4
    | _ => simp at h4
  · cases h
end
end Cr
/-! # Stm3: dict.update, x[k] = e, x, y = a, b, the loop that adds None to each list. -/
namespace Cr
open PySem PySem.Spec PyProof.Rows L2
section
variable {K : PySem.W.Frag} {Z Z1 Z2 Z' E : Addr → Prop} {O O1 O2 O' P P' : List Addr} {r r' r1 r2 : Rho} {σ σ' σ1 : L2.St} {H H1 H2 H' : Hp} {os os' : List Opd} {vs vs' : List V}
/-! ### dicts whose values have nothing that changes -/
theorem Rk.imm0 : ∀ {kvs : List (Key × V)} {ds : List (D × D)} {F : List Addr}, Rk K H kvs ds F → imms (ds.map (·.2)) = true → F = []
  | _, _, _, .nil, _ => rfl
  | _, _, _, .cons (d := d) (s := s) q r, h => by
    have h' : imm d = true ∧ imms (s.map (·.2)) = true := by simpa [imms] using h
    rw [q.imm h'.1, Rk.imm0 r h'.2]; rfl
theorem Rk.any : ∀ {kvs : List (Key × V)} {ds : List (D × D)} {F : List Addr} (k : Key), Rk K H kvs ds F → (kvs.any fun kv => decide (kv.1 = k)) = (ds.any fun p => PyData.eqv p.1 (keyD k))
  | _, _, _, _, .nil => rfl
  | _, _, _, k, .cons q r => by rw [List.any_cons, List.any_cons, Rk.any k r, eqv_key]
theorem Rk.map0 {k : Key} {v : V} {d : D} (qv : R K H v d []) : ∀ {kvs : List (Key × V)} {ds : List (D × D)} {F : List Addr}, Rk K H kvs ds F → F = [] → Rk K H (kvs.map fun kv => if kv.1 = k then (kv.1, v) else kv) (ds.map fun p => if PyData.eqv p.1 (keyD k) then (p.1, d) else p) []
  | _, _, _, .nil, _ => .nil
  | _, _, _, .cons (k := j) (v := w) (d := e) q r, hF => by
    obtain ⟨rfl, rfl⟩ := List.append_eq_nil_iff.mp hF
    rw [List.map_cons, List.map_cons]
    have ih := Rk.map0 (k := k) qv r rfl
    simp only [eqv_key]
    by_cases e : j = k
    · simp only [e, if_true, decide_true]
      exact Rk.cons (F := []) (G := []) (k := k) qv ih
    · simp only [e, if_false, decide_false, Bool.false_eq_true]
      exact Rk.cons (F := []) (G := []) q ih
theorem Rk.snoc {k : Key} {v : V} {d : D} (qv : R K H v d []) : ∀ {kvs : List (Key × V)} {ds : List (D × D)} {F : List Addr}, Rk K H kvs ds F → F = [] → Rk K H (kvs ++ [(k, v)]) (ds ++ [(keyD k, d)]) []
  | _, _, _, .nil, _ => Rk.cons (F := []) (G := []) qv .nil
  | _, _, _, .cons q r, hF => by
    obtain ⟨rfl, rfl⟩ := List.append_eq_nil_iff.mp hF
    exact Rk.cons (F := []) (G := []) q (Rk.snoc qv r rfl)
theorem Rk.put {k : Key} {v : V} {d : D} {kvs : List (Key × V)} {ds : List (D × D)} (qv : R K H v d []) (q : Rk K H kvs ds []) : Rk K H (putK kvs k v) (dput ds (keyD k) d) [] := by
  unfold putK dput
  rw [q.any k]
  split
  · exact q.map0 (k := k) qv rfl
  · exact q.snoc (k := k) qv rfl
theorem Rk.puts : ∀ {more : List (Key × V)} {ms : List (D × D)} {F : List Addr} {kvs : List (Key × V)} {ds : List (D × D)}, Rk K H more ms F → F = [] → Rk K H kvs ds [] → Rk K H (mergeK kvs more) (dputs ds ms) []
  | _, _, _, kvs, ds, .nil, _, q => q
  | _, _, _, kvs, ds, .cons (k := k) (v := v) qv r, hF, q => by
    obtain ⟨rfl, rfl⟩ := List.append_eq_nil_iff.mp hF
    show Rk K H (mergeK (putK kvs k v) _) (dputs (dput ds (keyD k) _) _) []
    exact Rk.puts r rfl (Rk.put qv q)
theorem cntk_imm : ∀ {ds : List (D × D)}, imms (ds.map (·.2)) = true → cntk ds = 0
  | [], _ => rfl
  | (k, d) :: ds, h => by
    have h' : imm d = true ∧ imms (ds.map (·.2)) = true := by simpa [imms] using h
    rw [cntk, cnt_imm h'.1, cntk_imm h'.2]
theorem imms_dput {ds : List (D × D)} {k d : D} (h : imms (ds.map (·.2)) = true) (hd : imm d = true) : imms ((dput ds k d).map (·.2)) = true := by
  have key1 : ∀ ds : List (D × D), imms (ds.map (·.2)) = true → imms ((ds.map fun p => if PyData.eqv p.1 k then (p.1, d) else p).map (·.2)) = true := fun ds => by
    induction ds with
    | nil => intro _; rfl
    | cons p ds ih =>
      intro h
      have h' : imm p.2 = true ∧ imms (ds.map (·.2)) = true := by simpa [imms] using h
      rw [List.map_cons, List.map_cons, imms]
      split
      · simp only [hd, ih h'.2, Bool.and_self]
      · simp only [h'.1, ih h'.2, Bool.and_self]
  have key2 : ∀ ds : List (D × D), imms (ds.map (·.2)) = true → imms ((ds ++ [(k, d)]).map (·.2)) = true := fun ds => by
    induction ds with
    | nil => intro _; simp [imms, hd]
    | cons p ds ih =>
      intro h
      have h' : imm p.2 = true ∧ imms (ds.map (·.2)) = true := by simpa [imms] using h
      rw [List.cons_append, List.map_cons, imms, h'.1, ih h'.2]; rfl
  unfold dput
  split
  · exact key1 ds h
  · exact key2 ds h
theorem imms_dputs : ∀ {ms ds : List (D × D)}, imms (ds.map (·.2)) = true → imms (ms.map (·.2)) = true → imms ((dputs ds ms).map (·.2)) = true
  | [], _, h, _ => h
  | (k, d) :: ms, ds, h, hm => by
    have h' : imm d = true ∧ imms (ms.map (·.2)) = true := by simpa [imms] using hm
    exact imms_dputs (ms := ms) (ds := dput ds k d) (imms_dput h h'.1) h'.2
/-- d.update(e), both dicts -/
def rUpdD : V → List V → Hp → VK → Prop := fun x xs H Q => ∃ (a b : Addr) (kvs more : List (Key × V)), x = .ref a ∧ xs = [.ref b] ∧ a ≠ b ∧ H a = some (.dK kvs) ∧ H b = some (.dK more) ∧ kvs.length + more.length ≤ sizeLine ∧ Q .non (upd H a (.dK (mergeK kvs more)))
theorem mt_updD {X : Cx} : MtR X "dict.update" rUpdD := by
  intro pins s σ H x xs v us Q I rx rxs h
  obtain ⟨a, b, kvs, more, rfl, rfl, hab, ha, hb, hz, q⟩ := h
  cases rx
  obtain ⟨u, rfl, ru⟩ := rxs.one
  cases ru
  obtain ⟨z, hd, vs, rel, dd⟩ := dk_of I.hok ha
  obtain ⟨z2, hd2, vs2, rel2, dd2⟩ := dk_of I.hok hb
  refine call_meetsIn PySem.F.slot_dict_update dd.typeIs PySem.F.entry_dict_update (PySem.F.args_dict_update_2 _ _) (PySem.meets_dict_update (mixKind X.prog X.w) a b hab hd2) ⟨vs, vs2, dd, dd2, by rw [← rel.length, ← rel2.length]; exact hz, fun h' dd' _ hs => ?_⟩
  have he : ∃ q, h'.get? a = some q := let ⟨q, _, _, hq, _⟩ := dd'; ⟨q, hq⟩
  have hl : (mergeK kvs more).length ≤ sizeLine := Nat.le_trans (length_mergeK more kvs) hz
  exact ⟨.non, _, d_write (t' := s.toks) I (by rw [ha]; exact True.intro) hs he (dk_new hl hd (rel2.merge rel) dd'), rfl, q⟩
/-- an operand that is not name i has nothing that is name i's -/
theorem Post.apart {i : Nat} {F G : List Addr} {x : Opd} {y : V} {dx : D} (p : Post K Z O H r σ Z1 O1 H1 r1 [x] [y] P) (A : At K Z1 H1 r1 σ O1 i F G) (hn : noName i [x] = true) (h : dat r1 x = some dx) : ∃ Fx, R K H1 y dx Fx ∧ ∀ a ∈ Fx, a ∈ G ∨ Z1 a ∨ a ∈ P := by
  have hop := p.fly.ops
  cases hop with
  | @nm j _ _ _ _ e1 o1 =>
    simp only [noName, Bool.and_true, decide_eq_true_eq] at hn
    simp only [dat, Option.map_eq_some_iff] at h
    obtain ⟨⟨d', st'⟩, hg, rfl⟩ := h
    obtain ⟨v', F', e', q', m'⟩ := A.out.read (i := j) (d := d') (st := st') (by rw [got_put_ne hn]; exact hg)
    rw [e1] at e'
    cases e'
    exact ⟨F', q', fun a ha => (m' a ha).elim .inl fun z => .inr (.inl z)⟩
  | own q1 n1' o1 =>
    cases o1
    cases h
    exact ⟨_, q1, fun a ha => .inr (.inr (by simpa using ha))⟩
  | fz q1 f1 o1 =>
    cases o1
    cases h
    exact ⟨_, q1, fun a ha => .inr (.inl (f1 a ha))⟩
theorem goodS_upd {i : Nat} {te : TE} {f : Rho → Option (Opd × Rho)} (he : Good K te f) : GoodS K (tDrop (tBM K "dict" rUpdD (tVar i) (tCons te tNil))) (fun r => if isDictC (nth r i) then (f r).bind fun (x, r1) => (ownD r1 i).bind fun (d, st) => (dat r1 x).bind fun dx => match d, dx with
      | .dict kvs, .dict kvs' => if small (kvs.length + kvs'.length) && imms (kvs'.map (·.2)) && imms (kvs.map (·.2)) && noName i [x] then some (put r1 i (some (.dict (dputs kvs kvs'), st)), .nx) else none
      | _, _ => none
      else none) := by
  intro r σ H Z O Ds s r' fl h k
  simp only at h
  split at h
  · rename_i hl0
    obtain ⟨ds0, st0, ho0⟩ := isDictC_inv hl0
    obtain ⟨l0, vs0, F0, G0, hσ0, hH0, _⟩ := s.dict ho0
    simp only [Option.bind_eq_some_iff] at h
    obtain ⟨⟨x, r1⟩, h1, ⟨d, st⟩, h2, dx, h3, h4⟩ := h
    refine ⟨.ref l0, hσ0, .inr (.inr (.inl ⟨rfl, .inl ⟨vs0, hH0⟩⟩)), ?_⟩
    refine he r σ H Z O _ s x r1 h1 fun y H1 Z1 O1 P p => ?_
    cases d with
    | dict kvs =>
     cases dx with
     | dict kvs' =>
      simp only at h4
      split at h4
      · rename_i hc
        cases h4
        simp only [Bool.and_eq_true] at hc
        obtain ⟨⟨⟨hsm, hi2⟩, hi1⟩, hnn⟩ := hc
        obtain ⟨l, ks, F, G, hσ, hH, q, hcn, A⟩ := p.sta.dict h2
        rw [hσ0] at hσ
        cases hσ
        obtain ⟨hn, hst⟩ := ownD_nth h2
        have hM : Mt (H1 l0) := by rw [hH]; trivial
        cases q.imm0 hi1
        obtain ⟨n1, n2, n3, n4⟩ := A.nd p.sta
        obtain ⟨Fx, qx, mx⟩ := p.apart A hnn h3
        obtain ⟨b, ms, G2, rfl, hb, rfl, qb⟩ := qx.dic_inv
        cases qb.imm0 hi2
        have hne : l0 ≠ b := fun e => by
          subst e
          rcases mx l0 List.mem_cons_self with h | h | h
          · exact n3 l0 List.mem_cons_self h
          · exact p.sta.sep l0 (n4 l0 (.inl List.mem_cons_self)) h
          · exact p.fly.out l0 h (n4 l0 (.inl List.mem_cons_self))
        have hz : ks.length + ms.length ≤ sizeLine := by rw [q.len, qb.len]; exact small_le hsm
        refine ⟨l0, b, ks, ms, rfl, rfl, hne, hH, hb, hz, ?_⟩
        have qd : Rk K (upd H1 l0 (.dK (mergeK ks ms))) (mergeK ks ms) (dputs kvs kvs') [] :=
          (Rk.puts qb rfl q).keep (O := fun a => a = l0) (fun a u e n => by rw [upd_ne n]; exact e) (fun a e => by rw [e]; exact hM) (fun a h => nomatch h)
        obtain ⟨O', s', st', kp'⟩ := p.write (i := i) (d' := .dict (dputs kvs kvs')) (F2 := []) (o' := .dK (mergeK ks ms)) hn hst A hσ0 hM (.dic upd_same qd)
          (by rw [cnt, cntk_imm (imms_dputs hi1 hi2)]; rfl) (by simp) (fun a h => nomatch h)
        exact k Z1 O' _ σ s' st' kp'
      · cases h4
     | _ => simp at h4
    | _ => simp at h4
  · cases h
end
end Cr
/-! # Stm4: x[k] = e, x, y = a, b, the loop that adds None to each list. -/
namespace Cr
open PySem PySem.Spec PyProof.Rows L2
section
variable {K : PySem.W.Frag} {Z Z1 Z2 Z' E : Addr → Prop} {O O1 O2 O' P P' : List Addr} {r r' r1 r2 : Rho} {σ σ' σ1 : L2.St} {H H1 H2 H' : Hp} {os os' : List Opd} {vs vs' : List V}
/-- x[k] = e, x a list or a dict -/
def rSetLD : TSet := fun o i v H Q => rSetL o i v H Q ∨ rSetD o i v H Q
theorem set_ld {X : Cx} (hu : X.A.units + 100 < cLine) : PSet X rSetLD := by
  intro pins s σ H o i v ov iv u Q I ro ri rv h
  rcases h with h | h
  · exact set_list pins s σ H o i v ov iv u Q I ro ri rv h
  · exact set_dict (by omega) pins s σ H o i v ov iv u Q I ro ri rv h
theorem Rs.set0 {y : V} {dx : D} (qy : R K H y dx []) : ∀ {ws : List V} {ds : List D} {F : List Addr} (n : Nat), Rs K H ws ds F → F = [] → Rs K H (ws.set n y) (ds.set n dx) []
  | _, _, _, _, .nil, _ => .nil
  | _, _, _, 0, .cons q r, h => by
    obtain ⟨rfl, rfl⟩ := List.append_eq_nil_iff.mp h
    exact Rs.cons (F := []) (G := []) qy r
  | _, _, _, n + 1, .cons q r, h => by
    obtain ⟨rfl, rfl⟩ := List.append_eq_nil_iff.mp h
    exact Rs.cons (F := []) (G := []) q (Rs.set0 qy n r rfl)
theorem imms_set {dx : D} (hd : imm dx = true) : ∀ {ds : List D} (n : Nat), imms ds = true → imms (ds.set n dx) = true
  | [], _, h => h
  | d :: ds, 0, h => by
    have h' : imm d = true ∧ imms ds = true := by simpa [imms] using h
    simp [imms, hd, h'.2]
  | d :: ds, n + 1, h => by
    have h' : imm d = true ∧ imms ds = true := by simpa [imms] using h
    simp [imms, h'.1, imms_set hd n h'.2]
theorem Sta.owned {i : Nat} {d : D} {st : Stt} (s : Sta K Z O r σ H) (h : ownD r i = some (d, st)) : ∃ u, σ[i]? = some (some u) := by
  obtain ⟨hn, hst⟩ := ownD_nth h
  obtain ⟨v, F, e, _⟩ := s.cells.read (i := i) (d := d) (st := st) (by unfold got; rw [hn]; rcases hst with e | e <;> rw [e])
  exact ⟨v, e⟩
theorem goodS_sub {i : Nat} {te tk : TE} {f g : Rho → Option (Opd × Rho)} (he : Good K te f) (hk : Good K tk g) : GoodS K (tAsg te (gSub (tVar i) tk rSetLD)) (fun r => (f r).bind fun (x, r1) => (ownD r1 i).bind fun _ => (g r1).bind fun (y, r2) => (ownD r2 i).bind fun (d, st) => (dat r2 x).bind fun dx => (dat r2 y).bind fun dk =>
      match d, dk with
      | .list ds, .int j => (ixD ds.length j).bind fun n => if imms ds && imm dx then some (put r2 i (some (.list (ds.set n dx), st)), .nx) else none
      | .dict kvs, dk => if isKey dk && imm dx && small kvs.length && imms (kvs.map (·.2)) then some (put r2 i (some (.dict (dput kvs dk dx), st)), .nx) else none
      | _, _ => none) := by
  intro r σ H Z O Ds s r' fl h k
  simp only [Option.bind_eq_some_iff] at h
  obtain ⟨⟨x, r1⟩, h1, ⟨d0, st0⟩, h0, ⟨y, r2⟩, h2, ⟨d, st⟩, h3, dx, h4, dk, h5, h6⟩ := h
  refine he r σ H Z O _ s x r1 h1 fun v H1 Z1 O1 P1 p1 => ?_
  obtain ⟨u, hu⟩ := p1.sta.owned h0
  refine ⟨u, hu, ?_⟩
  refine hk r1 σ H1 Z1 O1 _ p1.sta y r2 h2 fun w H2 Z2 O2 P2 p2 => ?_
  have p := p1.cons p2
  obtain ⟨Fx, Fy, qx, qy⟩ := p.two h4 h5
  cases d with
  | list ds =>
    cases dk with
    | int j =>
      simp only [Option.bind_eq_some_iff] at h6
      obtain ⟨n, hn, h6⟩ := h6
      split at h6
      · rename_i hc
        cases h6
        simp only [Bool.and_eq_true] at hc
        obtain ⟨l, ws, F, G, hσ, hH, q, hcn, A⟩ := p.sta.list h3
        rw [hu] at hσ
        cases hσ
        obtain ⟨hnt, hst⟩ := ownD_nth h3
        have hM : Mt (H2 l) := by rw [hH]; trivial
        cases q.imm hc.1
        cases qx.imm hc.2
        obtain ⟨rfl, _⟩ := qy.int_inv
        refine .inl ⟨l, ws, j, n, rfl, rfl, hH, by rw [q.len]; exact hn, ?_⟩
        have qs : Rs K (upd H2 l (.lst (ws.set n v))) (ws.set n v) (ds.set n dx) [] :=
          (Rs.set0 qx n q rfl).keep (O := fun a => a = l) (fun a u e n => by rw [upd_ne n]; exact e) (fun a e => by rw [e]; exact hM) (fun a h => nomatch h)
        obtain ⟨O', s', st', kp'⟩ := p.write (i := i) (d' := .list (ds.set n dx)) (F2 := []) (o' := .lst (ws.set n v)) hnt hst A hu hM (.lst upd_same qs)
          (by rw [cnt, cnts_imm (imms_set hc.2 n hc.1)]; rfl) (by simp) (fun a h => nomatch h)
        exact k Z2 O' _ σ s' st' kp'
      · cases h6
    | _ => simp at h6
  | dict kvs =>
    simp only at h6
    split at h6
    · rename_i hc
      cases h6
      simp only [Bool.and_eq_true] at hc
      obtain ⟨⟨⟨c1, c2⟩, c3⟩, c4⟩ := hc
      obtain ⟨l, ks, F, G, hσ, hH, q, hcn, A⟩ := p.sta.dict h3
      rw [hu] at hσ
      cases hσ
      obtain ⟨hnt, hst⟩ := ownD_nth h3
      have hM : Mt (H2 l) := by rw [hH]; trivial
      cases q.imm0 c4
      cases qx.imm c2
      obtain ⟨kk, _, rfl⟩ := isKey_inv c1
      cases qy.key_inv
      have hz : ks.length < sizeLine := by
        have : kvs.length ≤ 1000000 := of_decide_eq_true c3
        have e2 : (1000000 : Nat) < sizeLine := by decide
        rw [q.len]; omega
      refine .inr ⟨l, _, rfl, .inl ⟨ks, kk, hH, rfl, hz, rfl⟩, ?_⟩
      have qd : Rk K (upd H2 l (.dK (putK ks kk v))) (putK ks kk v) (dput kvs (keyD kk) dx) [] :=
        (Rk.put qx q).keep (O := fun a => a = l) (fun a u e n => by rw [upd_ne n]; exact e) (fun a e => by rw [e]; exact hM) (fun a h => nomatch h)
      obtain ⟨O', s', st', kp'⟩ := p.write (i := i) (d' := .dict (dput kvs (keyD kk) dx)) (F2 := []) (o' := .dK (putK ks kk v)) hnt hst A hu hM (.dic upd_same qd)
        (by rw [cnt, cntk_imm (imms_dput c4 c2)]; rfl) (by simp) (fun a h => nomatch h)
      exact k Z2 O' _ σ s' st' kp'
    · cases h6
  | _ => simp at h6
/-! ### x, y = a, b -/
theorem keepL {x : Opd} {v : V} {d : D} {w : Bool} (s : Sta K Z O r σ H) (f : Fly K Z O H σ [x] [v] P) (h : keep x r = some (d, w, r2)) :
    ∃ Z2 O2 F, Sta K Z2 O2 r2 σ H ∧ Lg Z O Z2 O2 ∧ Kp r r2 σ σ ∧ R K H v d F ∧ (w = false → ∀ a ∈ F, Z2 a) ∧ (w = true → F.Nodup ∧ (∀ a ∈ F, a ∈ P) ∧ cnt d = F.length) := by
  cases x with
  | val d' o =>
    simp only [Cr.keep, Option.some.injEq, Prod.mk.injEq] at h
    obtain ⟨rfl, rfl, rfl⟩ := h
    have hop := f.ops
    have nd := f.nd
    cases hop with
    | @own _ _ F _ _ _ q hn o' =>
      cases o'
      simp only [List.append_nil] at nd
      exact ⟨Z, O, F, s, .refl, .refl, q, fun e => by simp at e, fun _ => ⟨nd, fun a h => by simpa using h, hn⟩⟩
    | @fz _ _ F _ _ _ q f' o' =>
      refine ⟨Z, O, F, s, .refl, .refl, q, fun _ => f', fun e => ?_⟩
      have z := q.imm (by simpa using e)
      subst z
      exact ⟨List.nodup_nil, nil_all, cnt_imm (by simpa using e)⟩
  | nm i =>
    simp only [Cr.keep] at h
    cases hg : got r i with
    | none => rw [hg] at h; cases h
    | some y =>
      obtain ⟨d', st⟩ := y
      rw [hg] at h
      simp only at h
      have hv : σ[i]? = some (some v) := by
        have hop := f.ops
        cases hop with
        | nm e _ => exact e
      by_cases hi : imm d' = true
      · rw [if_pos hi] at h
        simp only [Option.some.injEq, Prod.mk.injEq] at h
        obtain ⟨rfl, rfl, rfl⟩ := h
        obtain ⟨v', F, e, q, _⟩ := s.cells.read hg
        rw [hv] at e
        cases e
        have z := q.imm hi
        subst z
        exact ⟨Z, O, [], s, .refl, .refl, q, fun _ => nil_all, fun _ => ⟨List.nodup_nil, nil_all, cnt_imm hi⟩⟩
      · rw [if_neg hi] at h
        simp only [Option.map_eq_some_iff] at h
        obtain ⟨r', hf, e⟩ := h
        simp only [Prod.mk.injEq] at e
        obtain ⟨rfl, rfl, rfl⟩ := e
        obtain ⟨Z2, O2, s2, l2, k2, a2, _⟩ := s.frz1 hf
        obtain ⟨v', F, e, q, m⟩ := a2 _ _ hg
        rw [hv] at e
        cases e
        exact ⟨Z2, O2, F, s2, l2, k2, q, fun _ => m, fun e => by simp at e⟩
theorem goodS_par {i j : Nat} {ta : TA} {fs : Rho → Option (List Opd × Rho)} (ht : GoodL K ta fs) : GoodS K (tPar i j ta) (fun r => (fs r).bind fun (os, r1) => match os with
      | [x, y] => (keep x r1).bind fun (d, w, r2) => (keep y r2).bind fun (d', w', r3) =>
          if open1 r3 i && open1 r3 j then some (put (put r3 i (some (d, if w then .ow else .fz))) j (some (d', if w' then .ow else .fz)), .nx) else none
      | _ => none) := by
  intro r σ H Z O Ds s r' fl h k
  simp only [Option.bind_eq_some_iff] at h
  obtain ⟨⟨os, r1⟩, h1, h⟩ := h
  refine ht r σ H Z O _ s os r1 h1 fun vs H1 Z1 O1 P p => ?_
  match os, h with
  | [x, y], h =>
    simp only [Option.bind_eq_some_iff] at h
    obtain ⟨⟨d, w, r2⟩, h2, ⟨d', w', r3⟩, h3, h4⟩ := h
    split at h4
    · rename_i hop
      cases h4
      rw [Bool.and_eq_true] at hop
      match vs, p.fly.ops with
      | [v, u], o =>
        obtain ⟨Px, Py, eP, ox, oy⟩ := Ops.split (x := x) (os := [y]) (v := v) (vs := [u]) o
        have nd := List.nodup_append.mp (eP ▸ p.fly.nd)
        have inP : ∀ a, a ∈ Px ∨ a ∈ Py → a ∈ P := fun a h => by rw [eP]; exact List.mem_append.mpr h
        have fx : Fly K Z1 O1 H1 σ [x] [v] Px := ⟨ox, nd.1, fun a h => p.fly.out a (inP a (.inl h)), fun a h => p.fly.sep a (inP a (.inl h))⟩
        obtain ⟨Z2, O2, F, s2, l2, k2, q, sh, ow⟩ := keepL p.sta fx h2
        have fy : Fly K Z2 O2 H1 σ [y] [u] Py := ⟨oy.zmono l2.zle, nd.2.1, fun a h h' => p.fly.out a (inP a (.inr h)) (l2.ole a h'), fun a h z => (l2.znew a z).elim (p.fly.sep a (inP a (.inr h))) (p.fly.out a (inP a (.inr h)))⟩
        obtain ⟨Z3, O3, F', s3, l3, k3, q', sh', ow'⟩ := keepL s2 fy h3
        have l := l2.trans l3
        have g1 : Give Z3 O3 w F (cnt d) := ⟨fun e a h => l3.zle a (sh e a h), fun e => ⟨(ow e).1, fun a h => ⟨fun h' => p.fly.out a (inP a (.inl ((ow e).2.1 a h))) (l.ole a h'), fun z => (l.znew a z).elim (p.fly.sep a (inP a (.inl ((ow e).2.1 a h)))) (p.fly.out a (inP a (.inl ((ow e).2.1 a h))))⟩⟩, fun e => (ow e).2.2⟩
        have iw : ∀ {d : D} {w : Bool} {x : Opd} {ra rb : Rho}, keep x ra = some (d, w, rb) → (imm d || w) = w := fun {d w x ra rb} h => by
          cases x with
          | val d0 o0 =>
            simp only [Cr.keep, Option.some.injEq, Prod.mk.injEq] at h
            obtain ⟨rfl, rfl, _⟩ := h
            cases imm d0 <;> simp
          | nm i0 =>
            simp only [Cr.keep] at h
            split at h
            · rename_i d0 _ _
              split at h
              · rename_i hi
                simp only [Option.some.injEq, Prod.mk.injEq] at h
                obtain ⟨rfl, rfl, _⟩ := h
                simp
              · rename_i hi
                simp only [Option.map_eq_some_iff] at h
                obtain ⟨_, _, e⟩ := h
                simp only [Prod.mk.injEq] at e
                obtain ⟨rfl, rfl, _⟩ := e
                simpa using hi
            · cases h
        obtain ⟨O4, s4, m4, kp4⟩ := s3.give (i := i) q g1 hop.1
        rw [iw h2] at s4 kp4
        have g2 : Give Z3 O4 w' F' (cnt d') := ⟨fun e a h => sh' e a h, fun e => ⟨(ow' e).1, fun a h => ⟨fun h' => (m4 a h').elim (fun h' => p.fly.out a (inP a (.inr ((ow' e).2.1 a h))) (l.ole a h')) fun h' => nd.2.2 a ((ow h'.1).2.1 a h'.2) a ((ow' e).2.1 a h) rfl, fun z => (l.znew a z).elim (p.fly.sep a (inP a (.inr ((ow' e).2.1 a h)))) (p.fly.out a (inP a (.inr ((ow' e).2.1 a h))))⟩⟩, fun e => (ow' e).2.2⟩
        have op2 : open1 (put r3 i (some (d, if w then .ow else .fz))) j = true := by
          have hoj := hop.2
          unfold open1 at hoj ⊢
          rw [put_len]
          by_cases e : i = j
          · subst e
            rw [Bool.and_eq_true, decide_eq_true_eq] at hoj
            obtain ⟨hlt, _⟩ := hoj
            rw [nth_put_same hlt, decide_eq_true hlt]
            by_cases hw : w = true
            · simp [hw]
            · simp [hw]
          · rw [nth_put_ne e]; exact hoj
        obtain ⟨O5, s5, m5, kp5⟩ := s4.give (i := j) q' g2 op2
        rw [iw h3] at s5 kp5
        refine ⟨v, u, rfl, ?_⟩
        have p3 := p.lg s3 l (k2.trans k3)
        refine k Z3 O5 H1 _ s5 ⟨p3.step.keep, p3.step.alloc, p3.step.zle, p3.step.znew, fun a h => ?_⟩ (p3.kp.trans (kp4.trans kp5))
        rcases m5 a h with h | h
        · rcases m4 a h with h | h
          · exact p3.step.onew a h
          · exact p.from_ a (inP a (.inl ((ow h.1).2.1 a h.2)))
        · exact p.from_ a (inP a (.inr ((ow' h.1).2.1 a h.2)))
      | [], o => exact (nomatch o)
      | [_], o => exact (by cases o <;> rename_i o <;> cases o)
      | _ :: _ :: _ :: _, o => exact (by cases o <;> rename_i o <;> cases o <;> rename_i o <;> cases o)
    · cases h4
end
end Cr
/-! # Stm5: the loop that adds None to each list. -/
namespace Cr
open PySem PySem.Spec PyProof.Rows L2
section
variable {K : PySem.W.Frag} {Z Z1 Z2 Z' E : Addr → Prop} {O O1 O2 O' P P' : List Addr} {r r' r1 r2 : Rho} {σ σ' σ1 : L2.St} {H H1 H2 H' : Hp} {os os' : List Opd} {vs vs' : List V}
def isLst (d : D) : Bool := match d with | .list xs => small xs.length | _ => false
theorem Rs.lists : ∀ {ws : List V} {ds : List D} {F : List Addr}, Rs K H ws ds F → cnts ds = F.length → (ds.all isLst) = true → ∀ w ∈ ws, ∃ a xs, w = .ref a ∧ a ∈ F ∧ H a = some (.lst xs) ∧ xs.length ≤ 1000000
  | _, _, _, .nil, _, _, w, hw => by cases hw
  | _, _, _, .cons (d := d) q r, hc, ha, w, hw => by
    rw [List.all_cons, Bool.and_eq_true] at ha
    have h1 := q.cnt_le
    have h2 := r.cnt_le
    rw [cnts, List.length_append] at hc
    rcases List.mem_cons.mp hw with rfl | hw
    · cases q with
      | lst e q =>
        refine ⟨_, _, rfl, List.mem_append_left _ List.mem_cons_self, e, ?_⟩
        rw [q.len]
        exact of_decide_eq_true ha.1
      | lstK e q =>
        have h3 := q.cnt_le
        rw [cnt] at hc h1
        omega
      | _ => simp [isLst] at ha
    · obtain ⟨a, xs, e1, e2, e3, e4⟩ := Rs.lists r (by omega) ha.2 w hw
      exact ⟨a, xs, e1, List.mem_append_right _ e2, e3, e4⟩
theorem goodS_spoil {i j : Nat} : GoodS K (tFor (iSeq K (tVar i)) (gName j) (tDrop (tBM K "list" rAppend (tVar j) (tCons (tC .non) tNil)))) (fun r => (ownD r i).bind fun (d, st) => match d, st with
      | .list ds, .ow => if (ds.all fun d => match d with | .list xs => small xs.length | _ => false) && decide (i ≠ j) && decide (ds.length ≤ 1000) && open1 r j then some (put (put r i none) j none, .nx) else none
      | _, _ => none) := by
  intro r σ H Z O Ds s r' fl h k
  simp only [Option.bind_eq_some_iff] at h
  obtain ⟨⟨d, st⟩, h1, h2⟩ := h
  cases d with
  | list ds =>
    cases st with
    | ow =>
      simp only at h2
      split at h2
      · rename_i hc
        cases h2
        simp only [Bool.and_eq_true, decide_eq_true_eq] at hc
        obtain ⟨⟨⟨ha, hij⟩, hlen⟩, hop⟩ := hc
        obtain ⟨l, ws, F, G, hσ, hH, q, hcn, A⟩ := s.list h1
        obtain ⟨hn, _⟩ := ownD_nth h1
        obtain ⟨n1, n2, n3, n4⟩ := A.nd s
        have items := q.lists hcn ha
        have hjl : j < σ.length := by
          unfold open1 at hop
          rw [Bool.and_eq_true, decide_eq_true_eq, s.cells.len] at hop
          exact hop.1
        refine ⟨.ref l, hσ, l, ws, rfl, .inl ⟨SqL.of hH, ?_⟩⟩
        refine for_it (walk_list (xs := ws)) (fun m σ' H' => σ'.length = σ.length ∧ (∀ x, x ≠ j → σ'[x]? = σ[x]?) ∧ Keep (· ∈ F) H H' ∧ (∀ a, H a ≠ none → H' a ≠ none) ∧ H' l = some (.lst ws) ∧ ∀ w ∈ ws, ∃ a xs, w = .ref a ∧ a ∈ F ∧ H' a = some (.lst xs) ∧ xs.length ≤ 1000000 + m)
          ⟨rfl, fun _ _ => rfl, fun _ _ e _ => e, fun _ h => h, hH, items⟩ ?_ ?_ ?_
        · rintro m σ' H' _ ⟨_, _, _, _, h, _⟩
          exact SqL.of h
        · rintro m x σ' H' H'' hm ⟨a1, a2, a3, a4, a5, a6⟩ ⟨rfl, hx⟩
          obtain ⟨a, xs, rfl, ma, hxs, hl⟩ := a6 x (List.mem_of_getElem? hx)
          have hal : a ≠ l := fun e => (List.nodup_cons.mp n1).1 (e ▸ ma)
          refine ⟨.ref a, by rw [List.getElem?_set_self (by rw [a1]; exact hjl)], .inl ⟨rfl, xs, SqL.of hxs⟩, a, xs, .non, rfl, rfl, hxs, ?_, ?_⟩
          · have e1 : ws.length ≤ 1000 := by rw [q.len]; exact hlen
            have e2 : (1001000 : Nat) < sizeLine := by decide
            omega
          · refine ⟨by rw [List.length_set]; exact a1, fun x hx => by rw [List.getElem?_set_ne (Ne.symm hx)]; exact a2 x hx, fun b u e n => ?_, fun b hb => ?_, by rw [upd_ne (Ne.symm hal)]; exact a5, fun w hw => ?_⟩
            · rw [upd_ne (show b ≠ a from fun e' => n (e' ▸ ma))]; exact a3 b u e n
            · by_cases e : b = a
              · rw [e, upd_same]; simp
              · rw [upd_ne e]; exact a4 b hb
            · obtain ⟨b, ys, e1, e2, e3, e4⟩ := a6 w hw
              by_cases e : b = a
              · subst e
                rw [hxs] at e3
                cases e3
                exact ⟨b, _, e1, e2, upd_same, by rw [List.length_append, List.length_singleton]; omega⟩
              · exact ⟨b, ys, e1, e2, by rw [upd_ne e]; exact e3, by omega⟩
        · rintro σ' H' ⟨a1, a2, a3, a4, a5, a6⟩
          have mF : ∀ a, a ∈ F → Mt (H a) := fun a h => q.mt a h
          have dF : ∀ a ∈ G, a ∉ F := fun a h h' => n3 a (List.mem_cons_of_mem _ h') h
          have zF : ∀ a, Z a → a ∉ F := fun a z h' => s.sep a (n4 a (.inl (List.mem_cons_of_mem _ h'))) z
          have cG : Cells K Z H' (put r i none) σ G := A.out.keep a3 mF zF (fun _ z => z) dF
          have hjr : j < (put r i none).length := by rw [put_len, s.cells.len]; exact hjl
          obtain ⟨F3, G3, A3⟩ := cG.at hjr
          have inG : ∀ a ∈ G3, a ∈ G := fun a h => A3.perm.mem_iff.mpr (List.mem_append_right _ h)
          have nd3 := (List.nodup_append.mp (A3.perm.nodup_iff.mp n2)).2.1
          have hmt : ∀ a, Z a → Mt (H' a) := fun a z => by
            have m := s.zm a z
            cases e : H a with
            | none => rw [e] at m; cases m
            | some u => rw [a3 a u e (zF a z)]; rw [e] at m; exact m
          refine k Z G3 H' σ' ⟨A3.out.congr a1 fun m d st e => a2 m fun e' => ?_, nd3, fun a h => s.sep a (n4 a (.inr (inG a h))), hmt⟩ ⟨fun a u e n => a3 a u e fun h => n (n4 a (.inl (List.mem_cons_of_mem _ h))), a4, fun _ z => z, fun _ z => .inl z, fun a h => .inl (n4 a (.inr (inG a h)))⟩ ?_
          · subst e'
            rw [nth_put_same hjr] at e
            cases e
          · intro m d st hm
            have hm1 : st = .pn ∨ st = .lo → m ≠ i ∧ m ≠ j := fun hs => by
              refine ⟨fun e => ?_, fun e => ?_⟩
              · subst e
                rw [hn] at hm
                cases hm
                rcases hs with e | e <;> cases e
              · subst e
                unfold open1 at hop
                rw [hm, Bool.and_eq_true] at hop
                rcases hs with e | e <;> subst e <;> simp at hop
            refine ⟨fun e => ?_, fun e => ?_, fun e => a2 m (hm1 e).2⟩
            · obtain ⟨x1, x2⟩ := hm1 (.inl e)
              exact ⟨d, by rw [nth_put_ne (Ne.symm x2), nth_put_ne (Ne.symm x1), hm, e]⟩
            · obtain ⟨x1, x2⟩ := hm1 (.inr e)
              rw [nth_put_ne (Ne.symm x2), nth_put_ne (Ne.symm x1), hm, e]
      · cases h2
    | _ => simp at h2
  | _ => simp at h2
end
end Cr
/-! # Fn: the promise of a def where no repr is under way; calls of such defs; a def's body; the law's entry. -/
namespace Cr
open PySem PySem.Spec PyProof.Rows L2
structure FnG (P : Program) (w : World) (K : PySem.W.Frag) (mg : Str → Option Value) (base : Heap) (k : Nat) (f : Addr) (fd : FuncData) (ps : List Str) (sp : Sp) : Prop where
  len : ∀ vs H Q E, sp vs H Q E → vs.length = ps.length
  run : ∀ (A : Around) (outer : List Env) (s : Shared) (H : Hp) (args : Args) (us : List Value) (vs : List V) (Q : VK) (E : XK), Room k A → A.guards = some [] → Env0 P w K mg base A outer s H → BindsTo s fd args (ps.zip us) → Vals vs us → sp vs H Q E →
    codeAny (model P w) A (.call (.ref f) args) (CR CX0 outer P w H s Q E) s
/-- f(..) -/
def tCallG (sp : Sp) (t : TA) : TE := fun σ H Q => t σ H fun vs H1 => sp vs H1 Q E0
/-- f(.., the last parameter first) by keywords -/
def tCallR (sp : Sp) (t : TA) : TE := fun σ H Q => t σ H fun vs H1 => sp vs.reverse H1 Q E0
section
variable {X : Cx} {k : Nat} {f : Addr} {fd : FuncData} {ps : List Str} {sp : Sp} {x : Str} {p pos : Pos} {e : Expr} {es : List Expr} {t : TA} {kws : List Keyword}
theorem run_fnG {pins : List (Addr × Obj)} {σ : L2.St} {H : Hp} {s : Shared} {Q : VK} {us : List Value} {vs : List V} {args : Args} (F : FnG X.prog X.w X.K X.mg X.base k f fd ps sp) (hr : Room k X.A) (hgd : X.A.guards = some [])
    (hb : us.length = ps.length → BindsTo s fd args (ps.zip us)) (I : L2.Inv X pins σ H s) (r : Vals vs us) (h : sp vs H Q E0) :
    codeAny (model X.prog X.w) X.A (.call (.ref f) args) (fun r s' => match r with | .ok (.ret u) => EP X pins σ Q u s' | .ok _ => False | .error e => False) s := by
  have hl : us.length = ps.length := by rw [← r.length]; exact F.len _ _ _ _ h
  refine codeAny_mono (F.run X.A X.stack s H args us vs Q E0 hr hgd I.env0 (hb hl) r h) fun r s' hq => ?_
  cases r with
  | error e => exact hq
  | ok fl =>
    cases fl with
    | ret u => exact I.after hq
    | next => exact False.elim hq
    | brk => exact False.elim hq
    | cont => exact False.elim hq
theorem wants_of {M : Model} {A : Around} {c : Code} {Q : Value → Shared → Prop} {E : Value → Shared → Prop} {s : Shared} (h : codeAny M A c (fun r s' => match r with | .ok (.ret u) => Q u s' | .ok _ => False | .error e => False) s) : codeAny M A c (wants Q E) s :=
  codeAny_mono h fun r s' hq => by
    cases r with
    | error e => exact hq.elim
    | ok fl =>
      cases fl with
      | ret u => exact hq
      | next => exact hq.elim
      | brk => exact hq.elim
      | cont => exact hq.elim
theorem pe_callG (F : FnG X.prog X.w X.K X.mg X.base k f fd ps sp) (hr : Room k X.A) (hgd : X.A.guards = some []) (hg : Gl X x) (hm : X.mg x = some (.ref f)) (hk : PySem.W.keepIn X.K (.ref f) = true) (hb : Binds X.K fd ps [])
    (ha : PA X (e :: es) t) (hdb : (x == ("__debug__" : Str)) = false) (he : starEach (e :: es) X.env = (false, eval e X.env) :: starEach es X.env) (hpl : (backTo pos (starEach es X.env)).any (·.1) = false) :
    PE X (.Call (.Name x p) (e :: es) [] pos) (tCallG sp t) := by
  refine ⟨fun pins s σ H Q I h => ?_⟩
  refine wpAny_Call_Name_kw (ld_glob I hg hm ?_ hdb)
  refine PySem.W.callWith_K (h₀ := X.base) I.ok.mod.kin hk (thn (ha.run pos pins s σ H _ I h) fun us s1 ⟨vs, H1, I1, r, q⟩ => ⟨I1.kIn, ?_⟩) he hpl
  exact wpAny_call (wants_of (run_fnG F hr hgd (fun hl => by have := hb s1 us I1.kIn (by simpa using hl); simpa using this) I1 r q))
theorem pe_callG0 (F : FnG X.prog X.w X.K X.mg X.base k f fd ps sp) (hr : Room k X.A) (hgd : X.A.guards = some []) (hg : Gl X x) (hm : X.mg x = some (.ref f)) (hk : PySem.W.keepIn X.K (.ref f) = true) (hb : Binds X.K fd ps [])
    (hdb : (x == ("__debug__" : Str)) = false) : PE X (.Call (.Name x p) [] [] pos) (tCallG sp tNil) := by
  refine ⟨fun pins s σ H Q I h => ?_⟩
  refine wpAny_Call_Name_kw (ld_glob I hg hm ?_ hdb)
  refine PySem.W.callWith_K0 I.kIn hk (wpAny_call (wants_of (run_fnG (us := []) (args := ⟨[], []⟩) F hr hgd (fun hl => by have := hb s [] I.kIn (by simpa using hl); simpa using this) I .nil h)))
/-- how a call by keywords in the opposite order binds -/
def KRev (K : PySem.W.Frag) (fd : FuncData) (ps : List Str) : Prop := ∀ (s : Shared) (ws : List Value), K.In s.heap → ws.length = ps.length → BindsTo s fd ⟨[], ps.reverse.zip ws⟩ (ps.zip ws.reverse)
theorem Vals.rev {vs : List V} {us : List Value} (h : Vals vs us) : Vals vs.reverse us.reverse := Vals.reverse h
theorem pe_callKR (F : FnG X.prog X.w X.K X.mg X.base k f fd ps sp) (hr : Room k X.A) (hgd : X.A.guards = some []) (hg : Gl X x) (hm : X.mg x = some (.ref f)) (hk : PySem.W.keepIn X.K (.ref f) = true) (hb : KRev X.K fd ps)
    (hkw : PK X kws t) (hall : (backToKw pos (keywordEach kws X.env)).all (·.1.isSome) = true) (hks : (backToKw pos (keywordEach kws X.env)).filterMap (·.1) = ps.reverse) (hdb : (x == ("__debug__" : Str)) = false)
    (hpl : ((backTo pos (starEach [] X.env)).any (·.1) || (backToKw pos (keywordEach kws X.env)).any (·.1.isNone)) = false) :
    PE X (.Call (.Name x p) [] kws pos) (tCallR sp t) := by
  refine ⟨fun pins s σ H Q I h => ?_⟩
  refine wpAny_Call_Name_kw (ld_glob I hg hm ?_ hdb)
  refine PySem.W.callWith_KW0 (h₀ := X.base) I.ok.mod.kin hk hall ?_ hpl
  refine thn (hkw.run pos pins s σ H _ I h) fun ws s2 ⟨zs, H2, I2, rz, q2⟩ => ⟨I2.kIn, ?_⟩
  rw [hks]
  refine wpAny_call (wants_of (run_fnG (us := ws.reverse) (args := ⟨[], ps.reverse.zip ws⟩) F hr hgd (fun hl => hb s2 ws I2.kIn (by simpa using hl)) I2 rz.reverse q2))
end
/-- a def of the text, by its body -/
theorem fn_ofG {P : Program} {w : World} {K : PySem.W.Frag} {mg : Str → Option Value} {base : Heap} {k : Nat} {f : Addr} {x qual : Str} {st : Stmt} {fd : FuncData} {N ps : List Str} {sp : Sp} (F : Fun K x qual st f fd) (S : FnScope N ps (defScope st))
    (len : ∀ vs H Q E, sp vs H Q E → vs.length = ps.length)
    (hbody : ∀ (cdv : Value) (A : Around) (outer : List Env) (s : Shared) (H : Hp) (vs : List V) (Q : VK) (E : XK), Room k (A.deeper (envOfC qual (defScope st) s.heap.objs.size f cdv)) → A.guards = some [] → sp vs H Q E →
      ∃ t, PSs (cxOf CX0 P w K mg base N qual (defScope st) f cdv A outer s H E).nox (defBody st) t ∧ t { nx := fun _ H' => Q .non H', rt := Q } (L2.start N vs) H) : FnG P w K mg base (k + 1) f fd ps sp := by
  refine ⟨len, fun A outer s H args us vs Q E hr hgd e0 hb r hsp => ?_⟩
  obtain ⟨oc, od, kV, doc, pm, an, cdv, ct, osl, rfl, lk, hcd⟩ := F.ex
  have hl := len _ _ _ _ hsp
  have KX : K.In s.heap := e0.mod.kin.keeps fun b o e => (e0.bs b o e).1
  have lim : s.heap.NoLimit := e0.mod.nolimit.keeps fun b o e => (e0.bs b o e).1
  have hkind : ∀ y ∈ ps.zip us, (defScope st).names.lookup y.1 = some .local ∨ ((defScope st).names.lookup y.1 = some .cell ∧ ((cellsFrom (s.heap.objs.size + 1) (defScope st).names []).lookup y.1).isSome = true) := fun ⟨n, v⟩ hy => by
    rcases S.par n (List.of_mem_zip hy).1 with q | q
    · exact .inl q
    · exact .inr ⟨q, PySem.W.cellsFrom_some _ _ _ (.inl q)⟩
  refine codeAny_call_function hr.depth (KX _ _ lk) rfl S.co S.gen rfl (PySem.W.codeRec_of KX hcd) (hb _ _ _ _ ?_)
  refine wpAny_newFunctionEnv_cells S.kind hkind fun env he s1 x => ?_
  subst he
  refine ⟨lim.keeps x.toInCall.keep, codeAny_func ?_⟩
  obtain ⟨t, ht, hq⟩ := hbody cdv A outer s H vs Q E (hr.deeper _) hgd hsp
  have I := inv_start (CX := CX0) (E := E) (qual := qual) (f := f) (cd := cdv) S hr.hd e0 hl r x
  refine wpAny_mono (ht.nox.run [] s1 (L2.start N vs) H _ I hq) (fun fl s' hs => ?_) fun e s' hs => hs
  have fin : ∀ {σ' : L2.St} {H' : Hp} {v : V} {u : Value}, L2.Inv (cxOf CX0 P w K mg base N qual (defScope st) f cdv A outer s H E) [] σ' H' s' → RelV v u → Q v H' → L2.CE outer P w H s Q u s' :=
    fun {σ' H' v u} J rv q => ⟨v, H', J.os, J.bare, J.base, J.hok, rv, q⟩
  cases fl with
  | ret u =>
    obtain ⟨v, σ', H', J, rv, q⟩ := hs
    exact fin J rv q
  | next =>
    obtain ⟨σ', H', J, q⟩ := hs
    exact fin (v := V.non) (u := Value.none) J rfl q
  | brk =>
    obtain ⟨_, _, _, q⟩ := hs
    exact False.elim q
  | cont =>
    obtain ⟨_, _, _, q⟩ := hs
    exact False.elim q
end Cr
/-! # Law: from the promise of the law's def to the row. -/
namespace Cr
open PySem PySem.Spec PyProof.Rows L2
theorem law_callG {P : Program} {w : World} {K : PySem.W.Frag} {mg mb : Str → Option Value} {k : Nat} {fa a : Addr} {fd : FuncData} {x : Str} {sp : Sp} {s₁ : Shared} {vs : List Value} {ns : List Int}
    (KX : K.In s₁.heap) (hns : s₁.heap.Ns mainGlobals mg) (hb : s₁.heap.Ns builtinsNs mb) (hbb : ∀ x : Str, x ≠ "__name__" → mb x = bootBuiltins x) (hlim : s₁.heap.NoLimit) (hg : s₁.gens = #[])
    (ha : s₁.heap.get? a = some { cls := .type "list", data := .seq vs.toArray }) (hi : IntsAre vs ns) (hl : ns.length ≤ sizeLine) (hr : Room k callerA)
    (F : ∀ base : Heap, K.In base → base.Ns mainGlobals mg → FnG P w K mg base k fa fd [x] sp) (hbind : ∀ (s : Shared) (u : Value), K.In s.heap → BindsTo s fd ⟨[u], []⟩ [(x, u)])
    (hsp : ∀ H : Hp, L2.Only H → SqK K H a (ns.map V.int) → sp [.ref a] H (fun v _ => v = .bl true) E0) :
    codeAny (model P w) callerA (.call (.ref fa) ⟨[.ref a], []⟩) (fun r s' => r = .ok (.ret (.bool true)) ∧ OldK s₁.heap s'.heap ∧ s'.os = s₁.os ∧ AllBare s'.gens) s₁ := by
  have rv := vals_ints hi
  have lenV := hi.length
  have core : ∀ H : Hp, L2.Only H → SqK K H a (ns.map V.int) → HOk P w H s₁.heap → (∀ b, H b ≠ none → b = a) → (H a ≠ none → K.lookup a = none) →
      codeAny (model P w) callerA (.call (.ref fa) ⟨[.ref a], []⟩) (fun r s' => r = .ok (.ret (.bool true)) ∧ OldK s₁.heap s'.heap ∧ s'.os = s₁.os ∧ AllBare s'.gens) s₁ := by
    intro H hO hS hok hA hK
    have atA : ∀ {b : Addr}, H b ≠ none → b = a := fun {b} h => hA b h
    have noA : ∀ {b : Addr} {o : Obj} {es : Array DictEntry} {ep : Nat}, s₁.heap.get? b = some o → o.data = .dict es ep → H b = none := fun {b o es ep} e d => by
      by_cases q : H b = none
      · exact q
      · obtain rfl := atA q
        rw [ha] at e
        cases e
        cases (show Data.seq vs.toArray _ = Data.dict es ep from d)
    have nsK : ∀ {b : Addr} {m : Str → Option Value}, s₁.heap.Ns b m → (hidT s₁.heap H).Ns b m := fun {b m} ⟨o, es, ep, e, d, r⟩ => ⟨o, es, ep, hidT_get e (noA e d), d, r⟩
    have hKb : K.In (hidT s₁.heap H) := fun b o e => hidT_get (KX b o e) (by
      by_cases q : H b = none
      · exact q
      · obtain rfl := atA q
        rw [hK q] at e
        cases e)
    obtain ⟨mc, c1, c2⟩ := hlim
    have hM : Mod K mg (hidT s₁.heap H) := ⟨hKb, nsK hns, ⟨mb, nsK hb, hbb⟩, ⟨mc, nsK c1, c2⟩⟩
    have e0 : Env0 P w K mg (hidT s₁.heap H) callerA [] s₁ H := ⟨rfl, hM, fun b o e => of_hidT e, Nat.le_of_eq (hidT_size _ _), trivial, fun b hb => absurd (show b ∈ ([] : List Addr) from hb) (by simp), hok, .of_eq hg⟩
    refine codeAny_mono ((F _ hKb (nsK hns)).run callerA [] s₁ H ⟨[.ref a], []⟩ [.ref a] [.ref a] _ _ hr rfl e0 (hbind s₁ (.ref a) KX) (.cons rfl .nil) (hsp H hO hS)) fun r s' h => ?_
    cases r with
    | error e => exact False.elim h
    | ok fl =>
      cases fl with
      | next => exact False.elim h
      | brk => exact False.elim h
      | cont => exact False.elim h
      | ret u =>
        obtain ⟨v, H', os, bare, un, hok', r', q⟩ := h
        cases (show v = .bl true from q)
        cases (show u = Value.bool true from r')
        refine ⟨rfl, OldK.of_keep fun b o e => ?_, os, bare⟩
        rcases hO b with q | ⟨ob, xs, q⟩
        · exact un.keep b o e q (by intro z; exact absurd (show b ∈ ([] : List Addr) from z) (by simp)) (by simp)
        · obtain ⟨e1, _⟩ := hok b _ q
          obtain ⟨e2, _⟩ := hok' b _ (un.frzs b ob _ q)
          rw [e] at e1
          cases e1
          exact e2
  cases hk : K.lookup a with
  | some o =>
    have e := KX a o hk
    rw [ha] at e
    cases e
    exact core (fun _ => none) (fun _ => .inl rfl) (.inr ⟨vs, 0, hk, by rw [List.length_map]; exact hl, rv⟩) (fun b u z => by cases (show (none : Option HO) = some u from z)) (fun b z => absurd rfl z) fun z => absurd rfl z
  | none =>
    refine core (fun b => if b = a then some (.frz { cls := .type "list", data := .seq vs.toArray } (.lst (ns.map V.int))) else none) (fun b => ?_) (.inl ⟨{ cls := .type "list", data := .seq vs.toArray }, if_pos rfl⟩) (fun b u z => ?_) (fun b z => ?_) fun _ => hk
    · by_cases hb : b = a
      · exact .inr ⟨_, _, if_pos hb⟩
      · exact .inl (if_neg hb)
    · by_cases hb : b = a
      · cases (if_pos hb).symm.trans z
        subst hb
        exact ⟨ha, by rw [List.length_map]; exact hl, vs, _, rv, ha⟩
      · cases (if_neg hb).symm.trans z
    · by_cases hb : b = a
      · exact hb
      · exact absurd (if_neg hb) z
end Cr
/-! # Rules5: the rest of the expressions; calls. -/
namespace Cr
open PySem PySem.Spec PyProof.Rows L2
section
variable {K : PySem.W.Frag} {Z Z1 Z2 Z' E : Addr → Prop} {O O1 O2 O' P P' : List Addr} {r r' r1 r2 : Rho} {σ σ' σ1 : L2.St} {H H1 H2 H' : Hp} {os os' : List Opd} {vs vs' : List V}
theorem good_neg {te : TE} {f : Rho → Option (Opd × Rho)} (he : Good K te f) : Good K (tUn (rU fun i => .int (-i)) te) (fun r => (f r).bind fun (x, r1) => match dat r1 x with
      | some (.int i) => some (.val (.int (-i)) true, r1)
      | _ => none) := by
  intro r σ H Z O Q s x r' h k
  simp only [Option.bind_eq_some_iff] at h
  obtain ⟨⟨y, r1⟩, h1, h2⟩ := h
  refine he r σ H Z O _ s y r1 h1 fun v H1 Z1 O1 P1 p1 => ?_
  split at h2
  · rename_i i hi
    obtain ⟨F, q, _⟩ := p1.one hi
    obtain ⟨rfl, _⟩ := q.int_inv
    cases h2
    exact ⟨i, rfl, k _ _ _ _ _ (p1.val0 (.int _))⟩
  · cases h2
/-! ### isinstance -/
def tnm : D → String
  | .none => "NoneType"
  | .bool _ => "bool"
  | .int _ => "int"
  | .str _ => "str"
  | .tuple _ => "tuple"
  | .list _ => "list"
  | .dict _ => "dict"
def tyn : Ty → String
  | .int => "int"
  | .bool => "bool"
  | .str => "str"
  | .tuple => "tuple"
  | .list => "list"
  | .dict => "dict"
theorem kit_tyD (d : D) (T : Ty) : kitB (tnm d) (tyn T) = some (tyD d T) := by
  cases d <;> cases T <;> simp only [tnm, tyn, tyD] <;> decide +kernel
theorem R.tyx {v : V} {d : D} {F : List Addr} (q : R K H v d F) : TyX K H v (.type (tnm d)) := by
  cases q with
  | non => exact .base .non
  | bl b => exact .base (.bl b)
  | int i => exact .base (.int i)
  | str x => exact .base (.str x)
  | lst e q => exact .base (.lst e)
  | lstK e q =>
    rcases e with ⟨o, e⟩ | ⟨its, n, e, _⟩
    · exact .base (.frz e)
    · exact .kList e rfl
  | tup e q =>
    rcases e with (e | ⟨o, e⟩) | ⟨o, its, n, e, c, _⟩
    · exact .base (.tup e)
    · exact .fTuple e
    · exact .kTuple e c
  | dic e q => exact .base (.dK e)
theorem good_isi {te : TE} {T : Ty} {f : Rho → Option (Opd × Rho)} (he : Good K te f) : Good K (tCB (rIsi K) (tCons te (tCons (tC (.ty (tyn T))) tNil))) (fun r => (f r).bind fun (x, r1) => (dat r1 x).bind fun d => some (.val (.bool ([T].any (tyD d))) true, r1)) := by
  intro r σ H Z O Q s x r' h k
  simp only [Option.bind_eq_some_iff] at h
  obtain ⟨⟨y, r1⟩, h1, d, h2, h3⟩ := h
  cases h3
  refine he r σ H Z O _ s y r1 h1 fun v H1 Z1 O1 P1 p1 => ?_
  obtain ⟨F, q, _⟩ := p1.one h2
  refine ⟨v, .ty (tyn T), .type (tnm d), .type (tyn T), tyD d T, rfl, .ty _, q.tyx, kit_ty (kit_tyD d T), ?_⟩
  have e : [T].any (tyD d) = tyD d T := by simp
  rw [e] at k
  exact k _ _ _ _ _ (p1.val0 (.bl _))
/-! ### slices -/
def GoodO (K : PySem.W.Frag) (t : TO) (f : Rho → Option (Option Int × Rho)) : Prop := ∀ (r : Rho) (σ : L2.St) (H : Hp) (Z : Addr → Prop) (O : List Addr) (Q : Option Int → Hp → Prop), Sta K Z O r σ H → ∀ o r', f r = some (o, r') →
  (∀ H' Z' O', Post K Z O H r σ Z' O' H' r' [] [] [] → Q o H') → t σ H Q
theorem goodO_none : GoodO K tNoPart (fun r => some (none, r)) := by
  intro r σ H Z O Q s o r' h k
  cases h
  exact k _ _ _ (Post.nil s)
theorem goodO_some {te : TE} {f : Rho → Option (Opd × Rho)} (he : Good K te f) : GoodO K (tPart te) (fun r => (f r).bind fun (o, r1) => match dat r1 o with
      | some (.int i) => some (some i, r1)
      | _ => none) := by
  intro r σ H Z O Q s o r' h k
  simp only [Option.bind_eq_some_iff] at h
  obtain ⟨⟨y, r1⟩, h1, h2⟩ := h
  refine he r σ H Z O _ s y r1 h1 fun v H1 Z1 O1 P1 p1 => ?_
  split at h2
  · rename_i i hi
    obtain ⟨F, q, _⟩ := p1.one hi
    obtain ⟨rfl, _⟩ := q.int_inv
    cases h2
    exact ⟨i, rfl, k _ _ _ p1.drop⟩
  · cases h2
theorem good_slc {te : TE} {tl th : TO} {f : Rho → Option (Opd × Rho)} {g h : Rho → Option (Option Int × Rho)} (he : Good K te f) (hl : GoodO K tl g) (hh : GoodO K th h) : Good K (tSl (rSD K) te tl th) (fun r => (f r).bind fun (x, r1) => (g r1).bind fun (l, r2) => (h r2).bind fun (u, r3) =>
      (dat r3 x).bind fun da => (slcD da l u).bind fun (d, top) => fin true top d [x] r3) := by
  intro r σ H Z O Q s x r' hf k
  simp only [Option.bind_eq_some_iff] at hf
  obtain ⟨⟨y, r1⟩, h1, ⟨l, r2⟩, h2, ⟨u, r3⟩, h3, da, h4, ⟨d, top⟩, h5, h6⟩ := hf
  refine he r σ H Z O _ s y r1 h1 fun v H1 Z1 O1 P1 p1 => ?_
  refine hl r1 σ H1 Z1 O1 _ p1.sta l r2 h2 fun H2 Z2 O2 p2 => ?_
  refine hh r2 σ H2 Z2 O2 _ p2.sta u r3 h3 fun H3 Z3 O3 p3 => ?_
  have p : Post K Z O H r σ Z3 O3 H3 r3 [y] [v] P1 := by simpa using (p1.cons p2).cons p3
  have b : BR K (fun vs H Q => ∃ x, vs = [x] ∧ rSD K x l u H Q) true (fun ds => match ds with | [x] => slcD x l u | _ => none) := by
    intro vs ds F H Q d top q hg kk
    cases q with
    | nil => cases hg
    | cons q1 q =>
      cases q with
      | cons _ _ => cases hg
      | nil => exact ⟨_, rfl, _, _, d, top, q1, hg, fun v H' G' k1 qv m c => kk v H' G' k1 qv (fun a ha => (m a ha).imp (fun z => List.mem_append_left _ z) id) fun _ => c⟩
  obtain ⟨x', e, q⟩ := fin_good (vs := [v]) b p (dats1 h4) h5 h6 k
  cases e
  exact q
/-! ### d.get -/
theorem good_get1 {ta tb : TE} {f g : Rho → Option (Opd × Rho)} (ha : Good K ta f) (hb : Good K tb g) : Good K (tDGet1 ta tb) (fun r => (f r).bind fun (x, r1) => if isDictO (dat r1 x) then (g r1).bind fun (y, r2) => (dat r2 x).bind fun da => (dat r2 y).bind fun db =>
      (get1D da db).bind fun d => fin false [] d [x, y] r2
      else none) := by
  intro r σ H Z O Q s z r' h k
  simp only [Option.bind_eq_some_iff] at h
  obtain ⟨⟨x, r1⟩, h1, h⟩ := h
  split at h
  · rename_i hd
    simp only [Option.bind_eq_some_iff] at h
    obtain ⟨⟨y, r2⟩, h2, da, h3, db, h4, d, h5, h6⟩ := h
    refine ha r σ H Z O _ s x r1 h1 fun v H1 Z1 O1 P1 p1 => ?_
    cases hdx : dat r1 x with
    | none => simp only [hdx] at hd; cases hd
    | some d0 =>
      simp only [hdx] at hd
      cases d0 with
      | dict kv0 =>
        obtain ⟨F0, q0, _⟩ := p1.one hdx
        obtain ⟨a, ks0, G0, rfl, ha0, _⟩ := q0.dic_inv
        refine ⟨a, rfl, .inl ⟨ks0, .inl ha0⟩, ?_⟩
        refine hb r1 σ H1 Z1 O1 _ p1.sta y r2 h2 fun w H2 Z2 O2 P2 p2 => ?_
        have p := p1.cons p2
        have b : BR K (fun vs H Q => ∃ x w, vs = [x, w] ∧ ∃ a o, x = .ref a ∧ DGet H a w o ∧ Q (o.getD .non) H) false (fun ds => match ds with | [a, b] => (get1D a b).map fun d => (d, []) | _ => none) := by
          intro vs ds F H Q d top q hg kk
          cases q with
          | nil => cases hg
          | @cons _ _ dx _ _ _ q1 q =>
            cases q with
            | nil => cases hg
            | @cons _ _ dy _ _ _ q2 q =>
              cases q with
              | cons _ _ => cases hg
              | nil =>
                simp only [Option.map_eq_some_iff] at hg
                obtain ⟨d', hg, e⟩ := hg
                cases e
                cases dx with
                | dict kvs =>
                  simp only [get1D] at hg
                  split at hg
                  · rename_i hk
                    cases hg
                    obtain ⟨a, o, rfl, gg, _, e, m⟩ := q1.dget q2 hk
                    refine ⟨_, _, rfl, a, o, rfl, gg, ?_⟩
                    cases o with
                    | none =>
                      have e' : dkeys kvs dy = none := by
                        cases hh : dkeys kvs dy with
                        | none => rfl
                        | some _ => rw [hh] at e; cases e
                      rw [e'] at kk
                      exact kk .non H [] (fun _ _ e _ => e) .non nil_all fun c => by cases c
                    | some w' =>
                      obtain ⟨d2, G2, e2, q2', m2⟩ := m w' rfl
                      rw [e2] at kk
                      exact kk w' H G2 (fun _ _ e _ => e) q2' (fun b hb => .inl (List.mem_append_left _ (m2 b hb))) fun c => by cases c
                  · cases hg
                | _ => simp [get1D] at hg
        obtain ⟨x', w', e, a', o, ea, gg, q⟩ := fin_good (vs := [.ref a, w]) b p (dats2 h3 h4) (by simp only [h5]; rfl) h6 k
        cases e
        cases ea
        exact ⟨o, gg, q⟩
      | _ => simp [isDictO] at hd
  · cases h
theorem good_get2 {ta tb tc : TE} {f g h : Rho → Option (Opd × Rho)} (ha : Good K ta f) (hb : Good K tb g) (hc : Good K tc h) : Good K (tDGet2 ta tb tc) (fun r => (f r).bind fun (x, r1) => if isDictO (dat r1 x) then (g r1).bind fun (y, r2) => (h r2).bind fun (z, r3) => (dat r3 x).bind fun da => (dat r3 y).bind fun db => (dat r3 z).bind fun dc =>
      (get2D da db dc).bind fun d => fin false [] d [x, y, z] r3
      else none) := by
  intro r σ H Z O Q s zz r' hh k
  simp only [Option.bind_eq_some_iff] at hh
  obtain ⟨⟨x, r1⟩, h1, hh⟩ := hh
  split at hh
  · rename_i hd
    simp only [Option.bind_eq_some_iff] at hh
    obtain ⟨⟨y, r2⟩, h2, ⟨z, r3⟩, h2', da, h3, db, h4, dc, h4', d, h5, h6⟩ := hh
    refine ha r σ H Z O _ s x r1 h1 fun v H1 Z1 O1 P1 p1 => ?_
    cases hdx : dat r1 x with
    | none => simp only [hdx] at hd; cases hd
    | some d0 =>
      simp only [hdx] at hd
      cases d0 with
      | dict kv0 =>
        obtain ⟨F0, q0, _⟩ := p1.one hdx
        obtain ⟨a, ks0, G0, rfl, ha0, _⟩ := q0.dic_inv
        refine ⟨a, rfl, .inl ⟨ks0, .inl ha0⟩, ?_⟩
        refine hb r1 σ H1 Z1 O1 _ p1.sta y r2 h2 fun w H2 Z2 O2 P2 p2 => ?_
        refine hc r2 σ H2 Z2 O2 _ p2.sta z r3 h2' fun u H3 Z3 O3 P3 p3 => ?_
        have p := (p1.cons p2).cons p3
        have b : BR K (fun vs H Q => ∃ x w u, vs = [x, w, u] ∧ ∃ a o, x = .ref a ∧ DGet H a w o ∧ Q (o.getD u) H) false (fun ds => match ds with | [a, b, c] => (get2D a b c).map fun d => (d, []) | _ => none) := by
          intro vs ds F H Q d top q hg kk
          cases q with
          | nil => cases hg
          | @cons _ _ dx _ _ _ q1 q =>
            cases q with
            | nil => cases hg
            | @cons _ _ dy _ _ _ q2 q =>
              cases q with
              | nil => cases hg
              | @cons _ _ dz _ _ _ q3 q =>
                cases q with
                | cons _ _ => cases hg
                | nil =>
                  simp only [Option.map_eq_some_iff] at hg
                  obtain ⟨d', hg, e⟩ := hg
                  cases e
                  cases dx with
                  | dict kvs =>
                    simp only [get2D] at hg
                    split at hg
                    · rename_i hk
                      cases hg
                      obtain ⟨a, o, rfl, gg, _, e, m⟩ := q1.dget q2 hk
                      refine ⟨_, _, _, rfl, a, o, rfl, gg, ?_⟩
                      cases o with
                      | none =>
                        have e' : dkeys kvs dy = none := by
                          cases hh : dkeys kvs dy with
                          | none => rfl
                          | some _ => rw [hh] at e; cases e
                        rw [e'] at kk
                        exact kk _ H _ (fun _ _ e _ => e) q3 (fun b hb => .inl (List.mem_append_right _ (List.mem_append_right _ (by simpa using hb)))) fun c => by cases c
                      | some w' =>
                        obtain ⟨d2, G2, e2, q2', m2⟩ := m w' rfl
                        rw [e2] at kk
                        exact kk w' H G2 (fun _ _ e _ => e) q2' (fun b hb => .inl (List.mem_append_left _ (m2 b hb))) fun c => by cases c
                    · cases hg
                  | _ => simp [get2D] at hg
        obtain ⟨x', w', u', e, a', o, ea, gg, q⟩ := fin_good (vs := [.ref a, w, u]) b p (dats3 h3 h4 h4') (by simp only [h5]; rfl) h6 k
        cases e
        cases ea
        exact ⟨o, gg, q⟩
      | _ => simp [isDictO] at hd
  · cases hh
/-! ### dict displays: none, one entry -/
theorem good_dic0 : Good K tDNewK (fun r => some (.val (.dict []) true, r)) := by
  intro r σ H Z O Q s x r' h k
  cases h
  intro p hp
  have kk : Keep (fun _ => False) H (upd H p (.dK [])) := Keep.upd hp
  have pg := (Post.nil (r := r) s).grow kk
  refine k _ _ Z O [p] ⟨pg.sta, pg.step, pg.kp, ⟨by simpa using Ops.own (σ := σ) (Z := Z) (.dic upd_same .nil) rfl .nil, by simp, fun a ha h' => ?_, fun a ha z => ?_⟩, fun a ha => ?_⟩
  · obtain rfl : a = p := by simpa using ha
    exact (s.mo _ h').some hp
  · obtain rfl : a = p := by simpa using ha
    exact (s.zm _ z).some hp
  · obtain rfl : a = p := by simpa using ha
    exact .inr hp
theorem good_dic1 {tk tv : TE} {f g : Rho → Option (Opd × Rho)} (hk : Good K tk f) (hv : Good K tv g) : Good K (tDisp [(tk, tv)]) (fun r => (f r).bind fun (x, r1) => (g r1).bind fun (y, r2) => (dat r2 x).bind fun dk => (dat r2 y).bind fun dv =>
      if isKey dk && imm dv then some (.val (.dict [(dk, dv)]) true, r2) else none) := by
  intro r σ H Z O Q s z r' h k
  simp only [Option.bind_eq_some_iff] at h
  obtain ⟨⟨x, r1⟩, h1, ⟨y, r2⟩, h2, dk, h3, dv, h4, h5⟩ := h
  split at h5
  · rename_i hc
    cases h5
    rw [Bool.and_eq_true] at hc
    intro p hp
    have kk : Keep (fun _ => False) H (upd H p (.dK [])) := Keep.upd hp
    have s0 := s.heap kk
    refine hk r σ _ Z O _ s0 x r1 h1 fun v H1 Z1 O1 P1 p1 => ?_
    refine hv r1 σ H1 Z1 O1 _ p1.sta y r2 h2 fun w H2 Z2 O2 P2 p2 => ?_
    have pp := p1.cons p2
    have pO : p ∉ O := fun h => (s.mo _ h).some hp
    have hH2 : H2 p = some (.dK []) := pp.step.keep _ _ upd_same pO
    obtain ⟨Fk, Fv, qk, qv⟩ := pp.two h3 h4
    cases qv.imm hc.2
    obtain ⟨kx, _, rfl⟩ := isKey_inv hc.1
    cases qk.key_inv
    refine ⟨hH2, [(kx, w)], rfl, (by show 1 ≤ 15; decide), ?_⟩
    have hup : H (p) = none := hp
    have newp : (upd H p (.dK [])) p ≠ none := by rw [upd_same]; simp
    have pO2 : p ∉ O2 := fun h => (pp.step.onew _ h).elim pO newp
    have pZ2 : ¬ Z2 p := fun z => by
      rcases pp.step.znew _ z with z | z | z
      · exact (s.zm _ z).some hp
      · exact pO z
      · exact newp z
    have kD : Keep (fun a => a = p) H2 (upd H2 p (.dK [(kx, w)])) := fun a u e n => by rw [upd_ne n]; exact e
    have mD : ∀ a, a = p → Mt (H2 a) := fun a e => by rw [e, hH2]; trivial
    have qd : R K (upd H2 p (.dK [(kx, w)])) (.ref p) (.dict [(keyD kx, dv)]) [p] := .dic upd_same (Rk.cons (F := []) (G := []) (qv.other (by rw [hH2]; trivial) (fun h => nomatch h)) .nil)
    have hm : mergeK [] [(kx, w)] = [(kx, w)] := rfl
    rw [hm]
    have sta : Sta K Z2 O2 r2 σ (upd H2 p (.dK [(kx, w)])) := ⟨pp.sta.cells.keep kD mD (fun a z e => pZ2 (e ▸ z)) (fun _ z => z) (fun a h e => pO2 (e ▸ h)), pp.sta.nd, pp.sta.sep, fun a z => by rw [upd_ne (show a ≠ p from fun e => pZ2 (e ▸ z))]; exact pp.sta.zm a z⟩
    have t := kk.step (Z := Z) (O := O) |>.trans pp.step
    refine k _ _ Z2 O2 [p] ⟨sta, ⟨fun a u e n => ?_, fun a hh => ?_, t.zle, t.znew, t.onew⟩, pp.kp, ⟨by simpa using Ops.own (σ := σ) (Z := Z2) qd (by simp [cnt, cntk, cnt_imm hc.2]) .nil, by simp, fun a ha h' => ?_, fun a ha z => ?_⟩, fun a ha => ?_⟩
    · rw [upd_ne (ne_of_none e hp)]; exact t.keep a u e n
    · by_cases e : a = p
      · rw [e, upd_same]; simp
      · rw [upd_ne e]; exact t.alloc a hh
    · obtain rfl : a = p := by simpa using ha
      exact pO2 h'
    · obtain rfl : a = p := by simpa using ha
      exact pZ2 z
    · obtain rfl : a = p := by simpa using ha
      exact .inr hp
  · cases h5
/-! ### calls -/
theorem good_call {par : Nat} {F : List (D × Stt) → Option (D × Bool × D)} {t : TA} {fs : Rho → Option (List Opd × Rho)} (hp : ∀ as x, F as = some x → as.length = par) (ht : GoodL K t fs) : Good K (tCallG (spF K par false F) t) (fun r => (fs r).bind fun (os, r1) => (argsOf r1 os).bind fun as => (F as).bind fun (d, o, _) => endCall d o os r1) := by
  intro r σ H Z O Q s x r' h k
  simp only [Option.bind_eq_some_iff] at h
  obtain ⟨⟨os, r1⟩, h1, as, h2, ⟨d, o, d1⟩, h3, h4⟩ := h
  exact ht r σ H Z O _ s os r1 h1 fun vs H1 Z1 O1 P p => call_good p h2 (hp _ _ h3) h3 h4 k
theorem good_callp {par i : Nat} {F : List (D × Stt) → Option (D × Bool × D)} {t : TA} {fs : Rho → Option (List Opd × Rho)} (hp : ∀ as x, F as = some x → as.length = par) (ht : GoodL K t fs) : Good K (tCallG (spF K par true F) (tCons (tVar i) t)) (fun r => (ownD r i).bind fun _ => (fs r).bind fun (os, r1) => (ownD r1 i).bind fun (d0, st) => if noName i os then
      (argsOf r1 os).bind fun as => (F ((d0, .pn) :: as)).bind fun (d, o, d1) => endCall d o os (put r1 i (some (d1, st))) else none) := by
  intro r σ H Z O Q s x r' h k
  simp only [Option.bind_eq_some_iff] at h
  obtain ⟨⟨dz, stz⟩, hz, ⟨os, r1⟩, h1, ⟨d0, st⟩, hw, h⟩ := h
  split at h
  · rename_i hn
    simp only [Option.bind_eq_some_iff] at h
    obtain ⟨as, h2, ⟨d, o, d1⟩, h3, h4⟩ := h
    obtain ⟨u, hu⟩ := s.owned hz
    refine ⟨u, hu, ?_⟩
    exact ht r σ H Z O _ s os r1 h1 fun vs H1 Z1 O1 P p => callp_good p h2 (by simpa using hp _ _ h3) hw hn h3 h4 k hu
  · cases h
theorem Ops.rev : ∀ {os : List Opd} {vs : List V} {P : List Addr}, Ops K Z H σ os vs P → ∃ P', P'.Perm P ∧ Ops K Z H σ os.reverse vs.reverse P'
  | _, _, _, .nil => ⟨[], .refl _, .nil⟩
  | _, _, _, .nm e o => by
    obtain ⟨P', p, q⟩ := Ops.rev o
    exact ⟨P' ++ [], by simpa using p, by simpa using q.append (.nm e .nil)⟩
  | _, _, _, .own q n o => by
    obtain ⟨P', p, q'⟩ := Ops.rev o
    refine ⟨P' ++ (_ ++ []), ?_, by simpa using q'.append (.own q n .nil)⟩
    rw [List.append_nil]
    exact (p.append_right _).trans List.perm_append_comm
  | _, _, _, .fz q f o => by
    obtain ⟨P', p, q'⟩ := Ops.rev o
    exact ⟨P' ++ [], by simpa using p, by simpa using q'.append (.fz q f .nil)⟩
theorem good_callk {par : Nat} {ix : List Nat} {F : List (D × Stt) → Option (D × Bool × D)} {t : TA} {fs : Rho → Option (List Opd × Rho)} (hp : ∀ as x, F as = some x → as.length = par) (ht : GoodL K t fs) : Good K (tCallR (spF K par false F) t) (fun r => (fs r).bind fun (os, r1) => (permD ix os os.length).bind fun ps => (argsOf r1 ps).bind fun as => (F as).bind fun (d, o, _) => endCall d o ps r1) := by
  intro r σ H Z O Q s x r' h k
  simp only [Option.bind_eq_some_iff] at h
  obtain ⟨⟨os, r1⟩, h1, ps, hps, as, h2, ⟨d, o, d1⟩, h3, h4⟩ := h
  unfold permD at hps
  split at hps
  · cases hps
    refine ht r σ H Z O _ s os r1 h1 fun vs H1 Z1 O1 P p => ?_
    obtain ⟨P', pm, q⟩ := p.fly.ops.rev
    have p' : Post K Z O H r σ Z1 O1 H1 r1 os.reverse vs.reverse P' := ⟨p.sta, p.step, p.kp, ⟨q, pm.nodup_iff.mpr p.fly.nd, fun a ha => p.fly.out a (pm.mem_iff.mp ha), fun a ha => p.fly.sep a (pm.mem_iff.mp ha)⟩, fun a ha => p.from_ a (pm.mem_iff.mp ha)⟩
    exact call_good p' h2 (hp _ _ h3) h3 h4 k
  · cases hps
end
end Cr
/-! # Match: does a core text say what a Python text says? A check that the kernel runs, proved right once. -/
namespace Cr
open PySem PySem.Spec PyProof.Rows L2

/-! ### what is seen of an expression's outside -/
def notSt : Expr → Bool
  | .Starred _ _ => false
  | _ => true
def visB (sc : Scope) (x : Str) : Bool := match sc.names.lookup x with
  | some .local => true
  | some .cell => true
  | some .free => true
  | _ => false
def locB (fn : Str → Bool) (sc : Scope) (x : Str) : Bool := match sc.names.lookup x with
  | some .local => true
  | some .cell => fn x
  | _ => false
def glB (sc : Scope) (x : Str) : Bool := match sc.names.lookup x with
  | some .globalImplicit => true
  | _ => false
def okName (x : Str) : Bool := !(x == ("__debug__" : Str)) && !(x == ("__classdict__" : Str))
/-- as a test it is its value -/
def plainT : Expr → Bool
  | .UnaryOp .Not _ _ => false
  | .BoolOp _ _ _ => false
  | .IfExp _ _ _ _ => false
  | .Compare _ _ _ _ => false
  | _ => true
def noSlice : Expr → Bool
  | .Slice _ _ _ _ => false
  | _ => true
def noSet : Expr → Bool
  | .Set _ _ _ => false
  | _ => true
def noComp : Expr → Bool
  | .ListComp _ _ _ _ => false
  | .SetComp _ _ _ _ => false
  | .DictComp _ _ _ _ _ => false
  | _ => true
def noCall0 : Expr → Bool
  | .Call _ (_ :: _) _ _ => true
  | .Call _ _ _ _ => false
  | _ => true
def isTup : Expr → Bool
  | .Tuple _ _ _ => true
  | _ => false
def isBo : Expr → Bool
  | .BoolOp _ _ _ => true
  | _ => false
theorem star_no {e : Expr} {es : List Expr} {env : Env} (h : notSt e = true) : starEach (e :: es) env = (false, eval e env) :: starEach es env := by
  cases e <;> first | rfl | cases h
theorem back_no {pos : Pos} {env : Env} : ∀ {es : List Expr}, es.all notSt = true → (backTo pos (starEach es env)).any (·.1) = false
  | [], _ => rfl
  | e :: es, h => by
    simp only [List.all_cons, Bool.and_eq_true] at h
    rw [star_no h.1]
    show (false || (backTo pos (starEach es env)).any (·.1)) = false
    rw [back_no h.2]
    rfl
theorem test_plain {e : Expr} (h : plainT e = true) (env : Env) (whole : Sem Value) : isTrue e env whole = (do let v ← whole; standAt e.pos; holding [v] (truthy v)) := by
  cases e with
  | UnaryOp o x p => cases o <;> first | rfl | cases h
  | BoolOp _ _ _ => cases h
  | IfExp _ _ _ _ => cases h
  | Compare _ _ _ _ => cases h
  | _ => rfl
theorem ix_plain {e : Expr} (h : noSlice e = true) : PlainIx e := fun o i => by
  cases e <;> first | rfl | cases h
theorem mark_no {e : Expr} {op : CmpOp} (h : noSet e = true) : behindInMarks op e = false := by
  cases e <;> first | rfl | cases h
theorem fold_no {e : Expr} {env : Env} {x : Value} (h : noSet e = true) : foldedSetIterable e env x = pure x := by
  cases e <;> first | rfl | cases h
theorem swap_no {e : Expr} {t : Option Expr} {l : Nat} {env : Env} (h : noComp e = true) : swapsWith e t l env = pure false := by
  cases e <;> first | rfl | cases h
theorem base_no {o : Expr} {m : Str} {env : Env} {w : Sem Value} (h : noCall0 o = true) : attributeBase o m env w = w := by
  cases o with
  | Call f as ks p =>
    cases as with
    | nil => cases h
    | cons a as => cases f <;> rfl
  | _ => rfl
theorem as_no {e : Expr} {es : List Expr} {env : Env} (h : notSt e = true) : assignEach (e :: es) env = (false, assign e env) :: assignEach es env := by
  cases e <;> first | rfl | cases h

/-! ### the check -/
def conB : D → Const → Bool
  | .none, .none => true
  | .bool b, .bool c => b == c
  | .int i, .int j => decide (i = j)
  | .str x, .str y => decide (x = y)
  | _, _ => false
def opB : Operator → Bool
  | .MatMult => false
  | .Div => false
  | _ => true
/-- the name of a built-in function -/
def biN : BI → Str
  | .len => "len"
  | .abs => "abs"
  | .int => "int"
  | .max2 => "max"
  | .min2 => "min"
  | .maxs => "max"
  | .mins => "min"
  | .sum => "sum"
  | .sorted => "sorted"
  | .tuple => "tuple"
  | .list => "list"
  | .all => "all"
  | .any => "any"
  | .repr => "repr"
  | _ => ""
/-- calls of one function; the others are two calls in one -/
def biOne : BI → Bool
  | .sset => false
  | .lset => false
  | .lrng => false
  | .trng => false
  | .dvm => false
  | _ => true
def tyS : Ty → Str
  | .int => "int"
  | .bool => "bool"
  | .str => "str"
  | .tuple => "tuple"
  | .list => "list"
  | .dict => "dict"
section
variable (T : List FE) (gs : List (Str × Int)) (N : List Str)
mutual
def mT (fn : Str → Bool) (sc : Scope) : Tg → Expr → Bool
  | .nm i, e => match e with
    | .Name x _ => decide (N[i]? = some x) && locB fn sc x
    | _ => false
  | .tup ts, e => match e with
    | .Tuple es _ _ => mTs fn sc ts es
    | _ => false
def mTs (fn : Str → Bool) (sc : Scope) : List Tg → List Expr → Bool
  | [], es => match es with
    | [] => true
    | _ => false
  | t :: ts, es => match es with
    | e :: r => notSt e && mT fn sc t e && mTs fn sc ts r
    | _ => false
end
def ownP (own : List Nat) : List (Str × Nat) := own.map fun i => ((N[i]?).getD default, i)
def fnOf (scope : Scope) (x : Str) : Bool := scope.names.lookup x == some .cell
mutual
def mE : CE → Scope → Expr → Bool
  | .var i, sc, e => match e with
    | .Name x _ => decide (N[i]? = some x) && visB sc x && okName x
    | _ => false
  | .con d, _, e => match e with
    | .Constant c _ _ => conB d c
    | _ => false
  | .glb x d, sc, e => match e, d with
    | .Name y _, .int i => decide (x = y) && glB sc x && okName x && decide (gs.lookup x = some i)
    | _, _ => false
  | .op2 o a b, sc, e => match e with
    | .BinOp l o' r _ => decide (o = o') && opB o && mE a sc l && mE b sc r
    | _ => false
  | .neg a, sc, e => match e with
    | .UnaryOp .USub l _ => mE a sc l
    | _ => false
  | .cmp o a b, sc, e => match e with
    | .Compare l [o'] [r] _ => decide (o = o') && noSet r && mE a sc l && mE b sc r
    | _ => false
  | .cmp3 o1 o2 a b c, sc, e => match e with
    | .Compare l [o1', o2'] [r, q] _ => decide (o1 = o1') && decide (o2 = o2') && noSet q && mE a sc l && mE b sc r && mE c sc q
    | _ => false
  | .nt a, sc, e => match e with
    | .UnaryOp .Not l _ => mE a sc l
    | _ => false
  | .an a b, sc, e => match e with
    | .BoolOp .And (x :: y :: rest) pos => mE a sc x && (match rest with
      | [] => mE b sc y
      | _ :: _ => mE b sc (.BoolOp .And (y :: rest) pos))
    | _ => false
  | .orr a b, sc, e => match e with
    | .BoolOp .Or (x :: y :: rest) pos => mE a sc x && (match rest with
      | [] => mE b sc y
      | _ :: _ => mE b sc (.BoolOp .Or (y :: rest) pos))
    | _ => false
  | .ife c a b, sc, e => match e with
    | .IfExp t x y _ => mE c sc t && mE a sc x && mE b sc y
    | _ => false
  | .tup es, sc, e => match e with
    | .Tuple xs _ _ => mL es sc xs
    | _ => false
  | .lst es, sc, e => match e with
    | .List xs _ => mL es sc xs
    | _ => false
  | .dic ks vs, sc, e => match e with
    | .Dict [] [] _ => mL ks sc [] && mL vs sc []
    | .Dict [some x] [y] _ => mL ks sc [x] && mL vs sc [y]
    | _ => false
  | .idx a b, sc, e => match e with
    | .Subscript l r _ => noSlice r && mE a sc l && mE b sc r
    | _ => false
  | .slc a lo hi, sc, e => match e with
    | .Subscript l (.Slice x y none _) _ => mE a sc l && mO lo sc x && mO hi sc y
    | _ => false
  | .rvs _, _, _ => false
  | .call f es, sc, e => match e, T[f]? with
    | .Call (.Name x _) xs [] _, some fe => decide (x = fe.name) && glB sc x && okName x && !fe.pin && mL es sc xs
    | _, _ => false
  | .callp f i es, sc, e => match e, T[f]? with
    | .Call (.Name x _) (.Name y _ :: xs) [] _, some fe => decide (x = fe.name) && glB sc x && okName x && fe.pin && decide (N[i]? = some y) && visB sc y && okName y && mL es sc xs
    | _, _ => false
  | .callk f _ es, sc, e => match e, T[f]? with
    | .Call (.Name x _) [] kws _, some fe => decide (x = fe.name) && glB sc x && okName x && !fe.pin && decide (kws.map (·.arg) = (fe.N.take fe.par).reverse.map some) && mL es sc (kws.map (·.value))
    | _, _ => false
  | .bi b es, sc, e => match e with
    | .Call (.Name x _) [a] [] _ => match b with
      | .sset => decide (x = "sorted") && glB sc x && (match a with
        | .Call (.Name y _) (z :: zs) [] _ => decide (y = "set") && glB sc y && mL es sc (z :: zs)
        | _ => false)
      | .lrng => decide (x = "list") && glB sc x && (match a with
        | .Call (.Name y _) [z] [] _ => decide (y = "range") && glB sc y && mL es sc [z]
        | _ => false)
      | .trng => decide (x = "tuple") && glB sc x && (match a with
        | .Call (.Name y _) [z] [] _ => decide (y = "range") && glB sc y && mL es sc [z]
        | _ => false)
      | b => biOne b && decide (x = biN b) && glB sc x && mL es sc [a]
    | .Call (.Name x _) [a, c] [] _ => biOne b && decide (x = biN b) && glB sc x && mL es sc [a, c]
    | _ => false
  | .isi a ts, sc, e => match e, ts with
    | .Call (.Name x _) [l, .Name y _] [] _, [t] => decide (x = "isinstance") && glB sc x && decide (y = tyS t) && glB sc y && notSt l && mE a sc l
    | _, _ => false
  | .get1 a b, sc, e => match e with
    | .Call (.Attribute o m ap) [k] [] cp => decide (m = "get") && noCall0 o && notSt k && (ap.endLine == cp.line) && mE a sc o && mE b sc k
    | _ => false
  | .get2 a b c, sc, e => match e with
    | .Call (.Attribute o m ap) [k, d] [] cp => decide (m = "get") && noCall0 o && notSt k && notSt d && (ap.endLine == cp.line) && mE a sc o && mE b sc k && mE c sc d
    | _ => false
  | .index _ _, _, _ => false
  | .pop0 _, _, _ => false
  | .pop1 _ _, _, _ => false
  | .comp elt tg it _ cond own, sc, e => match e with
    | .ListComp x [⟨t, i, ifs, 0⟩] scope _ => blkC N sc scope (ownP N own) && noSet i && mI it sc t i && mT N (fnOf scope) (relS scope sc) tg t && decide (∀ j ∈ slots tg, j ∈ own) && mC cond (relS scope sc) ifs && mE elt (relS scope sc) x
    | _ => false
def mL : CEs → Scope → List Expr → Bool
  | .nil, _, xs => match xs with
    | [] => true
    | _ => false
  | .cons a as, sc, xs => match xs with
    | x :: r => notSt x && mE a sc x && mL as sc r
    | _ => false
def mO : CEo → Scope → Option Expr → Bool
  | .no, _, e => match e with
    | none => true
    | _ => false
  | .yes a, sc, e => match e with
    | some x => mE a sc x
    | _ => false
def mC : CEo → Scope → List Expr → Bool
  | .no, _, e => match e with
    | [] => true
    | _ => false
  | .yes a, sc, e => match e with
    | [x] => mE a sc x
    | _ => false
def mI : CIt → Scope → Expr → Expr → Bool
  | .ofE a, sc, _, e => mE a sc e
  | .rng1 a, sc, _, e => match e with
    | .Call (.Name x _) [y] [] _ => decide (x = "range") && glB sc x && notSt y && mE a sc y
    | _ => false
  | .rng2 a b, sc, _, e => match e with
    | .Call (.Name x _) [y, z] [] _ => decide (x = "range") && glB sc x && notSt y && notSt z && mE a sc y && mE b sc z
    | _ => false
  | .enum a, sc, t, e => match e with
    | .Call (.Name x _) [y] [] _ => decide (x = "enumerate") && glB sc x && isTup t && notSt y && mE a sc y
    | _ => false
  | .zip a b, sc, t, e => match e with
    | .Call (.Name x _) [y, z] [] _ => decide (x = "zip") && glB sc x && isTup t && notSt y && notSt z && mE a sc y && mE b sc z
    | _ => false
end
end

/-! ### it is right -/
/-- what the functions of the table promise, and the module's names -/
structure Tb (P : Program) (w : World) (K : PySem.W.Frag) (mg : Str → Option Value) (base : Heap) (T : List FE) (gs : List (Str × Int)) (lvl : Nat) (call : CallT) : Prop where
  blt : ∀ x : Str, x ∈ (["len", "abs", "int", "max", "min", "sum", "sorted", "tuple", "list", "all", "any", "repr", "set", "range", "enumerate", "zip", "isinstance", "bool", "str", "dict"] : List Str) → mg x = none
  glb : ∀ x i, gs.lookup x = some i → ∃ t, mg x = some (.int i t)
  fn : ∀ i fe, T[i]? = some fe → ∃ a fd, mg fe.name = some (.ref a) ∧ PySem.W.keepIn K (.ref a) = true ∧ Binds K fd (fe.N.take fe.par) [] ∧ KRev K fd (fe.N.take fe.par) ∧ FnG P w K mg base lvl a fd (fe.N.take fe.par) (spF K fe.par fe.pin (call i))
  len : ∀ i fe, T[i]? = some fe → ∀ as x, call i as = some x → as.length = fe.par
/-- a body's context -/
structure Ctx (P : Program) (w : World) (K : PySem.W.Frag) (mg : Str → Option Value) (base : Heap) (lvl : Nat) (N : List Str) (sc : Scope) (X : Cx) : Prop where
  prog : X.prog = P
  w : X.w = w
  K : X.K = K
  mg : X.mg = mg
  base : X.base = base
  N : X.N = N
  sc : X.env.scope = sc
  calm : X.calm = true
  room : Room lvl X.A
  guards : X.A.guards = some []
  xe : X.xe = fun _ _ => False
section
variable {P : Program} {w : World} {K : PySem.W.Frag} {mg : Str → Option Value} {base : Heap} {T : List FE} {gs : List (Str × Int)} {lvl : Nat} {call : CallT} {N : List Str} {sc : Scope} {X : Cx}
theorem Ctx.units (h : Ctx P w K mg base lvl N sc X) : X.A.units + 100 < cLine := by have := h.room.un; omega
theorem Ctx.units1 (h : Ctx P w K mg base lvl N sc X) : X.A.units + 65 < cLine := by have := h.room.un; omega
theorem Ctx.vis (h : Ctx P w K mg base lvl N sc X) {x : Str} (hv : visB sc x = true) : Vis X.env.scope x := by
  rw [h.sc]
  unfold visB at hv
  unfold Vis
  split at hv <;> first | exact .inl (by assumption) | exact .inr (.inl (by assumption)) | exact .inr (.inr (by assumption)) | cases hv
theorem Ctx.gl (h : Ctx P w K mg base lvl N sc X) {x : Str} (hv : glB sc x = true) : Gl X x := by
  unfold Gl PySem.Env.kindOf
  rw [h.sc]
  unfold glB at hv
  split at hv <;> first | assumption | cases hv
theorem Ctx.loc (h : Ctx P w K mg base lvl N sc X) {fn : Str → Bool} {x : Str} (hv : locB fn sc x = true) : L2.Loc X.env.scope x ∧ (fn x = true ∨ X.env.scope.names.lookup x = some .local) := by
  rw [h.sc]
  unfold locB at hv
  unfold L2.Loc
  split at hv
  · exact ⟨.inl (by assumption), .inr (by assumption)⟩
  · exact ⟨.inr (by assumption), .inl hv⟩
  · cases hv
theorem okName_debug {x : Str} (h : okName x = true) : (x == ("__debug__" : Str)) = false := by
  unfold okName at h
  simp only [Bool.and_eq_true, Bool.not_eq_true'] at h
  exact h.1
theorem okName_class {x : Str} (h : okName x = true) : (x == ("__classdict__" : Str)) = false := by
  unfold okName at h
  simp only [Bool.and_eq_true, Bool.not_eq_true'] at h
  exact h.2
theorem Ctx.blk (h : Ctx P w K mg base lvl N sc X) (s : Shared) (H : Hp) (scope : Scope) (C : Addr) (cl : List (Str × Addr)) (fp : List Addr) : Ctx P w K mg base lvl N (relS scope sc) (X.blk s H scope (compEnvC scope cl C X.env) fp) :=
  ⟨h.prog, h.w, h.K, h.mg, h.base, h.N, by rw [← h.sc]; rfl, h.calm, h.room, h.guards, rfl⟩

/-! #### targets -/
mutual
theorem mT_ok {fn : Str → Bool} (hN : N.Nodup) : ∀ (t : Tg) (e : Expr), mT N fn sc t e = true → ∃ g, (∀ X, Ctx P w K mg base lvl N sc X → (∀ x, fn x = true → X.fn x = true) → PG X e g) ∧ GoodG K g (slots t) (fun w d r => asg w t d r)
  | .nm i, e, h => by
    simp only [mT] at h
    split at h
    · rename_i x p
      simp only [Bool.and_eq_true, decide_eq_true_eq] at h
      exact ⟨gName i, fun X c f => pg_name (by rw [c.N]; exact hN) (by rw [c.N]; exact h.1) (c.loc h.2).1 ((c.loc h.2).2.imp (f x) id), goodG_name⟩
    · cases h
  | .tup ts, e, h => by
    simp only [mT] at h
    split at h
    · rename_i es k p
      obtain ⟨gs', h1, h2, h3, h4⟩ := mTs_ok hN ts es h
      refine ⟨gTup K ts.length gs', fun X c f => ?_, goodG_tup rfl h2⟩
      rw [← c.K]
      exact pg_tup c.calm (h1 X c f) (by rw [(h3 X).1]; exact h4) (h3 X).2
    · cases h
theorem mTs_ok {fn : Str → Bool} (hN : N.Nodup) : ∀ (ts : List Tg) (es : List Expr), mTs N fn sc ts es = true → ∃ g, (∀ X, Ctx P w K mg base lvl N sc X → (∀ x, fn x = true → X.fn x = true) → PGs X es g) ∧ GoodGs K g (slotss ts) (fun w ds r => asgs w ts ds r) ∧
    (∀ X : Cx, (assignEach es X.env).length = es.length ∧ (assignEach es X.env).findIdx? (·.1) = none) ∧ es.length = ts.length
  | [], es, h => by
    simp only [mTs] at h
    split at h
    · exact ⟨gNil, fun X c f => pgs_nil, goodGs_nil, fun X => ⟨rfl, rfl⟩, rfl⟩
    · cases h
  | t :: ts, es, h => by
    simp only [mTs] at h
    split at h
    · rename_i e r
      simp only [Bool.and_eq_true] at h
      obtain ⟨g, h1, h2⟩ := mT_ok hN t e h.1.2
      obtain ⟨gs', h3, h4, h5, h6⟩ := mTs_ok hN ts r h.2
      refine ⟨gCons g gs', fun X c f => pgs_cons (h1 X c f) (h3 X c f) (by rw [as_no h.1.1]; rfl), goodGs_cons h2 h4, fun X => ?_, by rw [List.length_cons, List.length_cons, h6]⟩
      rw [as_no h.1.1]
      refine ⟨by rw [List.length_cons, List.length_cons, (h5 X).1], ?_⟩
      rw [List.findIdx?_cons]
      simp [(h5 X).2]
    · cases h
end
end
end Cr
/-! # Sound: what the check accepts, the text does (expressions). -/
namespace Cr
open PySem PySem.Spec PyProof.Rows L2
section
variable {P : Program} {w : World} {K : PySem.W.Frag} {mg : Str → Option Value} {base : Heap} {T : List FE} {gs : List (Str × Int)} {lvl : Nat} {call : CallT} {N : List Str} {sc : Scope} {X : Cx}
variable (P w K mg base lvl call N) in
/-- the text e says what c says: as a value, as a test -/
structure Snd (sc : Scope) (c : CE) (e : Expr) : Prop where
  val : ∃ te, (∀ X, Ctx P w K mg base lvl N sc X → PE X e te) ∧ Good K te (ev call c)
  tst : ∃ tt, (∀ X, Ctx P w K mg base lvl N sc X → PT X e tt ∧ (isBo e = true → PW X e tt)) ∧ GoodT K tt (tst (ev call c))
variable (P w K mg base lvl call N) in
inductive AllS (sc : Scope) : CEs → List Expr → Prop
  | nil : AllS sc .nil []
  | cons {c : CE} {cs : CEs} {e : Expr} {es : List Expr} : notSt e = true → Snd P w K mg base lvl call N sc c e → AllS sc cs es → AllS sc (.cons c cs) (e :: es)
theorem Snd.of {c : CE} {e : Expr} {te : TE} (hp : plainT e = true) (h : ∀ X, Ctx P w K mg base lvl N sc X → PE X e te) (g : Good K te (ev call c)) : Snd P w K mg base lvl call N sc c e :=
  ⟨⟨te, h, g⟩, ⟨tB te, fun X x => ⟨pt_val (h X x) fun whole => test_plain hp _ _, fun hb => by cases e <;> first | (cases hp; done) | (cases hb; done)⟩, goodT_tst g⟩⟩
theorem AllS.pa {cs : CEs} {es : List Expr} (h : AllS P w K mg base lvl call N sc cs es) : ∃ t, (∀ X, Ctx P w K mg base lvl N sc X → PA X es t) ∧ GoodL K t (evs call cs) := by
  induction h with
  | nil => exact ⟨tNil, fun X c => pa_nil, fun r σ H Z O Q s os r' hh k => goodL_nil r σ H Z O Q s os r' (by rw [evs] at hh; exact hh) k⟩
  | cons hn hs _ ih =>
    obtain ⟨t, h1, h2⟩ := ih
    obtain ⟨te, h3, h4⟩ := hs.val
    exact ⟨tCons te t, fun X c => pa_cons (h3 X c) (h1 X c) (star_no hn), fun r σ H Z O Q s os r' hh k => goodL_cons h4 h2 r σ H Z O Q s os r' (by rw [evs] at hh; exact hh) k⟩
theorem AllS.plain {cs : CEs} {es : List Expr} (h : AllS P w K mg base lvl call N sc cs es) : es.all notSt = true := by
  induction h with
  | nil => rfl
  | cons hn _ _ ih => rw [List.all_cons, hn, ih]; rfl

/-! #### names, constants -/
theorem snd_var {i : Nat} {e : Expr} (h : mE T gs N (.var i) sc e = true) : Snd P w K mg base lvl call N sc (.var i) e := by
  simp only [mE] at h
  split at h
  · simp only [Bool.and_eq_true, decide_eq_true_eq] at h
    obtain ⟨⟨h1, h2⟩, h3⟩ := h
    exact .of rfl (fun X c => pe_var (by rw [c.N]; exact h1) (c.vis h2) (okName_debug h3) (okName_class h3)) (good_var.eq fun r x r' hh => by rw [ev] at hh; exact hh)
  · cases h
theorem snd_con {d : D} {e : Expr} (h : mE T gs N (.con d) sc e = true) : Snd P w K mg base lvl call N sc (.con d) e := by
  simp only [mE] at h
  split at h
  · unfold conB at h
    split at h
    · exact .of rfl (fun X c => pe_non) ((good_con (v := .non) (d := .none) (fun H => .non) rfl).eq fun r x r' hh => by rw [ev] at hh; exact hh)
    · rename_i b b'
      cases (show b = b' from by simpa using h)
      exact .of rfl (fun X c => pe_bl) ((good_con (v := .bl b) (d := .bool b) (fun H => .bl b) rfl).eq fun r x r' hh => by rw [ev] at hh; exact hh)
    · rename_i i j
      cases (show i = j from by simpa using h)
      exact .of rfl (fun X c => pe_int) ((good_con (v := .int i) (d := .int i) (fun H => .int i) rfl).eq fun r x r' hh => by rw [ev] at hh; exact hh)
    · rename_i x y
      cases (show x = y from by simpa using h)
      exact .of rfl (fun X c => pe_str) ((good_con (v := .str x) (d := .str x) (fun H => .str x) rfl).eq fun r x r' hh => by rw [ev] at hh; exact hh)
    · cases h
  · cases h
theorem snd_glb (tb : Tb P w K mg base T gs lvl call) {x : Str} {d : D} {e : Expr} (h : mE T gs N (.glb x d) sc e = true) : Snd P w K mg base lvl call N sc (.glb x d) e := by
  simp only [mE] at h
  split at h
  · rename_i y p i
    simp only [Bool.and_eq_true, decide_eq_true_eq] at h
    obtain ⟨⟨⟨rfl, h2⟩, h3⟩, h4⟩ := h
    obtain ⟨t, ht⟩ := tb.glb _ _ h4
    exact .of rfl (fun X c => pe_glob (v := .int i) (c.gl h2) (by rw [c.mg]; exact ht) ⟨t, rfl⟩ (okName_debug h3)) ((good_con (v := .int i) (d := .int i) (fun H => .int i) rfl).eq fun r x r' hh => by rw [ev] at hh; exact hh)
  · cases h

/-! #### operators -/
theorem op_all {o : Operator} (h : opB o = true) (c : Ctx P w K mg base lvl N sc X) : OpR X (binaryOp o) (rD2 X.K (opD o)) := by
  match o, h with
  | .Add, _ => exact op_addD
  | .Sub, _ => exact op_subD
  | .Mult, _ => exact op_mulD
  | .Mod, _ => exact op_modD
  | .Pow, _ => exact op_powD
  | .LShift, _ => exact op_shlD
  | .RShift, _ => exact op_shrD
  | .BitOr, _ => exact op_orD
  | .BitXor, _ => exact op_xorD
  | .BitAnd, _ => exact op_andD
  | .FloorDiv, _ => exact op_fdivD
theorem cmp_all {o : CmpOp} (c : Ctx P w K mg base lvl N sc X) : OpR X (compareOp o) (rC X.K (cmpD o)) := by
  have := c.units1
  match o with
  | .Eq => exact op_eqC this
  | .NotEq => exact op_neC this
  | .Lt => exact op_ltC this
  | .LtE => exact op_leC this
  | .Gt => exact op_gtC this
  | .GtE => exact op_geC this
  | .Is => exact op_isC
  | .IsNot => exact op_isnotC
  | .In => exact op_inC this
  | .NotIn => exact op_notInC this
theorem snd_op2 {o : Operator} {a b : CE} {l r : Expr} {p : Pos} (ho : opB o = true) (ha : Snd P w K mg base lvl call N sc a l) (hb : Snd P w K mg base lvl call N sc b r) : Snd P w K mg base lvl call N sc (.op2 o a b) (.BinOp l o r p) := by
  obtain ⟨ta, h1, h2⟩ := ha.val
  obtain ⟨tb, h3, h4⟩ := hb.val
  refine .of (te := tOp (rD2 K (opD o)) ta tb) rfl (fun X c => ?_) ((good_op2D h2 h4).eq fun r x r' hh => by rw [ev] at hh; exact hh)
  rw [← c.K]
  exact pe_op (op_all ho c) (h1 X c) (h3 X c)
theorem snd_neg {a : CE} {l : Expr} {p : Pos} (ha : Snd P w K mg base lvl call N sc a l) : Snd P w K mg base lvl call N sc (.neg a) (.UnaryOp .USub l p) := by
  obtain ⟨ta, h1, h2⟩ := ha.val
  exact .of rfl (fun X c => pe_un un_neg (h1 X c)) ((good_neg h2).eq fun r x r' hh => by rw [ev] at hh; exact hh)
theorem snd_cmp {o : CmpOp} {a b : CE} {l r : Expr} {p : Pos} (hn : noSet r = true) (ha : Snd P w K mg base lvl call N sc a l) (hb : Snd P w K mg base lvl call N sc b r) : Snd P w K mg base lvl call N sc (.cmp o a b) (.Compare l [o] [r] p) := by
  obtain ⟨ta, h1, h2⟩ := ha.val
  obtain ⟨tb, h3, h4⟩ := hb.val
  have g : Good K (tOp (rC K (cmpD o)) ta tb) (ev call (.cmp o a b)) := (good_cmp h2 h4 bc_rC).eq fun r x r' hh => by rw [ev] at hh; exact hh
  refine ⟨⟨_, fun X c => ?_, g⟩, ⟨_, fun X c => ⟨?_, fun h => by cases h⟩, goodT_tst g⟩⟩
  · rw [← c.K]
    exact pe_cmpR (cmp_all c) (h1 X c) (h3 X c) (mark_no hn)
  · rw [← c.K]
    exact pt_cmpR (cmp_all c) (h1 X c) (h3 X c) (mark_no hn)
theorem snd_cmp3 {o o' : CmpOp} {a b d : CE} {l r q : Expr} {p : Pos} (hn : noSet q = true) (ha : Snd P w K mg base lvl call N sc a l) (hb : Snd P w K mg base lvl call N sc b r) (hd : Snd P w K mg base lvl call N sc d q) : Snd P w K mg base lvl call N sc (.cmp3 o o' a b d) (.Compare l [o, o'] [r, q] p) := by
  obtain ⟨ta, h1, h2⟩ := ha.val
  obtain ⟨tb, h3, h4⟩ := hb.val
  obtain ⟨td, h5, h6⟩ := hd.val
  have g : Good K (tChain (rC K (cmpD o)) (rC K (cmpD o')) ta tb td) (ev call (.cmp3 o o' a b d)) := (good_cmp3 h2 h4 h6 bc_rC bc_rC).eq fun r x r' hh => by rw [ev] at hh; exact hh
  refine ⟨⟨_, fun X c => ?_, g⟩, ⟨_, fun X c => ⟨?_, fun h => by cases h⟩, goodT_tst g⟩⟩
  · rw [← c.K]
    exact pe_chain (cmp_all c) (cmp_all c) (h1 X c) (h3 X c) (h5 X c) (mark_no hn)
  · rw [← c.K]
    exact pt_chain (cmp_all c) (cmp_all c) (h1 X c) (h3 X c) (h5 X c) (mark_no hn)
theorem tst_some {f : Rho → Option (Opd × Rho)} {r r' : Rho} {x : Opd} {b : Bool} (h : f r = some (x, r')) (hd : dat r' x = some (.bool b)) : tst f r = some (b, r') := by
  simp only [tst, h, Option.bind_some, hd]
theorem snd_nt {a : CE} {l : Expr} {p : Pos} (ha : Snd P w K mg base lvl call N sc a l) : Snd P w K mg base lvl call N sc (.nt a) (.UnaryOp .Not l p) := by
  obtain ⟨ta, h1, h2⟩ := ha.val
  obtain ⟨tt, h3, h4⟩ := ha.tst
  refine ⟨⟨_, fun X c => pe_not (h1 X c), (good_not h2).eq fun r x r' hh => by rw [ev] at hh; exact hh⟩, ⟨_, fun X c => ⟨pt_not (h3 X c).1, fun h => by cases h⟩, (goodT_not h4).eq fun r b r' hh => ?_⟩⟩
  obtain ⟨x, e1, e2⟩ := tst_inv hh
  rw [ev] at e1
  simp only [Option.bind_eq_some_iff] at e1
  obtain ⟨⟨y, r1⟩, e3, e4⟩ := e1
  dsimp only at e4
  split at e4
  · rename_i c hc
    cases e4
    simp only [dat, Option.some.injEq, PyData.bool.injEq] at e2
    rw [tst_some e3 hc, ← e2]
    rfl
  · cases e4
theorem tst_an {a b : CE} {r r' : Rho} {c : Bool} (hh : tst (ev call (.an a b)) r = some (c, r')) : (tst (ev call a) r).bind (fun (c, r1) => if c then tst (ev call b) r1 else some (false, r1)) = some (c, r') := by
  obtain ⟨x, e1, e2⟩ := tst_inv hh
  rw [ev] at e1
  simp only [Option.bind_eq_some_iff] at e1
  obtain ⟨⟨y, r1⟩, e3, e4⟩ := e1
  dsimp only at e4
  split at e4
  · rename_i d hd
    rw [tst_some e3 hd, Option.bind_some]
    cases d with
    | true =>
      simp only [if_true] at e4 ⊢
      exact tst_some e4 e2
    | false =>
      simp only [Bool.false_eq_true, if_false] at e4 ⊢
      cases e4
      simp only [dat, Option.some.injEq, PyData.bool.injEq] at e2
      rw [← e2]
  · cases e4
theorem tst_orr {a b : CE} {r r' : Rho} {c : Bool} (hh : tst (ev call (.orr a b)) r = some (c, r')) : (tst (ev call a) r).bind (fun (c, r1) => if c then some (true, r1) else tst (ev call b) r1) = some (c, r') := by
  obtain ⟨x, e1, e2⟩ := tst_inv hh
  rw [ev] at e1
  simp only [Option.bind_eq_some_iff] at e1
  obtain ⟨⟨y, r1⟩, e3, e4⟩ := e1
  dsimp only at e4
  split at e4
  · rename_i d hd
    rw [tst_some e3 hd, Option.bind_some]
    cases d with
    | true =>
      simp only [if_true] at e4 ⊢
      cases e4
      simp only [dat, Option.some.injEq, PyData.bool.injEq] at e2
      rw [← e2]
    | false =>
      simp only [Bool.false_eq_true, if_false] at e4 ⊢
      exact tst_some e4 e2
  · cases e4
/-- the last of an and, an or, as one by itself -/
theorem Snd.one {b : CE} {y : Expr} {op : PySem.BoolOp} {p : Pos} (h : Snd P w K mg base lvl call N sc b y) : Snd P w K mg base lvl call N sc b (.BoolOp op [y] p) := by
  obtain ⟨ta, h1, h2⟩ := h.val
  obtain ⟨tt, h3, h4⟩ := h.tst
  refine ⟨⟨_, fun X c => pe_one (h1 X c), h2⟩, ⟨tt, fun X c => ?_, h4⟩⟩
  cases op with
  | And => exact ⟨(pw_and1 (h3 X c).1).pt, fun _ => pw_and1 (h3 X c).1⟩
  | Or => exact ⟨(pw_or1 (h3 X c).1).pt, fun _ => pw_or1 (h3 X c).1⟩
theorem snd_an {a b : CE} {x y : Expr} {rest : List Expr} {p : Pos} (ha : Snd P w K mg base lvl call N sc a x) (hb : Snd P w K mg base lvl call N sc b (.BoolOp .And (y :: rest) p)) : Snd P w K mg base lvl call N sc (.an a b) (.BoolOp .And (x :: y :: rest) p) := by
  obtain ⟨ta, h1, h2⟩ := ha.val
  obtain ⟨tt, h3, h4⟩ := ha.tst
  obtain ⟨tb, h5, h6⟩ := hb.val
  obtain ⟨tu, h7, h8⟩ := hb.tst
  refine ⟨⟨_, fun X c => pe_and (h1 X c) (h5 X c), (good_and h2 h6).eq fun r x r' hh => by rw [ev] at hh; exact hh⟩, ⟨_, fun X c => ⟨(pw_and (h3 X c).1 ((h7 X c).2 rfl)).pt, fun _ => pw_and (h3 X c).1 ((h7 X c).2 rfl)⟩, (goodT_and h4 h8).eq fun r b r' hh => tst_an hh⟩⟩
theorem snd_orr {a b : CE} {x y : Expr} {rest : List Expr} {p : Pos} (ha : Snd P w K mg base lvl call N sc a x) (hb : Snd P w K mg base lvl call N sc b (.BoolOp .Or (y :: rest) p)) : Snd P w K mg base lvl call N sc (.orr a b) (.BoolOp .Or (x :: y :: rest) p) := by
  obtain ⟨ta, h1, h2⟩ := ha.val
  obtain ⟨tt, h3, h4⟩ := ha.tst
  obtain ⟨tb, h5, h6⟩ := hb.val
  obtain ⟨tu, h7, h8⟩ := hb.tst
  refine ⟨⟨_, fun X c => pe_or (h1 X c) (h5 X c), (good_or h2 h6).eq fun r x r' hh => by rw [ev] at hh; exact hh⟩, ⟨_, fun X c => ⟨(pw_or (h3 X c).1 ((h7 X c).2 rfl)).pt, fun _ => pw_or (h3 X c).1 ((h7 X c).2 rfl)⟩, (goodT_or h4 h8).eq fun r b r' hh => tst_orr hh⟩⟩
end
end Cr
/-! # Sound2: the other expressions. -/
namespace Cr
open PySem PySem.Spec PyProof.Rows L2
section
variable {P : Program} {w : World} {K : PySem.W.Frag} {mg : Str → Option Value} {base : Heap} {T : List FE} {gs : List (Str × Int)} {lvl : Nat} {call : CallT} {N : List Str} {sc : Scope} {X : Cx}
/-- a if t else b, as a test -/
theorem pt_ife {c a b : Expr} {pos : Pos} {tc ta tb : TT} (hc : PT X c tc) (ha : PT X a ta) (hb : PT X b tb) : PT X (.IfExp c a b pos) (fun σ H Q => tc σ H fun d H1 => if d = true then ta σ H1 Q else tb σ H1 Q) := by
  refine ⟨fun pins s σ H Q I h => ?_⟩
  refine isTrue_IfExp (thn (hc.run pins s σ H _ I h) fun d s1 ⟨H1, I1, q1⟩ => ?_)
  cases d with
  | true => exact ha.run pins s1 σ H1 Q I1 q1
  | false => exact hb.run pins s1 σ H1 Q I1 q1
theorem goodT_ife {tc ta tb : TT} {f g h : Rho → Option (Bool × Rho)} (hc : GoodT K tc f) (ha : GoodT K ta g) (hb : GoodT K tb h) :
    GoodT K (fun σ H Q => tc σ H fun d H1 => if d = true then ta σ H1 Q else tb σ H1 Q) (fun r => (f r).bind fun (c, r1) => if c then g r1 else h r1) := by
  intro r σ H Z O Q s b r' hh k
  simp only [Option.bind_eq_some_iff] at hh
  obtain ⟨⟨c, r1⟩, h1, h2⟩ := hh
  refine hc r σ H Z O _ s c r1 h1 fun H1 Z1 O1 p => ?_
  have fin : ∀ H2 Z2 O2, Post K Z1 O1 H1 r1 σ Z2 O2 H2 r' [] [] [] → Q b H2 := fun H2 Z2 O2 p2 => k H2 Z2 O2 (by simpa using p.cons p2)
  cases c with
  | true =>
    simp only [if_true] at h2 ⊢
    exact ha r1 σ H1 Z1 O1 Q p.sta b r' h2 fin
  | false =>
    simp only [Bool.false_eq_true, if_false] at h2 ⊢
    exact hb r1 σ H1 Z1 O1 Q p.sta b r' h2 fin
theorem ev_ife {a b c : CE} {r r' : Rho} {x : Opd} (h : ev call (.ife c a b) r = some (x, r')) : (tst (ev call c) r).bind (fun (k, r1) => if k then ev call a r1 else ev call b r1) = some (x, r') := by
  rw [ev] at h
  simp only [Option.bind_eq_some_iff] at h
  obtain ⟨⟨y, r1⟩, e3, e4⟩ := h
  dsimp only at e4
  split at e4
  · rename_i d hd
    rw [tst_some e3 hd, Option.bind_some]
    exact e4
  · cases e4
theorem snd_ife {a b d : CE} {t x y : Expr} {p : Pos} (hd : Snd P w K mg base lvl call N sc d t) (ha : Snd P w K mg base lvl call N sc a x) (hb : Snd P w K mg base lvl call N sc b y) : Snd P w K mg base lvl call N sc (.ife d a b) (.IfExp t x y p) := by
  obtain ⟨tt, h1, h2⟩ := hd.tst
  obtain ⟨ta, h3, h4⟩ := ha.val
  obtain ⟨tb, h5, h6⟩ := hb.val
  obtain ⟨sa, h7, h8⟩ := ha.tst
  obtain ⟨sb, h9, h10⟩ := hb.tst
  refine ⟨⟨_, fun X c => pe_ifExp (h1 X c).1 (h3 X c) (h5 X c), (good_ife h2 h4 h6).eq fun r x r' hh => ev_ife hh⟩, ⟨_, fun X c => ⟨pt_ife (h1 X c).1 (h7 X c).1 (h9 X c).1, fun h => by cases h⟩, (goodT_ife h2 h8 h10).eq fun r c r' hh => ?_⟩⟩
  obtain ⟨x, e1, e2⟩ := tst_inv hh
  have e3 := ev_ife e1
  simp only [Option.bind_eq_some_iff] at e3 ⊢
  obtain ⟨⟨k, r1⟩, e4, e5⟩ := e3
  refine ⟨(k, r1), e4, ?_⟩
  cases k with
  | true => exact tst_some e5 e2
  | false => exact tst_some e5 e2

/-! #### displays, subscripts -/
theorem snd_tup {es : CEs} {xs : List Expr} {k : Nat} {p : Pos} (h : AllS P w K mg base lvl call N sc es xs) : Snd P w K mg base lvl call N sc (.tup es) (.Tuple xs k p) := by
  obtain ⟨t, h1, h2⟩ := h.pa
  exact .of rfl (fun X c => pe_tup (h1 X c)) ((good_tup h2).eq fun r x r' hh => by rw [ev] at hh; exact hh)
theorem snd_lst {es : CEs} {xs : List Expr} {p : Pos} (h : AllS P w K mg base lvl call N sc es xs) : Snd P w K mg base lvl call N sc (.lst es) (.List xs p) := by
  obtain ⟨t, h1, h2⟩ := h.pa
  exact .of rfl (fun X c => pe_lst (h1 X c)) ((good_lst h2).eq fun r x r' hh => by rw [ev] at hh; exact hh)
theorem snd_dic0 {p : Pos} : Snd P w K mg base lvl call N sc (.dic .nil .nil) (.Dict [] [] p) :=
  .of rfl (fun X c => pe_dnewK) (good_dic0.eq fun r x r' hh => by
    rw [ev] at hh
    simp only [evs, Option.bind_some, dats] at hh
    simpa [imms, dputs] using hh)
theorem snd_dic1 {k v : CE} {x y : Expr} {p : Pos} (hk : Snd P w K mg base lvl call N sc k x) (hv : Snd P w K mg base lvl call N sc v y) : Snd P w K mg base lvl call N sc (.dic (.cons k .nil) (.cons v .nil)) (.Dict [some x] [y] p) := by
  obtain ⟨tk, h1, h2⟩ := hk.val
  obtain ⟨tv, h3, h4⟩ := hv.val
  refine .of rfl (fun X c => pe_disp (pps_cons (h1 X c) (h3 X c) pps_nil) rfl rfl (by simp) (by simp)) ((good_dic1 h2 h4).eq fun r z r' hh => ?_)
  rw [ev] at hh
  simp only [evs, Option.bind_eq_some_iff, Option.map_eq_some_iff] at hh ⊢
  obtain ⟨⟨os, r1⟩, ⟨⟨x1, q1⟩, e1, ⟨o1, r1'⟩, e2, e3⟩, ⟨os', r2⟩, ⟨⟨y1, q2⟩, e4, ⟨o2, r2'⟩, e5, e6⟩, dk, e7, dv, e8, e9⟩ := hh
  cases e2; cases e3; cases e5; cases e6
  refine ⟨_, e1, _, e4, ?_⟩
  simp only [dats, Option.bind_eq_some_iff, Option.map_eq_some_iff] at e7 e8
  obtain ⟨d, e7, _, e7', rfl⟩ := e7
  obtain ⟨d', e8, _, e8', rfl⟩ := e8
  cases e7'; cases e8'
  refine ⟨d, e7, d', e8, ?_⟩
  split at e9
  · rename_i hc
    simp only [Bool.and_eq_true, List.all_cons, List.all_nil, imms, Bool.and_true, Bool.true_and, decide_eq_true_eq] at hc
    rw [if_pos (by rw [hc.1.2, hc.2]; rfl)]
    simpa [dputs, dput] using e9
  · cases e9
theorem snd_idx {a b : CE} {l r : Expr} {p : Pos} (hn : noSlice r = true) (ha : Snd P w K mg base lvl call N sc a l) (hb : Snd P w K mg base lvl call N sc b r) : Snd P w K mg base lvl call N sc (.idx a b) (.Subscript l r p) := by
  obtain ⟨ta, h1, h2⟩ := ha.val
  obtain ⟨tb, h3, h4⟩ := hb.val
  refine .of (te := tOp (rD2n K idxD) ta tb) rfl (fun X c => ?_) ((good_op2N h2 h4).eq fun r x r' hh => by rw [ev] at hh; exact hh)
  rw [← c.K]
  exact pe_ix (ix_D c.units1) (h1 X c) (h3 X c) (ix_plain hn)
variable (P w K mg base lvl call N) in
structure SndO (sc : Scope) (c : CEo) (e : Option Expr) : Prop where
  val : ∃ t, (∀ X, Ctx P w K mg base lvl N sc X → PO X e t) ∧ GoodO K t (evo call c)
theorem snd_no : SndO P w K mg base lvl call N sc .no none := ⟨tNoPart, fun X c => po_none, fun r σ H Z O Q s o r' hh k => goodO_none r σ H Z O Q s o r' (by rw [evo] at hh; exact hh) k⟩
theorem snd_yes {a : CE} {e : Expr} (h : Snd P w K mg base lvl call N sc a e) : SndO P w K mg base lvl call N sc (.yes a) (some e) := by
  obtain ⟨ta, h1, h2⟩ := h.val
  exact ⟨_, fun X c => po_some (h1 X c), fun r σ H Z O Q s o r' hh k => goodO_some h2 r σ H Z O Q s o r' (by rw [evo] at hh; exact hh) k⟩
theorem snd_slc {a : CE} {lo hi : CEo} {l : Expr} {x y : Option Expr} {p p2 : Pos} (ha : Snd P w K mg base lvl call N sc a l) (hl : SndO P w K mg base lvl call N sc lo x) (hh : SndO P w K mg base lvl call N sc hi y) : Snd P w K mg base lvl call N sc (.slc a lo hi) (.Subscript l (.Slice x y none p2) p) := by
  obtain ⟨ta, h1, h2⟩ := ha.val
  obtain ⟨tl, h3, h4⟩ := hl.val
  obtain ⟨th, h5, h6⟩ := hh.val
  refine .of (te := tSl (rSD K) ta tl th) rfl (fun X c => ?_) ((good_slc h2 h4 h6).eq fun r x r' hh => by rw [ev] at hh; exact hh)
  rw [← c.K]
  exact pe_slice sl_D (h1 X c) (h3 X c) (h5 X c)

/-! #### calls -/
theorem snd_call (tb : Tb P w K mg base T gs lvl call) {f : Nat} {fe : FE} {es : CEs} {x : Str} {xs : List Expr} {p pos : Pos} (hf : T[f]? = some fe) (hx : x = fe.name) (hg : glB sc x = true) (ho : okName x = true) (hp : fe.pin = false)
    (h : AllS P w K mg base lvl call N sc es xs) : Snd P w K mg base lvl call N sc (.call f es) (.Call (.Name x p) xs [] pos) := by
  subst hx
  obtain ⟨a, fd, m1, m2, m3, m4, F⟩ := tb.fn f fe hf
  rw [hp] at F
  have F' : ∀ X, Ctx P w K mg base lvl N sc X → FnG X.prog X.w X.K X.mg X.base lvl a fd (fe.N.take fe.par) (spF K fe.par false (call f)) := fun X c => by
    rw [c.prog, c.w, c.K, c.mg, c.base]; exact F
  have g : ∀ {t : TA}, GoodL K t (evs call es) → Good K (tCallG (spF K fe.par false (call f)) t) (ev call (.call f es)) := fun h2 => (good_call (tb.len f fe hf) h2).eq fun r x r' hh => by rw [ev] at hh; exact hh
  cases h with
  | nil => exact .of rfl (fun X c => pe_callG0 (F' X c) c.room c.guards (c.gl hg) (by rw [c.mg]; exact m1) (by rw [c.K]; exact m2) (by rw [c.K]; exact m3) (okName_debug ho)) (g fun r σ H Z O Q s os r' hh k => goodL_nil r σ H Z O Q s os r' (by rw [evs] at hh; exact hh) k)
  | cons hn hs ht =>
    obtain ⟨t, h1, h2⟩ := (AllS.cons hn hs ht).pa
    exact .of rfl (fun X c => pe_callG (F' X c) c.room c.guards (c.gl hg) (by rw [c.mg]; exact m1) (by rw [c.K]; exact m2) (by rw [c.K]; exact m3) (h1 X c) (okName_debug ho) (star_no hn) (back_no ht.plain)) (g h2)
theorem snd_callp (tb : Tb P w K mg base T gs lvl call) {f i : Nat} {fe : FE} {es : CEs} {x y : Str} {xs : List Expr} {p p' pos : Pos} (hf : T[f]? = some fe) (hx : x = fe.name) (hg : glB sc x = true) (ho : okName x = true) (hp : fe.pin = true)
    (hi : N[i]? = some y) (hv : visB sc y = true) (hy : okName y = true) (h : AllS P w K mg base lvl call N sc es xs) : Snd P w K mg base lvl call N sc (.callp f i es) (.Call (.Name x p) (.Name y p' :: xs) [] pos) := by
  subst hx
  obtain ⟨a, fd, m1, m2, m3, m4, F⟩ := tb.fn f fe hf
  rw [hp] at F
  obtain ⟨t, h1, h2⟩ := h.pa
  refine .of (te := tCallG (spF K fe.par true (call f)) (tCons (tVar i) t)) rfl (fun X c => ?_) ((good_callp (tb.len f fe hf) h2).eq fun r x r' hh => by rw [ev] at hh; exact hh)
  have F' : FnG X.prog X.w X.K X.mg X.base lvl a fd (fe.N.take fe.par) (spF K fe.par true (call f)) := by
    rw [c.prog, c.w, c.K, c.mg, c.base]; exact F
  exact pe_callG F' c.room c.guards (c.gl hg) (by rw [c.mg]; exact m1) (by rw [c.K]; exact m2) (by rw [c.K]; exact m3) (pa_cons (pe_var (by rw [c.N]; exact hi) (c.vis hv) (okName_debug hy) (okName_class hy)) (h1 X c)) (okName_debug ho) rfl (back_no h.plain)
theorem kw_args {pos : Pos} {env : Env} : ∀ {kws : List Keyword}, (backToKw pos (keywordEach kws env)).map (·.1) = kws.map (·.arg)
  | [] => rfl
  | ⟨n, v, p⟩ :: r => by
    show n :: (backToKw pos (keywordEach r env)).map (·.1) = n :: r.map (·.arg)
    rw [kw_args]
theorem AllS.pk {cs : CEs} {es : List Expr} (h : AllS P w K mg base lvl call N sc cs es) : ∃ t, (∀ X, Ctx P w K mg base lvl N sc X → ∀ kws : List Keyword, kws.map (·.value) = es → PK X kws t) ∧ GoodL K t (evs call cs) := by
  induction h with
  | nil =>
    refine ⟨tNil, fun X c kws e => ?_, fun r σ H Z O Q s os r' hh k => goodL_nil r σ H Z O Q s os r' (by rw [evs] at hh; exact hh) k⟩
    cases kws with
    | nil => exact pk_nil
    | cons k r => cases e
  | cons hn hs _ ih =>
    obtain ⟨t, h1, h2⟩ := ih
    obtain ⟨te, h3, h4⟩ := hs.val
    refine ⟨tCons te t, fun X c kws e => ?_, fun r σ H Z O Q s os r' hh k => goodL_cons h4 h2 r σ H Z O Q s os r' (by rw [evs] at hh; exact hh) k⟩
    cases kws with
    | nil => cases e
    | cons k r =>
      obtain ⟨n, v, p⟩ := k
      simp only [List.map_cons, List.cons.injEq] at e
      obtain ⟨rfl, e⟩ := e
      exact pk_cons (h3 X c) (h1 X c r e)
theorem snd_callk (tb : Tb P w K mg base T gs lvl call) {f : Nat} {ix : List Nat} {fe : FE} {es : CEs} {x : Str} {kws : List Keyword} {p pos : Pos} (hf : T[f]? = some fe) (hx : x = fe.name) (hg : glB sc x = true) (ho : okName x = true) (hp : fe.pin = false)
    (hk : kws.map (·.arg) = (fe.N.take fe.par).reverse.map some) (h : AllS P w K mg base lvl call N sc es (kws.map (·.value))) : Snd P w K mg base lvl call N sc (.callk f ix es) (.Call (.Name x p) [] kws pos) := by
  subst hx
  obtain ⟨a, fd, m1, m2, m3, m4, F⟩ := tb.fn f fe hf
  rw [hp] at F
  obtain ⟨t, h1, h2⟩ := h.pk
  refine .of (te := tCallR (spF K fe.par false (call f)) t) rfl (fun X c => ?_) ((good_callk (tb.len f fe hf) h2).eq fun r x r' hh => by rw [ev] at hh; exact hh)
  have F' : FnG X.prog X.w X.K X.mg X.base lvl a fd (fe.N.take fe.par) (spF K fe.par false (call f)) := by
    rw [c.prog, c.w, c.K, c.mg, c.base]; exact F
  have e := (kw_args (pos := pos) (env := X.env) (kws := kws)).trans hk
  have e1 : ∀ {l : List (Option Str × Sem Value)} {ps : List Str}, l.map (·.1) = ps.map some → l.all (·.1.isSome) = true ∧ l.filterMap (·.1) = ps ∧ l.any (·.1.isNone) = false := fun {l} => by
    induction l with
    | nil => intro ps e; cases ps <;> first | exact ⟨rfl, rfl, rfl⟩ | cases e
    | cons a l ih =>
      intro ps e
      cases ps with
      | nil => cases e
      | cons q ps =>
        simp only [List.map_cons, List.cons.injEq] at e
        obtain ⟨i1, i2, i3⟩ := ih e.2
        refine ⟨by rw [List.all_cons, e.1, i1]; rfl, by rw [List.filterMap_cons, e.1, i2], by rw [List.any_cons, e.1, i3]; rfl⟩
  obtain ⟨i1, i2, i3⟩ := e1 e
  exact pe_callKR F' c.room c.guards (c.gl hg) (by rw [c.mg]; exact m1) (by rw [c.K]; exact m2) (by rw [c.K]; exact m4) (h1 X c kws rfl) i1 i2 (okName_debug ho) (by rw [i3]; rfl)
end
end Cr
/-! # Sound3: built-in functions, comprehensions; the check of an expression is right. -/
namespace Cr
open PySem PySem.Spec PyProof.Rows L2
section
variable {P : Program} {w : World} {K : PySem.W.Frag} {mg : Str → Option Value} {base : Heap} {T : List FE} {gs : List (Str × Int)} {lvl : Nat} {call : CallT} {N : List Str} {sc : Scope} {X : Cx}
theorem snd_biB (tb : Tb P w K mg base T gs lvl call) {b : BI} {es : CEs} {a : Expr} {as : List Expr} {x : Str} {id : String} {p pos : Pos} (hm : mg x = none) (hv : bootBuiltins x = some (.builtin id)) (hn : x ≠ "__name__") (hdb : (x == ("__debug__" : Str)) = false)
    (hg : glB sc x = true) (hc : ∀ X, Ctx P w K mg base lvl N sc X → CallR X (.builtin id) (rB X.K b)) (h : AllS P w K mg base lvl call N sc es (a :: as)) : Snd P w K mg base lvl call N sc (.bi b es) (.Call (.Name x p) (a :: as) [] pos) := by
  obtain ⟨t, h1, h2⟩ := h.pa
  have pl := h.plain
  rw [List.all_cons, Bool.and_eq_true] at pl
  refine .of (te := tCB (rB K b) t) rfl (fun X c => ?_) ((good_opL h2 br_rB).eq fun r x r' hh => by rw [ev] at hh; exact hh)
  rw [← c.K]
  exact pe_callB (hc X c) (c.gl hg) (by rw [c.mg]; exact hm) hv (h1 X c) hn hdb (star_no pl.1) (back_no pl.2)
theorem snd_biT (tb : Tb P w K mg base T gs lvl call) {b : BI} {es : CEs} {a : Expr} {as : List Expr} {x : Str} {id : String} {p pos : Pos} (hm : mg x = none) (hv : bootBuiltins x = some (.type id)) (hn : x ≠ "__name__") (hdb : (x == ("__debug__" : Str)) = false)
    (hg : glB sc x = true) (hc : ∀ X, Ctx P w K mg base lvl N sc X → CallR X (.type id) (rB X.K b)) (h : AllS P w K mg base lvl call N sc es (a :: as)) : Snd P w K mg base lvl call N sc (.bi b es) (.Call (.Name x p) (a :: as) [] pos) := by
  obtain ⟨t, h1, h2⟩ := h.pa
  have pl := h.plain
  rw [List.all_cons, Bool.and_eq_true] at pl
  refine .of (te := tCB (rB K b) t) rfl (fun X c => ?_) ((good_opL h2 br_rB).eq fun r x r' hh => by rw [ev] at hh; exact hh)
  rw [← c.K]
  exact pe_callTy (hc X c) (c.gl hg) (by rw [c.mg]; exact hm) hv (h1 X c) hn hdb (star_no pl.1) (back_no pl.2)
theorem snd_bi (tb : Tb P w K mg base T gs lvl call) {b : BI} {es : CEs} {a : Expr} {as : List Expr} {p pos : Pos} (hb : biOne b = true) (hg : glB sc (biN b) = true) (h : AllS P w K mg base lvl call N sc es (a :: as)) :
    Snd P w K mg base lvl call N sc (.bi b es) (.Call (.Name (biN b) p) (a :: as) [] pos) := by
  match b, hb, hg with
  | .len, _, hg => exact snd_biB tb (id := "len") (tb.blt _ (by decide)) PySem.boot_len (by decide) (by decide) hg (fun X c => cr_lenD) h
  | .abs, _, hg => exact snd_biB tb (id := "abs") (tb.blt _ (by decide)) boot_abs (by decide) (by decide) hg (fun X c => cr_absD) h
  | .int, _, hg => exact snd_biT tb (id := "int") (tb.blt _ (by decide)) boot_int (by decide) (by decide) hg (fun X c => cr_intD) h
  | .max2, _, hg => exact snd_biB tb (id := "max") (tb.blt _ (by decide)) boot_max (by decide) (by decide) hg (fun X c => cr_max2D c.calm c.units) h
  | .min2, _, hg => exact snd_biB tb (id := "min") (tb.blt _ (by decide)) boot_min (by decide) (by decide) hg (fun X c => cr_min2D c.calm c.units) h
  | .maxs, _, hg => exact snd_biB tb (id := "max") (tb.blt _ (by decide)) boot_max (by decide) (by decide) hg (fun X c => cr_maxsD c.calm c.units) h
  | .mins, _, hg => exact snd_biB tb (id := "min") (tb.blt _ (by decide)) boot_min (by decide) (by decide) hg (fun X c => cr_minsD c.calm c.units) h
  | .sum, _, hg => exact snd_biB tb (id := "sum") (tb.blt _ (by decide)) boot_sum (by decide) (by decide) hg (fun X c => cr_sumD c.calm) h
  | .sorted, _, hg => exact snd_biB tb (id := "sorted") (tb.blt _ (by decide)) boot_sorted (by decide) (by decide) hg (fun X c => cr_sortedD c.calm c.units) h
  | .tuple, _, hg => exact snd_biT tb (id := "tuple") (tb.blt _ (by decide)) boot_tuple (by decide) (by decide) hg (fun X c => cr_tupleD) h
  | .list, _, hg => exact snd_biT tb (id := "list") (tb.blt _ (by decide)) boot_list (by decide) (by decide) hg (fun X c => cr_listD) h
  | .all, _, hg => exact snd_biB tb (id := "all") (tb.blt _ (by decide)) boot_all (by decide) (by decide) hg (fun X c => cr_allD c.calm) h
  | .any, _, hg => exact snd_biB tb (id := "any") (tb.blt _ (by decide)) boot_any (by decide) (by decide) hg (fun X c => cr_anyD c.calm) h
  | .repr, _, hg => exact snd_biB tb (id := "repr") (tb.blt _ (by decide)) boot_repr (by decide) (by decide) hg (fun X c => cr_reprD c.units c.guards) h
/-- sorted(set(..)) -/
theorem snd_sset (tb : Tb P w K mg base T gs lvl call) {es : CEs} {a : Expr} {as : List Expr} {p p2 pos pos2 : Pos} (hg : glB sc "sorted" = true) (hg2 : glB sc "set" = true) (h : AllS P w K mg base lvl call N sc es (a :: as)) :
    Snd P w K mg base lvl call N sc (.bi .sset es) (.Call (.Name "sorted" p) [.Call (.Name "set" p2) (a :: as) [] pos2] [] pos) := by
  obtain ⟨t, h1, h2⟩ := h.pa
  have pl := h.plain
  rw [List.all_cons, Bool.and_eq_true] at pl
  refine .of (te := tCB (rSrt K P w) (tCons (tCB (rSet K P w) t) tNil)) rfl (fun X c => ?_) ((good_opL h2 br_ss).eq fun r x r' hh => by rw [ev] at hh; exact hh)
  have e1 : rSrt K P w = rSrt X.K X.prog X.w := by rw [c.K, c.prog, c.w]
  have e2 : rSet K P w = rSet X.K X.prog X.w := by rw [c.K, c.prog, c.w]
  rw [e1, e2]
  exact pe_callB (cr_srt c.calm c.units) (c.gl hg) (by rw [c.mg]; exact tb.blt _ (by decide)) boot_sorted (pa_cons (pe_callTy (cr_set c.calm c.units) (c.gl hg2) (by rw [c.mg]; exact tb.blt _ (by decide)) boot_set (h1 X c) (by decide) (by decide) (star_no pl.1) (back_no pl.2)) pa_nil)
theorem evs_one {a : CE} {r r' : Rho} {os : List Opd} (h : evs call (.cons a .nil) r = some (os, r')) : ∃ x, os = [x] ∧ ev call a r = some (x, r') := by
  simp only [evs, Option.bind_eq_some_iff, Option.map_eq_some_iff] at h
  obtain ⟨⟨x, r1⟩, e1, ⟨o, r2⟩, e2, e3⟩ := h
  cases e2; cases e3
  exact ⟨x, rfl, e1⟩
theorem snd_lrng (tb : Tb P w K mg base T gs lvl call) {a : CE} {x : Expr} {p p2 pos pos2 : Pos} (hg : glB sc "list" = true) (hg2 : glB sc "range" = true) (hn : notSt x = true) (h : Snd P w K mg base lvl call N sc a x) :
    Snd P w K mg base lvl call N sc (.bi .lrng (.cons a .nil)) (.Call (.Name "list" p) [.Call (.Name "range" p2) [x] [] pos2] [] pos) := by
  obtain ⟨ta, h1, h2⟩ := h.val
  refine .of (te := tLstRg (tRg1 ta)) rfl (fun X c => pe_listRg c.calm (c.gl hg) (by rw [c.mg]; exact tb.blt _ (by decide)) (prg_1 (c.gl hg2) (by rw [c.mg]; exact tb.blt _ (by decide)) (h1 X c) (star_no hn))) ((good_lrng h2).eq fun r x r' hh => ?_)
  rw [ev] at hh
  simp only [Option.bind_eq_some_iff] at hh ⊢
  obtain ⟨⟨os, r1⟩, e1, e2⟩ := hh
  obtain ⟨y, rfl, e3⟩ := evs_one e1
  exact ⟨_, e3, e2⟩
theorem snd_trng (tb : Tb P w K mg base T gs lvl call) {a : CE} {x : Expr} {p p2 pos pos2 : Pos} (hg : glB sc "tuple" = true) (hg2 : glB sc "range" = true) (hn : notSt x = true) (h : Snd P w K mg base lvl call N sc a x) :
    Snd P w K mg base lvl call N sc (.bi .trng (.cons a .nil)) (.Call (.Name "tuple" p) [.Call (.Name "range" p2) [x] [] pos2] [] pos) := by
  obtain ⟨ta, h1, h2⟩ := h.val
  refine .of (te := tTupRg (tRg1 ta)) rfl (fun X c => pe_tupRg c.calm (c.gl hg) (by rw [c.mg]; exact tb.blt _ (by decide)) (prg_1 (c.gl hg2) (by rw [c.mg]; exact tb.blt _ (by decide)) (h1 X c) (star_no hn))) ((good_trng h2).eq fun r x r' hh => ?_)
  rw [ev] at hh
  simp only [Option.bind_eq_some_iff] at hh ⊢
  obtain ⟨⟨os, r1⟩, e1, e2⟩ := hh
  obtain ⟨y, rfl, e3⟩ := evs_one e1
  exact ⟨_, e3, e2⟩
theorem snd_isi (tb : Tb P w K mg base T gs lvl call) {a : CE} {t : Ty} {l : Expr} {p p2 pos : Pos} (hg : glB sc "isinstance" = true) (hg2 : glB sc (tyS t) = true) (hn : notSt l = true) (h : Snd P w K mg base lvl call N sc a l) :
    Snd P w K mg base lvl call N sc (.isi a [t]) (.Call (.Name "isinstance" p) [l, .Name (tyS t) p2] [] pos) := by
  obtain ⟨ta, h1, h2⟩ := h.val
  have ht : ∀ X, Ctx P w K mg base lvl N sc X → PE X (.Name (tyS t) p2) (tC (.ty (tyn t))) := fun X c => by
    have g2 := c.gl hg2
    cases t with
    | int => exact pe_bltn g2 (by rw [c.mg]; exact tb.blt _ (by decide)) boot_int rfl
    | bool => exact pe_bltn g2 (by rw [c.mg]; exact tb.blt _ (by decide)) boot_bool rfl
    | str => exact pe_bltn g2 (by rw [c.mg]; exact tb.blt _ (by decide)) boot_str rfl
    | tuple => exact pe_bltn g2 (by rw [c.mg]; exact tb.blt _ (by decide)) boot_tuple rfl
    | list => exact pe_bltn g2 (by rw [c.mg]; exact tb.blt _ (by decide)) boot_list rfl
    | dict => exact pe_bltn g2 (by rw [c.mg]; exact tb.blt _ (by decide)) boot_dict rfl
  refine .of (te := tCB (rIsi K) (tCons ta (tCons (tC (.ty (tyn t))) tNil))) rfl (fun X c => ?_) ((good_isi h2).eq fun r x r' hh => by rw [ev] at hh; exact hh)
  rw [← c.K]
  exact pe_callB call_isi (c.gl hg) (by rw [c.mg]; exact tb.blt _ (by decide)) boot_isinstance (pa_cons (h1 X c) (pa_cons (ht X c) pa_nil) (star_no hn)) (by decide) (by decide) (star_no hn) rfl
theorem snd_get1 {a b : CE} {o k : Expr} {ap cp : Pos} (hl : (ap.endLine == cp.line) = true) (ho : noCall0 o = true) (hk : notSt k = true) (ha : Snd P w K mg base lvl call N sc a o) (hb : Snd P w K mg base lvl call N sc b k) :
    Snd P w K mg base lvl call N sc (.get1 a b) (.Call (.Attribute o "get" ap) [k] [] cp) := by
  obtain ⟨ta, h1, h2⟩ := ha.val
  obtain ⟨tb, h3, h4⟩ := hb.val
  refine .of rfl (fun X c => pe_dget1 (by have := c.units; omega) (h1 X c) (h3 X c) ⟨base_no ho, ?_, hl, ?_⟩) ((good_get1 h2 h4).eq fun r x r' hh => by rw [ev] at hh; exact hh)
  · rw [star_no hk]; rfl
  · rw [star_no hk]; rfl
theorem snd_get2 {a b d : CE} {o k v : Expr} {ap cp : Pos} (hl : (ap.endLine == cp.line) = true) (ho : noCall0 o = true) (hk : notSt k = true) (hv : notSt v = true) (ha : Snd P w K mg base lvl call N sc a o) (hb : Snd P w K mg base lvl call N sc b k) (hd : Snd P w K mg base lvl call N sc d v) :
    Snd P w K mg base lvl call N sc (.get2 a b d) (.Call (.Attribute o "get" ap) [k, v] [] cp) := by
  obtain ⟨ta, h1, h2⟩ := ha.val
  obtain ⟨tb, h3, h4⟩ := hb.val
  obtain ⟨td, h5, h6⟩ := hd.val
  refine .of rfl (fun X c => pe_dget2 (by have := c.units; omega) (h1 X c) (h3 X c) (h5 X c) ⟨base_no ho, ?_, hl, ?_⟩) ((good_get2 h2 h4 h6).eq fun r x r' hh => by rw [ev] at hh; exact hh)
  · rw [star_no hk, star_no hv]; rfl
  · rw [star_no hk, star_no hv]; rfl
end
end Cr
/-! # Sound4: comprehensions; the check of an expression is right. -/
namespace Cr
open PySem PySem.Spec PyProof.Rows L2
section
variable {P : Program} {w : World} {K : PySem.W.Frag} {mg : Str → Option Value} {base : Heap} {T : List FE} {gs : List (Str × Int)} {lvl : Nat} {call : CallT} {N : List Str} {sc : Scope} {X : Cx}
variable (P w K mg base lvl call N) in
/-- what is walked, with its target's text -/
structure SndI (sc : Scope) (c : CIt) (t e : Expr) : Prop where
  val : ∀ ln : Bool, ∃ wi, (∀ X, Ctx P w K mg base lvl N sc X → PI X t e wi) ∧ GoodI K wi (evIt call c ln)
variable (P w K mg base lvl call N) in
/-- a comprehension's tests -/
structure SndT (sc : Scope) (c : CEo) (es : List Expr) : Prop where
  val : ∃ tt, (∀ X, Ctx P w K mg base lvl N sc X → PTs X es tt) ∧ GoodT K tt (evc call c)
variable (P w K mg base lvl call N) in
/-- the parts of a comprehension -/
structure SndC (sc : Scope) (c : CE) (elt t i : Expr) (ifs : List Expr) (scope : Scope) : Prop where
  val : ∃ own wi g tt te, BlkOk N sc scope own ∧ noSet i = true ∧ (∀ X, Ctx P w K mg base lvl N sc X → PI X t i wi) ∧
    (∀ X, Ctx P w K mg base lvl N (relS scope sc) X → (∀ x, fnOf scope x = true → X.fn x = true) → PG X t g) ∧ (∀ X, Ctx P w K mg base lvl N (relS scope sc) X → PTs X ifs tt) ∧
    (∀ X, Ctx P w K mg base lvl N (relS scope sc) X → PE X elt te) ∧ Good K (tLc wi g tt te (own.map (·.2))) (ev call c)
theorem SndC.snd (hN : N.Nodup) {c : CE} {elt t i : Expr} {ifs : List Expr} {scope : Scope} {pos : Pos} (h : SndC P w K mg base lvl call N sc c elt t i ifs scope) : Snd P w K mg base lvl call N sc c (.ListComp elt [⟨t, i, ifs, 0⟩] scope pos) := by
  obtain ⟨own, wi, g, tt, te, ok, hs, hi, hg, ht, he, gd⟩ := h.val
  refine .of rfl (fun X c => pe_lc c.calm (by rw [c.N]; exact hN) (hi X c) (own := own) (by rw [c.N, c.sc]; exact ok) (fun s H C cl fp => ?_) (fun s H C cl fp => ht _ (c.blk s H scope C cl fp)) (fun s H C cl fp => he _ (c.blk s H scope C cl fp)) (fun x => fold_no hs)) gd
  exact hg _ (c.blk s H scope C cl fp) fun x hx => hx
theorem sndT_no : SndT P w K mg base lvl call N sc .no [] := ⟨tYes, fun X c => pts_nil, fun r σ H Z O Q s b r' hh k => by
  rw [evc] at hh
  cases hh
  exact k H Z O (Post.nil s)⟩
theorem sndT_yes {a : CE} {e : Expr} (h : Snd P w K mg base lvl call N sc a e) : SndT P w K mg base lvl call N sc (.yes a) [e] := by
  obtain ⟨tt, h1, h2⟩ := h.tst
  exact ⟨tt, fun X c => pts_one (h1 X c).1, h2.eq fun r b r' hh => by rw [evc] at hh; exact hh⟩
theorem GoodI.eq {wi : TI} {f g : Rho → Option (List D × Rho × (Rho → Rho))} (h : GoodI K wi f) (e : ∀ r x, g r = some x → f r = some x) : GoodI K wi g := fun r σ H Z O Rq s xs r1 back hh k => h r σ H Z O Rq s xs r1 back (e r _ hh) k
theorem sndI_of {a : CE} {t e : Expr} (h : Snd P w K mg base lvl call N sc a e) : SndI P w K mg base lvl call N sc (.ofE a) t e := by
  obtain ⟨ta, h1, h2⟩ := h.val
  refine ⟨fun ln => ⟨iSeq K ta, fun X c => ?_, (goodI_seq (ln := ln) h2).eq fun r x hh => by rw [evIt] at hh; exact hh⟩⟩
  rw [← c.K]
  exact pi_seq (h1 X c)
theorem sndI_rng1 (tb : Tb P w K mg base T gs lvl call) {a : CE} {t e : Expr} {p pos : Pos} (hg : glB sc "range" = true) (hn : notSt e = true) (h : Snd P w K mg base lvl call N sc a e) : SndI P w K mg base lvl call N sc (.rng1 a) t (.Call (.Name "range" p) [e] [] pos) := by
  obtain ⟨ta, h1, h2⟩ := h.val
  exact ⟨fun ln => ⟨_, fun X c => pi_range1 (c.gl hg) (by rw [c.mg]; exact tb.blt _ (by decide)) (pa_cons (h1 X c) pa_nil (star_no hn)) (star_no hn), (goodI_rng1 h2).eq fun r x hh => by rw [evIt] at hh; exact hh⟩⟩
theorem sndI_rng2 (tb : Tb P w K mg base T gs lvl call) {a b : CE} {t e f : Expr} {p pos : Pos} (hg : glB sc "range" = true) (hn : notSt e = true) (hn2 : notSt f = true) (h : Snd P w K mg base lvl call N sc a e) (h' : Snd P w K mg base lvl call N sc b f) : SndI P w K mg base lvl call N sc (.rng2 a b) t (.Call (.Name "range" p) [e, f] [] pos) := by
  obtain ⟨ta, h1, h2⟩ := h.val
  obtain ⟨tc, h3, h4⟩ := h'.val
  exact ⟨fun ln => ⟨_, fun X c => pi_range2 (c.gl hg) (by rw [c.mg]; exact tb.blt _ (by decide)) (pa_cons (h1 X c) (pa_cons (h3 X c) pa_nil (star_no hn2)) (star_no hn)) (by rw [star_no hn, star_no hn2]; rfl) (star_no hn2), (goodI_rng2 h2 h4).eq fun r x hh => by rw [evIt] at hh; exact hh⟩⟩
theorem sndI_enum (tb : Tb P w K mg base T gs lvl call) {a : CE} {t e : Expr} {p pos : Pos} (hg : glB sc "enumerate" = true) (ht : isTup t = true) (hn : notSt e = true) (h : Snd P w K mg base lvl call N sc a e) : SndI P w K mg base lvl call N sc (.enum a) t (.Call (.Name "enumerate" p) [e] [] pos) := by
  obtain ⟨ta, h1, h2⟩ := h.val
  refine ⟨fun ln => ⟨iEnumA K (tCons ta tNil), fun X c => ?_, (goodI_enum (ln := ln) h2).eq fun r x hh => by rw [evIt] at hh; exact hh⟩⟩
  rw [← c.K]
  cases t with
  | Tuple es k tp => exact pi_enumA (c.gl hg) (by rw [c.mg]; exact tb.blt _ (by decide)) (pa_cons (h1 X c) pa_nil (star_no hn)) (star_no hn)
  | _ => cases ht
theorem sndI_zip (tb : Tb P w K mg base T gs lvl call) {a b : CE} {t e f : Expr} {p pos : Pos} (hg : glB sc "zip" = true) (ht : isTup t = true) (hn : notSt e = true) (hn2 : notSt f = true) (h : Snd P w K mg base lvl call N sc a e) (h' : Snd P w K mg base lvl call N sc b f) : SndI P w K mg base lvl call N sc (.zip a b) t (.Call (.Name "zip" p) [e, f] [] pos) := by
  obtain ⟨ta, h1, h2⟩ := h.val
  obtain ⟨tc, h3, h4⟩ := h'.val
  refine ⟨fun ln => ⟨RZ.iZipA K (tCons ta (tCons tc tNil)), fun X c => ?_, (goodI_zip (ln := ln) h2 h4).eq fun r x hh => by rw [evIt] at hh; exact hh⟩⟩
  rw [← c.K]
  cases t with
  | Tuple es k tp => exact RZ.pi_zipA (c.gl hg) (by rw [c.mg]; exact tb.blt _ (by decide)) (pa_cons (h1 X c) (pa_cons (h3 X c) pa_nil (star_no hn2)) (star_no hn)) (star_no hn) (by rw [star_no hn2]; rfl)
  | _ => cases ht
theorem ownP_ix {own : List Nat} : (ownP N own).map (·.2) = own := by
  unfold ownP
  rw [List.map_map]
  exact List.map_id' own
theorem sndC_of (hN : N.Nodup) {elt : CE} {tg : Tg} {it : CIt} {ln : Bool} {cond : CEo} {own : List Nat} {x t i : Expr} {ifs : List Expr} {scope : Scope} (hb : blkC N sc scope (ownP N own) = true) (hs : noSet i = true) (hi : SndI P w K mg base lvl call N sc it t i)
    (ht : mT N (fnOf scope) (relS scope sc) tg t = true) (hl : ∀ j ∈ slots tg, j ∈ own) (hc : SndT P w K mg base lvl call N (relS scope sc) cond ifs) (he : Snd P w K mg base lvl call N (relS scope sc) elt x) :
    SndC P w K mg base lvl call N sc (.comp elt tg it ln cond own) x t i ifs scope := by
  obtain ⟨wi, h1, h2⟩ := hi.val ln
  obtain ⟨tt, h3, h4⟩ := hc.val
  obtain ⟨te, h5, h6⟩ := he.val
  obtain ⟨g, h7, h8⟩ := mT_ok (P := P) (w := w) (K := K) (mg := mg) (base := base) (lvl := lvl) hN tg t ht
  refine ⟨ownP N own, wi, g, tt, te, blkOk_by hb, hs, h1, h7, h3, h5, ?_⟩
  rw [ownP_ix]
  exact (good_comp h2 h8 hl h4 h6).eq fun r x r' hh => by rw [ev] at hh; exact hh
mutual
theorem mE_ok (tb : Tb P w K mg base T gs lvl call) (hN : N.Nodup) : ∀ (c : CE) (sc : Scope) (e : Expr), mE T gs N c sc e = true → Snd P w K mg base lvl call N sc c e
  | .var i, sc, e, h => snd_var h
  | .con d, sc, e, h => snd_con h
  | .glb x d, sc, e, h => snd_glb tb h
  | .op2 o a b, sc, e, h => by
    simp only [mE] at h
    split at h
    · simp only [Bool.and_eq_true, decide_eq_true_eq] at h
      obtain ⟨⟨⟨rfl, h1⟩, h2⟩, h3⟩ := h
      exact snd_op2 h1 (mE_ok tb hN a _ _ h2) (mE_ok tb hN b _ _ h3)
    · cases h
  | .neg a, sc, e, h => by
    simp only [mE] at h
    split at h
    · exact snd_neg (mE_ok tb hN a _ _ h)
    · cases h
  | .cmp o a b, sc, e, h => by
    simp only [mE] at h
    split at h
    · simp only [Bool.and_eq_true, decide_eq_true_eq] at h
      obtain ⟨⟨⟨rfl, h1⟩, h2⟩, h3⟩ := h
      exact snd_cmp h1 (mE_ok tb hN a _ _ h2) (mE_ok tb hN b _ _ h3)
    · cases h
  | .cmp3 o1 o2 a b d, sc, e, h => by
    simp only [mE] at h
    split at h
    · simp only [Bool.and_eq_true, decide_eq_true_eq] at h
      obtain ⟨⟨⟨⟨⟨rfl, rfl⟩, h1⟩, h2⟩, h3⟩, h4⟩ := h
      exact snd_cmp3 h1 (mE_ok tb hN a _ _ h2) (mE_ok tb hN b _ _ h3) (mE_ok tb hN d _ _ h4)
    · cases h
  | .nt a, sc, e, h => by
    simp only [mE] at h
    split at h
    · exact snd_nt (mE_ok tb hN a _ _ h)
    · cases h
  | .an a b, sc, e, h => by
    simp only [mE] at h
    split at h
    · simp only [Bool.and_eq_true] at h
      obtain ⟨h1, h2⟩ := h
      split at h2
      · exact snd_an (mE_ok tb hN a _ _ h1) (mE_ok tb hN b _ _ h2).one
      · exact snd_an (mE_ok tb hN a _ _ h1) (mE_ok tb hN b _ _ h2)
    · cases h
  | .orr a b, sc, e, h => by
    simp only [mE] at h
    split at h
    · simp only [Bool.and_eq_true] at h
      obtain ⟨h1, h2⟩ := h
      split at h2
      · exact snd_orr (mE_ok tb hN a _ _ h1) (mE_ok tb hN b _ _ h2).one
      · exact snd_orr (mE_ok tb hN a _ _ h1) (mE_ok tb hN b _ _ h2)
    · cases h
  | .ife d a b, sc, e, h => by
    simp only [mE] at h
    split at h
    · simp only [Bool.and_eq_true] at h
      exact snd_ife (mE_ok tb hN d _ _ h.1.1) (mE_ok tb hN a _ _ h.1.2) (mE_ok tb hN b _ _ h.2)
    · cases h
  | .tup es, sc, e, h => by
    simp only [mE] at h
    split at h
    · exact snd_tup (mL_ok tb hN es _ _ h)
    · cases h
  | .lst es, sc, e, h => by
    simp only [mE] at h
    split at h
    · exact snd_lst (mL_ok tb hN es _ _ h)
    · cases h
  | .dic ks vs, sc, e, h => by
    simp only [mE] at h
    split at h
    · simp only [Bool.and_eq_true] at h
      have h1 := mL_ok tb hN ks _ _ h.1
      have h2 := mL_ok tb hN vs _ _ h.2
      cases h1
      cases h2
      exact snd_dic0
    · simp only [Bool.and_eq_true] at h
      have h1 := mL_ok tb hN ks _ _ h.1
      have h2 := mL_ok tb hN vs _ _ h.2
      cases h1 with
      | cons _ a1 r1 =>
        cases r1
        cases h2 with
        | cons _ a2 r2 =>
          cases r2
          exact snd_dic1 a1 a2
    · cases h
  | .idx a b, sc, e, h => by
    simp only [mE] at h
    split at h
    · simp only [Bool.and_eq_true] at h
      exact snd_idx h.1.1 (mE_ok tb hN a _ _ h.1.2) (mE_ok tb hN b _ _ h.2)
    · cases h
  | .slc a lo hi, sc, e, h => by
    simp only [mE] at h
    split at h
    · simp only [Bool.and_eq_true] at h
      exact snd_slc (mE_ok tb hN a _ _ h.1.1) (mO_ok tb hN lo _ _ h.1.2) (mO_ok tb hN hi _ _ h.2)
    · cases h
  | .rvs _, sc, e, h => by simp only [mE] at h; cases h
  | .call f es, sc, e, h => by
    simp only [mE] at h
    split at h
    · rename_i hf
      simp only [Bool.and_eq_true, decide_eq_true_eq, Bool.not_eq_true'] at h
      obtain ⟨⟨⟨⟨h1, h2⟩, h3⟩, h4⟩, h5⟩ := h
      exact snd_call tb hf h1 h2 h3 h4 (mL_ok tb hN es _ _ h5)
    · cases h
  | .callp f i es, sc, e, h => by
    simp only [mE] at h
    split at h
    · rename_i hf
      simp only [Bool.and_eq_true, decide_eq_true_eq] at h
      obtain ⟨⟨⟨⟨⟨⟨⟨h1, h2⟩, h3⟩, h4⟩, h5⟩, h6⟩, h7⟩, h8⟩ := h
      exact snd_callp tb hf h1 h2 h3 h4 h5 h6 h7 (mL_ok tb hN es _ _ h8)
    · cases h
  | .callk f ix es, sc, e, h => by
    simp only [mE] at h
    split at h
    · rename_i hf
      simp only [Bool.and_eq_true, decide_eq_true_eq, Bool.not_eq_true'] at h
      obtain ⟨⟨⟨⟨⟨h1, h2⟩, h3⟩, h4⟩, h5⟩, h6⟩ := h
      exact snd_callk tb hf h1 h2 h3 h4 h5 (mL_ok tb hN es _ _ h6)
    · cases h
  | .bi b es, sc, e, h => by
    simp only [mE] at h
    split at h
    · split at h
      · simp only [Bool.and_eq_true, decide_eq_true_eq] at h
        obtain ⟨⟨rfl, h2⟩, h3⟩ := h
        split at h3
        · simp only [Bool.and_eq_true, decide_eq_true_eq] at h3
          obtain ⟨⟨rfl, h4⟩, h5⟩ := h3
          exact snd_sset tb h2 h4 (mL_ok tb hN es _ _ h5)
        · cases h3
      · simp only [Bool.and_eq_true, decide_eq_true_eq] at h
        obtain ⟨⟨rfl, h2⟩, h3⟩ := h
        split at h3
        · simp only [Bool.and_eq_true, decide_eq_true_eq] at h3
          obtain ⟨⟨rfl, h4⟩, h5⟩ := h3
          have h6 := mL_ok tb hN es _ _ h5
          cases h6 with
          | cons n1 a1 r1 =>
            cases r1
            exact snd_lrng tb h2 h4 n1 a1
        · cases h3
      · simp only [Bool.and_eq_true, decide_eq_true_eq] at h
        obtain ⟨⟨rfl, h2⟩, h3⟩ := h
        split at h3
        · simp only [Bool.and_eq_true, decide_eq_true_eq] at h3
          obtain ⟨⟨rfl, h4⟩, h5⟩ := h3
          have h6 := mL_ok tb hN es _ _ h5
          cases h6 with
          | cons n1 a1 r1 =>
            cases r1
            exact snd_trng tb h2 h4 n1 a1
        · cases h3
      · simp only [Bool.and_eq_true, decide_eq_true_eq] at h
        obtain ⟨⟨⟨h1, rfl⟩, h2⟩, h3⟩ := h
        exact snd_bi tb h1 h2 (mL_ok tb hN es _ _ h3)
    · simp only [Bool.and_eq_true, decide_eq_true_eq] at h
      obtain ⟨⟨⟨h1, rfl⟩, h2⟩, h3⟩ := h
      exact snd_bi tb h1 h2 (mL_ok tb hN es _ _ h3)
    · cases h
  | .isi a ts, sc, e, h => by
    simp only [mE] at h
    split at h
    · simp only [Bool.and_eq_true, decide_eq_true_eq] at h
      obtain ⟨⟨⟨⟨⟨rfl, h2⟩, rfl⟩, h4⟩, h5⟩, h6⟩ := h
      exact snd_isi tb h2 h4 h5 (mE_ok tb hN a _ _ h6)
    · cases h
  | .get1 a b, sc, e, h => by
    simp only [mE] at h
    split at h
    · simp only [Bool.and_eq_true, decide_eq_true_eq] at h
      obtain ⟨⟨⟨⟨⟨rfl, h2⟩, h3⟩, h4⟩, h5⟩, h6⟩ := h
      exact snd_get1 h4 h2 h3 (mE_ok tb hN a _ _ h5) (mE_ok tb hN b _ _ h6)
    · cases h
  | .get2 a b d, sc, e, h => by
    simp only [mE] at h
    split at h
    · simp only [Bool.and_eq_true, decide_eq_true_eq] at h
      obtain ⟨⟨⟨⟨⟨⟨⟨rfl, h2⟩, h3⟩, h3'⟩, h4⟩, h5⟩, h6⟩, h7⟩ := h
      exact snd_get2 h4 h2 h3 h3' (mE_ok tb hN a _ _ h5) (mE_ok tb hN b _ _ h6) (mE_ok tb hN d _ _ h7)
    · cases h
  | .index _ _, sc, e, h => by simp only [mE] at h; cases h
  | .pop0 _, sc, e, h => by simp only [mE] at h; cases h
  | .pop1 _ _, sc, e, h => by simp only [mE] at h; cases h
  | .comp elt tg it ln cond own, sc, e, h => by
    simp only [mE] at h
    split at h
    · simp only [Bool.and_eq_true, decide_eq_true_eq] at h
      obtain ⟨⟨⟨⟨⟨⟨h1, h2⟩, h3⟩, h4⟩, h5⟩, h6⟩, h7⟩ := h
      exact (sndC_of hN h1 h2 (mI_ok tb hN it _ _ _ h3) h4 h5 (mC_ok tb hN cond _ _ h6) (mE_ok tb hN elt _ _ h7)).snd hN
    · cases h
theorem mL_ok (tb : Tb P w K mg base T gs lvl call) (hN : N.Nodup) : ∀ (cs : CEs) (sc : Scope) (es : List Expr), mL T gs N cs sc es = true → AllS P w K mg base lvl call N sc cs es
  | .nil, sc, es, h => by
    simp only [mL] at h
    split at h
    · exact .nil
    · cases h
  | .cons a as, sc, es, h => by
    simp only [mL] at h
    split at h
    · simp only [Bool.and_eq_true] at h
      exact .cons h.1.1 (mE_ok tb hN a _ _ h.1.2) (mL_ok tb hN as _ _ h.2)
    · cases h
theorem mO_ok (tb : Tb P w K mg base T gs lvl call) (hN : N.Nodup) : ∀ (c : CEo) (sc : Scope) (e : Option Expr), mO T gs N c sc e = true → SndO P w K mg base lvl call N sc c e
  | .no, sc, e, h => by
    simp only [mO] at h
    split at h
    · exact snd_no
    · cases h
  | .yes a, sc, e, h => by
    simp only [mO] at h
    split at h
    · exact snd_yes (mE_ok tb hN a _ _ h)
    · cases h
theorem mC_ok (tb : Tb P w K mg base T gs lvl call) (hN : N.Nodup) : ∀ (c : CEo) (sc : Scope) (e : List Expr), mC T gs N c sc e = true → SndT P w K mg base lvl call N sc c e
  | .no, sc, e, h => by
    simp only [mC] at h
    split at h
    · exact sndT_no
    · cases h
  | .yes a, sc, e, h => by
    simp only [mC] at h
    split at h
    · exact sndT_yes (mE_ok tb hN a _ _ h)
    · cases h
theorem mI_ok (tb : Tb P w K mg base T gs lvl call) (hN : N.Nodup) : ∀ (c : CIt) (sc : Scope) (t e : Expr), mI T gs N c sc t e = true → SndI P w K mg base lvl call N sc c t e
  | .ofE a, sc, t, e, h => by
    simp only [mI] at h
    exact sndI_of (mE_ok tb hN a _ _ h)
  | .rng1 a, sc, t, e, h => by
    simp only [mI] at h
    split at h
    · simp only [Bool.and_eq_true, decide_eq_true_eq] at h
      obtain ⟨⟨⟨rfl, h2⟩, h3⟩, h4⟩ := h
      exact sndI_rng1 tb h2 h3 (mE_ok tb hN a _ _ h4)
    · cases h
  | .rng2 a b, sc, t, e, h => by
    simp only [mI] at h
    split at h
    · simp only [Bool.and_eq_true, decide_eq_true_eq] at h
      obtain ⟨⟨⟨⟨⟨rfl, h2⟩, h3⟩, h3'⟩, h4⟩, h5⟩ := h
      exact sndI_rng2 tb h2 h3 h3' (mE_ok tb hN a _ _ h4) (mE_ok tb hN b _ _ h5)
    · cases h
  | .enum a, sc, t, e, h => by
    simp only [mI] at h
    split at h
    · simp only [Bool.and_eq_true, decide_eq_true_eq] at h
      obtain ⟨⟨⟨⟨rfl, h2⟩, ht⟩, h3⟩, h4⟩ := h
      exact sndI_enum tb h2 ht h3 (mE_ok tb hN a _ _ h4)
    · cases h
  | .zip a b, sc, t, e, h => by
    simp only [mI] at h
    split at h
    · simp only [Bool.and_eq_true, decide_eq_true_eq] at h
      obtain ⟨⟨⟨⟨⟨⟨rfl, h2⟩, ht⟩, h3⟩, h3'⟩, h4⟩, h5⟩ := h
      exact sndI_zip tb h2 ht h3 h3' (mE_ok tb hN a _ _ h4) (mE_ok tb hN b _ _ h5)
    · cases h
end
end
end Cr
/-! # Sound5: statements. -/
namespace Cr
open PySem PySem.Spec PyProof.Rows L2
section
variable (T : List FE) (gs : List (Str × Int)) (N : List Str)
def isLcE : CE → Bool
  | .comp _ _ _ _ _ _ => true
  | _ => false
/-- a target that is no plain local name -/
def notLoc (sc : Scope) : Expr → Bool
  | .Name x _ => !(sc.names.lookup x == some .local)
  | _ => true
/-- the stores of a tuple's parts are not swapped -/
def swN (sc : Scope) (t v : Expr) : Bool := match t, v with
  | .Tuple ts _ _, .Tuple _ _ _ => ts.any (notLoc sc)
  | .Tuple _ _ _, _ => true
  | _, _ => false
mutual
def mS (sc : Scope) : CS → Stmt → Bool
  | .set i e, s => match s with
    | .Assign [.Name x _] v _ => decide (N[i]? = some x) && locB (fun _ => true) sc x && (isLcE e || noComp v) && mE T gs N e sc v
    | _ => false
  | .par2 i j a b, s => match s with
    | .Assign [.Tuple [.Name x px, .Name y py] _ _] (.Tuple [l, r] _ _) _ => decide (N[i]? = some x) && decide (N[j]? = some y) && decide (i ≠ j) && (sc.names.lookup x == some .local) && (sc.names.lookup y == some .local) && !(x == y) && (py.line == px.line) &&
        !(foldedForSure 8 l && foldedForSure 8 r) && !(constantsAlone 8 l && constantsAlone 8 r) && notSt l && notSt r && mE T gs N a sc l && mE T gs N b sc r
    | _ => false
  | .unp t e, s => match s with
    | .Assign [g] v _ => mT N (fun _ => true) sc t g && swN sc g v && noComp v && notSt g && mE T gs N e sc v
    | _ => false
  | .sub i k e, s => match s with
    | .Assign [.Subscript (.Name x _) q _] v _ => decide (N[i]? = some x) && visB sc x && okName x && noSlice q && noComp v && mE T gs N k sc q && mE T gs N e sc v
    | _ => false
  | .aug _ _ _, _ => false
  | .augs _ _ _ _, _ => false
  | .expr e, s => match s with
    | .Expr v _ => noComp v && mE T gs N e sc v
    | _ => false
  | .app i e, s => match s with
    | .Expr (.Call (.Attribute (.Name x _) m ap) [v] [] cp) _ => decide (m = "append") && decide (N[i]? = some x) && visB sc x && okName x && notSt v && (ap.endLine == cp.line) && mE T gs N e sc v
    | _ => false
  | .ext _ _, _ => false
  | .upd i e, s => match s with
    | .Expr (.Call (.Attribute (.Name x _) m ap) [v] [] cp) _ => decide (m = "update") && decide (N[i]? = some x) && visB sc x && okName x && notSt v && (ap.endLine == cp.line) && mE T gs N e sc v
    | _ => false
  | .rem _ _, _ => false
  | .ife c a b, s => match s with
    | .If t x y _ => mE T gs N c sc t && mSs sc a x && mSs sc b y
    | _ => false
  | .forr t it _ b, s => match s with
    | .For g i x [] _ => mT N (fun _ => true) sc t g && noSet i && mI T gs N it sc g i && mSs sc b x
    | _ => false
  | .whil c b, s => match s with
    | .While t x [] _ => mE T gs N c sc t && mSs sc b x
    | _ => false
  | .ret e, s => match s with
    | .Return (some v) _ => mE T gs N e sc v
    | _ => false
  | .retN, s => match s with
    | .Return none _ => true
    | _ => false
  | .brk, s => match s with
    | .Break _ => true
    | _ => false
  | .cnt, s => match s with
    | .Continue _ => true
    | _ => false
  | .pas, s => match s with
    | .Pass _ => true
    | .Expr (.Constant (.str _) _ _) _ => true
    | _ => false
  | .rai, _ => true
  | .spoil j i, s => match s with
    | .For (.Name y _) (.Name x _) [.Expr (.Call (.Attribute (.Name z _) m ap) [.Constant .none _ _] [] cp) _] [] _ => decide (m = "append") && decide (z = y) && decide (N[i]? = some x) && decide (N[j]? = some y) && visB sc x && okName x && locB (fun _ => true) sc y && visB sc y && okName y && (ap.endLine == cp.line)
    | _ => false
def mSs (sc : Scope) : CSs → List Stmt → Bool
  | .nil, s => match s with
    | [] => true
    | _ => false
  | .cons a as, s => match s with
    | x :: r => mS sc a x && mSs sc as r
    | _ => false
end
end
section
variable {P : Program} {w : World} {K : PySem.W.Frag} {mg : Str → Option Value} {base : Heap} {T : List FE} {gs : List (Str × Int)} {lvl fuel : Nat} {call : CallT} {N : List Str} {sc : Scope} {X : Cx}
variable (P w K mg base lvl call N fuel) in
structure SndS (sc : Scope) (c : CS) (s : Stmt) : Prop where
  val : ∃ t, (∀ X, Ctx P w K mg base lvl N sc X → (∀ x, X.fn x = true) → PS X s t) ∧ GoodS K t (ex call fuel c)
variable (P w K mg base lvl call N fuel) in
structure SndSs (sc : Scope) (c : CSs) (s : List Stmt) : Prop where
  val : ∃ t, (∀ X, Ctx P w K mg base lvl N sc X → (∀ x, X.fn x = true) → PSs X s t) ∧ GoodS K t (exs call fuel c)
theorem len_filterMap_lt {α β : Type} {f : α → Option β} : ∀ {l : List α}, (l.any fun x => (f x).isNone) = true → (l.filterMap f).length < l.length
  | a :: l, h => by
    rw [List.any_cons, Bool.or_eq_true] at h
    rw [List.filterMap_cons]
    rcases h with h | h
    · rw [Option.isNone_iff_eq_none] at h
      rw [h]
      exact Nat.lt_succ_of_le (List.length_filterMap_le f l)
    · have := len_filterMap_lt h
      cases f a with
      | none => exact Nat.lt_succ_of_lt this
      | some b => exact Nat.succ_lt_succ this
theorem sw_none {ts vs : List Expr} {k k2 : Nat} {p p2 : Pos} {env : Env} (h : ts.any (notLoc env.scope) = true) : swappedStores [.Tuple ts k p] (.Tuple vs k2 p2) env = pure none := by
  unfold swappedStores
  dsimp only
  split
  · rfl
  · split
    · rfl
    · split
      · rfl
      · rename_i hq
        exfalso
        apply hq
        rw [Bool.or_eq_true]
        refine .inl ?_
        rw [bne_iff_ne]
        refine Nat.ne_of_lt (len_filterMap_lt ?_)
        rw [List.any_eq_true] at h ⊢
        obtain ⟨x, hx, h⟩ := h
        refine ⟨x, hx, ?_⟩
        cases x with
        | Name y q =>
          simp only [notLoc, Bool.not_eq_true'] at h
          have : (env.kindOf y == some NameKind.local) = false := h
          simp only [this, Bool.false_and, Bool.false_eq_true, if_false, Option.isNone_none]
        | _ => rfl
theorem sw_two {x y : Str} {px py p p2 : Pos} {k k2 : Nat} {l r : Expr} {env : Env} (hk : env.scope.kind = .function) (hx : env.scope.names.lookup x = some .local) (hy : env.scope.names.lookup y = some .local) (hne : (x == y) = false) (hl : (py.line == px.line) = true)
    (hf : (foldedForSure 8 l && foldedForSure 8 r) = false) (hc : (constantsAlone 8 l && constantsAlone 8 r) = false) (n1 : notSt l = true) (n2 : notSt r = true) :
    swappedStores [.Tuple [.Name x px, .Name y py] k p] (.Tuple [l, r] k2 p2) env = pure (some [x, y]) := by
  have hb : env.blockKind = .function := by unfold Env.blockKind; rw [hk]; rfl
  have kx : env.kindOf x = some .local := hx
  have ky : env.kindOf y = some .local := hy
  have s1 : ∀ {e : Expr}, notSt e = true → ∀ b : Bool, ((match e with | .Starred .. => true | _ => false) || b) = b := fun {e} h b => by cases e <;> first | rfl | cases h
  have h2 : ([l, r].all (foldedForSure 8)) = false := by rw [List.all_cons, List.all_cons, List.all_nil, Bool.and_true]; exact hf
  have h3 : ([l, r].all (constantsAlone 8)) = false := by rw [List.all_cons, List.all_cons, List.all_nil, Bool.and_true]; exact hc
  have hl' : (py.line = px.line) := by simpa using hl
  have hne' : ¬ y = x := fun e => by rw [e] at hne; simp at hne
  have e1 : ([Expr.Name x px, Expr.Name y py].filterMap fun
    | .Name id pos => if env.kindOf id == some .local && pos.line == px.line then some id else none
    | _ => none) = [x, y] := by
    simp [kx, ky, hl']
  unfold swappedStores
  dsimp only
  refine (if_neg ?_).trans ((if_neg ?_).trans ?_)
  · simp [hb]
  · rw [Bool.not_eq_true]
    exact (s1 n1 _).trans (s1 n2 _)
  · generalize hn : List.filterMap _ [Expr.Name x px, Expr.Name y py] = nm
    have hnm : nm = [x, y] := hn.symm.trans e1
    subst hnm
    refine (if_neg ?_).trans ((if_neg ?_).trans ((if_neg ?_).trans rfl))
    · have : ([x, y] : List Str).eraseDups = [x, y] := by
        simp [List.eraseDups_cons, hne']
      rw [this]
      simp
    · rw [h2]; decide
    · rw [h3]; decide
end
end Cr
/-! # Sound6: the check of statements is right. -/
namespace Cr
open PySem PySem.Spec PyProof.Rows L2
section
variable {P : Program} {w : World} {K : PySem.W.Frag} {mg : Str → Option Value} {base : Heap} {T : List FE} {gs : List (Str × Int)} {lvl fuel : Nat} {call : CallT} {N : List Str} {sc : Scope} {X : Cx}
theorem goodS_of {t : TS} {c : CS} {f : Rho → Option (Rho × Fl)} (h : GoodS K t f) (e : ∀ r x, ex call fuel c r = some x → f r = some x) : GoodS K t (ex call fuel c) := h.eq e
theorem Ctx.all {fn : Str → Bool} (c : Ctx P w K mg base lvl N sc X) (f : ∀ x, X.fn x = true) : ∀ x, fn x = true → X.fn x = true := fun x _ => f x
theorem Ctx.var (c : Ctx P w K mg base lvl N sc X) {i : Nat} {x : Str} {p : Pos} (hi : N[i]? = some x) (hv : visB sc x = true) (ho : okName x = true) : PE X (.Name x p) (tVar i) :=
  pe_var (by rw [c.N]; exact hi) (c.vis hv) (okName_debug ho) (okName_class ho)
/-- the parts of a comprehension that the check accepts -/
theorem mE_comp (tb : Tb P w K mg base T gs lvl call) (hN : N.Nodup) {c : CE} (hc : isLcE c = true) {e : Expr} (h : mE T gs N c sc e = true) : ∃ x t i ifs scope pos, e = .ListComp x [⟨t, i, ifs, 0⟩] scope pos ∧ SndC P w K mg base lvl call N sc c x t i ifs scope := by
  cases c with
  | comp elt tg it ln cond own =>
    simp only [mE] at h
    split at h
    · rename_i x t i ifs scope pos
      simp only [Bool.and_eq_true, decide_eq_true_eq] at h
      obtain ⟨⟨⟨⟨⟨⟨h1, h2⟩, h3⟩, h4⟩, h5⟩, h6⟩, h7⟩ := h
      exact ⟨x, t, i, ifs, scope, pos, rfl, sndC_of hN h1 h2 (mI_ok tb hN it _ _ _ h3) h4 h5 (mC_ok tb hN cond _ _ h6) (mE_ok tb hN elt _ _ h7)⟩
    · cases h
  | _ => cases hc
theorem swaps_lc {x : Expr} {g : List Comprehension} {scope : Scope} {pos py : Pos} {y : Str} {l : Nat} {env : Env} (hk : env.scope.kind = .function) :
    (env.scope.names.lookup y = some .local ∧ swapsWith (.ListComp x g scope pos) (some (.Name y py)) l env = pure true) ∨ swapsWith (.ListComp x g scope pos) (some (.Name y py)) l env = pure false := by
  have hb : env.blockKind = .function := by unfold Env.blockKind; rw [hk]; rfl
  have e : swapsWith (.ListComp x g scope pos) (some (.Name y py)) l env = pure (env.blockKind == .function && env.kindOf y == some .local && py.line == pos.line && !(scope.names.any fun (n, k) => n == y && (k == .local || k == .cell))) := rfl
  rw [e]
  cases hq : (env.blockKind == .function && env.kindOf y == some .local && py.line == pos.line && !(scope.names.any fun (n, k) => n == y && (k == .local || k == .cell))) with
  | false => exact .inr rfl
  | true =>
    simp only [Bool.and_eq_true, beq_iff_eq] at hq
    exact .inl ⟨hq.1.1.2, rfl⟩
theorem keep_imm {o : Opd} {r r' : Rho} {d : D} {b : Bool} (h : keep o r = some (d, b, r')) : (imm d || b) = b := by
  unfold keep at h
  split at h
  · split at h
    · split at h
      · rename_i hi
        cases h
        rw [hi]; rfl
      · rename_i hi
        simp only [Option.map_eq_some_iff] at h
        obtain ⟨_, _, e⟩ := h
        cases e
        simpa using hi
    · cases h
  · cases h
    rw [← Bool.or_assoc, Bool.or_self]
theorem snd_set (tb : Tb P w K mg base T gs lvl call) (hN : N.Nodup) (hk : sc.kind = .function) {i : Nat} {e : CE} {x : Str} {px p : Pos} {v : Expr} (hi : N[i]? = some x) (hl : locB (fun _ => true) sc x = true) (hc : (isLcE e || noComp v) = true) (h : mE T gs N e sc v = true) :
    SndS P w K mg base lvl fuel call N sc (.set i e) (.Assign [.Name x px] v p) := by
  have hs : ∀ r y, ex call fuel (.set i e) r = some y → ((ev call e r).bind fun (o, r1) => (keep o r1).bind fun (d, w, r2) => (asg w (.nm i) d r2).map fun r3 => (r3, Fl.nx)) = some y := fun r y hh => by
    rw [ex] at hh
    simp only [Option.bind_eq_some_iff, Option.map_eq_some_iff, setO] at hh ⊢
    obtain ⟨⟨o, r1⟩, e1, r2, ⟨⟨d, b, r'⟩, e2, e3⟩, e4⟩ := hh
    refine ⟨(o, r1), e1, (d, b, r'), e2, r2, ?_, e4⟩
    dsimp only at e3 ⊢
    split at e3
    · rename_i ho
      cases e3
      unfold asg
      rw [if_pos ho, keep_imm e2]
    · cases e3
  have sn := mE_ok tb hN e sc v h
  by_cases hn : noComp v = true
  · obtain ⟨te, h1, h2⟩ := sn.val
    exact ⟨tAsg te (gName i), fun X c f => ps_set (by rw [c.N]; exact hN) (by rw [c.N]; exact hi) (c.loc hl).1 (h1 X c) (swap_no hn) (.inl (f x)), (goodS_asg h2 goodG_name).eq hs⟩
  · rw [Bool.or_eq_true] at hc
    obtain ⟨y, t, it, ifs, scope, pos, rfl, cc⟩ := mE_comp tb hN (hc.resolve_right hn) h
    obtain ⟨te, h1, h2⟩ := (cc.snd (pos := pos) hN).val
    obtain ⟨own, wi, g, tt, te', ok, hs', hi', hg', ht', he', gd⟩ := cc.val
    -- both ways give the same reading
    refine ⟨tAsg (tLc wi g tt te' (own.map (·.2))) (gName i), fun X c f => ?_, (goodS_asg gd goodG_name).eq hs⟩
    have hkX : X.env.scope.kind = .function := by rw [c.sc]; exact hk
    rcases swaps_lc (x := y) (g := [⟨t, it, ifs, 0⟩]) (scope := scope) (pos := pos) (py := px) (y := x) (l := p.line) (env := X.env) hkX with ⟨hy, sw⟩ | sw
    · exact ps_setLc c.calm (by rw [c.N]; exact hN) (by rw [c.N]; exact hi) hy sw (hi' X c) (by rw [c.N, c.sc]; exact ok) (fun s H C cl fp => hg' _ (c.blk s H scope C cl fp) fun x hx => hx) (fun s H C cl fp => ht' _ (c.blk s H scope C cl fp)) (fun s H C cl fp => he' _ (c.blk s H scope C cl fp)) fun x => fold_no hs'
    · exact ps_set (by rw [c.N]; exact hN) (by rw [c.N]; exact hi) (c.loc hl).1 (pe_lc c.calm (by rw [c.N]; exact hN) (hi' X c) (by rw [c.N, c.sc]; exact ok) (fun s H C cl fp => hg' _ (c.blk s H scope C cl fp) fun x hx => hx) (fun s H C cl fp => ht' _ (c.blk s H scope C cl fp)) (fun s H C cl fp => he' _ (c.blk s H scope C cl fp)) fun x => fold_no hs') sw (.inl (f x))
theorem snd_par (hk : sc.kind = .function) {i j : Nat} {a b : CE} {x y : Str} {px py p p2 pos : Pos} {k k2 : Nat} {l r : Expr} (hN : N.Nodup) (hi : N[i]? = some x) (hj : N[j]? = some y) (hij : i ≠ j) (hx : sc.names.lookup x = some .local) (hy : sc.names.lookup y = some .local) (hne : (x == y) = false) (hl : (py.line == px.line) = true)
    (hf : (foldedForSure 8 l && foldedForSure 8 r) = false) (hc : (constantsAlone 8 l && constantsAlone 8 r) = false) (n1 : notSt l = true) (n2 : notSt r = true) (ha : Snd P w K mg base lvl call N sc a l) (hb : Snd P w K mg base lvl call N sc b r) :
    SndS P w K mg base lvl fuel call N sc (.par2 i j a b) (.Assign [.Tuple [.Name x px, .Name y py] k p] (.Tuple [l, r] k2 p2) pos) := by
  obtain ⟨t, h1, h2⟩ := (AllS.cons n1 ha (AllS.cons n2 hb .nil)).pa
  refine ⟨tPar i j t, fun X c f => ps_par c.calm (by rw [c.N]; exact hN) (by rw [c.N]; exact hi) (by rw [c.N]; exact hj) hij (by rw [c.sc]; exact hx) (by rw [c.sc]; exact hy) (h1 X c) (sw_two (by rw [c.sc]; exact hk) (by rw [c.sc]; exact hx) (by rw [c.sc]; exact hy) hne hl hf hc n1 n2), (goodS_par h2).eq fun r y hh => by rw [ex] at hh; exact hh⟩
theorem snd_unp (tb : Tb P w K mg base T gs lvl call) (hN : N.Nodup) {t : Tg} {e : CE} {g v : Expr} {p : Pos} (ht : mT N (fun _ => true) sc t g = true) (hw : swN sc g v = true) (hn : noComp v = true) (hg : notSt g = true) (h : mE T gs N e sc v = true) :
    SndS P w K mg base lvl fuel call N sc (.unp t e) (.Assign [g] v p) := by
  obtain ⟨te, h1, h2⟩ := (mE_ok tb hN e sc v h).val
  obtain ⟨tg, h3, h4⟩ := mT_ok (P := P) (w := w) (K := K) (mg := mg) (base := base) (lvl := lvl) hN t g ht
  refine ⟨tAsg te tg, fun X c f => ps_asg (h1 X c) (h3 X c (c.all f)) (swap_no hn) ?_ (by rw [as_no hg]; rfl), (goodS_asg h2 h4).eq fun r y hh => by rw [ex] at hh; exact hh⟩
  unfold swN at hw
  split at hw
  · exact sw_none (by rw [c.sc]; exact hw)
  · rename_i hq
    cases v with
    | Tuple _ _ _ => exact absurd rfl (hq _ _ _)
    | _ => rfl
  · cases hw
theorem snd_sub (tb : Tb P w K mg base T gs lvl call) (hN : N.Nodup) {i : Nat} {k e : CE} {x : Str} {q v : Expr} {px p p2 : Pos} (hi : N[i]? = some x) (hv : visB sc x = true) (ho : okName x = true) (hs : noSlice q = true) (hn : noComp v = true) (hk : mE T gs N k sc q = true) (h : mE T gs N e sc v = true) :
    SndS P w K mg base lvl fuel call N sc (.sub i k e) (.Assign [.Subscript (.Name x px) q p2] v p) := by
  obtain ⟨te, h1, h2⟩ := (mE_ok tb hN e sc v h).val
  obtain ⟨tk, h3, h4⟩ := (mE_ok tb hN k sc q hk).val
  refine ⟨_, fun X c f => ps_asg (h1 X c) (pg_sub (c.var hi hv ho) (h3 X c) (set_ld c.units) ?_) (show swapsWith v (some (.Subscript (.Name x px) q p2)) p.line X.env = pure false from swap_no hn) rfl rfl, (goodS_sub h2 h4).eq fun r y hh => by rw [ex] at hh; exact hh⟩
  intro v
  cases q <;> first | rfl | cases hs
theorem few_one {e : Expr} {env : Env} {cp : Pos} (h : notSt e = true) : ((backTo cp (starEach [e] env)).all (fun x => !x.1) && (backToKw cp (keywordEach [] env)).all (fun x => x.1.isSome) && decide (([e] : List Expr).length + ([] : List Keyword).length + (if ([] : List Keyword).isEmpty then 0 else 1) < 30)) = true := by
  rw [star_no h]; rfl
theorem snd_app (tb : Tb P w K mg base T gs lvl call) (hN : N.Nodup) {i : Nat} {e : CE} {x : Str} {v : Expr} {px ap cp p : Pos} (hi : N[i]? = some x) (hv : visB sc x = true) (ho : okName x = true) (hn : notSt v = true) (hl : (ap.endLine == cp.line) = true) (h : mE T gs N e sc v = true) :
    SndS P w K mg base lvl fuel call N sc (.app i e) (.Expr (.Call (.Attribute (.Name x px) "append" ap) [v] [] cp) p) := by
  obtain ⟨te, h1, h2⟩ := (mE_ok tb hN e sc v h).val
  refine ⟨tDrop (tBM K "list" rAppend (tVar i) (tCons te tNil)), fun X c f => ?_, (goodS_app h2).eq fun r y hh => by rw [ex] at hh; exact hh⟩
  rw [← c.K]
  exact ps_expr (pe_bm PySem.F.plainAttrs_list PySem.F.slot_list_append PySem.F.type_list_append mt_append (c.var hi hv ho) (pa_cons (h1 X c) pa_nil (star_no hn)) rfl (few_one hn) hl (star_no hn) rfl) rfl
theorem snd_upd (tb : Tb P w K mg base T gs lvl call) (hN : N.Nodup) {i : Nat} {e : CE} {x : Str} {v : Expr} {px ap cp p : Pos} (hi : N[i]? = some x) (hv : visB sc x = true) (ho : okName x = true) (hn : notSt v = true) (hl : (ap.endLine == cp.line) = true) (h : mE T gs N e sc v = true) :
    SndS P w K mg base lvl fuel call N sc (.upd i e) (.Expr (.Call (.Attribute (.Name x px) "update" ap) [v] [] cp) p) := by
  obtain ⟨te, h1, h2⟩ := (mE_ok tb hN e sc v h).val
  refine ⟨tDrop (tBM K "dict" rUpdD (tVar i) (tCons te tNil)), fun X c f => ?_, (goodS_upd h2).eq fun r y hh => by rw [ex] at hh; exact hh⟩
  rw [← c.K]
  exact ps_expr (pe_bm PySem.F.plainAttrs_dict PySem.F.slot_dict_update PySem.F.type_dict_update mt_updD (c.var hi hv ho) (pa_cons (h1 X c) pa_nil (star_no hn)) rfl (few_one hn) hl (star_no hn) rfl) rfl
theorem Ctx.own (c : Ctx P w K mg base lvl N sc X) : PassesOwn (model X.prog X.w) X.A X.env X.xe := by rw [c.xe]; exact PassesOwn.never
end
end Cr
/-! # Sound7: loops; the check of a body is right. -/
namespace Cr
open PySem PySem.Spec PyProof.Rows L2
section
variable {P : Program} {w : World} {K : PySem.W.Frag} {mg : Str → Option Value} {base : Heap} {T : List FE} {gs : List (Str × Int)} {lvl fuel : Nat} {call : CallT} {N : List Str} {sc : Scope} {X : Cx}
theorem snd_if {c : CE} {a b : CSs} {t : Expr} {x y : List Stmt} {p : Pos} (hc : Snd P w K mg base lvl call N sc c t) (ha : SndSs P w K mg base lvl fuel call N sc a x) (hb : SndSs P w K mg base lvl fuel call N sc b y) : SndS P w K mg base lvl fuel call N sc (.ife c a b) (.If t x y p) := by
  obtain ⟨tt, h1, h2⟩ := hc.tst
  obtain ⟨ta, h3, h4⟩ := ha.val
  obtain ⟨tb, h5, h6⟩ := hb.val
  exact ⟨_, fun X c f => ps_if (h1 X c).1 (h3 X c f) (h5 X c f), (goodS_if h2 h4 h6).eq fun r y hh => by rw [ex] at hh; exact hh⟩
theorem snd_for (hN : N.Nodup) {t : Tg} {it : CIt} {ln : Bool} {b : CSs} {g i : Expr} {x : List Stmt} {p : Pos} (ht : mT N (fun _ => true) sc t g = true) (hs : noSet i = true) (hi : SndI P w K mg base lvl call N sc it g i) (hb : SndSs P w K mg base lvl fuel call N sc b x) :
    SndS P w K mg base lvl fuel call N sc (.forr t it ln b) (.For g i x [] p) := by
  obtain ⟨wi, h1, h2⟩ := hi.val ln
  obtain ⟨tb, h5, h6⟩ := hb.val
  obtain ⟨tg, h3, h4⟩ := mT_ok (P := P) (w := w) (K := K) (mg := mg) (base := base) (lvl := lvl) hN t g ht
  exact ⟨_, fun X c f => ps_for c.own c.calm (h1 X c) (h3 X c (c.all f)) (h5 X c f) fun x => fold_no hs, (goodS_for h2 h4 h6).eq fun r y hh => by rw [ex] at hh; exact hh⟩
theorem snd_while {c : CE} {b : CSs} {t : Expr} {x : List Stmt} {p : Pos} (hc : Snd P w K mg base lvl call N sc c t) (hb : SndSs P w K mg base lvl fuel call N sc b x) : SndS P w K mg base lvl fuel call N sc (.whil c b) (.While t x [] p) := by
  obtain ⟨tt, h1, h2⟩ := hc.tst
  obtain ⟨tb, h5, h6⟩ := hb.val
  exact ⟨_, fun X c f => ps_while c.own (h1 X c).1 (h5 X c f), (goodS_while (n := fuel) h2 h6).eq fun r y hh => by rw [ex] at hh; exact hh⟩
theorem snd_spoil (hN : N.Nodup) {i j : Nat} {x y : Str} {py px pz pk ap cp p p2 : Pos} {k : Nat} (hi : N[i]? = some x) (hj : N[j]? = some y) (hv : visB sc x = true) (ho : okName x = true) (hl : locB (fun _ => true) sc y = true) (hv2 : visB sc y = true) (ho2 : okName y = true) (hline : (ap.endLine == cp.line) = true) :
    SndS P w K mg base lvl fuel call N sc (.spoil j i) (.For (.Name y py) (.Name x px) [.Expr (.Call (.Attribute (.Name y pz) "append" ap) [.Constant .none k pk] [] cp) p2] [] p) := by
  refine ⟨tFor (iSeq K (tVar i)) (gName j) (tDrop (tBM K "list" rAppend (tVar j) (tCons (tC .non) tNil))), fun X c f => ?_, goodS_spoil.eq fun r y hh => by rw [ex] at hh; exact hh⟩
  rw [← c.K]
  exact ps_for c.own c.calm (pi_seq (c.var hi hv ho)) (pg_name (by rw [c.N]; exact hN) (by rw [c.N]; exact hj) (c.loc hl).1 (.inl (f y)))
    (pss_one (ps_expr (pe_bm PySem.F.plainAttrs_list PySem.F.slot_list_append PySem.F.type_list_append mt_append (c.var hj hv2 ho2) (pa_cons pe_non pa_nil) rfl rfl hline rfl rfl) rfl)) fun x => rfl
theorem snd_ret {e : CE} {v : Expr} {p : Pos} (h : Snd P w K mg base lvl call N sc e v) : SndS P w K mg base lvl fuel call N sc (.ret e) (.Return (some v) p) := by
  obtain ⟨te, h1, h2⟩ := h.val
  exact ⟨_, fun X c f => ps_ret (h1 X c), (goodS_ret h2).eq fun r y hh => by rw [ex] at hh; exact hh⟩
theorem snd_expr {e : CE} {v : Expr} {p : Pos} (hn : noComp v = true) (h : Snd P w K mg base lvl call N sc e v) : SndS P w K mg base lvl fuel call N sc (.expr e) (.Expr v p) := by
  obtain ⟨te, h1, h2⟩ := h.val
  exact ⟨_, fun X c f => ps_expr (h1 X c) (swap_no hn), (goodS_drop h2).eq fun r y hh => by rw [ex] at hh; exact hh⟩
mutual
theorem mS_ok (tb : Tb P w K mg base T gs lvl call) (hN : N.Nodup) (hk : sc.kind = .function) : ∀ (c : CS) (s : Stmt), mS T gs N sc c s = true → SndS P w K mg base lvl fuel call N sc c s
  | .set i e, s, h => by
    simp only [mS] at h
    split at h
    · simp only [Bool.and_eq_true, decide_eq_true_eq] at h
      obtain ⟨⟨⟨h1, h2⟩, h3⟩, h4⟩ := h
      exact snd_set tb hN hk h1 h2 h3 h4
    · cases h
  | .par2 i j a b, s, h => by
    simp only [mS] at h
    split at h
    · simp only [Bool.and_eq_true, decide_eq_true_eq, Bool.not_eq_true', beq_iff_eq] at h
      obtain ⟨⟨⟨⟨⟨⟨⟨⟨⟨⟨⟨⟨h1, h2⟩, h3⟩, h4⟩, h5⟩, h6⟩, h7⟩, h8⟩, h9⟩, h10⟩, h11⟩, h12⟩, h13⟩ := h
      exact snd_par hk hN h1 h2 h3 h4 h5 h6 (by rw [h7]; exact beq_self_eq_true _) h8 h9 h10 h11 (mE_ok tb hN a _ _ h12) (mE_ok tb hN b _ _ h13)
    · cases h
  | .unp t e, s, h => by
    simp only [mS] at h
    split at h
    · simp only [Bool.and_eq_true, decide_eq_true_eq] at h
      obtain ⟨⟨⟨⟨h1, h2⟩, h3⟩, h4⟩, h5⟩ := h
      exact snd_unp tb hN h1 h2 h3 h4 h5
    · cases h
  | .sub i k e, s, h => by
    simp only [mS] at h
    split at h
    · simp only [Bool.and_eq_true, decide_eq_true_eq] at h
      obtain ⟨⟨⟨⟨⟨⟨h1, h2⟩, h3⟩, h4⟩, h5⟩, h6⟩, h7⟩ := h
      exact snd_sub tb hN h1 h2 h3 h4 h5 h6 h7
    · cases h
  | .aug _ _ _, s, h => by simp only [mS] at h; cases h
  | .augs _ _ _ _, s, h => by simp only [mS] at h; cases h
  | .expr e, s, h => by
    simp only [mS] at h
    split at h
    · simp only [Bool.and_eq_true] at h
      exact snd_expr h.1 (mE_ok tb hN e _ _ h.2)
    · cases h
  | .app i e, s, h => by
    simp only [mS] at h
    split at h
    · simp only [Bool.and_eq_true, decide_eq_true_eq] at h
      obtain ⟨⟨⟨⟨⟨⟨rfl, h1⟩, h2⟩, h3⟩, h4⟩, h5⟩, h6⟩ := h
      exact snd_app tb hN h1 h2 h3 h4 h5 h6
    · cases h
  | .ext _ _, s, h => by simp only [mS] at h; cases h
  | .upd i e, s, h => by
    simp only [mS] at h
    split at h
    · simp only [Bool.and_eq_true, decide_eq_true_eq] at h
      obtain ⟨⟨⟨⟨⟨⟨rfl, h1⟩, h2⟩, h3⟩, h4⟩, h5⟩, h6⟩ := h
      exact snd_upd tb hN h1 h2 h3 h4 h5 h6
    · cases h
  | .rem _ _, s, h => by simp only [mS] at h; cases h
  | .ife c a b, s, h => by
    simp only [mS] at h
    split at h
    · simp only [Bool.and_eq_true] at h
      exact snd_if (mE_ok tb hN c _ _ h.1.1) (mSs_ok tb hN hk a _ h.1.2) (mSs_ok tb hN hk b _ h.2)
    · cases h
  | .forr t it ln b, s, h => by
    simp only [mS] at h
    split at h
    · simp only [Bool.and_eq_true] at h
      obtain ⟨⟨⟨h1, h2⟩, h3⟩, h4⟩ := h
      exact snd_for hN h1 h2 (mI_ok tb hN it _ _ _ h3) (mSs_ok tb hN hk b _ h4)
    · cases h
  | .whil c b, s, h => by
    simp only [mS] at h
    split at h
    · simp only [Bool.and_eq_true] at h
      exact snd_while (mE_ok tb hN c _ _ h.1) (mSs_ok tb hN hk b _ h.2)
    · cases h
  | .ret e, s, h => by
    simp only [mS] at h
    split at h
    · exact snd_ret (mE_ok tb hN e _ _ h)
    · cases h
  | .retN, s, h => by
    simp only [mS] at h
    split at h
    · exact ⟨_, fun X c f => ps_retN, goodS_retN.eq fun r y hh => by rw [ex] at hh; exact hh⟩
    · cases h
  | .brk, s, h => by
    simp only [mS] at h
    split at h
    · exact ⟨_, fun X c f => ps_break, goodS_brk.eq fun r y hh => by rw [ex] at hh; exact hh⟩
    · cases h
  | .cnt, s, h => by
    simp only [mS] at h
    split at h
    · exact ⟨_, fun X c f => ps_continue, goodS_cnt.eq fun r y hh => by rw [ex] at hh; exact hh⟩
    · cases h
  | .pas, s, h => by
    simp only [mS] at h
    split at h
    · exact ⟨_, fun X c f => ps_pass, goodS_nil.eq fun r y hh => by rw [ex] at hh; exact hh⟩
    · exact ⟨_, fun X c f => ps_doc, goodS_nil.eq fun r y hh => by rw [ex] at hh; exact hh⟩
    · cases h
  | .rai, s, h => ⟨_, fun X c f => ps_never, goodS_never.eq fun r y hh => by rw [ex] at hh; exact hh⟩
  | .spoil j i, s, h => by
    simp only [mS] at h
    split at h
    · simp only [Bool.and_eq_true, decide_eq_true_eq] at h
      obtain ⟨⟨⟨⟨⟨⟨⟨⟨⟨rfl, rfl⟩, h1⟩, h2⟩, h3⟩, h4⟩, h5⟩, h6⟩, h7⟩, h8⟩ := h
      exact snd_spoil hN h1 h2 h3 h4 h5 h6 h7 h8
    · cases h
theorem mSs_ok (tb : Tb P w K mg base T gs lvl call) (hN : N.Nodup) (hk : sc.kind = .function) : ∀ (c : CSs) (s : List Stmt), mSs T gs N sc c s = true → SndSs P w K mg base lvl fuel call N sc c s
  | .nil, s, h => by
    simp only [mSs] at h
    split at h
    · exact ⟨_, fun X c f => pss_nil, goodS_nil.eq fun r y hh => by rw [exs] at hh; exact hh⟩
    · cases h
  | .cons a as, s, h => by
    simp only [mSs] at h
    split at h
    · simp only [Bool.and_eq_true] at h
      obtain ⟨t, h1, h2⟩ := (mS_ok tb hN hk a _ h.1).val
      obtain ⟨u, h3, h4⟩ := (mSs_ok tb hN hk as _ h.2).val
      exact ⟨tSeq t u, fun X c f => pss_cons (h1 X c f) (h3 X c f), (goodS_seq h2 h4).eq fun r y hh => by
        rw [exs] at hh
        simp only [Option.bind_eq_some_iff] at hh ⊢
        obtain ⟨⟨r1, fl⟩, e1, e2⟩ := hh
        refine ⟨(r1, fl), e1, ?_⟩
        cases fl <;> exact e2⟩
    · cases h
end
end
end Cr
/-! # Table: all functions of a table keep what the evaluator says. -/
namespace Cr
open PySem PySem.Spec PyProof.Rows L2
section
variable {P : Program} {w : World} {K : PySem.W.Frag} {mg : Str → Option Value} {base : Heap} {T : List FE} {gs : List (Str × Int)} {fuel : Nat} {call : CallT} {Z Z' : Addr → Prop} {O O' PP : List Addr} {r r' : Rho} {σ σ' : L2.St} {H H' : Hp}
variable (P w K mg base T gs) in
/-- what is seen of one def of the text -/
def FnAt (fe : FE) : Prop := ∃ (x qual : Str) (st : Stmt) (f : Addr) (fd : FuncData), Fun K x qual st f fd ∧ mg fe.name = some (.ref f) ∧ PySem.W.keepIn K (.ref f) = true ∧ Binds K fd (fe.N.take fe.par) [] ∧ KRev K fd (fe.N.take fe.par) ∧
  FnScope fe.N (fe.N.take fe.par) (defScope st) ∧ fe.N.Nodup ∧ (defScope st).kind = .function ∧ (fe.N.take fe.par).length = fe.par ∧ mSs T gs fe.N (defScope st) fe.body (defBody st) = true
theorem cells_pad (c : Cells K Z H r σ O) (n : Nat) : Cells K Z H (r ++ List.replicate n none) (σ ++ List.replicate n none) O := by
  induction c with
  | nil =>
    induction n with
    | zero => exact .nil
    | succ n ih => exact .no ih
  | no _ ih => exact .no ih
  | lo _ ih => exact .lo ih
  | own e q n _ ih => exact .own e q n ih
  | fz q f _ ih => exact .fz q f ih
theorem sta_start {N : List Str} {as : List (D × Stt)} {vs : List V} (s : Sta K Z O (as.map some) (vs.map some) H) : Sta K Z O (Cr.start N as) (L2.start N vs) H := by
  have hl := s.cells.len
  simp only [List.length_map] at hl
  unfold Cr.start L2.start
  rw [hl]
  exact ⟨cells_pad s.cells _, s.nd, s.sep, s.zm⟩
/-- a pinned first argument, behind the body -/
theorem pin_end {N : List Str} {as : List (D × Stt)} {vs : List V} {d0 : D} (hp : isPn (nth (Cr.start N as) 0) = true) (kp : Kp (Cr.start N as) r' (L2.start N vs) σ') (s' : Sta K Z' O' r' σ' H') (st : Step Z O H Z' O' H') (h : nth r' 0 = some (d0, .pn)) :
    ∃ v0 F0, vs[0]? = some v0 ∧ R K H' v0 d0 F0 ∧ (F0.Nodup ∧ cnt d0 = F0.length) ∧ (∀ a ∈ F0, ¬ Z' a ∧ (a ∈ O ∨ H a = none)) ∧ ∀ a ∈ F0, a ∈ O' := by
  obtain ⟨F, G, A⟩ := s'.cells.at (nth_lt h)
  obtain ⟨v, F', e, q, z1, z2⟩ := A.rd d0 .pn h (by decide)
  obtain ⟨rfl, hc⟩ := z2 (by decide)
  have nd := List.nodup_append.mp (A.perm.nodup_iff.mp s'.nd)
  have m : ∀ a ∈ F, a ∈ O' := fun a ha => A.perm.mem_iff.mpr (List.mem_append_left _ ha)
  refine ⟨v, F, ?_, q, ⟨nd.1, hc⟩, fun a ha => ⟨s'.sep a (m a ha), st.onew a (m a ha)⟩, m⟩
  cases hn : nth (Cr.start N as) 0 with
  | none => rw [hn] at hp; cases hp
  | some x =>
    obtain ⟨d, s⟩ := x
    rw [hn] at hp
    have hs : s = .pn := by cases s <;> first | rfl | cases hp
    subst hs
    have e2 := (kp 0 d .pn hn).2.2 (.inl rfl)
    rw [e] at e2
    unfold L2.start at e2
    cases vs with
    | nil =>
      simp only [List.map_nil, List.nil_append, List.length_nil, Nat.sub_zero] at e2
      cases hN : N.length with
      | zero => rw [hN] at e2; cases e2
      | succ n => rw [hN, List.replicate_succ] at e2; cases e2
    | cons u us =>
      simp only [List.map_cons, List.cons_append, List.getElem?_cons_zero, Option.some.injEq] at e2
      rw [← e2]
      rfl
theorem end_rt {pin : Bool} {N : List Str} {as : List (D × Stt)} {vs : List V} {d d1 : D} {o : Bool} {v : V} {Q : VK} (hp : pin = true → isPn (nth (Cr.start N as) 0) = true) (h1 : pin = true → nth r' 0 = some (d1, .pn))
    (k : ∀ v H' Z' O' P', CallEnd K pin vs Z O H d o d1 v Z' O' H' P' → Q v H') (s' : Sta K Z' O' r' σ' H') (st : Step Z O H Z' O' H') (kp : Kp (Cr.start N as) r' (L2.start N vs) σ') (f : Fly K Z' O' H' σ' [.val d o] [v] PP) (m : ∀ a ∈ PP, a ∈ O ∨ H a = none) : Q v H' := by
  have pe : ∀ P' : List Addr, (o = true → ∀ a ∈ P', a ∉ O') → pin = true → ∃ v0 F0, vs[0]? = some v0 ∧ R K H' v0 d1 F0 ∧ (F0.Nodup ∧ cnt d1 = F0.length) ∧ (∀ a ∈ F0, ¬ Z' a ∧ (a ∈ O ∨ H a = none)) ∧ (o = true → ∀ a ∈ P', a ∉ F0) := fun P' ho hpin => by
    obtain ⟨v0, F0, e1, e2, e3, e4, e5⟩ := pin_end (hp hpin) kp s' st (h1 hpin)
    exact ⟨v0, F0, e1, e2, e3, e4, fun h a ha hf => ho h a ha (e5 a hf)⟩
  cases o with
  | true =>
    have nd := f.nd
    have out := f.out
    have sep := f.sep
    have ops := f.ops
    cases ops with
    | own q n o' =>
      cases o'
      rw [List.append_nil] at nd out sep m
      exact k v H' Z' O' _ ⟨st, s'.zm, q, fun _ => ⟨⟨nd, n⟩, fun a ha => ⟨sep a ha, m a ha⟩⟩, (fun h => by cases h), pe _ fun _ a ha => out a ha⟩
  | false =>
    have ops := f.ops
    cases ops with
    | fz q z o' => exact k v H' Z' O' _ ⟨st, s'.zm, q, (fun h => by cases h), fun _ => z, pe _ fun h => by cases h⟩
theorem runF_len {f : FE} {as : List (D × Stt)} {x : D × Bool × D} (h : runF call fuel f as = some x) : as.length = f.par := by
  unfold runF at h
  split at h
  · rename_i hc
    rw [Bool.and_eq_true, decide_eq_true_eq] at hc
    exact hc.1
  · cases h
/-- the body's reading -/
theorem body_ok {lvl : Nat} {fe : FE} {t : TS} {as : List (D × Stt)} {vs : List V} {d d1 : D} {o : Bool} {Q : VK} (hg : GoodS K t (exs call fuel fe.body)) (s : Sta K Z O (as.map some) (vs.map some) H) (hF : runF call fuel fe as = some (d, o, d1))
    (k : ∀ v H' Z' O' P', CallEnd K fe.pin vs Z O H d o d1 v Z' O' H' P' → Q v H') : t { nx := fun _ H' => Q .non H', rt := Q } (L2.start fe.N vs) H := by
  unfold runF at hF
  split at hF
  · rename_i hc
    rw [Bool.and_eq_true, decide_eq_true_eq, Bool.or_eq_true, Bool.not_eq_true'] at hc
    have hp : fe.pin = true → isPn (nth (Cr.start fe.N as) 0) = true := fun h => hc.2.resolve_left fun q => by rw [h] at q; cases q
    split at hF
    · rename_i r' d' o' he
      have h1 : d' = d ∧ o' = o ∧ (fe.pin = true → nth r' 0 = some (d1, .pn)) := by
        split at hF
        · split at hF
          · rename_i d0 hn
            cases hF
            exact ⟨rfl, rfl, fun _ => hn⟩
          · cases hF
        · rename_i hq
          cases hF
          exact ⟨rfl, rfl, fun h => absurd h hq⟩
      obtain ⟨rfl, rfl, h1⟩ := h1
      exact hg _ _ H Z O _ (sta_start s) r' _ he fun Z' O' H' σ' v P' s' st kp f m => end_rt hp h1 k s' st kp f m
    · rename_i r' he
      have h1 : d = .none ∧ o = true ∧ (fe.pin = true → nth r' 0 = some (d1, .pn)) := by
        split at hF
        · split at hF
          · rename_i d0 hn
            cases hF
            exact ⟨rfl, rfl, fun _ => hn⟩
          · cases hF
        · rename_i hq
          cases hF
          exact ⟨rfl, rfl, fun h => absurd h hq⟩
      obtain ⟨rfl, rfl, h1⟩ := h1
      refine hg _ _ H Z O _ (sta_start s) r' _ he fun Z' O' H' σ' s' st kp => ?_
      exact end_rt (PP := []) hp h1 k s' st kp ⟨by simpa using Ops.own (σ := σ') (Z := Z') (R.non (K := K) (H := H')) rfl .nil, List.nodup_nil, nil_all, nil_all⟩ nil_all
    · cases hF
  · cases hF
/-- the whole table -/
theorem table (hb : ∀ x : Str, x ∈ (["len", "abs", "int", "max", "min", "sum", "sorted", "tuple", "list", "all", "any", "repr", "set", "range", "enumerate", "zip", "isinstance", "bool", "str", "dict"] : List Str) → mg x = none)
    (hgl : ∀ x i, gs.lookup x = some i → ∃ t, mg x = some (.int i t)) (hT : ∀ (i : Nat) fe, T[i]? = some fe → FnAt K mg T gs fe) : ∀ n : Nat, Tb P w K mg base T gs n (callF T fuel n)
  | 0 => by
    refine ⟨hb, hgl, fun i fe hi => ?_, fun i fe hi as x h => by cases h⟩
    · skip
      obtain ⟨x, qual, st, f, fd, F, m1, m2, m3, m4, S, hN, hk, hl, hm⟩ := hT i fe hi
      refine ⟨f, fd, m1, m2, m3, m4, ⟨fun vs H Q E h => ?_, fun A outer s H args us vs Q E _ _ _ _ _ h => ?_⟩⟩
      · obtain ⟨as, Z, O, _, _, d, o, d1, e, _⟩ := h
        cases e
      · obtain ⟨as, Z, O, _, _, d, o, d1, e, _⟩ := h
        cases e
  | n + 1 => by
    have tb := table hb hgl hT n
    refine ⟨hb, hgl, fun i fe hi => ?_, fun i fe hi as x h => ?_⟩
    · obtain ⟨x, qual, st, f, fd, F, m1, m2, m3, m4, S, hN, hk, hl, hm⟩ := hT i fe hi
      refine ⟨f, fd, m1, m2, m3, m4, fn_ofG F S (fun vs H Q E h => by rw [hl]; exact spF_len h) fun cdv A outer s H vs Q E hr hg hsp => ?_⟩
      obtain ⟨as, Z, O, s0, hla, d, o, d1, hF, k⟩ := hsp
      rw [callF, hi] at hF
      obtain ⟨t, h1, h2⟩ := (mSs_ok (fuel := fuel) tb hN hk fe.body (defBody st) hm).val
      exact ⟨t, h1 _ ⟨rfl, rfl, rfl, rfl, rfl, rfl, rfl, rfl, hr, hg, rfl⟩ fun x => rfl, body_ok (lvl := n) h2 s0 hF k⟩
    · rw [callF, hi] at h
      exact runF_len h
end
end Cr
/-! # Law2: from what the evaluator says of the law's body to the row, over the head's facts by name. -/
namespace Cr
open PySem PySem.Spec PyProof.Rows L2
theorem fun_of_D {K : PySem.W.Frag} {x qual : Str} {st : Stmt} {f : Addr} {fd : FuncData} (F : FunD K x qual (defArgs st) (defBody st) (defScope st) [] [] f fd) : Fun K x qual st f fd := by
  obtain ⟨oc, od, dV, kV, doc, pm, an, cdv, ct, osl, e, lk, hcd, hD, _⟩ := F.ex
  rcases hD with ⟨_, rfl⟩ | ⟨h, _⟩
  · exact ⟨⟨oc, od, kV, doc, pm, an, cdv, ct, osl, e, lk, hcd⟩, F.kp⟩
  · exact absurd rfl h
theorem Binds_of {K : PySem.W.Frag} {x qual : Str} {st : Stmt} {f : Addr} {fd : FuncData} {ps : List Str} (F : Fun K x qual st f fd)
    (h : ∀ (kV doc pm : Value) (an : Option Addr) (cdv ct : Value) (us : List Value), us.length = ps.length → bindArgs (PySem.W.fnOf x qual (defArgs st) (defBody st) (defScope st) .none kV doc pm an cdv ct) ⟨us, []⟩ = pure (ps.zip us)) : Binds K fd ps [] := F.binds h
theorem KRev_of {K : PySem.W.Frag} {x qual : Str} {st : Stmt} {f : Addr} {fd : FuncData} {ps : List Str} (F : Fun K x qual st f fd)
    (h : ∀ (kV doc pm : Value) (an : Option Addr) (cdv ct : Value) (us : List Value), us.length = ps.length → bindArgs (PySem.W.fnOf x qual (defArgs st) (defBody st) (defScope st) .none kV doc pm an cdv ct) ⟨[], ps.reverse.zip us⟩ = pure (ps.zip us.reverse)) : KRev K fd ps := by
  obtain ⟨oc, od, kV, doc, pm, an, cdv, ct, osl, rfl, lk, hcd⟩ := F.ex
  intro s us X hl
  exact .of_eq (h kV doc pm an cdv ct us hl)
/-- what is looked at of one def, in one check -/
def defB (T : List FE) (gs : List (Str × Int)) (fe : FE) (st : Stmt) : Bool :=
  let sc := defScope st
  let ps := fe.N.take fe.par
  (match sc.kind with | .function => true | _ => false) && !sc.isCoroutine && !sc.isGenerator && decide fe.N.Nodup && decide (fe.N.take ps.length = ps) &&
  (ps.all fun x => match sc.names.lookup x with | some .local => true | some .cell => true | _ => false) && (sc.names.all fun y => match y.2 with | .free => false | _ => true) && decide (ps.length = fe.par) && mSs T gs fe.N sc fe.body (defBody st)
theorem fnAt_of {K : PySem.W.Frag} {mg : Str → Option Value} {T : List FE} {gs : List (Str × Int)} {fe : FE} {st : Stmt} {f : Addr} {fd : FuncData} (F : FunD K fe.name fe.name (defArgs st) (defBody st) (defScope st) [] [] f fd) (hm : mg fe.name = some (.ref f))
    (hb : ∀ (kV doc pm : Value) (an : Option Addr) (cdv ct : Value) (us : List Value), us.length = (fe.N.take fe.par).length → bindArgs (PySem.W.fnOf fe.name fe.name (defArgs st) (defBody st) (defScope st) .none kV doc pm an cdv ct) ⟨us, []⟩ = pure ((fe.N.take fe.par).zip us))
    (hk : ∀ (kV doc pm : Value) (an : Option Addr) (cdv ct : Value) (us : List Value), us.length = (fe.N.take fe.par).length → bindArgs (PySem.W.fnOf fe.name fe.name (defArgs st) (defBody st) (defScope st) .none kV doc pm an cdv ct) ⟨[], (fe.N.take fe.par).reverse.zip us⟩ = pure ((fe.N.take fe.par).zip us.reverse))
    (hc : defB T gs fe st = true) : FnAt K mg T gs fe := by
  unfold defB at hc
  simp only [Bool.and_eq_true, Bool.not_eq_true', decide_eq_true_eq, List.all_eq_true] at hc
  obtain ⟨⟨⟨⟨⟨⟨⟨⟨h1, h2⟩, h3⟩, h4⟩, h5⟩, h6⟩, h7⟩, h8⟩, h9⟩ := hc
  have F' := fun_of_D F
  have k1 : (defScope st).kind = .function := by
    split at h1
    · assumption
    · cases h1
  refine ⟨_, _, st, f, fd, F', hm, F'.kp, Binds_of F' hb, KRev_of F' hk, ⟨k1, h2, h3, h4, h5, fun x hx => ?_, fun y hy => ?_⟩, h4, k1, h8, h9⟩
  · have := h6 x hx
    split at this
    · exact .inl (by assumption)
    · exact .inr (by assumption)
    · cases this
  · have := h7 y hy
    intro q
    rw [q] at this
    cases this
theorem spF_law {K : PySem.W.Frag} {F : List (D × Stt) → Option (D × Bool × D)} {H : Hp} {a : Addr} {ns : List Int} (hS : SqK K H a (ns.map V.int)) {o : Bool} {d1 : D} (hF : F [(.list (ns.map .int), .fz)] = some (.bool true, o, d1)) : spF K 1 false F [.ref a] H (fun v _ => v = .bl true) E0 := by
  have hr : Rs K H (ns.map V.int) (ns.map PyData.int) [] := by
    clear hS hF
    induction ns with
    | nil => exact .nil
    | cons n ns ih => exact .cons (F := []) (.int n) ih
  refine ⟨[(.list (ns.map .int), .fz)], fun _ => False, [], ⟨.fz (.lstK hS hr) nil_all .nil, List.nodup_nil, nil_all, fun a h => h.elim⟩, rfl, _, _, _, hF, fun v H' Z' O' P c => ?_⟩
  have := c.res
  cases this
  rfl
theorem walk_ofEG {l : PySem.W.OpenLaw} {n k : Nat} {q : Program} {loose : List Str} {XP : (Str → Option Value) → Heap → Prop} {YP : World → Heap → Prop} {d : DefRec} {x : Str}
    (hn : l.most = some n) (hn2 : n ≤ sizeLine) (hdf : d.params.defaults = []) (hr : Room k callerA)
    (F : ∀ (w : World) (mg : Str → Option Value) (fa : Addr) (h : Heap), YP w h → h.Ns mainGlobals mg → mg d.name = some (.ref fa) →
      ∃ (K : PySem.W.Frag) (fd : FuncData) (sp : Sp), K.In h ∧ (∀ (s : Shared) (u : Value), K.In s.heap → BindsTo s fd ⟨[u], []⟩ [(x, u)]) ∧
        (∀ (H : Hp) (a : Addr) (ns : List Int), ns.length ≤ n → L2.Only H → SqK K H a (ns.map V.int) → sp [.ref a] H (fun v _ => v = .bl true) E0) ∧
        ∀ base : Heap, K.In base → base.Ns mainGlobals mg → FnG l.prog w K mg base k fa fd [x] sp) :
    PySem.W.WalkO q loose XP YP l.row.toRowW d [] (fun f vs => PySem.call f vs) := by
  refine Att.attach_call hn hdf fun w s₀ s₁ mg mb fa o pm cd doc a vs ns G Y ho hd hcd hmg hobj hints hlen hg => ?_
  obtain ⟨K, fd, sp, KX, hb, hsp, hF⟩ := F w mg fa _ Y G.T.g hmg
  exact law_callG KX G.T.g G.T.b G.T.builtins G.T.nolimit hg hobj hints (Nat.le_trans hlen hn2) hr hF hb (fun H hO hS => hsp H a ns hlen hO hS)
/-- the law's def by the table -/
theorem law_of {P : Program} {w : World} {K : PySem.W.Frag} {mg : Str → Option Value} {T : List FE} {gs : List (Str × Int)} {fuel lvl i : Nat} {fe : FE} {x : Str} {fa : Addr}
    (hb : ∀ x : Str, x ∈ (["len", "abs", "int", "max", "min", "sum", "sorted", "tuple", "list", "all", "any", "repr", "set", "range", "enumerate", "zip", "isinstance", "bool", "str", "dict"] : List Str) → mg x = none)
    (hgl : ∀ x i, gs.lookup x = some i → ∃ t, mg x = some (.int i t)) (hT : ∀ (i : Nat) fe, T[i]? = some fe → FnAt K mg T gs fe)
    (hi : T[i]? = some fe) (hx : fe.N.take fe.par = [x]) (hp : fe.par = 1) (hpin : fe.pin = false) (hm : mg fe.name = some (.ref fa))
    (hlaw : ∀ ns : List Int, ns.length ≤ 63 → ∃ o d1, callF T fuel (lvl + 1) i [(.list (ns.map .int), .fz)] = some (.bool true, o, d1)) :
    ∃ (fd : FuncData) (sp : Sp), (∀ (s : Shared) (u : Value), K.In s.heap → BindsTo s fd ⟨[u], []⟩ [(x, u)]) ∧
        (∀ (H : Hp) (a : Addr) (ns : List Int), ns.length ≤ 63 → L2.Only H → SqK K H a (ns.map V.int) → sp [.ref a] H (fun v _ => v = .bl true) E0) ∧
        ∀ base : Heap, K.In base → base.Ns mainGlobals mg → FnG P w K mg base (lvl + 1) fa fd [x] sp := by
  obtain ⟨y, qual, st, f, fd, F, m1, m2, m3, m4, S, hN, hk, hl, hc⟩ := hT i fe hi
  have e : fa = f := by
    have := hm.symm.trans m1
    cases this
    rfl
  subst e
  refine ⟨fd, spF K 1 false (callF T fuel (lvl + 1) i), fun s u KX => ?_, fun H a ns hl hO hS => ?_, fun base _ _ => ?_⟩
  · have := m3 s [u] KX (by rw [hx]; rfl)
    rw [hx] at this
    simpa using this
  · obtain ⟨o, d1, e⟩ := hlaw ns hl
    exact spF_law hS e
  · have tb := table (P := P) (w := w) (base := base) (fuel := fuel) hb hgl hT lvl
    have k := fn_ofG (P := P) (w := w) (mg := mg) (base := base) (k := lvl) (sp := spF K fe.par fe.pin (callF T fuel (lvl + 1) i)) F S (fun vs H Q E h => by rw [hl]; exact spF_len h) fun cdv A outer s H vs Q E hr hg hsp => by
      obtain ⟨as, Z, O, s0, hla, d, o, d1, hF, k⟩ := hsp
      rw [callF, hi] at hF
      obtain ⟨t, h1, h2⟩ := (mSs_ok (fuel := fuel) tb hN hk fe.body (defBody st) hc).val
      exact ⟨t, h1 _ ⟨rfl, rfl, rfl, rfl, rfl, rfl, rfl, rfl, hr, hg, rfl⟩ fun x => rfl, body_ok (lvl := lvl) h2 s0 hF k⟩
    rw [hx, hp, hpin] at k
    exact k
end Cr
/-! # Eval: running the evaluator on a written body, with open data. -/
namespace Cw
open PySem Cr
/-- it gives something of which Q holds -/
def T {α : Type} (o : Option α) (Q : α → Prop) : Prop := ∃ a, o = some a ∧ Q a
section
variable {α β : Type} {Q : α → Prop} {R : β → Prop}
@[simp] theorem T_some {a : α} : T (some a) Q ↔ Q a := ⟨fun ⟨_, e, q⟩ => by cases e; exact q, fun q => ⟨a, rfl, q⟩⟩
@[simp] theorem T_none : T (none : Option α) Q ↔ False := ⟨fun ⟨_, e, _⟩ => (nomatch e), fun h => False.elim h⟩
@[simp ↓] theorem T_bind {o : Option α} {f : α → Option β} : T (o.bind f) R ↔ T o fun a => T (f a) R := by
  constructor
  · rintro ⟨b, e, q⟩
    obtain ⟨a, e1, e2⟩ := Option.bind_eq_some_iff.mp e
    exact ⟨a, e1, b, e2, q⟩
  · rintro ⟨a, rfl, b, e, q⟩
    exact ⟨b, by simpa using e, q⟩
@[simp ↓] theorem T_map {o : Option α} {f : α → β} : T (o.map f) R ↔ T o fun a => R (f a) := by
  constructor
  · rintro ⟨b, e, q⟩
    obtain ⟨a, e1, e2⟩ := Option.map_eq_some_iff.mp e
    exact ⟨a, e1, by dsimp only; rw [e2]; exact q⟩
  · rintro ⟨a, rfl, q⟩
    exact ⟨f a, rfl, q⟩
theorem T.mono {o : Option α} {Q' : α → Prop} (h : T o Q) (k : ∀ a, Q a → Q' a) : T o Q' := by
  obtain ⟨a, e, q⟩ := h
  exact ⟨a, e, k a q⟩
theorem T.eq {o : Option α} {a : α} (e : o = some a) (q : Q a) : T o Q := ⟨a, e, q⟩
theorem T_eq {o : Option α} {a : α} : T o (· = a) ↔ o = some a := ⟨fun ⟨b, e, q⟩ => by rw [e, q], fun e => ⟨a, e, rfl⟩⟩
end

/-! ### cells -/
@[simp] theorem nth_zero (c : Cell) (r : Rho) : nth (c :: r) 0 = c := rfl
@[simp] theorem nth_succ (c : Cell) (r : Rho) (n : Nat) : nth (c :: r) (n + 1) = nth r n := rfl
@[simp] theorem put_zero (c x : Cell) (r : Rho) : put (x :: r) 0 c = c :: r := rfl
@[simp] theorem put_succ (c x : Cell) (r : Rho) (n : Nat) : put (x :: r) (n + 1) c = x :: put r n c := rfl
end Cw
namespace Cw
open PySem Cr
section
variable {call : CallT} {fuel : Nat} {α β : Type} {Q : α → Prop}
@[simp] theorem T_ite {c : Prop} [Decidable c] {a b : Option α} : T (if c then a else b) Q ↔ (if c then T a Q else T b Q) := by split <;> rfl
/-- the end of a body -/
def bodyK (pin : Bool) (Q : D × Bool × D → Prop) : Rho × Fl → Prop
  | (r, .rt d o) => if pin then match nth r 0 with
      | some (d0, .pn) => Q (d, o, d0)
      | _ => False
    else Q (d, o, .none)
  | (r, .nx) => if pin then match nth r 0 with
      | some (d0, .pn) => Q (.none, true, d0)
      | _ => False
    else Q (.none, true, .none)
  | _ => False
theorem T_runF {f : FE} {as : List (D × Stt)} {Q : D × Bool × D → Prop} (hl : as.length = f.par) (hp : f.pin = true → isPn (nth (start f.N as) 0) = true) (h : T (exs call fuel f.body (start f.N as)) (bodyK f.pin Q)) : T (runF call fuel f as) Q := by
  obtain ⟨⟨r, fl⟩, e, q⟩ := h
  have hc : (decide (as.length = f.par) && (!f.pin || isPn (nth (start f.N as) 0))) = true := by
    cases hq : f.pin with
    | false => simp [hl]
    | true => simp [hl, hp hq]
  unfold runF
  rw [if_pos hc, e]
  cases fl with
  | nx =>
    cases hq : f.pin with
    | false =>
      rw [hq] at q
      exact ⟨_, rfl, q⟩
    | true =>
      rw [hq] at q
      simp only [bodyK, if_true] at q ⊢
      split at q
      · next d0 hn => exact ⟨_, by simp [hn], q⟩
      · exact q.elim
  | bk => exact (q : False).elim
  | ct => exact (q : False).elim
  | rt d o =>
    cases hq : f.pin with
    | false =>
      rw [hq] at q
      exact ⟨_, rfl, q⟩
    | true =>
      rw [hq] at q
      simp only [bodyK, if_true] at q ⊢
      split at q
      · next d0 hn => exact ⟨_, by simp [hn], q⟩
      · exact q.elim
@[simp] theorem bodyK_rt {Q : D × Bool × D → Prop} {r : Rho} {d : D} {o : Bool} : bodyK false Q (r, .rt d o) ↔ Q (d, o, .none) := by simp [bodyK]
@[simp] theorem bodyK_nx {Q : D × Bool × D → Prop} {r : Rho} : bodyK false Q (r, .nx) ↔ Q (.none, true, .none) := by simp [bodyK]
@[simp] theorem bodyK_prt {Q : D × Bool × D → Prop} {r : Rho} {d d0 : D} {o : Bool} : bodyK true Q (some (d0, .pn) :: r, .rt d o) ↔ Q (d, o, d0) := by simp [bodyK, nth]
@[simp] theorem bodyK_pnx {Q : D × Bool × D → Prop} {r : Rho} {d0 : D} : bodyK true Q (some (d0, .pn) :: r, .nx) ↔ Q (.none, true, d0) := by simp [bodyK, nth]
/-- behind a statement -/
def seqK (ss : Rho → Option (Rho × Fl)) (Q : Rho × Fl → Prop) : Rho × Fl → Prop
  | (r, .nx) => T (ss r) Q
  | p => Q p
@[simp] theorem seqK_nx {ss : Rho → Option (Rho × Fl)} {Q : Rho × Fl → Prop} {r : Rho} : seqK ss Q (r, .nx) ↔ T (ss r) Q := Iff.rfl
@[simp] theorem seqK_rt {ss : Rho → Option (Rho × Fl)} {Q : Rho × Fl → Prop} {r : Rho} {d : D} {o : Bool} : seqK ss Q (r, .rt d o) ↔ Q (r, .rt d o) := Iff.rfl
@[simp] theorem seqK_bk {ss : Rho → Option (Rho × Fl)} {Q : Rho × Fl → Prop} {r : Rho} : seqK ss Q (r, .bk) ↔ Q (r, .bk) := Iff.rfl
@[simp] theorem seqK_ct {ss : Rho → Option (Rho × Fl)} {Q : Rho × Fl → Prop} {r : Rho} : seqK ss Q (r, .ct) ↔ Q (r, .ct) := Iff.rfl
@[simp] theorem T_nil {r : Rho} {Q : Rho × Fl → Prop} : T (exs call fuel .nil r) Q ↔ Q (r, .nx) := by simp [exs]
@[simp] theorem T_cons {s : CS} {ss : CSs} {r : Rho} {Q : Rho × Fl → Prop} : T (exs call fuel (.cons s ss) r) Q ↔ T (ex call fuel s r) (seqK (fun r => exs call fuel ss r) Q) := by
  rw [exs, T_bind]
  constructor
  · rintro ⟨⟨r1, f⟩, e, q⟩
    refine ⟨_, e, ?_⟩
    cases f <;> simpa using q
  · rintro ⟨⟨r1, f⟩, e, q⟩
    refine ⟨_, e, ?_⟩
    cases f <;> simpa using q
theorem T_ifs {c : CE} {a b : CSs} {r : Rho} {Q : Rho × Fl → Prop} : T (ex call fuel (.ife c a b) r) Q ↔ T (test call c r) fun p => T (if p.1 then exs call fuel a p.2 else exs call fuel b p.2) Q := by rw [ex, T_bind]
/-- a truth value is asked -/
def askK (Q : Bool × Rho → Prop) : Opd × Rho → Prop
  | (x, r) => match dat r x with
    | some (.bool b) => Q (b, r)
    | _ => False
@[simp] theorem askK_val {Q : Bool × Rho → Prop} {b o : Bool} {r : Rho} : askK Q (.val (.bool b) o, r) ↔ Q (b, r) := Iff.rfl
theorem T_ask {o : Option (Opd × Rho)} {F : Bool → Rho → Option α} : T (o.bind fun (x, r1) => match dat r1 x with
    | some (.bool b) => F b r1
    | _ => none) Q ↔ T o (askK fun p => T (F p.1 p.2) Q) := by
  rw [T_bind]
  constructor
  · rintro ⟨⟨x, r1⟩, e, q⟩
    refine ⟨_, e, ?_⟩
    simp only at q
    show match dat r1 x with
      | some (.bool b) => T (F b r1) Q
      | _ => False
    generalize dat r1 x = z at *
    match z, q with
    | some (.bool b), q => exact q
    | some .none, q => simp at q
    | some (.int _), q => simp at q
    | some (.str _), q => simp at q
    | some (.list _), q => simp at q
    | some (.tuple _), q => simp at q
    | some (.dict _), q => simp at q
    | none, q => simp at q
  · rintro ⟨⟨x, r1⟩, e, q⟩
    refine ⟨_, e, ?_⟩
    replace q : match dat r1 x with
      | some (.bool b) => T (F b r1) Q
      | _ => False := q
    simp only
    generalize dat r1 x = z at *
    match z, q with
    | some (.bool b), q => exact q
    | some .none, q => exact q.elim
    | some (.int _), q => exact q.elim
    | some (.str _), q => exact q.elim
    | some (.list _), q => exact q.elim
    | some (.tuple _), q => exact q.elim
    | some (.dict _), q => exact q.elim
    | none, q => exact q.elim
@[simp] theorem T_test {c : CE} {r : Rho} {Q : Bool × Rho → Prop} : T (test call c r) Q ↔ T (ev call c r) (askK Q) := by
  unfold test
  exact (T_ask (Q := Q) (o := ev call c r) (F := fun b r1 => some (b, r1))).trans (by simp only [T_some])
@[simp] theorem T_an {a b : CE} {r : Rho} {Q : Opd × Rho → Prop} : T (ev call (.an a b) r) Q ↔ T (ev call a r) (askK fun p => if p.1 then T (ev call b p.2) Q else Q (.val (.bool false) true, p.2)) := by
  rw [ev]
  exact (T_ask (Q := Q) (o := ev call a r) (F := fun c r1 => if c then ev call b r1 else some (.val (.bool false) true, r1))).trans (by simp only [T_ite, T_some])
@[simp] theorem T_orr {a b : CE} {r : Rho} {Q : Opd × Rho → Prop} : T (ev call (.orr a b) r) Q ↔ T (ev call a r) (askK fun p => if p.1 then Q (.val (.bool true) true, p.2) else T (ev call b p.2) Q) := by
  rw [ev]
  exact (T_ask (Q := Q) (o := ev call a r) (F := fun c r1 => if c then some (Opd.val (.bool true) true, r1) else ev call b r1)).trans (by simp only [T_ite, T_some])
@[simp] theorem T_nt {a : CE} {r : Rho} {Q : Opd × Rho → Prop} : T (ev call (.nt a) r) Q ↔ T (ev call a r) (askK fun p => Q (.val (.bool (!p.1)) true, p.2)) := by
  rw [ev]
  exact (T_ask (Q := Q) (o := ev call a r) (F := fun b r1 => some (Opd.val (.bool (!b)) true, r1))).trans (by simp only [T_some])
@[simp] theorem T_ife {c a b : CE} {r : Rho} {Q : Opd × Rho → Prop} : T (ev call (.ife c a b) r) Q ↔ T (ev call c r) (askK fun p => if p.1 then T (ev call a p.2) Q else T (ev call b p.2) Q) := by
  rw [ev]
  exact (T_ask (Q := Q) (o := ev call c r) (F := fun k r1 => if k then ev call a r1 else ev call b r1)).trans (by simp only [T_ite])
end
/-! ### data -/
section
variable (a b : Int) (x y : Str)
@[simp] theorem cmp_lt : cmpD .Lt (.int a) (.int b) = some (decide (a < b)) := by show some (W.dataLt (.int a) (.int b)) = _; rw [W.dataLt_int]
@[simp] theorem cmp_gt : cmpD .Gt (.int a) (.int b) = some (decide (b < a)) := by show some (W.dataLt (.int b) (.int a)) = _; rw [W.dataLt_int]
@[simp] theorem cmp_le : cmpD .LtE (.int a) (.int b) = some (decide (a ≤ b)) := by
  show some (!W.dataLt (.int b) (.int a)) = _
  rw [W.dataLt_int]
  by_cases h : a ≤ b
  · rw [decide_eq_true h, decide_eq_false (by omega)]; rfl
  · rw [decide_eq_false h, decide_eq_true (by omega)]; rfl
@[simp] theorem cmp_ge : cmpD .GtE (.int a) (.int b) = some (decide (b ≤ a)) := by
  show some (!W.dataLt (.int a) (.int b)) = _
  rw [W.dataLt_int]
  by_cases h : b ≤ a
  · rw [decide_eq_true h, decide_eq_false (by omega)]; rfl
  · rw [decide_eq_false h, decide_eq_true (by omega)]; rfl
@[simp] theorem cmp_eq : cmpD .Eq (.int a) (.int b) = some (decide (a = b)) := by
  show some (a == b) = _
  congr 1
@[simp] theorem cmp_ne : cmpD .NotEq (.int a) (.int b) = some (decide (a ≠ b)) := by
  show some (!(a == b)) = _
  by_cases h : a = b
  · simp [h]
  · simp [h]
@[simp] theorem cmp_seq : cmpD .Eq (.str x) (.str y) = some (x == y) := rfl
@[simp] theorem cmp_sne : cmpD .NotEq (.str x) (.str y) = some (!(x == y)) := rfl
end
end Cw
/-! # Run: the evaluator step by step, from the head. -/
namespace Cw
open PySem Cr
section
variable {call : CallT} {fuel : Nat} {α β : Type}
theorem T_guard {c : Bool} {a : Option α} {Q : α → Prop} : T (if c then a else none) Q ↔ c = true ∧ T a Q := by cases c <;> simp
theorem T_match_list {o : Option D} {Q : α → Prop} {F : List D → Option α} : T (match o with
    | some (.list ds) => F ds
    | _ => none) Q ↔ T o fun d => match d with
    | .list ds => T (F ds) Q
    | _ => False := by
  match o with
  | none => simp
  | some .none => simp
  | some (.bool _) => simp
  | some (.int _) => simp
  | some (.str _) => simp
  | some (.list _) => simp
  | some (.tuple _) => simp
  | some (.dict _) => simp
variable {r : Rho} {Q : Opd × Rho → Prop} {QL : List Opd × Rho → Prop} {QI : List D × Rho × (Rho → Rho) → Prop} {QS : Rho × Fl → Prop}
@[simp] theorem R_var {i : Nat} : T (ev call (.var i) r) Q ↔ T (got r i) fun _ => Q (.nm i, r) := by rw [ev, T_map]
@[simp] theorem R_con {d : D} : T (ev call (.con d) r) Q ↔ Q (.val d true, r) := by rw [ev, T_some]
@[simp] theorem R_glb {x : Str} {d : D} : T (ev call (.glb x d) r) Q ↔ Q (.val d true, r) := by rw [ev, T_some]
@[simp] theorem R_op2 {o : Operator} {a b : CE} : T (ev call (.op2 o a b) r) Q ↔ T (ev call a r) fun p => T (ev call b p.2) fun q => T (dat q.2 p.1) fun da => T (dat q.2 q.1) fun db => T (opD o da db) fun e => T (fin true e.2 e.1 [p.1, q.1] q.2) Q := by
  rw [ev]
  simp only [T_bind]
@[simp] theorem R_cmp {o : CmpOp} {a b : CE} : T (ev call (.cmp o a b) r) Q ↔ T (ev call a r) fun p => T (ev call b p.2) fun q => T (dat q.2 p.1) fun da => T (dat q.2 q.1) fun db => T (cmpD o da db) fun c => Q (.val (.bool c) true, q.2) := by
  rw [ev]
  simp only [T_bind, T_map]
@[simp] theorem R_cmp3 {o1 o2 : CmpOp} {a b c : CE} : T (ev call (.cmp3 o1 o2 a b c) r) Q ↔ T (ev call a r) fun p => T (ev call b p.2) fun q => T (dat q.2 p.1) fun da => T (dat q.2 q.1) fun db => T (cmpD o1 da db) fun k =>
    if k then T (ev call c q.2) fun z => T (dat z.2 q.1) fun db => T (dat z.2 z.1) fun dc => T (cmpD o2 db dc) fun k2 => Q (.val (.bool k2) true, z.2) else Q (.val (.bool false) true, q.2) := by
  rw [ev]
  simp only [T_bind, T_map, T_ite, T_some]
@[simp] theorem R_tup {es : CEs} : T (ev call (.tup es) r) Q ↔ T (evs call es r) fun p => T (dats p.2 p.1) fun ds => small ds.length = true ∧ (if allOwn p.2 p.1 then Q (.val (.tuple ds) true, p.2) else T (frzs p.2 p.1) fun r' => Q (.val (.tuple ds) false, r')) := by
  rw [ev]
  simp only [T_bind, T_map, T_guard]
  simp only [T_ite, T_some, T_map]
@[simp] theorem R_lst {es : CEs} : T (ev call (.lst es) r) Q ↔ T (evs call es r) fun p => T (dats p.2 p.1) fun ds => small ds.length = true ∧ (if allOwn p.2 p.1 then Q (.val (.list ds) true, p.2) else T (frzs p.2 p.1) fun r' => Q (.val (.list ds) false, r')) := by
  rw [ev]
  simp only [T_bind, T_map, T_guard]
  simp only [T_ite, T_some, T_map]
@[simp] theorem R_dic {ks vs : CEs} : T (ev call (.dic ks vs) r) Q ↔ T (evs call ks r) fun p => T (evs call vs p.2) fun q => T (dats q.2 p.1) fun dk => T (dats q.2 q.1) fun dv => (decide (dk.length ≤ 1) && decide (dk.length = dv.length) && dk.all isKey && imms dv) = true ∧ Q (.val (.dict (dputs [] (dk.zip dv))) true, q.2) := by
  rw [ev]
  simp only [T_bind, T_map, T_guard, T_some]
@[simp] theorem R_idx {a b : CE} : T (ev call (.idx a b) r) Q ↔ T (ev call a r) fun p => T (ev call b p.2) fun q => T (dat q.2 p.1) fun da => T (dat q.2 q.1) fun db => T (idxD da db) fun d => T (fin false [] d [p.1, q.1] q.2) Q := by
  rw [ev]
  simp only [T_bind]
@[simp] theorem R_slc {a : CE} {lo hi : CEo} : T (ev call (.slc a lo hi) r) Q ↔ T (ev call a r) fun p => T (evo call lo p.2) fun l => T (evo call hi l.2) fun h => T (dat h.2 p.1) fun da => T (slcD da l.1 h.1) fun e => T (fin true e.2 e.1 [p.1] h.2) Q := by
  rw [ev]
  simp only [T_bind]
theorem T_intm {o : Option (Opd × Rho)} {F : Int → Rho → Option β} {Q : β → Prop} : T (o.bind fun p => match dat p.2 p.1 with
    | some (.int i) => F i p.2
    | _ => none) Q ↔ T o fun p => T (dat p.2 p.1) fun d => match d with
    | .int i => T (F i p.2) Q
    | _ => False := by
  rw [T_bind]
  have k : ∀ p : Opd × Rho, T (match dat p.2 p.1 with
    | some (.int i) => F i p.2
    | _ => none) Q ↔ T (dat p.2 p.1) fun d => match d with
    | .int i => T (F i p.2) Q
    | _ => False := fun p => by
    generalize dat p.2 p.1 = z
    match z with
    | none => simp
    | some .none => simp
    | some (.bool _) => simp
    | some (.int _) => simp
    | some (.str _) => simp
    | some (.list _) => simp
    | some (.tuple _) => simp
    | some (.dict _) => simp
  constructor
  · exact fun h => h.mono fun p hp => (k p).mp hp
  · exact fun h => h.mono fun p hp => (k p).mpr hp
@[simp] theorem R_neg {a : CE} : T (ev call (.neg a) r) Q ↔ T (ev call a r) fun p => T (dat p.2 p.1) fun d => match d with
    | .int i => Q (.val (.int (-i)) true, p.2)
    | _ => False := by
  rw [ev]
  exact (T_intm (Q := Q) (o := ev call a r) (F := fun i r1 => some (Opd.val (.int (-i)) true, r1))).trans (by simp only [T_some])
@[simp] theorem R_call {f : Nat} {es : CEs} : T (ev call (.call f es) r) Q ↔ T (evs call es r) fun p => T (argsOf p.2 p.1) fun as => T (call f as) fun q => T (endCall q.1 q.2.1 p.1 p.2) Q := by
  rw [ev]
  simp only [T_bind]
@[simp] theorem R_callp {f i : Nat} {es : CEs} : T (ev call (.callp f i es) r) Q ↔ T (ownD r i) fun _ => T (evs call es r) fun p => T (ownD p.2 i) fun c => noName i p.1 = true ∧ T (argsOf p.2 p.1) fun as => T (call f ((c.1, .pn) :: as)) fun q => T (endCall q.1 q.2.1 p.1 (put p.2 i (some (q.2.2, c.2)))) Q := by
  rw [ev]
  simp only [T_bind, T_guard]
@[simp] theorem R_callk {f : Nat} {ix : List Nat} {es : CEs} : T (ev call (.callk f ix es) r) Q ↔ T (evs call es r) fun p => T (permD ix p.1 p.1.length) fun ps => T (argsOf p.2 ps) fun as => T (call f as) fun q => T (endCall q.1 q.2.1 ps p.2) Q := by
  rw [ev]
  simp only [T_bind]
@[simp] theorem R_bi {b : BI} {es : CEs} : T (ev call (.bi b es) r) Q ↔ T (evs call es r) fun p => T (dats p.2 p.1) fun ds => T (biD b ds) fun e => T (fin true e.2 e.1 p.1 p.2) Q := by
  rw [ev]
  simp only [T_bind]
@[simp] theorem R_isi {e : CE} {ts : List Ty} : T (ev call (.isi e ts) r) Q ↔ T (ev call e r) fun p => T (dat p.2 p.1) fun d => Q (.val (.bool (ts.any (tyD d))) true, p.2) := by
  rw [ev]
  simp only [T_bind, T_some]
@[simp] theorem R_get1 {a b : CE} : T (ev call (.get1 a b) r) Q ↔ T (ev call a r) fun p => isDictO (dat p.2 p.1) = true ∧ T (ev call b p.2) fun q => T (dat q.2 p.1) fun da => T (dat q.2 q.1) fun db => T (get1D da db) fun d => T (fin false [] d [p.1, q.1] q.2) Q := by
  rw [ev]
  simp only [T_bind, T_guard]
@[simp] theorem R_get2 {a b c : CE} : T (ev call (.get2 a b c) r) Q ↔ T (ev call a r) fun p => isDictO (dat p.2 p.1) = true ∧ T (ev call b p.2) fun q => T (ev call c q.2) fun z => T (dat z.2 p.1) fun da => T (dat z.2 q.1) fun db => T (dat z.2 z.1) fun dc => T (get2D da db dc) fun d => T (fin false [] d [p.1, q.1, z.1] z.2) Q := by
  rw [ev]
  simp only [T_bind, T_guard]
@[simp] theorem R_index {a b : CE} : T (ev call (.index a b) r) Q ↔ T (ev call a r) fun p => T (ev call b p.2) fun q => T (dat q.2 p.1) fun da => T (dat q.2 q.1) fun db => T (items da) fun ds => (SeqAt.shaped da && SeqAt.shaped db) = true ∧ T ((indexD db ds 0).map fun n => ((.val (.int n) true : Opd), q.2)) Q := by
  rw [ev]
  simp only [T_bind, T_guard]
@[simp] theorem R_comp {elt : CE} {tg : Tg} {it : CIt} {ln : Bool} {cond : CEo} {own : List Nat} : T (ev call (.comp elt tg it ln cond own) r) Q ↔ T (evIt call it ln r) fun p => opens p.2.1 own = true ∧
    T (loopC (fun r => (ev call elt r).bind fun p => keep p.1 p.2) (fun r => evc call cond r) (asg false tg) own p.1 p.2.1 [] true) fun q => small q.1.length = true ∧ Q (.val (.list q.1) q.2.1, p.2.2 (restR p.2.1 (wipeR q.2.2 own) own)) := by
  rw [ev]
  simp only [T_bind, T_guard, T_some]
@[simp] theorem R_nil : T (evs call .nil r) QL ↔ QL ([], r) := by rw [evs, T_some]
@[simp] theorem R_cons {e : CE} {es : CEs} : T (evs call (.cons e es) r) QL ↔ T (ev call e r) fun p => T (evs call es p.2) fun q => QL (p.1 :: q.1, q.2) := by
  rw [evs]
  simp only [T_bind, T_map]
variable {QO : Option Int × Rho → Prop} {QB : Bool × Rho → Prop}
@[simp] theorem R_no : T (evo call .no r) QO ↔ QO (none, r) := by rw [evo, T_some]
@[simp] theorem R_yes {e : CE} : T (evo call (.yes e) r) QO ↔ T (ev call e r) fun p => T (dat p.2 p.1) fun d => match d with
    | .int i => QO (some i, p.2)
    | _ => False := by
  rw [evo]
  exact (T_intm (Q := QO) (o := ev call e r) (F := fun i r1 => some (some i, r1))).trans (by simp only [T_some])
@[simp] theorem R_cno : T (evc call .no r) QB ↔ QB (true, r) := by rw [evc, T_some]
@[simp] theorem R_cyes {e : CE} : T (evc call (.yes e) r) QB ↔ T (ev call e r) (askK QB) := by
  rw [evc]
  exact (T_ask (Q := QB) (o := ev call e r) (F := fun b r1 => some (b, r1))).trans (by simp only [T_some])
@[simp] theorem R_ofE {e : CE} {ln : Bool} : T (evIt call (.ofE e) ln r) QI ↔ T (ev call e r) fun p => T (takeOpd ln p.1 p.2) fun q => QI (q.1, q.2, backOpd ln p.1 p.2) := by
  rw [evIt]
  simp only [T_bind, T_map]
@[simp] theorem R_rng1 {e : CE} {ln : Bool} : T (evIt call (.rng1 e) ln r) QI ↔ T (ev call e r) fun p => T (dat p.2 p.1) fun d => match d with
    | .int n => (decide (n ≤ 100000) && decide (-100000 ≤ n)) = true ∧ QI (intRange n.toNat 0, p.2, id)
    | _ => False := by
  rw [evIt]
  refine (T_intm (Q := QI) (o := ev call e r) (F := fun n r1 => if decide (n ≤ 100000) && decide (-100000 ≤ n) then some (intRange n.toNat 0, r1, id) else none)).trans ?_
  simp only [T_guard, T_some]
@[simp] theorem R_enum {e : CE} {ln : Bool} : T (evIt call (.enum e) ln r) QI ↔ T (ev call e r) fun p => T (takeOpd ln p.1 p.2) fun q => QI (enumD 0 q.1, q.2, backOpd ln p.1 p.2) := by
  rw [evIt]
  simp only [T_bind, T_map]
@[simp] theorem R_zip {a b : CE} {ln : Bool} : T (evIt call (.zip a b) ln r) QI ↔ T (ev call a r) fun p => T (ev call b p.2) fun q => T (takeOpd ln p.1 q.2) fun t => sameK (dat q.2 p.1) (dat t.2 q.1) = true ∧ T (takeOpd ln q.1 t.2) fun u => QI (zipD t.1 u.1, u.2, fun z => backOpd ln p.1 q.2 (backOpd ln q.1 t.2 z)) := by
  rw [evIt]
  simp only [T_bind, T_map, T_guard]
/-! ### statements -/
@[simp] theorem R_set {i : Nat} {e : CE} : T (ex call fuel (.set i e) r) QS ↔ T (ev call e r) fun p => T (setO i p.1 p.2) fun r2 => QS (r2, .nx) := by
  rw [ex]
  simp only [T_bind, T_map]
@[simp] theorem R_unp {t : Tg} {e : CE} : T (ex call fuel (.unp t e) r) QS ↔ T (ev call e r) fun p => T (keep p.1 p.2) fun k => T (asg k.2.1 t k.1 k.2.2) fun r3 => QS (r3, .nx) := by
  rw [ex]
  simp only [T_bind, T_map]
@[simp] theorem R_par2 {i j : Nat} {a b : CE} : T (ex call fuel (.par2 i j a b) r) QS ↔ T (ev call a r) fun p => T (ev call b p.2) fun q => T (keep p.1 q.2) fun k => T (keep q.1 k.2.2) fun m => (open1 m.2.2 i && open1 m.2.2 j) = true ∧ QS (put (put m.2.2 i (some (k.1, if k.2.1 then .ow else .fz))) j (some (m.1, if m.2.1 then .ow else .fz)), .nx) := by
  rw [ex, T_bind, R_cons]
  simp only [R_cons, R_nil, T_bind, T_guard, T_some]
@[simp] theorem R_expr {e : CE} : T (ex call fuel (.expr e) r) QS ↔ T (ev call e r) fun p => QS (p.2, .nx) := by
  rw [ex]
  simp only [T_map]
@[simp] theorem R_ret {e : CE} : T (ex call fuel (.ret e) r) QS ↔ T (ev call e r) fun p => T (retO p.1 p.2) fun q => QS (q.2.2, .rt q.1 q.2.1) := by
  rw [ex]
  simp only [T_bind, T_map]
@[simp] theorem R_retN : T (ex call fuel .retN r) QS ↔ QS (r, .rt .none true) := by rw [ex, T_some]
@[simp] theorem R_brk : T (ex call fuel .brk r) QS ↔ QS (r, .bk) := by rw [ex, T_some]
@[simp] theorem R_cnt : T (ex call fuel .cnt r) QS ↔ QS (r, .ct) := by rw [ex, T_some]
@[simp] theorem R_pas : T (ex call fuel .pas r) QS ↔ QS (r, .nx) := by rw [ex, T_some]
@[simp] theorem R_if {c : CE} {a b : CSs} : T (ex call fuel (.ife c a b) r) QS ↔ T (ev call c r) (askK fun p => if p.1 then T (exs call fuel a p.2) QS else T (exs call fuel b p.2) QS) := by
  rw [T_ifs, T_test]
  simp only [T_ite]
@[simp] theorem R_forr {t : Tg} {it : CIt} {ln : Bool} {b : CSs} : T (ex call fuel (.forr t it ln b) r) QS ↔ T (evIt call it ln r) fun p => T (forL (fun r => exs call fuel b r) (asg false t) p.1 p.2.1) fun q => QS (p.2.2 q.1, q.2) := by
  rw [ex]
  simp only [T_bind, T_map]
@[simp] theorem R_whil {c : CE} {b : CSs} : T (ex call fuel (.whil c b) r) QS ↔ T (whileL (fun r => test call c r) (fun r => exs call fuel b r) fuel r) QS := by rw [ex]
/-- what is changed in place: a list -/
@[simp] theorem R_app {i : Nat} {e : CE} : T (ex call fuel (.app i e) r) QS ↔ isListC (nth r i) = true ∧ T (ev call e r) fun p => T (ownD p.2 i) fun c => T (dat p.2 p.1) fun dx => match c.1 with
    | .list ds => small ds.length = true ∧ T (into i c.2 (.list (ds ++ [dx])) p.1 p.2) fun r2 => QS (r2, .nx)
    | _ => False := by
  rw [ex, T_guard]
  refine and_congr_right fun _ => ?_
  simp only [T_bind]
  have k : ∀ (p : Opd × Rho) (c : D × Stt) (dx : D), T (match c.1 with
    | .list ds => if small ds.length then (into i c.2 (.list (ds ++ [dx])) p.1 p.2).map fun r2 => (r2, Fl.nx) else none
    | _ => none) QS ↔ match c.1 with
    | .list ds => small ds.length = true ∧ T (into i c.2 (.list (ds ++ [dx])) p.1 p.2) fun r2 => QS (r2, .nx)
    | _ => False := fun p c dx => by
    obtain ⟨c1, c2⟩ := c
    cases c1 <;> simp [T_guard]
  exact ⟨fun h => h.mono fun p h => h.mono fun c h => h.mono fun dx h => (k p c dx).mp h, fun h => h.mono fun p h => h.mono fun c h => h.mono fun dx h => (k p c dx).mpr h⟩
@[simp] theorem R_upd {i : Nat} {e : CE} : T (ex call fuel (.upd i e) r) QS ↔ isDictC (nth r i) = true ∧ T (ev call e r) fun p => T (ownD p.2 i) fun c => T (dat p.2 p.1) fun dx => match c.1, dx with
    | .dict kvs, .dict kvs' => (small (kvs.length + kvs'.length) && imms (kvs'.map (·.2)) && imms (kvs.map (·.2)) && noName i [p.1]) = true ∧ QS (put p.2 i (some (.dict (dputs kvs kvs'), c.2)), .nx)
    | _, _ => False := by
  rw [ex, T_guard]
  refine and_congr_right fun _ => ?_
  simp only [T_bind]
  have k : ∀ (p : Opd × Rho) (c : D × Stt) (dx : D), T (match c.1, dx with
    | .dict kvs, .dict kvs' => if small (kvs.length + kvs'.length) && imms (kvs'.map (·.2)) && imms (kvs.map (·.2)) && noName i [p.1] then some (put p.2 i (some (.dict (dputs kvs kvs'), c.2)), Fl.nx) else none
    | _, _ => none) QS ↔ match c.1, dx with
    | .dict kvs, .dict kvs' => (small (kvs.length + kvs'.length) && imms (kvs'.map (·.2)) && imms (kvs.map (·.2)) && noName i [p.1]) = true ∧ QS (put p.2 i (some (.dict (dputs kvs kvs'), c.2)), .nx)
    | _, _ => False := fun p c dx => by
    obtain ⟨c1, c2⟩ := c
    cases c1 <;> cases dx <;> simp [T_guard]
  exact ⟨fun h => h.mono fun p h => h.mono fun c h => h.mono fun dx h => (k p c dx).mp h, fun h => h.mono fun p h => h.mono fun c h => h.mono fun dx h => (k p c dx).mpr h⟩
@[simp] theorem R_sub {i : Nat} {k e : CE} : T (ex call fuel (.sub i k e) r) QS ↔ T (ev call e r) fun p => T (ownD p.2 i) fun _ => T (ev call k p.2) fun q => T (ownD q.2 i) fun c => T (dat q.2 p.1) fun dx => T (dat q.2 q.1) fun dk => match c.1, dk with
    | .list ds, .int j => T (ixD ds.length j) fun n => (imms ds && imm dx) = true ∧ QS (put q.2 i (some (.list (ds.set n dx), c.2)), .nx)
    | .dict kvs, dk => (isKey dk && imm dx && small kvs.length && imms (kvs.map (·.2))) = true ∧ QS (put q.2 i (some (.dict (dput kvs dk dx), c.2)), .nx)
    | _, _ => False := by
  rw [ex]
  simp only [T_bind]
  have k : ∀ (q : Opd × Rho) (c : D × Stt) (dx dk : D), T (match c.1, dk with
    | .list ds, .int j => (ixD ds.length j).bind fun n => if imms ds && imm dx then some (put q.2 i (some (.list (ds.set n dx), c.2)), Fl.nx) else none
    | .dict kvs, dk => if isKey dk && imm dx && small kvs.length && imms (kvs.map (·.2)) then some (put q.2 i (some (.dict (dput kvs dk dx), c.2)), Fl.nx) else none
    | _, _ => none) QS ↔ match c.1, dk with
    | .list ds, .int j => T (ixD ds.length j) fun n => (imms ds && imm dx) = true ∧ QS (put q.2 i (some (.list (ds.set n dx), c.2)), .nx)
    | .dict kvs, dk => (isKey dk && imm dx && small kvs.length && imms (kvs.map (·.2))) = true ∧ QS (put q.2 i (some (.dict (dput kvs dk dx), c.2)), .nx)
    | _, _ => False := fun q c dx dk => by
    obtain ⟨c1, c2⟩ := c
    cases c1 <;> cases dk <;> first | (simp only [T_none]; done) | (simp only [T_bind, T_guard, T_some]; done) | simp [T_guard]
  exact ⟨fun h => h.mono fun p h => h.mono fun c h => h.mono fun q h => h.mono fun c h => h.mono fun dx h => h.mono fun dk h => (k q c dx dk).mp h, fun h => h.mono fun p h => h.mono fun c h => h.mono fun q h => h.mono fun c h => h.mono fun dx h => h.mono fun dk h => (k q c dx dk).mpr h⟩
end
/-! ### helper steps -/
section
variable {call : CallT} {fuel : Nat} {α : Type} {r : Rho} {d d' : D} {i : Nat} {st : Stt}
@[simp] theorem got_eq : got r i = match nth r i with
  | some (_, .lo) => none
  | c => c := rfl
@[simp] theorem dat_nm : dat r (.nm i) = (got r i).map (·.1) := rfl
@[simp] theorem dat_val {o : Bool} : dat r (.val d o) = some d := rfl
@[simp] theorem dats_nil : dats r [] = some [] := rfl
@[simp] theorem dats_cons {o : Opd} {os : List Opd} : dats r (o :: os) = (dat r o).bind fun d => (dats r os).map (d :: ·) := rfl
@[simp] theorem argsOf_nil : argsOf r [] = some [] := rfl
@[simp] theorem argsOf_cons {o : Opd} {os : List Opd} : argsOf r (o :: os) = (argOf r o).bind fun a => (argsOf r os).map (a :: ·) := rfl
@[simp] theorem argOf_val {o : Bool} : argOf r (.val d o) = some (d, if imm d || o then .ow else .fz) := rfl
@[simp] theorem argOf_nm : argOf r (.nm i) = match got r i with
    | some (d, _) => some (d, if imm d then .ow else .fz)
    | none => none := rfl
@[simp] theorem imm_int {k : Int} : imm (.int k) = true := by rw [imm]
@[simp] theorem imm_none : imm .none = true := by rw [imm]
@[simp] theorem imm_bool {k : Bool} : imm (.bool k) = true := by rw [imm]
@[simp] theorem imm_str {k : Str} : imm (.str k) = true := by rw [imm]
@[simp] theorem imm_list {k : List D} : imm (.list k) = false := by rw [imm]
@[simp] theorem imm_dict {k : List (D × D)} : imm (.dict k) = false := by rw [imm]
@[simp] theorem imm_tuple {k : List D} : imm (.tuple k) = imms k := by rw [imm]
@[simp] theorem imms_nil : imms [] = true := by rw [imms]
@[simp] theorem imms_cons {k : List D} : imms (d :: k) = (imm d && imms k) := by rw [imms]
@[simp] theorem imms_append {k l : List D} : imms (k ++ l) = (imms k && imms l) := by
  induction k with
  | nil => rfl
  | cons x xs ih => rw [List.cons_append, imms_cons, ih, imms_cons, Bool.and_assoc]
theorem imms_iff {k : List D} : imms k = true ↔ ∀ x ∈ k, imm x = true := by
  induction k with
  | nil => simp
  | cons x xs ih => simp [ih]
@[simp] theorem imms_ints {β : Type} {l : List β} {f : β → Int} : imms (l.map fun x => .int (f x)) = true := imms_iff.mpr fun x hx => by
  obtain ⟨y, _, rfl⟩ := List.mem_map.mp hx
  rfl
@[simp] theorem frzs_nil : frzs r [] = some r := rfl
@[simp] theorem frzs_val {o : Bool} {os : List Opd} : frzs r (.val d o :: os) = frzs r os := rfl
@[simp] theorem frzs_nm {os : List Opd} : frzs r (.nm i :: os) = (frz1 r i).bind fun r' => frzs r' os := rfl
@[simp] theorem wipe_nil : wipeR r [] = r := rfl
@[simp] theorem wipe_cons {c : Cell} {v : Nat} {vs : List Nat} : wipeR (c :: r) (v :: vs) = put (wipeR (c :: r) vs) v none := rfl
@[simp] theorem rest_nil {r0 : Rho} : restR r0 r [] = r := rfl
/-- what a hidden name is afterwards -/
def keepC (c x : Cell) : Cell := match c with
  | some (d, .ow) => if imm d then some (d, .ow) else x
  | _ => x
@[simp] theorem keepC_none {x : Cell} : keepC none x = x := rfl
@[simp] theorem keepC_ow {x : Cell} : keepC (some (d, .ow)) x = if imm d then some (d, .ow) else x := rfl
@[simp] theorem keepC_fz {x : Cell} : keepC (some (d, .fz)) x = x := rfl
theorem put_nth : ∀ (r : Rho) (n : Nat), put r n (nth r n) = r
  | [], _ => rfl
  | c :: r, 0 => rfl
  | c :: r, n + 1 => by rw [nth_succ, put_succ, put_nth r n]
@[simp] theorem rest_cons {r0 : Rho} {v : Nat} {vs : List Nat} : restR r0 r (v :: vs) = put (restR r0 r vs) v (keepC (nth r0 v) (nth (restR r0 r vs) v)) := by
  rw [restR]
  cases nth r0 v with
  | none => exact (put_nth _ _).symm
  | some x =>
    obtain ⟨d, st⟩ := x
    cases st with
    | ow =>
      by_cases h : imm d = true
      · simp [keepC, h]
      · simp only [keepC, if_neg h]
        exact (put_nth _ _).symm
    | fz => exact (put_nth _ _).symm
    | pn => exact (put_nth _ _).symm
    | lo => exact (put_nth _ _).symm
@[simp] theorem allOwn_nil : allOwn r [] = true := rfl
@[simp] theorem allOwn_nm {os : List Opd} : allOwn r (.nm i :: os) = ((match got r i with | some (d, _) => imm d | none => false) && allOwn r os) := rfl
@[simp] theorem allOwn_val {o : Bool} {os : List Opd} : allOwn r (.val d o :: os) = ((imm d || o) && allOwn r os) := rfl
/-- a cell that may be given another value -/
def freB : Cell → Bool
  | some (_, .pn) => false
  | some (_, .lo) => false
  | _ => true
@[simp] theorem freB_none : freB none = true := by rw [freB] <;> simp
@[simp] theorem freB_ow : freB (some (d, .ow)) = true := by rw [freB] <;> simp
@[simp] theorem freB_fz : freB (some (d, .fz)) = true := by rw [freB] <;> simp
@[simp] theorem freB_pn : freB (some (d, .pn)) = false := by rw [freB]
@[simp] theorem freB_lo : freB (some (d, .lo)) = false := by rw [freB]
theorem freB_keep (c : Cell) : freB (keepC c none) = true := by
  unfold keepC
  split
  · split <;> simp [freB]
  · rfl
@[simp] theorem open1_eq : open1 r i = (decide (i < r.length) && freB (nth r i)) := by
  unfold open1 freB
  rfl
@[simp] theorem opens_eq {l : List Nat} : opens r l = l.all (open1 r) := rfl
@[simp] theorem asg_nm {w : Bool} : asg w (.nm i) d r = if open1 r i then some (put r i (some (d, if imm d || w then .ow else .fz))) else none := by rw [asg]
@[simp] theorem asg_tup {w : Bool} {ts : List Tg} {ds : List D} : asg w (.tup ts) (.tuple ds) r = asgs w ts ds r := by rw [asg]
@[simp] theorem asgs_nil {w : Bool} : asgs w [] [] r = some r := by rw [asgs]
@[simp] theorem asgs_cons {w : Bool} {t : Tg} {ts : List Tg} {ds : List D} : asgs w (t :: ts) (d :: ds) r = (asg w t d r).bind fun r' => asgs w ts ds r' := by rw [asgs]
theorem small_of {n : Nat} (h : n ≤ 1000000) : small n = true := decide_eq_true h
/-- a comprehension by an invariant of what is left, what is there and the state -/
theorem T_loopC {elt : Rho → Option (D × Bool × Rho)} {cond : Rho → Option (Bool × Rho)} {tg : D → Rho → Option Rho} {own : List Nat} (Inv : List D → List D → Rho → Prop) {o : Bool} {Q : List D × Bool × Rho → Prop}
    (step : ∀ x xs acc r, Inv (x :: xs) acc r → T (tg x (wipeR r own)) fun r1 => T (cond r1) fun b => if b.1 then T (elt b.2) fun y => y.2.1 = o ∧ Inv xs (acc ++ [y.1]) y.2.2 else Inv xs acc b.2) :
    ∀ {xs acc r}, Inv xs acc r → (∀ acc r', Inv [] acc r' → Q (acc, o, r')) → T (loopC elt cond tg own xs r acc o) Q
  | [], acc, r, h, k => by
    rw [loopC, T_some]
    exact k _ _ h
  | x :: xs, acc, r, h, k => by
    rw [loopC, T_bind]
    refine (step x xs acc r h).mono fun r1 h1 => ?_
    rw [T_bind]
    refine h1.mono fun b h2 => ?_
    obtain ⟨b, r2⟩ := b
    cases b with
    | true =>
      simp only [if_true, T_bind] at h2 ⊢
      refine h2.mono fun y h3 => ?_
      obtain ⟨y, o', r3⟩ := y
      obtain ⟨rfl, h4⟩ := h3
      rw [Bool.and_self]
      exact T_loopC Inv step h4 k
    | false => exact T_loopC Inv step (show Inv xs acc r2 from h2) k
theorem T_forL {body : Rho → Option (Rho × Fl)} {tg : D → Rho → Option Rho} (Inv : List D → Rho → Prop) {Q : Rho × Fl → Prop}
    (step : ∀ x xs r, Inv (x :: xs) r → T (tg x r) fun r1 => T (body r1) fun p => match p.2 with
      | .nx => Inv xs p.1
      | .ct => Inv xs p.1
      | .bk => Q (p.1, .nx)
      | .rt d o => Q (p.1, .rt d o)) :
    ∀ {xs r}, Inv xs r → (∀ r', Inv [] r' → Q (r', .nx)) → T (forL body tg xs r) Q
  | [], r, h, k => by
    rw [forL, T_some]
    exact k _ h
  | x :: xs, r, h, k => by
    rw [forL, T_bind]
    refine (step x xs r h).mono fun r1 h1 => ?_
    rw [T_bind]
    refine h1.mono fun p h2 => ?_
    obtain ⟨r2, f⟩ := p
    cases f with
    | nx => exact T_forL Inv step (show Inv xs r2 from h2) k
    | ct => exact T_forL Inv step (show Inv xs r2 from h2) k
    | bk => exact T_some.mpr h2
    | rt d o => exact T_some.mpr h2
theorem T_while {cond : Rho → Option (Bool × Rho)} {body : Rho → Option (Rho × Fl)} (Inv : Nat → Rho → Prop) {Q : Rho × Fl → Prop}
    (step : ∀ n r, Inv n r → T (cond r) fun b => if b.1 then T (body b.2) fun p => match p.2 with
      | .nx => ∃ m, m < n ∧ Inv m p.1
      | .ct => ∃ m, m < n ∧ Inv m p.1
      | .bk => Q (p.1, .nx)
      | .rt d o => Q (p.1, .rt d o) else Q (b.2, .nx)) :
    ∀ {k n r}, Inv n r → n < k → T (whileL cond body k r) Q
  | 0, n, r, h, l => absurd l (Nat.not_lt_zero _)
  | k + 1, n, r, h, l => by
    rw [whileL, T_bind]
    refine (step n r h).mono fun b h1 => ?_
    obtain ⟨b, r1⟩ := b
    cases b with
    | false => exact T_some.mpr h1
    | true =>
      simp only [if_true] at h1 ⊢
      rw [T_bind]
      refine h1.mono fun p h2 => ?_
      obtain ⟨r2, f⟩ := p
      cases f with
      | nx =>
        obtain ⟨m, h3, h4⟩ := h2
        exact T_while Inv step h4 (by omega)
      | ct =>
        obtain ⟨m, h3, h4⟩ := h2
        exact T_while Inv step h4 (by omega)
      | bk => exact T_some.mpr h2
      | rt d o => exact T_some.mpr h2
end
end Cw
/-! # Run2: the same, such that simp never goes into what comes behind. -/
namespace Cv
open PySem Cr Cw
/-- a datum that hangs on Q: so simp leaves Q as it is -/
@[reducible] def Dp {α : Type} (Q : α) : Type := Unit
/-- a type whose name hangs on Q -/
@[reducible] def Wr {α : Type} (Q : α) (β : Type) : Type := β
/-- it gives something of which Q holds -/
def T {α : Type} (o : Option α) (Q : α → Prop) (h : Dp Q := ()) : Prop := Cw.T o Q
def bodyK (pin : Bool) (Q : D × Bool × D → Prop) (p : Wr Q (Rho × Fl)) : Prop := Cw.bodyK pin Q p
def seqK (ss : Rho → Option (Rho × Fl)) (Q : Rho × Fl → Prop) (p : Wr (ss, Q) (Rho × Fl)) : Prop := Cw.seqK ss Q p
def askK (Q : Bool × Rho → Prop) (p : Wr Q (Opd × Rho)) : Prop := Cw.askK Q p
def loopT (elt : Rho → Option (D × Bool × Rho)) (cond : Rho → Option (Bool × Rho)) (tg : D → Rho → Option Rho) (own : List Nat) (xs : List D) (r : Rho) (acc : List D) (o : Bool) (h : Dp (elt, cond, tg, own) := ()) : Option (List D × Bool × Rho) := loopC elt cond tg own xs r acc o
def forT (body : Rho → Option (Rho × Fl)) (tg : D → Rho → Option Rho) (xs : List D) (r : Rho) (h : Dp (body, tg) := ()) : Option (Rho × Fl) := forL body tg xs r
def whileT (c : Rho → Option (Bool × Rho)) (b : Rho → Option (Rho × Fl)) (n : Nat) (r : Rho) (h : Dp (c, b) := ()) : Option (Rho × Fl) := whileL c b n r
@[simp] theorem forT_nil {body : Rho → Option (Rho × Fl)} {tg : D → Rho → Option Rho} {r : Rho} : forT body tg [] r = some (r, .nx) := rfl
section
variable {α β : Type} {Q : α → Prop} {R : β → Prop}
@[simp] theorem T_some {a : α} : T (some a) Q ↔ Q a := Cw.T_some
@[simp] theorem T_none : T (none : Option α) Q ↔ False := Cw.T_none
@[simp ↓] theorem T_bind {o : Option α} {f : α → Option β} : T (o.bind f) R ↔ T o fun a => T (f a) R := Cw.T_bind
@[simp ↓] theorem T_map {o : Option α} {f : α → β} : T (o.map f) R ↔ T o fun a => R (f a) := Cw.T_map
theorem T.mono {o : Option α} {Q' : α → Prop} (h : T o Q) (k : ∀ a, Q a → Q' a) : T o Q' := Cw.T.mono h k
theorem T.eq {o : Option α} {a : α} (e : o = some a) (q : Q a) : T o Q := Cw.T.eq e q
theorem T_eq {o : Option α} {a : α} : T o (· = a) ↔ o = some a := Cw.T_eq
end
section
variable {call : CallT} {fuel : Nat} {α β : Type} {Q : α → Prop}
@[simp] theorem T_ite {c : Prop} [Decidable c] {a b : Option α} : T (if c then a else b) Q ↔ (if c then T a Q else T b Q) := Cw.T_ite
theorem T_runF {f : FE} {as : List (D × Stt)} {Q : D × Bool × D → Prop} (hl : as.length = f.par) (hp : f.pin = true → isPn (nth (start f.N as) 0) = true) (h : T (exs call fuel f.body (start f.N as)) (bodyK f.pin Q)) : T (runF call fuel f as) Q := Cw.T_runF hl hp h
@[simp] theorem bodyK_rt {Q : D × Bool × D → Prop} {r : Rho} {d : D} {o : Bool} : bodyK false Q (r, .rt d o) ↔ Q (d, o, .none) := Cw.bodyK_rt
@[simp] theorem bodyK_nx {Q : D × Bool × D → Prop} {r : Rho} : bodyK false Q (r, .nx) ↔ Q (.none, true, .none) := Cw.bodyK_nx
@[simp] theorem bodyK_prt {Q : D × Bool × D → Prop} {r : Rho} {d d0 : D} {o : Bool} : bodyK true Q (some (d0, .pn) :: r, .rt d o) ↔ Q (d, o, d0) := Cw.bodyK_prt
@[simp] theorem bodyK_pnx {Q : D × Bool × D → Prop} {r : Rho} {d0 : D} : bodyK true Q (some (d0, .pn) :: r, .nx) ↔ Q (.none, true, d0) := Cw.bodyK_pnx
@[simp] theorem seqK_nx {ss : Rho → Option (Rho × Fl)} {Q : Rho × Fl → Prop} {r : Rho} : seqK ss Q (r, .nx) ↔ T (ss r) Q := Cw.seqK_nx
@[simp] theorem seqK_rt {ss : Rho → Option (Rho × Fl)} {Q : Rho × Fl → Prop} {r : Rho} {d : D} {o : Bool} : seqK ss Q (r, .rt d o) ↔ Q (r, .rt d o) := Cw.seqK_rt
@[simp] theorem seqK_bk {ss : Rho → Option (Rho × Fl)} {Q : Rho × Fl → Prop} {r : Rho} : seqK ss Q (r, .bk) ↔ Q (r, .bk) := Cw.seqK_bk
@[simp] theorem seqK_ct {ss : Rho → Option (Rho × Fl)} {Q : Rho × Fl → Prop} {r : Rho} : seqK ss Q (r, .ct) ↔ Q (r, .ct) := Cw.seqK_ct
@[simp] theorem T_nil {r : Rho} {Q : Rho × Fl → Prop} : T (exs call fuel .nil r) Q ↔ Q (r, .nx) := Cw.T_nil
@[simp] theorem T_cons {s : CS} {ss : CSs} {r : Rho} {Q : Rho × Fl → Prop} : T (exs call fuel (.cons s ss) r) Q ↔ T (ex call fuel s r) (seqK (fun r => exs call fuel ss r) Q) := Cw.T_cons
@[simp] theorem askK_val {Q : Bool × Rho → Prop} {b o : Bool} {r : Rho} : askK Q (.val (.bool b) o, r) ↔ Q (b, r) := Cw.askK_val
@[simp] theorem T_test {c : CE} {r : Rho} {Q : Bool × Rho → Prop} : T (test call c r) Q ↔ T (ev call c r) (askK Q) := Cw.T_test
@[simp] theorem T_an {a b : CE} {r : Rho} {Q : Opd × Rho → Prop} : T (ev call (.an a b) r) Q ↔ T (ev call a r) (askK fun p => if p.1 then T (ev call b p.2) Q else Q (.val (.bool false) true, p.2)) := Cw.T_an
@[simp] theorem T_orr {a b : CE} {r : Rho} {Q : Opd × Rho → Prop} : T (ev call (.orr a b) r) Q ↔ T (ev call a r) (askK fun p => if p.1 then Q (.val (.bool true) true, p.2) else T (ev call b p.2) Q) := Cw.T_orr
@[simp] theorem T_nt {a : CE} {r : Rho} {Q : Opd × Rho → Prop} : T (ev call (.nt a) r) Q ↔ T (ev call a r) (askK fun p => Q (.val (.bool (!p.1)) true, p.2)) := Cw.T_nt
@[simp] theorem T_ife {c a b : CE} {r : Rho} {Q : Opd × Rho → Prop} : T (ev call (.ife c a b) r) Q ↔ T (ev call c r) (askK fun p => if p.1 then T (ev call a p.2) Q else T (ev call b p.2) Q) := Cw.T_ife
end
section
variable (a b : Int) (x y : Str)
end
section
variable {call : CallT} {fuel : Nat} {α β : Type}
variable {r : Rho} {Q : Opd × Rho → Prop} {QL : List Opd × Rho → Prop} {QI : List D × Rho × (Rho → Rho) → Prop} {QS : Rho × Fl → Prop}
@[simp] theorem R_var {i : Nat} : T (ev call (.var i) r) Q ↔ T (got r i) fun _ => Q (.nm i, r) := Cw.R_var
@[simp] theorem R_con {d : D} : T (ev call (.con d) r) Q ↔ Q (.val d true, r) := Cw.R_con
@[simp] theorem R_glb {x : Str} {d : D} : T (ev call (.glb x d) r) Q ↔ Q (.val d true, r) := Cw.R_glb
@[simp] theorem R_op2 {o : Operator} {a b : CE} : T (ev call (.op2 o a b) r) Q ↔ T (ev call a r) fun p => T (ev call b p.2) fun q => T (dat q.2 p.1) fun da => T (dat q.2 q.1) fun db => T (opD o da db) fun e => T (fin true e.2 e.1 [p.1, q.1] q.2) Q := Cw.R_op2
@[simp] theorem R_cmp {o : CmpOp} {a b : CE} : T (ev call (.cmp o a b) r) Q ↔ T (ev call a r) fun p => T (ev call b p.2) fun q => T (dat q.2 p.1) fun da => T (dat q.2 q.1) fun db => T (cmpD o da db) fun c => Q (.val (.bool c) true, q.2) := Cw.R_cmp
@[simp] theorem R_cmp3 {o1 o2 : CmpOp} {a b c : CE} : T (ev call (.cmp3 o1 o2 a b c) r) Q ↔ T (ev call a r) fun p => T (ev call b p.2) fun q => T (dat q.2 p.1) fun da => T (dat q.2 q.1) fun db => T (cmpD o1 da db) fun k =>
    if k then T (ev call c q.2) fun z => T (dat z.2 q.1) fun db => T (dat z.2 z.1) fun dc => T (cmpD o2 db dc) fun k2 => Q (.val (.bool k2) true, z.2) else Q (.val (.bool false) true, q.2) := Cw.R_cmp3
@[simp] theorem R_tup {es : CEs} : T (ev call (.tup es) r) Q ↔ T (evs call es r) fun p => T (dats p.2 p.1) fun ds => small ds.length = true ∧ (if allOwn p.2 p.1 then Q (.val (.tuple ds) true, p.2) else T (frzs p.2 p.1) fun r' => Q (.val (.tuple ds) false, r')) := Cw.R_tup
@[simp] theorem R_lst {es : CEs} : T (ev call (.lst es) r) Q ↔ T (evs call es r) fun p => T (dats p.2 p.1) fun ds => small ds.length = true ∧ (if allOwn p.2 p.1 then Q (.val (.list ds) true, p.2) else T (frzs p.2 p.1) fun r' => Q (.val (.list ds) false, r')) := Cw.R_lst
@[simp] theorem R_dic {ks vs : CEs} : T (ev call (.dic ks vs) r) Q ↔ T (evs call ks r) fun p => T (evs call vs p.2) fun q => T (dats q.2 p.1) fun dk => T (dats q.2 q.1) fun dv => (decide (dk.length ≤ 1) && decide (dk.length = dv.length) && dk.all isKey && imms dv) = true ∧ Q (.val (.dict (dputs [] (dk.zip dv))) true, q.2) := Cw.R_dic
@[simp] theorem R_idx {a b : CE} : T (ev call (.idx a b) r) Q ↔ T (ev call a r) fun p => T (ev call b p.2) fun q => T (dat q.2 p.1) fun da => T (dat q.2 q.1) fun db => T (idxD da db) fun d => T (fin false [] d [p.1, q.1] q.2) Q := Cw.R_idx
@[simp] theorem R_slc {a : CE} {lo hi : CEo} : T (ev call (.slc a lo hi) r) Q ↔ T (ev call a r) fun p => T (evo call lo p.2) fun l => T (evo call hi l.2) fun h => T (dat h.2 p.1) fun da => T (slcD da l.1 h.1) fun e => T (fin true e.2 e.1 [p.1] h.2) Q := Cw.R_slc
@[simp] theorem R_neg {a : CE} : T (ev call (.neg a) r) Q ↔ T (ev call a r) fun p => T (dat p.2 p.1) fun d => match d with
    | .int i => Q (.val (.int (-i)) true, p.2)
    | _ => False := Cw.R_neg
@[simp] theorem R_call {f : Nat} {es : CEs} : T (ev call (.call f es) r) Q ↔ T (evs call es r) fun p => T (argsOf p.2 p.1) fun as => T (call f as) fun q => T (endCall q.1 q.2.1 p.1 p.2) Q := Cw.R_call
@[simp] theorem R_callp {f i : Nat} {es : CEs} : T (ev call (.callp f i es) r) Q ↔ T (ownD r i) fun _ => T (evs call es r) fun p => T (ownD p.2 i) fun c => noName i p.1 = true ∧ T (argsOf p.2 p.1) fun as => T (call f ((c.1, .pn) :: as)) fun q => T (endCall q.1 q.2.1 p.1 (put p.2 i (some (q.2.2, c.2)))) Q := Cw.R_callp
@[simp] theorem R_callk {f : Nat} {ix : List Nat} {es : CEs} : T (ev call (.callk f ix es) r) Q ↔ T (evs call es r) fun p => T (permD ix p.1 p.1.length) fun ps => T (argsOf p.2 ps) fun as => T (call f as) fun q => T (endCall q.1 q.2.1 ps p.2) Q := Cw.R_callk
@[simp] theorem R_bi {b : BI} {es : CEs} : T (ev call (.bi b es) r) Q ↔ T (evs call es r) fun p => T (dats p.2 p.1) fun ds => T (biD b ds) fun e => T (fin true e.2 e.1 p.1 p.2) Q := Cw.R_bi
@[simp] theorem R_isi {e : CE} {ts : List Ty} : T (ev call (.isi e ts) r) Q ↔ T (ev call e r) fun p => T (dat p.2 p.1) fun d => Q (.val (.bool (ts.any (tyD d))) true, p.2) := Cw.R_isi
@[simp] theorem R_get1 {a b : CE} : T (ev call (.get1 a b) r) Q ↔ T (ev call a r) fun p => isDictO (dat p.2 p.1) = true ∧ T (ev call b p.2) fun q => T (dat q.2 p.1) fun da => T (dat q.2 q.1) fun db => T (get1D da db) fun d => T (fin false [] d [p.1, q.1] q.2) Q := Cw.R_get1
@[simp] theorem R_get2 {a b c : CE} : T (ev call (.get2 a b c) r) Q ↔ T (ev call a r) fun p => isDictO (dat p.2 p.1) = true ∧ T (ev call b p.2) fun q => T (ev call c q.2) fun z => T (dat z.2 p.1) fun da => T (dat z.2 q.1) fun db => T (dat z.2 z.1) fun dc => T (get2D da db dc) fun d => T (fin false [] d [p.1, q.1, z.1] z.2) Q := Cw.R_get2
@[simp] theorem R_index {a b : CE} : T (ev call (.index a b) r) Q ↔ T (ev call a r) fun p => T (ev call b p.2) fun q => T (dat q.2 p.1) fun da => T (dat q.2 q.1) fun db => T (items da) fun ds => (SeqAt.shaped da && SeqAt.shaped db) = true ∧ T ((indexD db ds 0).map fun n => ((.val (.int n) true : Opd), q.2)) Q := Cw.R_index
@[simp] theorem R_comp {elt : CE} {tg : Tg} {it : CIt} {ln : Bool} {cond : CEo} {own : List Nat} : T (ev call (.comp elt tg it ln cond own) r) Q ↔ T (evIt call it ln r) fun p => opens p.2.1 own = true ∧
    T (loopT (fun r => (ev call elt r).bind fun p => keep p.1 p.2) (fun r => evc call cond r) (asg false tg) own p.1 p.2.1 [] true) fun q => small q.1.length = true ∧ Q (.val (.list q.1) q.2.1, p.2.2 (restR p.2.1 (wipeR q.2.2 own) own)) := Cw.R_comp
@[simp] theorem R_nil : T (evs call .nil r) QL ↔ QL ([], r) := Cw.R_nil
@[simp] theorem R_cons {e : CE} {es : CEs} : T (evs call (.cons e es) r) QL ↔ T (ev call e r) fun p => T (evs call es p.2) fun q => QL (p.1 :: q.1, q.2) := Cw.R_cons
variable {QO : Option Int × Rho → Prop} {QB : Bool × Rho → Prop}
@[simp] theorem R_no : T (evo call .no r) QO ↔ QO (none, r) := Cw.R_no
@[simp] theorem R_yes {e : CE} : T (evo call (.yes e) r) QO ↔ T (ev call e r) fun p => T (dat p.2 p.1) fun d => match d with
    | .int i => QO (some i, p.2)
    | _ => False := Cw.R_yes
@[simp] theorem R_cno : T (evc call .no r) QB ↔ QB (true, r) := Cw.R_cno
@[simp] theorem R_cyes {e : CE} : T (evc call (.yes e) r) QB ↔ T (ev call e r) (askK QB) := Cw.R_cyes
@[simp] theorem R_ofE {e : CE} {ln : Bool} : T (evIt call (.ofE e) ln r) QI ↔ T (ev call e r) fun p => T (takeOpd ln p.1 p.2) fun q => QI (q.1, q.2, backOpd ln p.1 p.2) := Cw.R_ofE
@[simp] theorem R_rng1 {e : CE} {ln : Bool} : T (evIt call (.rng1 e) ln r) QI ↔ T (ev call e r) fun p => T (dat p.2 p.1) fun d => match d with
    | .int n => (decide (n ≤ 100000) && decide (-100000 ≤ n)) = true ∧ QI (intRange n.toNat 0, p.2, id)
    | _ => False := Cw.R_rng1
@[simp] theorem R_enum {e : CE} {ln : Bool} : T (evIt call (.enum e) ln r) QI ↔ T (ev call e r) fun p => T (takeOpd ln p.1 p.2) fun q => QI (enumD 0 q.1, q.2, backOpd ln p.1 p.2) := Cw.R_enum
@[simp] theorem R_zip {a b : CE} {ln : Bool} : T (evIt call (.zip a b) ln r) QI ↔ T (ev call a r) fun p => T (ev call b p.2) fun q => T (takeOpd ln p.1 q.2) fun t => sameK (dat q.2 p.1) (dat t.2 q.1) = true ∧ T (takeOpd ln q.1 t.2) fun u => QI (zipD t.1 u.1, u.2, fun z => backOpd ln p.1 q.2 (backOpd ln q.1 t.2 z)) := Cw.R_zip
@[simp] theorem R_set {i : Nat} {e : CE} : T (ex call fuel (.set i e) r) QS ↔ T (ev call e r) fun p => T (setO i p.1 p.2) fun r2 => QS (r2, .nx) := Cw.R_set
@[simp] theorem R_unp {t : Tg} {e : CE} : T (ex call fuel (.unp t e) r) QS ↔ T (ev call e r) fun p => T (keep p.1 p.2) fun k => T (asg k.2.1 t k.1 k.2.2) fun r3 => QS (r3, .nx) := Cw.R_unp
@[simp] theorem R_par2 {i j : Nat} {a b : CE} : T (ex call fuel (.par2 i j a b) r) QS ↔ T (ev call a r) fun p => T (ev call b p.2) fun q => T (keep p.1 q.2) fun k => T (keep q.1 k.2.2) fun m => (open1 m.2.2 i && open1 m.2.2 j) = true ∧ QS (put (put m.2.2 i (some (k.1, if k.2.1 then .ow else .fz))) j (some (m.1, if m.2.1 then .ow else .fz)), .nx) := Cw.R_par2
@[simp] theorem R_expr {e : CE} : T (ex call fuel (.expr e) r) QS ↔ T (ev call e r) fun p => QS (p.2, .nx) := Cw.R_expr
@[simp] theorem R_ret {e : CE} : T (ex call fuel (.ret e) r) QS ↔ T (ev call e r) fun p => T (retO p.1 p.2) fun q => QS (q.2.2, .rt q.1 q.2.1) := Cw.R_ret
@[simp] theorem R_retN : T (ex call fuel .retN r) QS ↔ QS (r, .rt .none true) := Cw.R_retN
@[simp] theorem R_brk : T (ex call fuel .brk r) QS ↔ QS (r, .bk) := Cw.R_brk
@[simp] theorem R_cnt : T (ex call fuel .cnt r) QS ↔ QS (r, .ct) := Cw.R_cnt
@[simp] theorem R_pas : T (ex call fuel .pas r) QS ↔ QS (r, .nx) := Cw.R_pas
@[simp] theorem R_if {c : CE} {a b : CSs} : T (ex call fuel (.ife c a b) r) QS ↔ T (ev call c r) (askK fun p => if p.1 then T (exs call fuel a p.2) QS else T (exs call fuel b p.2) QS) := Cw.R_if
@[simp] theorem R_forr {t : Tg} {it : CIt} {ln : Bool} {b : CSs} : T (ex call fuel (.forr t it ln b) r) QS ↔ T (evIt call it ln r) fun p => T (forT (fun r => exs call fuel b r) (asg false t) p.1 p.2.1) fun q => QS (p.2.2 q.1, q.2) := Cw.R_forr
@[simp] theorem R_whil {c : CE} {b : CSs} : T (ex call fuel (.whil c b) r) QS ↔ T (whileT (fun r => test call c r) (fun r => exs call fuel b r) fuel r) QS := Cw.R_whil
@[simp] theorem R_app {i : Nat} {e : CE} : T (ex call fuel (.app i e) r) QS ↔ isListC (nth r i) = true ∧ T (ev call e r) fun p => T (ownD p.2 i) fun c => T (dat p.2 p.1) fun dx => match c.1 with
    | .list ds => small ds.length = true ∧ T (into i c.2 (.list (ds ++ [dx])) p.1 p.2) fun r2 => QS (r2, .nx)
    | _ => False := Cw.R_app
@[simp] theorem R_upd {i : Nat} {e : CE} : T (ex call fuel (.upd i e) r) QS ↔ isDictC (nth r i) = true ∧ T (ev call e r) fun p => T (ownD p.2 i) fun c => T (dat p.2 p.1) fun dx => match c.1, dx with
    | .dict kvs, .dict kvs' => (small (kvs.length + kvs'.length) && imms (kvs'.map (·.2)) && imms (kvs.map (·.2)) && noName i [p.1]) = true ∧ QS (put p.2 i (some (.dict (dputs kvs kvs'), c.2)), .nx)
    | _, _ => False := Cw.R_upd
@[simp] theorem R_sub {i : Nat} {k e : CE} : T (ex call fuel (.sub i k e) r) QS ↔ T (ev call e r) fun p => T (ownD p.2 i) fun _ => T (ev call k p.2) fun q => T (ownD q.2 i) fun c => T (dat q.2 p.1) fun dx => T (dat q.2 q.1) fun dk => match c.1, dk with
    | .list ds, .int j => T (ixD ds.length j) fun n => (imms ds && imm dx) = true ∧ QS (put q.2 i (some (.list (ds.set n dx), c.2)), .nx)
    | .dict kvs, dk => (isKey dk && imm dx && small kvs.length && imms (kvs.map (·.2))) = true ∧ QS (put q.2 i (some (.dict (dput kvs dk dx), c.2)), .nx)
    | _, _ => False := Cw.R_sub
end
section
variable {call : CallT} {fuel : Nat} {α : Type} {r : Rho} {d d' : D} {i : Nat} {st : Stt}
theorem T_loopC {elt : Rho → Option (D × Bool × Rho)} {cond : Rho → Option (Bool × Rho)} {tg : D → Rho → Option Rho} {own : List Nat} (Inv : List D → List D → Rho → Prop) {o : Bool} {Q : List D × Bool × Rho → Prop}
    (step : ∀ x xs acc r, Inv (x :: xs) acc r → T (tg x (wipeR r own)) fun r1 => T (cond r1) fun b => if b.1 then T (elt b.2) fun y => y.2.1 = o ∧ Inv xs (acc ++ [y.1]) y.2.2 else Inv xs acc b.2) :
    ∀ {xs acc r}, Inv xs acc r → (∀ acc r', Inv [] acc r' → Q (acc, o, r')) → T (loopT elt cond tg own xs r acc o) Q := Cw.T_loopC Inv step
theorem T_forL {body : Rho → Option (Rho × Fl)} {tg : D → Rho → Option Rho} (Inv : List D → Rho → Prop) {Q : Rho × Fl → Prop}
    (step : ∀ x xs r, Inv (x :: xs) r → T (tg x r) fun r1 => T (body r1) fun p => match p.2 with
      | .nx => Inv xs p.1
      | .ct => Inv xs p.1
      | .bk => Q (p.1, .nx)
      | .rt d o => Q (p.1, .rt d o)) :
    ∀ {xs r}, Inv xs r → (∀ r', Inv [] r' → Q (r', .nx)) → T (forT body tg xs r) Q := Cw.T_forL Inv step
theorem T_while {cond : Rho → Option (Bool × Rho)} {body : Rho → Option (Rho × Fl)} (Inv : Nat → Rho → Prop) {Q : Rho × Fl → Prop}
    (step : ∀ n r, Inv n r → T (cond r) fun b => if b.1 then T (body b.2) fun p => match p.2 with
      | .nx => ∃ m, m < n ∧ Inv m p.1
      | .ct => ∃ m, m < n ∧ Inv m p.1
      | .bk => Q (p.1, .nx)
      | .rt d o => Q (p.1, .rt d o) else Q (b.2, .nx)) :
    ∀ {k n r}, Inv n r → n < k → T (whileT cond body k r) Q := Cw.T_while Inv step
end
end Cv
/-! # Dat: data made of Lean's lists; pure comprehensions; built-in functions on them. -/
namespace Cv
open PySem Cr Cw
/-- a row of numbers -/
def nl (l : List Nat) : List D := l.map fun n => PyData.int (Int.ofNat n)
@[simp] theorem nl_nil : nl [] = [] := rfl
@[simp] theorem nl_cons (n : Nat) (l : List Nat) : nl (n :: l) = .int n :: nl l := rfl
@[simp] theorem nl_append (k l : List Nat) : nl (k ++ l) = nl k ++ nl l := List.map_append
@[simp] theorem nl_length (l : List Nat) : (nl l).length = l.length := List.length_map _
@[simp] theorem nl_imms (l : List Nat) : imms (nl l) = true := imms_iff.mpr fun x hx => by
  obtain ⟨y, _, rfl⟩ := List.mem_map.mp hx
  rfl
abbrev tD (l : List Nat) : D := .tuple (nl l)
@[simp] theorem tD_imm (l : List Nat) : imm (tD l) = true := nl_imms l
abbrev pD (p : Nat × Nat) : D := .tuple [.int p.1, .int p.2]
@[simp] theorem pD_imm (p : Nat × Nat) : imm (pD p) = true := rfl
theorem imms_map {β : Type} {l : List β} {f : β → D} (h : ∀ x ∈ l, imm (f x) = true) : imms (l.map f) = true := imms_iff.mpr fun x hx => by
  obtain ⟨y, hy, rfl⟩ := List.mem_map.mp hx
  exact h y hy
@[simp] theorem imms_pD (l : List (Nat × Nat)) : imms (l.map pD) = true := imms_map fun x _ => pD_imm x
@[simp] theorem imms_tD (l : List (List Nat)) : imms (l.map tD) = true := imms_map fun x _ => tD_imm x
/-! ### shapes -/
theorem canLays_iff {l : List D} : PyData.canLayAll0 l = true ↔ ∀ x ∈ l, PyData.canLay0 x = true := by
  induction l with
  | nil => simp [PyData.canLayAll0]
  | cons x xs ih => simp [PyData.canLayAll0, ih]
theorem depths_le {l : List D} {n : Nat} : PyData.depthAll l ≤ n ↔ ∀ x ∈ l, PyData.depth x ≤ n := by
  induction l with
  | nil => simp [PyData.depthAll]
  | cons x xs ih => simp [PyData.depthAll, ih, Nat.max_le]
/-- shaped, with a depth -/
def Sh (n : Nat) (d : D) : Prop := PyData.canLay0 d = true ∧ PyData.depth d ≤ n
theorem Sh.shaped {n : Nat} {d : D} (h : Sh n d) (hn : n ≤ 64) : SeqAt.shaped d = true := by
  unfold SeqAt.shaped
  rw [h.1, decide_eq_true (Nat.le_trans h.2 hn)]
  rfl
theorem Sh.mono {n m : Nat} {d : D} (h : Sh n d) (k : n ≤ m) : Sh m d := ⟨h.1, Nat.le_trans h.2 k⟩
theorem sh_int {n : Nat} {i : Int} : Sh n (.int i) := ⟨by simp [PyData.canLay0], by simp [PyData.depth]⟩
theorem sh_bool {n : Nat} {i : Bool} : Sh n (.bool i) := ⟨by simp [PyData.canLay0], by simp [PyData.depth]⟩
theorem sh_none {n : Nat} : Sh n .none := ⟨by simp [PyData.canLay0], by simp [PyData.depth]⟩
theorem sh_tuple {n : Nat} {l : List D} (h : ∀ x ∈ l, Sh n x) : Sh (n + 1) (.tuple l) := ⟨by
  simp only [PyData.canLay0]
  exact canLays_iff.mpr fun x hx => (h x hx).1, by
  simp only [PyData.depth]
  have := depths_le.mpr fun x hx => (h x hx).2
  omega⟩
theorem sh_list {n : Nat} {l : List D} (h : ∀ x ∈ l, Sh n x) : Sh (n + 1) (.list l) := ⟨by
  simp only [PyData.canLay0]
  exact canLays_iff.mpr fun x hx => (h x hx).1, by
  simp only [PyData.depth]
  have := depths_le.mpr fun x hx => (h x hx).2
  omega⟩
theorem sh_nl {n : Nat} {l : List Nat} : ∀ x ∈ nl l, Sh n x := fun x hx => by
  obtain ⟨y, _, rfl⟩ := List.mem_map.mp hx
  exact sh_int
theorem sh_tD {n : Nat} {l : List Nat} : Sh (n + 1) (tD l) := sh_tuple sh_nl
theorem sh_map {β : Type} {n : Nat} {l : List β} {f : β → D} (h : ∀ x ∈ l, Sh n (f x)) : ∀ x ∈ l.map f, Sh n x := fun x hx => by
  obtain ⟨y, hy, rfl⟩ := List.mem_map.mp hx
  exact h y hy
theorem sh_pD {n : Nat} {p : Nat × Nat} : Sh (n + 1) (pD p) := sh_tuple fun x hx => by
  simp only [List.mem_cons, List.not_mem_nil, or_false] at hx
  rcases hx with rfl | rfl <;> exact sh_int
/-! ### equal -/
@[simp] theorem eqv_int (a b : Int) : PyData.eqv (.int a) (.int b) = decide (a = b) := by
  simp only [PyData.eqv]
  by_cases h : a = b <;> simp [h]
theorem eqvAll_nl : ∀ (a b : List Nat), PyData.eqvAll (nl a) (nl b) = decide (a = b)
  | [], [] => by simp [PyData.eqvAll]
  | [], y :: ys => by simp [PyData.eqvAll]
  | x :: xs, [] => by simp [PyData.eqvAll]
  | x :: xs, y :: ys => by
    simp only [nl_cons, PyData.eqvAll, eqv_int, eqvAll_nl xs ys]
    by_cases h : x = y <;> by_cases k : xs = ys <;> simp [h, k, Int.ofNat_inj]
@[simp] theorem eqv_tD (a b : List Nat) : PyData.eqv (tD a) (tD b) = decide (a = b) := by
  unfold tD
  simp only [PyData.eqv]
  exact eqvAll_nl a b
@[simp] theorem eqv_nl (a b : List Nat) : PyData.eqv (.list (nl a)) (.list (nl b)) = decide (a = b) := by
  simp only [PyData.eqv]
  exact eqvAll_nl a b
theorem eqvAll_map {β : Type} [DecidableEq β] {f : β → D} (h : ∀ a b, PyData.eqv (f a) (f b) = decide (a = b)) : ∀ (a b : List β), PyData.eqvAll (a.map f) (b.map f) = decide (a = b)
  | [], [] => by simp [PyData.eqvAll]
  | [], y :: ys => by simp [PyData.eqvAll]
  | x :: xs, [] => by simp [PyData.eqvAll]
  | x :: xs, y :: ys => by
    simp only [List.map_cons, PyData.eqvAll, h, eqvAll_map h xs ys]
    by_cases e : x = y <;> by_cases k : xs = ys <;> simp [e, k]
@[simp] theorem eqv_ltD (a b : List (List Nat)) : PyData.eqv (.list (a.map tD)) (.list (b.map tD)) = decide (a = b) := by
  simp only [PyData.eqv]
  exact eqvAll_map eqv_tD a b
@[simp] theorem eqv_pD (a b : Nat × Nat) : PyData.eqv (pD a) (pD b) = decide (a = b) := by
  obtain ⟨a1, a2⟩ := a
  obtain ⟨b1, b2⟩ := b
  unfold pD
  simp only [PyData.eqv, PyData.eqvAll, eqv_int]
  by_cases h : a1 = b1 <;> by_cases k : a2 = b2 <;> simp [h, k, Int.ofNat_inj]
/-- x in a row of numbers -/
theorem any_nl (l : List Nat) (n : Nat) : ((nl l).any fun z => PyData.eqv z (.int n)) = decide (n ∈ l) := by
  induction l with
  | nil => rfl
  | cons x xs ih =>
    rw [nl_cons, List.any_cons, ih, eqv_int]
    by_cases h : x = n
    · subst h; simp
    · have h' : ¬ n = x := fun e => h e.symm
      have h2 : ¬ (x : Int) = (n : Int) := by omega
      by_cases k : n ∈ xs <;> simp [h', k, h2]
@[simp] theorem cmp_in_list (l : List Nat) (n : Nat) : cmpD .In (.int n) (.list (nl l)) = some (decide (n ∈ l)) := by
  show (if SeqAt.shaped _ && SeqAt.shaped _ then _ else _) = _
  rw [if_pos (by rw [(sh_int (n := 0)).shaped (by decide), (sh_list (n := 0) sh_nl).shaped (by decide)]; rfl), any_nl]
@[simp] theorem cmp_in_tuple (l : List Nat) (n : Nat) : cmpD .In (.int n) (tD l) = some (decide (n ∈ l)) := by
  show (if SeqAt.shaped _ && SeqAt.shaped _ then _ else _) = _
  rw [if_pos (by rw [(sh_int (n := 0)).shaped (by decide), (sh_tD (n := 0)).shaped (by decide)]; rfl), any_nl]
@[simp] theorem cmp_notin_list (l : List Nat) (n : Nat) : cmpD .NotIn (.int n) (.list (nl l)) = some (!decide (n ∈ l)) := by
  show (if SeqAt.shaped _ && SeqAt.shaped _ then _ else _) = _
  rw [if_pos (by rw [(sh_int (n := 0)).shaped (by decide), (sh_list (n := 0) sh_nl).shaped (by decide)]; rfl), any_nl]
@[simp] theorem cmp_notin_tuple (l : List Nat) (n : Nat) : cmpD .NotIn (.int n) (tD l) = some (!decide (n ∈ l)) := by
  show (if SeqAt.shaped _ && SeqAt.shaped _ then _ else _) = _
  rw [if_pos (by rw [(sh_int (n := 0)).shaped (by decide), (sh_tD (n := 0)).shaped (by decide)]; rfl), any_nl]
theorem cmp_eq_of {a b : D} {n : Nat} (h : Sh n a) (h' : Sh n b) (hn : n ≤ 64) : cmpD .Eq a b = some (PyData.eqv a b) := by
  show (if _ then _ else _) = _
  rw [if_pos (by unfold eqOk; rw [h.shaped hn, h'.shaped hn]; simp)]
theorem cmp_ne_of {a b : D} {n : Nat} (h : Sh n a) (h' : Sh n b) (hn : n ≤ 64) : cmpD .NotEq a b = some (!PyData.eqv a b) := by
  show (if _ then _ else _) = _
  rw [if_pos (by unfold eqOk; rw [h.shaped hn, h'.shaped hn]; simp)]
/-! ### items -/
theorem enumD_map {β : Type} {g : β → D} : ∀ (l : List β) (n : Nat), enumD n (l.map g) = (l.zipIdx n).map fun p => .tuple [.int p.2, g p.1]
  | [], n => rfl
  | x :: xs, n => by
    rw [List.map_cons, enumD, enumD_map xs (n + 1)]
    rfl
theorem range_map : ∀ (n m : Nat), intRange n m = (List.range' m n).map fun i => PyData.int (Int.ofNat i)
  | 0, m => rfl
  | n + 1, m => by
    rw [intRange, List.range'_succ, List.map_cons]
    have := range_map n (m + 1)
    rw [show ((m + 1 : Nat) : Int) = (m : Int) + 1 from rfl] at this
    rw [this]
    rfl
theorem range_map0 (n : Nat) : intRange n 0 = nl (List.range n) := by
  have := range_map n 0
  rw [show ((0 : Nat) : Int) = 0 from rfl] at this
  rw [this, List.range_eq_range']
  rfl
theorem zipD_map {β γ : Type} {g : β → D} {h : γ → D} : ∀ (l : List β) (k : List γ), zipD (l.map g) (k.map h) = (l.zip k).map fun p => .tuple [g p.1, h p.2]
  | [], k => by cases k <;> rfl
  | x :: xs, [] => rfl
  | x :: xs, y :: ys => by
    rw [List.map_cons, List.map_cons, zipD, zipD_map xs ys]
    rfl
theorem intsD_map {β : Type} {g : β → Int} : ∀ l : List β, intsD (l.map fun x => .int (g x)) = some (l.map g)
  | [] => rfl
  | x :: xs => by
    rw [List.map_cons, intsD, intsD_map xs]
    rfl
theorem boolsD_map {β : Type} {g : β → Bool} : ∀ l : List β, boolsD (l.map fun x => .bool (g x)) = some (l.map g)
  | [] => rfl
  | x :: xs => by
    rw [List.map_cons, boolsD, boolsD_map xs]
    rfl
theorem bi_all {β : Type} {g : β → Bool} (l : List β) : biD .all [.list (l.map fun x => .bool (g x))] = some (.bool (l.all g), []) := by
  show (boolsD _).map _ = _
  rw [boolsD_map]
  simp [List.all_map]
theorem bi_any {β : Type} {g : β → Bool} (l : List β) : biD .any [.list (l.map fun x => .bool (g x))] = some (.bool (l.any g), []) := by
  show (boolsD _).map _ = _
  rw [boolsD_map]
  simp [List.any_map]
theorem bi_sum {β : Type} {g : β → Int} (l : List β) : biD .sum [.list (l.map fun x => .int (g x))] = some (.int (l.map g).sum, []) := by
  show (intsD _).map _ = _
  rw [intsD_map]
  rfl
@[simp] theorem bi_len_l (l : List D) : biD .len [.list l] = some (.int l.length, []) := rfl
@[simp] theorem bi_len_t (l : List D) : biD .len [.tuple l] = some (.int l.length, []) := rfl
@[simp] theorem bi_tuple_l (l : List D) : biD .tuple [.list l] = some (.tuple l, l) := rfl
@[simp] theorem bi_tuple_t (l : List D) : biD .tuple [.tuple l] = some (.tuple l, l) := rfl
@[simp] theorem bi_list_l (l : List D) : biD .list [.list l] = some (.list l, l) := rfl
@[simp] theorem bi_list_t (l : List D) : biD .list [.tuple l] = some (.list l, l) := rfl
@[simp] theorem bi_int_i (i : Int) : biD .int [.int i] = some (.int i, []) := rfl
@[simp] theorem bi_abs (i : Int) : biD .abs [.int i] = some (.int i.natAbs, []) := rfl
@[simp] theorem bi_max2 (i j : Int) : biD .max2 [.int i, .int j] = some (.int (max i j), []) := by
  show some (PyData.int (if j > i then j else i), ([] : List D)) = _
  congr 2
  congr 1
  omega
@[simp] theorem bi_min2 (i j : Int) : biD .min2 [.int i, .int j] = some (.int (min i j), []) := by
  show some (PyData.int (if j < i then j else i), ([] : List D)) = _
  congr 2
  congr 1
  omega
/-- a comprehension that changes nothing -/
theorem T_pure {β : Type} {elt : Rho → Option (D × Bool × Rho)} {cond : Rho → Option (Bool × Rho)} {tg : D → Rho → Option Rho} {own : List Nat} (g : β → D) (p : β → Bool) (f : β → D) (o : Bool) (r0 : Rho) {l : List β} {r : Rho} {Q : List D × Bool × Rho → Prop}
    (h0 : wipeR r own = r0)
    (step : ∀ x ∈ l, T (tg (g x) r0) fun r1 => T (cond r1) fun b => b.1 = p x ∧ if p x then T (elt b.2) fun y => y.1 = f x ∧ y.2.1 = o ∧ wipeR y.2.2 own = r0 else wipeR b.2 own = r0)
    (k : ∀ r', wipeR r' own = r0 → Q ((l.filter p).map f, o, r')) : T (loopT elt cond tg own (l.map g) r [] o) Q := by
  refine T_loopC (Inv := fun xs acc r => ∃ a b, l = a ++ b ∧ xs = b.map g ∧ acc = (a.filter p).map f ∧ wipeR r own = r0) (fun x xs acc r h => ?_) ⟨[], l, rfl, rfl, rfl, h0⟩ fun acc r' h => ?_
  · obtain ⟨a, b, e1, e2, e3, e4⟩ := h
    cases b with
    | nil => cases e2
    | cons y b =>
      rw [List.map_cons] at e2
      cases e2
      rw [e4]
      refine (step y (by rw [e1]; simp)).mono fun r1 h1 => h1.mono fun b' h2 => ?_
      obtain ⟨q1, q2⟩ := h2
      rw [q1]
      cases hp : p y with
      | true =>
        rw [hp] at q2
        simp only [if_true] at q2 ⊢
        refine q2.mono fun z h3 => ?_
        obtain ⟨z1, z2, z3⟩ := h3
        refine ⟨z2, a ++ [y], b, by simp [e1], rfl, ?_, z3⟩
        rw [z1, e3]
        simp [List.filter_append, hp]
      | false =>
        rw [hp] at q2
        refine ⟨a ++ [y], b, by simp [e1], rfl, ?_, by simpa using q2⟩
        rw [e3]
        simp [List.filter_append, hp]
  · obtain ⟨a, b, e1, e2, e3, e4⟩ := h
    have : b = [] := by cases b with
      | nil => rfl
      | cons y b => cases e2
    subst this
    rw [List.append_nil] at e1
    rw [e3, ← e1]
    exact k _ e4
/-- without a test -/
theorem T_pure0 {call : CallT} {β : Type} {elt : Rho → Option (D × Bool × Rho)} {tg : D → Rho → Option Rho} {own : List Nat} (g : β → D) (f : β → D) (o : Bool) (r0 : Rho) {l : List β} {r : Rho} {Q : List D × Bool × Rho → Prop}
    (h0 : wipeR r own = r0)
    (step : ∀ x ∈ l, T (tg (g x) r0) fun r1 => T (elt r1) fun y => y.1 = f x ∧ y.2.1 = o ∧ wipeR y.2.2 own = r0)
    (k : ∀ r', wipeR r' own = r0 → Q (l.map f, o, r')) : T (loopT elt (fun r => evc call .no r) tg own (l.map g) r [] o) Q :=
  T_pure g (fun _ => true) f o r0 h0 (fun x hx => (step x hx).mono fun r1 h1 => by
    show T (evc call .no r1) _
    rw [R_cno]
    exact ⟨rfl, by rw [if_pos rfl]; exact h1⟩) fun r' hr => by
      have := k r' hr
      have e : l.filter (fun _ => true) = l := List.filter_eq_self.mpr fun _ _ => rfl
      rw [e]
      exact this
/-- with a test by an expression -/
theorem T_purec {call : CallT} {ce : CE} {β : Type} {elt : Rho → Option (D × Bool × Rho)} {tg : D → Rho → Option Rho} {own : List Nat} (g : β → D) (p : β → Bool) (f : β → D) (o : Bool) (r0 : Rho) {l : List β} {r : Rho} {Q : List D × Bool × Rho → Prop}
    (h0 : wipeR r own = r0)
    (step : ∀ x ∈ l, T (tg (g x) r0) fun r1 => T (ev call ce r1) (askK fun b => b.1 = p x ∧ if p x then T (elt b.2) fun y => y.1 = f x ∧ y.2.1 = o ∧ wipeR y.2.2 own = r0 else wipeR b.2 own = r0))
    (k : ∀ r', wipeR r' own = r0 → Q ((l.filter p).map f, o, r')) : T (loopT elt (fun r => evc call (.yes ce) r) tg own (l.map g) r [] o) Q :=
  T_pure g p f o r0 h0 (fun x hx => (step x hx).mono fun r1 h1 => by
    show T (evc call (.yes ce) r1) _
    rw [R_cyes]
    exact h1) k
/-! ### operators -/
section
variable (a b : Int)
@[simp] theorem op_add : opD .Add (.int a) (.int b) = some (.int (a + b), []) := rfl
@[simp] theorem op_sub : opD .Sub (.int a) (.int b) = some (.int (a - b), []) := rfl
theorem op_mul (h : mulOk a b = true) : opD .Mult (.int a) (.int b) = some (.int (a * b), []) := by
  show (arith .Mult a b).map _ = _
  simp [arith, h]
theorem op_fdiv (h : 0 < b) (h2 : b < 2 ^ 64) : opD .FloorDiv (.int a) (.int b) = some (.int (a / b), []) := by
  show (arith .FloorDiv a b).map _ = _
  have e : divOk b = true := by
    unfold divOk
    rw [decide_eq_true h, Bool.true_and, decide_eq_true_eq]
    have : b.natAbs < 2 ^ 64 := by omega
    rcases Nat.eq_zero_or_pos b.natAbs with z | z
    · rw [z]; decide
    · exact Nat.lt_of_lt_of_le ((Nat.log2_lt (by omega)).mpr this) (by decide)
  simp [arith, e]
theorem op_mod (h : 0 < b) : opD .Mod (.int a) (.int b) = some (.int (a % b), []) := by
  show (arith .Mod a b).map _ = _
  simp [arith, h]
theorem op_shl (h : 0 ≤ b) (h2 : b ≤ 1000) (h3 : a.natAbs < 2 ^ 64) : opD .LShift (.int a) (.int b) = some (.int (a * 2 ^ b.toNat), []) := by
  show (arith .LShift a b).map _ = _
  simp [arith, h, h2, h3]
theorem op_shr (h : 0 ≤ b) : opD .RShift (.int a) (.int b) = some (.int (a / 2 ^ b.toNat), []) := by
  show (arith .RShift a b).map _ = _
  simp [arith, h]
@[simp] theorem op_and : opD .BitAnd (.int a) (.int b) = some (.int (Builtin.bitAnd a b), []) := rfl
end
theorem op_cat_t {k l : List D} (h : k.length + l.length ≤ 1000000) : opD .Add (.tuple k) (.tuple l) = some (.tuple (k ++ l), k ++ l) := by
  show (if _ then _ else _) = _
  rw [if_pos (by rw [small_of h]; rfl)]
theorem op_cat_l {k l : List D} (h : k.length + l.length ≤ 1000000) : opD .Add (.list k) (.list l) = some (.list (k ++ l), k ++ l) := by
  show (if _ then _ else _) = _
  rw [if_pos (by rw [small_of h]; rfl)]
/-! ### places -/
theorem ix_nat {n k : Nat} (h : k < n) : ixD n (k : Int) = some k := by
  show (if (0 : Int) ≤ k then (if (k : Int) < n then some (k : Int).toNat else none) else _) = _
  rw [if_pos (by omega), if_pos (by omega)]
  rfl
theorem ix_last {n : Nat} (h : 0 < n) : ixD n (-1) = some (n - 1) := by
  show (if (0 : Int) ≤ -1 then _ else if -(n : Int) ≤ -1 then some ((-1 : Int) + n).toNat else none) = _
  rw [if_neg (by omega), if_pos (by omega)]
  congr 1
  omega
theorem idx_l {l : List D} {k : Nat} {d : D} (h : l[k]? = some d) : idxD (.list l) (.int k) = some d := by
  show (ixD l.length k).bind _ = _
  rw [ix_nat (List.getElem?_eq_some_iff.mp h).1]
  exact h
theorem idx_t {l : List D} {k : Nat} {d : D} (h : l[k]? = some d) : idxD (.tuple l) (.int k) = some d := by
  show (ixD l.length k).bind _ = _
  rw [ix_nat (List.getElem?_eq_some_iff.mp h).1]
  exact h
section
variable (a b c e f g : D)
@[simp] theorem ix1_0 : idxD (.tuple [a]) (.int 0) = some a := rfl
@[simp] theorem ix2_0 : idxD (.tuple [a, b]) (.int 0) = some a := rfl
@[simp] theorem ix2_1 : idxD (.tuple [a, b]) (.int 1) = some b := rfl
@[simp] theorem ix3_0 : idxD (.tuple [a, b, c]) (.int 0) = some a := rfl
@[simp] theorem ix3_1 : idxD (.tuple [a, b, c]) (.int 1) = some b := rfl
@[simp] theorem ix3_2 : idxD (.tuple [a, b, c]) (.int 2) = some c := rfl
@[simp] theorem lx2_0 : idxD (.list [a, b]) (.int 0) = some a := rfl
@[simp] theorem lx2_1 : idxD (.list [a, b]) (.int 1) = some b := rfl
end
theorem rng_ok {n : Nat} (h : n ≤ 100000) : (decide ((n : Int) ≤ 100000) && decide ((-100000 : Int) ≤ n)) = true := by
  rw [decide_eq_true (by omega), decide_eq_true (by omega)]; rfl
@[simp] theorem toNat_cast (n : Nat) : ((n : Int)).toNat = n := rfl
@[simp] theorem fin_imm {cp : Bool} {top : List D} {d : D} {os : List Opd} {r : Rho} (h : imm d = true) : fin cp top d os r = some (.val d true, r) := by
  unfold fin
  rw [if_pos h]
theorem fin_top {top : List D} {d : D} {os : List Opd} {r : Rho} (h : imms top = true) : fin true top d os r = some (.val d true, r) := by
  unfold fin
  by_cases k : imm d = true
  · rw [if_pos k]
  · rw [if_neg k, if_pos (by rw [h]; rfl)]
theorem cut_from (l : List D) (k : Nat) : cutD l (some (k : Int)) none = l.drop k := by
  unfold cutD
  have e : HT.sIx l.length 0 (some (k : Int)) = min k l.length := HT.sIx_nat _ _ _
  have e2 : HT.sIx l.length l.length none = l.length := rfl
  rw [e, e2]
  by_cases h : k ≤ l.length
  · rw [Nat.min_eq_left h, List.take_of_length_le (by rw [List.length_drop]; exact Nat.le_refl _)]
  · rw [Nat.min_eq_right (by omega), List.drop_eq_nil_of_le (Nat.le_refl _), List.drop_eq_nil_of_le (by omega), List.take_nil]
theorem cut_to (l : List D) (k : Nat) : cutD l none (some (k : Int)) = l.take k := by
  unfold cutD
  have e : HT.sIx l.length l.length (some (k : Int)) = min k l.length := HT.sIx_nat _ _ _
  have e2 : HT.sIx l.length 0 none = 0 := rfl
  rw [e, e2, List.drop_zero, Nat.sub_zero]
  by_cases h : k ≤ l.length
  · rw [Nat.min_eq_left h]
  · rw [Nat.min_eq_right (by omega), List.take_of_length_le (Nat.le_refl _), List.take_of_length_le (by omega)]
theorem cut_from1 (l : List D) : cutD l (some 1) none = l.drop 1 := cut_from l 1
theorem slc_t1 (l : List D) : slcD (.tuple l) (some 1) none = some (.tuple (l.drop 1), l.drop 1) := by
  show some (PyData.tuple (cutD l (some 1) none), cutD l (some 1) none) = _
  rw [cut_from1]
theorem nl_drop (l : List Nat) (k : Nat) : (nl l).drop k = nl (l.drop k) := List.map_drop.symm
theorem nl_take (l : List Nat) (k : Nat) : (nl l).take k = nl (l.take k) := List.map_take.symm
theorem and_bit (m p : Nat) : Builtin.bitAnd (((m : Nat) : Int) / 2 ^ p) 1 = if m.testBit p then 1 else 0 := by
  rw [PyProof.Rows.bitAnd_m1, Nat.testBit_eq_decide_div_mod_eq]
  have : ((m : Int) / 2 ^ p) = ((m / 2 ^ p : Nat) : Int) := by simp
  rw [this]
  by_cases h : m / 2 ^ p % 2 = 1
  · simp [h]; omega
  · simp [h]; omega
@[simp] theorem slc_tn (l : List Nat) : slcD (.tuple (nl l)) (some 1) none = some (.tuple (nl (l.drop 1)), nl (l.drop 1)) := by rw [slc_t1, nl_drop]
@[simp] theorem zip_nl (a b : List Nat) : zipD (nl a) (nl b) = (a.zip b).map pD := zipD_map a b
@[simp] theorem items_l (l : List D) : items (.list l) = some l := rfl
@[simp] theorem items_t (l : List D) : items (.tuple l) = some l := rfl
@[simp] theorem same_ll (k l : List D) : sameK (some (.list k)) (some (.list l)) = true := rfl
@[simp] theorem same_tt (k l : List D) : sameK (some (.tuple k)) (some (.tuple l)) = true := rfl
/-- a comprehension that changes nothing but what P lets -/
theorem T_pureP {call : CallT} {ce : CE} {β : Type} {elt : Rho → Option (D × Bool × Rho)} {tg : D → Rho → Option Rho} {own : List Nat} (g : β → D) (p : β → Bool) (f : β → D) (o : Bool) (P : Rho → Prop) {l : List β} {r : Rho} {Q : List D × Bool × Rho → Prop}
    (h0 : P (wipeR r own))
    (step : ∀ x ∈ l, ∀ r0, P r0 → T (tg (g x) r0) fun r1 => T (ev call ce r1) (askK fun b => b.1 = p x ∧ if p x then T (elt b.2) fun y => y.1 = f x ∧ y.2.1 = o ∧ P (wipeR y.2.2 own) else P (wipeR b.2 own)))
    (k : ∀ r', P (wipeR r' own) → Q ((l.filter p).map f, o, r')) : T (loopT elt (fun r => evc call (.yes ce) r) tg own (l.map g) r [] o) Q := by
  refine T_loopC (Inv := fun xs acc r => ∃ a b, l = a ++ b ∧ xs = b.map g ∧ acc = (a.filter p).map f ∧ P (wipeR r own)) (fun x xs acc r h => ?_) ⟨[], l, rfl, rfl, rfl, h0⟩ fun acc r' h => ?_
  · obtain ⟨a, b, e1, e2, e3, e4⟩ := h
    cases b with
    | nil => cases e2
    | cons y b =>
      rw [List.map_cons] at e2
      cases e2
      refine (step y (by rw [e1]; simp) _ e4).mono fun r1 h1 => (R_cyes.mpr h1).mono fun z hz => ?_
      obtain ⟨x, r2⟩ := z
      obtain ⟨q1, q2⟩ := hz
      simp only at q1
      subst q1
      cases hp : p y with
      | true =>
        rw [hp] at q2
        simp only [if_true] at q2 ⊢
        refine q2.mono fun z h3 => ?_
        obtain ⟨z1, z2, z3⟩ := h3
        refine ⟨z2, a ++ [y], b, by simp [e1], rfl, ?_, z3⟩
        rw [z1, e3]
        simp [List.filter_append, hp]
      | false =>
        rw [hp] at q2
        refine ⟨a ++ [y], b, by simp [e1], rfl, ?_, by simpa using q2⟩
        rw [e3]
        simp [List.filter_append, hp]
  · obtain ⟨a, b, e1, e2, e3, e4⟩ := h
    have : b = [] := by cases b with
      | nil => rfl
      | cons y b => cases e2
    subst this
    rw [List.append_nil] at e1
    rw [e3, ← e1]
    exact k _ e4
theorem T_pureP0 {call : CallT} {β : Type} {elt : Rho → Option (D × Bool × Rho)} {tg : D → Rho → Option Rho} {own : List Nat} (g : β → D) (f : β → D) (o : Bool) (P : Rho → Prop) {l : List β} {r : Rho} {Q : List D × Bool × Rho → Prop}
    (h0 : P (wipeR r own))
    (step : ∀ x ∈ l, ∀ r0, P r0 → T (tg (g x) r0) fun r1 => T (elt r1) fun y => y.1 = f x ∧ y.2.1 = o ∧ P (wipeR y.2.2 own))
    (k : ∀ r', P (wipeR r' own) → Q (l.map f, o, r')) : T (loopT elt (fun r => evc call .no r) tg own (l.map g) r [] o) Q := by
  refine T_loopC (Inv := fun xs acc r => ∃ a b, l = a ++ b ∧ xs = b.map g ∧ acc = a.map f ∧ P (wipeR r own)) (fun x xs acc r h => ?_) ⟨[], l, rfl, rfl, rfl, h0⟩ fun acc r' h => ?_
  · obtain ⟨a, b, e1, e2, e3, e4⟩ := h
    cases b with
    | nil => cases e2
    | cons y b =>
      rw [List.map_cons] at e2
      cases e2
      refine (step y (by rw [e1]; simp) _ e4).mono fun r1 h1 => R_cno.mpr ?_
      simp only [if_true]
      refine h1.mono fun z h3 => ?_
      obtain ⟨z1, z2, z3⟩ := h3
      refine ⟨z2, a ++ [y], b, by simp [e1], rfl, ?_, z3⟩
      rw [z1, e3]
      simp
  · obtain ⟨a, b, e1, e2, e3, e4⟩ := h
    have : b = [] := by cases b with
      | nil => rfl
      | cons y b => cases e2
    subst this
    rw [List.append_nil] at e1
    rw [e3, ← e1]
    exact k _ e4
end Cv
namespace T80
open PySem Cr
def f_is_integer : Cr.FE :=
  { name := (PySem.Str.ofString "is_integer"), par := 1, N := [(PySem.Str.ofString "value")], pin := false, body := (.cons (.ret (.an (.isi (.var 0) [.int]) (.nt (.isi (.var 0) [.bool]))))
    .nil) }
def f_is_position (i_is_integer : Nat) : Cr.FE :=
  { name := (PySem.Str.ofString "is_position"), par := 2, N := [(PySem.Str.ofString "value"), (PySem.Str.ofString "many")], pin := false, body := (.cons (.ret (.an (.call i_is_integer (.cons (.var 0) .nil)) (.cmp3 .LtE .Lt (.con (.int 0)) (.var 0) (.var 1))))
    .nil) }
def f_are_rising (i_is_position : Nat) : Cr.FE :=
  { name := (PySem.Str.ofString "are_rising"), par := 2, N := [(PySem.Str.ofString "value"), (PySem.Str.ofString "many"), (PySem.Str.ofString "one"), (PySem.Str.ofString "other")], pin := false, body := (.cons (.ife (.orr (.nt (.isi (.var 0) [.tuple])) (.nt (.bi .all (.cons (.comp (.call i_is_position (.cons (.var 2) (.cons (.var 1) .nil))) (.nm 2) (.ofE (.var 0)) true .no [2]) .nil)))) (.cons (.ret (.con (.bool false)))
    .nil) .nil)
    (.cons (.ret (.bi .all (.cons (.comp (.cmp .Lt (.var 2) (.var 3)) (.tup [(.nm 2), (.nm 3)]) (.zip (.var 0) (.slc (.var 0) (.yes (.con (.int 1))) .no)) true .no [2, 3]) .nil)))
    .nil)) }
def f_mask_of : Cr.FE :=
  { name := (PySem.Str.ofString "mask_of"), par := 1, N := [(PySem.Str.ofString "some"), (PySem.Str.ofString "place")], pin := false, body := (.cons (.ret (.bi .sum (.cons (.comp (.op2 .LShift (.con (.int 1)) (.var 1)) (.nm 1) (.ofE (.var 0)) true .no [1]) .nil)))
    .nil) }
def f_arrow_is_right (i_is_position : Nat) : Cr.FE :=
  { name := (PySem.Str.ofString "arrow_is_right"), par := 2, N := [(PySem.Str.ofString "places"), (PySem.Str.ofString "value"), (PySem.Str.ofString "one")], pin := false, body := (.cons (.ife (.orr (.nt (.isi (.var 1) [.tuple])) (.orr (.cmp .NotEq (.bi .len (.cons (.var 1) .nil)) (.con (.int 2))) (.nt (.bi .all (.cons (.comp (.call i_is_position (.cons (.var 2) (.cons (.var 0) .nil))) (.nm 2) (.ofE (.var 1)) true .no [2]) .nil))))) (.cons (.ret (.con (.bool false)))
    .nil) .nil)
    (.cons (.ret (.cmp .NotEq (.idx (.var 1) (.con (.int 0))) (.idx (.var 1) (.con (.int 1)))))
    .nil)) }
def f_arrows_are_right (i_arrow_is_right : Nat) (i_is_integer : Nat) : Cr.FE :=
  { name := (PySem.Str.ofString "arrows_are_right"), par := 1, N := [(PySem.Str.ofString "value"), (PySem.Str.ofString "pair")], pin := false, body := (.cons (.ife (.orr (.nt (.isi (.var 0) [.tuple])) (.orr (.cmp .NotEq (.bi .len (.cons (.var 0) .nil)) (.con (.int 3))) (.orr (.nt (.isi (.idx (.var 0) (.con (.int 0))) [.str])) (.cmp .NotEq (.idx (.var 0) (.con (.int 0))) (.con (.str (PySem.Str.ofString "arrows"))))))) (.cons (.ret (.con (.bool false)))
    .nil) .nil)
    (.cons (.ife (.orr (.nt (.call i_is_integer (.cons (.idx (.var 0) (.con (.int 1))) .nil))) (.nt (.cmp3 .LtE .LtE (.con (.int 1)) (.idx (.var 0) (.con (.int 1))) (.glb (PySem.Str.ofString "MOST_PLACES") (.int 7))))) (.cons (.ret (.con (.bool false)))
    .nil) .nil)
    (.cons (.ife (.orr (.nt (.isi (.idx (.var 0) (.con (.int 2))) [.tuple])) (.cmp .Gt (.bi .len (.cons (.idx (.var 0) (.con (.int 2))) .nil)) (.glb (PySem.Str.ofString "MOST_ARROWS") (.int 16)))) (.cons (.ret (.con (.bool false)))
    .nil) .nil)
    (.cons (.ret (.bi .all (.cons (.comp (.call i_arrow_is_right (.cons (.idx (.var 0) (.con (.int 1))) (.cons (.var 1) .nil))) (.nm 1) (.ofE (.idx (.var 0) (.con (.int 2)))) false .no [1]) .nil)))
    .nil)))) }
def f_enters : Cr.FE :=
  { name := (PySem.Str.ofString "enters"), par := 2, N := [(PySem.Str.ofString "mask"), (PySem.Str.ofString "pair")], pin := false, body := (.cons (.ret (.an (.cmp .Eq (.op2 .BitAnd (.op2 .RShift (.var 0) (.idx (.var 1) (.con (.int 0)))) (.con (.int 1))) (.con (.int 0))) (.cmp .Eq (.op2 .BitAnd (.op2 .RShift (.var 0) (.idx (.var 1) (.con (.int 1)))) (.con (.int 1))) (.con (.int 1)))))
    .nil) }
def f_turned_pairs : Cr.FE :=
  { name := (PySem.Str.ofString "turned_pairs"), par := 1, N := [(PySem.Str.ofString "pairs"), (PySem.Str.ofString "start"), (PySem.Str.ofString "goal")], pin := false, body := (.cons (.ret (.comp (.tup (.cons (.var 2) (.cons (.var 1) .nil))) (.tup [(.nm 1), (.nm 2)]) (.ofE (.var 0)) true .no [1, 2]))
    .nil) }
def f_comes_from : Cr.FE :=
  { name := (PySem.Str.ofString "comes_from"), par := 2, N := [(PySem.Str.ofString "pairs"), (PySem.Str.ofString "place"), (PySem.Str.ofString "walks"), (PySem.Str.ofString "front"), (PySem.Str.ofString "longer"), (PySem.Str.ofString "here"), (PySem.Str.ofString "at"), (PySem.Str.ofString "start"), (PySem.Str.ofString "goal"), (PySem.Str.ofString "way")], pin := false, body := (.cons (.par2 2 3 (.dic (.cons (.var 1) .nil) (.cons (.tup .nil) .nil)) (.lst (.cons (.var 1) .nil)))
    (.cons (.whil (.cmp .NotEq (.var 3) (.lst .nil)) (.cons (.set 4 (.dic .nil .nil))
    (.cons (.forr (.nm 5) (.ofE (.var 3)) true (.cons (.forr (.tup [(.nm 6), (.tup [(.nm 7), (.nm 8)])]) (.enum (.var 0)) true (.cons (.ife (.an (.cmp .Eq (.var 7) (.var 5)) (.cmp .NotIn (.var 8) (.var 2))) (.cons (.set 9 (.op2 .Add (.idx (.var 2) (.var 5)) (.tup (.cons (.var 6) .nil))))
    (.cons (.sub 4 (.var 8) (.bi .min2 (.cons (.get2 (.var 4) (.var 8) (.var 9)) (.cons (.var 9) .nil))))
    .nil)) .nil)
    .nil))
    .nil))
    (.cons (.upd 2 (.var 4))
    (.cons (.set 3 (.bi .sorted (.cons (.var 4) .nil)))
    .nil)))))
    (.cons (.ret (.var 2))
    .nil))) }
def f_classes_of (i_comes_from : Nat) : Cr.FE :=
  { name := (PySem.Str.ofString "classes_of"), par := 2, N := [(PySem.Str.ofString "places"), (PySem.Str.ofString "pairs"), (PySem.Str.ofString "reached"), (PySem.Str.ofString "found"), (PySem.Str.ofString "place"), (PySem.Str.ofString "one"), (PySem.Str.ofString "other")], pin := false, body := (.cons (.set 2 (.comp (.call i_comes_from (.cons (.var 1) (.cons (.var 4) .nil))) (.nm 4) (.rng1 (.var 0)) false .no [4]))
    (.cons (.set 3 (.lst .nil))
    (.cons (.forr (.nm 4) (.rng1 (.var 0)) false (.cons (.set 5 (.bi .tuple (.cons (.comp (.var 6) (.nm 6) (.rng1 (.var 0)) false (.yes (.an (.cmp .In (.var 6) (.idx (.var 2) (.var 4))) (.cmp .In (.var 4) (.idx (.var 2) (.var 6))))) [6]) .nil)))
    (.cons (.ife (.cmp .NotIn (.var 5) (.var 3)) (.cons (.app 3 (.var 5))
    .nil) .nil)
    .nil)))
    (.cons (.ret (.var 3))
    .nil)))) }
def f_check_arrows (i_arrows_are_right : Nat) : Cr.FE :=
  { name := (PySem.Str.ofString "check_arrows"), par := 1, N := [(PySem.Str.ofString "arrows")], pin := false, body := (.cons (.ife (.nt (.call i_arrows_are_right (.cons (.var 0) .nil))) (.cons .rai
    .nil) .nil)
    .nil) }
def f_check_place (i_is_position : Nat) : Cr.FE :=
  { name := (PySem.Str.ofString "check_place"), par := 2, N := [(PySem.Str.ofString "arrows"), (PySem.Str.ofString "place")], pin := false, body := (.cons (.ife (.nt (.call i_is_position (.cons (.var 1) (.cons (.idx (.var 0) (.con (.int 1))) .nil)))) (.cons .rai
    .nil) .nil)
    .nil) }
def f_check_set (i_are_rising : Nat) : Cr.FE :=
  { name := (PySem.Str.ofString "check_set"), par := 2, N := [(PySem.Str.ofString "arrows"), (PySem.Str.ofString "some")], pin := false, body := (.cons (.ife (.nt (.call i_are_rising (.cons (.var 1) (.cons (.idx (.var 0) (.con (.int 1))) .nil)))) (.cons .rai
    .nil) .nil)
    .nil) }
def f_entering (i_enters : Nat) (i_mask_of : Nat) (i_check_set : Nat) (i_check_arrows : Nat) : Cr.FE :=
  { name := (PySem.Str.ofString "entering"), par := 2, N := [(PySem.Str.ofString "arrows"), (PySem.Str.ofString "some"), (PySem.Str.ofString "at"), (PySem.Str.ofString "pair")], pin := false, body := (.cons (.expr (.call i_check_arrows (.cons (.var 0) .nil)))
    (.cons (.expr (.call i_check_set (.cons (.var 0) (.cons (.var 1) .nil))))
    (.cons (.ret (.bi .tuple (.cons (.comp (.var 2) (.tup [(.nm 2), (.nm 3)]) (.enum (.idx (.var 0) (.con (.int 2)))) false (.yes (.call i_enters (.cons (.call i_mask_of (.cons (.var 1) .nil)) (.cons (.var 3) .nil)))) [2, 3]) .nil)))
    .nil))) }
def f_leaving (i_turned_pairs : Nat) (i_enters : Nat) (i_mask_of : Nat) (i_check_set : Nat) (i_check_arrows : Nat) : Cr.FE :=
  { name := (PySem.Str.ofString "leaving"), par := 2, N := [(PySem.Str.ofString "arrows"), (PySem.Str.ofString "some"), (PySem.Str.ofString "at"), (PySem.Str.ofString "pair")], pin := false, body := (.cons (.expr (.call i_check_arrows (.cons (.var 0) .nil)))
    (.cons (.expr (.call i_check_set (.cons (.var 0) (.cons (.var 1) .nil))))
    (.cons (.ret (.bi .tuple (.cons (.comp (.var 2) (.tup [(.nm 2), (.nm 3)]) (.enum (.call i_turned_pairs (.cons (.idx (.var 0) (.con (.int 2))) .nil))) false (.yes (.call i_enters (.cons (.call i_mask_of (.cons (.var 1) .nil)) (.cons (.var 3) .nil)))) [2, 3]) .nil)))
    .nil))) }
def f_walk (i_comes_from : Nat) (i_check_place : Nat) (i_check_arrows : Nat) : Cr.FE :=
  { name := (PySem.Str.ofString "walk"), par := 3, N := [(PySem.Str.ofString "arrows"), (PySem.Str.ofString "one"), (PySem.Str.ofString "other")], pin := false, body := (.cons (.expr (.call i_check_arrows (.cons (.var 0) .nil)))
    (.cons (.expr (.call i_check_place (.cons (.var 0) (.cons (.var 1) .nil))))
    (.cons (.expr (.call i_check_place (.cons (.var 0) (.cons (.var 2) .nil))))
    (.cons (.ret (.get1 (.call i_comes_from (.cons (.idx (.var 0) (.con (.int 2))) (.cons (.var 1) .nil))) (.var 2)))
    .nil)))) }
def f_arrow_classes (i_classes_of : Nat) (i_check_arrows : Nat) : Cr.FE :=
  { name := (PySem.Str.ofString "arrow_classes"), par := 1, N := [(PySem.Str.ofString "arrows")], pin := false, body := (.cons (.expr (.call i_check_arrows (.cons (.var 0) .nil)))
    (.cons (.ret (.call i_classes_of (.cons (.idx (.var 0) (.con (.int 1))) (.cons (.idx (.var 0) (.con (.int 2))) .nil))))
    .nil)) }
def f_sources (i_classes_of : Nat) (i_enters : Nat) (i_mask_of : Nat) (i_check_arrows : Nat) : Cr.FE :=
  { name := (PySem.Str.ofString "sources"), par := 1, N := [(PySem.Str.ofString "arrows"), (PySem.Str.ofString "pairs"), (PySem.Str.ofString "one"), (PySem.Str.ofString "pair")], pin := false, body := (.cons (.expr (.call i_check_arrows (.cons (.var 0) .nil)))
    (.cons (.set 1 (.idx (.var 0) (.con (.int 2))))
    (.cons (.ret (.comp (.var 2) (.nm 2) (.ofE (.call i_classes_of (.cons (.idx (.var 0) (.con (.int 1))) (.cons (.var 1) .nil)))) false (.yes (.nt (.bi .any (.cons (.comp (.call i_enters (.cons (.call i_mask_of (.cons (.var 2) .nil)) (.cons (.var 3) .nil))) (.nm 3) (.ofE (.var 1)) true .no [3]) .nil)))) [2]))
    .nil))) }
def f_sinks (i_classes_of : Nat) (i_enters : Nat) (i_mask_of : Nat) (i_turned_pairs : Nat) (i_check_arrows : Nat) : Cr.FE :=
  { name := (PySem.Str.ofString "sinks"), par := 1, N := [(PySem.Str.ofString "arrows"), (PySem.Str.ofString "pairs"), (PySem.Str.ofString "one"), (PySem.Str.ofString "pair")], pin := false, body := (.cons (.expr (.call i_check_arrows (.cons (.var 0) .nil)))
    (.cons (.set 1 (.call i_turned_pairs (.cons (.idx (.var 0) (.con (.int 2))) .nil)))
    (.cons (.ret (.comp (.var 2) (.nm 2) (.ofE (.call i_classes_of (.cons (.idx (.var 0) (.con (.int 1))) (.cons (.var 1) .nil)))) false (.yes (.nt (.bi .any (.cons (.comp (.call i_enters (.cons (.call i_mask_of (.cons (.var 2) .nil)) (.cons (.var 3) .nil))) (.nm 3) (.ofE (.var 1)) true .no [3]) .nil)))) [2]))
    .nil))) }
def f_all_reach (i_classes_of : Nat) (i_check_arrows : Nat) : Cr.FE :=
  { name := (PySem.Str.ofString "all_reach"), par := 1, N := [(PySem.Str.ofString "arrows")], pin := false, body := (.cons (.expr (.call i_check_arrows (.cons (.var 0) .nil)))
    (.cons (.ret (.cmp .Eq (.bi .len (.cons (.call i_classes_of (.cons (.idx (.var 0) (.con (.int 1))) (.cons (.idx (.var 0) (.con (.int 2))) .nil))) .nil)) (.con (.int 1))))
    .nil)) }
def f__law_pot : Cr.FE :=
  { name := (PySem.Str.ofString "_law_pot"), par := 2, N := [(PySem.Str.ofString "script"), (PySem.Str.ofString "k"), (PySem.Str.ofString "cell"), (PySem.Str.ofString "mixed")], pin := false, body := (.cons (.set 2 (.ife (.cmp .Lt (.var 1) (.bi .len (.cons (.var 0) .nil))) (.bi .abs (.cons (.idx (.var 0) (.var 1)) .nil)) (.op2 .Add (.op2 .Mult (.con (.int 571)) (.var 1)) (.con (.int 709)))))
    (.cons (.set 3 (.op2 .Add (.op2 .Mod (.bi .int (.cons (.op2 .Add (.op2 .Add (.op2 .Mult (.op2 .Mod (.bi .int (.cons (.var 2) .nil)) (.con (.int 2147483563))) (.con (.int 40014))) (.op2 .Mult (.con (.int 3457)) (.var 1))) (.con (.int 71))) .nil)) (.con (.int 2147483549))) (.con (.int 1))))
    (.cons (.ret (.lst (.cons (.bi .max2 (.cons (.con (.int 0)) (.cons (.op2 .Sub (.var 2) (.op2 .Pow (.con (.int 10)) (.con (.int 18)))) .nil))) (.cons (.var 3) .nil))))
    .nil))) }
def f__law_draw : Cr.FE :=
  { name := (PySem.Str.ofString "_law_draw"), par := 2, N := [(PySem.Str.ofString "pot"), (PySem.Str.ofString "many"), (PySem.Str.ofString "digit")], pin := true, body := (.cons (.ife (.cmp .Gt (.idx (.var 0) (.con (.int 0))) (.con (.int 0))) (.cons (.set 2 (.op2 .Mod (.bi .int (.cons (.idx (.var 0) (.con (.int 0))) .nil)) (.var 1)))
    (.cons (.sub 0 (.con (.int 0)) (.op2 .FloorDiv (.bi .int (.cons (.idx (.var 0) (.con (.int 0))) .nil)) (.var 1)))
    (.cons (.ret (.var 2))
    .nil))) .nil)
    (.cons (.sub 0 (.con (.int 1)) (.op2 .Mod (.bi .int (.cons (.op2 .Add (.op2 .Mult (.idx (.var 0) (.con (.int 1))) (.con (.int 40014))) (.con (.int 3457))) .nil)) (.con (.int 2147483563))))
    (.cons (.ret (.op2 .Mod (.bi .int (.cons (.op2 .FloorDiv (.op2 .Mod (.bi .int (.cons (.op2 .Mult (.idx (.var 0) (.con (.int 1))) (.idx (.var 0) (.con (.int 1)))) .nil)) (.con (.int 2147483587))) (.con (.int 13))) .nil)) (.var 1)))
    .nil))) }
def f__law_pick (i__law_draw : Nat) : Cr.FE :=
  { name := (PySem.Str.ofString "_law_pick"), par := 2, N := [(PySem.Str.ofString "pot"), (PySem.Str.ofString "some")], pin := true, body := (.cons (.ret (.idx (.var 1) (.callp i__law_draw 0 (.cons (.bi .len (.cons (.var 1) .nil)) .nil))))
    .nil) }
def f__law_arrows (i__law_draw : Nat) : Cr.FE :=
  { name := (PySem.Str.ofString "_law_arrows"), par := 3, N := [(PySem.Str.ofString "pot"), (PySem.Str.ofString "most"), (PySem.Str.ofString "arrows"), (PySem.Str.ofString "time"), (PySem.Str.ofString "n"), (PySem.Str.ofString "found"), (PySem.Str.ofString "start")], pin := true, body := (.cons (.par2 4 5 (.op2 .Add (.con (.int 1)) (.callp i__law_draw 0 (.cons (.var 1) .nil))) (.lst .nil))
    (.cons (.forr (.nm 3) (.rng1 (.ife (.cmp .Gt (.var 4) (.con (.int 1))) (.callp i__law_draw 0 (.cons (.op2 .Add (.var 2) (.con (.int 1))) .nil)) (.con (.int 0)))) false (.cons (.set 6 (.callp i__law_draw 0 (.cons (.var 4) .nil)))
    (.cons (.app 5 (.tup (.cons (.var 6) (.cons (.op2 .Mod (.bi .int (.cons (.op2 .Add (.op2 .Add (.var 6) (.con (.int 1))) (.callp i__law_draw 0 (.cons (.op2 .Sub (.var 4) (.con (.int 1))) .nil))) .nil)) (.var 4)) .nil))))
    .nil)))
    (.cons (.ret (.tup (.cons (.con (.str (PySem.Str.ofString "arrows"))) (.cons (.var 4) (.cons (.bi .tuple (.cons (.var 5) .nil)) .nil)))))
    .nil))) }
def f__law_sets : Cr.FE :=
  { name := (PySem.Str.ofString "_law_sets"), par := 1, N := [(PySem.Str.ofString "n"), (PySem.Str.ofString "found"), (PySem.Str.ofString "place"), (PySem.Str.ofString "some")], pin := false, body := (.cons (.set 1 (.lst (.cons (.tup .nil) .nil)))
    (.cons (.forr (.nm 2) (.rng1 (.var 0)) false (.cons (.set 1 (.op2 .Add (.var 1) (.comp (.op2 .Add (.var 3) (.tup (.cons (.var 2) .nil))) (.nm 3) (.ofE (.var 1)) true .no [3])))
    .nil))
    (.cons (.ret (.bi .sorted (.cons (.comp (.var 3) (.nm 3) (.ofE (.var 1)) true (.yes (.cmp3 .Lt .Lt (.con (.int 0)) (.bi .len (.cons (.var 3) .nil)) (.var 0))) [3]) .nil)))
    .nil))) }
def f__law_into : Cr.FE :=
  { name := (PySem.Str.ofString "_law_into"), par := 2, N := [(PySem.Str.ofString "pairs"), (PySem.Str.ofString "some"), (PySem.Str.ofString "at"), (PySem.Str.ofString "pair")], pin := false, body := (.cons (.ret (.bi .tuple (.cons (.comp (.var 2) (.tup [(.nm 2), (.nm 3)]) (.enum (.var 0)) true (.yes (.an (.cmp .NotIn (.idx (.var 3) (.con (.int 0))) (.var 1)) (.cmp .In (.idx (.var 3) (.con (.int 1))) (.var 1)))) [2, 3]) .nil)))
    .nil) }
def f__law_out : Cr.FE :=
  { name := (PySem.Str.ofString "_law_out"), par := 2, N := [(PySem.Str.ofString "pairs"), (PySem.Str.ofString "some"), (PySem.Str.ofString "at"), (PySem.Str.ofString "pair")], pin := false, body := (.cons (.ret (.bi .tuple (.cons (.comp (.var 2) (.tup [(.nm 2), (.nm 3)]) (.enum (.var 0)) true (.yes (.an (.cmp .In (.idx (.var 3) (.con (.int 0))) (.var 1)) (.cmp .NotIn (.idx (.var 3) (.con (.int 1))) (.var 1)))) [2, 3]) .nil)))
    .nil) }
def f__law_reached : Cr.FE :=
  { name := (PySem.Str.ofString "_law_reached"), par := 2, N := [(PySem.Str.ofString "pairs"), (PySem.Str.ofString "start"), (PySem.Str.ofString "found"), (PySem.Str.ofString "turn"), (PySem.Str.ofString "begin"), (PySem.Str.ofString "end")], pin := false, body := (.cons (.set 2 (.lst (.cons (.var 1) .nil)))
    (.cons (.forr (.nm 3) (.ofE (.var 0)) false (.cons (.set 2 (.op2 .Add (.var 2) (.bi .sset (.cons (.comp (.var 5) (.tup [(.nm 4), (.nm 5)]) (.ofE (.var 0)) true (.yes (.an (.cmp .In (.var 4) (.var 2)) (.cmp .NotIn (.var 5) (.var 2)))) [4, 5]) .nil))))
    .nil))
    (.cons (.ret (.bi .sorted (.cons (.var 2) .nil)))
    .nil))) }
def f__law_walk : Cr.FE :=
  { name := (PySem.Str.ofString "_law_walk"), par := 3, N := [(PySem.Str.ofString "pairs"), (PySem.Str.ofString "one"), (PySem.Str.ofString "other"), (PySem.Str.ofString "some"), (PySem.Str.ofString "length"), (PySem.Str.ofString "here"), (PySem.Str.ofString "later"), (PySem.Str.ofString "walk_here"), (PySem.Str.ofString "seen"), (PySem.Str.ofString "at"), (PySem.Str.ofString "pair")], pin := false, body := (.cons (.set 3 (.lst (.cons (.tup (.cons (.tup .nil) (.cons (.lst (.cons (.var 1) .nil)) .nil))) .nil)))
    (.cons (.forr (.nm 4) (.rng1 (.op2 .Add (.bi .len (.cons (.var 0) .nil)) (.con (.int 1)))) false (.cons (.set 5 (.comp (.var 7) (.tup [(.nm 7), (.nm 8)]) (.ofE (.var 3)) true (.yes (.cmp .Eq (.idx (.var 8) (.neg (.con (.int 1)))) (.var 2))) [7, 8]))
    (.cons (.ife (.cmp .NotEq (.var 5) (.lst .nil)) (.cons (.ret (.bi .mins (.cons (.var 5) .nil)))
    .nil) .nil)
    (.cons (.set 6 (.lst .nil))
    (.cons (.forr (.tup [(.nm 7), (.nm 8)]) (.ofE (.var 3)) true (.cons (.forr (.tup [(.nm 9), (.nm 10)]) (.enum (.var 0)) true (.cons (.ife (.an (.cmp .Eq (.idx (.var 10) (.con (.int 0))) (.idx (.var 8) (.neg (.con (.int 1))))) (.cmp .NotIn (.idx (.var 10) (.con (.int 1))) (.var 8))) (.cons (.app 6 (.tup (.cons (.op2 .Add (.var 7) (.tup (.cons (.var 9) .nil))) (.cons (.op2 .Add (.var 8) (.lst (.cons (.idx (.var 10) (.con (.int 1))) .nil))) .nil))))
    .nil) .nil)
    .nil))
    .nil))
    (.cons (.set 3 (.var 6))
    .nil))))))
    (.cons (.ret (.con .none))
    .nil))) }
def f__law_right (i_leaving : Nat) (i_entering : Nat) (i__law_into : Nat) (i__law_out : Nat) (i__law_draw : Nat) (i_walk : Nat) (i__law_walk : Nat) (i_all_reach : Nat) (i_sinks : Nat) (i_sources : Nat) (i_arrow_classes : Nat) (i__law_reached : Nat) (i__law_arrows : Nat) : Cr.FE :=
  { name := (PySem.Str.ofString "_law_right"), par := 1, N := [(PySem.Str.ofString "pot"), (PySem.Str.ofString "arrows"), (PySem.Str.ofString "reach"), (PySem.Str.ofString "due"), (PySem.Str.ofString "told"), (PySem.Str.ofString "some"), (PySem.Str.ofString "one"), (PySem.Str.ofString "lots"), (PySem.Str.ofString "counts"), (PySem.Str.ofString "n"), (PySem.Str.ofString "pairs"), (PySem.Str.ofString "shown"), (PySem.Str.ofString "first"), (PySem.Str.ofString "last"), (PySem.Str.ofString "other"), (PySem.Str.ofString "way"), (PySem.Str.ofString "both"), (PySem.Str.ofString "common"), (PySem.Str.ofString "place"), (PySem.Str.ofString "time"), (PySem.Str.ofString "into"), (PySem.Str.ofString "out")], pin := true, body := (.cons (.set 1 (.callp i__law_arrows 0 (.cons (.con (.int 6)) (.cons (.con (.int 9)) .nil))))
    (.cons (.unp (.tup [(.nm 9), (.nm 10), (.nm 11)]) (.tup (.cons (.idx (.var 1) (.con (.int 1))) (.cons (.idx (.var 1) (.con (.int 2))) (.cons (.bi .repr (.cons (.var 1) .nil)) .nil)))))
    (.cons (.set 2 (.comp (.call i__law_reached (.cons (.var 10) (.cons (.var 18) .nil))) (.nm 18) (.rng1 (.var 9)) false .no [18]))
    (.cons (.set 3 (.bi .sset (.cons (.comp (.bi .tuple (.cons (.comp (.var 14) (.nm 14) (.ofE (.idx (.var 2) (.var 18))) false (.yes (.cmp .In (.var 18) (.idx (.var 2) (.var 14)))) [14]) .nil)) (.nm 18) (.rng1 (.var 9)) false .no [18]) .nil)))
    (.cons (.par2 12 13 (.comp (.var 5) (.nm 5) (.ofE (.var 3)) true (.yes (.cmp .Eq (.call i__law_into (.cons (.var 10) (.cons (.var 5) .nil))) (.tup .nil))) [5]) (.comp (.var 5) (.nm 5) (.ofE (.var 3)) true (.yes (.cmp .Eq (.call i__law_out (.cons (.var 10) (.cons (.var 5) .nil))) (.tup .nil))) [5]))
    (.cons (.set 4 (.lst (.cons (.call i_arrow_classes (.cons (.var 1) .nil)) (.cons (.call i_sources (.cons (.var 1) .nil)) (.cons (.call i_sinks (.cons (.var 1) .nil)) .nil)))))
    (.cons (.ife (.cmp .NotEq (.bi .repr (.cons (.var 4) .nil)) (.bi .repr (.cons (.lst (.cons (.var 3) (.cons (.var 12) (.cons (.var 13) .nil)))) .nil))) (.cons (.ret (.con (.bool false)))
    .nil) .nil)
    (.cons (.spoil 5 4)
    (.cons (.ife (.cmp .NotEq (.bi .repr (.cons (.lst (.cons (.callk i_arrow_classes [0] (.cons (.var 1) .nil)) (.cons (.callk i_sources [0] (.cons (.var 1) .nil)) (.cons (.callk i_sinks [0] (.cons (.var 1) .nil)) .nil)))) .nil)) (.bi .repr (.cons (.lst (.cons (.var 3) (.cons (.var 12) (.cons (.var 13) .nil)))) .nil))) (.cons (.ret (.con (.bool false)))
    .nil) .nil)
    (.cons (.ife (.cmp .NotEq (.bi .repr (.cons (.lst (.cons (.call i_all_reach (.cons (.var 1) .nil)) (.cons (.callk i_all_reach [0] (.cons (.var 1) .nil)) .nil))) .nil)) (.bi .repr (.cons (.op2 .Mult (.lst (.cons (.cmp .Eq (.bi .len (.cons (.var 3) .nil)) (.con (.int 1))) .nil)) (.con (.int 2))) .nil))) (.cons (.ret (.con (.bool false)))
    .nil) .nil)
    (.cons (.forr (.nm 6) (.rng1 (.var 9)) false (.cons (.set 14 (.callp i__law_draw 0 (.cons (.var 9) .nil)))
    (.cons (.set 15 (.call i__law_walk (.cons (.var 10) (.cons (.var 6) (.cons (.var 14) .nil)))))
    (.cons (.ife (.cmp .NotEq (.bi .repr (.cons (.lst (.cons (.call i_walk (.cons (.var 1) (.cons (.var 6) (.cons (.var 14) .nil)))) (.cons (.callk i_walk [2, 1, 0] (.cons (.var 14) (.cons (.var 6) (.cons (.var 1) .nil)))) .nil))) .nil)) (.bi .repr (.cons (.lst (.cons (.var 15) (.cons (.var 15) .nil))) .nil))) (.cons (.ret (.con (.bool false)))
    .nil) .nil)
    .nil))))
    (.cons (.set 7 (.comp (.bi .tuple (.cons (.comp (.var 18) (.nm 18) (.rng1 (.var 9)) false (.yes (.cmp .Eq (.callp i__law_draw 0 (.cons (.con (.int 2)) .nil)) (.con (.int 0)))) [18]) .nil)) (.nm 19) (.rng1 (.con (.int 2))) false .no [19]))
    (.cons (.par2 16 17 (.bi .tuple (.cons (.bi .sset (.cons (.op2 .Add (.idx (.var 7) (.con (.int 0))) (.idx (.var 7) (.con (.int 1)))) .nil)) .nil)) (.bi .tuple (.cons (.comp (.var 18) (.nm 18) (.ofE (.idx (.var 7) (.con (.int 0)))) false (.yes (.cmp .In (.var 18) (.idx (.var 7) (.con (.int 1))))) [18]) .nil)))
    (.cons (.set 8 (.lst .nil))
    (.cons (.forr (.nm 5) (.ofE (.op2 .Add (.var 7) (.lst (.cons (.var 16) (.cons (.var 17) (.cons (.tup .nil) (.cons (.bi .trng (.cons (.var 9) .nil)) .nil))))))) false (.cons (.par2 20 21 (.call i__law_into (.cons (.var 10) (.cons (.var 5) .nil))) (.call i__law_out (.cons (.var 10) (.cons (.var 5) .nil))))
    (.cons (.ife (.cmp .NotEq (.bi .repr (.cons (.lst (.cons (.call i_entering (.cons (.var 1) (.cons (.var 5) .nil))) (.cons (.call i_leaving (.cons (.var 1) (.cons (.var 5) .nil))) .nil))) .nil)) (.bi .repr (.cons (.lst (.cons (.var 20) (.cons (.var 21) .nil))) .nil))) (.cons (.ret (.con (.bool false)))
    .nil) .nil)
    (.cons (.ife (.cmp .NotEq (.bi .repr (.cons (.lst (.cons (.callk i_entering [1, 0] (.cons (.var 5) (.cons (.var 1) .nil))) (.cons (.callk i_leaving [1, 0] (.cons (.var 5) (.cons (.var 1) .nil))) .nil))) .nil)) (.bi .repr (.cons (.lst (.cons (.var 20) (.cons (.var 21) .nil))) .nil))) (.cons (.ret (.con (.bool false)))
    .nil) .nil)
    (.cons (.app 8 (.tup (.cons (.bi .len (.cons (.var 20) .nil)) (.cons (.bi .len (.cons (.var 21) .nil)) .nil))))
    .nil)))))
    (.cons (.ife (.orr (.cmp .Lt (.op2 .Add (.idx (.idx (.var 8) (.con (.int 0))) (.con (.int 0))) (.idx (.idx (.var 8) (.con (.int 1))) (.con (.int 0)))) (.op2 .Add (.idx (.idx (.var 8) (.con (.int 2))) (.con (.int 0))) (.idx (.idx (.var 8) (.con (.int 3))) (.con (.int 0))))) (.cmp .Lt (.op2 .Add (.idx (.idx (.var 8) (.con (.int 0))) (.con (.int 1))) (.idx (.idx (.var 8) (.con (.int 1))) (.con (.int 1)))) (.op2 .Add (.idx (.idx (.var 8) (.con (.int 2))) (.con (.int 1))) (.idx (.idx (.var 8) (.con (.int 3))) (.con (.int 1)))))) (.cons (.ret (.con (.bool false)))
    .nil) .nil)
    (.cons (.ret (.cmp .Eq (.bi .repr (.cons (.var 1) .nil)) (.var 11)))
    .nil))))))))))))))))) }
def f_law (i__law_right : Nat) (i__law_pot : Nat) : Cr.FE :=
  { name := (PySem.Str.ofString "law"), par := 1, N := [(PySem.Str.ofString "script"), (PySem.Str.ofString "pot"), (PySem.Str.ofString "time")], pin := false, body := (.cons (.set 1 (.call i__law_pot (.cons (.var 0) (.cons (.con (.int 0)) .nil))))
    (.cons (.ret (.bi .all (.cons (.comp (.callp i__law_right 1 .nil) (.nm 2) (.rng1 (.con (.int 4))) false .no [2]) .nil)))
    .nil)) }
/-- the functions -/
def tab : List Cr.FE := [f_is_integer, f_is_position 0, f_are_rising 1, f_mask_of, f_arrow_is_right 1, f_arrows_are_right 4 0, f_enters, f_turned_pairs, f_comes_from, f_classes_of 8, f_check_arrows 5, f_check_place 1, f_check_set 2, f_entering 6 3 12 10, f_leaving 7 6 3 12 10, f_walk 8 11 10, f_arrow_classes 9 10, f_sources 9 6 3 10, f_sinks 9 6 3 7 10, f_all_reach 9 10, f__law_pot, f__law_draw, f__law_pick 21, f__law_arrows 21, f__law_sets, f__law_into, f__law_out, f__law_reached, f__law_walk, f__law_right 14 13 25 26 21 15 28 19 18 17 16 27 23, f_law 29 20]
end T80
/-! # Bfs: walks along arrows; the first of the fewest arrows. -/
namespace Bfs

/-- the order of rows of numbers -/
def llt : List Nat → List Nat → Bool
  | [], [] => false
  | [], _ :: _ => true
  | _ :: _, [] => false
  | x :: xs, y :: ys => decide (x < y) || (decide (x = y) && llt xs ys)
theorem llt_irr : ∀ a, llt a a = false
  | [] => rfl
  | x :: xs => by simp [llt, llt_irr xs]
theorem llt_cases : ∀ a b, llt a b = true ∨ a = b ∨ llt b a = true
  | [], [] => .inr (.inl rfl)
  | [], _ :: _ => .inl rfl
  | _ :: _, [] => .inr (.inr rfl)
  | x :: xs, y :: ys => by
    rcases Nat.lt_trichotomy x y with h | h | h
    · exact .inl (by simp [llt, h])
    · subst h
      rcases llt_cases xs ys with q | q | q
      · exact .inl (by simp [llt, q])
      · exact .inr (.inl (by rw [q]))
      · exact .inr (.inr (by simp [llt, q]))
    · exact .inr (.inr (by simp [llt, h]))
theorem llt_trans : ∀ {a b c}, llt a b = true → llt b c = true → llt a c = true
  | [], [], _, h, _ => by cases h
  | [], _ :: _, [], _, h => by cases h
  | [], _ :: _, _ :: _, _, _ => rfl
  | _ :: _, [], _, h, _ => by cases h
  | _ :: _, _ :: _, [], _, h => by cases h
  | x :: xs, y :: ys, z :: zs, h, k => by
    simp only [llt, Bool.or_eq_true, Bool.and_eq_true, decide_eq_true_eq] at h k ⊢
    rcases h with h | ⟨h, h'⟩ <;> rcases k with k | ⟨k, k'⟩
    · exact .inl (by omega)
    · exact .inl (by omega)
    · exact .inl (by omega)
    · exact .inr ⟨by omega, llt_trans h' k'⟩
theorem llt_asymm {a b : List Nat} (h : llt a b = true) : llt b a = false := by
  cases k : llt b a with
  | false => rfl
  | true => exact absurd (llt_trans h k) (by rw [llt_irr]; decide)
/-- not above -/
theorem lle_trans {a b c : List Nat} (h : llt b a = false) (k : llt c b = false) : llt c a = false := by
  cases e : llt c a with
  | false => rfl
  | true =>
    rcases llt_cases a b with q | q | q
    · rw [llt_trans e q] at k; cases k
    · subst q; rw [e] at k; cases k
    · rw [q] at h; cases h
theorem lle_antisymm {a b : List Nat} (h : llt b a = false) (k : llt a b = false) : a = b := by
  rcases llt_cases a b with q | q | q
  · rw [q] at k; cases k
  · exact q
  · rw [q] at h; cases h
theorem llt_snoc : ∀ {a b : List Nat} (x : Nat), a.length = b.length → llt (a ++ [x]) (b ++ [x]) = llt a b
  | [], [], x, _ => by simp [llt]
  | [], _ :: _, _, h => by cases h
  | _ :: _, [], _, h => by cases h
  | p :: ps, q :: qs, x, h => by
    have h' : ps.length = qs.length := by simpa using h
    simp only [List.cons_append, llt, llt_snoc x h']

/-! ### walks -/
inductive W (ps : List (Nat × Nat)) (u : Nat) : Nat → List Nat → Prop
  | nil : W ps u u []
  | snoc {h g : Nat} {w : List Nat} {a : Nat} : W ps u h w → ps[a]? = some (h, g) → W ps u g (w ++ [a])
section
variable {ps : List (Nat × Nat)} {u : Nat}
theorem W.inv {g : Nat} {w : List Nat} (h : W ps u g w) (k : 0 < w.length) : ∃ h w0 a, W ps u h w0 ∧ ps[a]? = some (h, g) ∧ w = w0 ++ [a] := by
  cases h with
  | nil => cases k
  | snoc h e => exact ⟨_, _, _, h, e, rfl⟩
/-- level L is done -/
structure Lv (ps : List (Nat × Nat)) (u : Nat) (walks : Nat → Option (List Nat)) (L : Nat) : Prop where
  sound : ∀ {v w}, walks v = some w → W ps u v w ∧ w.length ≤ L
  least : ∀ {v w w'}, walks v = some w → W ps u v w' → w.length < w'.length ∨ (w.length = w'.length ∧ llt w' w = false)
  compl : ∀ {v w'}, W ps u v w' → w'.length ≤ L → (walks v).isSome = true
/-- a way one arrow longer -/
def Cand (ps : List (Nat × Nat)) (walks : Nat → Option (List Nat)) (L : Nat) (g : Nat) (w : List Nat) : Prop :=
  ∃ h a w0, walks h = some w0 ∧ w0.length = L ∧ ps[a]? = some (h, g) ∧ walks g = none ∧ w = w0 ++ [a]
/-- the least of each -/
structure Least (C : Nat → List Nat → Prop) (f : Nat → Option (List Nat)) : Prop where
  mem : ∀ {g w}, f g = some w → C g w ∧ ∀ w', C g w' → llt w' w = false
  all : ∀ {g w}, C g w → (f g).isSome = true
def upd (walks longer : Nat → Option (List Nat)) (v : Nat) : Option (List Nat) := (longer v).or (walks v)
theorem lv_start : Lv ps u (fun v => if v = u then some [] else none) 0 := by
  refine ⟨fun {v w} h => ?_, fun {v w w'} h h' => ?_, fun {v w'} h h' => ?_⟩
  · by_cases e : v = u
    · rw [if_pos e] at h
      cases h
      subst e
      exact ⟨.nil, Nat.le_refl _⟩
    · rw [if_neg e] at h
      cases h
  · by_cases e : v = u
    · rw [if_pos e] at h
      cases h
      cases w' with
      | nil => exact .inr ⟨rfl, rfl⟩
      | cons x xs => exact .inl (by simp)
    · rw [if_neg e] at h
      cases h
  · cases h with
    | nil => simp
    | snoc h e => simp at h'
theorem cand_of {walks : Nat → Option (List Nat)} {L g : Nat} {w' : List Nat} (I : Lv ps u walks L) (hg : walks g = none) (hw : W ps u g w') (hl : w'.length = L + 1) : ∃ w, Cand ps walks L g w ∧ w.length = L + 1 ∧ llt w' w = false := by
  obtain ⟨h, w1, a, h1, h2, rfl⟩ := hw.inv (by omega)
  have l1 : w1.length = L := by simpa using hl
  have hs := I.compl h1 (by omega)
  obtain ⟨wh, eh⟩ := Option.isSome_iff_exists.mp hs
  obtain ⟨Wh, lh⟩ := I.sound eh
  have lL : wh.length = L := by
    by_cases q : wh.length = L
    · exact q
    · have := I.compl (Wh.snoc h2) (by simp; omega)
      rw [hg] at this
      cases this
  refine ⟨wh ++ [a], ⟨h, a, wh, eh, lL, h2, hg, rfl⟩, by simp [lL], ?_⟩
  rw [llt_snoc a (by omega)]
  rcases I.least eh h1 with q | q
  · omega
  · exact q.2
theorem lv_step {walks longer : Nat → Option (List Nat)} {L : Nat} (I : Lv ps u walks L) (F : Least (Cand ps walks L) longer) : Lv ps u (upd walks longer) (L + 1) := by
  refine ⟨fun {v w} h => ?_, fun {v w w'} h h' => ?_, fun {v w'} h h' => ?_⟩
  · unfold upd at h
    cases e : longer v with
    | some x =>
      rw [e] at h
      cases h
      obtain ⟨⟨h, a, w0, q1, q2, q3, _, rfl⟩, _⟩ := F.mem e
      exact ⟨(I.sound q1).1.snoc q3, by simp [q2]⟩
    | none =>
      rw [e] at h
      obtain ⟨q1, q2⟩ := I.sound (show walks v = some w from h)
      exact ⟨q1, by omega⟩
  · unfold upd at h
    cases e : longer v with
    | some x =>
      rw [e] at h
      cases h
      obtain ⟨⟨h, a, w0, q1, q2, q3, q4, rfl⟩, q5⟩ := F.mem e
      by_cases c : w'.length ≤ L
      · have := I.compl h' c
        rw [q4] at this
        cases this
      by_cases c2 : w'.length = L + 1
      · obtain ⟨w2, c3, c4, c5⟩ := cand_of I q4 h' c2
        exact .inr ⟨by simp [q2, c2], lle_trans (q5 _ c3) c5⟩
      · exact .inl (by simp [q2]; omega)
    | none =>
      rw [e] at h
      exact I.least (show walks v = some w from h) h'
  · unfold upd
    cases e : longer v with
    | some x => rfl
    | none =>
      show (walks v).isSome = true
      cases e2 : walks v with
      | some x => rfl
      | none =>
        by_cases c : w'.length ≤ L
        · have := I.compl h c
          rw [e2] at this
          cases this
        · obtain ⟨w2, c3, _⟩ := cand_of I e2 h (by omega)
          have := F.all c3
          rw [e] at this
          cases this
/-- where nothing is new all is done -/
theorem lv_end {walks : Nat → Option (List Nat)} {L : Nat} (I : Lv ps u walks L) (hn : ∀ v w, walks v = some w → w.length ≠ L) {v : Nat} {w : List Nat} (h : W ps u v w) : (walks v).isSome = true := by
  induction h with
  | nil => exact I.compl .nil (Nat.zero_le _)
  | snoc h e ih =>
    obtain ⟨w0, q⟩ := Option.isSome_iff_exists.mp ih
    obtain ⟨q1, q2⟩ := I.sound q
    exact I.compl (q1.snoc e) (by have := hn _ _ q; simp; omega)
/-- of the walks with the fewest arrows the first -/
def Best (ps : List (Nat × Nat)) (u v : Nat) (w : List Nat) : Prop := W ps u v w ∧ ∀ w', W ps u v w' → w.length < w'.length ∨ (w.length = w'.length ∧ llt w' w = false)
theorem Best.uniq {v : Nat} {w w' : List Nat} (h : Best ps u v w) (h' : Best ps u v w') : w = w' := by
  rcases h.2 _ h'.1 with q | q <;> rcases h'.2 _ h.1 with q' | q'
  · omega
  · omega
  · omega
  · exact lle_antisymm q.2 q'.2
/-- what comes_from gives -/
structure Told (ps : List (Nat × Nat)) (u : Nat) (f : Nat → Option (List Nat)) : Prop where
  best : ∀ {v w}, f v = some w → Best ps u v w
  all : ∀ {v w}, W ps u v w → (f v).isSome = true
theorem told_of {walks : Nat → Option (List Nat)} {L : Nat} (I : Lv ps u walks L) (hn : ∀ v w, walks v = some w → w.length ≠ L) : Told ps u walks :=
  ⟨fun {v w} h => ⟨(I.sound h).1, fun w' h' => I.least h h'⟩, fun {v w} h => lv_end I hn h⟩

/-! ### walks that come to no place twice -/
inductive SW (ps : List (Nat × Nat)) (u : Nat) : List Nat → List Nat → Prop
  | nil : SW ps u [] [u]
  | snoc {w seen : List Nat} {h g a : Nat} : SW ps u w seen → seen.getLast? = some h → ps[a]? = some (h, g) → g ∉ seen → SW ps u (w ++ [a]) (seen ++ [g])
theorem SW.w {w seen : List Nat} (s : SW ps u w seen) {v : Nat} (h : seen.getLast? = some v) : W ps u v w := by
  induction s generalizing v with
  | nil =>
    cases h
    exact .nil
  | snoc s l e n ih =>
    rw [List.getLast?_concat] at h
    cases h
    exact .snoc (ih l) e
theorem SW.nodup {w seen : List Nat} (s : SW ps u w seen) : w.Nodup ∧ ∀ a ∈ w, ∃ h g, ps[a]? = some (h, g) ∧ g ∈ seen := by
  induction s with
  | nil => exact ⟨List.nodup_nil, fun a h => by cases h⟩
  | @snoc w seen h g a s l e n ih =>
    refine ⟨List.nodup_append.mpr ⟨ih.1, by simp, fun x hx y hy => ?_⟩, fun x hx => ?_⟩
    · simp only [List.mem_singleton] at hy
      subst hy
      intro q
      subst q
      obtain ⟨h', g', e', m⟩ := ih.2 _ hx
      rw [e] at e'
      cases e'
      exact n m
    · rcases List.mem_append.mp hx with q | q
      · obtain ⟨h', g', e', m⟩ := ih.2 _ q
        exact ⟨h', g', e', List.mem_append_left _ m⟩
      · simp only [List.mem_singleton] at q
        subst q
        exact ⟨h, g, e, by simp⟩
theorem nodup_le : ∀ (n : Nat) (l : List Nat), l.Nodup → (∀ x ∈ l, x < n) → l.length ≤ n
  | 0, l, _, h => by
    cases l with
    | nil => exact Nat.le_refl _
    | cons x xs => exact absurd (h x (by simp)) (Nat.not_lt_zero _)
  | n + 1, l, hd, h => by
    have h1 := nodup_le n (l.filter (· ≠ n)) (hd.filter _) (fun x hx => by
      simp only [List.mem_filter, decide_eq_true_eq] at hx
      have := h x hx.1
      omega)
    have h2 : l.length ≤ (l.filter (· ≠ n)).length + 1 := by
      clear h h1
      induction l with
      | nil => simp
      | cons x xs ih =>
        have hd' := List.nodup_cons.mp hd
        by_cases e : x = n
        · subst e
          have : (x :: xs).filter (· ≠ x) = xs := by
            rw [List.filter_cons_of_neg (by simp)]
            exact List.filter_eq_self.mpr fun y hy => by
              simp only [ne_eq, decide_not, Bool.not_eq_true', decide_eq_false_iff_not]
              intro q
              subst q
              exact hd'.1 hy
          rw [this]
          simp
        · rw [List.filter_cons_of_pos (by simpa using e)]
          have := ih hd'.2
          simp only [List.length_cons]
          omega
    omega
theorem SW.len {w seen : List Nat} (s : SW ps u w seen) : w.length ≤ ps.length :=
  nodup_le _ _ s.nodup.1 fun a ha => by
    obtain ⟨h, g, e, _⟩ := s.nodup.2 a ha
    exact (List.getElem?_eq_some_iff.mp e).1
theorem sw_of_min {v : Nat} {w : List Nat} (h : W ps u v w) (hm : ∀ w', W ps u v w' → w.length ≤ w'.length) : ∃ seen, SW ps u w seen ∧ seen.getLast? = some v ∧ ∀ x ∈ seen, ∃ wx, W ps u x wx ∧ wx.length ≤ w.length := by
  induction h with
  | nil => exact ⟨[u], .nil, rfl, fun x hx => by simp only [List.mem_singleton] at hx; subst hx; exact ⟨[], .nil, Nat.le_refl _⟩⟩
  | @snoc h g w a hw e ih =>
    obtain ⟨seen, s, l, k⟩ := ih fun w' h' => by
      have := hm _ (h'.snoc e)
      simpa using this
    refine ⟨seen ++ [g], s.snoc l e fun hg => ?_, by simp, fun x hx => ?_⟩
    · obtain ⟨wx, q1, q2⟩ := k g hg
      have := hm _ q1
      simp at this
      omega
    · rcases List.mem_append.mp hx with q | q
      · obtain ⟨wx, q1, q2⟩ := k x q
        exact ⟨wx, q1, by simp; omega⟩
      · simp only [List.mem_singleton] at q
        subst q
        exact ⟨w ++ [a], hw.snoc e, Nat.le_refl _⟩
theorem Best.sw {v : Nat} {w : List Nat} (h : Best ps u v w) : ∃ seen, SW ps u w seen ∧ seen.getLast? = some v := by
  obtain ⟨seen, a, b, _⟩ := sw_of_min h.1 fun w' h' => by
    rcases h.2 w' h' with q | q <;> omega
  exact ⟨seen, a, b⟩
theorem Best.len {v : Nat} {w : List Nat} (h : Best ps u v w) : w.length ≤ ps.length := by
  obtain ⟨seen, s, _⟩ := h.sw
  exact s.len
end
end Bfs
/-! # Ord: order, sorting, once each, least; dicts by a function. -/
namespace Cv
open PySem Cr Cw Bfs
theorem alike_int (a b : Int) : W.alike (.int a) (.int b) = true := by simp [W.alike]
theorem alikeAll_nl : ∀ a b : List Nat, W.alikeAll (nl a) (nl b) = true
  | [], _ => by simp [W.alikeAll]
  | _ :: _, [] => by simp [W.alikeAll]
  | x :: xs, y :: ys => by simp [W.alikeAll, alike_int, alikeAll_nl xs ys]
theorem alike_tD (a b : List Nat) : W.alike (tD a) (tD b) = true := by
  unfold tD
  rw [W.alike]
  exact alikeAll_nl a b
theorem lex_nl : ∀ a b : List Nat, PyProof.Rows.lexLt PyProof.Rows.itemOrd (W.keyToksAll (nl a)) (W.keyToksAll (nl b)) = llt a b
  | [], [] => by simp [W.keyToksAll]; decide
  | [], y :: ys => by
    simp only [nl_nil, nl_cons, W.keyToksAll, llt]
    rw [PyProof.Rows.lex_diff (by simp)]
    decide
  | x :: xs, [] => by
    simp only [nl_nil, nl_cons, W.keyToksAll, llt]
    rw [PyProof.Rows.lex_diff (by simp)]
    decide
  | x :: xs, y :: ys => by
    rw [nl_cons, nl_cons]
    by_cases h : x = y
    · subst h
      rw [W.dataLt_all_yes (alike_int _ _) (by simp), lex_nl xs ys]
      simp [llt]
    · rw [W.dataLt_all_no (alike_int _ _) (by simp; omega), W.dataLt_int]
      simp [llt, h]
@[simp] theorem lt_tD (a b : List Nat) : W.dataLt (tD a) (tD b) = llt a b := by
  rw [W.dataLt_tuple]
  exact lex_nl a b
theorem alikes_of {l : List D} (h : ∀ x ∈ l, ∀ y ∈ l, W.alike x y = true) : alikes l = true := by
  induction l with
  | nil => rfl
  | cons x xs ih =>
    simp only [alikes, Bool.and_eq_true, List.all_eq_true]
    exact ⟨⟨h x (by simp) x (by simp), fun y hy => ⟨h x (by simp) y (by simp [hy]), h y (by simp [hy]) x (by simp)⟩⟩, ih fun a ha b hb => h a (by simp [ha]) b (by simp [hb])⟩
theorem alikes_nl (l : List Nat) : alikes (nl l) = true := alikes_of fun x hx y hy => by
  obtain ⟨a, _, rfl⟩ := List.mem_map.mp hx
  obtain ⟨b, _, rfl⟩ := List.mem_map.mp hy
  exact alike_int _ _
theorem alikes_tD (l : List (List Nat)) : alikes (l.map tD) = true := alikes_of fun x hx y hy => by
  obtain ⟨a, _, rfl⟩ := List.mem_map.mp hx
  obtain ⟨b, _, rfl⟩ := List.mem_map.mp hy
  exact alike_tD _ _
/-- each once, the first ones -/
def once {α : Type} [DecidableEq α] : List α → List α
  | [] => []
  | x :: xs => x :: (once xs).filter fun y => !decide (x = y)
theorem mem_once {α : Type} [DecidableEq α] {l : List α} {x : α} : x ∈ once l ↔ x ∈ l := by
  induction l with
  | nil => simp [once]
  | cons y ys ih =>
    simp only [once, List.mem_cons, List.mem_filter, ih, Bool.not_eq_true', decide_eq_false_iff_not]
    constructor
    · rintro (h | h)
      · exact .inl h
      · exact .inr h.1
    · rintro (h | h)
      · exact .inl h
      · by_cases e : y = x
        · exact .inl e.symm
        · exact .inr ⟨h, e⟩
theorem nodup_once {α : Type} [DecidableEq α] (l : List α) : (once l).Nodup := by
  induction l with
  | nil => simp [once]
  | cons y ys ih =>
    simp only [once, List.nodup_cons, List.mem_filter, Bool.not_eq_true', decide_eq_false_iff_not]
    exact ⟨fun h => h.2 (by trivial), ih.filter _⟩
theorem once_len {α : Type} [DecidableEq α] (l : List α) : (once l).length ≤ l.length := by
  induction l with
  | nil => simp [once]
  | cons y ys ih =>
    have := List.length_filter_le (fun z => !decide (y = z)) (once ys)
    simp only [once, List.length_cons]
    omega
theorem onceD_map {α : Type} [DecidableEq α] {f : α → D} (hf : ∀ a b, PyData.eqv (f a) (f b) = decide (a = b)) : ∀ l : List α, onceD (l.map f) = (once l).map f
  | [] => rfl
  | x :: xs => by
    rw [List.map_cons, onceD, onceD_map hf xs, once, List.map_cons, List.filter_map]
    have e : ((fun y => !PyData.eqv (f x) y) ∘ f) = fun y => !decide (x = y) := funext fun y => by simp [hf]
    rw [e]
def sortN (l : List Nat) : List Nat := l.mergeSort fun a b => decide (a ≤ b)
def sortL (l : List (List Nat)) : List (List Nat) := l.mergeSort fun a b => !llt b a
theorem sortD_nl (l : List Nat) : sortD (nl l) = nl (sortN l) := by
  unfold sortD nl sortN
  refine (List.map_mergeSort fun a _ b _ => ?_).symm
  show _ = !W.dataLt (.int (Int.ofNat b)) (.int (Int.ofNat a))
  rw [W.dataLt_int]
  by_cases h : a ≤ b
  · rw [decide_eq_true h, decide_eq_false (by simp; omega)]; rfl
  · rw [decide_eq_false h, decide_eq_true (by simp; omega)]; rfl
theorem sortD_tD (l : List (List Nat)) : sortD (l.map tD) = (sortL l).map tD := by
  unfold sortD sortL
  refine (List.map_mergeSort fun a _ b _ => ?_).symm
  show _ = !W.dataLt (tD b) (tD a)
  rw [lt_tD]
theorem sortN_mem {l : List Nat} {x : Nat} : x ∈ sortN l ↔ x ∈ l := List.mem_mergeSort
theorem sortN_perm (l : List Nat) : (sortN l).Perm l := List.mergeSort_perm _ _
theorem sortN_sorted (l : List Nat) : (sortN l).Pairwise (· ≤ ·) := by
  have := List.pairwise_mergeSort (le := fun a b : Nat => decide (a ≤ b)) (fun a b c h k => by simp at *; omega) (fun a b => by simp; omega) l
  exact this.imp fun h => by simpa using h
theorem sortN_strict {l : List Nat} (h : l.Nodup) : (sortN l).Pairwise (· < ·) := by
  have n := (sortN_perm l).nodup_iff.mpr h
  have := (sortN_sorted l).and n
  exact this.imp fun ⟨a, b⟩ => by omega
theorem sortN_len (l : List Nat) : (sortN l).length = l.length := (sortN_perm l).length_eq
/-- rising rows with the same numbers are the same -/
theorem rising_ext : ∀ {a b : List Nat}, a.Pairwise (· < ·) → b.Pairwise (· < ·) → (∀ x, x ∈ a ↔ x ∈ b) → a = b
  | [], [], _, _, _ => rfl
  | [], y :: ys, _, _, h => by have := (h y).mpr (by simp); cases this
  | x :: xs, [], _, _, h => by have := (h x).mp (by simp); cases this
  | x :: xs, y :: ys, ha, hb, h => by
    have ha' := List.pairwise_cons.mp ha
    have hb' := List.pairwise_cons.mp hb
    have e : x = y := by
      have h1 := (h x).mp (by simp)
      have h2 := (h y).mpr (by simp)
      rcases List.mem_cons.mp h1 with q | q
      · exact q
      · rcases List.mem_cons.mp h2 with q' | q'
        · exact q'.symm
        · have := ha'.1 _ q'
          have := hb'.1 _ q
          omega
    subst e
    rw [rising_ext ha'.2 hb'.2 fun z => ?_]
    constructor
    · intro hz
      have := ha'.1 _ hz
      rcases List.mem_cons.mp ((h z).mp (by simp [hz])) with q | q
      · omega
      · exact q
    · intro hz
      have := hb'.1 _ hz
      rcases List.mem_cons.mp ((h z).mpr (by simp [hz])) with q | q
      · omega
      · exact q
theorem sortL_id {l : List (List Nat)} (h : l.Pairwise fun a b => llt a b = true) : sortL l = l :=
  List.mergeSort_of_pairwise (h.imp fun k => by simp [llt_asymm k])
theorem noTups_nl : ∀ l : List Nat, noTups (nl l) = true
  | [] => rfl
  | x :: xs => by rw [nl_cons, noTups, noTups_nl xs] <;> simp
theorem shaped_nl (l : List Nat) : ((nl l).all fun x => SeqAt.shaped x) = true := List.all_eq_true.mpr fun x hx => (sh_nl (n := 0) x hx).shaped (by decide)
theorem shaped_tDs (l : List (List Nat)) : ((l.map tD).all fun x => SeqAt.shaped x) = true := List.all_eq_true.mpr fun x hx => (sh_map (n := 1) (fun y _ => sh_tD) x hx).shaped (by decide)
theorem bi_sorted_nl {l : List Nat} (h : l.length ≤ 1000000) : biD .sorted [.list (nl l)] = some (.list (nl (sortN l)), nl (sortN l)) := by
  show (if sortOk (nl l) then some (PyData.list (sortD (nl l)), sortD (nl l)) else none) = _
  rw [if_pos (by unfold sortOk; rw [alikes_nl, noTups_nl, shaped_nl, small_of (by simpa using h)]; simp), sortD_nl]
theorem tupsFull_tD : ∀ {l : List (List Nat)}, (∀ x ∈ l, x ≠ []) → tupsFull (l.map tD) = true
  | [], _ => rfl
  | [] :: xs, h => absurd rfl (h [] (by simp))
  | (y :: ys) :: xs, h => by
    show tupsFull (xs.map tD) = true
    exact tupsFull_tD fun x hx => h x (by simp [hx])
theorem bi_sorted_tD {l : List (List Nat)} (h : l.length ≤ 1000000) (h2 : ∀ x ∈ l, x ≠ []) : biD .sorted [.list (l.map tD)] = some (.list ((sortL l).map tD), (sortL l).map tD) := by
  show (if sortOk (l.map tD) then some (PyData.list (sortD (l.map tD)), sortD (l.map tD)) else none) = _
  rw [if_pos (by unfold sortOk; rw [alikes_tD, tupsFull_tD h2, shaped_tDs, small_of (by simpa using h)]; simp), sortD_tD]
theorem intsD_nl (l : List Nat) : intsD (nl l) = some (l.map Int.ofNat) := intsD_map l
theorem bi_sorted_dict {kvs : List (D × D)} {ks : List Nat} (e : kvs.map (·.1) = nl ks) (h : ks.length < 64) : biD .sorted [.dict kvs] = some (.list (nl (sortN ks)), nl (sortN ks)) := by
  have hl : kvs.length = ks.length := by
    have := congrArg List.length e
    simpa using this
  show (if sortOk (kvs.map (·.1)) && decide (kvs.length < 64) && (intsD (kvs.map (·.1))).isSome then some (PyData.list (sortD (kvs.map (·.1))), sortD (kvs.map (·.1))) else none) = _
  rw [e, hl, if_pos (by unfold sortOk; rw [alikes_nl, noTups_nl, shaped_nl, small_of (by simp; omega), intsD_nl, decide_eq_true h]; simp), sortD_nl]
theorem bi_sset_nl {l : List Nat} (h : l.length < 64) : biD .sset [.list (nl l)] = some (.list (nl (sortN (once l))), nl (sortN (once l))) := by
  show (if decide ((nl l).length < 64) && ((intsD (nl l)).isSome || ((tupsD (nl l)).isSome && tupsFull (nl l))) then some (PyData.list (sortD (onceD (nl l))), sortD (onceD (nl l))) else none) = _
  have e : onceD (nl l) = nl (once l) := onceD_map (f := fun n : Nat => PyData.int (Int.ofNat n)) (fun a b => by simp [Int.ofNat_inj]) l
  rw [intsD_nl, nl_length, decide_eq_true h, e, sortD_nl]
  rfl
theorem tupsD_tD : ∀ l : List (List Nat), (tupsD (l.map tD)).isSome = true
  | [] => rfl
  | x :: xs => by
    obtain ⟨y, e⟩ := Option.isSome_iff_exists.mp (tupsD_tD xs)
    show ((intsD (nl x)).bind fun ns => (tupsD (xs.map tD)).map (ns :: ·)).isSome = true
    rw [intsD_nl, e]
    rfl
theorem bi_sset_tD {l : List (List Nat)} (h : l.length < 64) (h2 : ∀ x ∈ l, x ≠ []) : biD .sset [.list (l.map tD)] = some (.list ((sortL (once l)).map tD), (sortL (once l)).map tD) := by
  show (if decide ((l.map tD).length < 64) && ((intsD (l.map tD)).isSome || ((tupsD (l.map tD)).isSome && tupsFull (l.map tD))) then some (PyData.list (sortD (onceD (l.map tD))), sortD (onceD (l.map tD))) else none) = _
  rw [tupsD_tD, tupsFull_tD h2, List.length_map, decide_eq_true h, onceD_map eqv_tD, sortD_tD]
  simp
/-- the least -/
def lmin (x : List Nat) (xs : List (List Nat)) : List Nat := xs.foldl (fun a y => if llt y a then y else a) x
theorem minD_tD (x : List Nat) (xs : List (List Nat)) : W.minD (tD x) (xs.map tD) = tD (lmin x xs) := by
  unfold W.minD lmin
  induction xs generalizing x with
  | nil => rfl
  | cons y ys ih =>
    rw [List.map_cons, List.foldl_cons, List.foldl_cons, lt_tD]
    cases llt y x with
    | true => exact ih y
    | false => exact ih x
theorem lmin_mem (x : List Nat) (xs : List (List Nat)) : lmin x xs ∈ x :: xs ∧ ∀ y ∈ x :: xs, llt y (lmin x xs) = false := by
  unfold lmin
  induction xs generalizing x with
  | nil => simp [llt_irr]
  | cons y ys ih =>
    rw [List.foldl_cons]
    cases h : llt y x with
    | true =>
      obtain ⟨h1, h2⟩ := ih y
      rw [if_pos rfl]
      refine ⟨by simp only [List.mem_cons] at h1 ⊢; rcases h1 with q | q; exact .inr (.inl q); exact .inr (.inr q), fun z hz => ?_⟩
      rcases List.mem_cons.mp hz with q | q
      · subst q
        exact lle_trans (h2 y (by simp)) (llt_asymm h)
      · exact h2 z q
    | false =>
      obtain ⟨h1, h2⟩ := ih x
      rw [if_neg (by decide)]
      refine ⟨by simp only [List.mem_cons] at h1 ⊢; rcases h1 with q | q; exact .inl q; exact .inr (.inr q), fun z hz => ?_⟩
      rcases List.mem_cons.mp hz with q | q
      · subst q
        exact h2 z (by simp)
      · rcases List.mem_cons.mp q with q | q
        · subst q
          exact lle_trans (h2 x (by simp)) h
        · exact h2 z (by simp [q])
theorem bi_mins_tD {x : List Nat} {xs : List (List Nat)} : biD .mins [.list ((x :: xs).map tD)] = some (tD (lmin x xs), [tD (lmin x xs)]) := by
  rw [List.map_cons]
  show (if alikes (tD x :: xs.map tD) && ((tD x :: xs.map tD).all fun x => SeqAt.shaped x && !isNon x) then some (W.minD (tD x) (xs.map tD), [W.minD (tD x) (xs.map tD)]) else none) = _
  rw [if_pos ?_, minD_tD]
  rw [← List.map_cons, alikes_tD (x :: xs), Bool.true_and]
  refine List.all_eq_true.mpr fun z hz => ?_
  rw [(sh_map (n := 1) (fun y _ => sh_tD) z hz).shaped (by decide)]
  obtain ⟨y, _, rfl⟩ := List.mem_map.mp hz
  rfl
theorem bi_min2_tD (a b : List Nat) : biD .min2 [tD a, tD b] = some (tD (if llt b a then b else a), [tD a, tD b]) := by
  show (if alikes [tD a, tD b] && SeqAt.shaped (tD a) && SeqAt.shaped (tD b) then some (if W.dataLt (tD b) (tD a) then tD b else tD a, [tD a, tD b]) else none) = _
  rw [if_pos (by rw [show alikes [tD a, tD b] = true from alikes_tD [a, b], sh_tD.shaped (n := 1) (by decide), sh_tD.shaped (n := 1) (by decide)]; rfl), lt_tD]
  cases llt b a <;> rfl
/-! ### a dict as a function of numbers -/
structure DR {α : Type} (enc : α → D) (kvs : List (D × D)) (f : Nat → Option α) : Prop where
  get : ∀ k : Nat, dkeys kvs (.int k) = (f k).map enc
  keys : ∃ ks : List Nat, kvs.map (·.1) = nl ks ∧ ks.Nodup ∧ ∀ k, k ∈ ks ↔ (f k).isSome = true
  vs : ∀ p ∈ kvs, imm p.2 = true
theorem DR.nil {α : Type} {enc : α → D} : DR enc [] fun _ => none := ⟨fun k => rfl, ⟨[], rfl, List.nodup_nil, fun k => by simp⟩, fun p hp => by cases hp⟩
theorem dkeys_app (m : List (D × D)) (k v x : D) : dkeys (m ++ [(k, v)]) x = (dkeys m x).or (if PyData.eqv k x then some v else none) := by
  induction m with
  | nil => simp [dkeys]
  | cons p m ih =>
    obtain ⟨a, b⟩ := p
    rw [List.cons_append, dkeys, dkeys, ih]
    by_cases h : PyData.eqv a x = true <;> simp [h]
theorem dkeys_map (m : List (D × D)) (k : Nat) (v : D) (x : Nat) (hk : ∃ ks : List Nat, m.map (·.1) = nl ks) : dkeys (m.map fun p => if PyData.eqv p.1 (.int k) then (p.1, v) else p) (.int x) = if x = k ∧ (dkeys m (.int k)).isSome then some v else dkeys m (.int x) := by
  obtain ⟨ks, e⟩ := hk
  induction m generalizing ks with
  | nil => simp [dkeys]
  | cons p m ih =>
    obtain ⟨a, b⟩ := p
    cases ks with
    | nil => cases e
    | cons y ys =>
      simp only [List.map_cons, nl_cons, List.cons.injEq] at e
      obtain ⟨rfl, e⟩ := e
      have ih := ih ys e
      rw [List.map_cons]
      by_cases h : y = k
      · subst h
        by_cases h2 : x = y
        · subst h2
          simp [dkeys]
        · have h3 : ¬ (y : Int) = (x : Int) := by omega
          simp [dkeys, h2, h3]
          rw [ih]
          simp [h2]
      · have h3 : ¬ (y : Int) = (k : Int) := by omega
        by_cases h2 : x = y
        · subst h2
          simp [dkeys, h, h3]
        · have h4 : ¬ (y : Int) = (x : Int) := by omega
          simp [dkeys, h3, h4]
          rw [ih]
theorem DR.any {α : Type} {enc : α → D} {kvs : List (D × D)} {f : Nat → Option α} (h : DR enc kvs f) (k : Nat) : (kvs.any fun p => PyData.eqv p.1 (.int k)) = (f k).isSome := by
  obtain ⟨ks, e, _, hm⟩ := h.keys
  have e1 : (kvs.any fun p => PyData.eqv p.1 (.int k)) = (nl ks).any fun z => PyData.eqv z (.int k) := by
    rw [← e, List.any_map]
    rfl
  rw [e1, any_nl]
  by_cases q : k ∈ ks
  · rw [decide_eq_true q, (hm k).mp q]
  · rw [decide_eq_false q]
    cases z : (f k).isSome with
    | false => rfl
    | true => exact absurd ((hm k).mpr z) q
theorem DR.put {α : Type} {enc : α → D} {kvs : List (D × D)} {f : Nat → Option α} (h : DR enc kvs f) (k : Nat) (v : α) (hv : imm (enc v) = true) : DR enc (dput kvs (.int k) (enc v)) fun x => if x = k then some v else f x := by
  obtain ⟨ks, e, nd, hm⟩ := h.keys
  unfold dput
  rw [h.any k]
  cases z : (f k).isSome with
  | true =>
    rw [if_pos rfl]
    refine ⟨fun x => ?_, ⟨ks, ?_, nd, fun x => ?_⟩, fun p hp => ?_⟩
    · rw [dkeys_map kvs k (enc v) x ⟨ks, e⟩, h.get k, h.get x]
      by_cases q : x = k
      · simp [q, z]
      · simp [q]
    · rw [← e, List.map_map]
      congr 1
      funext p
      simp only [Function.comp]
      split <;> rfl
    · rw [hm x]
      by_cases q : x = k
      · subst q; simp [z]
      · simp [q]
    · obtain ⟨q, hq, rfl⟩ := List.mem_map.mp hp
      by_cases e : PyData.eqv q.1 (.int k) = true
      · rw [if_pos e]; exact hv
      · rw [if_neg e]; exact h.vs q hq
  | false =>
    rw [if_neg (by decide)]
    have hk : k ∉ ks := fun q => by rw [(hm k).mp q] at z; cases z
    refine ⟨fun x => ?_, ⟨ks ++ [k], by simp [e], ?_, fun x => ?_⟩, fun p hp => ?_⟩
    · rw [dkeys_app, h.get x]
      by_cases q : x = k
      · subst q
        have : f x = none := by simpa using z
        simp [this]
      · have h3 : ¬ (k : Int) = (x : Int) := by omega
        simp [q, h3]
    · exact List.nodup_append.mpr ⟨nd, by simp, fun a ha b hb => by simp at hb; subst hb; intro q; subst q; exact hk ha⟩
    · rw [List.mem_append, hm x]
      by_cases q : x = k
      · simp [q]
      · simp [q]
    · rcases List.mem_append.mp hp with q | q
      · exact h.vs p q
      · simp only [List.mem_singleton] at q
        subst q
        exact hv
theorem DR.imms {α : Type} {enc : α → D} {kvs : List (D × D)} {f : Nat → Option α} (h : DR enc kvs f) : imms (kvs.map (·.2)) = true := imms_iff.mpr fun x hx => by
  obtain ⟨p, hp, rfl⟩ := List.mem_map.mp hx
  exact h.vs p hp
theorem DR.len {α : Type} {enc : α → D} {kvs : List (D × D)} {f : Nat → Option α} (h : DR enc kvs f) {n : Nat} (hb : ∀ k, (f k).isSome = true → k < n) : kvs.length ≤ n := by
  obtain ⟨ks, e, nd, hm⟩ := h.keys
  have hl : kvs.length = ks.length := by
    have := congrArg List.length e
    simpa using this
  rw [hl]
  exact nodup_le n ks nd fun k hk => hb k ((hm k).mp hk)
@[simp] theorem cmp_in_dict (kvs : List (D × D)) (k : Int) : cmpD .In (.int k) (.dict kvs) = some (dkeys kvs (.int k)).isSome := rfl
@[simp] theorem cmp_notin_dict (kvs : List (D × D)) (k : Int) : cmpD .NotIn (.int k) (.dict kvs) = some (!(dkeys kvs (.int k)).isSome) := rfl
@[simp] theorem idx_dict (kvs : List (D × D)) (k : Int) : idxD (.dict kvs) (.int k) = dkeys kvs (.int k) := rfl
@[simp] theorem get1_dict (kvs : List (D × D)) (k : Int) : get1D (.dict kvs) (.int k) = some ((dkeys kvs (.int k)).getD .none) := rfl
@[simp] theorem get2_dict (kvs : List (D × D)) (k : Int) (c : D) : get2D (.dict kvs) (.int k) c = some ((dkeys kvs (.int k)).getD c) := rfl
@[simp] theorem isKey_int (k : Int) : isKey (.int k) = true := rfl
theorem dkeys_vals {m : List (D × D)} {k v : D} (h : dkeys m k = some v) : ∃ p ∈ m, p.2 = v := by
  induction m with
  | nil => cases h
  | cons p m ih =>
    obtain ⟨a, b⟩ := p
    rw [dkeys] at h
    by_cases e : PyData.eqv a k = true
    · rw [if_pos e] at h
      cases h
      exact ⟨(a, _), by simp, rfl⟩
    · rw [if_neg e] at h
      obtain ⟨q, h1, h2⟩ := ih h
      exact ⟨q, by simp [h1], h2⟩
theorem once_snoc {α : Type} [DecidableEq α] (l : List α) (x : α) : once (l ++ [x]) = if x ∈ l then once l else once l ++ [x] := by
  induction l with
  | nil => simp [once]
  | cons y ys ih =>
    rw [List.cons_append, once, ih]
    by_cases e : y = x
    · subst e
      by_cases h : y ∈ ys
      · simp [h, once]
      · simp [h, once]
    · have e' : ¬ x = y := fun h => e h.symm
      by_cases h : x ∈ ys
      · simp [h, once]
      · simp [h, once, e, e']
theorem once_old {α : Type} [DecidableEq α] {l : List α} {x : α} (h : x ∈ l) : once (l ++ [x]) = once l := by rw [once_snoc]; simp [h]
theorem once_new {α : Type} [DecidableEq α] {l : List α} {x : α} (h : x ∉ l) : once (l ++ [x]) = once l ++ [x] := by rw [once_snoc]; simp [h]
theorem any_tDs (l : List (List Nat)) (x : List Nat) : ((l.map tD).any fun z => PyData.eqv z (tD x)) = decide (x ∈ l) := by
  induction l with
  | nil => rfl
  | cons y ys ih =>
    rw [List.map_cons, List.any_cons, ih, eqv_tD]
    by_cases h : y = x
    · subst h; simp
    · have h' : ¬ x = y := fun e => h e.symm
      by_cases k : x ∈ ys <;> simp [h, h', k]
theorem cmp_notin_tDs (l : List (List Nat)) (x : List Nat) : cmpD .NotIn (tD x) (.list (l.map tD)) = some (!decide (x ∈ l)) := by
  show (if SeqAt.shaped _ && SeqAt.shaped _ then _ else _) = _
  rw [if_pos (by rw [(sh_tD (n := 0)).shaped (by decide), (sh_list (n := 1) (sh_map fun y _ => sh_tD)).shaped (by decide)]; rfl), any_tDs]
end Cv
/-! # K80a: the small functions of arrows -/
namespace Cv
open PySem Cr Cw
section
variable {call : CallT} {fuel : Nat}
def rising (xs : List Nat) : Bool := (xs.zip (xs.drop 1)).all fun p => decide (p.1 < p.2)
def msk (xs : List Nat) : Nat := (xs.map fun p => 2 ^ p).sum
/-- pairs as they are handed on -/
def PA (ps : List (Nat × Nat)) (d : D) (st : Stt) : Prop := (d = .tuple (ps.map pD) ∧ st = .ow) ∨ (d = .list (ps.map pD) ∧ st = .fz)
structure Va (n : Nat) (ps : List (Nat × Nat)) : Prop where
  pos : 1 ≤ n
  n7 : n ≤ 7
  len : ps.length ≤ 16
  near : ∀ p ∈ ps, p.1 < n
  far : ∀ p ∈ ps, p.2 < n
  ne : ∀ p ∈ ps, p.1 ≠ p.2
def aD (n : Nat) (ps : List (Nat × Nat)) : D := .tuple [.str "arrows", .int n, .tuple (ps.map pD)]
theorem aD_imm (n : Nat) (ps : List (Nat × Nat)) : imm (aD n ps) = true := by simp [aD]
theorem msk_cast (xs : List Nat) : (xs.map (HPow.hPow (2 : Int))).sum = ((msk xs : Nat) : Int) := by
  unfold msk
  induction xs with
  | nil => rfl
  | cons x xs ih => simp [ih]
theorem is_integer_ok (k : Int) : runF call fuel T80.f_is_integer [(.int k, .ow)] = some (.bool true, true, .none) := by
  rw [← T_eq]
  refine T_runF rfl (by simp [T80.f_is_integer]) ?_
  simp [T80.f_is_integer, Cr.start, retO, tyD, takeOpd, backOpd, frz1, endCall, keep, setO, noName, ownD, isListC, isDictC, isDictO, into, small]
theorem is_position_ok {i : Nat} (hi : ∀ k, call i [(.int k, .ow)] = some (.bool true, true, .none)) (k n : Int) : runF call fuel (T80.f_is_position i) [(.int k, .ow), (.int n, .ow)] = some (.bool (decide (0 ≤ k) && decide (k < n)), true, .none) := by
  rw [← T_eq]
  refine T_runF rfl (by simp [T80.f_is_position]) ?_
  simp [T80.f_is_position, Cr.start, retO, tyD, takeOpd, backOpd, frz1, endCall, keep, setO, noName, ownD, isListC, isDictC, isDictO, into, small, hi]
  split <;> simp_all <;> omega
theorem are_rising_ok {i : Nat} (hi : ∀ k n : Int, call i [(.int k, .ow), (.int n, .ow)] = some (.bool (decide (0 ≤ k) && decide (k < n)), true, .none)) (xs : List Nat) (hl : xs.length ≤ 1000) (n : Int) : runF call fuel (T80.f_are_rising i) [(tD xs, .ow), (.int n, .ow)] = some (.bool (xs.all (fun (k : Nat) => decide ((k : Int) < n)) && rising xs), true, .none) := by
  rw [← T_eq]
  refine T_runF rfl (by simp [T80.f_are_rising]) ?_
  simp [T80.f_are_rising, Cr.start, retO, tyD, takeOpd, backOpd, frz1, endCall, keep, setO, noName, ownD, isListC, isDictC, isDictO, into, small, hi]
  refine T_pure0 (β := Nat) (fun n => PyData.int (Int.ofNat n)) (fun k => .bool (decide ((k : Int) < n))) true _ rfl (fun x hx => ?_) fun r' hr => ?_
  · simp [Cr.start, retO, tyD, takeOpd, backOpd, frz1, endCall, keep, setO, noName, ownD, isListC, isDictC, isDictO, into, small, hi]
  · dsimp only
    simp [Cr.start, retO, tyD, takeOpd, backOpd, frz1, endCall, keep, setO, noName, ownD, isListC, isDictC, isDictO, into, small, hr, hi, show xs.length ≤ 1000000 by omega, bi_all]
    split
    · rename_i h
      obtain ⟨x, h1, h2⟩ := h
      intro h
      have := h x h1
      omega
    · have hl2 : (xs.zip (xs.drop 1)).length ≤ 1000000 := by rw [List.length_zip]; omega
      refine T_pure0 (β := Nat × Nat) pD (fun p => .bool (decide (p.1 < p.2))) true _ rfl (fun x hx => ?_) fun r' hr => ?_
      · simp [Cr.start, retO, tyD, takeOpd, backOpd, frz1, endCall, keep, setO, noName, ownD, isListC, isDictC, isDictO, into, small]
      · dsimp only
        rename_i h
        have k1 : xs.all (fun k => decide ((k : Int) < n)) = true := List.all_eq_true.mpr fun x hx => by
          by_cases c : (x : Int) < n
          · exact decide_eq_true c
          · exact absurd ⟨x, hx, by omega⟩ h
        try simp only [k1]
        simp [Cr.start, retO, tyD, takeOpd, backOpd, frz1, endCall, keep, setO, noName, ownD, isListC, isDictC, isDictO, into, small, hr, bi_all, rising, k1]
        omega
theorem mask_of_ok (xs : List Nat) (hl : xs.length ≤ 1000) (h7 : ∀ x ∈ xs, x ≤ 16) : runF call fuel T80.f_mask_of [(tD xs, .ow)] = some (.int (msk xs), true, .none) := by
  rw [← T_eq]
  refine T_runF rfl (by simp [T80.f_mask_of]) ?_
  simp [T80.f_mask_of, Cr.start, retO, tyD, takeOpd, backOpd, frz1, endCall, keep, setO, noName, ownD, isListC, isDictC, isDictO, into, small]
  refine T_pure0 (β := Nat) (fun n => PyData.int (Int.ofNat n)) (fun k => .int (2 ^ k : Nat)) true _ rfl (fun x hx => ?_) fun r' hr => ?_
  · have := h7 x hx
    simp [Cr.start, retO, tyD, takeOpd, backOpd, frz1, endCall, keep, setO, noName, ownD, isListC, isDictC, isDictO, into, small, op_shl 1 (x : Int) (by omega) (by omega) (by decide)]
  · dsimp only
    simp [Cr.start, retO, tyD, takeOpd, backOpd, frz1, endCall, keep, setO, noName, ownD, isListC, isDictC, isDictO, into, small, hr, bi_sum, show xs.length ≤ 1000000 by omega]
    exact msk_cast xs
theorem enters_ok (m : Nat) (p : Nat × Nat) : runF call fuel T80.f_enters [(.int m, .ow), (pD p, .ow)] = some (.bool (!m.testBit p.1 && m.testBit p.2), true, .none) := by
  rw [← T_eq]
  refine T_runF rfl (by simp [T80.f_enters]) ?_
  simp [T80.f_enters, Cr.start, retO, tyD, takeOpd, backOpd, frz1, endCall, keep, setO, noName, ownD, isListC, isDictC, isDictO, into, small, op_shr, and_bit]
  cases m.testBit p.1 <;> cases m.testBit p.2 <;> simp
theorem arrow_is_right_ok {i n : Nat} (hi : ∀ k n : Int, call i [(.int k, .ow), (.int n, .ow)] = some (.bool (decide (0 ≤ k) && decide (k < n)), true, .none)) (p : Nat × Nat) (h1 : p.1 < n) (h2 : p.2 < n) (h3 : p.1 ≠ p.2) :
    runF call fuel (T80.f_arrow_is_right i) [(.int n, .ow), (pD p, .ow)] = some (.bool true, true, .none) := by
  rw [← T_eq]
  refine T_runF rfl (by simp [T80.f_arrow_is_right]) ?_
  simp [T80.f_arrow_is_right, Cr.start, retO, tyD, takeOpd, backOpd, frz1, endCall, keep, setO, noName, ownD, isListC, isDictC, isDictO, into, small]
  refine T_pure0 (β := Nat) (l := [p.1, p.2]) (fun n => PyData.int (Int.ofNat n)) (fun k => .bool true) true _ rfl (fun x hx => ?_) fun r' hr => ?_
  · have : x < n := by
      simp only [List.mem_cons, List.not_mem_nil, or_false] at hx
      rcases hx with rfl | rfl <;> assumption
    simp [Cr.start, retO, tyD, takeOpd, backOpd, frz1, endCall, keep, setO, noName, ownD, isListC, isDictC, isDictO, into, small, hi, this]
  · dsimp only
    simp [Cr.start, retO, tyD, takeOpd, backOpd, frz1, endCall, keep, setO, noName, ownD, isListC, isDictC, isDictO, into, small, hr, biD, boolsD]
    omega
theorem arrows_are_right_ok {i j n : Nat} {ps : List (Nat × Nat)} (hv : Va n ps) (hi : ∀ p : Nat × Nat, p.1 < n → p.2 < n → p.1 ≠ p.2 → call i [(.int n, .ow), (pD p, .ow)] = some (.bool true, true, .none)) (hj : ∀ k, call j [(.int k, .ow)] = some (.bool true, true, .none)) :
    runF call fuel (T80.f_arrows_are_right i j) [(aD n ps, .ow)] = some (.bool true, true, .none) := by
  rw [← T_eq]
  refine T_runF rfl (by simp [T80.f_arrows_are_right]) ?_
  have := hv.pos
  have := hv.n7
  have := hv.len
  have e : ¬ 16 < (ps.map pD).length := by simp; omega
  simp [T80.f_arrows_are_right, Cr.start, retO, tyD, takeOpd, backOpd, frz1, endCall, keep, setO, noName, ownD, isListC, isDictC, isDictO, into, small, aD, hj]
  refine ⟨by omega, by omega, by omega, ?_⟩
  refine T_pure0 (β := Nat × Nat) pD (fun p => .bool true) true _ rfl (fun x hx => ?_) fun r' hr => ?_
  · have := hi x (hv.near x hx) (hv.far x hx) (hv.ne x hx)
    simp [Cr.start, retO, tyD, takeOpd, backOpd, frz1, endCall, keep, setO, noName, ownD, isListC, isDictC, isDictO, into, small, this]
  · dsimp only
    have hl : ps.length ≤ 1000000 := by omega
    simp [Cr.start, retO, tyD, takeOpd, backOpd, frz1, endCall, keep, setO, noName, ownD, isListC, isDictC, isDictO, into, small, hr, bi_all]
    omega
theorem turned_ok {ps : List (Nat × Nat)} {d : D} {st : Stt} (hp : PA ps d st) (hl : ps.length ≤ 1000) : runF call fuel T80.f_turned_pairs [(d, st)] = some (.list ((ps.map Prod.swap).map pD), true, .none) := by
  rw [← T_eq]
  refine T_runF rfl (by simp [T80.f_turned_pairs]) ?_
  rcases hp with ⟨rfl, rfl⟩ | ⟨rfl, rfl⟩
  all_goals
    simp [T80.f_turned_pairs, Cr.start, retO, tyD, takeOpd, backOpd, frz1, endCall, keep, setO, noName, ownD, isListC, isDictC, isDictO, into, small]
    refine T_pure0 (β := Nat × Nat) pD (fun p => pD p.swap) true _ rfl (fun x hx => ?_) fun r' hr => ?_
    · simp [Cr.start, retO, tyD, takeOpd, backOpd, frz1, endCall, keep, setO, noName, ownD, isListC, isDictC, isDictO, into, small]
    · dsimp only
      have hl : ps.length ≤ 1000000 := by omega
      simp [Cr.start, retO, tyD, takeOpd, backOpd, frz1, endCall, keep, setO, noName, ownD, isListC, isDictC, isDictO, into, small, hr]
      omega
end
end Cv
/-! # K80b: comes_from -/
namespace Cv
open PySem Cr Cw Bfs
section
variable {call : CallT} {fuel : Nat}
def encW (w : List Nat) : D := tD w
/-- ways one arrow longer, those looked at: all of the places fa, of the place h those by the first k pairs -/
def Seen (ps : List (Nat × Nat)) (fw : Nat → Option (List Nat)) (fa : List Nat) (h k : Nat) (g : Nat) (w : List Nat) : Prop :=
  ∃ h' a w0, (h' ∈ fa ∨ (h' = h ∧ a < k)) ∧ fw h' = some w0 ∧ ps[a]? = some (h', g) ∧ fw g = none ∧ w = w0 ++ [a]
theorem least_put {C C' : Nat → List Nat → Prop} {f : Nat → Option (List Nat)} (F : Least C f) (g : Nat) (w : List Nat) (hC : ∀ g' w', C' g' w' ↔ C g' w' ∨ (g' = g ∧ w' = w)) :
    Least C' fun x => if x = g then some (if llt w ((f g).getD w) then w else (f g).getD w) else f x := by
  refine ⟨fun {g' w'} h => ?_, fun {g' w'} h => ?_⟩
  · by_cases e : g' = g
    · subst e
      rw [if_pos rfl] at h
      cases z : f g' with
      | none =>
        rw [z] at h
        simp [llt_irr] at h
        subst h
        refine ⟨(hC _ _).mpr (.inr ⟨rfl, rfl⟩), fun w2 h2 => ?_⟩
        rcases (hC _ _).mp h2 with q | ⟨_, rfl⟩
        · have := F.all q
          rw [z] at this
          cases this
        · exact llt_irr _
      | some u =>
        rw [z] at h
        simp only [Option.getD_some, Option.some.injEq] at h
        obtain ⟨m1, m2⟩ := F.mem z
        cases c : llt w u with
        | true =>
          rw [c, if_pos rfl] at h
          subst h
          refine ⟨(hC _ _).mpr (.inr ⟨rfl, rfl⟩), fun w2 h2 => ?_⟩
          rcases (hC _ _).mp h2 with q | ⟨_, rfl⟩
          · exact lle_trans (llt_asymm c) (m2 _ q)
          · exact llt_irr _
        | false =>
          rw [c, if_neg (by decide)] at h
          subst h
          refine ⟨(hC _ _).mpr (.inl m1), fun w2 h2 => ?_⟩
          rcases (hC _ _).mp h2 with q | ⟨_, rfl⟩
          · exact m2 _ q
          · exact c
    · rw [if_neg e] at h
      obtain ⟨m1, m2⟩ := F.mem h
      refine ⟨(hC _ _).mpr (.inl m1), fun w2 h2 => ?_⟩
      rcases (hC _ _).mp h2 with q | ⟨q, _⟩
      · exact m2 _ q
      · exact absurd q e
  · by_cases e : g' = g
    · simp [e]
    · rcases (hC _ _).mp h with q | ⟨q, _⟩
      · simp only [if_neg e]
        exact F.all q
      · exact absurd q e
theorem least_congr {C C' : Nat → List Nat → Prop} {f : Nat → Option (List Nat)} (F : Least C f) (h : ∀ g w, C' g w ↔ C g w) : Least C' f :=
  ⟨fun {g w} e => ⟨(h _ _).mpr (F.mem e).1, fun w' h' => (F.mem e).2 _ ((h _ _).mp h')⟩, fun {g w} e => F.all ((h _ _).mp e)⟩
theorem seen_step_no {ps : List (Nat × Nat)} {fw : Nat → Option (List Nat)} {fa : List Nat} {h k : Nat} {p : Nat × Nat} (hp : ps[k]? = some p) (hn : ¬ (p.1 = h ∧ fw p.2 = none)) (g : Nat) (w : List Nat) : Seen ps fw fa h (k + 1) g w ↔ Seen ps fw fa h k g w := by
  constructor
  · rintro ⟨h', a, w0, q1, q2, q3, q4, q5⟩
    refine ⟨h', a, w0, ?_, q2, q3, q4, q5⟩
    rcases q1 with q | ⟨q, l⟩
    · exact .inl q
    · refine .inr ⟨q, ?_⟩
      by_cases e : a = k
      · subst e
        rw [hp] at q3
        cases q3
        exact absurd ⟨q, q4⟩ hn
      · omega
  · rintro ⟨h', a, w0, q1, q2, q3, q4, q5⟩
    refine ⟨h', a, w0, ?_, q2, q3, q4, q5⟩
    rcases q1 with q | ⟨q, l⟩
    · exact .inl q
    · exact .inr ⟨q, by omega⟩
theorem seen_step_yes {ps : List (Nat × Nat)} {fw : Nat → Option (List Nat)} {fa : List Nat} {h k g0 : Nat} {w0 : List Nat} (hp : ps[k]? = some (h, g0)) (hw : fw h = some w0) (hg : fw g0 = none) (g : Nat) (w : List Nat) : Seen ps fw fa h (k + 1) g w ↔ Seen ps fw fa h k g w ∨ (g = g0 ∧ w = w0 ++ [k]) := by
  constructor
  · rintro ⟨h', a, w1, q1, q2, q3, q4, q5⟩
    rcases q1 with q | ⟨q, l⟩
    · exact .inl ⟨h', a, w1, .inl q, q2, q3, q4, q5⟩
    · by_cases e : a = k
      · subst e
        rw [hp] at q3
        cases q3
        rw [hw] at q2
        cases q2
        exact .inr ⟨rfl, q5⟩
      · exact .inl ⟨h', a, w1, .inr ⟨q, by omega⟩, q2, q3, q4, q5⟩
  · rintro (⟨h', a, w1, q1, q2, q3, q4, q5⟩ | ⟨rfl, rfl⟩)
    · refine ⟨h', a, w1, ?_, q2, q3, q4, q5⟩
      rcases q1 with q | ⟨q, l⟩
      · exact .inl q
      · exact .inr ⟨q, by omega⟩
    · exact ⟨h, k, w0, .inr ⟨rfl, by omega⟩, hw, hp, hg, rfl⟩
theorem seen_next {ps : List (Nat × Nat)} {fw : Nat → Option (List Nat)} {fa : List Nat} {h h2 : Nat} (g : Nat) (w : List Nat) : Seen ps fw (fa ++ [h]) h2 0 g w ↔ Seen ps fw fa h ps.length g w := by
  constructor
  · rintro ⟨h', a, w0, q1, q2, q3, q4, q5⟩
    refine ⟨h', a, w0, ?_, q2, q3, q4, q5⟩
    rcases q1 with q | ⟨q, l⟩
    · rcases List.mem_append.mp q with q | q
      · exact .inl q
      · exact .inr ⟨by simpa using q, (List.getElem?_eq_some_iff.mp q3).1⟩
    · omega
  · rintro ⟨h', a, w0, q1, q2, q3, q4, q5⟩
    refine ⟨h', a, w0, ?_, q2, q3, q4, q5⟩
    rcases q1 with q | ⟨q, l⟩
    · exact .inl (by simp [q])
    · exact .inl (by simp [q])
/-- behind one pair -/
def PQ (ps : List (Nat × Nat)) (u : Nat) (d : D) (st : Stt) (kw : List (D × D)) (fw : Nat → Option (List Nat)) (fr fa : List Nat) (h k : Nat) (r : Rho) : Prop :=
  ∃ kl fl c6 c7 c8 c9, freB c6 = true ∧ freB c7 = true ∧ freB c8 = true ∧ freB c9 = true ∧ r = [some (d, st), some (.int u, .ow), some (.dict kw, .ow), some (.list (nl fr), .lo), some (.dict kl, .ow), some (.int h, .ow), c6, c7, c8, c9] ∧ DR tD kl fl ∧ Least (Seen ps fw fa h k) fl
/-- one pair is looked at -/
theorem pair_step {n : Nat} {ps : List (Nat × Nat)} (hv : Va n ps) {u : Nat} {d : D} {st : Stt} {kw : List (D × D)} {fw : Nat → Option (List Nat)} {fr fa : List Nat} {h k : Nat} {p : Nat × Nat} (hp : ps[k]? = some p) (hb : ∀ v w, fw v = some w → w.length ≤ 1000)
    (Dw : DR tD kw fw) (hh : ∃ w, fw h = some w) {r : Rho} (I : PQ ps u d st kw fw fr fa h k r) :
    T (asg false (.tup [.nm 6, .tup [.nm 7, .nm 8]]) (.tuple [.int k, pD p]) r) fun r1 =>
    T (exs call fuel (.cons (.ife (.an (.cmp .Eq (.var 7) (.var 5)) (.cmp .NotIn (.var 8) (.var 2))) (.cons (.set 9 (.op2 .Add (.idx (.var 2) (.var 5)) (.tup (.cons (.var 6) .nil))))
      (.cons (.sub 4 (.var 8) (.bi .min2 (.cons (.get2 (.var 4) (.var 8) (.var 9)) (.cons (.var 9) .nil)))) .nil)) .nil) .nil) r1) fun q => q.2 = .nx ∧ PQ ps u d st kw fw fr fa h (k + 1) q.1 := by
  obtain ⟨s, g⟩ := p
  obtain ⟨w, hw⟩ := hh
  obtain ⟨kl, fl, c6, c7, c8, c9, h6, h7, h8, h9, rfl, Dl, F⟩ := I
  have hlen : kl.length ≤ 7 := Dl.len fun x hx => by
    obtain ⟨y, e⟩ := Option.isSome_iff_exists.mp hx
    obtain ⟨⟨h', a, w0, _, _, q3, _, _⟩, _⟩ := F.mem e
    have := hv.far _ (List.mem_of_getElem? q3)
    have := hv.n7
    simp only at *
    omega
  simp [Cr.start, retO, tyD, takeOpd, backOpd, frz1, endCall, keep, setO, noName, ownD, isListC, isDictC, isDictO, into, small, h6, h7, h8, h9]
  have no : ¬ (s = h ∧ fw g = none) → PQ ps u d st kw fw fr fa h (k + 1) [some (d, st), some (.int u, .ow), some (.dict kw, .ow), some (.list (nl fr), .lo), some (.dict kl, .ow), some (.int h, .ow), some (.int k, .ow), some (.int s, .ow), some (.int g, .ow), c9] := fun hn =>
    ⟨kl, fl, _, _, _, _, by simp, by simp, by simp, h9, rfl, Dl, least_congr F fun g w => seen_step_no hp hn g w⟩
  by_cases hs : s = h
  · subst hs
    simp [Dw.get]
    cases hg : fw g with
    | some x =>
      simp
      exact no fun q => by rw [hg] at q; cases q.2
    | none =>
      have hl := hb _ _ hw
      simp [hw, Cr.start, retO, tyD, takeOpd, backOpd, frz1, endCall, keep, setO, noName, ownD, isListC, isDictC, isDictO, into, small, op_cat_t, show w.length ≤ 999999 by omega, Dl.get]
      refine ⟨h9, ?_⟩
      have e : (Option.map tD (fl g)).getD (PyData.tuple (nl w ++ [PyData.int k])) = tD ((fl g).getD (w ++ [k])) := by cases fl g <;> simp
      have e2 : (PyData.tuple (nl w ++ [PyData.int k])) = tD (w ++ [k]) := by simp
      rw [e, e2]
      simp [Cr.start, retO, tyD, takeOpd, backOpd, frz1, endCall, keep, setO, noName, ownD, isListC, isDictC, isDictO, into, small, bi_min2_tD, Dl.imms, show kl.length ≤ 1000000 by omega]
      exact ⟨_, _, _, _, _, _, by simp, by simp, by simp, by simp, rfl, Dl.put g _ (tD_imm _), least_put F g (w ++ [k]) (seen_step_yes hp hw hg)⟩
  · have hs' : ¬ (s : Int) = (h : Int) := by omega
    simp [hs']
    exact no fun q => hs q.1
/-- all pairs are looked at -/
theorem inner {n : Nat} {ps : List (Nat × Nat)} (hv : Va n ps) {u : Nat} {d : D} {st : Stt} (hd : PA ps d st) {kw : List (D × D)} {fw : Nat → Option (List Nat)} {fr fa : List Nat} {h : Nat} (hb : ∀ v w, fw v = some w → w.length ≤ 1000)
    (Dw : DR tD kw fw) (hh : ∃ w, fw h = some w) {r : Rho} (I : PQ ps u d st kw fw fr fa h 0 r) :
    T (ex call fuel (.forr (.tup [.nm 6, .tup [.nm 7, .nm 8]]) (.enum (.var 0)) true (.cons (.ife (.an (.cmp .Eq (.var 7) (.var 5)) (.cmp .NotIn (.var 8) (.var 2))) (.cons (.set 9 (.op2 .Add (.idx (.var 2) (.var 5)) (.tup (.cons (.var 6) .nil))))
      (.cons (.sub 4 (.var 8) (.bi .min2 (.cons (.get2 (.var 4) (.var 8) (.var 9)) (.cons (.var 9) .nil)))) .nil)) .nil) .nil)) r) fun q => q.2 = .nx ∧ PQ ps u d st kw fw fr fa h ps.length q.1 := by
  have I0 := I
  obtain ⟨kl, fl, c6, c7, c8, c9, h6, h7, h8, h9, rfl, Dl, F⟩ := I
  have key : ∀ Q : Rho × Fl → Prop, (∀ r', PQ ps u d st kw fw fr fa h ps.length r' → Q (r', .nx)) → T (forT (fun r => exs call fuel (.cons (.ife (.an (.cmp .Eq (.var 7) (.var 5)) (.cmp .NotIn (.var 8) (.var 2))) (.cons (.set 9 (.op2 .Add (.idx (.var 2) (.var 5)) (.tup (.cons (.var 6) .nil))))
      (.cons (.sub 4 (.var 8) (.bi .min2 (.cons (.get2 (.var 4) (.var 8) (.var 9)) (.cons (.var 9) .nil)))) .nil)) .nil) .nil) r) (asg false (.tup [.nm 6, .tup [.nm 7, .nm 8]])) (enumD 0 (ps.map pD)) [some (d, st), some (.int u, .ow), some (.dict kw, .ow), some (.list (nl fr), .lo), some (.dict kl, .ow), some (.int h, .ow), c6, c7, c8, c9]) Q := fun Q hQ => by
    refine T_forL (fun xs r => ∃ k, xs = ((ps.zipIdx 0).drop k).map (fun p => PyData.tuple [.int p.2, pD p.1]) ∧ k ≤ ps.length ∧ PQ ps u d st kw fw fr fa h k r) (fun x xs r hi => ?_) ⟨0, by rw [enumD_map]; rfl, Nat.zero_le _, I0⟩ fun r' hi => ?_
    · obtain ⟨k, e, hk, J⟩ := hi
      cases z : (ps.zipIdx 0).drop k with
      | nil => rw [z] at e; cases e
      | cons y ys =>
        rw [z, List.map_cons] at e
        cases e
        have hy : (ps.zipIdx 0)[k]? = some y := by
          have := congrArg (fun l => l[0]?) z
          simpa [List.getElem?_drop] using this
        have hlt : k < ps.length := by
          have := (List.getElem?_eq_some_iff.mp hy).1
          simpa using this
        obtain ⟨y1, y2⟩ := y
        rw [List.getElem?_zipIdx] at hy
        cases q : ps[k]? with
        | none => rw [q] at hy; cases hy
        | some p =>
          rw [q] at hy
          simp only [Option.map_some, Option.some.injEq, Prod.mk.injEq, Nat.zero_add] at hy
          obtain ⟨rfl, rfl⟩ := hy
          refine (pair_step hv q hb Dw hh J).mono fun r1 h1 => h1.mono fun p' h2 => ?_
          obtain ⟨r2, f⟩ := p'
          obtain ⟨rfl, J2⟩ := h2
          refine ⟨k + 1, ?_, hlt, J2⟩
          have : (ps.zipIdx 0).drop (k + 1) = ys := by
            rw [← List.drop_drop, z]
            rfl
          rw [this]
    · obtain ⟨k, e, hk, J⟩ := hi
      have : k = ps.length := by
        have := congrArg List.length e
        simp at this
        omega
      subst this
      exact hQ r' J
  rcases hd with ⟨rfl, rfl⟩ | ⟨rfl, rfl⟩
  · simp [Cr.start, retO, tyD, takeOpd, backOpd, frz1, endCall, keep, setO, noName, ownD, isListC, isDictC, isDictO, into, small]
    exact key _ fun r' h => ⟨rfl, h⟩
  · simp [Cr.start, retO, tyD, takeOpd, backOpd, frz1, endCall, keep, setO, noName, ownD, isListC, isDictC, isDictO, into, small]
    exact key _ fun r' h => ⟨rfl, by simpa [Cr.start, retO, tyD, takeOpd, backOpd, frz1, endCall, keep, setO, noName, ownD, isListC, isDictC, isDictO, into, small] using h⟩
/-- behind some places of the front -/
def PO (ps : List (Nat × Nat)) (u : Nat) (d : D) (st : Stt) (kw : List (D × D)) (fw : Nat → Option (List Nat)) (fr fa : List Nat) (r : Rho) : Prop :=
  ∃ kl fl c5 c6 c7 c8 c9, freB c5 = true ∧ freB c6 = true ∧ freB c7 = true ∧ freB c8 = true ∧ freB c9 = true ∧ r = [some (d, st), some (.int u, .ow), some (.dict kw, .ow), some (.list (nl fr), .lo), some (.dict kl, .ow), c5, c6, c7, c8, c9] ∧ DR tD kl fl ∧ Least (Seen ps fw fa 0 0) fl
theorem seen_zero {ps : List (Nat × Nat)} {fw : Nat → Option (List Nat)} {fa : List Nat} {h h' : Nat} (g : Nat) (w : List Nat) : Seen ps fw fa h 0 g w ↔ Seen ps fw fa h' 0 g w := by
  constructor
  · rintro ⟨h', a, w0, q1, q⟩
    exact ⟨h', a, w0, .inl (q1.resolve_right fun z => by omega), q⟩
  · rintro ⟨h', a, w0, q1, q⟩
    exact ⟨h', a, w0, .inl (q1.resolve_right fun z => by omega), q⟩
def bodyCF : CSs := .cons (.forr (.tup [.nm 6, .tup [.nm 7, .nm 8]]) (.enum (.var 0)) true (.cons (.ife (.an (.cmp .Eq (.var 7) (.var 5)) (.cmp .NotIn (.var 8) (.var 2))) (.cons (.set 9 (.op2 .Add (.idx (.var 2) (.var 5)) (.tup (.cons (.var 6) .nil))))
      (.cons (.sub 4 (.var 8) (.bi .min2 (.cons (.get2 (.var 4) (.var 8) (.var 9)) (.cons (.var 9) .nil)))) .nil)) .nil) .nil)) .nil
theorem outer {n : Nat} {ps : List (Nat × Nat)} (hv : Va n ps) {u : Nat} {d : D} {st : Stt} (hd : PA ps d st) {kw : List (D × D)} {fw : Nat → Option (List Nat)} {fr : List Nat} (hb : ∀ v w, fw v = some w → w.length ≤ 1000)
    (Dw : DR tD kw fw) (hh : ∀ h ∈ fr, ∃ w, fw h = some w) {c5 c6 c7 c8 c9 : Cell} (h5 : freB c5 = true) (h6 : freB c6 = true) (h7 : freB c7 = true) (h8 : freB c8 = true) (h9 : freB c9 = true) :
    T (forT (fun r => exs call fuel bodyCF r) (asg false (.nm 5)) (nl fr) [some (d, st), some (.int u, .ow), some (.dict kw, .ow), some (.list (nl fr), .lo), some (.dict [], .ow), c5, c6, c7, c8, c9]) fun q => q.2 = .nx ∧ PO ps u d st kw fw fr fr q.1 := by
  have F0 : Least (Seen ps fw [] 0 0) fun _ => none := ⟨fun {g w} h => (nomatch h), fun {g w} h => by
    obtain ⟨h', a, w0, q1, _⟩ := h
    rcases q1 with q | ⟨_, q⟩
    · cases q
    · omega⟩
  refine T_forL (fun xs r => ∃ fa fb, fr = fa ++ fb ∧ xs = nl fb ∧ PO ps u d st kw fw fr fa r) (fun x xs r hi => ?_) ⟨[], fr, rfl, rfl, [], fun _ => none, _, _, _, _, _, h5, h6, h7, h8, h9, rfl, DR.nil, F0⟩ fun r' hi => ?_
  · obtain ⟨fa, fb, e1, e2, kl, fl, c5, c6, c7, c8, c9, h5, h6, h7, h8, h9, rfl, Dl, F⟩ := hi
    cases fb with
    | nil => cases e2
    | cons h fb =>
      rw [nl_cons] at e2
      cases e2
      simp [Cr.start, retO, tyD, takeOpd, backOpd, frz1, endCall, keep, setO, noName, ownD, isListC, isDictC, isDictO, into, small, h5]
      unfold bodyCF
      rw [T_cons]
      refine (inner (fa := fa) (h := h) hv hd hb Dw (hh h (by rw [e1]; simp)) ⟨kl, fl, _, _, _, _, h6, h7, h8, h9, rfl, Dl, least_congr F fun g w => seen_zero g w⟩).mono fun p hp => ?_
      obtain ⟨r2, f⟩ := p
      obtain ⟨e, kl', fl', c6, c7, c8, c9, h6, h7, h8, h9, e3, Dl', F'⟩ := hp
      simp only at e e3
      subst e e3
      simp
      exact ⟨fa ++ [h], fb, by simp [e1], rfl, kl', fl', _, _, _, _, _, by simp, h6, h7, h8, h9, rfl, Dl', least_congr F' fun g w => seen_next g w⟩
  · obtain ⟨fa, fb, e1, e2, J⟩ := hi
    have : fb = [] := by cases fb with
      | nil => rfl
      | cons a b => cases e2
    subst this
    rw [List.append_nil] at e1
    subst e1
    exact ⟨rfl, J⟩
/-- two dicts put together -/
theorem dputs_DR {α : Type} {enc : α → D} : ∀ (kl : List (D × D)) (ks : List Nat) (m : List (D × D)) (f g : Nat → Option α), kl.map (·.1) = nl ks → ks.Nodup → (∀ k : Nat, dkeys kl (.int k) = (g k).map enc) → (∀ k, k ∈ ks ↔ (g k).isSome = true) → (∀ a, imm (enc a) = true) → DR enc m f → DR enc (dputs m kl) fun k => (g k).or (f k)
  | [], ks, m, f, g, e, nd, hg, hm, hi, h => by
    have : ks = [] := by cases ks with
      | nil => rfl
      | cons a b => cases e
    subst this
    have z : (fun k => (g k).or (f k)) = f := funext fun k => by
      cases q : g k with
      | none => rfl
      | some a =>
        have := (hm k).mpr (by rw [q]; rfl)
        cases this
    rw [z]
    exact h
  | (a, v) :: kl, ks, m, f, g, e, nd, hg, hm, hi, h => by
    cases ks with
    | nil => cases e
    | cons k0 ks =>
      simp only [List.map_cons, nl_cons, List.cons.injEq] at e
      obtain ⟨rfl, e⟩ := e
      have nd' := List.nodup_cons.mp nd
      have h0 := hg k0
      rw [dkeys, if_pos (by simp)] at h0
      cases q : g k0 with
      | none => rw [q] at h0; cases h0
      | some x =>
        rw [q] at h0
        have hv : v = enc x := by simpa using h0
        subst hv
        rw [dputs]
        have hk : ∀ k : Nat, k ≠ k0 → dkeys kl (.int k) = (g k).map enc := fun k hk => by
          rw [← hg k, dkeys, if_neg (by simp; omega)]
        have hz : dkeys kl (.int k0) = none := by
          cases z : dkeys kl (.int k0) with
          | none => rfl
          | some y =>
            exfalso
            have : ∀ (kl : List (D × D)) (ks : List Nat), kl.map (·.1) = nl ks → ∀ y, dkeys kl (.int k0) = some y → k0 ∈ ks := by
              intro kl
              induction kl with
              | nil => intro ks _ y h; cases h
              | cons p kl ih =>
                intro ks e y h
                cases ks with
                | nil => cases e
                | cons k1 ks =>
                  obtain ⟨a, b⟩ := p
                  simp only [List.map_cons, nl_cons, List.cons.injEq] at e
                  obtain ⟨rfl, e⟩ := e
                  rw [dkeys] at h
                  by_cases c : k1 = k0
                  · simp [c]
                  · rw [if_neg (by simp; omega)] at h
                    exact List.mem_cons_of_mem _ (ih ks e y h)
            exact nd'.1 (this kl ks e y z)
        have ih := dputs_DR kl ks _ _ (fun k => if k = k0 then none else g k) e nd'.2 (fun k => by
          by_cases c : k = k0
          · subst c; rw [hz, if_pos rfl]; rfl
          · rw [if_neg c, hk k c]) (fun k => by
          by_cases c : k = k0
          · subst c; simp [nd'.1]
          · rw [if_neg c, ← hm k]; simp [c]) hi (h.put k0 x (hi x))
        have z : (fun k => (g k).or (f k)) = fun k => ((if k = k0 then none else g k).or (if k = k0 then some x else f k)) := funext fun k => by
          by_cases c : k = k0
          · subst c; simp [q]
          · simp [c]
        rw [z]
        exact ih
theorem DR.upd {kw kl : List (D × D)} {f g : Nat → Option (List Nat)} (h : DR tD kw f) (h' : DR tD kl g) : DR tD (dputs kw kl) (upd f g) := by
  obtain ⟨ks, e, nd, hm⟩ := h'.keys
  exact dputs_DR kl ks kw f g e nd h'.get hm tD_imm h
end
end Cv
/-! # K80c: comes_from, whole -/
namespace Cv
open PySem Cr Cw Bfs
section
variable {call : CallT} {fuel : Nat}
theorem filter_le {α : Type} {p q : α → Bool} : ∀ {l : List α}, (∀ x ∈ l, p x = true → q x = true) → (l.filter p).length ≤ (l.filter q).length
  | [], _ => Nat.le_refl _
  | x :: xs, h => by
    have ih := filter_le (p := p) (q := q) (l := xs) fun y hy => h y (by simp [hy])
    cases hp : p x with
    | true => simp [hp, h x (by simp) hp, ih]
    | false => cases hq : q x <;> simp [hp, hq] <;> omega
theorem filter_lt {α : Type} {p q : α → Bool} : ∀ {l : List α}, (∀ x ∈ l, p x = true → q x = true) → (∃ x ∈ l, q x = true ∧ p x = false) → (l.filter p).length < (l.filter q).length
  | [], _, h => by obtain ⟨x, h, _⟩ := h; cases h
  | x :: xs, h, k => by
    have le := filter_le (p := p) (q := q) (l := xs) fun y hy => h y (by simp [hy])
    obtain ⟨y, hy, h1, h2⟩ := k
    rcases List.mem_cons.mp hy with e | e
    · subst e
      simp [h1, h2]
      omega
    · have ih := filter_lt (p := p) (q := q) (l := xs) (fun y hy => h y (by simp [hy])) ⟨y, e, h1, h2⟩
      cases hp : p x with
      | true => simp [hp, h x (by simp) hp, ih]
      | false => cases hq : q x <;> simp [hp, hq] <;> omega
def known (n : Nat) (f : Nat → Option (List Nat)) : Nat := ((List.range n).filter fun v => (f v).isSome).length
theorem known_le (n : Nat) (f : Nat → Option (List Nat)) : known n f ≤ n := by
  have := List.length_filter_le (fun v => (f v).isSome) (List.range n)
  simpa [known] using this
structure WI (n : Nat) (ps : List (Nat × Nat)) (u : Nat) (fw : Nat → Option (List Nat)) (L : Nat) (fr : List Nat) : Prop where
  lv : Lv ps u fw L
  rise : fr.Pairwise (· < ·)
  mem : ∀ v, v ∈ fr ↔ ∃ w, fw v = some w ∧ w.length = L
  bd : ∀ v, (fw v).isSome = true → v < n
theorem WI.best {n : Nat} {ps : List (Nat × Nat)} {u L : Nat} {fw : Nat → Option (List Nat)} {fr : List Nat} (I : WI n ps u fw L fr) {v : Nat} {w : List Nat} (h : fw v = some w) : Best ps u v w := ⟨(I.lv.sound h).1, fun w' h' => I.lv.least h h'⟩
theorem WI.seen {n : Nat} {ps : List (Nat × Nat)} {u L : Nat} {fw : Nat → Option (List Nat)} {fr : List Nat} (I : WI n ps u fw L fr) (g : Nat) (w : List Nat) : Cand ps fw L g w ↔ Seen ps fw fr 0 0 g w := by
  constructor
  · rintro ⟨h, a, w0, q1, q2, q3, q4, q5⟩
    exact ⟨h, a, w0, .inl ((I.mem h).mpr ⟨w0, q1, q2⟩), q1, q3, q4, q5⟩
  · rintro ⟨h, a, w0, q1, q2, q3, q4, q5⟩
    obtain ⟨w1, e1, e2⟩ := (I.mem h).mp (q1.resolve_right fun z => by omega)
    rw [q2] at e1
    cases e1
    exact ⟨h, a, w0, q2, e2, q3, q4, q5⟩
theorem wi_step {n : Nat} {ps : List (Nat × Nat)} (hv : Va n ps) {u L : Nat} {fw fl : Nat → Option (List Nat)} {fr ks : List Nat} (I : WI n ps u fw L fr) (F : Least (Seen ps fw fr 0 0) fl) (nd : ks.Nodup) (hk : ∀ k, k ∈ ks ↔ (fl k).isSome = true) :
    WI n ps u (upd fw fl) (L + 1) (sortN ks) ∧ (fr ≠ [] → 2 * (n - known n (upd fw fl)) + (if sortN ks = [] then 0 else 1) < 2 * (n - known n fw) + 1) := by
  have F' : Least (Cand ps fw L) fl := least_congr F fun g w => I.seen g w
  have hn : ∀ g w, fl g = some w → g < n ∧ fw g = none ∧ w.length = L + 1 := fun g w e => by
    obtain ⟨⟨h, a, w0, q1, q2, q3, q4, rfl⟩, _⟩ := F'.mem e
    exact ⟨hv.far _ (List.mem_of_getElem? q3), q4, by simp [q2]⟩
  refine ⟨⟨lv_step I.lv F', sortN_strict nd, fun v => ?_, fun v hs => ?_⟩, fun _ => ?_⟩
  · rw [sortN_mem, hk v]
    constructor
    · intro h
      obtain ⟨w, e⟩ := Option.isSome_iff_exists.mp h
      exact ⟨w, by unfold upd; rw [e]; rfl, (hn v w e).2.2⟩
    · rintro ⟨w, e, l⟩
      unfold upd at e
      cases z : fl v with
      | some x => rfl
      | none =>
        rw [z] at e
        have := (I.lv.sound (show fw v = some w from e)).2
        omega
  · unfold upd at hs
    cases z : fl v with
    | some x => exact (hn v x z).1
    | none =>
      rw [z] at hs
      exact I.bd v hs
  · by_cases hks : ks = []
    · subst hks
      have e : upd fw fl = fw := funext fun v => by
        unfold upd
        cases z : fl v with
        | none => rfl
        | some x =>
          have := (hk v).mpr (by rw [z]; rfl)
          cases this
      rw [e]
      have : sortN [] = [] := by
        have := sortN_len []
        exact List.length_eq_zero_iff.mp this
      rw [this]
      simp
    · obtain ⟨x, hx⟩ := List.exists_mem_of_ne_nil ks hks
      obtain ⟨w, e⟩ := Option.isSome_iff_exists.mp ((hk x).mp hx)
      obtain ⟨q1, q2, _⟩ := hn x w e
      have lt : known n fw < known n (upd fw fl) := filter_lt (fun v _ h => by
        unfold upd
        cases z : fl v with
        | some y => rfl
        | none => exact h) ⟨x, List.mem_range.mpr q1, by unfold upd; rw [e]; rfl, by rw [q2]; rfl⟩
      have := known_le n (upd fw fl)
      split <;> omega
theorem wi_start {n : Nat} {ps : List (Nat × Nat)} {u : Nat} (hu : u < n) : WI n ps u (fun v => if v = u then some [] else none) 0 [u] :=
  ⟨lv_start, by simp, fun v => by
    by_cases h : v = u
    · simp [h]
    · simp [h], fun v h => by
    by_cases e : v = u
    · omega
    · rw [if_neg e] at h; cases h⟩
def CI (n : Nat) (ps : List (Nat × Nat)) (u : Nat) (d : D) (st : Stt) (m : Nat) (r : Rho) : Prop :=
  ∃ L kw fw fr c4 c5 c6 c7 c8 c9, freB c4 = true ∧ freB c5 = true ∧ freB c6 = true ∧ freB c7 = true ∧ freB c8 = true ∧ freB c9 = true ∧ r = [some (d, st), some (.int u, .ow), some (.dict kw, .ow), some (.list (nl fr), .ow), c4, c5, c6, c7, c8, c9] ∧
    DR tD kw fw ∧ WI n ps u fw L fr ∧ m = 2 * (n - known n fw) + (if fr = [] then 0 else 1)
theorem comes_from_ok {n : Nat} {ps : List (Nat × Nat)} (hv : Va n ps) {d : D} {st : Stt} (hd : PA ps d st) {u : Nat} (hu : u < n) (hf : 100 ≤ fuel) :
    T (runF call fuel T80.f_comes_from [(d, st), (.int u, .ow)]) fun x => ∃ kvs f, x = (.dict kvs, true, .none) ∧ DR tD kvs f ∧ Told ps u f ∧ ∀ v, (f v).isSome = true → v < n := by
  refine T_runF rfl (by simp [T80.f_comes_from]) ?_
  simp [T80.f_comes_from, Cr.start, retO, tyD, takeOpd, backOpd, frz1, endCall, keep, setO, noName, ownD, isListC, isDictC, isDictO, into, small, dputs, dput]
  refine T_while (CI n ps u d st) (fun m r hi => ?_) (n := 2 * (n - known n fun v => if v = u then some [] else none) + 1) ⟨0, [(.int u, .tuple [])], _, [u], none, none, none, none, none, none, by simp, by simp, by simp, by simp, by simp, by simp, rfl, ?_, wi_start hu, by simp⟩ ?_
  · obtain ⟨L, kw, fw, fr, c4, c5, c6, c7, c8, c9, h4, h5, h6, h7, h8, h9, rfl, Dw, I, rfl⟩ := hi
    have e0 : cmpD .NotEq (.list (nl fr)) (.list []) = some (!decide (fr = [])) := by
      rw [cmp_ne_of (n := 1) (sh_list sh_nl) (sh_list fun x hx => by cases hx) (by decide)]
      have := eqv_nl fr []
      rw [nl_nil] at this
      rw [this]
    simp [Cr.start, retO, tyD, takeOpd, backOpd, frz1, endCall, keep, setO, noName, ownD, isListC, isDictC, isDictO, into, small, e0]
    by_cases hfr : fr = []
    · simp [hfr]
      refine ⟨fw, Dw, told_of I.lv fun v w e l => ?_, I.bd⟩
      have := (I.mem v).mpr ⟨w, e, l⟩
      rw [hfr] at this
      cases this
    · simp [hfr, Cr.start, retO, tyD, takeOpd, backOpd, frz1, endCall, keep, setO, noName, ownD, isListC, isDictC, isDictO, into, small, dputs, h4]
      have hb : ∀ v w, fw v = some w → w.length ≤ 1000 := fun v w e => by
        have := (I.best e).len
        have := hv.len
        omega
      refine (outer hv hd hb Dw (fun h hh => ?_) h5 h6 h7 h8 h9).mono fun q hq => ?_
      · obtain ⟨w, e, _⟩ := (I.mem h).mp hh
        exact ⟨w, e⟩
      · obtain ⟨r2, f⟩ := q
        obtain ⟨e, kl, fl, c5, c6, c7, c8, c9, h5, h6, h7, h8, h9, e3, Dl, F⟩ := hq
        simp only at e e3
        subst e e3
        obtain ⟨ks, k1, k2, k3⟩ := Dl.keys
        obtain ⟨J, lt⟩ := wi_step hv I F k2 k3
        have hkb : ∀ k, (fl k).isSome = true → k < 7 := fun k hk => by
          obtain ⟨w, e⟩ := Option.isSome_iff_exists.mp hk
          obtain ⟨⟨h, a, w0, q1, q2, q3, q4, rfl⟩, _⟩ := F.mem e
          have := hv.far _ (List.mem_of_getElem? q3)
          have := hv.n7
          simp only at *
          omega
        have hl1 := Dl.len hkb
        have hl2 := Dw.len I.bd
        have hl3 : ks.length < 64 := by
          have := nodup_le 7 ks k2 fun x hx => hkb x ((k3 x).mp hx)
          omega
        have hl4 : kw.length + kl.length ≤ 1000000 := by
          have := hv.n7
          omega
        simp [Cr.start, retO, tyD, takeOpd, backOpd, frz1, endCall, keep, setO, noName, ownD, isListC, isDictC, isDictO, into, small, h5, Dl.imms, Dw.imms, hl4, bi_sorted_dict k1 hl3, fin_top]
        refine ⟨_, ?_, L + 1, _, _, sortN ks, _, _, _, _, _, _, by simp, h5, h6, h7, h8, h9, rfl, Dw.upd Dl, J, rfl⟩
        have := lt hfr
        simpa [hfr] using this
  · have := (DR.nil (enc := tD)).put u [] (tD_imm [])
    exact this
  · have := hv.n7
    omega
end
end Cv
/-! # K80d: classes -/
namespace Cv
open PySem Cr Cw Bfs
open Classical in
/-- a walk leads there -/
noncomputable def rch (ps : List (Nat × Nat)) (u v : Nat) : Bool := decide (∃ w, W ps u v w)
theorem rch_iff {ps : List (Nat × Nat)} {u v : Nat} : rch ps u v = true ↔ ∃ w, W ps u v w := by simp [rch]
noncomputable def cls (n : Nat) (ps : List (Nat × Nat)) (p : Nat) : List Nat := (List.range n).filter fun o => rch ps p o && rch ps o p
noncomputable def clss (n : Nat) (ps : List (Nat × Nat)) : List (List Nat) := once ((List.range n).map (cls n ps))
theorem told_rch {ps : List (Nat × Nat)} {u : Nat} {f : Nat → Option (List Nat)} (h : Told ps u f) (v : Nat) : (f v).isSome = rch ps u v := by
  cases e : f v with
  | some w => exact (rch_iff.mpr ⟨w, (h.best e).1⟩).symm
  | none =>
    cases z : rch ps u v with
    | false => rfl
    | true =>
      obtain ⟨w, hw⟩ := rch_iff.mp z
      have := h.all hw
      rw [e] at this
      cases this
def S_cf (call : CallT) (i : Nat) : Prop := ∀ {n : Nat} {ps : List (Nat × Nat)}, Va n ps → ∀ {d : D} {st : Stt}, PA ps d st → ∀ {u : Nat}, u < n →
  T (call i [(d, st), (.int u, .ow)]) fun x => ∃ kvs f, x = (.dict kvs, true, .none) ∧ DR tD kvs f ∧ Told ps u f ∧ ∀ v, (f v).isSome = true → v < n
def S_classes (call : CallT) (i : Nat) : Prop := ∀ {n : Nat} {ps : List (Nat × Nat)}, Va n ps → ∀ {d : D} {st : Stt}, PA ps d st → call i [(.int n, .ow), (d, st)] = some (.list ((clss n ps).map tD), true, .none)
def KI (n : Nat) (ps : List (Nat × Nat)) (d : D) (st : Stt) (F : Nat → List (D × D)) (xs : List D) (r : Rho) : Prop :=
  ∃ a b s2 c4 c5, List.range n = a ++ b ∧ xs = nl b ∧ (s2 = .ow ∨ s2 = .fz) ∧ freB c4 = true ∧ freB c5 = true ∧ r = [some (.int n, .ow), some (d, st), some (.list ((List.range n).map fun u => .dict (F u)), s2), some (.list ((once (a.map (cls n ps))).map tD), .ow), c4, c5, none]
section
variable {call : CallT} {fuel : Nat}
theorem classes_ok {i : Nat} (hi : S_cf call i) {n : Nat} {ps : List (Nat × Nat)} (hv : Va n ps) {d : D} {st : Stt} (hd : PA ps d st) : runF call fuel (T80.f_classes_of i) [(.int n, .ow), (d, st)] = some (.list ((clss n ps).map tD), true, .none) := by
  have hn := hv.n7
  obtain ⟨F, hF⟩ : ∃ F : Nat → List (D × D), ∀ u, u < n → call i [(d, st), (.int u, .ow)] = some (.dict (F u), true, .none) ∧ ∃ f, DR tD (F u) f ∧ Told ps u f := by
    have key : ∀ u, ∃ kvs : List (D × D), u < n → call i [(d, st), (.int u, .ow)] = some (.dict kvs, true, .none) ∧ ∃ f, DR tD kvs f ∧ Told ps u f := fun u => by
      by_cases h : u < n
      · obtain ⟨x, e, kvs, f, e2, h1, h2, _⟩ := hi hv hd h
        subst e2
        exact ⟨kvs, fun _ => ⟨e, f, h1, h2⟩⟩
      · exact ⟨[], fun q => absurd q h⟩
    exact ⟨fun u => (key u).choose, fun u => (key u).choose_spec⟩
  have hgot : ∀ u, u < n → ∀ v : Nat, (dkeys (F u) (.int v)).isSome = rch ps u v := fun u hu v => by
    obtain ⟨_, f, h1, h2⟩ := hF u hu
    rw [h1.get v, Option.isSome_map, told_rch h2]
  rw [← T_eq]
  refine T_runF rfl (by simp [T80.f_classes_of]) ?_
  simp [T80.f_classes_of, Cr.start, retO, tyD, takeOpd, backOpd, frz1, endCall, keep, setO, noName, ownD, isListC, isDictC, isDictO, into, small, show (n : Int) ≤ 100000 by omega, show (-100000 : Int) ≤ n by omega, range_map0]
  refine T_pure0 (β := Nat) (fun n => PyData.int (Int.ofNat n)) (fun u => .dict (F u)) true _ rfl (fun x hx => ?_) fun r' hr => ?_
  · have hx' := List.mem_range.mp hx
    have e := (hF x hx').1
    rcases hd with ⟨rfl, rfl⟩ | ⟨rfl, rfl⟩
    · simp [Cr.start, retO, tyD, takeOpd, backOpd, frz1, endCall, keep, setO, noName, ownD, isListC, isDictC, isDictO, into, small, e]
    · simp [Cr.start, retO, tyD, takeOpd, backOpd, frz1, endCall, keep, setO, noName, ownD, isListC, isDictC, isDictO, into, small, e]
  · dsimp only
    simp [Cr.start, retO, tyD, takeOpd, backOpd, frz1, endCall, keep, setO, noName, ownD, isListC, isDictC, isDictO, into, small, hr, show (n : Int) ≤ 100000 by omega, show (-100000 : Int) ≤ n by omega, range_map0, show n ≤ 1000000 by omega]
    refine T_forL (KI n ps d st F)
      (fun x xs r h => ?_) ⟨[], List.range n, .ow, none, none, rfl, rfl, .inl rfl, by simp, by simp, rfl⟩ fun r' h => ?_
    · obtain ⟨a, b, s2, c4, c5, e1, e2, h2, h4, h5, rfl⟩ := h
      cases b with
      | nil => cases e2
      | cons y b =>
        rw [nl_cons] at e2
        cases e2
        have hy : y < n := List.mem_range.mp (by rw [e1]; simp)
        simp [Cr.start, retO, tyD, takeOpd, backOpd, frz1, endCall, keep, setO, noName, ownD, isListC, isDictC, isDictO, into, small, h4, h5, show (n : Int) ≤ 100000 by omega, show (-100000 : Int) ≤ n by omega, range_map0]
        refine T_pureP (β := Nat) (fun n => PyData.int (Int.ofNat n)) (fun o => rch ps y o && rch ps o y) (fun o => .int (Int.ofNat o)) true
          (fun r => ∃ s2, (s2 = .ow ∨ s2 = .fz) ∧ r = [some (.int n, .ow), some (d, st), some (.list ((List.range n).map fun u => .dict (F u)), s2), some (.list ((once (a.map (cls n ps))).map tD), .ow), some (.int y, .ow), c5, none])
          ⟨s2, h2, rfl⟩ (fun x hx r0 hr0 => ?_) fun r' hr' => ?_
        · obtain ⟨s2, h2, rfl⟩ := hr0
          have hx' : x < n := List.mem_range.mp hx
          have g1 : idxD (.list ((List.range n).map fun u => PyData.dict (F u))) (.int y) = some (.dict (F y)) := idx_l (by simp [hy])
          have g2 : idxD (.list ((List.range n).map fun u => PyData.dict (F u))) (.int x) = some (.dict (F x)) := idx_l (by simp [hx'])
          rcases h2 with rfl | rfl
          · simp [Cr.start, retO, tyD, takeOpd, backOpd, frz1, endCall, keep, setO, noName, ownD, isListC, isDictC, isDictO, into, small, g1, g2, fin, hgot y hy]
            have := hgot x hx' y
            cases q : rch ps y x <;> cases q2 : rch ps x y <;> simp [q, q2, this, Cr.start, retO, tyD, takeOpd, backOpd, frz1, endCall, keep, setO, noName, ownD, isListC, isDictC, isDictO, into, small, g1, g2, fin]
          · simp [Cr.start, retO, tyD, takeOpd, backOpd, frz1, endCall, keep, setO, noName, ownD, isListC, isDictC, isDictO, into, small, g1, g2, fin, hgot y hy]
            have := hgot x hx' y
            cases q : rch ps y x <;> cases q2 : rch ps x y <;> simp [q, q2, this, Cr.start, retO, tyD, takeOpd, backOpd, frz1, endCall, keep, setO, noName, ownD, isListC, isDictC, isDictO, into, small, g1, g2, fin]
        · obtain ⟨s3, h3, e3⟩ := hr'
          have hlen : ((List.range n).filter fun o => rch ps y o && rch ps o y).length ≤ n := by
            have := List.length_filter_le (fun o => rch ps y o && rch ps o y) (List.range n)
            simpa using this
          have hlen2 : (once (a.map (cls n ps))).length ≤ n := by
            have h1 := once_len (a.map (cls n ps))
            have h2 := congrArg List.length e1
            simp at h1 h2
            omega
          have ec : cmpD .NotIn (.tuple (((List.range n).filter fun o => rch ps y o && rch ps o y).map fun (o : Nat) => PyData.int o)) (.list ((once (a.map (cls n ps))).map tD)) = some (!decide (cls n ps y ∈ once (a.map (cls n ps)))) := cmp_notin_tDs _ (cls n ps y)
          have ei : imms (((List.range n).filter fun o => rch ps y o && rch ps o y).map fun (o : Nat) => PyData.int o) = true := nl_imms _
          dsimp only
          simp [Cr.start, retO, tyD, takeOpd, backOpd, frz1, endCall, keep, setO, noName, ownD, isListC, isDictC, isDictO, into, small, e3, show ((List.range n).filter fun o => rch ps y o && rch ps o y).length ≤ 1000000 by omega, h5, ec]
          by_cases hc : cls n ps y ∈ a.map (cls n ps)
          · have hc' : cls n ps y ∈ once (a.map (cls n ps)) := mem_once.mpr hc
            simp [hc']
            have es : once ((a ++ [y]).map (cls n ps)) = once (a.map (cls n ps)) := by
              rw [List.map_append]
              exact once_old hc
            exact ⟨a ++ [y], b, s3, some (.int y, .ow), some (tD (cls n ps y), .ow), by simp [e1], rfl, h3, by simp, by simp, by rw [es]; rfl⟩
          · simp [show ¬ cls n ps y ∈ once (a.map (cls n ps)) from fun q => hc (mem_once.mp q), Cr.start, retO, tyD, takeOpd, backOpd, frz1, endCall, keep, setO, noName, ownD, isListC, isDictC, isDictO, into, small, ei, show (once (a.map (cls n ps))).length ≤ 1000000 by omega]
            have es : once ((a ++ [y]).map (cls n ps)) = once (a.map (cls n ps)) ++ [cls n ps y] := by
              rw [List.map_append]
              exact once_new hc
            exact ⟨a ++ [y], b, s3, some (.int y, .ow), some (tD (cls n ps y), .ow), by simp [e1], rfl, h3, by simp, by simp, by rw [es, List.map_append]; rfl⟩
    · obtain ⟨a, b, s2, c4, c5, e1, e2, h2, h4, h5, rfl⟩ := h
      have : b = [] := by cases b with
        | nil => rfl
        | cons y b => cases e2
      subst this
      rw [List.append_nil] at e1
      subst e1
      simp [Cr.start, retO, tyD, takeOpd, backOpd, frz1, endCall, keep, setO, noName, ownD, isListC, isDictC, isDictO, into, small, clss]
end
end Cv
/-! # K80e: what is asked from outside -/
namespace Cv
open PySem Cr Cw Bfs
theorem ite_any (c : Bool) (i : Decidable (c = true)) : if c = true then True else True := by split <;> trivial
/-! ### bits -/
theorem msk_lt : ∀ (n : Nat) (xs : List Nat), xs.length = n → xs.Pairwise (· < ·) → ∀ z, (∀ x ∈ xs, x < z) → msk xs < 2 ^ z
  | 0, xs, h, _, z, _ => by
    have : xs = [] := List.length_eq_zero_iff.mp h
    subst this
    exact Nat.two_pow_pos z
  | n + 1, xs, h, hp, z, hz => by
    have hne : xs ≠ [] := fun e => by rw [e] at h; cases h
    obtain ⟨ys, y, rfl⟩ : ∃ ys y, xs = ys ++ [y] := ⟨_, _, (List.dropLast_concat_getLast hne).symm⟩
    have hp' := List.pairwise_append.mp hp
    have ih := msk_lt n ys (by simpa using h) hp'.1 y fun x hx => hp'.2.2 x hx y (by simp)
    have hy := hz y (by simp)
    have e : msk (ys ++ [y]) = msk ys + 2 ^ y := by simp [msk]
    rw [e]
    have h1 : 2 ^ (y + 1) ≤ 2 ^ z := Nat.pow_le_pow_right (by decide) hy
    have h2 : 2 ^ (y + 1) = 2 * 2 ^ y := by rw [Nat.pow_succ, Nat.mul_comm]
    omega
theorem msk_bit : ∀ (n : Nat) (xs : List Nat), xs.length = n → xs.Pairwise (· < ·) → ∀ p, (msk xs).testBit p = decide (p ∈ xs)
  | 0, xs, h, _, p => by
    have : xs = [] := List.length_eq_zero_iff.mp h
    subst this
    simp [msk]
  | n + 1, xs, h, hp, p => by
    have hne : xs ≠ [] := fun e => by rw [e] at h; cases h
    obtain ⟨ys, y, rfl⟩ : ∃ ys y, xs = ys ++ [y] := ⟨_, _, (List.dropLast_concat_getLast hne).symm⟩
    have hp' := List.pairwise_append.mp hp
    have lt := msk_lt n ys (by simpa using h) hp'.1 y fun x hx => hp'.2.2 x hx y (by simp)
    have ih := msk_bit n ys (by simpa using h) hp'.1 p
    have e : msk (ys ++ [y]) = 2 ^ y * 1 + msk ys := by simp [msk, Nat.add_comm]
    rw [e, Nat.two_pow_add_eq_or_of_lt lt, Nat.testBit_or, ih, Nat.mul_one, Nat.testBit_two_pow]
    by_cases h1 : p ∈ ys <;> by_cases h2 : y = p <;> simp [h1, h2]
    · exact fun q => h2 q.symm
/-! ### what enters, what leaves -/
def entB (c : List Nat) (p : Nat × Nat) : Bool := !decide (p.1 ∈ c) && decide (p.2 ∈ c)
def intoL (ps : List (Nat × Nat)) (c : List Nat) : List Nat := ((ps.zipIdx).filter fun p => entB c p.1).map (·.2)
def srcB (ps : List (Nat × Nat)) (c : List Nat) : Bool := !ps.any (entB c)
def swp (ps : List (Nat × Nat)) : List (Nat × Nat) := ps.map Prod.swap
theorem intoL_nil (ps : List (Nat × Nat)) (c : List Nat) : intoL ps c = [] ↔ srcB ps c = true := by
  unfold intoL srcB
  rw [List.map_eq_nil_iff, List.filter_eq_nil_iff, Bool.not_eq_true', List.any_eq_false]
  constructor
  · intro h p hp
    obtain ⟨i, hi, e⟩ := List.mem_iff_getElem.mp hp
    exact h (p, i) (by rw [List.mem_zipIdx_iff_getElem?, List.getElem?_eq_getElem hi, e])
  · intro h p hp
    have := List.mem_of_getElem? (List.mem_zipIdx_iff_getElem?.mp hp)
    exact h _ this
/-- a set of places -/
structure Se (n : Nat) (xs : List Nat) : Prop where
  rise : xs.Pairwise (· < ·)
  bd : ∀ x ∈ xs, x < n
theorem rising_of {xs : List Nat} (h : xs.Pairwise (· < ·)) : rising xs = true := by
  unfold rising
  induction xs with
  | nil => rfl
  | cons x xs ih =>
    have h' := List.pairwise_cons.mp h
    cases xs with
    | nil => rfl
    | cons y ys =>
      have := ih h'.2
      simp only [List.drop_succ_cons, List.drop_zero, List.zip_cons_cons, List.all_cons, Bool.and_eq_true, decide_eq_true_eq] at this ⊢
      exact ⟨h'.1 y (by simp), this⟩
theorem Se.len {n : Nat} {xs : List Nat} (h : Se n xs) : xs.length ≤ n := nodup_le n xs (h.rise.imp fun q => by omega) h.bd
theorem Va.swap {n : Nat} {ps : List (Nat × Nat)} (h : Va n ps) : Va n (swp ps) := by
  refine ⟨h.pos, h.n7, by simp [swp]; exact h.len, fun p hp => ?_, fun p hp => ?_, fun p hp => ?_⟩
  all_goals
    obtain ⟨q, hq, rfl⟩ := List.mem_map.mp hp
    first | exact h.far q hq | exact h.near q hq | exact (h.ne q hq).symm
open Classical in
/-- the first of the fewest -/
noncomputable def best (ps : List (Nat × Nat)) (u v : Nat) : Option (List Nat) := if h : ∃ w, Best ps u v w then some h.choose else none
theorem best_iff {ps : List (Nat × Nat)} {u v : Nat} {w : List Nat} : best ps u v = some w ↔ Best ps u v w := by
  unfold best
  constructor
  · intro h
    split at h
    · next hh =>
      cases h
      exact hh.choose_spec
    · cases h
  · intro h
    rw [dif_pos ⟨w, h⟩]
    exact congrArg some ((Exists.choose_spec (⟨w, h⟩ : ∃ w, Best ps u v w)).uniq h)
theorem told_best {ps : List (Nat × Nat)} {u : Nat} {f : Nat → Option (List Nat)} (h : Told ps u f) (v : Nat) : f v = best ps u v := by
  cases e : f v with
  | some w => exact (best_iff.mpr (h.best e)).symm
  | none =>
    cases z : best ps u v with
    | none => rfl
    | some w =>
      have := h.all (best_iff.mp z).1
      rw [e] at this
      cases this
def wD (o : Option (List Nat)) : D := (o.map tD).getD .none
theorem wD_imm (o : Option (List Nat)) : imm (wD o) = true := by cases o <;> simp [wD]
section
variable {call : CallT} {fuel : Nat} {n : Nat} {ps : List (Nat × Nat)}
theorem check_arrows_ok {i : Nat} (hi : call i [(aD n ps, .ow)] = some (.bool true, true, .none)) : runF call fuel (T80.f_check_arrows i) [(aD n ps, .ow)] = some (.none, true, .none) := by
  rw [← T_eq]
  refine T_runF rfl (by simp [T80.f_check_arrows]) ?_
  simp [T80.f_check_arrows, Cr.start, retO, tyD, takeOpd, backOpd, frz1, endCall, keep, setO, noName, ownD, isListC, isDictC, isDictO, into, small, aD_imm, hi]
theorem check_place_ok {i : Nat} (hi : ∀ k n : Int, call i [(.int k, .ow), (.int n, .ow)] = some (.bool (decide (0 ≤ k) && decide (k < n)), true, .none)) {u : Nat} (hu : u < n) : runF call fuel (T80.f_check_place i) [(aD n ps, .ow), (.int u, .ow)] = some (.none, true, .none) := by
  rw [← T_eq]
  refine T_runF rfl (by simp [T80.f_check_place]) ?_
  have hu' : (u : Int) < n := by omega
  simp [T80.f_check_place, Cr.start, retO, tyD, takeOpd, backOpd, frz1, endCall, keep, setO, noName, ownD, isListC, isDictC, isDictO, into, small, aD, hi, hu']
theorem check_set_ok {i : Nat} (hv : Va n ps) (hi : ∀ xs : List Nat, xs.length ≤ 1000 → ∀ n : Int, call i [(tD xs, .ow), (.int n, .ow)] = some (.bool (xs.all (fun (k : Nat) => decide ((k : Int) < n)) && rising xs), true, .none)) {xs : List Nat} (hx : Se n xs) : runF call fuel (T80.f_check_set i) [(aD n ps, .ow), (tD xs, .ow)] = some (.none, true, .none) := by
  rw [← T_eq]
  refine T_runF rfl (by simp [T80.f_check_set]) ?_
  have h1 : xs.length ≤ 1000 := by have := hx.len; have := hv.n7; omega
  have h2 : xs.all (fun (k : Nat) => decide ((k : Int) < n)) = true := List.all_eq_true.mpr fun x h => decide_eq_true (by have := hx.bd x h; omega)
  simp [T80.f_check_set, Cr.start, retO, tyD, takeOpd, backOpd, frz1, endCall, keep, setO, noName, ownD, isListC, isDictC, isDictO, into, small, aD, hi xs h1 n, h2, rising_of hx.rise]
  intro x h q
  have := hx.bd x h
  omega
theorem entering_ok {e m s c : Nat} (hv : Va n ps) {xs : List Nat} (hx : Se n xs) (he : ∀ (m : Nat) (p : Nat × Nat), call e [(.int m, .ow), (pD p, .ow)] = some (.bool (!m.testBit p.1 && m.testBit p.2), true, .none))
    (hm : call m [(tD xs, .ow)] = some (.int (msk xs), true, .none)) (hs : call s [(aD n ps, .ow), (tD xs, .ow)] = some (.none, true, .none)) (hc : call c [(aD n ps, .ow)] = some (.none, true, .none)) :
    runF call fuel (T80.f_entering e m s c) [(aD n ps, .ow), (tD xs, .ow)] = some (tD (intoL ps xs), true, .none) := by
  rw [← T_eq]
  refine T_runF rfl (by simp [T80.f_entering]) ?_
  have hlen : (ps.zipIdx.filter fun p => entB xs p.1).length ≤ 1000000 := by
    have := List.length_filter_le (fun p : (Nat × Nat) × Nat => entB xs p.1) ps.zipIdx
    have := hv.len
    simp at *
    omega
  have h0 : idxD (aD n ps) (.int 2) = some (.tuple (ps.map pD)) := by simp [aD]
  simp [T80.f_entering, Cr.start, retO, tyD, takeOpd, backOpd, frz1, endCall, keep, setO, noName, ownD, isListC, isDictC, isDictO, into, small, aD_imm, hs, hc, h0, enumD_map]
  refine T_purec (β := (Nat × Nat) × Nat) (fun p => .tuple [.int p.2, pD p.1]) (fun p => entB xs p.1) (fun p => .int p.2) true _ rfl (fun x hx' => ?_) fun r' hr => ?_
  · have hb : ∀ p, (msk xs).testBit p = decide (p ∈ xs) := msk_bit _ xs rfl hx.rise
    simp [Cr.start, retO, tyD, takeOpd, backOpd, frz1, endCall, keep, setO, noName, ownD, isListC, isDictC, isDictO, into, small, hm, he, hb, entB]
  · dsimp only
    have ei : imms ((ps.zipIdx.filter fun p => entB xs p.1).map fun p => PyData.int (p.2 : Nat)) = true := imms_map fun x _ => by simp
    simp [Cr.start, retO, tyD, takeOpd, backOpd, frz1, endCall, keep, setO, noName, ownD, isListC, isDictC, isDictO, into, small, hr, hlen, ei]
    unfold nl intoL
    rw [List.map_map]
    rfl
theorem swp_get (p : Nat × Nat) : pD p.swap = .tuple [.int p.2, .int p.1] := rfl
theorem leaving_ok {t e m s c : Nat} (hv : Va n ps) {xs : List Nat} (hx : Se n xs) (ht : ∀ {ps : List (Nat × Nat)} {d : D} {st : Stt}, PA ps d st → ps.length ≤ 1000 → call t [(d, st)] = some (.list ((swp ps).map pD), true, .none))
    (he : ∀ (m : Nat) (p : Nat × Nat), call e [(.int m, .ow), (pD p, .ow)] = some (.bool (!m.testBit p.1 && m.testBit p.2), true, .none))
    (hm : call m [(tD xs, .ow)] = some (.int (msk xs), true, .none)) (hs : call s [(aD n ps, .ow), (tD xs, .ow)] = some (.none, true, .none)) (hc : call c [(aD n ps, .ow)] = some (.none, true, .none)) :
    runF call fuel (T80.f_leaving t e m s c) [(aD n ps, .ow), (tD xs, .ow)] = some (tD (intoL (swp ps) xs), true, .none) := by
  rw [← T_eq]
  refine T_runF rfl (by simp [T80.f_leaving]) ?_
  have hl : (swp ps).length = ps.length := by simp [swp]
  have hlen : ((swp ps).zipIdx.filter fun p => entB xs p.1).length ≤ 1000000 := by
    have := List.length_filter_le (fun p : (Nat × Nat) × Nat => entB xs p.1) (swp ps).zipIdx
    have := hv.len
    simp at *
    omega
  have h0 : idxD (aD n ps) (.int 2) = some (.tuple (ps.map pD)) := by simp [aD]
  have h1 := ht (.inl ⟨rfl, rfl⟩ : PA ps (.tuple (ps.map pD)) .ow) (by have := hv.len; omega)
  simp [T80.f_leaving, Cr.start, retO, tyD, takeOpd, backOpd, frz1, endCall, keep, setO, noName, ownD, isListC, isDictC, isDictO, into, small, aD_imm, hs, hc, h0, enumD_map, h1]
  refine T_purec (β := (Nat × Nat) × Nat) (fun p => .tuple [.int p.2, pD p.1]) (fun p => entB xs p.1) (fun p => .int p.2) true _ rfl (fun x hx' => ?_) fun r' hr => ?_
  · have hb : ∀ p, (msk xs).testBit p = decide (p ∈ xs) := msk_bit _ xs rfl hx.rise
    simp [Cr.start, retO, tyD, takeOpd, backOpd, frz1, endCall, keep, setO, noName, ownD, isListC, isDictC, isDictO, into, small, hm, he, hb, entB]
  · dsimp only
    have ei : imms (((swp ps).zipIdx.filter fun p => entB xs p.1).map fun p => PyData.int (p.2 : Nat)) = true := imms_map fun x _ => by simp
    simp [Cr.start, retO, tyD, takeOpd, backOpd, frz1, endCall, keep, setO, noName, ownD, isListC, isDictC, isDictO, into, small, hr, hlen, ei]
    unfold nl intoL
    rw [List.map_map]
    rfl
theorem walk_ok {f p c : Nat} (hv : Va n ps) (hf : S_cf call f) (hp : ∀ {u : Nat}, u < n → call p [(aD n ps, .ow), (.int u, .ow)] = some (.none, true, .none)) (hc : call c [(aD n ps, .ow)] = some (.none, true, .none)) {u v : Nat} (hu : u < n) (hv' : v < n) :
    runF call fuel (T80.f_walk f p c) [(aD n ps, .ow), (.int u, .ow), (.int v, .ow)] = some (wD (best ps u v), true, .none) := by
  rw [← T_eq]
  refine T_runF rfl (by simp [T80.f_walk]) ?_
  have h0 : idxD (aD n ps) (.int 2) = some (.tuple (ps.map pD)) := by simp [aD]
  obtain ⟨x, e1, kvs, g, e2, h1, h2, _⟩ := hf hv (.inl ⟨rfl, rfl⟩ : PA ps (.tuple (ps.map pD)) .ow) hu
  subst e2
  have e3 : (dkeys kvs (.int v)).getD .none = wD (best ps u v) := by rw [h1.get v, told_best h2 v]; rfl
  simp [T80.f_walk, Cr.start, retO, tyD, takeOpd, backOpd, frz1, endCall, keep, setO, noName, ownD, isListC, isDictC, isDictO, into, small, aD_imm, hc, hp hu, hp hv', h0, e1]
  simp [Cr.start, retO, tyD, takeOpd, backOpd, frz1, endCall, keep, setO, noName, ownD, isListC, isDictC, isDictO, into, small, e3, wD_imm]
theorem arrow_classes_ok {f c : Nat} (hv : Va n ps) (hf : S_classes call f) (hc : call c [(aD n ps, .ow)] = some (.none, true, .none)) :
    runF call fuel (T80.f_arrow_classes f c) [(aD n ps, .ow)] = some (.list ((clss n ps).map tD), true, .none) := by
  rw [← T_eq]
  refine T_runF rfl (by simp [T80.f_arrow_classes]) ?_
  have h0 : idxD (aD n ps) (.int 2) = some (.tuple (ps.map pD)) := by simp [aD]
  have h1 : idxD (aD n ps) (.int 1) = some (.int n) := by simp [aD]
  have e1 := hf hv (.inl ⟨rfl, rfl⟩ : PA ps (.tuple (ps.map pD)) .ow)
  simp [T80.f_arrow_classes, Cr.start, retO, tyD, takeOpd, backOpd, frz1, endCall, keep, setO, noName, ownD, isListC, isDictC, isDictO, into, small, aD_imm, hc, h0, h1, e1]
theorem clss_len (n : Nat) (ps : List (Nat × Nat)) : (clss n ps).length ≤ n := by
  have := once_len ((List.range n).map (cls n ps))
  simpa [clss] using this
theorem all_reach_ok {f c : Nat} (hv : Va n ps) (hf : S_classes call f) (hc : call c [(aD n ps, .ow)] = some (.none, true, .none)) :
    runF call fuel (T80.f_all_reach f c) [(aD n ps, .ow)] = some (.bool (decide ((clss n ps).length = 1)), true, .none) := by
  rw [← T_eq]
  refine T_runF rfl (by simp [T80.f_all_reach]) ?_
  have h0 : idxD (aD n ps) (.int 2) = some (.tuple (ps.map pD)) := by simp [aD]
  have h1 : idxD (aD n ps) (.int 1) = some (.int n) := by simp [aD]
  have e1 := hf hv (.inl ⟨rfl, rfl⟩ : PA ps (.tuple (ps.map pD)) .ow)
  simp [T80.f_all_reach, Cr.start, retO, tyD, takeOpd, backOpd, frz1, endCall, keep, setO, noName, ownD, isListC, isDictC, isDictO, into, small, aD_imm, hc, h0, h1, e1]
  omega
theorem se_cls (p : Nat) : Se n (cls n ps p) := ⟨List.Pairwise.filter _ List.pairwise_lt_range, fun x hx => List.mem_range.mp (List.mem_filter.mp hx).1⟩
theorem se_clss {c : List Nat} (h : c ∈ clss n ps) : Se n c := by
  obtain ⟨p, _, rfl⟩ := List.mem_map.mp (mem_once.mp h)
  exact se_cls p
theorem sources_ok {f e m c : Nat} (hv : Va n ps) (hf : S_classes call f) (hc : call c [(aD n ps, .ow)] = some (.none, true, .none))
    (he : ∀ (m : Nat) (p : Nat × Nat), call e [(.int m, .ow), (pD p, .ow)] = some (.bool (!m.testBit p.1 && m.testBit p.2), true, .none))
    (hm : ∀ {xs : List Nat}, Se n xs → call m [(tD xs, .ow)] = some (.int (msk xs), true, .none)) :
    runF call fuel (T80.f_sources f e m c) [(aD n ps, .ow)] = some (.list (((clss n ps).filter (srcB ps)).map tD), true, .none) := by
  rw [← T_eq]
  refine T_runF rfl (by simp [T80.f_sources]) ?_
  have h0 : idxD (aD n ps) (.int 2) = some (.tuple (ps.map pD)) := by simp [aD]
  have h1 : idxD (aD n ps) (.int 1) = some (.int n) := by simp [aD]
  have e1 := hf hv (.inl ⟨rfl, rfl⟩ : PA ps (.tuple (ps.map pD)) .ow)
  have hlen : ((clss n ps).filter (srcB ps)).length ≤ 1000000 := by
    have := List.length_filter_le (srcB ps) (clss n ps)
    have := clss_len n ps
    have := hv.n7
    omega
  have hl : ps.length ≤ 1000000 := by have := hv.len; omega
  simp [T80.f_sources, Cr.start, retO, tyD, takeOpd, backOpd, frz1, endCall, keep, setO, noName, ownD, isListC, isDictC, isDictO, into, small, aD_imm, hc, h0, h1, e1]
  refine T_purec (β := List Nat) tD (srcB ps) tD true _ rfl (fun x hx => ?_) fun r' hr => ?_
  · have hs := se_clss hx
    have hb : ∀ p, (msk x).testBit p = decide (p ∈ x) := msk_bit _ x rfl hs.rise
    simp [Cr.start, retO, tyD, takeOpd, backOpd, frz1, endCall, keep, setO, noName, ownD, isListC, isDictC, isDictO, into, small]
    refine T_pure0 (β := Nat × Nat) pD (fun p => .bool (entB x p)) true _ rfl (fun y hy => ?_) fun r' hr => ?_
    · simp [Cr.start, retO, tyD, takeOpd, backOpd, frz1, endCall, keep, setO, noName, ownD, isListC, isDictC, isDictO, into, small, hm hs, he, hb, entB]
    · dsimp only
      simp [Cr.start, retO, tyD, takeOpd, backOpd, frz1, endCall, keep, setO, noName, ownD, isListC, isDictC, isDictO, into, small, hr, hl, bi_any, srcB]
      exact ite_any _ _
  · dsimp only
    simp [Cr.start, retO, tyD, takeOpd, backOpd, frz1, endCall, keep, setO, noName, ownD, isListC, isDictC, isDictO, into, small, hr, hlen]
theorem sinks_ok {f e m t c : Nat} (hv : Va n ps) (hf : S_classes call f) (hc : call c [(aD n ps, .ow)] = some (.none, true, .none))
    (ht : ∀ {ps : List (Nat × Nat)} {d : D} {st : Stt}, PA ps d st → ps.length ≤ 1000 → call t [(d, st)] = some (.list ((swp ps).map pD), true, .none))
    (he : ∀ (m : Nat) (p : Nat × Nat), call e [(.int m, .ow), (pD p, .ow)] = some (.bool (!m.testBit p.1 && m.testBit p.2), true, .none))
    (hm : ∀ {xs : List Nat}, Se n xs → call m [(tD xs, .ow)] = some (.int (msk xs), true, .none)) :
    runF call fuel (T80.f_sinks f e m t c) [(aD n ps, .ow)] = some (.list (((clss n (swp ps)).filter (srcB (swp ps))).map tD), true, .none) := by
  rw [← T_eq]
  refine T_runF rfl (by simp [T80.f_sinks]) ?_
  have h0 : idxD (aD n ps) (.int 2) = some (.tuple (ps.map pD)) := by simp [aD]
  have h1 : idxD (aD n ps) (.int 1) = some (.int n) := by simp [aD]
  have h2 := ht (.inl ⟨rfl, rfl⟩ : PA ps (.tuple (ps.map pD)) .ow) (by have := hv.len; omega)
  have e1 := hf hv.swap (.inr ⟨rfl, rfl⟩ : PA (swp ps) (.list ((swp ps).map pD)) .fz)
  have hlen : ((clss n (swp ps)).filter (srcB (swp ps))).length ≤ 1000000 := by
    have := List.length_filter_le (srcB (swp ps)) (clss n (swp ps))
    have := clss_len n (swp ps)
    have := hv.n7
    omega
  have hl : (swp ps).length ≤ 1000000 := by have := hv.swap.len; omega
  simp [T80.f_sinks, Cr.start, retO, tyD, takeOpd, backOpd, frz1, endCall, keep, setO, noName, ownD, isListC, isDictC, isDictO, into, small, aD_imm, hc, h0, h1, h2, e1]
  refine T_purec (β := List Nat) tD (srcB (swp ps)) tD true _ rfl (fun x hx => ?_) fun r' hr => ?_
  · have hs := se_clss hx
    have hb : ∀ p, (msk x).testBit p = decide (p ∈ x) := msk_bit _ x rfl hs.rise
    simp [Cr.start, retO, tyD, takeOpd, backOpd, frz1, endCall, keep, setO, noName, ownD, isListC, isDictC, isDictO, into, small]
    refine T_pure0 (β := Nat × Nat) pD (fun p => .bool (entB x p)) true _ rfl (fun y hy => ?_) fun r' hr => ?_
    · simp [Cr.start, retO, tyD, takeOpd, backOpd, frz1, endCall, keep, setO, noName, ownD, isListC, isDictC, isDictO, into, small, hm hs, he, hb, entB]
    · dsimp only
      simp [Cr.start, retO, tyD, takeOpd, backOpd, frz1, endCall, keep, setO, noName, ownD, isListC, isDictC, isDictO, into, small, hr, hl, bi_any, srcB]
      exact ite_any _ _
  · dsimp only
    simp [Cr.start, retO, tyD, takeOpd, backOpd, frz1, endCall, keep, setO, noName, ownD, isListC, isDictC, isDictO, into, small, hr, hlen]
end
end Cv
/-! # K80f: what the law draws -/
namespace Cv
open PySem Cr Cw Bfs
def Pot (p : D) : Prop := ∃ a b : Int, p = .list [.int a, .int b] ∧ 0 ≤ a ∧ 0 ≤ b ∧ b < 2 ^ 32
def S_draw (call : CallT) (i : Nat) : Prop := ∀ {p : D}, Pot p → ∀ {m : Nat}, 0 < m → m < 2 ^ 30 → T (call i [(p, .pn), (.int m, .ow)]) fun x => ∃ k : Nat, k < m ∧ ∃ p', Pot p' ∧ x = (.int k, true, p')
theorem log2_lt {n k : Nat} (h : n < 2 ^ k) (hk : 0 < k) : n.log2 < k := by
  rcases Nat.eq_zero_or_pos n with z | z
  · rw [z]; simpa using hk
  · exact (Nat.log2_lt (by omega)).mpr h
theorem mulOk_of {a b : Int} (ha : a.natAbs < 2 ^ 64) (hb : b.natAbs < 2 ^ 64) : mulOk a b = true := by
  unfold mulOk
  have := log2_lt ha (by decide)
  have := log2_lt hb (by decide)
  exact decide_eq_true (by omega)
@[simp] theorem ixD20 : ixD 2 0 = some 0 := rfl
@[simp] theorem ixD21 : ixD 2 1 = some 1 := rfl
section
variable {call : CallT} {fuel : Nat}
theorem law_draw_ok {p : D} (hp : Pot p) {m : Nat} (h0 : 0 < m) (h1 : m < 2 ^ 30) : T (runF call fuel T80.f__law_draw [(p, .pn), (.int m, .ow)]) fun x => ∃ k : Nat, k < m ∧ ∃ p', Pot p' ∧ x = (.int k, true, p') := by
  obtain ⟨a, b, rfl, ha, hb, hb2⟩ := hp
  refine T_runF rfl (by simp [T80.f__law_draw, Cr.start, isPn]) ?_
  have hm : (0 : Int) < m := by omega
  have e1 : opD .Mult (.int b) (.int 40014) = some (.int (b * 40014), []) := op_mul _ _ (mulOk_of (by omega) (by decide))
  simp [T80.f__law_draw, Cr.start, retO, tyD, takeOpd, backOpd, frz1, endCall, keep, setO, noName, ownD, isListC, isDictC, isDictO, into, small]
  by_cases h : 0 < a
  · simp [h, Cr.start, retO, tyD, takeOpd, backOpd, frz1, endCall, keep, setO, noName, ownD, isListC, isDictC, isDictO, into, small, op_mod _ _ hm, op_fdiv a m hm (by omega)]
    have q1 := Int.emod_nonneg a (show (m : Int) ≠ 0 by omega)
    have q2 := Int.emod_lt_of_pos a hm
    exact ⟨(a % m).toNat, by omega, ⟨a / m, b, rfl, Int.ediv_nonneg ha (by omega), hb, hb2⟩, by omega⟩
  · have r1 := Int.emod_nonneg (b * 40014 + 3457) (show (2147483563 : Int) ≠ 0 by decide)
    have r2 := Int.emod_lt_of_pos (b * 40014 + 3457) (show (0 : Int) < 2147483563 by decide)
    have e2 := op_mul ((b * 40014 + 3457) % 2147483563) ((b * 40014 + 3457) % 2147483563) (mulOk_of (by omega) (by omega))
    have e3 : ∀ x : Int, opD .FloorDiv (.int x) (.int 13) = some (.int (x / 13), []) := fun x => op_fdiv x 13 (by decide) (by decide)
    simp [h, Cr.start, retO, tyD, takeOpd, backOpd, frz1, endCall, keep, setO, noName, ownD, isListC, isDictC, isDictO, into, small, e1, e2, e3, op_mod, hm, h0]
    generalize hz : (b * 40014 + 3457) % 2147483563 * ((b * 40014 + 3457) % 2147483563) % 2147483587 / 13 = z
    have q1 := Int.emod_nonneg z (show (m : Int) ≠ 0 by omega)
    have q2 := Int.emod_lt_of_pos z hm
    exact ⟨(z % m).toNat, by omega, ⟨a, _, rfl, ha, r1, by omega⟩, by omega⟩
theorem law_pot_ok (ns : List Int) (hl : ns.length ≤ 63) : T (runF call fuel T80.f__law_pot [(.list (ns.map .int), .fz), (.int 0, .ow)]) fun x => ∃ p, Pot p ∧ x = (p, true, .none) := by
  refine T_runF rfl (by simp [T80.f__law_pot, Cr.start, isPn]) ?_
  have e1 : opD .Pow (.int 10) (.int 18) = some (.int 1000000000000000000, []) := by
    show (arith .Pow 10 18).map (fun k => (PyData.int k, ([] : List D))) = _
    simp [arith]
  have e2 : opD .Mult (.int 571) (.int 0) = some (.int 0, []) := op_mul 571 0 (mulOk_of (by decide) (by decide))
  have e3 : opD .Mult (.int 3457) (.int 0) = some (.int 0, []) := op_mul 3457 0 (mulOk_of (by decide) (by decide))
  have e4 : ∀ x : Int, opD .Mod (.int x) (.int 2147483563) = some (.int (x % 2147483563), []) := fun x => op_mod x _ (by decide)
  have e5 : ∀ x : Int, opD .Mod (.int x) (.int 2147483549) = some (.int (x % 2147483549), []) := fun x => op_mod x _ (by decide)
  have e6 : ∀ x : Int, opD .Mult (.int (x % 2147483563)) (.int 40014) = some (.int (x % 2147483563 * 40014), []) := fun x => op_mul _ _ (mulOk_of (by
    have r1 := Int.emod_nonneg x (show (2147483563 : Int) ≠ 0 by decide)
    have r2 := Int.emod_lt_of_pos x (show (0 : Int) < 2147483563 by decide)
    omega) (by decide))
  have e7 : opD .Mult (.int 709) (.int 40014) = some (.int 28369926, []) := op_mul 709 40014 (mulOk_of (by decide) (by decide))
  simp [T80.f__law_pot, Cr.start, retO, tyD, takeOpd, backOpd, frz1, endCall, keep, setO, noName, ownD, isListC, isDictC, isDictO, into, small]
  cases ns with
  | nil =>
    simp [Cr.start, retO, tyD, takeOpd, backOpd, frz1, endCall, keep, setO, noName, ownD, isListC, isDictC, isDictO, into, small, e1, e2, e3, e4, e5, e6, e7]
    exact ⟨0, _, rfl, by decide, by decide, by decide⟩
  | cons x xs =>
    have h0 : idxD (.list ((x :: xs).map .int)) (.int 0) = some (.int x) := idx_l (k := 0) (by simp)
    rw [List.map_cons] at h0
    have hpos : (0 : Int) < (xs.length : Int) + 1 := by omega
    simp [Cr.start, retO, tyD, takeOpd, backOpd, frz1, endCall, keep, setO, noName, ownD, isListC, isDictC, isDictO, into, small, e1, e2, e3, e4, e5, e6, h0, hpos]
    refine ⟨_, _, rfl, by omega, ?_, ?_⟩
    · have := Int.emod_nonneg (x.natAbs % 2147483563 * 40014 + 71) (show (2147483549 : Int) ≠ 0 by decide)
      omega
    · have := Int.emod_lt_of_pos (x.natAbs % 2147483563 * 40014 + 71) (show (0 : Int) < 2147483549 by decide)
      omega
/-- pairs of unlike places, so far -/
structure Vp (n : Nat) (ps : List (Nat × Nat)) : Prop where
  near : ∀ p ∈ ps, p.1 < n
  far : ∀ p ∈ ps, p.2 < n
  ne : ∀ p ∈ ps, p.1 ≠ p.2
theorem vp_nil {n : Nat} : Vp n [] := ⟨by simp, by simp, by simp⟩
def AI (most many n : Nat) (xs : List D) (r : Rho) : Prop := ∃ p ps c3 c6, Pot p ∧ Vp n ps ∧ imms xs = true ∧ ps.length + xs.length ≤ many ∧ freB c3 = true ∧ freB c6 = true ∧ r = [some (p, .pn), some (.int most, .ow), some (.int many, .ow), c3, some (.int n, .ow), some (.list (ps.map pD), .ow), c6]
theorem arrow_mod {n s j : Nat} (hs : s < n) (hj : j < n - 1) : (s + 1 + j) % n < n ∧ s ≠ (s + 1 + j) % n := by
  refine ⟨Nat.mod_lt _ (by omega), ?_⟩
  by_cases h : s + 1 + j < n
  · rw [Nat.mod_eq_of_lt h]
    omega
  · rw [Nat.mod_eq_sub_mod (by omega), Nat.mod_eq_of_lt (by omega)]
    omega
theorem law_arrows_ok {i : Nat} (hd : S_draw call i) {p : D} (hp : Pot p) {most many : Nat} (h1 : 0 < most) (h7 : most ≤ 7) (h16 : many ≤ 16) : T (runF call fuel (T80.f__law_arrows i) [(p, .pn), (.int most, .ow), (.int many, .ow)]) fun x => ∃ n ps p', Va n ps ∧ n ≤ most ∧ ps.length ≤ many ∧ Pot p' ∧ x = (aD n ps, true, p') := by
  refine T_runF rfl (by simp [T80.f__law_arrows, Cr.start, isPn]) ?_
  simp [T80.f__law_arrows, Cr.start, retO, tyD, takeOpd, backOpd, frz1, endCall, keep, setO, noName, ownD, isListC, isDictC, isDictO, into, small]
  refine (hd hp h1 (by omega)).mono fun x hx => ?_
  obtain ⟨k, hk, p1, hp1, rfl⟩ := hx
  simp [Cr.start, retO, tyD, takeOpd, backOpd, frz1, endCall, keep, setO, noName, ownD, isListC, isDictC, isDictO, into, small]
  have ek : (1 + (k : Int)) = ((k + 1 : Nat) : Int) := by omega
  rw [ek]
  generalize hN : k + 1 = n at *
  by_cases hn : 1 < n
  · have hn' : (1 : Int) < n := by omega
    have d1 := hd hp1 (m := many + 1) (by omega) (by omega)
    rw [show ((many + 1 : Nat) : Int) = (many : Int) + 1 from rfl] at d1
    rw [if_pos hn']
    refine d1.mono fun x hx => ?_
    obtain ⟨j, hj, p2, hp2, rfl⟩ := hx
    simp [Cr.start, retO, tyD, takeOpd, backOpd, frz1, endCall, keep, setO, noName, ownD, isListC, isDictC, isDictO, into, small, show (j : Int) ≤ 100000 by omega, show (-100000 : Int) ≤ j by omega, range_map0]
    refine T_forL (AI most many n) (fun x xs r h => ?_) ⟨p2, [], none, none, hp2, vp_nil, by simp, by simp; omega, by simp, by simp, rfl⟩ fun r' h => ?_
    · obtain ⟨p, ps, c3, c6, hp, hv, him, hl, h3, h6, rfl⟩ := h
      simp only [imms_cons, Bool.and_eq_true] at him
      simp only [List.length_cons] at hl
      simp [Cr.start, retO, tyD, takeOpd, backOpd, frz1, endCall, keep, setO, noName, ownD, isListC, isDictC, isDictO, into, small, h3, him.1]
      refine (hd hp (m := n) (by omega) (by omega)).mono fun y hy => ?_
      obtain ⟨s, hs, p3, hp3, rfl⟩ := hy
      have e : (n : Int) - 1 = ((n - 1 : Nat) : Int) := by omega
      have d2 := hd hp3 (m := n - 1) (by omega) (by omega)
      rw [← e] at d2
      simp [Cr.start, retO, tyD, takeOpd, backOpd, frz1, endCall, keep, setO, noName, ownD, isListC, isDictC, isDictO, into, small, h6]
      refine d2.mono fun y hy => ?_
      obtain ⟨t, ht, p4, hp4, rfl⟩ := hy
      obtain ⟨a1, a2⟩ := arrow_mod hs ht
      have e2 : ((s : Int) + 1 + t) % n = ((s + 1 + t) % n : Nat) := by simp
      generalize (s + 1 + t) % n = z at a1 a2 e2
      have e3 : opD .Mod (.int ((s : Int) + 1 + t)) (.int n) = some (.int z, []) := by rw [op_mod _ (n : Int) (by omega), e2]
      simp [Cr.start, retO, tyD, takeOpd, backOpd, frz1, endCall, keep, setO, noName, ownD, isListC, isDictC, isDictO, into, small, e3, show ps.length ≤ 1000000 by omega]
      refine ⟨p4, ps ++ [(s, z)], some (x, .ow), some (.int s, .ow), hp4, ⟨fun q hq => ?_, fun q hq => ?_, fun q hq => ?_⟩, him.2, by simp; omega, by simp, by simp, by simp⟩
      all_goals
        rcases List.mem_append.mp hq with h | h
        · first | exact hv.near q h | exact hv.far q h | exact hv.ne q h
        · simp only [List.mem_singleton] at h
          subst h
          first | exact hs | exact a1 | exact a2
    · obtain ⟨p, ps, c3, c6, hp, hv, him, hl, h3, h6, rfl⟩ := h
      simp [Cr.start, retO, tyD, takeOpd, backOpd, frz1, endCall, keep, setO, noName, ownD, isListC, isDictC, isDictO, into, small]
      exact ⟨n, ps, ⟨by omega, by omega, by simp at hl; omega, hv.near, hv.far, hv.ne⟩, by omega, by simpa using hl, hp, rfl⟩
  · have hn' : ¬ (1 : Int) < n := by omega
    rw [if_neg hn']
    simp [Cr.start, retO, tyD, takeOpd, backOpd, frz1, endCall, keep, setO, noName, ownD, isListC, isDictC, isDictO, into, small, intRange]
    exact ⟨n, [], ⟨by omega, by omega, by simp, by simp, by simp, by simp⟩, by omega, by simp, hp1, rfl⟩
end
end Cv
/-! # K80g: the law's own looks -/
namespace Cv
open PySem Cr Cw Bfs
/-! ### mathematics -/
theorem short_walk {ps : List (Nat × Nat)} {u v : Nat} : ∀ (n : Nat) {w : List Nat}, w.length ≤ n → W ps u v w → ∃ w', W ps u v w' ∧ w'.length ≤ ps.length ∧ w'.length ≤ w.length ∧ ∀ w'', W ps u v w'' → w'.length ≤ w''.length
  | n, w, hl, h => by
    by_cases hm : ∀ w', W ps u v w' → w.length ≤ w'.length
    · obtain ⟨seen, s, _⟩ := sw_of_min h hm
      exact ⟨w, h, s.len, Nat.le_refl _, hm⟩
    · have : ∃ w', W ps u v w' ∧ w'.length < w.length := by
        refine Classical.byContradiction fun q => hm fun w' h' => ?_
        by_cases c : w.length ≤ w'.length
        · exact c
        · exact absurd ⟨w', h', by omega⟩ q
      obtain ⟨w', h', lt⟩ := this
      cases n with
      | zero => omega
      | succ n =>
        obtain ⟨w2, a, b, c, d⟩ := short_walk n (by omega) h'
        exact ⟨w2, a, b, by omega, d⟩
theorem best_none {ps : List (Nat × Nat)} {u v : Nat} (h : ∀ w, ¬ W ps u v w) : best ps u v = none := by
  cases z : best ps u v with
  | none => rfl
  | some w => exact absurd (best_iff.mp z).1 (h w)
/-- what is reached by so many -/
def RS (ps : List (Nat × Nat)) (u m : Nat) (fo : List Nat) : Prop := fo.Nodup ∧ ∀ v, v ∈ fo ↔ ∃ w, W ps u v w ∧ w.length ≤ m
def newB (fo : List Nat) (q : Nat × Nat) : Bool := decide (q.1 ∈ fo) && !decide (q.2 ∈ fo)
def newL (ps : List (Nat × Nat)) (fo : List Nat) : List Nat := (ps.filter (newB fo)).map (·.2)
theorem mem_newL {ps : List (Nat × Nat)} {fo : List Nat} {v : Nat} : v ∈ newL ps fo ↔ ∃ (a h : Nat), ps[a]? = some (h, v) ∧ h ∈ fo ∧ v ∉ fo := by
  unfold newL newB
  simp only [List.mem_map, List.mem_filter, Bool.and_eq_true, decide_eq_true_eq, Bool.not_eq_true', decide_eq_false_iff_not]
  constructor
  · rintro ⟨⟨h, g⟩, ⟨h1, h2, h3⟩, rfl⟩
    obtain ⟨a, ha⟩ := List.getElem?_of_mem h1
    exact ⟨a, h, ha, h2, h3⟩
  · rintro ⟨a, h, h1, h2, h3⟩
    exact ⟨(h, v), ⟨List.mem_of_getElem? h1, h2, h3⟩, rfl⟩
theorem rs_start (ps : List (Nat × Nat)) (u : Nat) : RS ps u 0 [u] := by
  refine ⟨by simp, fun v => ?_⟩
  constructor
  · intro h
    simp only [List.mem_singleton] at h
    subst h
    exact ⟨[], .nil, Nat.le_refl _⟩
  · rintro ⟨w, h, l⟩
    cases h with
    | nil => simp
    | snoc h e => simp at l
theorem rs_step {ps : List (Nat × Nat)} {u m : Nat} {fo : List Nat} (h : RS ps u m fo) : RS ps u (m + 1) (fo ++ sortN (once (newL ps fo))) := by
  have hm : ∀ v, v ∈ sortN (once (newL ps fo)) ↔ ∃ (a h : Nat), ps[a]? = some (h, v) ∧ h ∈ fo ∧ v ∉ fo := fun v => by rw [sortN_mem, mem_once, mem_newL]
  refine ⟨List.nodup_append.mpr ⟨h.1, (sortN_perm _).nodup_iff.mpr (nodup_once _), fun a ha b hb => ?_⟩, fun v => ?_⟩
  · obtain ⟨_, _, _, _, h3⟩ := (hm b).mp hb
    intro e
    subst e
    exact h3 ha
  · rw [List.mem_append, hm]
    constructor
    · rintro (q | ⟨a, g, h1, h2, h3⟩)
      · obtain ⟨w, hw, l⟩ := (h.2 v).mp q
        exact ⟨w, hw, by omega⟩
      · obtain ⟨w, hw, l⟩ := (h.2 g).mp h2
        exact ⟨w ++ [a], hw.snoc h1, by simp; omega⟩
    · rintro ⟨w, hw, l⟩
      by_cases c : v ∈ fo
      · exact .inl c
      · have c2 : ¬ w.length ≤ m := fun q => c ((h.2 v).mpr ⟨w, hw, q⟩)
        obtain ⟨g, w0, a, h1, h2, rfl⟩ := hw.inv (by omega)
        exact .inr ⟨a, g, h2, (h.2 g).mpr ⟨w0, h1, by simp at l; omega⟩, c⟩
noncomputable def reachedL (n : Nat) (ps : List (Nat × Nat)) (u : Nat) : List Nat := (List.range n).filter (rch ps u)
theorem w_bd {n : Nat} {ps : List (Nat × Nat)} (hv : Va n ps) {u v : Nat} {w : List Nat} (hu : u < n) (h : W ps u v w) : v < n := by
  cases h with
  | nil => exact hu
  | snoc h e => exact hv.far _ (List.mem_of_getElem? e)
theorem rs_end {n : Nat} {ps : List (Nat × Nat)} (hv : Va n ps) {u : Nat} (hu : u < n) {fo : List Nat} (h : RS ps u ps.length fo) : sortN fo = reachedL n ps u := by
  refine rising_ext (sortN_strict h.1) (List.Pairwise.filter _ List.pairwise_lt_range) fun v => ?_
  rw [sortN_mem, h.2 v]
  unfold reachedL
  rw [List.mem_filter, List.mem_range, rch_iff]
  constructor
  · rintro ⟨w, hw, _⟩
    exact ⟨w_bd hv hu hw, w, hw⟩
  · rintro ⟨_, w, hw⟩
    obtain ⟨w', h1, h2, _⟩ := short_walk _ (Nat.le_refl _) hw
    exact ⟨w', h1, h2⟩
section
variable {call : CallT} {fuel : Nat} {n : Nat} {ps : List (Nat × Nat)}
theorem law_into_ok (hl : ps.length ≤ 1000) (xs : List Nat) : runF call fuel T80.f__law_into [(.tuple (ps.map pD), .ow), (tD xs, .ow)] = some (tD (intoL ps xs), true, .none) := by
  rw [← T_eq]
  refine T_runF rfl (by simp [T80.f__law_into]) ?_
  have hlen : (ps.zipIdx.filter fun p => entB xs p.1).length ≤ 1000000 := by
    have := List.length_filter_le (fun p : (Nat × Nat) × Nat => entB xs p.1) ps.zipIdx
    simp at *
    omega
  simp [T80.f__law_into, Cr.start, retO, tyD, takeOpd, backOpd, frz1, endCall, keep, setO, noName, ownD, isListC, isDictC, isDictO, into, small, enumD_map]
  refine T_purec (β := (Nat × Nat) × Nat) (fun p => .tuple [.int p.2, pD p.1]) (fun p => entB xs p.1) (fun p => .int p.2) true _ rfl (fun x hx' => ?_) fun r' hr => ?_
  · simp [Cr.start, retO, tyD, takeOpd, backOpd, frz1, endCall, keep, setO, noName, ownD, isListC, isDictC, isDictO, into, small, entB]
    by_cases h1 : x.1.1 ∈ xs <;> by_cases h2 : x.1.2 ∈ xs <;> simp [h1, h2, Cr.start, retO, tyD, takeOpd, backOpd, frz1, endCall, keep, setO, noName, ownD, isListC, isDictC, isDictO, into, small]
  · dsimp only
    have ei : imms ((ps.zipIdx.filter fun p => entB xs p.1).map fun p => PyData.int (p.2 : Nat)) = true := imms_map fun x _ => by simp
    simp [Cr.start, retO, tyD, takeOpd, backOpd, frz1, endCall, keep, setO, noName, ownD, isListC, isDictC, isDictO, into, small, hr, hlen, ei]
    unfold nl intoL
    rw [List.map_map]
    rfl
theorem out_eq (xs : List Nat) : intoL (swp ps) xs = ((ps.zipIdx).filter fun p => decide (p.1.1 ∈ xs) && !decide (p.1.2 ∈ xs)).map (·.2) := by
  unfold intoL swp
  rw [List.zipIdx_map, List.filter_map, List.map_map]
  have e : ((fun p => entB xs p.fst) ∘ Prod.map Prod.swap id : (Nat × Nat) × Nat → Bool) = fun p => decide (p.1.1 ∈ xs) && !decide (p.1.2 ∈ xs) := funext fun p => by
    simp [entB, Bool.and_comm]
  rw [e]
  rfl
theorem law_out_ok (hl : ps.length ≤ 1000) (xs : List Nat) : runF call fuel T80.f__law_out [(.tuple (ps.map pD), .ow), (tD xs, .ow)] = some (tD (intoL (swp ps) xs), true, .none) := by
  rw [← T_eq]
  refine T_runF rfl (by simp [T80.f__law_out]) ?_
  have hlen : (ps.zipIdx.filter fun p => decide (p.1.1 ∈ xs) && !decide (p.1.2 ∈ xs)).length ≤ 1000000 := by
    have := List.length_filter_le (fun p : (Nat × Nat) × Nat => decide (p.1.1 ∈ xs) && !decide (p.1.2 ∈ xs)) ps.zipIdx
    simp only [List.length_zipIdx] at this
    omega
  simp [T80.f__law_out, Cr.start, retO, tyD, takeOpd, backOpd, frz1, endCall, keep, setO, noName, ownD, isListC, isDictC, isDictO, into, small, enumD_map]
  refine T_purec (β := (Nat × Nat) × Nat) (fun p => .tuple [.int p.2, pD p.1]) (fun p => decide (p.1.1 ∈ xs) && !decide (p.1.2 ∈ xs)) (fun p => .int p.2) true _ rfl (fun x hx' => ?_) fun r' hr => ?_
  · simp [Cr.start, retO, tyD, takeOpd, backOpd, frz1, endCall, keep, setO, noName, ownD, isListC, isDictC, isDictO, into, small]
    by_cases h1 : x.1.1 ∈ xs <;> by_cases h2 : x.1.2 ∈ xs <;> simp [h1, h2, Cr.start, retO, tyD, takeOpd, backOpd, frz1, endCall, keep, setO, noName, ownD, isListC, isDictC, isDictO, into, small]
  · dsimp only
    have ei : imms ((ps.zipIdx.filter fun p => decide (p.1.1 ∈ xs) && !decide (p.1.2 ∈ xs)).map fun p => PyData.int (p.2 : Nat)) = true := imms_map fun x _ => by simp
    simp [Cr.start, retO, tyD, takeOpd, backOpd, frz1, endCall, keep, setO, noName, ownD, isListC, isDictC, isDictO, into, small, hr, hlen, ei]
    rw [out_eq]
    unfold nl
    rw [List.map_map]
    rfl
def RI (ps : List (Nat × Nat)) (u : Nat) (xs : List D) (r : Rho) : Prop := ∃ m fo c3, RS ps u m fo ∧ imms xs = true ∧ m + xs.length = ps.length ∧ freB c3 = true ∧ r = [some (.tuple (ps.map pD), .ow), some (.int u, .ow), some (.list (nl fo), .ow), c3, none, none]
theorem law_reached_ok (hv : Va n ps) {u : Nat} (hu : u < n) : runF call fuel T80.f__law_reached [(.tuple (ps.map pD), .ow), (.int u, .ow)] = some (.list (nl (reachedL n ps u)), true, .none) := by
  rw [← T_eq]
  refine T_runF rfl (by simp [T80.f__law_reached]) ?_
  have hfo : ∀ {m fo}, RS ps u m fo → fo.length ≤ 7 := fun {m fo} h => by
    have := nodup_le n fo h.1 fun x hx => by
      obtain ⟨w, hw, _⟩ := (h.2 x).mp hx
      exact w_bd hv hu hw
    have := hv.n7
    omega
  simp [T80.f__law_reached, Cr.start, retO, tyD, takeOpd, backOpd, frz1, endCall, keep, setO, noName, ownD, isListC, isDictC, isDictO, into, small]
  refine T_forL (RI ps u) (fun x xs r h => ?_) ⟨0, [u], none, rs_start ps u, by simp, by simp, by simp, rfl⟩ fun r' h => ?_
  · obtain ⟨m, fo, c3, h1, h2, h3, h4, rfl⟩ := h
    simp only [imms_cons, Bool.and_eq_true] at h2
    simp only [List.length_cons] at h3
    simp [Cr.start, retO, tyD, takeOpd, backOpd, frz1, endCall, keep, setO, noName, ownD, isListC, isDictC, isDictO, into, small, h4, h2.1]
    refine T_purec (β := Nat × Nat) pD (newB fo) (fun q => .int (Int.ofNat q.2)) true _ rfl (fun y hy => ?_) fun r' hr => ?_
    · by_cases q1 : y.1 ∈ fo <;> by_cases q2 : y.2 ∈ fo <;> simp [q1, q2, Cr.start, retO, tyD, takeOpd, backOpd, frz1, endCall, keep, setO, noName, ownD, isListC, isDictC, isDictO, into, small, newB]
    · have e : (ps.filter (newB fo)).map (fun q => PyData.int (Int.ofNat q.2)) = nl (newL ps fo) := by
        unfold nl newL
        rw [List.map_map]
        rfl
      have l1 : (newL ps fo).length ≤ 16 := by
        have := List.length_filter_le (newB fo) ps
        have := hv.len
        simp [newL]
        omega
      have l2 := hfo h1
      have l3 := hfo (rs_step h1)
      simp only [List.length_append] at l3
      dsimp only
      rw [e]
      have e2 := op_cat_l (k := nl fo) (l := nl (sortN (once (newL ps fo)))) (by simp; omega)
      simp [Cr.start, retO, tyD, takeOpd, backOpd, frz1, endCall, keep, setO, noName, ownD, isListC, isDictC, isDictO, into, small, hr, show (newL ps fo).length ≤ 1000000 by omega, bi_sset_nl (show (newL ps fo).length < 64 by omega), fin_top, e2]
      exact ⟨m + 1, _, some (x, .ow), rs_step h1, h2.2, by omega, by simp, by simp⟩
  · obtain ⟨m, fo, c3, h1, h2, h3, h4, rfl⟩ := h
    simp only [List.length_nil, Nat.add_zero] at h3
    subst h3
    have l2 := hfo h1
    simp [Cr.start, retO, tyD, takeOpd, backOpd, frz1, endCall, keep, setO, noName, ownD, isListC, isDictC, isDictO, into, small, bi_sorted_nl (show fo.length ≤ 1000000 by omega), fin_top]
    rw [rs_end hv hu h1]
end
end Cv
/-! # K80h: the law's walk, all walks of one length at a time -/
namespace Cv
open PySem Cr Cw Bfs
abbrev WS : Type := List Nat × List Nat
def eS (x : WS) : D := .tuple [tD x.1, .list (nl x.2)]
def Ext (ps : List (Nat × Nat)) (y : WS) (a : Nat) (x : WS) : Prop := ∃ h g, y.2.getLast? = some h ∧ ps[a]? = some (h, g) ∧ g ∉ y.2 ∧ x = (y.1 ++ [a], y.2 ++ [g])
/-- all walks of one length -/
def SL (ps : List (Nat × Nat)) (u L : Nat) (S : List WS) : Prop := ∀ x : WS, x ∈ S ↔ SW ps u x.1 x.2 ∧ x.1.length = L
section
variable {n : Nat} {ps : List (Nat × Nat)} {u : Nat}
theorem _root_.Bfs.SW.facts {w seen : List Nat} (s : SW ps u w seen) : seen.Nodup ∧ seen.length = w.length + 1 ∧ ∃ h, seen.getLast? = some h := by
  induction s with
  | nil => exact ⟨by simp, rfl, u, rfl⟩
  | @snoc w seen h g a s l e n ih =>
    refine ⟨List.nodup_append.mpr ⟨ih.1, by simp, fun x hx y hy => ?_⟩, by simp [ih.2.1], g, by simp⟩
    simp only [List.mem_singleton] at hy
    subst hy
    intro q
    subst q
    exact n hx
theorem _root_.Bfs.SW.bd (hv : Va n ps) (hu : u < n) {w seen : List Nat} (s : SW ps u w seen) : ∀ x ∈ seen, x < n := by
  induction s with
  | nil => intro x hx; simp only [List.mem_singleton] at hx; omega
  | @snoc w seen h g a s l e n ih =>
    intro x hx
    rcases List.mem_append.mp hx with q | q
    · exact ih x q
    · simp only [List.mem_singleton] at q
      subst q
      exact hv.far _ (List.mem_of_getElem? e)
theorem _root_.Bfs.SW.short (hv : Va n ps) (hu : u < n) {w seen : List Nat} (s : SW ps u w seen) : w.length < n := by
  obtain ⟨h1, h2, _⟩ := s.facts
  have := nodup_le n seen h1 (s.bd hv hu)
  omega
theorem sl_start : SL ps u 0 [([], [u])] := fun x => by
  constructor
  · intro h
    simp only [List.mem_singleton] at h
    subst h
    exact ⟨.nil, rfl⟩
  · rintro ⟨s, l⟩
    obtain ⟨w, seen⟩ := x
    have : w = [] := List.length_eq_zero_iff.mp l
    subst this
    generalize hz : ([] : List Nat) = z at s
    cases s with
    | nil => simp
    | snoc s l e n => simp at hz
theorem sl_step {L : Nat} {S T' : List WS} (h : SL ps u L S) (hT : ∀ x, x ∈ T' ↔ ∃ y ∈ S, ∃ a, Ext ps y a x) : SL ps u (L + 1) T' := fun x => by
  rw [hT]
  constructor
  · rintro ⟨y, hy, a, h1, g, e1, e2, e3, rfl⟩
    obtain ⟨s, l⟩ := (h y).mp hy
    exact ⟨s.snoc e1 e2 e3, by simp [l]⟩
  · rintro ⟨s, l⟩
    obtain ⟨w, seen⟩ := x
    simp only at s l
    cases s with
    | nil => cases l
    | @snoc w seen h0 g a s l0 e n => exact ⟨(w, seen), (h _).mpr ⟨s, by simpa using l⟩, a, h0, g, l0, e, n, rfl⟩
theorem idx_last {l : List Nat} {h : Nat} (e : l.getLast? = some h) : idxD (.list (nl l)) (.int (-1)) = some (.int h) := by
  have hl : 0 < l.length := by
    cases l with
    | nil => cases e
    | cons x xs => simp
  show (ixD (nl l).length (-1)).bind _ = _
  rw [nl_length, ix_last hl]
  show (nl l)[l.length - 1]? = _
  rw [List.getLast?_eq_getElem?] at e
  unfold nl
  rw [List.getElem?_map, e]
  rfl
/-- all walks so far -/
def XP (ps : List (Nat × Nat)) (u v : Nat) (S : List WS) (Sa : List WS) (cur : WS) (k : Nat) (r : Rho) : Prop :=
  ∃ (T' : List WS) (c4 c5 c9 c10 : Cell), freB c4 = true ∧ freB c5 = true ∧ freB c9 = true ∧ freB c10 = true ∧ r = [some (.tuple (ps.map pD), .ow), some (.int u, .ow), some (.int v, .ow), some (.list (S.map eS), .fz), c4, c5, some (.list (T'.map eS), .ow), some (tD cur.1, .ow), some (.list (nl cur.2), .fz), c9, c10] ∧
    (∀ x, x ∈ T' ↔ (∃ y ∈ Sa, ∃ a, Ext ps y a x) ∨ ∃ a, a < k ∧ Ext ps cur a x) ∧ T'.length ≤ Sa.length * 9 + k
variable {call : CallT} {fuel : Nat}
theorem wpair {v : Nat} {S Sa : List WS} {cur : WS} {k h0 : Nat} {p : Nat × Nat} (hp : ps[k]? = some p) (hl : cur.2.getLast? = some h0) (hw : cur.1.length ≤ 1000) (hw2 : cur.2.length ≤ 1000) (hS : Sa.length * 9 + k ≤ 900000) {r : Rho} (I : XP ps u v S Sa cur k r) :
    T (asg false (.tup [.nm 9, .nm 10]) (.tuple [.int k, pD p]) r) fun r1 =>
    T (exs call fuel (.cons (.ife (.an (.cmp .Eq (.idx (.var 10) (.con (.int 0))) (.idx (.var 8) (.neg (.con (.int 1))))) (.cmp .NotIn (.idx (.var 10) (.con (.int 1))) (.var 8))) (.cons (.app 6 (.tup (.cons (.op2 .Add (.var 7) (.tup (.cons (.var 9) .nil))) (.cons (.op2 .Add (.var 8) (.lst (.cons (.idx (.var 10) (.con (.int 1))) .nil))) .nil))))
      .nil) .nil) .nil) r1) fun q => q.2 = .nx ∧ XP ps u v S Sa cur (k + 1) q.1 := by
  obtain ⟨T', c4, c5, c9, c10, h4, h5, h9, h10, rfl, hT, hlen⟩ := I
  obtain ⟨s, g⟩ := p
  have e1 := idx_last hl
  have no : ¬ (s = h0 ∧ g ∉ cur.2) → ∀ x, x ∈ T' ↔ (∃ y ∈ Sa, ∃ a, Ext ps y a x) ∨ ∃ a, a < k + 1 ∧ Ext ps cur a x := fun hn x => by
    rw [hT]
    constructor
    · rintro (q | ⟨a, l, q⟩)
      · exact .inl q
      · exact .inr ⟨a, by omega, q⟩
    · rintro (q | ⟨a, l, q⟩)
      · exact .inl q
      · by_cases c : a = k
        · subst c
          obtain ⟨h, g', q1, q2, q3, q4⟩ := q
          rw [hp] at q2
          cases q2
          rw [hl] at q1
          cases q1
          exact absurd ⟨rfl, q3⟩ hn
        · exact .inr ⟨a, by omega, q⟩
  simp [Cr.start, retO, tyD, takeOpd, backOpd, frz1, endCall, keep, setO, noName, ownD, isListC, isDictC, isDictO, into, small, h9, h10, e1]
  by_cases hs : s = h0
  · subst hs
    by_cases hg : g ∈ cur.2
    · simp [hg, Cr.start, retO, tyD, takeOpd, backOpd, frz1, endCall, keep, setO, noName, ownD, isListC, isDictC, isDictO, into, small]
      exact ⟨T', c4, c5, _, _, h4, h5, by simp, by simp, rfl, no fun q => q.2 hg, by omega⟩
    · simp [hg, Cr.start, retO, tyD, takeOpd, backOpd, frz1, endCall, keep, setO, noName, ownD, isListC, isDictC, isDictO, into, small, op_cat_t, op_cat_l, show cur.1.length ≤ 999999 by omega, show cur.2.length ≤ 999999 by omega, show T'.length ≤ 1000000 by omega, fin]
      refine ⟨T' ++ [(cur.1 ++ [k], cur.2 ++ [g])], c4, c5, some (.int k, .ow), some (pD (s, g), .ow), h4, h5, by simp, by simp, by simp [eS], fun x => ?_, by simp; omega⟩
      rw [List.mem_append, hT]
      constructor
      · rintro ((q | ⟨a, l, q⟩) | q)
        · exact .inl q
        · exact .inr ⟨a, by omega, q⟩
        · simp only [List.mem_singleton] at q
          exact .inr ⟨k, by omega, s, g, hl, hp, hg, q⟩
      · rintro (q | ⟨a, l, q⟩)
        · exact .inl (.inl q)
        · by_cases c : a = k
          · subst c
            obtain ⟨h, g', q1, q2, q3, q4⟩ := q
            rw [hp] at q2
            cases q2
            exact .inr (by simp [q4])
          · exact .inl (.inr ⟨a, by omega, q⟩)
  · have hs' : ¬ (s : Int) = (h0 : Int) := by omega
    simp [hs', Cr.start, retO, tyD, takeOpd, backOpd, frz1, endCall, keep, setO, noName, ownD, isListC, isDictC, isDictO, into, small]
    exact ⟨T', c4, c5, _, _, h4, h5, by simp, by simp, rfl, no fun q => hs q.1, by omega⟩
def bodyW : CSs := .cons (.ife (.an (.cmp .Eq (.idx (.var 10) (.con (.int 0))) (.idx (.var 8) (.neg (.con (.int 1))))) (.cmp .NotIn (.idx (.var 10) (.con (.int 1))) (.var 8))) (.cons (.app 6 (.tup (.cons (.op2 .Add (.var 7) (.tup (.cons (.var 9) .nil))) (.cons (.op2 .Add (.var 8) (.lst (.cons (.idx (.var 10) (.con (.int 1))) .nil))) .nil))))
      .nil) .nil) .nil
theorem wpairs {v : Nat} {S Sa : List WS} {cur : WS} {h0 : Nat} (hl : cur.2.getLast? = some h0) (hw : cur.1.length ≤ 1000) (hw2 : cur.2.length ≤ 1000) (hp9 : ps.length ≤ 9) (hS : Sa.length * 9 + ps.length ≤ 900000) {r : Rho} (I : XP ps u v S Sa cur 0 r) :
    T (forT (fun r => exs call fuel bodyW r) (asg false (.tup [.nm 9, .nm 10])) (enumD 0 (ps.map pD)) r) fun q => q.2 = .nx ∧ XP ps u v S Sa cur ps.length q.1 := by
  refine T_forL (fun xs r => ∃ k, xs = ((ps.zipIdx 0).drop k).map (fun p => PyData.tuple [.int p.2, pD p.1]) ∧ k ≤ ps.length ∧ XP ps u v S Sa cur k r) (fun x xs r hi => ?_) ⟨0, by rw [enumD_map]; rfl, Nat.zero_le _, I⟩ fun r' hi => ?_
  · obtain ⟨k, e, hk, J⟩ := hi
    cases z : (ps.zipIdx 0).drop k with
    | nil => rw [z] at e; cases e
    | cons y ys =>
      rw [z, List.map_cons] at e
      cases e
      have hy : (ps.zipIdx 0)[k]? = some y := by
        have := congrArg (fun l => l[0]?) z
        simpa [List.getElem?_drop] using this
      have hlt : k < ps.length := by
        have := (List.getElem?_eq_some_iff.mp hy).1
        simpa using this
      obtain ⟨y1, y2⟩ := y
      rw [List.getElem?_zipIdx] at hy
      cases q : ps[k]? with
      | none => rw [q] at hy; cases hy
      | some p =>
        rw [q] at hy
        simp only [Option.map_some, Option.some.injEq, Prod.mk.injEq, Nat.zero_add] at hy
        obtain ⟨rfl, rfl⟩ := hy
        refine (wpair q hl hw hw2 (by omega) J).mono fun r1 h1 => h1.mono fun p' h2 => ?_
        obtain ⟨r2, f⟩ := p'
        obtain ⟨rfl, J2⟩ := h2
        refine ⟨k + 1, ?_, hlt, J2⟩
        have : (ps.zipIdx 0).drop (k + 1) = ys := by
          rw [← List.drop_drop, z]
          rfl
        rw [this]
  · obtain ⟨k, e, hk, J⟩ := hi
    have : k = ps.length := by
      have := congrArg List.length e
      simp at this
      omega
    subst this
    exact ⟨rfl, J⟩
/-- behind some of them -/
def XQ (ps : List (Nat × Nat)) (u v : Nat) (S : List WS) (Sa : List WS) (r : Rho) : Prop :=
  ∃ (T' : List WS) (c4 c5 c7 c8 c9 c10 : Cell), freB c4 = true ∧ freB c5 = true ∧ freB c7 = true ∧ freB c8 = true ∧ freB c9 = true ∧ freB c10 = true ∧ r = [some (.tuple (ps.map pD), .ow), some (.int u, .ow), some (.int v, .ow), some (.list (S.map eS), .fz), c4, c5, some (.list (T'.map eS), .ow), c7, c8, c9, c10] ∧
    (∀ x, x ∈ T' ↔ ∃ y ∈ Sa, ∃ a, Ext ps y a x) ∧ T'.length ≤ Sa.length * 9
def bodyX : CSs := .cons (.forr (.tup [.nm 9, .nm 10]) (.enum (.var 0)) true bodyW) .nil
theorem wall {v L : Nat} {S : List WS} (hS : SL ps u L S) (hn : ∀ x ∈ S, x.1.length ≤ 100 ∧ x.2.length ≤ 101) (hp9 : ps.length ≤ 9) (hl : S.length ≤ 60000) {c4 c5 c7 c8 c9 c10 : Cell} (h4 : freB c4 = true) (h5 : freB c5 = true) (h7 : freB c7 = true) (h8 : freB c8 = true) (h9 : freB c9 = true) (h10 : freB c10 = true) :
    T (forT (fun r => exs call fuel bodyX r) (asg false (.tup [.nm 7, .nm 8])) (S.map eS) [some (.tuple (ps.map pD), .ow), some (.int u, .ow), some (.int v, .ow), some (.list (S.map eS), .fz), c4, c5, some (.list [], .ow), c7, c8, c9, c10]) fun q => q.2 = .nx ∧ XQ ps u v S S q.1 := by
  refine T_forL (fun xs r => ∃ a b, S = a ++ b ∧ xs = b.map eS ∧ XQ ps u v S a r) (fun x xs r hi => ?_) ⟨[], S, rfl, rfl, [], c4, c5, c7, c8, c9, c10, h4, h5, h7, h8, h9, h10, rfl, fun x => by simp, by simp⟩ fun r' hi => ?_
  · obtain ⟨a, b, e1, e2, T', c4, c5, c7, c8, c9, c10, h4, h5, h7, h8, h9, h10, rfl, hT, hlen⟩ := hi
    cases b with
    | nil => cases e2
    | cons y b =>
      rw [List.map_cons] at e2
      cases e2
      have hy : y ∈ S := by rw [e1]; simp
      obtain ⟨s, l⟩ := (hS y).mp hy
      obtain ⟨h0, hh⟩ := s.facts.2.2
      have hb := hn y hy
      have hal : a.length + 1 ≤ S.length := by rw [e1]; simp
      simp [Cr.start, retO, tyD, takeOpd, backOpd, frz1, endCall, keep, setO, noName, ownD, isListC, isDictC, isDictO, into, small, eS, h7, h8]
      unfold bodyX
      rw [T_cons]
      simp [Cr.start, retO, tyD, takeOpd, backOpd, frz1, endCall, keep, setO, noName, ownD, isListC, isDictC, isDictO, into, small]
      refine (wpairs (v := v) (S := S) (Sa := a) (cur := y) hh (by omega) (by omega) hp9 (by omega) ⟨T', c4, c5, c9, c10, h4, h5, h9, h10, rfl, fun x => by rw [hT]; simp, by omega⟩).mono fun p hp => ?_
      obtain ⟨r2, f⟩ := p
      obtain ⟨e, T2, c4, c5, c9, c10, h4, h5, h9, h10, e3, hT2, hlen2⟩ := hp
      simp only at e e3
      subst e e3
      simp
      refine ⟨a ++ [y], b, by simp [e1], rfl, T2, c4, c5, _, _, c9, c10, h4, h5, by simp, by simp, h9, h10, rfl, fun x => ?_, by simp; omega⟩
      rw [hT2]
      constructor
      · rintro (⟨z, hz, a', q⟩ | ⟨a', _, q⟩)
        · exact ⟨z, by simp [hz], a', q⟩
        · exact ⟨y, by simp, a', q⟩
      · rintro ⟨z, hz, a', q⟩
        rcases List.mem_append.mp hz with w | w
        · exact .inl ⟨z, w, a', q⟩
        · simp only [List.mem_singleton] at w
          subst w
          obtain ⟨g1, g2, q1, q2, q3⟩ := q
          exact .inr ⟨a', (List.getElem?_eq_some_iff.mp q2).1, g1, g2, q1, q2, q3⟩
  · obtain ⟨a, b, e1, e2, J⟩ := hi
    have : b = [] := by cases b with
      | nil => rfl
      | cons a b => cases e2
    subst this
    rw [List.append_nil] at e1
    subst e1
    exact ⟨rfl, J⟩
/-- ahead of a length -/
def XI (ps : List (Nat × Nat)) (u v : Nat) (xs : List D) (r : Rho) : Prop :=
  ∃ (L : Nat) (S : List WS) (s3 : Stt) (c4 c5 c6 c7 c8 c9 c10 : Cell), L + xs.length = ps.length + 1 ∧ imms xs = true ∧ (s3 = .ow ∨ s3 = .fz) ∧ freB c4 = true ∧ freB c5 = true ∧ freB c6 = true ∧ freB c7 = true ∧ freB c8 = true ∧ freB c9 = true ∧ freB c10 = true ∧
    r = [some (.tuple (ps.map pD), .ow), some (.int u, .ow), some (.int v, .ow), some (.list (S.map eS), s3), c4, c5, c6, c7, c8, c9, c10] ∧ SL ps u L S ∧ S.length ≤ 9 ^ L ∧ ∀ w, W ps u v w → L ≤ w.length
def hereL (v : Nat) (S : List WS) : List (List Nat) := (S.filter fun x => decide (x.2.getLast? = some v)).map (·.1)
theorem mem_here {v L : Nat} {S : List WS} (hS : SL ps u L S) {w : List Nat} : w ∈ hereL v S ↔ ∃ seen, SW ps u w seen ∧ w.length = L ∧ seen.getLast? = some v := by
  unfold hereL
  simp only [List.mem_map, List.mem_filter, decide_eq_true_eq]
  constructor
  · rintro ⟨⟨w, seen⟩, ⟨h1, h2⟩, rfl⟩
    obtain ⟨s, l⟩ := (hS _).mp h1
    exact ⟨seen, s, l, h2⟩
  · rintro ⟨seen, s, l, e⟩
    exact ⟨(w, seen), ⟨(hS _).mpr ⟨s, l⟩, e⟩, rfl⟩
theorem here_all {v L : Nat} {S : List WS} (hS : SL ps u L S) (hm : ∀ w, W ps u v w → L ≤ w.length) {w : List Nat} (h : W ps u v w) (hl : w.length = L) : w ∈ hereL v S := by
  obtain ⟨seen, s, e, _⟩ := sw_of_min h fun w' h' => by have := hm w' h'; omega
  exact (mem_here hS).mpr ⟨seen, s, hl, e⟩
theorem here_best {v L : Nat} {S : List WS} (hS : SL ps u L S) (hm : ∀ w, W ps u v w → L ≤ w.length) {x : List Nat} {xs : List (List Nat)} (e : hereL v S = x :: xs) : best ps u v = some (lmin x xs) := by
  obtain ⟨m1, m2⟩ := lmin_mem x xs
  rw [← e] at m1 m2
  obtain ⟨seen, s, l, g⟩ := (mem_here hS).mp m1
  refine best_iff.mpr ⟨s.w g, fun w' h' => ?_⟩
  by_cases c : w'.length = L
  · exact .inr ⟨by omega, m2 _ (here_all hS hm h' c)⟩
  · have := hm w' h'
    exact .inl (by omega)
theorem pow9 {L : Nat} (h : L ≤ 5) : 9 ^ L ≤ 59049 := by
  have := Nat.pow_le_pow_right (show 0 < 9 by decide) h
  simpa using this
def XH (ps : List (Nat × Nat)) (u v : Nat) (S : List WS) (c4 c6 c9 c10 : Cell) (r : Rho) : Prop :=
  ∃ (s3 : Stt) (c7 c8 : Cell), (s3 = .ow ∨ s3 = .fz) ∧ freB c7 = true ∧ freB c8 = true ∧ r = [some (.tuple (ps.map pD), .ow), some (.int u, .ow), some (.int v, .ow), some (.list (S.map eS), s3), c4, some (.list ((hereL v S).map tD), .ow), c6, c7, c8, c9, c10]
def XT (ps : List (Nat × Nat)) (u v : Nat) (S : List WS) (r : Rho) : Prop :=
  ∃ (T' : List WS) (s3 : Stt) (c4 c5 c7 c8 c9 c10 : Cell), (s3 = .ow ∨ s3 = .fz) ∧ freB c4 = true ∧ freB c5 = true ∧ freB c7 = true ∧ freB c8 = true ∧ freB c9 = true ∧ freB c10 = true ∧ r = [some (.tuple (ps.map pD), .ow), some (.int u, .ow), some (.int v, .ow), some (.list (S.map eS), s3), c4, c5, some (.list (T'.map eS), .ow), c7, c8, c9, c10] ∧
        (∀ x, x ∈ T' ↔ ∃ y ∈ S, ∃ a, Ext ps y a x) ∧ T'.length ≤ S.length * 9
def tailX : CSs := .cons (.forr (.tup [(.nm 7), (.nm 8)]) (.ofE (.var 3)) true bodyX) (.cons (.set 3 (.var 6)) .nil)
def tail1 : CSs := .cons (.ife (.cmp .NotEq (.var 5) (.lst .nil)) (.cons (.ret (.bi .mins (.cons (.var 5) .nil))) .nil) .nil) (.cons (.set 6 (.lst .nil)) tailX)
def bodyL : CSs := .cons (.set 5 (.comp (.var 7) (.tup [(.nm 7), (.nm 8)]) (.ofE (.var 3)) true (.yes (.cmp .Eq (.idx (.var 8) (.neg (.con (.int 1)))) (.var 2))) [7, 8])) tail1
theorem here_step {v L : Nat} {S : List WS} (hS : SL ps u L S) (hl : S.length ≤ 60000) {s3 : Stt} (h3 : s3 = .ow ∨ s3 = .fz) {c4 c5 c6 c7 c8 c9 c10 : Cell} (h5 : freB c5 = true) (h7 : freB c7 = true) (h8 : freB c8 = true) :
    T (ex call fuel (.set 5 (.comp (.var 7) (.tup [(.nm 7), (.nm 8)]) (.ofE (.var 3)) true (.yes (.cmp .Eq (.idx (.var 8) (.neg (.con (.int 1)))) (.var 2))) [7, 8])) [some (.tuple (ps.map pD), .ow), some (.int u, .ow), some (.int v, .ow), some (.list (S.map eS), s3), c4, c5, c6, c7, c8, c9, c10]) fun q => q.2 = .nx ∧ XH ps u v S c4 c6 c9 c10 q.1 := by
  have hh : (S.filter fun x => decide (x.2.getLast? = some v)).length ≤ 1000000 := by
    have := List.length_filter_le (fun x : WS => decide (x.2.getLast? = some v)) S
    omega
  have eh : (S.filter fun x => decide (x.2.getLast? = some v)).map (fun x : WS => tD x.1) = (hereL v S).map tD := by
    unfold hereL
    rw [List.map_map]
    rfl
  have step : ∀ (x : WS), x ∈ S → ∀ s3 : Stt, T (asg false (.tup [.nm 7, .nm 8]) (eS x) [some (.tuple (ps.map pD), .ow), some (.int u, .ow), some (.int v, .ow), some (.list (S.map eS), s3), c4, c5, c6, none, none, c9, c10]) fun r1 =>
      T (ev call (.cmp .Eq (.idx (.var 8) (.neg (.con (.int 1)))) (.var 2)) r1) (askK fun b => b.1 = decide (x.2.getLast? = some v) ∧ if decide (x.2.getLast? = some v) = true then T ((ev call (.var 7) b.2).bind fun p => keep p.1 p.2) fun y => y.1 = tD x.1 ∧ y.2.1 = true ∧ wipeR y.2.2 [7, 8] = [some (.tuple (ps.map pD), .ow), some (.int u, .ow), some (.int v, .ow), some (.list (S.map eS), s3), c4, c5, c6, none, none, c9, c10]
        else wipeR b.2 [7, 8] = [some (.tuple (ps.map pD), .ow), some (.int u, .ow), some (.int v, .ow), some (.list (S.map eS), s3), c4, c5, c6, none, none, c9, c10]) := fun x hx s3 => by
    obtain ⟨s, l⟩ := (hS x).mp hx
    obtain ⟨h0, hh0⟩ := s.facts.2.2
    have e1 := idx_last hh0
    simp [Cr.start, retO, tyD, takeOpd, backOpd, frz1, endCall, keep, setO, noName, ownD, isListC, isDictC, isDictO, into, small, eS, e1, hh0]
    by_cases q : h0 = v
    · simp [q, Cr.start, retO, tyD, takeOpd, backOpd, frz1, endCall, keep, setO, noName, ownD, isListC, isDictC, isDictO, into, small]
    · have q' : ¬ (h0 : Int) = (v : Int) := by omega
      simp [q, q', Cr.start, retO, tyD, takeOpd, backOpd, frz1, endCall, keep, setO, noName, ownD, isListC, isDictC, isDictO, into, small]
  rcases h3 with rfl | rfl
  · by_cases hi : imms (S.map eS) = true
    · simp [Cr.start, retO, tyD, takeOpd, backOpd, frz1, endCall, keep, setO, noName, ownD, isListC, isDictC, isDictO, into, small, hi, h7, h8]
      refine T_purec (β := WS) eS (fun x => decide (x.2.getLast? = some v)) (fun x => tD x.1) true _ rfl (fun x hx => step x hx .lo) fun r' hr => ?_
      dsimp only
      rw [eh]
      simp [Cr.start, retO, tyD, takeOpd, backOpd, frz1, endCall, keep, setO, noName, ownD, isListC, isDictC, isDictO, into, small, hr, hi, h5, hh, show (hereL v S).length ≤ 1000000 by simpa [hereL] using hh]
      exact ⟨_, _, _, .inl rfl, freB_keep c7, freB_keep c8, rfl⟩
    · simp [Cr.start, retO, tyD, takeOpd, backOpd, frz1, endCall, keep, setO, noName, ownD, isListC, isDictC, isDictO, into, small, hi, h7, h8]
      refine T_purec (β := WS) eS (fun x => decide (x.2.getLast? = some v)) (fun x => tD x.1) true _ rfl (fun x hx => step x hx .fz) fun r' hr => ?_
      dsimp only
      rw [eh]
      simp [Cr.start, retO, tyD, takeOpd, backOpd, frz1, endCall, keep, setO, noName, ownD, isListC, isDictC, isDictO, into, small, hr, hi, h5, hh, show (hereL v S).length ≤ 1000000 by simpa [hereL] using hh]
      exact ⟨_, _, _, .inr rfl, freB_keep c7, freB_keep c8, rfl⟩
  · simp [Cr.start, retO, tyD, takeOpd, backOpd, frz1, endCall, keep, setO, noName, ownD, isListC, isDictC, isDictO, into, small, h7, h8]
    refine T_purec (β := WS) eS (fun x => decide (x.2.getLast? = some v)) (fun x => tD x.1) true _ rfl (fun x hx => step x hx .fz) fun r' hr => ?_
    dsimp only
    rw [eh]
    simp [Cr.start, retO, tyD, takeOpd, backOpd, frz1, endCall, keep, setO, noName, ownD, isListC, isDictC, isDictO, into, small, hr, h5, hh, show (hereL v S).length ≤ 1000000 by simpa [hereL] using hh]
    exact ⟨_, _, _, .inr rfl, freB_keep c7, freB_keep c8, rfl⟩
theorem later_step {v L : Nat} {S : List WS} (hS : SL ps u L S) (hn : ∀ x ∈ S, x.1.length ≤ 100 ∧ x.2.length ≤ 101) (hp9 : ps.length ≤ 9) (hl : S.length ≤ 60000) {s3 : Stt} (h3 : s3 = .ow ∨ s3 = .fz) {c4 c5 c7 c8 c9 c10 : Cell} (h4 : freB c4 = true) (h5 : freB c5 = true) (h7 : freB c7 = true) (h8 : freB c8 = true) (h9 : freB c9 = true) (h10 : freB c10 = true) :
    T (ex call fuel (.forr (.tup [(.nm 7), (.nm 8)]) (.ofE (.var 3)) true bodyX) [some (.tuple (ps.map pD), .ow), some (.int u, .ow), some (.int v, .ow), some (.list (S.map eS), s3), c4, c5, some (.list [], .ow), c7, c8, c9, c10]) fun q => q.2 = .nx ∧ XT ps u v S q.1 := by
  cases hS0 : S with
  | nil =>
    rcases h3 with rfl | rfl
    · simp [Cr.start, retO, tyD, takeOpd, backOpd, frz1, endCall, keep, setO, noName, ownD, isListC, isDictC, isDictO, into, small]
      exact ⟨[], _, _, _, _, _, _, _, .inl rfl, h4, h5, h7, h8, h9, h10, rfl, fun x => by simp, by simp⟩
    · simp [Cr.start, retO, tyD, takeOpd, backOpd, frz1, endCall, keep, setO, noName, ownD, isListC, isDictC, isDictO, into, small]
      exact ⟨[], _, _, _, _, _, _, _, .inr rfl, h4, h5, h7, h8, h9, h10, rfl, fun x => by simp, by simp⟩
  | cons y ys =>
    rw [← hS0]
    have hi : imms (S.map eS) = false := by rw [hS0]; simp [eS]
    have key := wall (call := call) (fuel := fuel) (v := v) hS hn hp9 hl h4 h5 h7 h8 h9 h10
    rcases h3 with rfl | rfl
    · simp [Cr.start, retO, tyD, takeOpd, backOpd, frz1, endCall, keep, setO, noName, ownD, isListC, isDictC, isDictO, into, small, hi]
      refine key.mono fun p hp => ?_
      obtain ⟨r2, f⟩ := p
      obtain ⟨e, T2, c4, c5, c7, c8, c9, c10, h4, h5, h7, h8, h9, h10, e3, hT2, hlen2⟩ := hp
      simp only at e e3
      subst e e3
      simp [Cr.start, retO, tyD, takeOpd, backOpd, frz1, endCall, keep, setO, noName, ownD, isListC, isDictC, isDictO, into, small, hi]
      exact ⟨T2, _, _, _, _, _, _, _, .inr rfl, h4, h5, h7, h8, h9, h10, rfl, hT2, hlen2⟩
    · simp [Cr.start, retO, tyD, takeOpd, backOpd, frz1, endCall, keep, setO, noName, ownD, isListC, isDictC, isDictO, into, small, hi]
      refine key.mono fun p hp => ?_
      obtain ⟨r2, f⟩ := p
      obtain ⟨e, T2, c4, c5, c7, c8, c9, c10, h4, h5, h7, h8, h9, h10, e3, hT2, hlen2⟩ := hp
      simp only at e e3
      subst e e3
      simp [Cr.start, retO, tyD, takeOpd, backOpd, frz1, endCall, keep, setO, noName, ownD, isListC, isDictC, isDictO, into, small, hi]
      exact ⟨T2, _, _, _, _, _, _, _, .inr rfl, h4, h5, h7, h8, h9, h10, rfl, hT2, hlen2⟩
theorem law_walk_ok (hv : Va n ps) (h6 : n ≤ 6) (hp9 : ps.length ≤ 9) {v : Nat} (hu : u < n) : runF call fuel T80.f__law_walk [(.tuple (ps.map pD), .ow), (.int u, .ow), (.int v, .ow)] = some (wD (best ps u v), true, .none) := by
  rw [← T_eq]
  refine T_runF rfl (by simp [T80.f__law_walk]) ?_
  simp [T80.f__law_walk, Cr.start, retO, tyD, takeOpd, backOpd, frz1, endCall, keep, setO, noName, ownD, isListC, isDictC, isDictO, into, small]
  refine ⟨⟨by omega, by omega⟩, ?_⟩
  have et : ((ps.length : Int) + 1).toNat = ps.length + 1 := by omega
  rw [range_map0]
  refine T_forL (body := fun r => exs call fuel bodyL r) (XI ps u v) (fun x xs r h => ?_) ⟨0, [([], [u])], .ow, none, none, none, none, none, none, none, by simp, by simp, .inl rfl, by simp, by simp, by simp, by simp, by simp, by simp, by simp, rfl, sl_start, by simp, fun w _ => Nat.zero_le _⟩ fun r' h => ?_
  · obtain ⟨L, S, s3, c4, c5, c6, c7, c8, c9, c10, hL, him, h3, h4, h5, h6', h7, h8, h9, h10, rfl, hS, hlen, hm⟩ := h
    simp only [imms_cons, Bool.and_eq_true] at him
    simp only [List.length_cons] at hL
    have hb : S.length ≤ 59049 := by
      cases hc : S with
      | nil => simp
      | cons y ys =>
        obtain ⟨s, l⟩ := (hS y).mp (by rw [hc]; simp)
        have := s.short hv hu
        rw [← hc]
        exact Nat.le_trans hlen (pow9 (by omega))
    have hx : ∀ x ∈ S, x.1.length ≤ 100 ∧ x.2.length ≤ 101 := fun x hx => by
      obtain ⟨s, l⟩ := (hS x).mp hx
      have := s.facts.2.1
      have := s.len
      omega
    simp [Cr.start, retO, tyD, takeOpd, backOpd, frz1, endCall, keep, setO, noName, ownD, isListC, isDictC, isDictO, into, small, h4, him.1]
    unfold bodyL
    rw [T_cons]
    refine (here_step hS (by omega) h3 h5 h7 h8).mono fun q hq => ?_
    obtain ⟨r2, f⟩ := q
    obtain ⟨e, s3, c7, c8, h3, h7, h8, e3⟩ := hq
    simp only at e e3
    subst e e3
    have ene : cmpD .NotEq (.list ((hereL v S).map tD)) (.list []) = some (!decide (hereL v S = [])) := by
      rw [cmp_ne_of (n := 2) (sh_list (sh_map fun x _ => sh_tD)) (sh_list fun x hx => by cases hx) (by decide)]
      exact congrArg (fun b => some (!b)) (eqv_ltD (hereL v S) [])
    rw [seqK_nx]
    unfold tail1
    cases hc : hereL v S with
    | cons y ys =>
      rw [hc] at ene
      have eb := here_best hS hm hc
      have em := bi_mins_tD (x := y) (xs := ys)
      simp only [List.map_cons] at ene em
      simp [Cr.start, retO, tyD, takeOpd, backOpd, frz1, endCall, keep, setO, noName, ownD, isListC, isDictC, isDictO, into, small, ene, em]
      rw [eb]
      rfl
    | nil =>
      rw [hc] at ene
      simp only [List.map_nil] at ene
      simp [Cr.start, retO, tyD, takeOpd, backOpd, frz1, endCall, keep, setO, noName, ownD, isListC, isDictC, isDictO, into, small, ene, h6']
      unfold tailX
      rw [T_cons]
      refine (later_step hS hx hp9 (by omega) h3 (by simp) (by simp) h7 h8 h9 h10).mono fun q hq => ?_
      obtain ⟨r2, f⟩ := q
      obtain ⟨e, T', s3, c4, c5, c7, c8, c9, c10, h3, h4, h5, h7, h8, h9, h10, e3, hT, hlen2⟩ := hq
      simp only at e e3
      subst e e3
      have fin : XI ps u v xs [some (.tuple (ps.map pD), .ow), some (.int u, .ow), some (.int v, .ow), some (.list (T'.map eS), .fz), c4, c5, some (.list (T'.map eS), .fz), c7, c8, c9, c10] := by
        refine ⟨L + 1, T', .fz, c4, c5, some (.list (T'.map eS), .fz), c7, c8, c9, c10, by omega, him.2, .inr rfl, h4, h5, by simp, h7, h8, h9, h10, rfl, sl_step hS hT, ?_, fun w hw => ?_⟩
        · rw [Nat.pow_succ]
          omega
        · have := hm w hw
          by_cases c : w.length = L
          · have := here_all hS hm hw c
            rw [hc] at this
            cases this
          · omega
      rcases h3 with rfl | rfl
      · simp [Cr.start, retO, tyD, takeOpd, backOpd, frz1, endCall, keep, setO, noName, ownD, isListC, isDictC, isDictO, into, small, h4]
        exact fin
      · simp [Cr.start, retO, tyD, takeOpd, backOpd, frz1, endCall, keep, setO, noName, ownD, isListC, isDictC, isDictO, into, small, h4]
        exact fin
  · obtain ⟨L, S, s3, c4, c5, c6, c7, c8, c9, c10, hL, him, h3, h4, h5, h6', h7, h8, h9, h10, rfl, hS, hlen, hm⟩ := h
    have hnone : best ps u v = none := best_none fun w hw => by
      obtain ⟨w', q1, q2, _⟩ := short_walk _ (Nat.le_refl _) hw
      have := hm w' q1
      simp only [List.length_nil] at hL
      omega
    simp [Cr.start, retO, tyD, takeOpd, backOpd, frz1, endCall, keep, setO, noName, ownD, isListC, isDictC, isDictO, into, small, hnone]
    rfl
end
end Cv
/-! # K80i: classes in order, arrows turned, sums, texts -/
namespace Cv
open PySem Cr Cw Bfs
section
variable {n : Nat} {ps : List (Nat × Nat)}
theorem rch_refl (u : Nat) : rch ps u u = true := rch_iff.mpr ⟨[], .nil⟩
theorem w_trans {u v x : Nat} {w w' : List Nat} (h : W ps u v w) (h' : W ps v x w') : W ps u x (w ++ w') := by
  induction h' with
  | nil => simpa using h
  | snoc _ e ih => rw [← List.append_assoc]; exact ih.snoc e
theorem rch_trans {u v x : Nat} (h : rch ps u v = true) (h' : rch ps v x = true) : rch ps u x = true := by
  obtain ⟨w, hw⟩ := rch_iff.mp h
  obtain ⟨w', hw'⟩ := rch_iff.mp h'
  exact rch_iff.mpr ⟨_, w_trans hw hw'⟩
theorem swp_swp (ps : List (Nat × Nat)) : swp (swp ps) = ps := by
  unfold swp
  rw [List.map_map]
  have : (Prod.swap ∘ Prod.swap : Nat × Nat → Nat × Nat) = id := funext fun p => by simp
  rw [this, List.map_id]
theorem swp_getElem (ps : List (Nat × Nat)) (a : Nat) : (swp ps)[a]? = (ps[a]?).map Prod.swap := by
  unfold swp
  exact List.getElem?_map
theorem w_swap {u v : Nat} {w : List Nat} (h : W ps u v w) : ∃ w', W (swp ps) v u w' := by
  induction h with
  | nil => exact ⟨[], .nil⟩
  | @snoc h g w a _ e ih =>
    obtain ⟨w', h'⟩ := ih
    have e2 : (swp ps)[a]? = some (g, h) := by rw [swp_getElem, e]; rfl
    have e3 : W (swp ps) g h [a] := W.snoc (w := []) .nil e2
    exact ⟨_, w_trans e3 h'⟩
theorem rch_swap (u v : Nat) : rch (swp ps) u v = rch ps v u := by
  rw [Bool.eq_iff_iff, rch_iff, rch_iff]
  constructor
  · rintro ⟨w, h⟩
    obtain ⟨w', h'⟩ := w_swap h
    rw [swp_swp] at h'
    exact ⟨w', h'⟩
  · rintro ⟨w, h⟩
    exact w_swap h
theorem cls_swap (p : Nat) : cls n (swp ps) p = cls n ps p := by
  unfold cls
  congr 1
  funext o
  rw [rch_swap, rch_swap, Bool.and_comm]
theorem clss_swap : clss n (swp ps) = clss n ps := by
  unfold clss
  congr 2
  funext p
  exact cls_swap p
theorem mem_cls {p o : Nat} : o ∈ cls n ps p ↔ o < n ∧ rch ps p o = true ∧ rch ps o p = true := by
  unfold cls
  simp [List.mem_filter, and_assoc]
theorem cls_same {p q : Nat} (h1 : rch ps p q = true) (h2 : rch ps q p = true) : cls n ps p = cls n ps q := by
  refine rising_ext (se_cls p).rise (se_cls q).rise fun x => ?_
  rw [mem_cls, mem_cls]
  constructor
  · rintro ⟨a, b, c⟩
    exact ⟨a, rch_trans h2 b, rch_trans c h1⟩
  · rintro ⟨a, b, c⟩
    exact ⟨a, rch_trans h1 b, rch_trans c h2⟩
theorem cls_ne {p : Nat} (hp : p < n) : cls n ps p ≠ [] := fun e => by
  have : p ∈ cls n ps p := mem_cls.mpr ⟨hp, rch_refl p, rch_refl p⟩
  rw [e] at this
  cases this
theorem cls_head {p x : Nat} {xs : List Nat} (hp : p < n) (e : cls n ps p = x :: xs) : x ≤ p := by
  have h1 : p ∈ cls n ps p := mem_cls.mpr ⟨hp, rch_refl p, rch_refl p⟩
  have h2 := (se_cls (n := n) (ps := ps) p).rise
  rw [e] at h1 h2
  rcases List.mem_cons.mp h1 with q | q
  · omega
  · have := (List.pairwise_cons.mp h2).1 p q
    omega
theorem clss_sorted_aux : ∀ k, k ≤ n → (once ((List.range k).map (cls n ps))).Pairwise fun a b => llt a b = true
  | 0, _ => by simp [once]
  | k + 1, hk => by
    have ih := clss_sorted_aux k (by omega)
    rw [List.range_succ, List.map_append, List.map_singleton]
    by_cases h : cls n ps k ∈ (List.range k).map (cls n ps)
    · rw [once_old h]
      exact ih
    · rw [once_new h]
      refine List.pairwise_append.mpr ⟨ih, by simp, fun c hc b hb => ?_⟩
      simp only [List.mem_singleton] at hb
      subst hb
      obtain ⟨p, hp, rfl⟩ := List.mem_map.mp (mem_once.mp hc)
      have hp := List.mem_range.mp hp
      cases e1 : cls n ps p with
      | nil => exact absurd e1 (cls_ne (by omega))
      | cons x xs =>
        cases e2 : cls n ps k with
        | nil => exact absurd e2 (cls_ne (by omega))
        | cons y ys =>
          have hx := cls_head (show p < n by omega) e1
          have hy := cls_head (show k < n by omega) e2
          have hyk : y = k := by
            by_cases c : y = k
            · exact c
            · exfalso
              have hy2 : y ∈ cls n ps k := by rw [e2]; simp
              obtain ⟨_, q1, q2⟩ := mem_cls.mp hy2
              exact h (List.mem_map.mpr ⟨y, List.mem_range.mpr (by omega), cls_same q2 q1⟩)
          simp only [llt, Bool.or_eq_true, decide_eq_true_eq]
          exact .inl (by omega)
theorem clss_sorted : sortL (clss n ps) = clss n ps := sortL_id (clss_sorted_aux n (Nat.le_refl _))
/-! ### sums -/
theorem intoL_len (ps : List (Nat × Nat)) (c : List Nat) : (intoL ps c).length = (ps.filter (entB c)).length := by
  unfold intoL
  rw [List.length_map]
  have : ∀ (l : List (Nat × Nat)) (k : Nat), ((l.zipIdx k).filter fun p => entB c p.1).length = (l.filter (entB c)).length := fun l => by
    induction l with
    | nil => intro k; rfl
    | cons x xs ih =>
      intro k
      rw [List.zipIdx_cons]
      cases h : entB c x <;> simp [h, ih]
  exact this ps 0
theorem submod {a b u i : List Nat} (hu : ∀ x, x ∈ u ↔ x ∈ a ∨ x ∈ b) (hi : ∀ x, x ∈ i ↔ x ∈ a ∧ x ∈ b) : ∀ ps : List (Nat × Nat), (ps.filter (entB u)).length + (ps.filter (entB i)).length ≤ (ps.filter (entB a)).length + (ps.filter (entB b)).length
  | [] => by simp
  | (x, y) :: ps => by
    have ih := submod hu hi ps
    have e : ∀ c, (((x, y) :: ps).filter (entB c)).length = (if entB c (x, y) then 1 else 0) + (ps.filter (entB c)).length := fun c => by
      cases h : entB c (x, y) <;> simp [h] <;> omega
    rw [e, e, e, e]
    have key : (if entB u (x, y) then 1 else 0) + (if entB i (x, y) then 1 else 0) ≤ (if entB a (x, y) then 1 else 0) + (if entB b (x, y) then 1 else 0) := by
      unfold entB
      by_cases h1 : x ∈ a <;> by_cases h2 : x ∈ b <;> by_cases h3 : y ∈ a <;> by_cases h4 : y ∈ b <;> simp [hu, hi, h1, h2, h3, h4]
    omega
theorem sub_into {a b u i : List Nat} (hu : ∀ x, x ∈ u ↔ x ∈ a ∨ x ∈ b) (hi : ∀ x, x ∈ i ↔ x ∈ a ∧ x ∈ b) (ps : List (Nat × Nat)) : (intoL ps u).length + (intoL ps i).length ≤ (intoL ps a).length + (intoL ps b).length := by
  rw [intoL_len, intoL_len, intoL_len, intoL_len]
  exact submod hu hi ps
end
/-! ### repr -/
/-- it can be shown: depth, length -/
def Sw (k m : Nat) (d : D) : Prop := d.showable = true ∧ d.hasDict = false ∧ d.depth ≤ k ∧ d.shown.length ≤ m
theorem Sw.ok {k m : Nat} {d : D} (h : Sw k m d) (hk : k ≤ 64) (hm : m ≤ 1000000) : reprOk d = true := by
  unfold reprOk
  rw [h.1, h.2.1, small_of (Nat.le_trans h.2.2.2 hm), decide_eq_true (Nat.le_trans h.2.2.1 hk)]
  rfl
theorem Sw.mono {k k' m m' : Nat} {d : D} (h : Sw k m d) (hk : k ≤ k') (hm : m ≤ m') : Sw k' m' d := ⟨h.1, h.2.1, Nat.le_trans h.2.2.1 hk, Nat.le_trans h.2.2.2 hm⟩
theorem sw_int {k i : Nat} (h : i < 100) : Sw k 2 (.int i) := by
  refine ⟨?_, rfl, by simp [PyData.depth], ?_⟩
  · simp only [PyData.showable, decide_eq_true_eq]
    exact Nat.lt_of_lt_of_le (log2_lt (k := 7) (by simp; omega) (by decide)) (by decide)
  · have : ∀ j : Fin 100, (PyData.shown (.int (j.1 : Nat))).length ≤ 2 := by decide +kernel
    exact this ⟨i, h⟩
theorem sw_none {k : Nat} : Sw k 4 .none := ⟨rfl, rfl, by simp [PyData.depth], by decide +kernel⟩
theorem sw_bool {k : Nat} {b : Bool} : Sw k 5 (.bool b) := ⟨rfl, rfl, by simp [PyData.depth], by cases b <;> decide +kernel⟩
theorem showables {l : List D} (h : ∀ x ∈ l, x.showable = true) : PyData.showableAll l = true := by
  induction l with
  | nil => rfl
  | cons x xs ih => simp [PyData.showableAll, h x (by simp), ih fun y hy => h y (by simp [hy])]
theorem hasDicts {l : List D} (h : ∀ x ∈ l, x.hasDict = false) : PyData.hasDictAll l = false := by
  induction l with
  | nil => rfl
  | cons x xs ih => simp [PyData.hasDictAll, h x (by simp), ih fun y hy => h y (by simp [hy])]
theorem shownAll_map (l : List D) : PyData.shownAll l = l.map PyData.shown := by
  induction l with
  | nil => rfl
  | cons x xs ih => simp [PyData.shownAll, ih]
theorem sum_le {l : List D} {m : Nat} (h : ∀ x ∈ l, x.shown.length ≤ m) : ((PyData.shownAll l).map (·.length)).sum ≤ l.length * m := by
  rw [shownAll_map, List.map_map]
  induction l with
  | nil => simp
  | cons x xs ih =>
    have h1 := h x (by simp)
    have h2 := ih fun y hy => h y (by simp [hy])
    simp only [List.map_cons, List.sum_cons, List.length_cons, Function.comp] at h2 ⊢
    rw [Nat.succ_mul]
    omega
theorem sw_list {k m c : Nat} {l : List D} (h : ∀ x ∈ l, Sw k m x) (hc : l.length ≤ c) : Sw (k + 1) (c * (m + 2) + 3) (.list l) := by
  refine ⟨by simp only [PyData.showable]; exact showables fun x hx => (h x hx).1, by simp only [PyData.hasDict]; exact hasDicts fun x hx => (h x hx).2.1, ?_, ?_⟩
  · simp only [PyData.depth]
    have := depths_le.mpr fun x hx => (h x hx).2.2.1
    omega
  · simp only [PyData.shown]
    have h1 := listText_len_le (PyData.shownAll l)
    have h2 := sum_le fun x hx => (h x hx).2.2.2
    have h3 : (PyData.shownAll l).length = l.length := by rw [shownAll_map, List.length_map]
    have h4 : l.length * (m + 2) ≤ c * (m + 2) := Nat.mul_le_mul_right _ hc
    rw [Nat.mul_add] at h4
    rw [h3] at h1
    omega
theorem sw_tuple {k m c : Nat} {l : List D} (h : ∀ x ∈ l, Sw k m x) (hc : l.length ≤ c) : Sw (k + 1) (c * (m + 2) + 3) (.tuple l) := by
  refine ⟨by simp only [PyData.showable]; exact showables fun x hx => (h x hx).1, by simp only [PyData.hasDict]; exact hasDicts fun x hx => (h x hx).2.1, ?_, ?_⟩
  · simp only [PyData.depth]
    have := depths_le.mpr fun x hx => (h x hx).2.2.1
    omega
  · simp only [PyData.shown]
    have h1 := tupleText_len_le (PyData.shownAll l)
    have h2 := sum_le fun x hx => (h x hx).2.2.2
    have h3 : (PyData.shownAll l).length = l.length := by rw [shownAll_map, List.length_map]
    have h4 : l.length * (m + 2) ≤ c * (m + 2) := Nat.mul_le_mul_right _ hc
    rw [Nat.mul_add] at h4
    rw [h3] at h1
    omega
theorem sw_tD {l : List Nat} (h : ∀ x ∈ l, x < 100) (hc : l.length ≤ 16) : Sw 1 67 (tD l) := (sw_tuple (k := 0) (m := 2) (c := 16) (fun x hx => by
  obtain ⟨y, hy, rfl⟩ := List.mem_map.mp hx
  exact sw_int (h y hy)) (by simpa using hc))
theorem bi_repr {d : D} (h : reprOk d = true) : biD .repr [d] = some (.str d.shown, []) := by
  show (if reprOk d then some (PyData.str d.shown, ([] : List D)) else none) = _
  rw [if_pos h]
theorem bi_sset_tup {l : List Nat} (h : l.length < 64) : biD .sset [tD l] = some (.list (nl (sortN (once l))), nl (sortN (once l))) := by
  show (if decide ((nl l).length < 64) && (intsD (nl l)).isSome then some (PyData.list (sortD (onceD (nl l))), sortD (onceD (nl l))) else none) = _
  have e : onceD (nl l) = nl (once l) := onceD_map (f := fun n : Nat => PyData.int (Int.ofNat n)) (fun a b => by simp [Int.ofNat_inj]) l
  rw [intsD_nl, nl_length, decide_eq_true h, e, sortD_nl]
  rfl
end Cv
/-! # K80j: the law's turn -/
namespace Cv
open PySem Cr Cw Bfs
def law_right_17 : CSs := .cons (.ret (.cmp .Eq (.bi .repr (.cons (.var 1) .nil)) (.var 11))) .nil
def law_right_16 : CSs := .cons (.ife (.orr (.cmp .Lt (.op2 .Add (.idx (.idx (.var 8) (.con (.int 0))) (.con (.int 0))) (.idx (.idx (.var 8) (.con (.int 1))) (.con (.int 0)))) (.op2 .Add (.idx (.idx (.var 8) (.con (.int 2))) (.con (.int 0))) (.idx (.idx (.var 8) (.con (.int 3))) (.con (.int 0))))) (.cmp .Lt (.op2 .Add (.idx (.idx (.var 8) (.con (.int 0))) (.con (.int 1))) (.idx (.idx (.var 8) (.con (.int 1))) (.con (.int 1)))) (.op2 .Add (.idx (.idx (.var 8) (.con (.int 2))) (.con (.int 1))) (.idx (.idx (.var 8) (.con (.int 3))) (.con (.int 1)))))) (.cons (.ret (.con (.bool false)))
    .nil) .nil) (law_right_17)
def law_right_15 : CSs := .cons (.forr (.nm 5) (.ofE (.op2 .Add (.var 7) (.lst (.cons (.var 16) (.cons (.var 17) (.cons (.tup .nil) (.cons (.bi .trng (.cons (.var 9) .nil)) .nil))))))) false (.cons (.par2 20 21 (.call 25 (.cons (.var 10) (.cons (.var 5) .nil))) (.call 26 (.cons (.var 10) (.cons (.var 5) .nil))))
    (.cons (.ife (.cmp .NotEq (.bi .repr (.cons (.lst (.cons (.call 13 (.cons (.var 1) (.cons (.var 5) .nil))) (.cons (.call 14 (.cons (.var 1) (.cons (.var 5) .nil))) .nil))) .nil)) (.bi .repr (.cons (.lst (.cons (.var 20) (.cons (.var 21) .nil))) .nil))) (.cons (.ret (.con (.bool false)))
    .nil) .nil)
    (.cons (.ife (.cmp .NotEq (.bi .repr (.cons (.lst (.cons (.callk 13 [1, 0] (.cons (.var 5) (.cons (.var 1) .nil))) (.cons (.callk 14 [1, 0] (.cons (.var 5) (.cons (.var 1) .nil))) .nil))) .nil)) (.bi .repr (.cons (.lst (.cons (.var 20) (.cons (.var 21) .nil))) .nil))) (.cons (.ret (.con (.bool false)))
    .nil) .nil)
    (.cons (.app 8 (.tup (.cons (.bi .len (.cons (.var 20) .nil)) (.cons (.bi .len (.cons (.var 21) .nil)) .nil))))
    .nil))))) (law_right_16)
def law_right_14 : CSs := .cons (.set 8 (.lst .nil)) (law_right_15)
def law_right_13 : CSs := .cons (.par2 16 17 (.bi .tuple (.cons (.bi .sset (.cons (.op2 .Add (.idx (.var 7) (.con (.int 0))) (.idx (.var 7) (.con (.int 1)))) .nil)) .nil)) (.bi .tuple (.cons (.comp (.var 18) (.nm 18) (.ofE (.idx (.var 7) (.con (.int 0)))) false (.yes (.cmp .In (.var 18) (.idx (.var 7) (.con (.int 1))))) [18]) .nil))) (law_right_14)
def law_right_12 : CSs := .cons (.set 7 (.comp (.bi .tuple (.cons (.comp (.var 18) (.nm 18) (.rng1 (.var 9)) false (.yes (.cmp .Eq (.callp 21 0 (.cons (.con (.int 2)) .nil)) (.con (.int 0)))) [18]) .nil)) (.nm 19) (.rng1 (.con (.int 2))) false .no [19])) (law_right_13)
def law_right_11 : CSs := .cons (.forr (.nm 6) (.rng1 (.var 9)) false (.cons (.set 14 (.callp 21 0 (.cons (.var 9) .nil)))
    (.cons (.set 15 (.call 28 (.cons (.var 10) (.cons (.var 6) (.cons (.var 14) .nil)))))
    (.cons (.ife (.cmp .NotEq (.bi .repr (.cons (.lst (.cons (.call 15 (.cons (.var 1) (.cons (.var 6) (.cons (.var 14) .nil)))) (.cons (.callk 15 [2, 1, 0] (.cons (.var 14) (.cons (.var 6) (.cons (.var 1) .nil)))) .nil))) .nil)) (.bi .repr (.cons (.lst (.cons (.var 15) (.cons (.var 15) .nil))) .nil))) (.cons (.ret (.con (.bool false)))
    .nil) .nil)
    .nil)))) (law_right_12)
def law_right_10 : CSs := .cons (.ife (.cmp .NotEq (.bi .repr (.cons (.lst (.cons (.call 19 (.cons (.var 1) .nil)) (.cons (.callk 19 [0] (.cons (.var 1) .nil)) .nil))) .nil)) (.bi .repr (.cons (.op2 .Mult (.lst (.cons (.cmp .Eq (.bi .len (.cons (.var 3) .nil)) (.con (.int 1))) .nil)) (.con (.int 2))) .nil))) (.cons (.ret (.con (.bool false)))
    .nil) .nil) (law_right_11)
def law_right_9 : CSs := .cons (.ife (.cmp .NotEq (.bi .repr (.cons (.lst (.cons (.callk 16 [0] (.cons (.var 1) .nil)) (.cons (.callk 17 [0] (.cons (.var 1) .nil)) (.cons (.callk 18 [0] (.cons (.var 1) .nil)) .nil)))) .nil)) (.bi .repr (.cons (.lst (.cons (.var 3) (.cons (.var 12) (.cons (.var 13) .nil)))) .nil))) (.cons (.ret (.con (.bool false)))
    .nil) .nil) (law_right_10)
def law_right_8 : CSs := .cons (.spoil 5 4) (law_right_9)
def law_right_7 : CSs := .cons (.ife (.cmp .NotEq (.bi .repr (.cons (.var 4) .nil)) (.bi .repr (.cons (.lst (.cons (.var 3) (.cons (.var 12) (.cons (.var 13) .nil)))) .nil))) (.cons (.ret (.con (.bool false)))
    .nil) .nil) (law_right_8)
def law_right_6 : CSs := .cons (.set 4 (.lst (.cons (.call 16 (.cons (.var 1) .nil)) (.cons (.call 17 (.cons (.var 1) .nil)) (.cons (.call 18 (.cons (.var 1) .nil)) .nil))))) (law_right_7)
def law_right_5 : CSs := .cons (.par2 12 13 (.comp (.var 5) (.nm 5) (.ofE (.var 3)) true (.yes (.cmp .Eq (.call 25 (.cons (.var 10) (.cons (.var 5) .nil))) (.tup .nil))) [5]) (.comp (.var 5) (.nm 5) (.ofE (.var 3)) true (.yes (.cmp .Eq (.call 26 (.cons (.var 10) (.cons (.var 5) .nil))) (.tup .nil))) [5])) (law_right_6)
def law_right_4 : CSs := .cons (.set 3 (.bi .sset (.cons (.comp (.bi .tuple (.cons (.comp (.var 14) (.nm 14) (.ofE (.idx (.var 2) (.var 18))) false (.yes (.cmp .In (.var 18) (.idx (.var 2) (.var 14)))) [14]) .nil)) (.nm 18) (.rng1 (.var 9)) false .no [18]) .nil))) (law_right_5)
def law_right_3 : CSs := .cons (.set 2 (.comp (.call 27 (.cons (.var 10) (.cons (.var 18) .nil))) (.nm 18) (.rng1 (.var 9)) false .no [18])) (law_right_4)
def law_right_2 : CSs := .cons (.unp (.tup [(.nm 9), (.nm 10), (.nm 11)]) (.tup (.cons (.idx (.var 1) (.con (.int 1))) (.cons (.idx (.var 1) (.con (.int 2))) (.cons (.bi .repr (.cons (.var 1) .nil)) .nil))))) (law_right_3)
def law_right_1 : CSs := .cons (.set 1 (.callp 23 0 (.cons (.con (.int 6)) (.cons (.con (.int 9)) .nil)))) (law_right_2)
theorem perm1 (x : Opd) : permD [0] [x] 1 = some [x] := rfl
theorem perm2 (x y : Opd) : permD [1, 0] [x, y] 2 = some [y, x] := rfl
theorem perm3 (x y z : Opd) : permD [2, 1, 0] [x, y, z] 3 = some [z, y, x] := rfl
/-- what is called -/
structure LC (call : CallT) : Prop where
  draw : S_draw call 21
  arrows : ∀ {p : D}, Pot p → T (call 23 [(p, .pn), (.int 6, .ow), (.int 9, .ow)]) fun x => ∃ n ps p', Va n ps ∧ n ≤ 6 ∧ ps.length ≤ 9 ∧ Pot p' ∧ x = (aD n ps, true, p')
  reached : ∀ {n : Nat} {ps : List (Nat × Nat)}, Va n ps → ∀ {u : Nat}, u < n → call 27 [(.tuple (ps.map pD), .ow), (.int u, .ow)] = some (.list (nl (reachedL n ps u)), true, .none)
  classes : ∀ {n : Nat} {ps : List (Nat × Nat)}, Va n ps → call 16 [(aD n ps, .ow)] = some (.list ((clss n ps).map tD), true, .none)
  sources : ∀ {n : Nat} {ps : List (Nat × Nat)}, Va n ps → call 17 [(aD n ps, .ow)] = some (.list (((clss n ps).filter (srcB ps)).map tD), true, .none)
  sinks : ∀ {n : Nat} {ps : List (Nat × Nat)}, Va n ps → call 18 [(aD n ps, .ow)] = some (.list (((clss n (swp ps)).filter (srcB (swp ps))).map tD), true, .none)
  all : ∀ {n : Nat} {ps : List (Nat × Nat)}, Va n ps → call 19 [(aD n ps, .ow)] = some (.bool (decide ((clss n ps).length = 1)), true, .none)
  walk : ∀ {n : Nat} {ps : List (Nat × Nat)}, Va n ps → ∀ {u v : Nat}, u < n → v < n → call 15 [(aD n ps, .ow), (.int u, .ow), (.int v, .ow)] = some (wD (best ps u v), true, .none)
  lwalk : ∀ {n : Nat} {ps : List (Nat × Nat)}, Va n ps → n ≤ 6 → ps.length ≤ 9 → ∀ {u v : Nat}, u < n → call 28 [(.tuple (ps.map pD), .ow), (.int u, .ow), (.int v, .ow)] = some (wD (best ps u v), true, .none)
  into : ∀ {ps : List (Nat × Nat)}, ps.length ≤ 1000 → ∀ xs : List Nat, call 25 [(.tuple (ps.map pD), .ow), (tD xs, .ow)] = some (tD (intoL ps xs), true, .none)
  out : ∀ {ps : List (Nat × Nat)}, ps.length ≤ 1000 → ∀ xs : List Nat, call 26 [(.tuple (ps.map pD), .ow), (tD xs, .ow)] = some (tD (intoL (swp ps) xs), true, .none)
  entering : ∀ {n : Nat} {ps : List (Nat × Nat)}, Va n ps → ∀ {xs : List Nat}, Se n xs → call 13 [(aD n ps, .ow), (tD xs, .ow)] = some (tD (intoL ps xs), true, .none)
  leaving : ∀ {n : Nat} {ps : List (Nat × Nat)}, Va n ps → ∀ {xs : List Nat}, Se n xs → call 14 [(aD n ps, .ow), (tD xs, .ow)] = some (tD (intoL (swp ps) xs), true, .none)
section
variable {call : CallT} {fuel : Nat} {n : Nat} {ps : List (Nat × Nat)}
theorem sw_aD (hv : Va n ps) : Sw 3 1000 (aD n ps) := by
  have h1 : Sw 0 10 (.str "arrows") := ⟨rfl, rfl, by simp [PyData.depth], by decide +kernel⟩
  have h2 : Sw 2 300 (.tuple (ps.map pD)) := (sw_tuple (k := 1) (m := 11) (c := 16) (fun x hx => by
    obtain ⟨y, hy, rfl⟩ := List.mem_map.mp hx
    have a := hv.near y hy
    have b := hv.far y hy
    have := hv.n7
    refine (sw_tuple (k := 0) (m := 2) (c := 2) (fun z hz => ?_) (by simp)).mono (by decide) (by decide)
    simp only [List.mem_cons, List.not_mem_nil, or_false] at hz
    rcases hz with rfl | rfl
    · exact sw_int (by omega)
    · exact sw_int (by omega)) (by simpa using hv.len)).mono (by decide) (by decide)
  refine (sw_tuple (k := 2) (m := 300) (c := 3) (fun z hz => ?_) (by simp)).mono (by decide) (by decide)
  simp only [List.mem_cons, List.not_mem_nil, or_false] at hz
  rcases hz with rfl | rfl | rfl
  · exact h1.mono (by decide) (by decide)
  · exact (sw_int (by have := hv.n7; omega)).mono (Nat.le_refl 2) (by decide)
  · exact h2.mono (by decide) (by decide)
theorem lr2 (hv : Va n ps) {p : D} {Q : Rho × Fl → Prop}
    (k : T (exs call fuel law_right_3 [some (p, .pn), some (aD n ps, .ow), none, none, none, none, none, none, none, some (.int n, .ow), some (.tuple (ps.map pD), .ow), some (.str (aD n ps).shown, .ow), none, none, none, none, none, none, none, none, none, none]) Q) :
    T (exs call fuel law_right_2 [some (p, .pn), some (aD n ps, .ow), none, none, none, none, none, none, none, none, none, none, none, none, none, none, none, none, none, none, none, none]) Q := by
  unfold law_right_2
  have h0 : idxD (aD n ps) (.int 2) = some (.tuple (ps.map pD)) := by simp [aD]
  have h1 : idxD (aD n ps) (.int 1) = some (.int n) := by simp [aD]
  simp [Cr.start, retO, tyD, takeOpd, backOpd, frz1, endCall, keep, setO, noName, ownD, isListC, isDictC, isDictO, into, small, h0, h1, bi_repr ((sw_aD hv).ok (by decide) (by decide))]
  exact k
theorem lr3 (hc : LC call) (hv : Va n ps) {p : D} {sh : Str} {Q : Rho × Fl → Prop}
    (k : T (exs call fuel law_right_4 [some (p, .pn), some (aD n ps, .ow), some (.list ((List.range n).map fun u => .list (nl (reachedL n ps u))), .ow), none, none, none, none, none, none, some (.int n, .ow), some (.tuple (ps.map pD), .ow), some (.str sh, .ow), none, none, none, none, none, none, none, none, none, none]) Q) :
    T (exs call fuel law_right_3 [some (p, .pn), some (aD n ps, .ow), none, none, none, none, none, none, none, some (.int n, .ow), some (.tuple (ps.map pD), .ow), some (.str sh, .ow), none, none, none, none, none, none, none, none, none, none]) Q := by
  unfold law_right_3
  have hn := hv.n7
  simp [Cr.start, retO, tyD, takeOpd, backOpd, frz1, endCall, keep, setO, noName, ownD, isListC, isDictC, isDictO, into, small, show (n : Int) ≤ 100000 by omega, show (-100000 : Int) ≤ n by omega, range_map0]
  refine T_pure0 (β := Nat) (fun n => PyData.int (Int.ofNat n)) (fun u => .list (nl (reachedL n ps u))) true _ rfl (fun x hx => ?_) fun r' hr => ?_
  · have e := hc.reached hv (List.mem_range.mp hx)
    simp [Cr.start, retO, tyD, takeOpd, backOpd, frz1, endCall, keep, setO, noName, ownD, isListC, isDictC, isDictO, into, small, e]
  · dsimp only
    simp [Cr.start, retO, tyD, takeOpd, backOpd, frz1, endCall, keep, setO, noName, ownD, isListC, isDictC, isDictO, into, small, hr, show n ≤ 1000000 by omega]
    exact k
theorem cls_filter {u : Nat} (hu : u < n) : (reachedL n ps u).filter (fun o => decide (u ∈ reachedL n ps o)) = cls n ps u := by
  unfold reachedL cls
  rw [List.filter_filter]
  refine List.filter_congr fun o ho => ?_
  have : decide (u ∈ (List.range n).filter (rch ps o)) = rch ps o u := by
    rw [Bool.eq_iff_iff, decide_eq_true_eq, List.mem_filter, List.mem_range]
    exact ⟨fun h => h.2, fun h => ⟨hu, h⟩⟩
  rw [this, Bool.and_comm]
theorem lr4 (hv : Va n ps) {p : D} {sh : Str} {Q : Rho × Fl → Prop}
    (k : ∀ s2 : Stt, freB (some (.none, s2)) = true → T (exs call fuel law_right_5 [some (p, .pn), some (aD n ps, .ow), some (.list ((List.range n).map fun u => .list (nl (reachedL n ps u))), s2), some (.list ((clss n ps).map tD), .ow), none, none, none, none, none, some (.int n, .ow), some (.tuple (ps.map pD), .ow), some (.str sh, .ow), none, none, none, none, none, none, none, none, none, none]) Q) :
    T (exs call fuel law_right_4 [some (p, .pn), some (aD n ps, .ow), some (.list ((List.range n).map fun u => .list (nl (reachedL n ps u))), .ow), none, none, none, none, none, none, some (.int n, .ow), some (.tuple (ps.map pD), .ow), some (.str sh, .ow), none, none, none, none, none, none, none, none, none, none]) Q := by
  unfold law_right_4
  have hn := hv.n7
  have hlast : ∀ s2 : Stt, (s2 = .ow ∨ s2 = .fz) → freB (some (.none, s2)) = true := fun s2 h => by rcases h with rfl | rfl <;> simp
  simp [Cr.start, retO, tyD, takeOpd, backOpd, frz1, endCall, keep, setO, noName, ownD, isListC, isDictC, isDictO, into, small, show (n : Int) ≤ 100000 by omega, show (-100000 : Int) ≤ n by omega, range_map0]
  refine T_pureP0 (β := Nat) (fun n => PyData.int (Int.ofNat n)) (fun u => tD (cls n ps u)) true
    (fun r => ∃ s2 : Stt, (s2 = .ow ∨ s2 = .fz) ∧ r = [some (p, .pn), some (aD n ps, .ow), some (.list ((List.range n).map fun u => .list (nl (reachedL n ps u))), s2), none, none, none, none, none, none, some (.int n, .ow), some (.tuple (ps.map pD), .ow), some (.str sh, .ow), none, none, none, none, none, none, none, none, none, none])
    ⟨.ow, .inl rfl, rfl⟩ (fun u hu r0 hr0 => ?_) fun r' hr' => ?_
  · obtain ⟨s2, h2, rfl⟩ := hr0
    have hu' := List.mem_range.mp hu
    have g1 : idxD (.list ((List.range n).map fun u => PyData.list (nl (reachedL n ps u)))) (.int u) = some (.list (nl (reachedL n ps u))) := idx_l (by simp [hu'])
    have inner : ∀ s2 : Stt, (s2 = .ow ∨ s2 = .fz) → ∀ Q : List D × Bool × Rho → Prop, (∀ r' s2, (s2 = .ow ∨ s2 = .fz) → wipeR r' [14] = [some (p, .pn), some (aD n ps, .ow), some (.list ((List.range n).map fun u => .list (nl (reachedL n ps u))), s2), none, none, none, none, none, none, some (.int n, .ow), some (.tuple (ps.map pD), .ow), some (.str sh, .ow), none, none, none, none, none, none, some (.int u, .ow), none, none, none] →
        Q (nl (cls n ps u), true, r')) →
        T (loopT (fun r => (ev call (.var 14) r).bind fun p => keep p.1 p.2) (fun r => evc call (.yes (.cmp .In (.var 18) (.idx (.var 2) (.var 14)))) r) (asg false (.nm 14)) [14] (nl (reachedL n ps u)) [some (p, .pn), some (aD n ps, .ow), some (.list ((List.range n).map fun u => .list (nl (reachedL n ps u))), s2), none, none, none, none, none, none, some (.int n, .ow), some (.tuple (ps.map pD), .ow), some (.str sh, .ow), none, none, none, none, none, none, some (.int u, .ow), none, none, none] [] true) Q := fun s2 h2 Q hQ => by
      refine T_pureP (β := Nat) (fun n => PyData.int (Int.ofNat n)) (fun o => decide (u ∈ reachedL n ps o)) (fun o => .int (Int.ofNat o)) true
        (fun r => ∃ s2 : Stt, (s2 = .ow ∨ s2 = .fz) ∧ r = [some (p, .pn), some (aD n ps, .ow), some (.list ((List.range n).map fun u => .list (nl (reachedL n ps u))), s2), none, none, none, none, none, none, some (.int n, .ow), some (.tuple (ps.map pD), .ow), some (.str sh, .ow), none, none, none, none, none, none, some (.int u, .ow), none, none, none])
        ⟨s2, h2, rfl⟩ (fun o ho r0 hr0 => ?_) fun r' hr' => ?_
      · obtain ⟨s2, h2, rfl⟩ := hr0
        have ho' : o < n := by
          have := (List.mem_filter.mp ho).1
          exact List.mem_range.mp this
        have g2 : idxD (.list ((List.range n).map fun u => PyData.list (nl (reachedL n ps u)))) (.int o) = some (.list (nl (reachedL n ps o))) := idx_l (by simp [ho'])
        rcases h2 with rfl | rfl
        · simp [Cr.start, retO, tyD, takeOpd, backOpd, frz1, endCall, keep, setO, noName, ownD, isListC, isDictC, isDictO, into, small, g2, fin]
        · simp [Cr.start, retO, tyD, takeOpd, backOpd, frz1, endCall, keep, setO, noName, ownD, isListC, isDictC, isDictO, into, small, g2, fin]
      · obtain ⟨s3, h3, e3⟩ := hr'
        rw [cls_filter hu']
        exact hQ r' s3 h3 e3
    have hcl : (cls n ps u).length ≤ 1000000 := by
      have := (se_cls (n := n) (ps := ps) u).len
      omega
    rcases h2 with rfl | rfl
    · simp [Cr.start, retO, tyD, takeOpd, backOpd, frz1, endCall, keep, setO, noName, ownD, isListC, isDictC, isDictO, into, small, g1, fin]
      refine inner .fz (.inr rfl) _ fun r' s2 h2 e => ?_
      simp [Cr.start, retO, tyD, takeOpd, backOpd, frz1, endCall, keep, setO, noName, ownD, isListC, isDictC, isDictO, into, small, e, hcl]
      exact h2
    · simp [Cr.start, retO, tyD, takeOpd, backOpd, frz1, endCall, keep, setO, noName, ownD, isListC, isDictC, isDictO, into, small, g1, fin]
      refine inner .fz (.inr rfl) _ fun r' s2 h2 e => ?_
      simp [Cr.start, retO, tyD, takeOpd, backOpd, frz1, endCall, keep, setO, noName, ownD, isListC, isDictC, isDictO, into, small, e, hcl]
      exact h2
  · obtain ⟨s2, h2, e⟩ := hr'
    have em : (List.range n).map (fun u => tD (cls n ps u)) = ((List.range n).map (cls n ps)).map tD := by rw [List.map_map]; rfl
    have es := bi_sset_tD (l := (List.range n).map (cls n ps)) (by simp; omega) fun x hx => by
      obtain ⟨u, hu, rfl⟩ := List.mem_map.mp hx
      exact cls_ne (List.mem_range.mp hu)
    rw [show once ((List.range n).map (cls n ps)) = clss n ps from rfl, clss_sorted] at es
    simp only [List.map_map] at es
    dsimp only
    rw [em]
    simp [Cr.start, retO, tyD, takeOpd, backOpd, frz1, endCall, keep, setO, noName, ownD, isListC, isDictC, isDictO, into, small, e, es, show n ≤ 1000000 by omega, fin_top]
    exact k s2 (hlast s2 h2)
theorem lr5 (hc : LC call) (hv : Va n ps) {p d2 : D} {s2 : Stt} {sh : Str} {Q : Rho × Fl → Prop}
    (k : T (exs call fuel law_right_6 [some (p, .pn), some (aD n ps, .ow), some (d2, s2), some (.list ((clss n ps).map tD), .ow), none, none, none, none, none, some (.int n, .ow), some (.tuple (ps.map pD), .ow), some (.str sh, .ow), some (.list (((clss n ps).filter (srcB ps)).map tD), .ow), some (.list (((clss n ps).filter (srcB (swp ps))).map tD), .ow), none, none, none, none, none, none, none, none]) Q) :
    T (exs call fuel law_right_5 [some (p, .pn), some (aD n ps, .ow), some (d2, s2), some (.list ((clss n ps).map tD), .ow), none, none, none, none, none, some (.int n, .ow), some (.tuple (ps.map pD), .ow), some (.str sh, .ow), none, none, none, none, none, none, none, none, none, none]) Q := by
  unfold law_right_5
  have hl : ps.length ≤ 1000 := by have := hv.len; omega
  have hlen : ∀ f : List Nat → Bool, ((clss n ps).filter f).length ≤ 1000000 := fun f => by
    have := List.length_filter_le f (clss n ps)
    have := clss_len n ps
    have := hv.n7
    omega
  have ee : ∀ a : List Nat, cmpD .Eq (tD a) (.tuple []) = some (decide (a = [])) := fun a => by
    rw [cmp_eq_of (n := 1) sh_tD (sh_tuple fun x hx => by cases hx) (by decide)]
    exact congrArg some (eqv_tD a [])
  have d1 : ∀ a, decide (intoL ps a = []) = srcB ps a := fun a => by rw [Bool.eq_iff_iff, decide_eq_true_eq, intoL_nil]
  have d2 : ∀ a, decide (intoL (swp ps) a = []) = srcB (swp ps) a := fun a => by rw [Bool.eq_iff_iff, decide_eq_true_eq, intoL_nil]
  simp [Cr.start, retO, tyD, takeOpd, backOpd, frz1, endCall, keep, setO, noName, ownD, isListC, isDictC, isDictO, into, small]
  refine T_purec (β := List Nat) tD (srcB ps) tD true _ rfl (fun x hx => ?_) fun r' hr => ?_
  · simp [Cr.start, retO, tyD, takeOpd, backOpd, frz1, endCall, keep, setO, noName, ownD, isListC, isDictC, isDictO, into, small, hc.into hl x, ee, d1]
  · dsimp only
    simp [Cr.start, retO, tyD, takeOpd, backOpd, frz1, endCall, keep, setO, noName, ownD, isListC, isDictC, isDictO, into, small, hr, hlen]
    refine T_purec (β := List Nat) tD (srcB (swp ps)) tD true _ rfl (fun x hx => ?_) fun r' hr => ?_
    · simp [Cr.start, retO, tyD, takeOpd, backOpd, frz1, endCall, keep, setO, noName, ownD, isListC, isDictC, isDictO, into, small, hc.out hl x, ee, d2]
    · dsimp only
      simp [Cr.start, retO, tyD, takeOpd, backOpd, frz1, endCall, keep, setO, noName, ownD, isListC, isDictC, isDictO, into, small, hr, hlen]
      exact k
noncomputable def toldD (n : Nat) (ps : List (Nat × Nat)) : D := .list [.list ((clss n ps).map tD), .list (((clss n ps).filter (srcB ps)).map tD), .list (((clss n ps).filter (srcB (swp ps))).map tD)]
theorem sw_lists (hv : Va n ps) (f : List Nat → Bool) : Sw 2 700 (.list (((clss n ps).filter f).map tD)) := (sw_list (k := 1) (m := 67) (c := 7) (fun x hx => by
  obtain ⟨y, hy, rfl⟩ := List.mem_map.mp hx
  have hs := se_clss (List.mem_filter.mp hy).1
  have := hv.n7
  exact sw_tD (fun z hz => by have := hs.bd z hz; omega) (by have := hs.len; omega)) (by
  rw [List.length_map]
  have := List.length_filter_le f (clss n ps)
  have := clss_len n ps
  have := hv.n7
  omega)).mono (by decide) (by decide)
theorem sw_told (hv : Va n ps) : Sw 3 3000 (toldD n ps) := (sw_list (k := 2) (m := 700) (c := 3) (fun x hx => by
  simp only [List.mem_cons, List.not_mem_nil, or_false] at hx
  rcases hx with rfl | rfl | rfl
  · have := sw_lists hv fun _ => true
    rwa [List.filter_eq_self.mpr fun _ _ => rfl] at this
  · exact sw_lists hv _
  · exact sw_lists hv _) (by simp)).mono (by decide) (by decide)
theorem lr6 (hc : LC call) (hv : Va n ps) {p d2 : D} {s2 : Stt} {sh : Str} {Q : Rho × Fl → Prop}
    (k : T (exs call fuel law_right_9 [some (p, .pn), some (aD n ps, .ow), some (d2, s2), some (.list ((clss n ps).map tD), .fz), none, none, none, none, none, some (.int n, .ow), some (.tuple (ps.map pD), .ow), some (.str sh, .ow), some (.list (((clss n ps).filter (srcB ps)).map tD), .fz), some (.list (((clss n ps).filter (srcB (swp ps))).map tD), .fz), none, none, none, none, none, none, none, none]) Q) :
    T (exs call fuel law_right_6 [some (p, .pn), some (aD n ps, .ow), some (d2, s2), some (.list ((clss n ps).map tD), .ow), none, none, none, none, none, some (.int n, .ow), some (.tuple (ps.map pD), .ow), some (.str sh, .ow), some (.list (((clss n ps).filter (srcB ps)).map tD), .ow), some (.list (((clss n ps).filter (srcB (swp ps))).map tD), .ow), none, none, none, none, none, none, none, none]) Q := by
  have e1 := hc.classes hv
  have e2 := hc.sources hv
  have e3 := hc.sinks hv
  rw [clss_swap] at e3
  have er := bi_repr ((sw_told hv).ok (by decide) (by decide))
  have l1 : ∀ f : List Nat → Bool, ((clss n ps).filter f).length ≤ 1000000 := fun f => by
    have := List.length_filter_le f (clss n ps)
    have := clss_len n ps
    have := hv.n7
    omega
  have l2 : (clss n ps).length ≤ 1000000 := by
    have := clss_len n ps
    have := hv.n7
    omega
  unfold toldD at er
  unfold law_right_6
  simp [Cr.start, retO, tyD, takeOpd, backOpd, frz1, endCall, keep, setO, noName, ownD, isListC, isDictC, isDictO, into, small, aD_imm, e1, e2, e3]
  unfold law_right_7
  simp [Cr.start, retO, tyD, takeOpd, backOpd, frz1, endCall, keep, setO, noName, ownD, isListC, isDictC, isDictO, into, small, er]
  unfold law_right_8
  simp [Cr.start, retO, tyD, takeOpd, backOpd, frz1, endCall, keep, setO, noName, ownD, isListC, isDictC, isDictO, into, small, ex]
  exact ⟨⟨l2, l1 _, l1 _⟩, k⟩
theorem lr9 (hc : LC call) (hv : Va n ps) {p d2 : D} {s2 : Stt} {sh : Str} {Q : Rho × Fl → Prop}
    (k : T (exs call fuel law_right_11 [some (p, .pn), some (aD n ps, .ow), some (d2, s2), some (.list ((clss n ps).map tD), .fz), none, none, none, none, none, some (.int n, .ow), some (.tuple (ps.map pD), .ow), some (.str sh, .ow), some (.list (((clss n ps).filter (srcB ps)).map tD), .fz), some (.list (((clss n ps).filter (srcB (swp ps))).map tD), .fz), none, none, none, none, none, none, none, none]) Q) :
    T (exs call fuel law_right_9 [some (p, .pn), some (aD n ps, .ow), some (d2, s2), some (.list ((clss n ps).map tD), .fz), none, none, none, none, none, some (.int n, .ow), some (.tuple (ps.map pD), .ow), some (.str sh, .ow), some (.list (((clss n ps).filter (srcB ps)).map tD), .fz), some (.list (((clss n ps).filter (srcB (swp ps))).map tD), .fz), none, none, none, none, none, none, none, none]) Q := by
  have e1 := hc.classes hv
  have e2 := hc.sources hv
  have e3 := hc.sinks hv
  have e4 := hc.all hv
  rw [clss_swap] at e3
  have er := bi_repr ((sw_told hv).ok (by decide) (by decide))
  unfold toldD at er
  have eb : ∀ b : Bool, biD .repr [.list [.bool b, .bool b]] = some (.str (PyData.shown (.list [.bool b, .bool b])), []) := fun b => bi_repr (((sw_list (k := 0) (m := 5) (c := 2) (fun x hx => by
    simp only [List.mem_cons, List.not_mem_nil, or_false, or_self] at hx
    subst hx
    exact sw_bool) (by simp)) : Sw 1 17 (.list [.bool b, .bool b])).ok (by decide) (by decide))
  have em : ∀ b : Bool, opD .Mult (.list [.bool b]) (.int 2) = some (.list [.bool b, .bool b], [.bool b, .bool b]) := fun b => rfl
  have el : decide (((clss n ps).length : Int) = 1) = decide ((clss n ps).length = 1) := by
    rw [Bool.eq_iff_iff, decide_eq_true_eq, decide_eq_true_eq]
    omega
  unfold law_right_9
  simp [Cr.start, retO, tyD, takeOpd, backOpd, frz1, endCall, keep, setO, noName, ownD, isListC, isDictC, isDictO, into, small, aD_imm, e1, e2, e3, perm1, perm2, perm3, er]
  unfold law_right_10
  simp [Cr.start, retO, tyD, takeOpd, backOpd, frz1, endCall, keep, setO, noName, ownD, isListC, isDictC, isDictO, into, small, aD_imm, e4, perm1, perm2, perm3, em, eb, el, fin_top]
  exact k
/-- the state from the eleventh statement on -/
def stB (n : Nat) (ps : List (Nat × Nat)) (sh : Str) (c2 c3 c12 c13 : Cell) (p : D) (c5 c6 c7 c8 c14 c15 c16 c17 c20 c21 : Cell) : Rho :=
  [some (p, .pn), some (aD n ps, .ow), c2, c3, none, c5, c6, c7, c8, some (.int n, .ow), some (.tuple (ps.map pD), .ow), some (.str sh, .ow), c12, c13, c14, c15, c16, c17, none, none, c20, c21]
theorem best_small (hv : Va n ps) {u v : Nat} {w : List Nat} (h : best ps u v = some w) : w.length ≤ 16 ∧ ∀ x ∈ w, x < 100 := by
  have hb := best_iff.mp h
  obtain ⟨seen, s, _⟩ := hb.sw
  have := hv.len
  refine ⟨by have := hb.len; omega, fun x hx => ?_⟩
  obtain ⟨a, b, e, _⟩ := s.nodup.2 x hx
  have := (List.getElem?_eq_some_iff.mp e).1
  omega
theorem sw_best (hv : Va n ps) (u v : Nat) : Sw 1 67 (wD (best ps u v)) := by
  cases h : best ps u v with
  | none => exact sw_none.mono (Nat.le_refl 1) (by decide)
  | some w =>
    obtain ⟨h1, h2⟩ := best_small hv h
    exact sw_tD h2 h1
def WB (n : Nat) (ps : List (Nat × Nat)) (sh : Str) (c2 c3 c12 c13 : Cell) (xs : List D) (r : Rho) : Prop :=
  ∃ (b : List Nat) (p : D) (c6 c14 c15 : Cell), (∀ x ∈ b, x < n) ∧ xs = nl b ∧ Pot p ∧ freB c6 = true ∧ freB c14 = true ∧ freB c15 = true ∧ r = stB n ps sh c2 c3 c12 c13 p none c6 none none c14 c15 none none none none
theorem lr11 (hc : LC call) (hv : Va n ps) (h6 : n ≤ 6) (h9 : ps.length ≤ 9) {c2 c3 c12 c13 : Cell} {sh : Str} {p : D} (hp : Pot p) {Q : Rho × Fl → Prop}
    (k : ∀ p c6 c14 c15, Pot p → freB c6 = true → freB c14 = true → freB c15 = true → T (exs call fuel law_right_12 (stB n ps sh c2 c3 c12 c13 p none c6 none none c14 c15 none none none none)) Q) :
    T (exs call fuel law_right_11 (stB n ps sh c2 c3 c12 c13 p none none none none none none none none none none)) Q := by
  unfold law_right_11 stB
  have hn : (n : Int) ≤ 100000 := by omega
  have hn2 : (-100000 : Int) ≤ n := by omega
  simp [Cr.start, retO, tyD, takeOpd, backOpd, frz1, endCall, keep, setO, noName, ownD, isListC, isDictC, isDictO, into, small, hn, hn2, range_map0]
  refine T_forL (WB n ps sh c2 c3 c12 c13) (fun x xs r h => ?_) ⟨List.range n, p, none, none, none, fun x hx => List.mem_range.mp hx, rfl, hp, by simp, by simp, by simp, rfl⟩ fun r' h => ?_
  · obtain ⟨b, p, c6, c14, c15, hb, e, hp, h6', h14, h15, rfl⟩ := h
    cases b with
    | nil => cases e
    | cons u b =>
      rw [nl_cons] at e
      cases e
      have hu := hb u (by simp)
      unfold stB
      simp [Cr.start, retO, tyD, takeOpd, backOpd, frz1, endCall, keep, setO, noName, ownD, isListC, isDictC, isDictO, into, small, h6']
      refine (hc.draw hp (m := n) hv.pos (by omega)).mono fun y hy => ?_
      obtain ⟨v, hv', p2, hp2, rfl⟩ := hy
      have e1 := hc.walk hv hu hv'
      have e2 := hc.lwalk hv h6 h9 (v := v) hu
      have er := bi_repr (((sw_list (k := 1) (m := 67) (c := 2) (l := [wD (best ps u v), wD (best ps u v)]) (fun x hx => by
        simp only [List.mem_cons, List.not_mem_nil, or_false, or_self] at hx
        subst hx
        exact sw_best hv u v) (by simp)) : Sw 2 141 _).ok (by decide) (by decide))
      simp [Cr.start, retO, tyD, takeOpd, backOpd, frz1, endCall, keep, setO, noName, ownD, isListC, isDictC, isDictO, into, small, h14, h15, e1, e2, wD_imm, aD_imm, perm1, perm2, perm3, er]
      exact ⟨b, p2, _, _, _, fun x hx => hb x (by simp [hx]), rfl, hp2, by simp, by simp, by simp, rfl⟩
  · obtain ⟨b, p, c6, c14, c15, hb, e, hp, h6', h14, h15, rfl⟩ := h
    simp
    exact k p c6 c14 c15 hp h6' h14 h15
end
end Cv
/-! # K80k: the law's turn, the sets -/
namespace Cv
open PySem Cr Cw Bfs
section
variable {call : CallT} {fuel : Nat} {n : Nat} {ps : List (Nat × Nat)}
/-- in the inner comprehension: places ahead, places taken -/
def LI (n : Nat) (st : D → Cell → Rho) (xs acc : List D) (r : Rho) : Prop :=
  ∃ (a b : List Nat) (p : D) (c : Cell), xs = nl b ∧ acc = nl a ∧ a.Pairwise (· < ·) ∧ (∀ x ∈ a, x < n) ∧ b.Pairwise (· < ·) ∧ (∀ x ∈ b, x < n) ∧ (∀ x ∈ a, ∀ y ∈ b, x < y) ∧ Pot p ∧ freB c = true ∧ r = st p c
def LO (n : Nat) (st : D → Cell → Rho) (xs acc : List D) (r : Rho) : Prop :=
  ∃ (A : List (List Nat)) (p : D) (c : Cell), acc = A.map tD ∧ (∀ a ∈ A, Se n a) ∧ imms xs = true ∧ A.length + xs.length = 2 ∧ Pot p ∧ freB c = true ∧ r = st p c
theorem lr12 (hc : LC call) (hv : Va n ps) {c2 c3 c6 c12 c13 c14 c15 : Cell} (h6 : freB c6 = true) (h14 : freB c14 = true) (h15 : freB c15 = true) {sh : Str} {p : D} (hp : Pot p) {Q : Rho × Fl → Prop}
    (k : ∀ p a b, Pot p → Se n a → Se n b → T (exs call fuel law_right_13 (stB n ps sh c2 c3 c12 c13 p none c6 (some (.list [tD a, tD b], .ow)) none c14 c15 none none none none)) Q) :
    T (exs call fuel law_right_12 (stB n ps sh c2 c3 c12 c13 p none c6 none none c14 c15 none none none none)) Q := by
  unfold law_right_12 stB
  have h7 := hv.n7
  have hn : (n : Int) ≤ 100000 := by omega
  have hn2 : (-100000 : Int) ≤ n := by omega
  simp [Cr.start, retO, tyD, takeOpd, backOpd, frz1, endCall, keep, setO, noName, ownD, isListC, isDictC, isDictO, into, small]
  refine T_loopC (LO n fun p c => [some (p, .pn), some (aD n ps, .ow), c2, c3, none, none, c6, none, none, some (.int n, .ow), some (.tuple (ps.map pD), .ow), some (.str sh, .ow), c12, c13, c14, c15, none, none, none, c, none, none]) (fun x xs acc r h => ?_) ⟨[], p, none, rfl, (fun a ha => by cases ha), by simp [intRange], rfl, hp, by simp, rfl⟩ fun acc r' h => ?_
  · obtain ⟨A, p, c, rfl, hA, him, hl, hp, hc', rfl⟩ := h
    simp only [imms_cons, Bool.and_eq_true] at him
    simp [Cr.start, retO, tyD, takeOpd, backOpd, frz1, endCall, keep, setO, noName, ownD, isListC, isDictC, isDictO, into, small, hn, hn2, range_map0, him.1]
    refine T_loopC (LI n fun p c => [some (p, .pn), some (aD n ps, .ow), c2, c3, none, none, c6, none, none, some (.int n, .ow), some (.tuple (ps.map pD), .ow), some (.str sh, .ow), c12, c13, c14, c15, none, none, c, some (x, .ow), none, none]) (fun y ys acc r h => ?_) ⟨[], List.range n, p, none, rfl, rfl, by simp, by simp, List.pairwise_lt_range, fun x hx => List.mem_range.mp hx, by simp, hp, by simp, rfl⟩ fun acc r' h => ?_
    · obtain ⟨a, b, p, c, e, rfl, ha1, ha2, hb1, hb2, hab, hp, hc', rfl⟩ := h
      cases b with
      | nil => cases e
      | cons z b =>
        rw [nl_cons] at e
        cases e
        have hb1' := List.pairwise_cons.mp hb1
        have hd := hc.draw hp (m := 2) (by decide) (by decide)
        rw [show ((2 : Nat) : Int) = 2 from rfl] at hd
        simp [Cr.start, retO, tyD, takeOpd, backOpd, frz1, endCall, keep, setO, noName, ownD, isListC, isDictC, isDictO, into, small]
        refine hd.mono fun w hw => ?_
        obtain ⟨j, hj, p2, hp2, rfl⟩ := hw
        simp [Cr.start, retO, tyD, takeOpd, backOpd, frz1, endCall, keep, setO, noName, ownD, isListC, isDictC, isDictO, into, small]
        by_cases hj0 : j = 0
        · subst hj0
          simp [Cr.start, retO, tyD, takeOpd, backOpd, frz1, endCall, keep, setO, noName, ownD, isListC, isDictC, isDictO, into, small]
          refine ⟨a ++ [z], b, p2, some (.int z, .ow), rfl, by simp, List.pairwise_append.mpr ⟨ha1, by simp, fun x hx y hy => ?_⟩, fun x hx => ?_, hb1'.2, fun x hx => hb2 x (by simp [hx]), fun x hx y hy => ?_, hp2, by simp, rfl⟩
          · simp only [List.mem_singleton] at hy
            subst hy
            exact hab x hx _ (by simp)
          · rcases List.mem_append.mp hx with q | q
            · exact ha2 x q
            · simp only [List.mem_singleton] at q
              subst q
              exact hb2 _ (by simp)
          · rcases List.mem_append.mp hx with q | q
            · exact hab x q y (by simp [hy])
            · simp only [List.mem_singleton] at q
              subst q
              exact hb1'.1 y hy
        · simp [hj0]
          exact ⟨a, b, p2, some (.int z, .ow), rfl, rfl, ha1, ha2, hb1'.2, fun x hx => hb2 x (by simp [hx]), fun x hx y hy => hab x hx y (by simp [hy]), hp2, by simp, rfl⟩
    · obtain ⟨a, b, p, c, e, rfl, ha1, ha2, hb1, hb2, hab, hp, hc', rfl⟩ := h
      have hse : Se n a := ⟨ha1, ha2⟩
      have := hse.len
      simp [Cr.start, retO, tyD, takeOpd, backOpd, frz1, endCall, keep, setO, noName, ownD, isListC, isDictC, isDictO, into, small, show a.length ≤ 1000000 by omega]
      refine ⟨A ++ [a], p, some (x, .ow), by simp, fun q hq => ?_, him.2, by simp at hl ⊢; omega, hp, by simp, rfl⟩
      rcases List.mem_append.mp hq with w | w
      · exact hA q w
      · simp only [List.mem_singleton] at w
        subst w
        exact hse
  · obtain ⟨A, p, c, rfl, hA, him, hl, hp, hc', rfl⟩ := h
    simp only [List.length_nil, Nat.add_zero] at hl
    match A, hl, hA with
    | [a, b], _, hA =>
      simp [Cr.start, retO, tyD, takeOpd, backOpd, frz1, endCall, keep, setO, noName, ownD, isListC, isDictC, isDictO, into, small]
      exact k p a b hp (hA a (by simp)) (hA b (by simp))
theorem se_both {a b : List Nat} (ha : Se n a) (hb : Se n b) : Se n (sortN (once (a ++ b))) := ⟨sortN_strict (nodup_once _), fun x hx => by
  rw [sortN_mem, mem_once] at hx
  rcases List.mem_append.mp hx with q | q
  · exact ha.bd x q
  · exact hb.bd x q⟩
theorem se_common {a : List Nat} (b : List Nat) (ha : Se n a) : Se n (a.filter fun x => decide (x ∈ b)) := ⟨ha.rise.filter _, fun x hx => ha.bd x (List.mem_filter.mp hx).1⟩
theorem lr13 (hv : Va n ps) {c2 c3 c6 c12 c13 c14 c15 : Cell} (h6 : freB c6 = true) (h14 : freB c14 = true) (h15 : freB c15 = true) {sh : Str} {p : D} {a b : List Nat} (ha : Se n a) (hb : Se n b) {Q : Rho × Fl → Prop}
    (k : T (exs call fuel law_right_15 (stB n ps sh c2 c3 c12 c13 p none c6 (some (.list [tD a, tD b], .ow)) (some (.list [], .ow)) c14 c15 (some (tD (sortN (once (a ++ b))), .ow)) (some (tD (a.filter fun x => decide (x ∈ b)), .ow)) none none)) Q) :
    T (exs call fuel law_right_13 (stB n ps sh c2 c3 c12 c13 p none c6 (some (.list [tD a, tD b], .ow)) none c14 c15 none none none none)) Q := by
  unfold law_right_13 stB
  have h7 := hv.n7
  have la := ha.len
  have lb := hb.len
  have e1 := op_cat_t (k := nl a) (l := nl b) (by simp; omega)
  have e2 := bi_sset_tup (l := a ++ b) (by simp; omega)
  simp only [tD, nl_append] at e2
  have l3 := (se_both ha hb).len
  have l4 := (se_common b ha).len
  simp [Cr.start, retO, tyD, takeOpd, backOpd, frz1, endCall, keep, setO, noName, ownD, isListC, isDictC, isDictO, into, small, e1, e2, fin_top]
  refine T_purec (β := Nat) (fun n => PyData.int (Int.ofNat n)) (fun x => decide (x ∈ b)) (fun x => .int (Int.ofNat x)) true _ rfl (fun x hx => ?_) fun r' hr => ?_
  · simp [Cr.start, retO, tyD, takeOpd, backOpd, frz1, endCall, keep, setO, noName, ownD, isListC, isDictC, isDictO, into, small]
  · have em : (a.filter fun x => decide (x ∈ b)).map (fun x => PyData.int (Int.ofNat x)) = nl (a.filter fun x => decide (x ∈ b)) := rfl
    dsimp only
    rw [em]
    simp [Cr.start, retO, tyD, takeOpd, backOpd, frz1, endCall, keep, setO, noName, ownD, isListC, isDictC, isDictO, into, small, hr, show (a.filter fun x => decide (x ∈ b)).length ≤ 1000000 by omega]
    unfold law_right_14
    simp [Cr.start, retO, tyD, takeOpd, backOpd, frz1, endCall, keep, setO, noName, ownD, isListC, isDictC, isDictO, into, small]
    exact k
/-- what is counted of one set -/
def cD (ps : List (Nat × Nat)) (c : List Nat) : D := .tuple [.int (intoL ps c).length, .int (intoL (swp ps) c).length]
theorem imms_cD (l : List (List Nat)) : imms (l.map (cD ps)) = true := imms_map fun x _ => by simp [cD]
def LS (n : Nat) (ps : List (Nat × Nat)) (sh : Str) (c2 c3 c6 c7 c12 c13 c14 c15 c16 c17 : Cell) (p : D) (X : List (List Nat)) (xs : List D) (r : Rho) : Prop :=
  ∃ (a b : List (List Nat)) (c5 c20 c21 : Cell), X = a ++ b ∧ xs = b.map tD ∧ freB c5 = true ∧ freB c20 = true ∧ freB c21 = true ∧ r = stB n ps sh c2 c3 c12 c13 p c5 c6 c7 (some (.list (a.map (cD ps)), .ow)) c14 c15 c16 c17 c20 c21
theorem sw_into (hv : Va n ps) (c : List Nat) : Sw 1 67 (tD (intoL ps c)) := by
  have hl := hv.len
  refine sw_tD (fun x hx => ?_) ?_
  · unfold intoL at hx
    obtain ⟨q, hq, rfl⟩ := List.mem_map.mp hx
    have := (List.mem_filter.mp hq).1
    have := List.mem_zipIdx_iff_getElem?.mp this
    have := (List.getElem?_eq_some_iff.mp this).1
    omega
  · rw [intoL_len]
    have := List.length_filter_le (entB c) ps
    omega
theorem lr15 (hc : LC call) (hv : Va n ps) {c2 c3 c6 c12 c13 c14 c15 : Cell} {sh : Str} {p : D} {a b u i : List Nat} (ha : Se n a) (hb : Se n b) (hu : Se n u) (hi : Se n i) {Q : Rho × Fl → Prop}
    (k : ∀ c5 c20 c21, T (exs call fuel law_right_16 (stB n ps sh c2 c3 c12 c13 p c5 c6 (some (.list [tD a, tD b], .ow)) (some (.list ([a, b, u, i, [], List.range n].map (cD ps)), .ow)) c14 c15 (some (tD u, .ow)) (some (tD i, .ow)) c20 c21)) Q) :
    T (exs call fuel law_right_15 (stB n ps sh c2 c3 c12 c13 p none c6 (some (.list [tD a, tD b], .ow)) (some (.list [], .ow)) c14 c15 (some (tD u, .ow)) (some (tD i, .ow)) none none)) Q := by
  have h7 := hv.n7
  have hl : ps.length ≤ 1000 := by have := hv.len; omega
  have hset : ∀ x ∈ [a, b, u, i, [], List.range n], Se n x := fun x hx => by
    simp only [List.mem_cons, List.not_mem_nil, or_false] at hx
    rcases hx with rfl | rfl | rfl | rfl | rfl | rfl
    · exact ha
    · exact hb
    · exact hu
    · exact hi
    · exact ⟨by simp, by simp⟩
    · exact ⟨List.pairwise_lt_range, fun x hx => List.mem_range.mp hx⟩
  have et : biD .trng [.int n] = some (.tuple (nl (List.range n)), []) := by
    show (if decide ((n : Int) ≤ 100000) && decide ((-100000 : Int) ≤ n) then some (PyData.tuple (intRange (n : Int).toNat 0), ([] : List D)) else none) = _
    rw [if_pos (rng_ok (by omega)), toNat_cast, range_map0]
  have ec : opD .Add (.list [tD a, tD b]) (.list [tD u, tD i, .tuple [], .tuple (nl (List.range n))]) = some (.list ([a, b, u, i, [], List.range n].map tD), [a, b, u, i, [], List.range n].map tD) := op_cat_l (by simp)
  unfold law_right_15 stB
  simp [Cr.start, retO, tyD, takeOpd, backOpd, frz1, endCall, keep, setO, noName, ownD, isListC, isDictC, isDictO, into, small, et, ec, fin_top]
  refine T_forL (LS n ps sh c2 c3 c6 (some (.list [tD a, tD b], .ow)) c12 c13 c14 c15 (some (tD u, .ow)) (some (tD i, .ow)) p [a, b, u, i, [], List.range n]) (fun x xs r h => ?_) ⟨[], [a, b, u, i, [], List.range n], none, none, none, rfl, rfl, by simp, by simp, by simp, rfl⟩ fun r' h => ?_
  · obtain ⟨d, e, c5, c20, c21, e1, e2, h5, h20, h21, rfl⟩ := h
    cases e with
    | nil => cases e2
    | cons z e =>
      rw [List.map_cons] at e2
      cases e2
      have hz := hset z (by rw [e1]; simp)
      have hlen : d.length ≤ 6 := by
        have := congrArg List.length e1
        simp at this
        omega
      have q1 := hc.into hl z
      have q2 := hc.out hl z
      have q3 := hc.entering hv hz
      have q4 := hc.leaving hv hz
      have er := bi_repr (((sw_list (k := 1) (m := 67) (c := 2) (l := [tD (intoL ps z), tD (intoL (swp ps) z)]) (fun x hx => by
        simp only [List.mem_cons, List.not_mem_nil, or_false] at hx
        rcases hx with rfl | rfl
        · exact sw_into hv z
        · exact sw_into hv.swap z) (by simp)) : Sw 2 141 _).ok (by decide) (by decide))
      unfold stB
      simp [Cr.start, retO, tyD, takeOpd, backOpd, frz1, endCall, keep, setO, noName, ownD, isListC, isDictC, isDictO, into, small, h5, h20, h21, q1, q2, q3, q4, aD_imm, perm1, perm2, perm3, er, show d.length ≤ 1000000 by omega]
      exact ⟨d ++ [z], e, some (tD z, .ow), some (tD (intoL ps z), .ow), some (tD (intoL (swp ps) z), .ow), by simp [e1], rfl, by simp, by simp, by simp, by simp [stB, cD]⟩
  · obtain ⟨d, e, c5, c20, c21, e1, e2, h5, h20, h21, rfl⟩ := h
    have : e = [] := by cases e with
      | nil => rfl
      | cons y b => cases e2
    subst this
    rw [List.append_nil] at e1
    subst e1
    simp only [seqK_nx]
    exact k c5 c20 c21
theorem lr16 (hv : Va n ps) {c2 c3 c5 c6 c7 c12 c13 c14 c15 c16 c17 c20 c21 : Cell} {p : D} (hp : Pot p) {a b u i : List Nat} (hu : ∀ x, x ∈ u ↔ x ∈ a ∨ x ∈ b) (hi : ∀ x, x ∈ i ↔ x ∈ a ∧ x ∈ b) :
    T (exs call fuel law_right_16 (stB n ps (aD n ps).shown c2 c3 c12 c13 p c5 c6 c7 (some (.list ([a, b, u, i, [], List.range n].map (cD ps)), .ow)) c14 c15 c16 c17 c20 c21)) (bodyK true fun x => ∃ p', Pot p' ∧ x = (.bool true, true, p')) := by
  have s1 := sub_into hu hi ps
  have s2 := sub_into hu hi (swp ps)
  have i0 : idxD (.list ([a, b, u, i, [], List.range n].map (cD ps))) (.int 0) = some (cD ps a) := idx_l (k := 0) rfl
  have i1 : idxD (.list ([a, b, u, i, [], List.range n].map (cD ps))) (.int 1) = some (cD ps b) := idx_l (k := 1) rfl
  have i2 : idxD (.list ([a, b, u, i, [], List.range n].map (cD ps))) (.int 2) = some (cD ps u) := idx_l (k := 2) rfl
  have i3 : idxD (.list ([a, b, u, i, [], List.range n].map (cD ps))) (.int 3) = some (cD ps i) := idx_l (k := 3) rfl
  have er := bi_repr ((sw_aD hv).ok (by decide) (by decide))
  generalize hL : [a, b, u, i, [], List.range n].map (cD ps) = L at i0 i1 i2 i3 ⊢
  have hf : ∀ c : List Nat, imm (cD ps c) = true := fun c => by simp [cD]
  have g0 : ∀ c : List Nat, idxD (cD ps c) (.int 0) = some (.int (intoL ps c).length) := fun c => rfl
  have g1 : ∀ c : List Nat, idxD (cD ps c) (.int 1) = some (.int (intoL (swp ps) c).length) := fun c => rfl
  unfold law_right_16 stB
  have n1 : ¬ ((intoL ps a).length : Int) + (intoL ps b).length < (intoL ps u).length + (intoL ps i).length := by omega
  have n2 : ¬ ((intoL (swp ps) a).length : Int) + (intoL (swp ps) b).length < (intoL (swp ps) u).length + (intoL (swp ps) i).length := by omega
  simp [Cr.start, retO, tyD, takeOpd, backOpd, frz1, endCall, keep, setO, noName, ownD, isListC, isDictC, isDictO, into, small, i0, i1, i2, i3, hf, g0, g1, n1, n2]
  unfold law_right_17
  simp [Cr.start, retO, tyD, takeOpd, backOpd, frz1, endCall, keep, setO, noName, ownD, isListC, isDictC, isDictO, into, small, er]
  exact hp
theorem law_right_ok (hc : LC call) {p : D} (hp : Pot p) : T (runF call fuel (T80.f__law_right 14 13 25 26 21 15 28 19 18 17 16 27 23) [(p, .pn)]) fun x => ∃ p', Pot p' ∧ x = (.bool true, true, p') := by
  refine T_runF rfl (by simp [T80.f__law_right, Cr.start, isPn]) ?_
  show T (exs call fuel law_right_1 [some (p, .pn), none, none, none, none, none, none, none, none, none, none, none, none, none, none, none, none, none, none, none, none, none]) (bodyK true _)
  unfold law_right_1
  simp [Cr.start, retO, tyD, takeOpd, backOpd, frz1, endCall, keep, setO, noName, ownD, isListC, isDictC, isDictO, into, small]
  refine (hc.arrows hp).mono fun x hx => ?_
  obtain ⟨n, ps, p1, hv, h6, h9, hp1, rfl⟩ := hx
  simp [Cr.start, retO, tyD, takeOpd, backOpd, frz1, endCall, keep, setO, noName, ownD, isListC, isDictC, isDictO, into, small, aD_imm]
  refine lr2 hv (lr3 hc hv (lr4 hv fun s2 _ => lr5 hc hv (lr6 hc hv (lr9 hc hv ?_))))
  exact lr11 hc hv h6 h9 hp1 fun p c6 c14 c15 hp h6 h14 h15 => lr12 hc hv h6 h14 h15 hp fun p a b hp ha hb => lr13 hv h6 h14 h15 ha hb (lr15 hc hv ha hb (se_both ha hb) (se_common b ha) fun c5 c20 c21 =>
    lr16 hv hp (fun x => by rw [sortN_mem, mem_once, List.mem_append]) fun x => by simp)
theorem law_top {i j : Nat} (hi : ∀ {p : D}, Pot p → T (call i [(p, .pn)]) fun x => ∃ p', Pot p' ∧ x = (.bool true, true, p')) (hj : ∀ ns : List Int, ns.length ≤ 63 → T (call j [(.list (ns.map .int), .fz), (.int 0, .ow)]) fun x => ∃ p, Pot p ∧ x = (p, true, .none)) (ns : List Int) (hl : ns.length ≤ 63) :
    T (runF call fuel (T80.f_law i j) [(.list (ns.map .int), .fz)]) fun x => x = (.bool true, true, .none) := by
  refine T_runF rfl (by simp [T80.f_law]) ?_
  simp [T80.f_law, Cr.start, retO, tyD, takeOpd, backOpd, frz1, endCall, keep, setO, noName, ownD, isListC, isDictC, isDictO, into, small]
  refine (hj ns hl).mono fun x hx => ?_
  obtain ⟨p, hp, rfl⟩ := hx
  have hi' : ∀ {p : D}, Pot p → imm p = false := fun {p} h => by obtain ⟨a, b, rfl, _⟩ := h; rfl
  simp [Cr.start, retO, tyD, takeOpd, backOpd, frz1, endCall, keep, setO, noName, ownD, isListC, isDictC, isDictO, into, small, hi' hp]
  refine T_loopC (fun xs acc r => ∃ (a : List Nat) (p : D) (c : Cell), acc = a.map (fun _ => PyData.bool true) ∧ a.length + xs.length = 4 ∧ imms xs = true ∧ Pot p ∧ freB c = true ∧ r = [some (.list (ns.map .int), .fz), some (p, .ow), c]) (fun x xs acc r h => ?_) ⟨[], p, none, rfl, rfl, by simp [intRange], hp, by simp, rfl⟩ fun acc r' h => ?_
  · obtain ⟨a, p, c, rfl, hl, him, hp, hc, rfl⟩ := h
    simp only [imms_cons, Bool.and_eq_true] at him
    simp [Cr.start, retO, tyD, takeOpd, backOpd, frz1, endCall, keep, setO, noName, ownD, isListC, isDictC, isDictO, into, small, him.1]
    refine (hi hp).mono fun y hy => ?_
    obtain ⟨p2, hp2, rfl⟩ := hy
    simp [Cr.start, retO, tyD, takeOpd, backOpd, frz1, endCall, keep, setO, noName, ownD, isListC, isDictC, isDictO, into, small]
    refine ⟨a ++ [0], by simp, by simp at hl ⊢; omega, him.2, hp2⟩
  · obtain ⟨a, p, c, rfl, hl, him, hp, hc, rfl⟩ := h
    simp only [List.length_nil, Nat.add_zero] at hl
    have eb : biD .all [.list (a.map fun _ => PyData.bool true)] = some (.bool true, []) := by
      rw [bi_all (g := fun _ => true)]
      simp
    simp [Cr.start, retO, tyD, takeOpd, backOpd, frz1, endCall, keep, setO, noName, ownD, isListC, isDictC, isDictO, into, small, hl, eb]
end
end Cv
/-! # K80z: all levels; the law -/
namespace T80
open PySem Cr Cv Bfs
def fuel : Nat := 1000
theorem cf {k i : Nat} {fe : FE} (h : tab[i]? = some fe) (as : List (D × Stt)) : callF tab fuel (k + 1) i as = runF (callF tab fuel k) fuel fe as := by rw [callF, h]
theorem l0 (k : Nat) (x : Int) : callF tab fuel (k + 1) 0 [(.int x, .ow)] = some (.bool true, true, .none) := (cf rfl _).trans (is_integer_ok x)
theorem l1 (k : Nat) (x n : Int) : callF tab fuel (k + 2) 1 [(.int x, .ow), (.int n, .ow)] = some (.bool (decide (0 ≤ x) && decide (x < n)), true, .none) := (cf rfl _).trans (is_position_ok (l0 k) x n)
theorem l2 (k : Nat) (xs : List Nat) (hl : xs.length ≤ 1000) (n : Int) : callF tab fuel (k + 3) 2 [(tD xs, .ow), (.int n, .ow)] = some (.bool (xs.all (fun (k : Nat) => decide ((k : Int) < n)) && rising xs), true, .none) := (cf rfl _).trans (are_rising_ok (l1 k) xs hl n)
theorem l3 (k : Nat) {n : Nat} (h7 : n ≤ 7) {xs : List Nat} (h : Se n xs) : callF tab fuel (k + 1) 3 [(tD xs, .ow)] = some (.int (msk xs), true, .none) := (cf rfl _).trans (mask_of_ok xs (by have := h.len; omega) fun x hx => by have := h.bd x hx; omega)
theorem l4 (k : Nat) {n : Nat} (p : Nat × Nat) (h1 : p.1 < n) (h2 : p.2 < n) (h3 : p.1 ≠ p.2) : callF tab fuel (k + 3) 4 [(.int n, .ow), (pD p, .ow)] = some (.bool true, true, .none) := (cf rfl _).trans (arrow_is_right_ok (l1 k) p h1 h2 h3)
theorem l5 (k : Nat) {n : Nat} {ps : List (Nat × Nat)} (hv : Va n ps) : callF tab fuel (k + 4) 5 [(aD n ps, .ow)] = some (.bool true, true, .none) := (cf rfl _).trans (arrows_are_right_ok hv (l4 k) (l0 (k + 2)))
theorem l6 (k : Nat) (m : Nat) (p : Nat × Nat) : callF tab fuel (k + 1) 6 [(.int m, .ow), (pD p, .ow)] = some (.bool (!m.testBit p.1 && m.testBit p.2), true, .none) := (cf rfl _).trans (enters_ok m p)
theorem l7 (k : Nat) {ps : List (Nat × Nat)} {d : D} {st : Stt} (h : PA ps d st) (hl : ps.length ≤ 1000) : callF tab fuel (k + 1) 7 [(d, st)] = some (.list ((swp ps).map pD), true, .none) := (cf rfl _).trans (turned_ok h hl)
theorem l8 (k : Nat) : S_cf (callF tab fuel (k + 1)) 8 := fun hv _ _ hd _ hu => by
  rw [cf (i := 8) rfl]
  exact comes_from_ok hv hd hu (by decide)
theorem l9 (k : Nat) : S_classes (callF tab fuel (k + 2)) 9 := fun hv _ _ hd => (cf rfl _).trans (classes_ok (l8 k) hv hd)
theorem l10 (k : Nat) {n : Nat} {ps : List (Nat × Nat)} (hv : Va n ps) : callF tab fuel (k + 5) 10 [(aD n ps, .ow)] = some (.none, true, .none) := (cf rfl _).trans (check_arrows_ok (l5 k hv))
theorem l11 (k : Nat) {n : Nat} {ps : List (Nat × Nat)} {u : Nat} (hu : u < n) : callF tab fuel (k + 3) 11 [(aD n ps, .ow), (.int u, .ow)] = some (.none, true, .none) := (cf rfl _).trans (check_place_ok (l1 k) hu)
theorem l12 (k : Nat) {n : Nat} {ps : List (Nat × Nat)} (hv : Va n ps) {xs : List Nat} (h : Se n xs) : callF tab fuel (k + 4) 12 [(aD n ps, .ow), (tD xs, .ow)] = some (.none, true, .none) := (cf rfl _).trans (check_set_ok hv (l2 k) h)
theorem draws (k : Nat) : S_draw (callF tab fuel (k + 1)) 21 := fun hp _ h0 h1 => by
  rw [cf (i := 21) rfl]
  exact law_draw_ok hp h0 h1
theorem lc (k : Nat) : LC (callF tab fuel (k + 6)) where
  draw := draws (k + 5)
  arrows := fun hp => by
    rw [cf (k := k + 5) (i := 23) rfl]
    have := law_arrows_ok (fuel := fuel) (draws (k + 4)) hp (most := 6) (many := 9) (by decide) (by decide) (by decide)
    simpa using this
  reached := fun hv _ hu => (cf (k := k + 5) rfl _).trans (law_reached_ok hv hu)
  classes := fun hv => (cf (k := k + 5) rfl _).trans (arrow_classes_ok hv (l9 (k + 3)) (l10 k hv))
  sources := fun hv => (cf (k := k + 5) rfl _).trans (sources_ok hv (l9 (k + 3)) (l10 k hv) (l6 (k + 4)) fun h => l3 (k + 4) hv.n7 h)
  sinks := fun hv => (cf (k := k + 5) rfl _).trans (sinks_ok hv (l9 (k + 3)) (l10 k hv) (fun h hl => l7 (k + 4) h hl) (l6 (k + 4)) fun h => l3 (k + 4) hv.n7 h)
  all := fun hv => (cf (k := k + 5) rfl _).trans (all_reach_ok hv (l9 (k + 3)) (l10 k hv))
  walk := fun hv _ _ hu hv' => (cf (k := k + 5) rfl _).trans (walk_ok hv (l8 (k + 4)) (fun h => l11 (k + 2) h) (l10 k hv) hu hv')
  lwalk := fun hv h6 h9 _ _ hu => (cf (k := k + 5) rfl _).trans (law_walk_ok hv h6 h9 hu)
  into := fun hl xs => (cf (k := k + 5) rfl _).trans (law_into_ok hl xs)
  out := fun hl xs => (cf (k := k + 5) rfl _).trans (law_out_ok hl xs)
  entering := fun hv _ h => (cf (k := k + 5) rfl _).trans (entering_ok hv h (l6 (k + 4)) (l3 (k + 4) hv.n7 h) (l12 (k + 1) hv h) (l10 k hv))
  leaving := fun hv _ h => (cf (k := k + 5) rfl _).trans (leaving_ok hv h (fun h hl => l7 (k + 4) h hl) (l6 (k + 4)) (l3 (k + 4) hv.n7 h) (l12 (k + 1) hv h) (l10 k hv))
theorem right (k : Nat) {p : D} (hp : Pot p) : T (callF tab fuel (k + 7) 29 [(p, .pn)]) fun x => ∃ p', Pot p' ∧ x = (.bool true, true, p') := by
  rw [cf (i := 29) rfl]
  exact law_right_ok (lc k) hp
theorem law_ok : ∀ ns : List Int, ns.length ≤ 63 → ∃ o d1, callF tab fuel 41 30 [(.list (ns.map .int), .fz)] = some (.bool true, o, d1) := fun ns hl => by
  have h : T (callF tab fuel 41 30 [(.list (ns.map .int), .fz)]) fun x => x = (.bool true, true, .none) := by
    rw [cf (k := 40) (i := 30) rfl]
    exact law_top (right 33) (fun ns hl => by
      rw [cf (k := 39) (i := 20) rfl]
      exact law_pot_ok ns hl) ns hl
  obtain ⟨x, e, rfl⟩ := h
  exact ⟨_, _, e⟩
end T80
set_option maxHeartbeats 0
namespace T80
open PySem PySem.Spec PyProof.Rows L2 Cr
def top (i : Nat) : Stmt := PySem.Challenge.pw_staysjoined_k80_whole_walks_and_classes.main.body.getD i (.Pass ⟨0, 0, 0, 0⟩)
def gs : List (Str × Int) := [("MOST_PLACES", 7), ("MOST_ARROWS", 16)]
def dd (x : Str) (i : Nat) : He.DefD := ⟨(x, none), x, x, defArgs (top i), defBody (top i), defScope (top i), [], []⟩
def fn : List He.DefD := [dd "is_integer" 1, dd "is_position" 2, dd "are_rising" 3, dd "mask_of" 10, dd "arrow_is_right" 14, dd "arrows_are_right" 15, dd "enters" 16, dd "turned_pairs" 17, dd "comes_from" 18, dd "classes_of" 19, dd "check_arrows" 20, dd "check_place" 21, dd "check_set" 22, dd "entering" 23, dd "leaving" 24, dd "walk" 25, dd "arrow_classes" 26, dd "sources" 27, dd "sinks" 28, dd "all_reach" 29, dd "_law_pot" 31, dd "_law_draw" 32, dd "_law_pick" 33, dd "_law_arrows" 34, dd "_law_sets" 35, dd "_law_into" 36, dd "_law_out" 37, dd "_law_reached" 38, dd "_law_walk" 39, dd "_law_right" 40, dd "law" 41]
def fa : List He.Fa := [.glo "is_integer", .glo "is_position", .glo "are_rising", .glo "mask_of", .glo "arrow_is_right", .glo "arrows_are_right", .glo "enters", .glo "turned_pairs", .glo "comes_from", .glo "classes_of", .glo "check_arrows", .glo "check_place", .glo "check_set", .glo "entering", .glo "leaving", .glo "walk", .glo "arrow_classes", .glo "sources", .glo "sinks", .glo "all_reach", .glo "_law_pot", .glo "_law_draw", .glo "_law_pick", .glo "_law_arrows", .glo "_law_sets", .glo "_law_into", .glo "_law_out", .glo "_law_reached", .glo "_law_walk", .glo "_law_right", .glo "law", .free "len", .free "abs", .free "int", .free "max", .free "min", .free "sum", .free "sorted", .free "tuple", .free "list", .free "all", .free "any", .free "repr", .free "set", .free "range", .free "enumerate", .free "zip", .free "isinstance", .free "bool", .free "str", .free "dict", .int "MOST_PLACES" (7), .int "MOST_ARROWS" (16)]
section
variable {K : PySem.W.Frag} {h : Heap} {mg : Str → Option Value}
theorem at0 (X : K.In h) (G : h.Ns mainGlobals mg) (c : He.SaysD fa fn K) : FnAt K mg tab gs (tab[0]) := by
  obtain ⟨fd, F⟩ := c.def_ 0 (d := dd "is_integer" 1) rfl
  have hm := He.glo_ok X G (c.fact 0 (f := .glo "is_integer") rfl)
  exact fnAt_of (fe := tab[0]) (st := top 1) F hm (fun _ _ _ _ _ _ us hl => match us, hl with | [_], _ => rfl) (fun _ _ _ _ _ _ us hl => match us, hl with | [_], _ => rfl) (by decide +kernel)
theorem at1 (X : K.In h) (G : h.Ns mainGlobals mg) (c : He.SaysD fa fn K) : FnAt K mg tab gs (tab[1]) := by
  obtain ⟨fd, F⟩ := c.def_ 1 (d := dd "is_position" 2) rfl
  have hm := He.glo_ok X G (c.fact 1 (f := .glo "is_position") rfl)
  exact fnAt_of (fe := tab[1]) (st := top 2) F hm (fun _ _ _ _ _ _ us hl => match us, hl with | [_, _], _ => rfl) (fun _ _ _ _ _ _ us hl => match us, hl with | [_, _], _ => rfl) (by decide +kernel)
theorem at2 (X : K.In h) (G : h.Ns mainGlobals mg) (c : He.SaysD fa fn K) : FnAt K mg tab gs (tab[2]) := by
  obtain ⟨fd, F⟩ := c.def_ 2 (d := dd "are_rising" 3) rfl
  have hm := He.glo_ok X G (c.fact 2 (f := .glo "are_rising") rfl)
  exact fnAt_of (fe := tab[2]) (st := top 3) F hm (fun _ _ _ _ _ _ us hl => match us, hl with | [_, _], _ => rfl) (fun _ _ _ _ _ _ us hl => match us, hl with | [_, _], _ => rfl) (by decide +kernel)
theorem at3 (X : K.In h) (G : h.Ns mainGlobals mg) (c : He.SaysD fa fn K) : FnAt K mg tab gs (tab[3]) := by
  obtain ⟨fd, F⟩ := c.def_ 3 (d := dd "mask_of" 10) rfl
  have hm := He.glo_ok X G (c.fact 3 (f := .glo "mask_of") rfl)
  exact fnAt_of (fe := tab[3]) (st := top 10) F hm (fun _ _ _ _ _ _ us hl => match us, hl with | [_], _ => rfl) (fun _ _ _ _ _ _ us hl => match us, hl with | [_], _ => rfl) (by decide +kernel)
theorem at4 (X : K.In h) (G : h.Ns mainGlobals mg) (c : He.SaysD fa fn K) : FnAt K mg tab gs (tab[4]) := by
  obtain ⟨fd, F⟩ := c.def_ 4 (d := dd "arrow_is_right" 14) rfl
  have hm := He.glo_ok X G (c.fact 4 (f := .glo "arrow_is_right") rfl)
  exact fnAt_of (fe := tab[4]) (st := top 14) F hm (fun _ _ _ _ _ _ us hl => match us, hl with | [_, _], _ => rfl) (fun _ _ _ _ _ _ us hl => match us, hl with | [_, _], _ => rfl) (by decide +kernel)
theorem at5 (X : K.In h) (G : h.Ns mainGlobals mg) (c : He.SaysD fa fn K) : FnAt K mg tab gs (tab[5]) := by
  obtain ⟨fd, F⟩ := c.def_ 5 (d := dd "arrows_are_right" 15) rfl
  have hm := He.glo_ok X G (c.fact 5 (f := .glo "arrows_are_right") rfl)
  exact fnAt_of (fe := tab[5]) (st := top 15) F hm (fun _ _ _ _ _ _ us hl => match us, hl with | [_], _ => rfl) (fun _ _ _ _ _ _ us hl => match us, hl with | [_], _ => rfl) (by decide +kernel)
theorem at6 (X : K.In h) (G : h.Ns mainGlobals mg) (c : He.SaysD fa fn K) : FnAt K mg tab gs (tab[6]) := by
  obtain ⟨fd, F⟩ := c.def_ 6 (d := dd "enters" 16) rfl
  have hm := He.glo_ok X G (c.fact 6 (f := .glo "enters") rfl)
  exact fnAt_of (fe := tab[6]) (st := top 16) F hm (fun _ _ _ _ _ _ us hl => match us, hl with | [_, _], _ => rfl) (fun _ _ _ _ _ _ us hl => match us, hl with | [_, _], _ => rfl) (by decide +kernel)
theorem at7 (X : K.In h) (G : h.Ns mainGlobals mg) (c : He.SaysD fa fn K) : FnAt K mg tab gs (tab[7]) := by
  obtain ⟨fd, F⟩ := c.def_ 7 (d := dd "turned_pairs" 17) rfl
  have hm := He.glo_ok X G (c.fact 7 (f := .glo "turned_pairs") rfl)
  exact fnAt_of (fe := tab[7]) (st := top 17) F hm (fun _ _ _ _ _ _ us hl => match us, hl with | [_], _ => rfl) (fun _ _ _ _ _ _ us hl => match us, hl with | [_], _ => rfl) (by decide +kernel)
theorem at8 (X : K.In h) (G : h.Ns mainGlobals mg) (c : He.SaysD fa fn K) : FnAt K mg tab gs (tab[8]) := by
  obtain ⟨fd, F⟩ := c.def_ 8 (d := dd "comes_from" 18) rfl
  have hm := He.glo_ok X G (c.fact 8 (f := .glo "comes_from") rfl)
  exact fnAt_of (fe := tab[8]) (st := top 18) F hm (fun _ _ _ _ _ _ us hl => match us, hl with | [_, _], _ => rfl) (fun _ _ _ _ _ _ us hl => match us, hl with | [_, _], _ => rfl) (by decide +kernel)
theorem at9 (X : K.In h) (G : h.Ns mainGlobals mg) (c : He.SaysD fa fn K) : FnAt K mg tab gs (tab[9]) := by
  obtain ⟨fd, F⟩ := c.def_ 9 (d := dd "classes_of" 19) rfl
  have hm := He.glo_ok X G (c.fact 9 (f := .glo "classes_of") rfl)
  exact fnAt_of (fe := tab[9]) (st := top 19) F hm (fun _ _ _ _ _ _ us hl => match us, hl with | [_, _], _ => rfl) (fun _ _ _ _ _ _ us hl => match us, hl with | [_, _], _ => rfl) (by decide +kernel)
theorem at10 (X : K.In h) (G : h.Ns mainGlobals mg) (c : He.SaysD fa fn K) : FnAt K mg tab gs (tab[10]) := by
  obtain ⟨fd, F⟩ := c.def_ 10 (d := dd "check_arrows" 20) rfl
  have hm := He.glo_ok X G (c.fact 10 (f := .glo "check_arrows") rfl)
  exact fnAt_of (fe := tab[10]) (st := top 20) F hm (fun _ _ _ _ _ _ us hl => match us, hl with | [_], _ => rfl) (fun _ _ _ _ _ _ us hl => match us, hl with | [_], _ => rfl) (by decide +kernel)
theorem at11 (X : K.In h) (G : h.Ns mainGlobals mg) (c : He.SaysD fa fn K) : FnAt K mg tab gs (tab[11]) := by
  obtain ⟨fd, F⟩ := c.def_ 11 (d := dd "check_place" 21) rfl
  have hm := He.glo_ok X G (c.fact 11 (f := .glo "check_place") rfl)
  exact fnAt_of (fe := tab[11]) (st := top 21) F hm (fun _ _ _ _ _ _ us hl => match us, hl with | [_, _], _ => rfl) (fun _ _ _ _ _ _ us hl => match us, hl with | [_, _], _ => rfl) (by decide +kernel)
theorem at12 (X : K.In h) (G : h.Ns mainGlobals mg) (c : He.SaysD fa fn K) : FnAt K mg tab gs (tab[12]) := by
  obtain ⟨fd, F⟩ := c.def_ 12 (d := dd "check_set" 22) rfl
  have hm := He.glo_ok X G (c.fact 12 (f := .glo "check_set") rfl)
  exact fnAt_of (fe := tab[12]) (st := top 22) F hm (fun _ _ _ _ _ _ us hl => match us, hl with | [_, _], _ => rfl) (fun _ _ _ _ _ _ us hl => match us, hl with | [_, _], _ => rfl) (by decide +kernel)
theorem at13 (X : K.In h) (G : h.Ns mainGlobals mg) (c : He.SaysD fa fn K) : FnAt K mg tab gs (tab[13]) := by
  obtain ⟨fd, F⟩ := c.def_ 13 (d := dd "entering" 23) rfl
  have hm := He.glo_ok X G (c.fact 13 (f := .glo "entering") rfl)
  exact fnAt_of (fe := tab[13]) (st := top 23) F hm (fun _ _ _ _ _ _ us hl => match us, hl with | [_, _], _ => rfl) (fun _ _ _ _ _ _ us hl => match us, hl with | [_, _], _ => rfl) (by decide +kernel)
theorem at14 (X : K.In h) (G : h.Ns mainGlobals mg) (c : He.SaysD fa fn K) : FnAt K mg tab gs (tab[14]) := by
  obtain ⟨fd, F⟩ := c.def_ 14 (d := dd "leaving" 24) rfl
  have hm := He.glo_ok X G (c.fact 14 (f := .glo "leaving") rfl)
  exact fnAt_of (fe := tab[14]) (st := top 24) F hm (fun _ _ _ _ _ _ us hl => match us, hl with | [_, _], _ => rfl) (fun _ _ _ _ _ _ us hl => match us, hl with | [_, _], _ => rfl) (by decide +kernel)
theorem at15 (X : K.In h) (G : h.Ns mainGlobals mg) (c : He.SaysD fa fn K) : FnAt K mg tab gs (tab[15]) := by
  obtain ⟨fd, F⟩ := c.def_ 15 (d := dd "walk" 25) rfl
  have hm := He.glo_ok X G (c.fact 15 (f := .glo "walk") rfl)
  exact fnAt_of (fe := tab[15]) (st := top 25) F hm (fun _ _ _ _ _ _ us hl => match us, hl with | [_, _, _], _ => rfl) (fun _ _ _ _ _ _ us hl => match us, hl with | [_, _, _], _ => rfl) (by decide +kernel)
theorem at16 (X : K.In h) (G : h.Ns mainGlobals mg) (c : He.SaysD fa fn K) : FnAt K mg tab gs (tab[16]) := by
  obtain ⟨fd, F⟩ := c.def_ 16 (d := dd "arrow_classes" 26) rfl
  have hm := He.glo_ok X G (c.fact 16 (f := .glo "arrow_classes") rfl)
  exact fnAt_of (fe := tab[16]) (st := top 26) F hm (fun _ _ _ _ _ _ us hl => match us, hl with | [_], _ => rfl) (fun _ _ _ _ _ _ us hl => match us, hl with | [_], _ => rfl) (by decide +kernel)
theorem at17 (X : K.In h) (G : h.Ns mainGlobals mg) (c : He.SaysD fa fn K) : FnAt K mg tab gs (tab[17]) := by
  obtain ⟨fd, F⟩ := c.def_ 17 (d := dd "sources" 27) rfl
  have hm := He.glo_ok X G (c.fact 17 (f := .glo "sources") rfl)
  exact fnAt_of (fe := tab[17]) (st := top 27) F hm (fun _ _ _ _ _ _ us hl => match us, hl with | [_], _ => rfl) (fun _ _ _ _ _ _ us hl => match us, hl with | [_], _ => rfl) (by decide +kernel)
theorem at18 (X : K.In h) (G : h.Ns mainGlobals mg) (c : He.SaysD fa fn K) : FnAt K mg tab gs (tab[18]) := by
  obtain ⟨fd, F⟩ := c.def_ 18 (d := dd "sinks" 28) rfl
  have hm := He.glo_ok X G (c.fact 18 (f := .glo "sinks") rfl)
  exact fnAt_of (fe := tab[18]) (st := top 28) F hm (fun _ _ _ _ _ _ us hl => match us, hl with | [_], _ => rfl) (fun _ _ _ _ _ _ us hl => match us, hl with | [_], _ => rfl) (by decide +kernel)
theorem at19 (X : K.In h) (G : h.Ns mainGlobals mg) (c : He.SaysD fa fn K) : FnAt K mg tab gs (tab[19]) := by
  obtain ⟨fd, F⟩ := c.def_ 19 (d := dd "all_reach" 29) rfl
  have hm := He.glo_ok X G (c.fact 19 (f := .glo "all_reach") rfl)
  exact fnAt_of (fe := tab[19]) (st := top 29) F hm (fun _ _ _ _ _ _ us hl => match us, hl with | [_], _ => rfl) (fun _ _ _ _ _ _ us hl => match us, hl with | [_], _ => rfl) (by decide +kernel)
theorem at20 (X : K.In h) (G : h.Ns mainGlobals mg) (c : He.SaysD fa fn K) : FnAt K mg tab gs (tab[20]) := by
  obtain ⟨fd, F⟩ := c.def_ 20 (d := dd "_law_pot" 31) rfl
  have hm := He.glo_ok X G (c.fact 20 (f := .glo "_law_pot") rfl)
  exact fnAt_of (fe := tab[20]) (st := top 31) F hm (fun _ _ _ _ _ _ us hl => match us, hl with | [_, _], _ => rfl) (fun _ _ _ _ _ _ us hl => match us, hl with | [_, _], _ => rfl) (by decide +kernel)
theorem at21 (X : K.In h) (G : h.Ns mainGlobals mg) (c : He.SaysD fa fn K) : FnAt K mg tab gs (tab[21]) := by
  obtain ⟨fd, F⟩ := c.def_ 21 (d := dd "_law_draw" 32) rfl
  have hm := He.glo_ok X G (c.fact 21 (f := .glo "_law_draw") rfl)
  exact fnAt_of (fe := tab[21]) (st := top 32) F hm (fun _ _ _ _ _ _ us hl => match us, hl with | [_, _], _ => rfl) (fun _ _ _ _ _ _ us hl => match us, hl with | [_, _], _ => rfl) (by decide +kernel)
theorem at22 (X : K.In h) (G : h.Ns mainGlobals mg) (c : He.SaysD fa fn K) : FnAt K mg tab gs (tab[22]) := by
  obtain ⟨fd, F⟩ := c.def_ 22 (d := dd "_law_pick" 33) rfl
  have hm := He.glo_ok X G (c.fact 22 (f := .glo "_law_pick") rfl)
  exact fnAt_of (fe := tab[22]) (st := top 33) F hm (fun _ _ _ _ _ _ us hl => match us, hl with | [_, _], _ => rfl) (fun _ _ _ _ _ _ us hl => match us, hl with | [_, _], _ => rfl) (by decide +kernel)
theorem at23 (X : K.In h) (G : h.Ns mainGlobals mg) (c : He.SaysD fa fn K) : FnAt K mg tab gs (tab[23]) := by
  obtain ⟨fd, F⟩ := c.def_ 23 (d := dd "_law_arrows" 34) rfl
  have hm := He.glo_ok X G (c.fact 23 (f := .glo "_law_arrows") rfl)
  exact fnAt_of (fe := tab[23]) (st := top 34) F hm (fun _ _ _ _ _ _ us hl => match us, hl with | [_, _, _], _ => rfl) (fun _ _ _ _ _ _ us hl => match us, hl with | [_, _, _], _ => rfl) (by decide +kernel)
theorem at24 (X : K.In h) (G : h.Ns mainGlobals mg) (c : He.SaysD fa fn K) : FnAt K mg tab gs (tab[24]) := by
  obtain ⟨fd, F⟩ := c.def_ 24 (d := dd "_law_sets" 35) rfl
  have hm := He.glo_ok X G (c.fact 24 (f := .glo "_law_sets") rfl)
  exact fnAt_of (fe := tab[24]) (st := top 35) F hm (fun _ _ _ _ _ _ us hl => match us, hl with | [_], _ => rfl) (fun _ _ _ _ _ _ us hl => match us, hl with | [_], _ => rfl) (by decide +kernel)
theorem at25 (X : K.In h) (G : h.Ns mainGlobals mg) (c : He.SaysD fa fn K) : FnAt K mg tab gs (tab[25]) := by
  obtain ⟨fd, F⟩ := c.def_ 25 (d := dd "_law_into" 36) rfl
  have hm := He.glo_ok X G (c.fact 25 (f := .glo "_law_into") rfl)
  exact fnAt_of (fe := tab[25]) (st := top 36) F hm (fun _ _ _ _ _ _ us hl => match us, hl with | [_, _], _ => rfl) (fun _ _ _ _ _ _ us hl => match us, hl with | [_, _], _ => rfl) (by decide +kernel)
theorem at26 (X : K.In h) (G : h.Ns mainGlobals mg) (c : He.SaysD fa fn K) : FnAt K mg tab gs (tab[26]) := by
  obtain ⟨fd, F⟩ := c.def_ 26 (d := dd "_law_out" 37) rfl
  have hm := He.glo_ok X G (c.fact 26 (f := .glo "_law_out") rfl)
  exact fnAt_of (fe := tab[26]) (st := top 37) F hm (fun _ _ _ _ _ _ us hl => match us, hl with | [_, _], _ => rfl) (fun _ _ _ _ _ _ us hl => match us, hl with | [_, _], _ => rfl) (by decide +kernel)
theorem at27 (X : K.In h) (G : h.Ns mainGlobals mg) (c : He.SaysD fa fn K) : FnAt K mg tab gs (tab[27]) := by
  obtain ⟨fd, F⟩ := c.def_ 27 (d := dd "_law_reached" 38) rfl
  have hm := He.glo_ok X G (c.fact 27 (f := .glo "_law_reached") rfl)
  exact fnAt_of (fe := tab[27]) (st := top 38) F hm (fun _ _ _ _ _ _ us hl => match us, hl with | [_, _], _ => rfl) (fun _ _ _ _ _ _ us hl => match us, hl with | [_, _], _ => rfl) (by decide +kernel)
theorem at28 (X : K.In h) (G : h.Ns mainGlobals mg) (c : He.SaysD fa fn K) : FnAt K mg tab gs (tab[28]) := by
  obtain ⟨fd, F⟩ := c.def_ 28 (d := dd "_law_walk" 39) rfl
  have hm := He.glo_ok X G (c.fact 28 (f := .glo "_law_walk") rfl)
  exact fnAt_of (fe := tab[28]) (st := top 39) F hm (fun _ _ _ _ _ _ us hl => match us, hl with | [_, _, _], _ => rfl) (fun _ _ _ _ _ _ us hl => match us, hl with | [_, _, _], _ => rfl) (by decide +kernel)
theorem at29 (X : K.In h) (G : h.Ns mainGlobals mg) (c : He.SaysD fa fn K) : FnAt K mg tab gs (tab[29]) := by
  obtain ⟨fd, F⟩ := c.def_ 29 (d := dd "_law_right" 40) rfl
  have hm := He.glo_ok X G (c.fact 29 (f := .glo "_law_right") rfl)
  exact fnAt_of (fe := tab[29]) (st := top 40) F hm (fun _ _ _ _ _ _ us hl => match us, hl with | [_], _ => rfl) (fun _ _ _ _ _ _ us hl => match us, hl with | [_], _ => rfl) (by decide +kernel)
theorem at30 (X : K.In h) (G : h.Ns mainGlobals mg) (c : He.SaysD fa fn K) : FnAt K mg tab gs (tab[30]) := by
  obtain ⟨fd, F⟩ := c.def_ 30 (d := dd "law" 41) rfl
  have hm := He.glo_ok X G (c.fact 30 (f := .glo "law") rfl)
  exact fnAt_of (fe := tab[30]) (st := top 41) F hm (fun _ _ _ _ _ _ us hl => match us, hl with | [_], _ => rfl) (fun _ _ _ _ _ _ us hl => match us, hl with | [_], _ => rfl) (by decide +kernel)
theorem atAll (X : K.In h) (G : h.Ns mainGlobals mg) (c : He.SaysD fa fn K) : ∀ (i : Nat) fe, tab[i]? = some fe → FnAt K mg tab gs fe := fun i fe hi => by
  have hl : i < 31 := by have := (List.getElem?_eq_some_iff.mp hi).1; exact this
  match i, hl, hi with
  | 0, _, hi => cases hi; exact at0 X G c
  | 1, _, hi => cases hi; exact at1 X G c
  | 2, _, hi => cases hi; exact at2 X G c
  | 3, _, hi => cases hi; exact at3 X G c
  | 4, _, hi => cases hi; exact at4 X G c
  | 5, _, hi => cases hi; exact at5 X G c
  | 6, _, hi => cases hi; exact at6 X G c
  | 7, _, hi => cases hi; exact at7 X G c
  | 8, _, hi => cases hi; exact at8 X G c
  | 9, _, hi => cases hi; exact at9 X G c
  | 10, _, hi => cases hi; exact at10 X G c
  | 11, _, hi => cases hi; exact at11 X G c
  | 12, _, hi => cases hi; exact at12 X G c
  | 13, _, hi => cases hi; exact at13 X G c
  | 14, _, hi => cases hi; exact at14 X G c
  | 15, _, hi => cases hi; exact at15 X G c
  | 16, _, hi => cases hi; exact at16 X G c
  | 17, _, hi => cases hi; exact at17 X G c
  | 18, _, hi => cases hi; exact at18 X G c
  | 19, _, hi => cases hi; exact at19 X G c
  | 20, _, hi => cases hi; exact at20 X G c
  | 21, _, hi => cases hi; exact at21 X G c
  | 22, _, hi => cases hi; exact at22 X G c
  | 23, _, hi => cases hi; exact at23 X G c
  | 24, _, hi => cases hi; exact at24 X G c
  | 25, _, hi => cases hi; exact at25 X G c
  | 26, _, hi => cases hi; exact at26 X G c
  | 27, _, hi => cases hi; exact at27 X G c
  | 28, _, hi => cases hi; exact at28 X G c
  | 29, _, hi => cases hi; exact at29 X G c
  | 30, _, hi => cases hi; exact at30 X G c
theorem blt (X : K.In h) (G : h.Ns mainGlobals mg) (c : He.SaysD fa fn K) : ∀ x : Str, x ∈ (["len", "abs", "int", "max", "min", "sum", "sorted", "tuple", "list", "all", "any", "repr", "set", "range", "enumerate", "zip", "isinstance", "bool", "str", "dict"] : List Str) → mg x = none := fun x hx => by
  simp only [List.mem_cons, List.not_mem_nil, or_false] at hx
  rcases hx with rfl | rfl | rfl | rfl | rfl | rfl | rfl | rfl | rfl | rfl | rfl | rfl | rfl | rfl | rfl | rfl | rfl | rfl | rfl | rfl
  · exact He.free_ok X G (c.fact 31 (f := .free "len") rfl)
  · exact He.free_ok X G (c.fact 32 (f := .free "abs") rfl)
  · exact He.free_ok X G (c.fact 33 (f := .free "int") rfl)
  · exact He.free_ok X G (c.fact 34 (f := .free "max") rfl)
  · exact He.free_ok X G (c.fact 35 (f := .free "min") rfl)
  · exact He.free_ok X G (c.fact 36 (f := .free "sum") rfl)
  · exact He.free_ok X G (c.fact 37 (f := .free "sorted") rfl)
  · exact He.free_ok X G (c.fact 38 (f := .free "tuple") rfl)
  · exact He.free_ok X G (c.fact 39 (f := .free "list") rfl)
  · exact He.free_ok X G (c.fact 40 (f := .free "all") rfl)
  · exact He.free_ok X G (c.fact 41 (f := .free "any") rfl)
  · exact He.free_ok X G (c.fact 42 (f := .free "repr") rfl)
  · exact He.free_ok X G (c.fact 43 (f := .free "set") rfl)
  · exact He.free_ok X G (c.fact 44 (f := .free "range") rfl)
  · exact He.free_ok X G (c.fact 45 (f := .free "enumerate") rfl)
  · exact He.free_ok X G (c.fact 46 (f := .free "zip") rfl)
  · exact He.free_ok X G (c.fact 47 (f := .free "isinstance") rfl)
  · exact He.free_ok X G (c.fact 48 (f := .free "bool") rfl)
  · exact He.free_ok X G (c.fact 49 (f := .free "str") rfl)
  · exact He.free_ok X G (c.fact 50 (f := .free "dict") rfl)
theorem glb (X : K.In h) (G : h.Ns mainGlobals mg) (c : He.SaysD fa fn K) : ∀ (x : Str) (i : Int), gs.lookup x = some i → ∃ t, mg x = some (.int i t) := fun x i hx => by
  unfold gs at hx
  simp only [List.lookup_cons, List.lookup_nil] at hx
  by_cases q0 : x = ("MOST_PLACES" : Str)
  · subst q0
    have e : some (7 : Int) = some i := hx
    cases e
    exact He.int_ok X G (c.fact 51 (f := .int "MOST_PLACES" (7)) rfl)
  rw [show (x == ("MOST_PLACES" : Str)) = false from beq_eq_false_iff_ne.mpr q0] at hx
  simp only at hx
  by_cases q1 : x = ("MOST_ARROWS" : Str)
  · subst q1
    have e : some (16 : Int) = some i := hx
    cases e
    exact He.int_ok X G (c.fact 52 (f := .int "MOST_ARROWS" (16)) rfl)
  rw [show (x == ("MOST_ARROWS" : Str)) = false from beq_eq_false_iff_ne.mpr q1] at hx
  simp only at hx
  cases hx
end
abbrev R : PySem.W.OpenRow := PySem.W.OpenLaw.row PySem.Challenge.rw_staysjoined_k80_whole_walks_and_classes
abbrev hk : PySem.W.Hook := He.hookD 4 fa fn
def ob (s : PySem.W.SharedT) : He.AlD := He.obsDG 4 fa fn (HandSHeadRun.getT s)
theorem ob_eq (s : PySem.W.SharedT) : ob s = hk.obs s.abs := He.obsDG_eq (HandSHeadRun.getT_eq s)
def loose0 : List Str := ["is_integer", "is_position", "are_rising", "WebError", "InvalidSet", "InvalidPlace", "InvalidArrows", "mask_of", "MOST_PLACES", "MOST_ARROWS", "arrow_is_right", "arrows_are_right", "enters", "turned_pairs", "comes_from", "classes_of", "check_arrows", "check_place", "check_set", "entering", "leaving", "walk", "arrow_classes", "sources", "sinks", "all_reach", "_law_pot", "_law_draw", "_law_pick", "_law_arrows"]
def loose1 : List Str := ["_law_sets", "_law_into", "_law_out", "_law_reached", "_law_walk", "_law_right"]
def loose : List Str := loose0 ++ loose1
theorem run (w : World) : HandSHeadRun.RunEq R (PySem.W.view R.prog [41]) hk ob 20000 loose w := by
  intro os
  kernel_rfl
end T80
open PySem PySem.W PySem.Calls PyProof.Rows
theorem PySem.Challenge.cw_staysjoined_k80_whole_walks_and_classes_holds : PySem.Challenge.rw_staysjoined_k80_whole_walks_and_classes.Holds := by
  w_on; o_law
  refine HandSHeadRun.head_any (r := OpenLaw.row PySem.Challenge.rw_staysjoined_k80_whole_walks_and_classes) (q := view (OpenLaw.row PySem.Challenge.rw_staysjoined_k80_whole_walks_and_classes).prog [41]) (H := T80.hk) (ob := T80.ob) (M := 20000) (loose := T80.loose) (d := HandSHeadRun.topDef (OpenLaw.row PySem.Challenge.rw_staysjoined_k80_whole_walks_and_classes).prog 41) (kwd := []) T80.ob_eq
    (by kernel_rfl) (fun s => by kernel_rfl) T80.run (by kernel_rfl) (by kernel_rfl) (by kernel_rfl) (by rfl) (by first | assumption | decide +kernel) (by decide +kernel) ⟨rfl, rfl, rfl, rfl, rfl, by decide +kernel⟩ ?hw ?hc
  case hw => w_witness2
  case hc =>
    refine Cr.walk_ofEG (l := PySem.Challenge.rw_staysjoined_k80_whole_walks_and_classes) (n := 63) (k := 40 + 1) (x := "script") rfl (by decide) (by kernel_rfl) ⟨rfl, by decide, by decide⟩ ?F
    intro w mg fa h Y G hmg0
    obtain ⟨K, KX, c⟩ := Y
    have hmg : mg ("law" : PySem.Str) = some (.ref fa) := by
      have e : (HandSHeadRun.topDef (OpenLaw.row PySem.Challenge.rw_staysjoined_k80_whole_walks_and_classes).prog 41).name = ("law" : PySem.Str) := by kernel_rfl
      rw [← e]
      exact hmg0
    obtain ⟨fd, sp, h1, h2, h3⟩ := Cr.law_of (P := (PySem.Challenge.rw_staysjoined_k80_whole_walks_and_classes).prog) (w := w) (T := T80.tab) (gs := T80.gs) (fuel := T80.fuel) (lvl := 40) (i := 30) (fe := T80.tab[30]) (x := "script") (T80.blt KX G c) (T80.glb KX G c) (T80.atAll KX G c) rfl rfl rfl rfl hmg T80.law_ok
    exact ⟨K, fd, sp, KX, h1, h2, h3⟩
