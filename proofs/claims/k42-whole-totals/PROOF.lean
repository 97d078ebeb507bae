import PyProof.Rows.All
import Wide.All
import OpenK.AllK
import Wide.FinOn
import HandS.ForExc
import HandS.ForMost
import HandS.Wide
import HandS.TupMul
import HandS.Text
import HandS.RaiseMore
import HandS.Flow
import HandS.SortInts
import HandS.TryOnly
import HandS.Walk
import HandS.IsInst
import HandS.ExcIs
import HandS.ExcOwn
import PySem.Challenge.RW_beatchips_k42_whole_totals
set_option Elab.async false
set_option linter.all false
set_option maxRecDepth 100000
set_option maxHeartbeats 8000000

/-! BSem: own codes for Python text, their evaluator over plain data. -/
namespace BC
open PySem

/-- a value: data, a cell of the world, a cell of the opened box, a caught error -/
inductive Va where
  | d (x : PyData) | c (k : Nat) | b (k : Nat) | x (n : Nat) | s (ns : List Int)
/-- a field: a value, a list of its own, a list that stands still (of parts, too) -/
inductive Fv where
  | v (x : Va) | ol (xs : List PyData) | fl (xs : List Va)
/-- what may change: a list, an instance, an instance with parts -/
inductive Re where
  | lst (xs : List PyData) | frz (xs : List PyData) | ins (c : Nat) (fs : List (Nat × Fv)) | box (rs : List Re)
/-- what is handed to a def: data, an error, what may change -/
inductive Av where
  | d (x : PyData) | x (n : Nat) | s (ns : List Int) | r (r : Re)
structure Sg where
  ρ : List (Option Va)
  B : List Re
  W : List Re
inductive Rs (α : Type) where
  | ok (a : α) (s : Sg) | err (c : Nat) (s : Sg) | stuck
inductive Fr where
  | ok (v : Av) (o : List Re) | err (c : Nat) (o : List Re) | stuck
abbrev Fn := List Av → Fr
abbrev Tbl := Nat → Fn

def Rs.bind {α β : Type} : Rs α → (α → Sg → Rs β) → Rs β
  | .ok a s, k => k a s
  | .err c s, _ => .err c s
  | .stuck, _ => .stuck
@[simp] theorem bind_ok {α β : Type} (a : α) (s : Sg) (k : α → Sg → Rs β) : (Rs.ok a s).bind k = k a s := rfl
@[simp] theorem bind_err {α β : Type} (c : Nat) (s : Sg) (k : α → Sg → Rs β) : (Rs.err c s : Rs α).bind k = .err c s := rfl
@[simp] theorem bind_stuck {α β : Type} (k : α → Sg → Rs β) : (Rs.stuck : Rs α).bind k = .stuck := rfl

/-! ### operations on data -/
abbrev lim : Nat := 1000000
abbrev big : Int := 2 ^ 64
abbrev huge : Nat := 2 ^ 4000
def addD : PyData → PyData → Option PyData
  | .int a, .int b => some (.int (a + b))
  | .str x, .str y => if x.length + y.length ≤ lim then some (.str (x ++ y)) else none
  | .list a, .list b => if a.length + b.length ≤ lim then some (.list (a ++ b)) else none
  | .tuple a, .tuple b => if a ≠ [] ∧ a.length + b.length ≤ lim then some (.tuple (a ++ b)) else none
  | _, _ => none
def subD : PyData → PyData → Option PyData
  | .int a, .int b => some (.int (a - b))
  | _, _ => none
def mulD : PyData → PyData → Option PyData
  | .int a, .int b => if (-big < a ∧ a < big) ∨ (-big < b ∧ b < big) ∨ (a.natAbs < huge ∧ b.natAbs < huge) then some (.int (a * b)) else none
  | .list a, .int n => if -(2 ^ 63) ≤ n ∧ n < 2 ^ 63 ∧ a.length * n.toNat ≤ lim then some (.list (List.replicate n.toNat a).flatten) else none
  | .tuple a, .int n => if 2 ≤ n ∧ n ≤ 1000 ∧ a ≠ [] ∧ a.length ≤ 1000 then some (.tuple (List.replicate n.toNat a).flatten) else none
  | _, _ => none
def divD : PyData → PyData → Option PyData
  | .int a, .int b => if 0 < b ∧ b.natAbs < huge then some (.int (a / b)) else none
  | _, _ => none
def modD : PyData → PyData → Option PyData
  | .int a, .int b => if 0 < b then some (.int (a % b)) else none
  | _, _ => none
def powD : PyData → PyData → Option PyData
  | .int a, .int b => if 0 ≤ b ∧ b ≤ 1000 ∧ -big < a ∧ a < big then some (.int (a ^ b.toNat)) else none
  | _, _ => none
inductive Bo where
  | add | sub | mul | div | mod | pow
  deriving DecidableEq
def binD : Bo → PyData → PyData → Option PyData
  | .add => addD | .sub => subD | .mul => mulD | .div => divD | .mod => modD | .pow => powD

/-- none, bool, int, str -/
def flatD : PyData → Bool
  | .none => true | .bool _ => true | .int _ => true | .str _ => true
  | _ => false
def intsD : List PyData → Option (List Int)
  | [] => some []
  | .int i :: r => (intsD r).map (i :: ·)
  | _ :: _ => none
def boolsD : List PyData → Option (List Bool)
  | [] => some []
  | .bool i :: r => (boolsD r).map (i :: ·)
  | _ :: _ => none
def strsD : List PyData → Option (List Str)
  | [] => some []
  | .str i :: r => (strsD r).map (i :: ·)
  | _ :: _ => none
inductive Co where
  | eq | ne | lt | le | gt | ge | isIn | notIn
  deriving DecidableEq
/-- x in xs, for flat things; a text in a text -/
def inD (x y : PyData) : Option Bool :=
  match y with
  | .list ys => if flatD x && ys.all flatD then some (ys.any fun z => PyData.eqv z x) else none
  | .tuple ys => if flatD x && ys.all flatD then some (ys.any fun z => PyData.eqv z x) else none
  | .str t => match x with
    | .str u => some (!(Builtin.Str.occurrences t u 0 t.length 1).isEmpty)
    | _ => none
  | _ => none
def eqD (x y : PyData) : Option Bool := if SeqAt.shaped x && SeqAt.shaped y then some (PyData.eqv x y) else none
def ltD : PyData → PyData → Option Bool
  | .int a, .int b => some (decide (a < b))
  | .tuple a, .tuple b => match intsD a, intsD b with
    | some m, some n => some (HT.lexLt m n)
    | _, _ => none
  | _, _ => none
def cmpD : Co → PyData → PyData → Option Bool
  | .eq, x, y => eqD x y
  | .ne, x, y => (eqD x y).map (!·)
  | .lt, x, y => ltD x y
  | .le, .int a, .int b => some (decide (a ≤ b))
  | .gt, .int a, .int b => some (decide (b < a))
  | .ge, .int a, .int b => some (decide (b ≤ a))
  | .isIn, x, y => inD x y
  | .notIn, x, y => (inD x y).map (!·)
  | _, _, _ => none
def truthD : PyData → Option Bool
  | .none => some false
  | .bool b => some b
  | .int i => some (i != 0)
  | .str s => if s.length ≤ lim then some (s.length != 0) else none
  | .list l => some (!l.isEmpty)
  | .tuple l => some (!l.isEmpty)
  | _ => none
def idxD : PyData → PyData → Option PyData
  | .list l, .int i => L2.atI l i
  | .tuple l, .int i => L2.atI l i
  | .str z, .int i => if z.length ≤ lim then (L2.atI z.cps.toList i).map fun c => .str ⟨#[c]⟩ else none
  | _, _ => none
/-- a slice's part -/
def cutD (xs : List PyData) (lo hi : Option Int) : List PyData :=
  (xs.drop (HT.sIx xs.length 0 lo)).take (HT.sIx xs.length xs.length hi - HT.sIx xs.length 0 lo)
def sliceD (a : PyData) (lo hi : Option Int) : Option PyData :=
  match a with
  | .list l => some (.list (cutD l lo hi))
  | .tuple l => if HT.sIx l.length 0 lo = 0 ∧ HT.sIx l.length l.length hi = l.length then none else some (.tuple (cutD l lo hi))
  | .str z => if z.length ≤ lim then some (.str (L2.cutS z lo hi)) else none
  | _ => none

/-- built-in functions of data -/
inductive Bf where
  | len | abs | min2 | max2 | min1 | max1 | sum | sorted | sortedSet | tuple | list | int | str | all | rangeL1 | rangeL2 | count | index | join | split
  deriving DecidableEq
def isort (l : List Int) : List Int := l.mergeSort (fun a b => decide (a ≤ b))
def minL : List Int → Int
  | [] => 0
  | [a] => a
  | a :: r => min a (minL r)
def maxL : List Int → Int
  | [] => 0
  | [a] => a
  | a :: r => max a (maxL r)
def listOf : PyData → Option (List PyData)
  | .list l => some l
  | .tuple l => some l
  | _ => none
def bLen : List PyData → Option PyData
  | [.list l] => some (.int l.length)
  | [.tuple l] => some (.int l.length)
  | [.str z] => if z.length ≤ lim then some (.int z.length) else none
  | _ => none
def bAbs : List PyData → Option PyData
  | [.int i] => some (.int (if i < 0 then -i else i))
  | _ => none
def bMin2 : List PyData → Option PyData
  | [.int i, .int j] => some (.int (if j < i then j else i))
  | _ => none
def bMax2 : List PyData → Option PyData
  | [.int i, .int j] => some (.int (if j > i then j else i))
  | _ => none
def bMin1 : List PyData → Option PyData
  | [.list l] => match intsD l with
    | some (a :: r) => some (.int (minL (a :: r)))
    | _ => none
  | _ => none
def bMax1 : List PyData → Option PyData
  | [.list l] => match intsD l with
    | some (a :: r) => some (.int (maxL (a :: r)))
    | _ => none
  | _ => none
def bSum : List PyData → Option PyData
  | [.list l] => (intsD l).map fun n => .int n.sum
  | _ => none
def bSorted : List PyData → Option PyData
  | [.list l] => (intsD l).map fun n => .list ((isort n).map .int)
  | _ => none
def bTuple : List PyData → Option PyData
  | [.list l] => some (.tuple l)
  | [.tuple l] => some (.tuple l)
  | _ => none
def bList : List PyData → Option PyData
  | [.list l] => some (.list l)
  | [.tuple l] => some (.list l)
  | _ => none
def bInt : List PyData → Option PyData
  | [.int i] => some (.int i)
  | [.bool b] => some (.int (if b then 1 else 0))
  | _ => none
def bStr : List PyData → Option PyData
  | [.int i] => if -big < i ∧ i < big then some (.str (toString i)) else none
  | [.str z] => some (.str z)
  | _ => none
def bAll : List PyData → Option PyData
  | [.list l] => (boolsD l).map fun n => .bool (n.all id)
  | _ => none
def bfD : Bf → List PyData → Option PyData
  | .len => bLen | .abs => bAbs | .min2 => bMin2 | .max2 => bMax2 | .min1 => bMin1 | .max1 => bMax1 | .sum => bSum | .sorted => bSorted
  | .tuple => bTuple | .list => bList | .int => bInt | .str => bStr | .all => bAll
  | _ => fun _ => none

/-! ### codes -/
inductive Xe where
  | nil | cons (a r : Xe)
  | var (i : Nat) | frz (i : Nat) | cst (x : PyData) | glob (g : Nat)
  | neg (a : Xe) | bin (o : Bo) (a b : Xe) | cmp (o : Co) (a b : Xe) | chain (o p : Co) (a b c : Xe) | isN (a : Xe) | isNot (a : Xe)
  | and (a b : Xe) | or (a b : Xe) | one (a : Xe) | not (a : Xe) | ifx (t a b : Xe)
  | tup (as : Xe) | lst (as : Xe) | idx (a i : Xe) | slice (a lo hi : Xe)
  | fld (o : Xe) (f : Nat) | fidx (o : Xe) (f : Nat) (i : Xe) | flen (o : Xe) (f : Nat) | ftru (o : Xe) (f : Nat) | fcopy (o : Xe) (f : Nat) | fpop (o : Xe) (f : Nat) | ffrz (o : Xe) (f : Nat)
  | call (f m : Nat) (as : Xe) | meth (f c : Nat) (o as : Xe)
  | bf (f : Bf) (as : Xe) | isi (a : Xe) (t : Nat) | pop (i : Nat)
  | sseq (e : Xe) | sfl (o : Xe) (f : Nat) | srng1 (a : Xe) | srng2 (a b : Xe) | sstr (e : Xe)
  | comp (src : Xe) (tg own : List Nat) (cond elt : Xe)
def Xe.isNil : Xe → Bool
  | .nil => true
  | _ => false
inductive Tg where
  | name (i : Nat) | names (is : List Nat) | namesL (is : List Nat)
inductive Cd where
  | nil | seq (a b : Cd) | pass | brk | cont
  | asg (t : Tg) (e : Xe) | par (i j : Nat) (a b : Xe)
  | newL (i : Nat) (as : Xe) | newR (i : Nat) (a n : Xe) | newC (i : Nat) (a b : Xe)
  | app (i : Nat) (e : Xe) | ext (i : Nat) (e : Xe) | set (i : Nat) (j e : Xe)
  | setf (o : Xe) (f : Nat) (e : Xe) | setfs (o : Xe) (fs : List Nat) (e : Xe) | newF (o : Xe) (f : Nat) (as : Xe) | newFR (o : Xe) (f : Nat) (a n : Xe) | newFC (o : Xe) (f : Nat) (src : Xe) (tg own : List Nat) (elt : Xe) | newFO (o : Xe) (f : Nat) (e : Xe)
  | fapp (o : Xe) (f : Nat) (e : Xe) | fset (o : Xe) (f : Nat) (i e : Xe)
  | drop (e : Xe) | ret (e : Xe) | retN
  | ite (c : Xe) (a b : Cd) | for_ (t : Tg) (src : Xe) (body : Cd) | whl (n : Nat) (c : Xe) (body : Cd)
  | raise (c : Nat) | tryA (c ie j : Nat) (body : Cd) | tryR (c : Nat) (body : Cd) (x : PyData) | tryS (c : Nat) (body : Cd) (i : Nat) (x : PyData)
inductive Fl where
  | next | brk | cont | ret (v : Va)

/-! ### the world -/
abbrev M (α : Type) := Sg → Rs α
def lift {α : Type} (o : Option α) (s : Sg) : Rs α := match o with
  | some a => .ok a s
  | none => .stuck
@[simp] theorem lift_some {α : Type} (a : α) (s : Sg) : lift (some a) s = .ok a s := rfl
@[simp] theorem lift_none {α : Type} (s : Sg) : lift (none : Option α) s = .stuck := rfl
/-- what is read at a value: data, the items of a list that may change -/
def peek (s : Sg) : Va → Option PyData
  | .d x => some x
  | .c k => match s.W[k]? with
    | some (.lst xs) => some (.list xs)
    | some (.frz xs) => some (.list xs)
    | _ => none
  | _ => none
/-- .. or the script -/
def peekR (s : Sg) : Va → Option PyData
  | .s ns => some (.list (ns.map .int))
  | v => peek s v
def peeks (s : Sg) : List Va → Option (List PyData)
  | [] => some []
  | v :: r => match peekR s v, peeks s r with
    | some x, some xs => some (x :: xs)
    | _, _ => none
/-- data as data -/
def solid (s : Sg) : Va → Option PyData
  | .d x => some x
  | .c k => match s.W[k]? with
    | some (.frz xs) => some (.list xs)
    | _ => none
  | _ => none
def solids (s : Sg) : List Va → Option (List PyData)
  | [] => some []
  | v :: r => match solid s v, solids s r with
    | some x, some xs => some (x :: xs)
    | _, _ => none
def Fv.closed : Fv → Bool
  | .v (.d _) => true
  | .v _ => false
  | .ol _ => true
  | .fl _ => false
def Re.closed : Re → Bool
  | .ins _ fs => fs.all fun p => p.2.closed
  | _ => true
def Re.plain : Re → Bool
  | .box _ => false
  | _ => true
def Re.cls : Re → Option Nat
  | .ins c _ => some c
  | .box (.ins c _ :: _) => some c
  | _ => none
def openB : Re → List Re
  | .box rs => rs
  | r => [r]
def closeB : List Re → Re
  | [r] => r
  | rs => .box rs
/-- the object at a value -/
def resOf (s : Sg) : Va → Option Re
  | .c k => s.W[k]?
  | .b 0 => match s.B with
    | .ins c fs :: rs => some (closeB (.ins c fs :: rs))
    | _ => none
  | .b (k + 1) => s.B[k + 1]?
  | _ => none
def setRes (s : Sg) : Va → Re → Sg
  | .c k, r => { s with W := s.W.set k r }
  | .b 0, r => { s with B := openB r }
  | .b (k + 1), r => { s with B := s.B.set (k + 1) r }
  | _, _ => s
/-- the attribute owner at a value: an instance of the box, or of the world -/
def insOf (s : Sg) : Va → Option (Nat × List (Nat × Fv))
  | .b k => match s.B[k]? with
    | some (.ins c fs) => if fs.length < 100 then some (c, fs) else none
    | _ => none
  | _ => none
def setIns (s : Sg) : Va → Nat → List (Nat × Fv) → Sg
  | .b k, c, fs => { s with B := s.B.set k (.ins c fs) }
  | _, _, _ => s
def getN (f : Nat) : List (Nat × Fv) → Option Fv
  | [] => none
  | (g, v) :: r => if g = f then some v else getN f r
def putN (f : Nat) (v : Fv) : List (Nat × Fv) → List (Nat × Fv)
  | [] => [(f, v)]
  | (g, w) :: r => if g = f then (g, v) :: r else (g, w) :: putN f v r
def Va.tag : Va → Nat × Nat
  | .c k => (0, k)
  | .b k => (1, k)
  | _ => (2, 0)
def goes (s : Sg) (v : Va) (r : Re) : Bool := r.closed || (v.tag == (1, 0) && s.B.length != 1)
/-- an argument: data as data; what may change as it is, and where it goes back to -/
def toAv (s : Sg) (v : Va) : Option (Av × List Va) :=
  match v with
  | .d x => some (.d x, [])
  | .x n => some (.x n, [])
  | .s ns => some (.s ns, [])
  | v => match solid s v with
    | some x => some (.d x, [])
    | none => match resOf s v with
      | some r => if goes s v r then some (.r r, [v]) else none
      | none => none
def toAvs (s : Sg) : List Va → Option (List Av × List Va)
  | [] => some ([], [])
  | v :: r => match toAv s v, toAvs s r with
    | some (a, b), some (as, bs) => some (a :: as, b ++ bs)
    | _, _ => none
/-- no cell twice; the opened box goes alone -/
def apart (vs : List Va) : Bool := decide ((vs.map Va.tag).Nodup) && (!(vs.any fun v => v.tag == (1, 0)) || vs.all fun v => v.tag == (1, 0) || v.tag.1 == 0)
def backOk (s : Sg) : List Va → List Re → Bool
  | .b 0 :: vs, r :: rs => decide (s.B.length ≤ (openB r).length) && backOk s vs rs
  | _ :: vs, _ :: rs => backOk s vs rs
  | [], [] => true
  | _, _ => false
def backAll (s : Sg) : List Va → List Re → Sg
  | v :: vs, r :: rs => backAll (setRes s v r) vs rs
  | _, _ => s
/-- a call by value and result; m = 0: a new object goes to the world, 1: to the box -/
def b0ok (op : Bool) : List Va → Bool
  | [] => true
  | v :: r => (v.tag != (1, 0) || op) && r.all fun v => v.tag != (1, 0)
def run (φ : Fn) (op : Bool) (m : Nat) (vs : List Va) (s : Sg) : Rs Va :=
  match toAvs s vs with
  | none => .stuck
  | some (as, cs) => if apart cs && b0ok op cs then
      match φ as with
      | .ok v outs => if backOk s cs outs then
          let t := backAll s cs outs
          match v with
          | .d x => .ok (.d x) t
          | .x _ => .stuck
          | .s _ => .stuck
          | .r r => if m = 0 then .ok (.c t.W.length) { t with W := t.W ++ [r] }
              else match t.B with
                | [] => .ok (.b 0) { t with B := openB r }
                | _ => if r.closed then .ok (.b t.B.length) { t with B := t.B ++ [r] } else .stuck
          else .stuck
      | .err c outs => if backOk s cs outs then .err c (backAll s cs outs) else .stuck
      | .stuck => .stuck
    else .stuck

def one1 {β : Type} (r : Rs (List Va)) (k : Va → Sg → Rs β) : Rs β := r.bind fun vs s => match vs with
  | [v] => k v s
  | _ => .stuck
@[simp] theorem one1_ok {β : Type} (v : Va) (s : Sg) (k : Va → Sg → Rs β) : one1 (.ok [v] s) k = k v s := rfl
@[simp] theorem one1_err {β : Type} (c : Nat) (s : Sg) (k : Va → Sg → Rs β) : one1 (.err c s) k = .err c s := rfl
@[simp] theorem one1_stuck {β : Type} (k : Va → Sg → Rs β) : one1 .stuck k = .stuck := rfl
def dat (x : PyData) (s : Sg) : Rs (List Va) := .ok [.d x] s
@[simp] theorem one1_dat {β : Type} (x : PyData) (s : Sg) (k : Va → Sg → Rs β) : one1 (dat x s) k = k (.d x) s := rfl
def boolO (o : Option Bool) (s : Sg) : Rs (List Va) := match o with
  | some b => dat (.bool b) s
  | none => .stuck
def datO (o : Option PyData) (s : Sg) : Rs (List Va) := match o with
  | some b => dat b s
  | none => .stuck
@[simp] theorem boolO_some (b : Bool) (s : Sg) : boolO (some b) s = dat (.bool b) s := rfl
@[simp] theorem boolO_none (s : Sg) : boolO none s = .stuck := rfl
@[simp] theorem datO_some (b : PyData) (s : Sg) : datO (some b) s = dat b s := rfl
@[simp] theorem datO_none (s : Sg) : datO none s = .stuck := rfl
/-- truth -/
def tru (v : Va) (s : Sg) : Rs Bool := match peekR s v with
  | some x => lift (truthD x) s
  | none => .stuck
def partI : Va → Sg → Rs (Option Int)
  | .d (.int i), s => .ok (some i) s
  | _, _ => .stuck
def partM (b : Bool) (f : M (List Va)) : M (Option Int) := fun s => if b then .ok none s else one1 (f s) partI
def condM (b : Bool) (f : M (List Va)) : M Bool := fun s => if b then .ok true s else one1 (f s) tru
def isNone : Va → Bool
  | .d .none => true
  | _ => false
/-- isinstance: 0 int, 1 bool, 2 str, 3 tuple, 4 list, 5 dict, 6 ValueError; 10 + n: the own error n -/
def isiD : PyData → Nat → Option Bool
  | .none, t => if t < 6 then some false else none
  | .bool _, t => if t < 6 then some (t == 0 || t == 1) else none
  | .int _, t => if t < 6 then some (t == 0) else none
  | .str _, t => if t < 6 then some (t == 2) else none
  | .tuple _, t => if t < 6 then some (t == 3) else none
  | .list _, t => if t < 6 then some (t == 4) else none
  | _, _ => none
/-- 0 is the class above all own errors -/
def isiX (n t : Nat) : Option Bool := if t = 6 then some true else if 10 ≤ t then some (t == 10 || t == 10 + n) else none
def isiV (v : Va) (t : Nat) (s : Sg) : Option Bool := match v with
  | .x n => isiX n t
  | v => match peek s v with
    | some x => isiD x t
    | none => none
/-- stores an item into the target's slots -/
def setIs : List Nat → List PyData → Sg → Option Sg
  | [], [], s => some s
  | i :: is, x :: xs, s => setIs is xs { s with ρ := s.ρ.set i (some (.d x)) }
  | _, _, _ => none
def setTg (t : Tg) (v : Va) (s : Sg) : Option Sg := match t with
  | .name i => some { s with ρ := s.ρ.set i (some v) }
  | .names is => match solid s v with
    | some (.tuple xs) => setIs is xs s
    | _ => none
  | .namesL is => match solid s v with
    | some (.list xs) => setIs is xs s
    | _ => none
def tgOf : List Nat → Tg
  | [i] => .name i
  | is => .names is
def wipeR (ρ : List (Option Va)) : List Nat → List (Option Va)
  | [] => ρ
  | i :: is => (wipeR ρ is).set i none
/-- one turn after another of a comprehension: the items made so far -/
def compL (f : Va → Sg → Rs (Option Va)) : List Va → List Va → Sg → Rs (List Va)
  | [], acc, s => .ok acc s
  | v :: r, acc, s => match f v s with
    | .ok (some y) s' => if acc.length < lim then compL f r (acc ++ [y]) s' else .stuck
    | .ok none s' => compL f r acc s'
    | _ => .stuck
def loopL (f : Va → Sg → Rs Fl) : List Va → Sg → Rs Fl
  | [], s => .ok .next s
  | v :: r, s => match f v s with
    | .ok .next s' => loopL f r s'
    | .ok .cont s' => loopL f r s'
    | .ok .brk s' => .ok .next s'
    | .ok (.ret x) s' => .ok (.ret x) s'
    | .err c s' => .err c s'
    | .stuck => .stuck
def whileL (c : M Bool) (f : M Fl) : Nat → M Fl
  | 0, _ => .stuck
  | n + 1, s => (c s).bind fun b s1 => if b then
      match f s1 with
      | .ok .next s' => whileL c f n s'
      | .ok .cont s' => whileL c f n s'
      | .ok .brk s' => .ok .next s'
      | .ok (.ret x) s' => .ok (.ret x) s'
      | .err e s' => .err e s'
      | .stuck => .stuck
    else .ok .next s1
def rangeL (lo hi : Int) : List Va := (List.range (hi - lo).toNat).map fun (i : Nat) => .d (.int (lo + (i : Int)))
def rngOk (i j : Int) : Prop := -(2 ^ 60) ≤ i ∧ i < 2 ^ 60 ∧ -(2 ^ 60) ≤ j ∧ j < 2 ^ 60
instance (i j : Int) : Decidable (rngOk i j) := by unfold rngOk; infer_instance
/-- a comprehension over its three parts -/
def compM (src : M (List Va)) (tg own : List Nat) (cond : M Bool) (elt : M (List Va)) (s : Sg) : Rs (List Va) :=
  (src s).bind fun items s1 =>
    (compL (fun v t => match setTg (tgOf tg) v { t with ρ := wipeR s1.ρ own } with
      | some t1 => (cond t1).bind fun b t2 => if b then one1 (elt t2) fun y t3 => .ok (some y) t3 else .ok none t2
      | none => .stuck) items [] s1).bind fun vs t => .ok vs { t with ρ := s1.ρ }

section
variable (Φ : Tbl) (gl : Nat → PyData)
def sem : Xe → M (List Va)
  | .nil, s => .ok [] s
  | .cons a r, s => one1 (sem a s) fun x s => (sem r s).bind fun xs s => .ok (x :: xs) s
  | .var i, s => match s.ρ[i]? with
    | some (some v) => .ok [v] s
    | _ => .stuck
  | .frz i, s => match s.ρ[i]? with
    | some (some (.c k)) => match s.W[k]? with
      | some (.lst xs) => dat (.list xs) { s with W := s.W.set k (.frz xs) }
      | some (.frz xs) => dat (.list xs) s
      | _ => .stuck
    | some (some (.d x)) => dat x s
    | _ => .stuck
  | .cst x, s => dat x s
  | .glob g, s => dat (gl g) s
  | .neg a, s => one1 (sem a s) fun x s => match x with
    | .d (.int i) => dat (.int (-i)) s
    | _ => .stuck
  | .bin o a b, s => one1 (sem a s) fun x s => one1 (sem b s) fun y s => match peek s x, peek s y with
    | some u, some v => datO (binD o u v) s
    | _, _ => .stuck
  | .cmp o a b, s => one1 (sem a s) fun x s => one1 (sem b s) fun y s => match peek s x, peek s y with
    | some u, some v => boolO (cmpD o u v) s
    | _, _ => .stuck
  | .chain o p a b c, s => one1 (sem a s) fun x s => one1 (sem b s) fun y s => match peek s x, peek s y with
    | some u, some v => match cmpD o u v with
      | some true => one1 (sem c s) fun z s => match peek s y, peek s z with
        | some v, some w => boolO (cmpD p v w) s
        | _, _ => .stuck
      | some false => dat (.bool false) s
      | none => .stuck
    | _, _ => .stuck
  | .isN a, s => one1 (sem a s) fun x s => dat (.bool (isNone x)) s
  | .isNot a, s => one1 (sem a s) fun x s => dat (.bool (!isNone x)) s
  | .and a b, s => one1 (sem a s) fun x s => (tru x s).bind fun k s => if k then sem b s else .ok [x] s
  | .or a b, s => one1 (sem a s) fun x s => (tru x s).bind fun k s => if k then .ok [x] s else sem b s
  | .one a, s => sem a s
  | .not a, s => one1 (sem a s) fun x s => (tru x s).bind fun k s => dat (.bool (!k)) s
  | .ifx t a b, s => one1 (sem t s) fun x s => (tru x s).bind fun k s => if k then sem a s else sem b s
  | .tup as, s => (sem as s).bind fun vs s => match solids s vs with
    | some xs => if xs.length ≤ lim then dat (.tuple xs) s else .stuck
    | none => .stuck
  | .lst as, s => (sem as s).bind fun vs s => match solids s vs with
    | some xs => if xs.length ≤ lim then dat (.list xs) s else .stuck
    | none => .stuck
  | .idx a i, s => one1 (sem a s) fun x s => one1 (sem i s) fun y s => match peekR s x, peek s y with
    | some u, some v => datO (idxD u v) s
    | _, _ => .stuck
  | .slice a lo hi, s => one1 (sem a s) fun x s => (partM lo.isNil (sem lo) s).bind fun l s => (partM hi.isNil (sem hi) s).bind fun h s => match peek s x with
    | some u => datO (sliceD u l h) s
    | none => .stuck
  | .fld o f, s => one1 (sem o s) fun x s => match insOf s x with
    | some (_, fs) => match getN f fs with
      | some (.v v) => .ok [v] s
      | _ => .stuck
    | none => .stuck
  | .fidx o f i, s => one1 (sem o s) fun x s => one1 (sem i s) fun y s => match insOf s x, y with
    | some (_, fs), .d (.int j) => match getN f fs with
      | some (.ol xs) => datO (L2.atI xs j) s
      | some (.fl xs) => match L2.atI xs j with
        | some v => .ok [v] s
        | none => .stuck
      | _ => .stuck
    | _, _ => .stuck
  | .flen o f, s => one1 (sem o s) fun x s => match insOf s x with
    | some (_, fs) => match getN f fs with
      | some (.ol xs) => dat (.int xs.length) s
      | some (.fl xs) => dat (.int xs.length) s
      | _ => .stuck
    | none => .stuck
  | .ftru o f, s => one1 (sem o s) fun x s => match insOf s x with
    | some (_, fs) => match getN f fs with
      | some (.ol xs) => dat (.bool (!xs.isEmpty)) s
      | _ => .stuck
    | none => .stuck
  | .fcopy o f, s => one1 (sem o s) fun x s => match insOf s x with
    | some (_, fs) => match getN f fs with
      | some (.ol xs) => dat (.list xs) s
      | _ => .stuck
    | none => .stuck
  | .ffrz o f, s => one1 (sem o s) fun x s => match insOf s x with
    | some (c, fs) => match getN f fs with
      | some (.ol xs) => dat (.list xs) (setIns s x c (putN f (.v (.d (.list xs))) fs))
      | _ => .stuck
    | none => .stuck
  | .fpop o f, s => one1 (sem o s) fun x s => match insOf s x with
    | some (c, fs) => match getN f fs with
      | some (.ol xs) => match xs.getLast? with
        | some v => dat v (setIns s x c (putN f (.ol xs.dropLast) fs))
        | none => .stuck
      | _ => .stuck
    | none => .stuck
  | .call f m as, s => (sem as s).bind fun vs s => (run (Φ f) false m vs s).bind fun v s => .ok [v] s
  | .meth f c o as, s => one1 (sem o s) fun x s => match resOf s x with
    | some r => if r.cls = some c then (sem as s).bind fun vs s => (run (Φ f) true 0 (x :: vs) s).bind fun v s => .ok [v] s else .stuck
    | none => .stuck
  | .bf f as, s => (sem as s).bind fun vs s => match peeks s vs with
    | some xs => datO (bfD f xs) s
    | none => .stuck
  | .isi a t, s => one1 (sem a s) fun x s => boolO (isiV x t s) s
  | .pop i, s => match s.ρ[i]? with
    | some (some (.c k)) => match s.W[k]? with
      | some (.lst xs) => match xs.getLast? with
        | some v => dat v { s with W := s.W.set k (.lst xs.dropLast) }
        | none => .stuck
      | _ => .stuck
    | _ => .stuck
  | .sseq e, s => one1 (sem e s) fun x s => match solid s x with
    | some (.list xs) => .ok (xs.map .d) s
    | some (.tuple xs) => .ok (xs.map .d) s
    | _ => .stuck
  | .sfl o f, s => one1 (sem o s) fun x s => match insOf s x with
    | some (_, fs) => match getN f fs with
      | some (.fl xs) => .ok xs s
      | _ => .stuck
    | none => .stuck
  | .srng1 a, s => one1 (sem a s) fun x s => match x with
    | .d (.int j) => if rngOk 0 j then .ok (rangeL 0 j) s else .stuck
    | _ => .stuck
  | .srng2 a b, s => one1 (sem a s) fun x s => one1 (sem b s) fun y s => match x, y with
    | .d (.int i), .d (.int j) => if rngOk i j then .ok (rangeL i j) s else .stuck
    | _, _ => .stuck
  | .sstr e, s => one1 (sem e s) fun x s => match x with
    | .d (.str z) => .ok (z.cps.toList.map fun c => .d (.str ⟨#[c]⟩)) s
    | _ => .stuck
  | .comp src tg own cond elt, s => (compM (sem src) tg own (condM cond.isNil (sem cond)) (sem elt) s).bind fun vs s => match solids s vs with
    | some xs => dat (.list xs) s
    | none => .stuck

/-- the list that may change in a slot -/
def lstAt (s : Sg) (i : Nat) : Option Nat := match s.ρ[i]? with
  | some (some (.c k)) => match s.W[k]? with
    | some (.lst _) => some k
    | _ => none
  | _ => none
/-- the error e is of the class c, 0 being above all -/
def subX (e c : Nat) : Bool := c == 0 || e == c
def setFs : List Nat → List PyData → Va → Sg → Option Sg
  | [], [], _, s => some s
  | f :: fs, x :: xs, o, s => match insOf s o with
    | some (c, m) => setFs fs xs o (setIns s o c (putN f (.v (.d x)) m))
    | none => none
  | _, _, _, _ => none
def semS : Cd → M Fl
  | .nil, s => .ok .next s
  | .seq a b, s => (semS a s).bind fun f s => match f with
    | .next => semS b s
    | f => .ok f s
  | .pass, s => .ok .next s
  | .brk, s => .ok .brk s
  | .cont, s => .ok .cont s
  | .asg t e, s => one1 (sem Φ gl e s) fun v s => match setTg t v s with
    | some s => .ok .next s
    | none => .stuck
  | .par i j a b, s => one1 (sem Φ gl a s) fun v s => one1 (sem Φ gl b s) fun w s => match solid s v with
    | some x => .ok .next { s with ρ := (s.ρ.set i (some (.d x))).set j (some w) }
    | none => .stuck
  | .newL i as, s => (sem Φ gl as s).bind fun vs s => match solids s vs with
    | some xs => if xs.length ≤ lim then .ok .next { s with ρ := s.ρ.set i (some (.c s.W.length)), W := s.W ++ [.lst xs] } else .stuck
    | none => .stuck
  | .newR i a n, s => one1 (sem Φ gl a s) fun v s => match solid s v with
    | some x => one1 (sem Φ gl n s) fun w s => match w with
      | .d (.int k) => match mulD (.list [x]) (.int k) with
        | some (.list xs) => .ok .next { s with ρ := s.ρ.set i (some (.c s.W.length)), W := s.W ++ [.lst xs] }
        | _ => .stuck
      | _ => .stuck
    | none => .stuck
  | .newC i a b, s => one1 (sem Φ gl a s) fun v s => one1 (sem Φ gl b s) fun w s => match peek s v, peek s w with
    | some (.list x), some (.list y) => match addD (.list x) (.list y) with
      | some (.list xs) => .ok .next { s with ρ := s.ρ.set i (some (.c s.W.length)), W := s.W ++ [.lst xs] }
      | _ => .stuck
    | _, _ => .stuck
  | .app i e, s => match lstAt s i with
    | some k => one1 (sem Φ gl e s) fun v s => match s.W[k]?, solid s v with
      | some (.lst xs), some x => if xs.length < lim then .ok .next { s with W := s.W.set k (.lst (xs ++ [x])) } else .stuck
      | _, _ => .stuck
    | none => .stuck
  | .ext i e, s => match lstAt s i with
    | some k => one1 (sem Φ gl e s) fun v s => match s.W[k]?, solid s v with
      | some (.lst xs), some (.list ys) => if xs.length + ys.length ≤ lim then .ok .next { s with W := s.W.set k (.lst (xs ++ ys)) } else .stuck
      | _, _ => .stuck
    | none => .stuck
  | .set i j e, s => one1 (sem Φ gl e s) fun v s => match s.ρ[i]? with
    | some (some (.c k)) => one1 (sem Φ gl j s) fun w s => match s.W[k]?, w, solid s v with
      | some (.lst xs), .d (.int n), some x => match L2.ixN xs.length n with
        | some m => .ok .next { s with W := s.W.set k (.lst (xs.set m x)) }
        | none => .stuck
      | _, _, _ => .stuck
    | _ => .stuck
  | .setf o f e, s => one1 (sem Φ gl e s) fun v s => one1 (sem Φ gl o s) fun x s => match insOf s x with
    | some (c, m) => .ok .next (setIns s x c (putN f (.v v) m))
    | none => .stuck
  | .setfs o fs e, s => one1 (sem Φ gl e s) fun v s => one1 (sem Φ gl o s) fun x s => match solid s v with
    | some (.tuple xs) => match setFs fs xs x s with
      | some s => .ok .next s
      | none => .stuck
    | _ => .stuck
  | .newF o f as, s => (sem Φ gl as s).bind fun vs s => one1 (sem Φ gl o s) fun x s => match solids s vs, insOf s x with
    | some xs, some (c, m) => if xs.length ≤ lim then .ok .next (setIns s x c (putN f (.ol xs) m)) else .stuck
    | _, _ => .stuck
  | .newFR o f a n, s => one1 (sem Φ gl a s) fun v s => one1 (sem Φ gl n s) fun w s => one1 (sem Φ gl o s) fun x s => match solid s v, w, insOf s x with
    | some y, .d (.int k), some (c, m) => match mulD (.list [y]) (.int k) with
      | some (.list xs) => .ok .next (setIns s x c (putN f (.ol xs) m))
      | _ => .stuck
    | _, _, _ => .stuck
  | .newFC o f src tg own elt, s => (compM (sem Φ gl src) tg own (fun t => .ok true t) (sem Φ gl elt) s).bind fun vs s => one1 (sem Φ gl o s) fun x s => match insOf s x with
    | some (c, m) => .ok .next (setIns s x c (putN f (.fl vs) m))
    | _ => .stuck
  | .newFO o f e, s => one1 (sem Φ gl e s) fun v s => one1 (sem Φ gl o s) fun x s => match solid s v, insOf s x with
    | some (.list xs), some (c, m) => .ok .next (setIns s x c (putN f (.ol xs) m))
    | _, _ => .stuck
  | .fapp o f e, s => one1 (sem Φ gl o s) fun x s => one1 (sem Φ gl e s) fun v s => match insOf s x, solid s v with
    | some (c, m), some y => match getN f m with
      | some (.ol xs) => if xs.length < lim then .ok .next (setIns s x c (putN f (.ol (xs ++ [y])) m)) else .stuck
      | _ => .stuck
    | _, _ => .stuck
  | .fset o f i e, s => one1 (sem Φ gl e s) fun v s => one1 (sem Φ gl o s) fun x s => one1 (sem Φ gl i s) fun w s => match insOf s x, solid s v, w with
    | some (c, m), some y, .d (.int n) => match getN f m with
      | some (.ol xs) => match L2.ixN xs.length n with
        | some j => .ok .next (setIns s x c (putN f (.ol (xs.set j y)) m))
        | none => .stuck
      | _ => .stuck
    | _, _, _ => .stuck
  | .drop e, s => one1 (sem Φ gl e s) fun _ s => .ok .next s
  | .ret e, s => one1 (sem Φ gl e s) fun v s => .ok (.ret v) s
  | .retN, s => .ok (.ret (.d .none)) s
  | .ite c a b, s => one1 (sem Φ gl c s) fun x s => (tru x s).bind fun k s => if k then semS a s else semS b s
  | .for_ t src body, s => (sem Φ gl src s).bind fun items s => loopL (fun v s => match setTg t v s with
      | some s => semS body s
      | none => .stuck) items s
  | .whl n c body, s => whileL (fun s => one1 (sem Φ gl c s) tru) (semS body) n s
  | .raise c, s => .err c s
  | .tryA c ie j body, s => match semS body s with
    | .err e s => if subX e c then .ok .next { s with ρ := (s.ρ.set j (some (.x e))).set ie none } else .err e s
    | r => r
  | .tryR c body x, s => match semS body s with
    | .err e s => if subX e c then .ok (.ret (.d x)) s else .err e s
    | r => r
  | .tryS c body i x, s => match semS body s with
    | .err e s => if subX e c then .ok .next { s with ρ := s.ρ.set i (some (.d x)) } else .err e s
    | r => r

/-! ### a def -/
/-- the arguments as slots, box and world -/
def enter (op : Bool) : List Av → List (Option Va) × List Re × List Re
  | [] => ([], [], [])
  | .r r :: as => if op then ((some (.b 0)) :: (enterW 0 as).1, openB r, (enterW 0 as).2) else ((some (.c 0)) :: (enterW 1 as).1, [], r :: (enterW 1 as).2)
  | .d x :: as => (some (.d x) :: (enterW 0 as).1, [], (enterW 0 as).2)
  | .x n :: as => (some (.x n) :: (enterW 0 as).1, [], (enterW 0 as).2)
  | .s n :: as => (some (.s n) :: (enterW 0 as).1, [], (enterW 0 as).2)
where
  enterW : Nat → List Av → List (Option Va) × List Re
  | _, [] => ([], [])
  | k, .r r :: as => (some (.c k) :: (enterW (k + 1) as).1, r :: (enterW (k + 1) as).2)
  | k, .d x :: as => (some (.d x) :: (enterW k as).1, (enterW k as).2)
  | k, .x n :: as => (some (.x n) :: (enterW k as).1, (enterW k as).2)
  | k, .s n :: as => (some (.s n) :: (enterW k as).1, (enterW k as).2)
def count : List Av → Nat
  | [] => 0
  | .r _ :: as => count as + 1
  | _ :: as => count as
/-- what the arguments have become: n cells of the world, ahead of them the box -/
def outs (bx : Bool) (n : Nat) (s : Sg) : Option (List Re) :=
  if n ≤ s.W.length then (if bx then (match s.B with
    | [] => none
    | [r] => if r.closed && r.plain then some (r :: s.W.take n) else none
    | rs => some (.box rs :: s.W.take n)) else some (s.W.take n)) else none
def leave (bx : Bool) (n : Nat) (v : Va) (s : Sg) : Fr :=
  match outs bx n s with
  | none => .stuck
  | some os => match solid s v with
    | some x => .ok (.d x) os
    | none => match v with
      | .c k => if n ≤ k then (match s.W[k]? with
        | some r => .ok (.r r) os
        | none => .stuck) else .stuck
      | _ => .stuck
def boxed (op : Bool) : List Av → Bool
  | .r r :: _ => op && !(openB r).isEmpty
  | _ => false
/-- np parameters, n names; op: the first is an object that is opened -/
def defF (np n : Nat) (op : Bool) (code : Cd) : Fn := fun as =>
  if as.length = np ∧ np ≤ n ∧ (op = true → boxed true as = true) then
    match semS Φ gl code ⟨(enter op as).1 ++ List.replicate (n - as.length) none, (enter op as).2.1, (enter op as).2.2⟩ with
    | .ok .next s => leave op (enter op as).2.2.length (.d .none) s
    | .ok (.ret v) s => leave op (enter op as).2.2.length v s
    | .err c s => match outs op (enter op as).2.2.length s with
      | some os => .err c os
      | none => .stuck
    | _ => .stuck
  else .stuck
/-- C(..): the instance without attributes, then __init__ -/
def makeF (c : Nat) (φ : Fn) : Fn := fun as => match φ (.r (.ins c []) :: as) with
  | .ok (.d .none) (r :: os) => .ok (.r r) os
  | .err e (_ :: os) => .err e os
  | _ => .stuck
end
end BC

/-! BRep: how the evaluator's state lies in the abstract heap. -/
namespace BC
open PySem L2

/-- the written part's names: classes, errors, attributes -/
structure Tn where
  K : PySem.W.Frag
  cls : Nat → Addr
  exc : Nat → Addr
  fnm : List Str
/-- a caught error's object, of the class cl -/
def ExC (cl : Value) (a : Addr) : HO := .ext fun h => ∃ (oe : Obj) (vs : Array Value), h.get? a = some oe ∧ Zc cl none oe ∧ oe.data = .fields vs

def part (own : Addr → Nat) (t : Nat) (H : Hp) : Hp := fun a => if own a = t then H a else none
theorem part_iff {own : Addr → Nat} {t : Nat} {H : Hp} {a : Addr} {o : HO} : part own t H a = some o ↔ own a = t ∧ H a = some o := by
  unfold part
  by_cases h : own a = t
  · rw [if_pos h]; exact ⟨fun q => ⟨h, q⟩, fun q => q.2⟩
  · rw [if_neg h]; exact ⟨fun q => (by cases q), fun q => absurd q.1 h⟩
theorem part_sub {own : Addr → Nat} {t : Nat} {H : Hp} : Same (part own t H) H := fun _ _ h => (part_iff.mp h).2

theorem sqL_mono {K : PySem.W.Frag} {F F' : Hp} (m : Same F F') {a : Addr} {xs : List V} (h : SqL K F a xs) : SqL K F' a xs := by
  rcases h with (h | ⟨o, h⟩) | h
  · exact .inl (.inl (m _ _ h))
  · exact .inl (.inr ⟨o, m _ _ h⟩)
  · exact .inr h
theorem sqT_mono {K : PySem.W.Frag} {F F' : Hp} (m : Same F F') {a : Addr} {xs : List V} (h : SqT K F a xs) : SqT K F' a xs := by
  rcases h with (h | ⟨o, h⟩) | h
  · exact .inl (.inl (m _ _ h))
  · exact .inl (.inr ⟨o, m _ _ h⟩)
  · exact .inr h
mutual
/-- data in the heap F: lists are tracked -/
inductive Dx (K : PySem.W.Frag) (F : Hp) : V → PyData → Prop
  | non : Dx K F .non .none
  | bl (b : Bool) : Dx K F (.bl b) (.bool b)
  | int (i : Int) : Dx K F (.int i) (.int i)
  | str (x : Str) : Dx K F (.str x) (.str x)
  | lst {a : Addr} {us : List V} {ds : List PyData} : F a = some (.lst us) → DxAll K F us ds → Dx K F (.ref a) (.list ds)
  | tup {a : Addr} {us : List V} {ds : List PyData} : SqT K F a us → DxAll K F us ds → Dx K F (.ref a) (.tuple ds)
inductive DxAll (K : PySem.W.Frag) (F : Hp) : List V → List PyData → Prop
  | nil : DxAll K F [] []
  | cons {v : V} {vs : List V} {d : PyData} {ds : List PyData} : Dx K F v d → DxAll K F vs ds → DxAll K F (v :: vs) (d :: ds)
end
mutual
theorem dp_mono {K : PySem.W.Frag} {F F' : Hp} (m : Same F F') : ∀ (d : PyData) (v : V), Dx K F v d → Dx K F' v d
  | .none, _, h => by cases h; exact .non
  | .bool b, _, h => by cases h; exact .bl b
  | .int i, _, h => by cases h; exact .int i
  | .str x, _, h => by cases h; exact .str x
  | .list ds, _, h => by
    cases h with
    | lst hs ha => exact .lst (m _ _ hs) (dpAll_mono m ds _ ha)
  | .tuple ds, _, h => by
    cases h with
    | tup hs ha => exact .tup (sqT_mono m hs) (dpAll_mono m ds _ ha)
  | .dict _, _, h => by cases h
theorem dpAll_mono {K : PySem.W.Frag} {F F' : Hp} (m : Same F F') : ∀ (ds : List PyData) (vs : List V), DxAll K F vs ds → DxAll K F' vs ds
  | [], _, h => by cases h; exact .nil
  | d :: ds, _, h => by
    cases h with
    | cons h1 h2 => exact .cons (dp_mono m d _ h1) (dpAll_mono m ds _ h2)
end
mutual
theorem dp_of {K : PySem.W.Frag} {F H : Hp} (m : Same F H) : ∀ (d : PyData) (v : V), Dx K F v d → Dp K H v d
  | .none, _, h => by cases h; exact .non
  | .bool b, _, h => by cases h; exact .bl b
  | .int i, _, h => by cases h; exact .int i
  | .str x, _, h => by cases h; exact .str x
  | .list ds, _, h => by
    cases h with
    | lst hs ha => exact .lst (SqL.of (m _ _ hs)) (dpAll_of m ds _ ha)
  | .tuple ds, _, h => by
    cases h with
    | tup hs ha => exact .tup (sqT_mono m hs) (dpAll_of m ds _ ha)
  | .dict _, _, h => by cases h
theorem dpAll_of {K : PySem.W.Frag} {F H : Hp} (m : Same F H) : ∀ (ds : List PyData) (vs : List V), DxAll K F vs ds → DpAll K H vs ds
  | [], _, h => by cases h; exact .nil
  | d :: ds, _, h => by
    cases h with
    | cons h1 h2 => exact .cons (dp_of m d _ h1) (dpAll_of m ds _ h2)
end
theorem dpAll_length {K : PySem.W.Frag} {F : Hp} : ∀ {vs : List V} {ds : List PyData}, DxAll K F vs ds → vs.length = ds.length
  | _, _, .nil => rfl
  | _, _, .cons _ t => by simp [dpAll_length t]
theorem dpAll_get {K : PySem.W.Frag} {F : Hp} : ∀ {vs : List V} {ds : List PyData} {i : Nat} {d : PyData}, DxAll K F vs ds → ds[i]? = some d → ∃ v, vs[i]? = some v ∧ Dx K F v d
  | _, _, i, d, .nil, e => by simp at e
  | _, _, 0, d, .cons h t, e => by simp at e; subst e; exact ⟨_, rfl, h⟩
  | _, _, i + 1, d, .cons h t, e => by
    obtain ⟨v, e1, e2⟩ := dpAll_get (i := i) t (by simpa using e)
    exact ⟨v, by simpa using e1, e2⟩
theorem dpAll_get' {K : PySem.W.Frag} {F : Hp} : ∀ {vs : List V} {ds : List PyData} {i : Nat} {v : V}, DxAll K F vs ds → vs[i]? = some v → ∃ d, ds[i]? = some d ∧ Dx K F v d
  | _, _, i, d, .nil, e => by simp at e
  | _, _, 0, d, .cons h t, e => by simp at e; subst e; exact ⟨_, rfl, h⟩
  | _, _, i + 1, d, .cons h t, e => by
    obtain ⟨v, e1, e2⟩ := dpAll_get' (i := i) t (by simpa using e)
    exact ⟨v, by simpa using e1, e2⟩
theorem dpAll_append {K : PySem.W.Frag} {F : Hp} : ∀ {vs us : List V} {ds es : List PyData}, DxAll K F vs ds → DxAll K F us es → DxAll K F (vs ++ us) (ds ++ es)
  | _, _, _, _, .nil, s => s
  | _, _, _, _, .cons r t, s => .cons r (dpAll_append t s)
theorem dpAll_take {K : PySem.W.Frag} {F : Hp} : ∀ {vs : List V} {ds : List PyData} (n : Nat), DxAll K F vs ds → DxAll K F (vs.take n) (ds.take n)
  | _, _, 0, _ => by simp; exact .nil
  | _, _, n + 1, .nil => .nil
  | _, _, n + 1, .cons r t => .cons r (dpAll_take n t)
theorem dpAll_drop {K : PySem.W.Frag} {F : Hp} : ∀ {vs : List V} {ds : List PyData} (n : Nat), DxAll K F vs ds → DxAll K F (vs.drop n) (ds.drop n)
  | _, _, 0, h => h
  | _, _, n + 1, .nil => .nil
  | _, _, n + 1, .cons r t => dpAll_drop n t
theorem dpAll_set {K : PySem.W.Frag} {F : Hp} {v : V} {d : PyData} (h : Dx K F v d) : ∀ {vs : List V} {ds : List PyData} (i : Nat), DxAll K F vs ds → DxAll K F (vs.set i v) (ds.set i d)
  | _, _, _, .nil => .nil
  | _, _, 0, .cons _ t => .cons h t
  | _, _, i + 1, .cons r t => .cons r (dpAll_set h i t)
theorem dpAll_rep {K : PySem.W.Frag} {F : Hp} {vs : List V} {ds : List PyData} (h : DxAll K F vs ds) : ∀ n, DxAll K F (List.replicate n vs).flatten (List.replicate n ds).flatten
  | 0 => .nil
  | n + 1 => by
    rw [List.replicate_succ, List.replicate_succ, List.flatten_cons, List.flatten_cons]
    exact dpAll_append h (dpAll_rep h n)
theorem dpAll_ints {K : PySem.W.Frag} {F : Hp} : ∀ {ds : List PyData} {vs : List V} {ns : List Int}, DxAll K F vs ds → intsD ds = some ns → vs = ns.map V.int
  | [], _, _, h, e => by cases h; simp [intsD] at e; subst e; rfl
  | .int i :: r, _, _, h, e => by
    cases h with
    | cons h1 h2 =>
      cases h1
      simp only [intsD, Option.map_eq_some_iff] at e
      obtain ⟨m, e1, rfl⟩ := e
      rw [dpAll_ints h2 e1]; rfl
  | .none :: _, _, _, _, e => by simp [intsD] at e
  | .bool _ :: _, _, _, _, e => by simp [intsD] at e
  | .str _ :: _, _, _, _, e => by simp [intsD] at e
  | .list _ :: _, _, _, _, e => by simp [intsD] at e
  | .tuple _ :: _, _, _, _, e => by simp [intsD] at e
  | .dict _ :: _, _, _, _, e => by simp [intsD] at e
theorem dpAll_bools {K : PySem.W.Frag} {F : Hp} : ∀ {ds : List PyData} {vs : List V} {ns : List Bool}, DxAll K F vs ds → boolsD ds = some ns → vs = ns.map V.bl
  | [], _, _, h, e => by cases h; simp [boolsD] at e; subst e; rfl
  | .bool i :: r, _, _, h, e => by
    cases h with
    | cons h1 h2 =>
      cases h1
      simp only [boolsD, Option.map_eq_some_iff] at e
      obtain ⟨m, e1, rfl⟩ := e
      rw [dpAll_bools h2 e1]; rfl
  | .none :: _, _, _, _, e => by simp [boolsD] at e
  | .int _ :: _, _, _, _, e => by simp [boolsD] at e
  | .str _ :: _, _, _, _, e => by simp [boolsD] at e
  | .list _ :: _, _, _, _, e => by simp [boolsD] at e
  | .tuple _ :: _, _, _, _, e => by simp [boolsD] at e
  | .dict _ :: _, _, _, _, e => by simp [boolsD] at e
theorem dpAll_of_ints {K : PySem.W.Frag} {F : Hp} : ∀ ns : List Int, DxAll K F (ns.map V.int) (ns.map PyData.int)
  | [] => .nil
  | n :: r => .cons (.int n) (dpAll_of_ints r)

/-! ### values, what may change -/
def VRep (T : Tn) (F : Hp) (ca ba : Nat → Addr) (nc nb : Nat) : Va → V → Prop
  | .d x, u => Dx T.K F u x
  | .c k, u => k < nc ∧ u = .ref (ca k)
  | .b k, u => k < nb ∧ u = .ref (ba k)
  | .x n, u => ∃ a, u = .ref a ∧ F a = some (ExC (.ref (T.exc n)) a)
  | .s ns, u => ∃ a, u = .ref a ∧ SqL T.K F a (ns.map V.int)
abbrev VReps (T : Tn) (F : Hp) (ca ba : Nat → Addr) (nc nb : Nat) : List Va → List V → Prop := Paired (VRep T F ca ba nc nb)
abbrev z0 : Nat → Addr := fun _ => 0
def FRep (T : Tn) (F : Hp) (ba : Nat → Addr) (nb : Nat) (Hm : Hp) : Fv → V → Prop
  | .v x, u => VRep T F z0 ba 0 nb x u
  | .ol xs, u => ∃ p us, u = .ref p ∧ Hm p = some (.lst us) ∧ DxAll T.K F us xs
  | .fl xs, u => ∃ p us, u = .ref p ∧ F p = some (.lst us) ∧ VReps T F z0 ba 0 nb xs us
abbrev FsRep (T : Tn) (F : Hp) (ba : Nat → Addr) (nb : Nat) (Hm : Hp) : List (Nat × Fv) → List (Str × V) → Prop :=
  Paired fun p q => T.fnm[p.1]? = some q.1 ∧ FRep T F ba nb Hm p.2 q.2
inductive ResAt (T : Tn) (F : Hp) : (Nat → Addr) → Nat → Addr → Re → Hp → Prop where
  | lst {ba nb a xs Hm us} : Hm a = some (.lst us) → DxAll T.K F us xs → ResAt T F ba nb a (.lst xs) Hm
  | frz {ba nb a xs Hm} : Dx T.K F (.ref a) (.list xs) → ResAt T F ba nb a (.frz xs) Hm
  | ins {ba nb a c fs Hm dx fu} : Hm a = some (.ins (T.cls c) dx fu) → FsRep T F ba nb Hm fs fu → ResAt T F ba nb a (.ins c fs) Hm
  | box {ba0 nb0 a rs Hm own ba} : ba 0 = a → (∀ i r, rs[i]? = some r → ResAt T F ba rs.length (ba i) r (part own i Hm)) → ResAt T F ba0 nb0 a (.box rs) Hm

theorem VRep.mono {T : Tn} {F F' : Hp} {ca ba ca' ba' : Nat → Addr} {nc nb nc' nb' : Nat} (m : Same F F') (h1 : nc ≤ nc') (h2 : nb ≤ nb') (e1 : ∀ k, k < nc → ca' k = ca k) (e2 : ∀ k, k < nb → ba' k = ba k) :
    ∀ {v : Va} {u : V}, VRep T F ca ba nc nb v u → VRep T F' ca' ba' nc' nb' v u
  | .d _, _, h => dp_mono m _ _ h
  | .c k, _, ⟨h, e⟩ => ⟨Nat.lt_of_lt_of_le h h1, by rw [e1 k h]; exact e⟩
  | .b k, _, ⟨h, e⟩ => ⟨Nat.lt_of_lt_of_le h h2, by rw [e2 k h]; exact e⟩
  | .x _, _, ⟨a, e, h⟩ => ⟨a, e, m _ _ h⟩
  | .s _, _, ⟨a, e, h⟩ => ⟨a, e, sqL_mono m h⟩
theorem FRep.mono {T : Tn} {F F' Hm Hm' : Hp} {ba ba' : Nat → Addr} {nb nb' : Nat} (m : Same F F') (mm : Same Hm Hm') (h2 : nb ≤ nb') (e2 : ∀ k, k < nb → ba' k = ba k) :
    ∀ {v : Fv} {u : V}, FRep T F ba nb Hm v u → FRep T F' ba' nb' Hm' v u
  | .v _, _, h => VRep.mono m (Nat.le_refl _) h2 (fun _ _ => rfl) e2 h
  | .ol _, _, ⟨p, us, e, h, d⟩ => ⟨p, us, e, mm _ _ h, dpAll_mono m _ _ d⟩
  | .fl _, _, ⟨p, us, e, h, d⟩ => ⟨p, us, e, m _ _ h, Paired.mapP d fun _ _ => VRep.mono m (Nat.le_refl _) h2 (fun _ _ => rfl) e2⟩
theorem part_mono {own : Addr → Nat} {t : Nat} {H H' : Hp} (m : Same H H') : Same (part own t H) (part own t H') := fun _ _ h => part_iff.mpr ⟨(part_iff.mp h).1, m _ _ (part_iff.mp h).2⟩
theorem ResAt.mono {T : Tn} {F F' : Hp} (m : Same F F') {ba : Nat → Addr} {nb : Nat} {a : Addr} {r : Re} {Hm : Hp} (h : ResAt T F ba nb a r Hm) :
    ∀ {Hm' : Hp} {ba' : Nat → Addr} {nb' : Nat}, Same Hm Hm' → nb ≤ nb' → (∀ k, k < nb → ba' k = ba k) → ResAt T F' ba' nb' a r Hm' := by
  induction h with
  | lst h d => intro Hm' ba' nb' mm _ _; exact .lst (mm _ _ h) (dpAll_mono m _ _ d)
  | frz d => intro Hm' ba' nb' mm _ _; exact .frz (dp_mono m _ _ d)
  | ins h d => intro Hm' ba' nb' mm h2 e2; exact .ins (mm _ _ h) (Paired.mapP d fun _ _ q => ⟨q.1, FRep.mono m mm h2 e2 q.2⟩)
  | box e _ ih => intro Hm' ba' nb' mm _ _; exact .box e fun i r hr => ih i r hr (part_mono mm) (Nat.le_refl _) fun _ _ => rfl

/-! ### the state -/
structure Gh where
  own : Addr → Nat
  adr : Nat → Addr
  bdr : Nat → Addr
structure Rel (T : Tn) (G : Gh) (s : Sg) (σ : St) (H : Hp) : Prop where
  len : s.ρ.length = σ.length
  slot : ∀ (i : Nat) (v : Va), s.ρ[i]? = some (some v) → ∃ u, σ[i]? = some (some u) ∧ VRep T (part G.own 0 H) G.adr G.bdr s.W.length s.B.length v u
  wld : ∀ (k : Nat) (r : Re), s.W[k]? = some r → ResAt T (part G.own 0 H) z0 0 (G.adr k) r (part G.own (2 * k + 2) H)
  bx : ∀ (k : Nat) (r : Re), s.B[k]? = some r → ResAt T (part G.own 0 H) G.bdr s.B.length (G.bdr k) r (part G.own (2 * k + 3) H)
/-- data stands, what is not ours stands, addresses stand -/
structure Ext (G : Gh) (H : Hp) (nc nb : Nat) (G' : Gh) (H' : Hp) (nc' nb' : Nat) : Prop where
  keep : ∀ a o, H a = some o → G.own a ≤ 1 → H' a = some o ∧ G'.own a = G.own a
  adr : ∀ k, k < nc → G'.adr k = G.adr k
  bdr : ∀ k, k < nb → G'.bdr k = G.bdr k
  nc : nc ≤ nc'
  nb : nb ≤ nb'
theorem Ext.refl (G : Gh) (H : Hp) (nc nb : Nat) : Ext G H nc nb G H nc nb := ⟨fun _ _ h _ => ⟨h, rfl⟩, fun _ _ => rfl, fun _ _ => rfl, Nat.le_refl _, Nat.le_refl _⟩
theorem Ext.trans {G G1 G2 : Gh} {H H1 H2 : Hp} {a b a1 b1 a2 b2 : Nat} (x : Ext G H a b G1 H1 a1 b1) (y : Ext G1 H1 a1 b1 G2 H2 a2 b2) : Ext G H a b G2 H2 a2 b2 where
  keep := fun c o h t => by
    obtain ⟨h1, t1⟩ := x.keep c o h t
    obtain ⟨h2, t2⟩ := y.keep c o h1 (by omega)
    exact ⟨h2, t2.trans t1⟩
  adr := fun k h => (y.adr k (Nat.lt_of_lt_of_le h x.nc)).trans (x.adr k h)
  bdr := fun k h => (y.bdr k (Nat.lt_of_lt_of_le h x.nb)).trans (x.bdr k h)
  nc := Nat.le_trans x.nc y.nc
  nb := Nat.le_trans x.nb y.nb
theorem Ext.data {G G1 : Gh} {H H1 : Hp} {a b a1 b1 : Nat} (x : Ext G H a b G1 H1 a1 b1) : Same (part G.own 0 H) (part G1.own 0 H1) := fun c o h => by
  obtain ⟨e, q⟩ := part_iff.mp h
  obtain ⟨h1, t1⟩ := x.keep c o q (by omega)
  exact part_iff.mpr ⟨t1.trans e, h1⟩
theorem VRep.ext {T : Tn} {G G1 : Gh} {H H1 : Hp} {a b a1 b1 : Nat} (x : Ext G H a b G1 H1 a1 b1) {v : Va} {u : V} (h : VRep T (part G.own 0 H) G.adr G.bdr a b v u) : VRep T (part G1.own 0 H1) G1.adr G1.bdr a1 b1 v u :=
  VRep.mono x.data x.nc x.nb x.adr x.bdr h
theorem VReps.ext {T : Tn} {G G1 : Gh} {H H1 : Hp} {a b a1 b1 : Nat} (x : Ext G H a b G1 H1 a1 b1) {v : List Va} {u : List V} (h : VReps T (part G.own 0 H) G.adr G.bdr a b v u) : VReps T (part G1.own 0 H1) G1.adr G1.bdr a1 b1 v u :=
  Paired.mapP h fun _ _ => VRep.ext x
/-- the heap grows by data (tag 0) and by what is nobody's -/
theorem Rel.grow {T : Tn} {G : Gh} {s : Sg} {σ : St} {H : Hp} (R : Rel T G s σ H) {own' : Addr → Nat} {H' : Hp} (m : Same H H') (k : ∀ a o, H a = some o → own' a = G.own a) : Rel T { G with own := own' } s σ H' ∧ Ext G H s.W.length s.B.length { G with own := own' } H' s.W.length s.B.length := by
  have pm : ∀ t, Same (part G.own t H) (part own' t H') := fun t a o h => by
    obtain ⟨e, q⟩ := part_iff.mp h
    exact part_iff.mpr ⟨(k a o q).trans e, m a o q⟩
  refine ⟨⟨R.len, fun i v e => ?_, fun i r e => ?_, fun i r e => ?_⟩, ⟨fun a o h _ => ⟨m a o h, k a o h⟩, fun _ _ => rfl, fun _ _ => rfl, Nat.le_refl _, Nat.le_refl _⟩⟩
  · obtain ⟨u, e1, q⟩ := R.slot i v e
    exact ⟨u, e1, VRep.mono (pm 0) (Nat.le_refl _) (Nat.le_refl _) (fun _ _ => rfl) (fun _ _ => rfl) q⟩
  · exact (R.wld i r e).mono (pm 0) (pm _) (Nat.le_refl _) fun _ _ => rfl
  · exact (R.bx i r e).mono (pm 0) (pm _) (Nat.le_refl _) fun _ _ => rfl

/-! ### readings -/
/-- what is wanted behind an evaluation that began at G, H -/
def Po {α β : Type} (T : Tn) (W : WX) (G : Gh) (H : Hp) (n m : Nat) (σ : St) (rep : α → Sg → Gh → Hp → β → Prop) (r : Rs α) (K : α → Sg → Gh → Hp → β → Prop) : Prop := match r with
  | .ok a s' => ∀ G' H' b, Ext G H n m G' H' s'.W.length s'.B.length → Rel T G' s' σ H' → rep a s' G' H' b → K a s' G' H' b
  | .err c s' => ∀ G' H', Ext G H n m G' H' s'.W.length s'.B.length → Rel T G' s' σ H' → W (.ref (T.exc c)) none σ H'
  | .stuck => False
abbrev vrep (T : Tn) (s : Sg) (G : Gh) (H : Hp) : Va → V → Prop := VRep T (part G.own 0 H) G.adr G.bdr s.W.length s.B.length
abbrev vreps (T : Tn) : List Va → Sg → Gh → Hp → List V → Prop := fun vs s G H us => Paired (vrep T s G H) vs us
abbrev urep {α : Type} : α → Sg → Gh → Hp → Unit → Prop := fun _ _ _ _ _ => True
section
variable {α β : Type} {T : Tn} {W : WX} {G : Gh} {H : Hp} {n m : Nat} {σ : St} {rep : α → Sg → Gh → Hp → β → Prop}
theorem Po.ext {r : Rs α} {K : α → Sg → Gh → Hp → β → Prop} {G1 : Gh} {H1 : Hp} {n1 m1 : Nat} (h : Po T W G H n m σ rep r K) (x : Ext G H n m G1 H1 n1 m1) : Po T W G1 H1 n1 m1 σ rep r K := by
  cases r with
  | ok a s' => exact fun G' H' b y => h G' H' b (x.trans y)
  | err c s' => exact fun G' H' y => h G' H' (x.trans y)
  | stuck => exact h
theorem Po.imp {r : Rs α} {K K' : α → Sg → Gh → Hp → β → Prop} (h : Po T W G H n m σ rep r K) (k : ∀ a s' G' H' b, Ext G H n m G' H' s'.W.length s'.B.length → Rel T G' s' σ H' → rep a s' G' H' b → K a s' G' H' b → K' a s' G' H' b) : Po T W G H n m σ rep r K' := by
  cases r with
  | ok a s' => exact fun G' H' b x R q => k a s' G' H' b x R q (h G' H' b x R q)
  | err c s' => exact h
  | stuck => exact h
/-- one value, then the rest -/
theorem Po.one1 {ra : Rs (List Va)} {k : Va → Sg → Rs α} {K : α → Sg → Gh → Hp → β → Prop} (h : Po T W G H n m σ rep (one1 ra k) K) :
    Po T W G H n m σ (vreps T) ra (fun vs s' G' H' us => ∃ v u, vs = [v] ∧ us = [u] ∧ vrep T s' G' H' v u ∧ Po T W G' H' s'.W.length s'.B.length σ rep (k v s') K) := by
  cases ra with
  | ok vs s' =>
    match vs, h with
    | [v], h =>
      intro G' H' us x R q
      cases q with
      | cons a b =>
        cases b
        exact ⟨v, _, rfl, rfl, a, Po.ext h x⟩
    | [], h => exact False.elim h
    | _ :: _ :: _, h => exact False.elim h
  | err c s' => exact h
  | stuck => exact h
theorem Po.bind {γ δ : Type} {rep' : γ → Sg → Gh → Hp → δ → Prop} {ra : Rs γ} {k : γ → Sg → Rs α} {K : α → Sg → Gh → Hp → β → Prop} (h : Po T W G H n m σ rep (ra.bind k) K) :
    Po T W G H n m σ rep' ra (fun a s' G' H' b => rep' a s' G' H' b ∧ Po T W G' H' s'.W.length s'.B.length σ rep (k a s') K) := by
  cases ra with
  | ok a s' =>
    intro G' H' b x R q
    exact ⟨q, Po.ext h x⟩
  | err c s' => exact h
  | stuck => exact h
end
def tE (T : Tn) (W : WX) (f : M (List Va)) : TE := fun σ H Q => ∃ s G, Rel T G s σ H ∧ Po T W G H s.W.length s.B.length σ (vreps T) (f s) (fun _ _ _ H' us => ∃ u, us = [u] ∧ Q u H')
def tL (T : Tn) (W : WX) (f : M (List Va)) : TA := fun σ H Q => ∃ s G, Rel T G s σ H ∧ Po T W G H s.W.length s.B.length σ (vreps T) (f s) (fun _ _ _ H' us => Q us H')
def tT (T : Tn) (W : WX) (f : M Bool) : TT := fun σ H Q => ∃ s G, Rel T G s σ H ∧ Po T W G H s.W.length s.B.length σ urep (f s) (fun k _ _ H' _ => Q k H')
/-- .. of a statement: the slots may change -/
def PoS {α : Type} (T : Tn) (W : WX) (G : Gh) (H : Hp) (n m : Nat) (r : Rs α) (K : α → Sg → Gh → Hp → St → Prop) : Prop := match r with
  | .ok a s' => ∀ G' H' σ', Ext G H n m G' H' s'.W.length s'.B.length → Rel T G' s' σ' H' → K a s' G' H' σ'
  | .err c s' => ∀ G' H' σ', Ext G H n m G' H' s'.W.length s'.B.length → Rel T G' s' σ' H' → W (.ref (T.exc c)) none σ' H'
  | .stuck => False
/-- the ends of a statement -/
def DK (T : Tn) (D : Ends) : Fl → Sg → Gh → Hp → St → Prop
  | .next, _, _, H, σ => D.nx σ H
  | .brk, _, _, H, σ => D.bk σ H
  | .cont, _, _, H, σ => D.ct σ H
  | .ret v, s, G, H, _ => ∀ u, vrep T s G H v u → D.rt u H
def tS (T : Tn) (W : WX) (f : M Fl) : TS := fun D σ H => ∃ s G, Rel T G s σ H ∧ PoS T W G H s.W.length s.B.length (f s) (DK T D)
section
variable {α : Type} {T : Tn} {W : WX} {G : Gh} {H : Hp} {n m : Nat}
theorem PoS.ext {r : Rs α} {K : α → Sg → Gh → Hp → St → Prop} {G1 : Gh} {H1 : Hp} {n1 m1 : Nat} (h : PoS T W G H n m r K) (x : Ext G H n m G1 H1 n1 m1) : PoS T W G1 H1 n1 m1 r K := by
  cases r with
  | ok a s' => exact fun G' H' b y => h G' H' b (x.trans y)
  | err c s' => exact fun G' H' b y => h G' H' b (x.trans y)
  | stuck => exact h
theorem PoS.imp {r : Rs α} {K K' : α → Sg → Gh → Hp → St → Prop} (h : PoS T W G H n m r K) (k : ∀ a s' G' H' σ', Ext G H n m G' H' s'.W.length s'.B.length → Rel T G' s' σ' H' → K a s' G' H' σ' → K' a s' G' H' σ') : PoS T W G H n m r K' := by
  cases r with
  | ok a s' => exact fun G' H' b x R => k a s' G' H' b x R (h G' H' b x R)
  | err c s' => exact h
  | stuck => exact h
/-- a value, then a statement -/
theorem PoS.one1 {σ : St} {ra : Rs (List Va)} {k : Va → Sg → Rs α} {K : α → Sg → Gh → Hp → St → Prop} (h : PoS T W G H n m (one1 ra k) K) :
    Po T W G H n m σ (vreps T) ra (fun vs s' G' H' us => ∃ v u, vs = [v] ∧ us = [u] ∧ vrep T s' G' H' v u ∧ PoS T W G' H' s'.W.length s'.B.length (k v s') K) := by
  cases ra with
  | ok vs s' =>
    match vs, h with
    | [v], h =>
      intro G' H' us x R q
      cases q with
      | cons a b =>
        cases b
        exact ⟨v, _, rfl, rfl, a, PoS.ext h x⟩
    | [], h => exact False.elim h
    | _ :: _ :: _, h => exact False.elim h
  | err c s' => exact fun G' H' x R => h G' H' σ x R
  | stuck => exact h
theorem PoS.bindP {σ : St} {γ δ : Type} {rep' : γ → Sg → Gh → Hp → δ → Prop} {ra : Rs γ} {k : γ → Sg → Rs α} {K : α → Sg → Gh → Hp → St → Prop} (h : PoS T W G H n m (ra.bind k) K) :
    Po T W G H n m σ rep' ra (fun a s' G' H' b => rep' a s' G' H' b ∧ PoS T W G' H' s'.W.length s'.B.length (k a s') K) := by
  cases ra with
  | ok a s' => exact fun G' H' b x R q => ⟨q, PoS.ext h x⟩
  | err c s' => exact fun G' H' x R => h G' H' σ x R
  | stuck => exact h
theorem PoS.bind {γ : Type} {ra : Rs γ} {k : γ → Sg → Rs α} {K : α → Sg → Gh → Hp → St → Prop} (h : PoS T W G H n m (ra.bind k) K) :
    PoS T W G H n m ra (fun a s' G' H' _ => PoS T W G' H' s'.W.length s'.B.length (k a s') K) := by
  cases ra with
  | ok a s' => exact fun G' H' b x R => PoS.ext h x
  | err c s' => exact h
  | stuck => exact h
end
end BC

/-! BOps: the evaluator's operations on data are the model's. -/
namespace BC
open PySem L2

/-- data as an operation reads it: also a list that may change, and the script -/
inductive Dq (K : PySem.W.Frag) (H F : Hp) (st : Bool) : V → PyData → Prop
  | of {v d} : Dx K F v d → Dq K H F st v d
  | cell {a us xs} : H a = some (.lst us) → DxAll K F us xs → Dq K H F st (.ref a) (.list xs)
  | scr {a} {ns : List Int} : st = false → SqL K F a (ns.map V.int) → Dq K H F st (.ref a) (.list (ns.map .int))
section
variable {K : PySem.W.Frag} {H F : Hp} {st : Bool} {v : V}
theorem dq_non (h : Dq K H F st v .none) : v = .non := by cases h with | of h => cases h; rfl
theorem dq_bl {b : Bool} (h : Dq K H F st v (.bool b)) : v = .bl b := by cases h with | of h => cases h; rfl
theorem dq_int {b : Int} (h : Dq K H F st v (.int b)) : v = .int b := by cases h with | of h => cases h; rfl
theorem dq_str {b : Str} (h : Dq K H F st v (.str b)) : v = .str b := by cases h with | of h => cases h; rfl
theorem dq_tup {xs : List PyData} (m : Same F H) (h : Dq K H F st v (.tuple xs)) : ∃ a us, v = .ref a ∧ SqT K H a us ∧ DxAll K F us xs := by
  cases h with | of h => cases h with | tup h1 h2 => exact ⟨_, _, rfl, sqT_mono m h1, h2⟩
theorem dq_tupF {xs : List PyData} (h : Dq K H F st v (.tuple xs)) : ∃ a us, v = .ref a ∧ SqT K F a us ∧ DxAll K F us xs := by
  cases h with | of h => cases h with | tup h1 h2 => exact ⟨_, _, rfl, h1, h2⟩
theorem dq_lst {xs : List PyData} (m : Same F H) (h : Dq K H F true v (.list xs)) : ∃ a us, v = .ref a ∧ H a = some (.lst us) ∧ DxAll K F us xs := by
  generalize e : PyData.list xs = d at h
  cases h with
  | of h =>
    subst e
    cases h with | lst h1 h2 => exact ⟨_, _, rfl, m _ _ h1, h2⟩
  | cell h1 h2 =>
    injection e with e
    subst e
    exact ⟨_, _, rfl, h1, h2⟩
  | scr h _ => cases h
theorem dq_lstR {xs : List PyData} (m : Same F H) (h : Dq K H F st v (.list xs)) : ∃ a us, v = .ref a ∧ SqL K H a us ∧ DxAll K F us xs := by
  generalize e : PyData.list xs = d at h
  cases h with
  | of h =>
    subst e
    cases h with | lst h1 h2 => exact ⟨_, _, rfl, SqL.of (m _ _ h1), h2⟩
  | cell h1 h2 =>
    injection e with e
    subst e
    exact ⟨_, _, rfl, SqL.of h1, h2⟩
  | scr _ h =>
    injection e with e
    subst e
    exact ⟨_, _, rfl, sqL_mono m h, dpAll_of_ints _⟩
theorem dq_dict {xs} (h : Dq K H F st v (.dict xs)) : False := by cases h with | of h => cases h
theorem dq_dp {d : PyData} (m : Same F H) (h : Dq K H F st v d) : Dp K H v d := by
  cases h with
  | of h => exact dp_of m _ _ h
  | cell h1 h2 => exact .lst (SqL.of h1) (dpAll_of m _ _ h2)
  | scr _ h => exact .lst (sqL_mono m h) (dpAll_of m _ _ (dpAll_of_ints _))

/-- what a pure operation hands on: data, by growth -/
def Pst (K : PySem.W.Frag) (H F : Hp) (z : PyData) (Q : VK) : Prop := ∀ u H' F', Same H H' → Same F F' → (∀ a o, F' a = some o → F a = some o ∨ H a = none) → Same F' H' → Dx K F' u z → Q u H'
theorem Pst.same {z : PyData} {Q : VK} {u : V} (p : Pst K H F z Q) (m : Same F H) (h : Dx K F u z) : Q u H := p u H F (Same.refl _) (Same.refl _) (fun _ _ h => .inl h) m h
theorem same_upd {a : Addr} {o : HO} (h : H a = none) : Same H (upd H a o) := fun b u e => by rw [upd_ne (ne_of_none e h)]; exact e
theorem sub_none {a : Addr} (m : Same F H) (h : H a = none) : F a = none := by
  cases e : F a with
  | none => rfl
  | some o => rw [m _ _ e] at h; cases h
theorem Pst.new {z : PyData} {Q : VK} {o : HO} (p : Pst K H F z Q) (m : Same F H) (h : ∀ a F', Same F F' → F' a = some o → Dx K F' (.ref a) z) : ∀ a, H a = none → Q (.ref a) (upd H a o) := fun a e => by
  have eF := sub_none m e
  refine p (.ref a) (upd H a o) (upd F a o) (same_upd e) (same_upd eF) (fun b u h => ?_) (fun b u h => ?_) (h a _ (same_upd eF) upd_same)
  · by_cases hb : b = a
    · subst hb; exact .inr e
    · rw [upd_ne hb] at h; exact .inl h
  · by_cases hb : b = a
    · subst hb; rw [upd_same] at h ⊢; exact h
    · rw [upd_ne hb] at h ⊢; exact m _ _ h
theorem Pst.newL {zs : List PyData} {us : List V} {Q : VK} (p : Pst K H F (.list zs) Q) (m : Same F H) (h : DxAll K F us zs) : ∀ a, H a = none → Q (.ref a) (upd H a (.lst us)) :=
  p.new m fun _ _ mm e => .lst e (dpAll_mono mm _ _ h)
theorem Pst.newT {zs : List PyData} {us : List V} {Q : VK} (p : Pst K H F (.tuple zs) Q) (m : Same F H) (h : DxAll K F us zs) : ∀ a, H a = none → Q (.ref a) (upd H a (.tup us)) :=
  p.new m fun _ _ mm e => .tup (SqT.of e) (dpAll_mono mm _ _ h)
end

def rD (K : PySem.W.Frag) (f : PyData → PyData → Option PyData) (s1 s2 : Bool) : R2 := fun x y H Q => ∃ F d e z, Same F H ∧ Dq K H F s1 x d ∧ Dq K H F s2 y e ∧ f d e = some z ∧ Pst K H F z Q
theorem lim_line : lim ≤ sizeLine := by rw [sizeLine_eq]; decide
section
variable {X : Cx}
theorem o_add : OpR X (binaryOp .Add) (rD X.K addD true true) := by
  intro pins s σ H x y v u Q I rx ry h
  obtain ⟨F, d, e, z, m, hd, he, hz, p⟩ := h
  unfold addD at hz
  split at hz
  · cases hz
    exact op_add pins s σ H x y v u Q I rx ry ⟨_, _, dq_int hd, dq_int he, p.same m (.int _)⟩
  · split at hz
    · rename_i hl
      cases hz
      exact op_add_str pins s σ H x y v u Q I rx ry ⟨_, _, dq_str hd, dq_str he, Nat.le_trans hl lim_line, p.same m (.str _)⟩
    · cases hz
  · split at hz
    · rename_i hl
      cases hz
      obtain ⟨a, us, rfl, ha, da⟩ := dq_lst m hd
      obtain ⟨b, ws, rfl, hb, db⟩ := dq_lst m he
      exact op_cat pins s σ H _ _ v u Q I rx ry ⟨a, b, us, ws, rfl, rfl, ha, hb, by rw [dpAll_length da, dpAll_length db]; exact Nat.le_trans hl lim_line, p.newL m (dpAll_append da db)⟩
    · cases hz
  · split at hz
    · rename_i hl
      cases hz
      obtain ⟨a, us, rfl, ha, da⟩ := dq_tupF hd
      obtain ⟨b, ws, rfl, hb, db⟩ := dq_tupF he
      refine op_catT pins s σ H _ _ v u Q I rx ry ⟨a, b, us, ws, rfl, rfl, sqT_mono m ha, sqT_mono m hb, fun q => hl.1 ?_, by rw [dpAll_length da, dpAll_length db]; exact Nat.le_trans hl.2 lim_line, fun q => ?_, fun _ => p.newT m (dpAll_append da db)⟩
      · have := dpAll_length da
        rw [q] at this
        exact List.eq_nil_of_length_eq_zero this.symm
      · subst q
        cases db
        rw [List.append_nil] at p
        exact p.same m (.tup ha da)
    · cases hz
  · cases hz
theorem o_sub : OpR X (binaryOp .Sub) (rD X.K subD true true) := by
  intro pins s σ H x y v u Q I rx ry h
  obtain ⟨F, d, e, z, m, hd, he, hz, p⟩ := h
  unfold subD at hz
  split at hz
  · cases hz
    exact op_sub pins s σ H x y v u Q I rx ry ⟨_, _, dq_int hd, dq_int he, p.same m (.int _)⟩
  · cases hz
theorem nil_of_dx {K : PySem.W.Frag} {F : Hp} {us : List V} {xs : List PyData} (h : DxAll K F us xs) (n : xs ≠ []) : us ≠ [] := fun q => n (by
  have := dpAll_length h
  rw [q] at this
  exact List.eq_nil_of_length_eq_zero this.symm)
theorem o_mul : OpR X (binaryOp .Mult) (rD X.K mulD true true) := by
  intro pins s σ H x y v u Q I rx ry h
  obtain ⟨F, d, e, z, m, hd, he, hz, p⟩ := h
  unfold mulD at hz
  split at hz
  · split at hz
    · rename_i hl
      cases hz
      rcases hl with hl | hl | hl
      · exact op_mul pins s σ H x y v u Q I rx ry ⟨_, _, dq_int hd, dq_int he, .inl hl, p.same m (.int _)⟩
      · exact op_mul pins s σ H x y v u Q I rx ry ⟨_, _, dq_int hd, dq_int he, .inr hl, p.same m (.int _)⟩
      · exact op_mulW pins s σ H x y v u Q I rx ry ⟨_, _, dq_int hd, dq_int he, wide_mul hl.1 hl.2 (by decide) (by decide) (by decide), p.same m (.int _)⟩
    · cases hz
  · split at hz
    · rename_i hl
      cases hz
      obtain ⟨a, us, rfl, ha, da⟩ := dq_lst m hd
      exact op_rep pins s σ H _ _ v u Q I rx ry ⟨a, _, us, rfl, dq_int he, ha, hl.1, hl.2.1, by rw [dpAll_length da]; exact Nat.le_trans hl.2.2 lim_line, p.newL m (dpAll_rep da _)⟩
    · cases hz
  · split at hz
    · rename_i hl
      cases hz
      obtain ⟨a, us, rfl, ha, da⟩ := dq_tup m hd
      exact op_repT pins s σ H _ _ v u Q I rx ry ⟨a, _, us, rfl, dq_int he, ha, nil_of_dx da hl.2.2.1, hl.1, hl.2.1, by rw [dpAll_length da]; exact hl.2.2.2, p.newT m (dpAll_rep da _)⟩
    · cases hz
  · cases hz
theorem o_div : OpR X (binaryOp .FloorDiv) (rD X.K divD true true) := by
  intro pins s σ H x y v u Q I rx ry h
  obtain ⟨F, d, e, z, m, hd, he, hz, p⟩ := h
  unfold divD at hz
  split at hz
  · split at hz
    · rename_i hl
      cases hz
      exact op_fdivW pins s σ H x y v u Q I rx ry ⟨_, _, dq_int hd, dq_int he, wide_div hl.1 hl.2 (by decide) (by decide), p.same m (.int _)⟩
    · cases hz
  · cases hz
theorem o_mod : OpR X (binaryOp .Mod) (rD X.K modD true true) := by
  intro pins s σ H x y v u Q I rx ry h
  obtain ⟨F, d, e, z, m, hd, he, hz, p⟩ := h
  unfold modD at hz
  split at hz
  · split at hz
    · rename_i hl
      cases hz
      exact op_mod pins s σ H x y v u Q I rx ry ⟨_, _, dq_int hd, dq_int he, hl, p.same m (.int _)⟩
    · cases hz
  · cases hz
theorem o_pow : OpR X (binaryOp .Pow) (rD X.K powD true true) := by
  intro pins s σ H x y v u Q I rx ry h
  obtain ⟨F, d, e, z, m, hd, he, hz, p⟩ := h
  unfold powD at hz
  split at hz
  · split at hz
    · rename_i hl
      cases hz
      refine op_pow pins s σ H x y v u Q I rx ry ⟨_, _, dq_int hd, dq_int he, ⟨hl.1, Int.le_trans hl.2.1 (by decide), ?_⟩, p.same m (.int _)⟩
      have := hl.2.2
      simp only [big] at this
      omega
    · cases hz
  · cases hz
def boOp : Bo → Operator
  | .add => .Add | .sub => .Sub | .mul => .Mult | .div => .FloorDiv | .mod => .Mod | .pow => .Pow
theorem o_bin : ∀ o : Bo, OpR X (binaryOp (boOp o)) (rD X.K (binD o) true true)
  | .add => o_add | .sub => o_sub | .mul => o_mul | .div => o_div | .mod => o_mod | .pow => o_pow

/-! ### comparisons -/
def rC (K : PySem.W.Frag) (f : PyData → PyData → Option Bool) : R2 := fun x y H Q => ∃ F d e k, Same F H ∧ Dq K H F true x d ∧ Dq K H F true y e ∧ f d e = some k ∧ Q (.bl k) H
def coOp : Co → CmpOp
  | .eq => .Eq | .ne => .NotEq | .lt => .Lt | .le => .LtE | .gt => .Gt | .ge => .GtE | .isIn => .In | .notIn => .NotIn
theorem flatV_of {K : PySem.W.Frag} {F : Hp} : ∀ {d : PyData} {v : V}, Dx K F v d → flatD d = true → flatV v = true
  | .none, _, h, _ => by cases h; rfl
  | .bool _, _, h, _ => by cases h; rfl
  | .int _, _, h, _ => by cases h; rfl
  | .str _, _, h, _ => by cases h; rfl
  | .list _, _, _, e => by cases e
  | .tuple _, _, _, e => by cases e
  | .dict _, _, _, e => by cases e
theorem flatAll_of {K : PySem.W.Frag} {F : Hp} : ∀ {ds : List PyData} {us : List V}, DxAll K F us ds → ds.all flatD = true → us.all flatV = true
  | [], _, h, _ => by cases h; rfl
  | d :: ds, _, h, e => by
    cases h with
    | cons h1 h2 =>
      rw [List.all_cons, Bool.and_eq_true] at e ⊢
      exact ⟨flatV_of h1 e.1, flatAll_of h2 e.2⟩
theorem eqV_of {K : PySem.W.Frag} {F : Hp} {d e : PyData} {v u : V} (h : Dx K F v d) (h' : Dx K F u e) (fd : flatD d = true) (fe : flatD e = true) : eqV v u = PyData.eqv d e := by
  cases h <;> cases h' <;> first | rfl | (cases fd) | (cases fe)
theorem any_eqV {K : PySem.W.Frag} {F : Hp} {x : PyData} {v : V} (h : Dx K F v x) (fx : flatD x = true) : ∀ {ds : List PyData} {us : List V}, DxAll K F us ds → ds.all flatD = true → (us.any fun y => eqV y v) = ds.any fun z => PyData.eqv z x
  | [], _, h, _ => by cases h; rfl
  | d :: ds, _, hh, e => by
    cases hh with
    | cons h1 h2 =>
      rw [List.all_cons, Bool.and_eq_true] at e
      rw [List.any_cons, List.any_cons, eqV_of h1 h e.1 fx, any_eqV h fx h2 e.2]
theorem dq_flat {K : PySem.W.Frag} {H F : Hp} {st : Bool} {d : PyData} {v : V} (h : Dq K H F st v d) (f : flatD d = true) : Dx K F v d := by
  cases h with
  | of h => exact h
  | cell _ _ => cases f
  | scr _ _ => cases f
theorem o_in (neg : Bool) : OpR X (compareOp (if neg then .NotIn else .In)) (rC X.K fun x y => (inD x y).map fun k => if neg then !k else k) := by
  intro pins s σ H x y v u Q I rx ry h
  obtain ⟨F, d, e, k, m, hd, he, hz, q⟩ := h
  simp only [Option.map_eq_some_iff] at hz
  obtain ⟨k0, hz, rfl⟩ := hz
  unfold inD at hz
  have seq : ∀ {us : List V} {a : Addr} {ys : List PyData}, (SqL X.K H a us ∨ SqT X.K H a us) → DxAll X.K F us ys → y = .ref a → (flatD d && ys.all flatD) = true → (ys.any fun z => PyData.eqv z d) = k0 →
      wpAny (model X.prog X.w) X.A (compareOp (if neg then .NotIn else .In) v u) (EP X pins σ Q) X.xe s := by
    intro us a ys hs da ey hf hk
    subst ey
    rw [Bool.and_eq_true] at hf
    have dx := dq_flat hd hf.1
    have e1 : inV x us = k0 := by unfold inV; rw [any_eqV dx hf.1 da hf.2, hk]
    cases neg with
    | true => exact op_notIn_seq pins s σ H x _ v u Q I rx ry ⟨a, us, rfl, hs, flatV_of dx hf.1, flatAll_of da hf.2, by rw [e1]; exact q⟩
    | false => exact op_in_seq pins s σ H x _ v u Q I rx ry ⟨a, us, rfl, hs, flatV_of dx hf.1, flatAll_of da hf.2, by rw [e1]; exact q⟩
  split at hz
  · split at hz
    · rename_i hf
      cases hz
      obtain ⟨a, us, rfl, ha, da⟩ := dq_lstR m he
      exact seq (.inl ha) da rfl hf rfl
    · cases hz
  · split at hz
    · rename_i hf
      cases hz
      obtain ⟨a, us, rfl, ha, da⟩ := dq_tup m he
      exact seq (.inr ha) da rfl hf rfl
    · cases hz
  · split at hz
    · cases hz
      cases neg with
      | true => exact op_notIn_str pins s σ H x y v u Q I rx ry ⟨_, _, dq_str hd, dq_str he, q⟩
      | false => exact op_in_str pins s σ H x y v u Q I rx ry ⟨_, _, dq_str hd, dq_str he, q⟩
    · cases hz
  · cases hz
theorem o_eq (hu : X.A.units + 64 < cLine) : OpR X (compareOp .Eq) (rC X.K eqD) := by
  intro pins s σ H x y v u Q I rx ry h
  obtain ⟨F, d, e, k, m, hd, he, hz, q⟩ := h
  unfold eqD at hz
  split at hz
  · rename_i hs
    cases hz
    rw [Bool.and_eq_true] at hs
    exact op_eqD hu pins s σ H x y v u Q I rx ry ⟨d, e, dq_dp m hd, dq_dp m he, hs.1, hs.2, q⟩
  · cases hz
theorem o_ne (hu : X.A.units + 64 < cLine) : OpR X (compareOp .NotEq) (rC X.K fun x y => (eqD x y).map (!·)) := by
  intro pins s σ H x y v u Q I rx ry h
  obtain ⟨F, d, e, k, m, hd, he, hz, q⟩ := h
  simp only [Option.map_eq_some_iff] at hz
  obtain ⟨k0, hz, rfl⟩ := hz
  unfold eqD at hz
  split at hz
  · rename_i hs
    cases hz
    rw [Bool.and_eq_true] at hs
    exact op_neD hu pins s σ H x y v u Q I rx ry ⟨d, e, dq_dp m hd, dq_dp m he, hs.1, hs.2, q⟩
  · cases hz
theorem o_lt (hu : X.A.units < cLine) : OpR X (compareOp .Lt) (rC X.K ltD) := by
  intro pins s σ H x y v u Q I rx ry h
  obtain ⟨F, d, e, k, m, hd, he, hz, q⟩ := h
  unfold ltD at hz
  split at hz
  · cases hz
    exact op_lt pins s σ H x y v u Q I rx ry ⟨_, _, dq_int hd, dq_int he, q⟩
  · split at hz
    · rename_i e1 e2
      cases hz
      obtain ⟨a, us, rfl, ha, da⟩ := dq_tup m hd
      obtain ⟨b, ws, rfl, hb, db⟩ := dq_tup m he
      rw [dpAll_ints da e1] at ha
      rw [dpAll_ints db e2] at hb
      exact op_ltT hu pins s σ H _ _ v u Q I rx ry ⟨a, b, _, _, rfl, rfl, ha, hb, q⟩
    · cases hz
  · cases hz
theorem o_cmp (hu : X.A.units + 64 < cLine) : ∀ o : Co, OpR X (compareOp (coOp o)) (rC X.K (cmpD o))
  | .eq => o_eq hu
  | .ne => o_ne hu
  | .lt => o_lt (by omega)
  | .isIn => fun pins s σ H x y v u Q I rx ry ⟨F, d, e, k, m, hd, he, hz, q⟩ => o_in false pins s σ H x y v u Q I rx ry ⟨F, d, e, k, m, hd, he, by simpa [cmpD] using hz, q⟩
  | .notIn => fun pins s σ H x y v u Q I rx ry ⟨F, d, e, k, m, hd, he, hz, q⟩ => o_in true pins s σ H x y v u Q I rx ry ⟨F, d, e, k, m, hd, he, by simpa [cmpD] using hz, q⟩
  | .le => fun pins s σ H x y v u Q I rx ry ⟨F, d, e, k, m, hd, he, hz, q⟩ => by
    unfold cmpD at hz
    split at hz <;> first | contradiction | skip
    all_goals (try (rename_i h; cases h))
    cases hz
    exact op_le pins s σ H x y v u Q I rx ry ⟨_, _, dq_int hd, dq_int he, q⟩
  | .gt => fun pins s σ H x y v u Q I rx ry ⟨F, d, e, k, m, hd, he, hz, q⟩ => by
    unfold cmpD at hz
    split at hz <;> first | contradiction | skip
    all_goals (try (rename_i h; cases h))
    cases hz
    exact op_gt pins s σ H x y v u Q I rx ry ⟨_, _, dq_int hd, dq_int he, q⟩
  | .ge => fun pins s σ H x y v u Q I rx ry ⟨F, d, e, k, m, hd, he, hz, q⟩ => by
    unfold cmpD at hz
    split at hz <;> first | contradiction | skip
    all_goals (try (rename_i h; cases h))
    cases hz
    exact op_ge pins s σ H x y v u Q I rx ry ⟨_, _, dq_int hd, dq_int he, q⟩
theorem tru_of {K : PySem.W.Frag} {H F : Hp} {st : Bool} {v : V} {d : PyData} {k : Bool} (m : Same F H) (h : Dq K H F st v d) (e : truthD d = some k) : TruV K v H k := by
  cases d with
  | none => cases e; rw [dq_non h]; rfl
  | bool b => cases e; rw [dq_bl h]; rfl
  | int i => cases e; rw [dq_int h]; rfl
  | str z =>
    simp only [truthD] at e
    split at e
    · rename_i hl
      cases e
      rw [dq_str h]
      refine ⟨Nat.le_trans hl lim_line, ?_⟩
      cases hz : z.length with
      | zero => rfl
      | succ n => simp [bne]; omega
    · cases e
  | list l =>
    cases e
    obtain ⟨a, us, rfl, ha, da⟩ := dq_lstR m h
    refine .inl ⟨us, ha, ?_⟩
    cases da <;> rfl
  | tuple l =>
    cases e
    obtain ⟨a, us, rfl, ha, da⟩ := dq_tup m h
    refine .inr (.inl ⟨us, ha, ?_⟩)
    cases da <;> rfl
  | dict l => cases e

/-! ### items, slices -/
theorem atI_dx {K : PySem.W.Frag} {F : Hp} {us : List V} {xs : List PyData} {i : Int} {d : PyData} (h : DxAll K F us xs) (e : atI xs i = some d) : ∃ v, atI us i = some v ∧ Dx K F v d := by
  unfold atI at e ⊢
  rw [dpAll_length h]
  cases q : ixN xs.length i with
  | none => rw [q] at e; cases e
  | some j =>
    rw [q] at e
    exact dpAll_get h e
theorem o_idx : IxR X (rD X.K idxD false true) := by
  intro value slice pins s σ H x y v u Q I rx ry h hs
  obtain ⟨F, d, e, z, m, hd, he, hz, p⟩ := h
  unfold idxD at hz
  split at hz
  · obtain ⟨a, us, rfl, ha, da⟩ := dq_lstR m hd
    obtain ⟨w, e1, dw⟩ := atI_dx da hz
    exact ix_list value slice pins s σ H _ _ v u Q I rx ry ⟨a, us, _, w, rfl, dq_int he, ha, e1, p.same m dw⟩ hs
  · obtain ⟨a, us, rfl, ha, da⟩ := dq_tup m hd
    obtain ⟨w, e1, dw⟩ := atI_dx da hz
    exact ix_tup value slice pins s σ H _ _ v u Q I rx ry ⟨a, us, _, w, rfl, dq_int he, ha, e1, p.same m dw⟩ hs
  · split at hz
    · rename_i hl
      simp only [Option.map_eq_some_iff] at hz
      obtain ⟨c, e1, rfl⟩ := hz
      exact ix_str value slice pins s σ H x y v u Q I rx ry ⟨_, _, c, dq_str hd, dq_int he, Nat.le_trans hl lim_line, e1, p.same m (.str _)⟩ hs
    · cases hz
  · cases hz
def rDS (K : PySem.W.Frag) : V → Option Int → Option Int → Hp → VK → Prop := fun x lo hi H Q => ∃ F d z, Same F H ∧ Dq K H F true x d ∧ sliceD d lo hi = some z ∧ Pst K H F z Q
theorem cut_dx {K : PySem.W.Frag} {F : Hp} {us : List V} {xs : List PyData} (lo hi : Option Int) (h : DxAll K F us xs) : DxAll K F (cutV us lo hi) (cutD xs lo hi) := by
  unfold cutV cutD
  rw [dpAll_length h]
  exact dpAll_take _ (dpAll_drop _ h)
theorem o_slice : SlR X (rDS X.K) := by
  intro pins s σ H x v vl vu lo hi sl Q I rx hs pl pu h
  obtain ⟨F, d, z, m, hd, hz, p⟩ := h
  unfold sliceD at hz
  split at hz
  · cases hz
    obtain ⟨a, us, rfl, ha, da⟩ := dq_lst m hd
    exact sl_list pins s σ H _ v vl vu lo hi sl Q I rx hs pl pu ⟨a, us, rfl, SqL.of ha, p.newL m (cut_dx lo hi da)⟩
  · split at hz
    · cases hz
    · rename_i hw
      cases hz
      obtain ⟨a, us, rfl, ha, da⟩ := dq_tup m hd
      exact sl_tup pins s σ H _ v vl vu lo hi sl Q I rx hs pl pu ⟨a, us, rfl, ha, by rw [dpAll_length da]; exact hw, p.newT m (cut_dx lo hi da)⟩
  · split at hz
    · rename_i hl
      cases hz
      exact sl_str pins s σ H _ v vl vu lo hi sl Q I rx hs pl pu ⟨_, dq_str hd, Nat.le_trans hl lim_line, p.same m (.str _)⟩
    · cases hz
  · cases hz
end
end BC

/-! BBlt: the built-in functions on data. -/
namespace BC
open PySem L2

abbrev DqAll (K : PySem.W.Frag) (H F : Hp) : List V → List PyData → Prop := Paired (Dq K H F false)
def rBf (K : PySem.W.Frag) (f : List PyData → Option PyData) : List V → Hp → VK → Prop := fun xs H Q => ∃ F ds z, Same F H ∧ DqAll K H F xs ds ∧ f ds = some z ∧ Pst K H F z Q
theorem all1 {K : PySem.W.Frag} {H F : Hp} {xs : List V} {d : PyData} (h : DqAll K H F xs [d]) : ∃ x, xs = [x] ∧ Dq K H F false x d := by
  cases h with | cons a b => cases b; exact ⟨_, rfl, a⟩
theorem all2 {K : PySem.W.Frag} {H F : Hp} {xs : List V} {d e : PyData} (h : DqAll K H F xs [d, e]) : ∃ x y, xs = [x, y] ∧ Dq K H F false x d ∧ Dq K H F false y e := by
  cases h with | cons a b => cases b with | cons c d => cases d; exact ⟨_, _, rfl, a, c⟩
theorem minL_spec : ∀ (a : Int) (r : List Int) (m : Int), m ∈ a :: r → (∀ y, y ∈ a :: r → m ≤ y) → m = minL (a :: r)
  | a, [], m, h, _ => by simpa [minL] using h
  | a, b :: r, m, h, q => by
    have ih := minL_spec b r
    have e : minL (a :: b :: r) = min a (minL (b :: r)) := rfl
    rw [e]
    have le : ∀ y ∈ b :: r, minL (b :: r) ≤ y := by
      clear ih e h q
      induction r generalizing b with
      | nil => intro y hy; simp [minL] at hy ⊢; omega
      | cons c t ih =>
        intro y hy
        have e : minL (b :: c :: t) = min b (minL (c :: t)) := rfl
        rcases List.mem_cons.mp hy with rfl | hy
        · rw [e]; omega
        · have := ih c y hy; rw [e]; omega
    have mem : ∀ (b : Int) (r : List Int), minL (b :: r) ∈ b :: r := by
      intro b r
      induction r generalizing b with
      | nil => simp [minL]
      | cons c t ih =>
        have e : minL (b :: c :: t) = min b (minL (c :: t)) := rfl
        rw [e]
        by_cases hc : b ≤ minL (c :: t)
        · rw [Int.min_eq_left hc]; exact List.mem_cons_self
        · rw [Int.min_eq_right (by omega)]; exact List.mem_cons_of_mem _ (ih c)
    have h1 := q a List.mem_cons_self
    have h2 := q _ (List.mem_cons_of_mem _ (mem b r))
    rcases List.mem_cons.mp h with rfl | h
    · omega
    · have := le m h; omega
theorem maxL_spec : ∀ (a : Int) (r : List Int) (m : Int), m ∈ a :: r → (∀ y, y ∈ a :: r → y ≤ m) → m = maxL (a :: r)
  | a, [], m, h, _ => by simpa [maxL] using h
  | a, b :: r, m, h, q => by
    have e : maxL (a :: b :: r) = max a (maxL (b :: r)) := rfl
    rw [e]
    have le : ∀ y ∈ b :: r, y ≤ maxL (b :: r) := by
      clear e h q
      induction r generalizing b with
      | nil => intro y hy; simp [maxL] at hy ⊢; omega
      | cons c t ih =>
        intro y hy
        have e : maxL (b :: c :: t) = max b (maxL (c :: t)) := rfl
        rcases List.mem_cons.mp hy with rfl | hy
        · rw [e]; omega
        · have := ih c y hy; rw [e]; omega
    have mem : ∀ (b : Int) (r : List Int), maxL (b :: r) ∈ b :: r := by
      intro b r
      induction r generalizing b with
      | nil => simp [maxL]
      | cons c t ih =>
        have e : maxL (b :: c :: t) = max b (maxL (c :: t)) := rfl
        rw [e]
        by_cases hc : maxL (c :: t) ≤ b
        · rw [Int.max_eq_left hc]; exact List.mem_cons_self
        · rw [Int.max_eq_right (by omega)]; exact List.mem_cons_of_mem _ (ih c)
    have h1 := q a List.mem_cons_self
    have h2 := q _ (List.mem_cons_of_mem _ (mem b r))
    rcases List.mem_cons.mp h with rfl | h
    · omega
    · have := le m h; omega
theorem isort_spec {ns ms : List Int} (h : ms.Perm ns) (q : ms.Pairwise (· ≤ ·)) : ms = isort ns := by
  have h1 : (isort ns).Perm ns := List.mergeSort_perm _ _
  have h2 : (isort ns).Pairwise (fun a b => decide (a ≤ b) = true) := List.pairwise_mergeSort (fun a b c h1 h2 => by simp at *; omega) (fun a b => by simp; omega) _
  refine (h.trans h1.symm).eq_of_pairwise (fun a b _ _ h1 h2 => ?_) q (h2.imp fun h => by simpa using h)
  exact Int.le_antisymm h1 h2
section
variable {X : Cx}
theorem b_len : CallR X (.builtin "len") (rBf X.K bLen) := by
  intro pins s σ H xs us Q I r h
  obtain ⟨F, ds, z, m, hd, hz, p⟩ := h
  unfold bLen at hz
  split at hz <;> (try contradiction)
  · cases hz
    obtain ⟨x, rfl, h1⟩ := all1 hd
    obtain ⟨a, ws, rfl, ha, da⟩ := dq_lstR m h1
    exact call_len_seq pins s σ H _ us Q I r ⟨a, ws, rfl, .inl ha, by rw [dpAll_length da]; exact p.same m (.int _)⟩
  · cases hz
    obtain ⟨x, rfl, h1⟩ := all1 hd
    obtain ⟨a, ws, rfl, ha, da⟩ := dq_tup m h1
    exact call_len_seq pins s σ H _ us Q I r ⟨a, ws, rfl, .inr ha, by rw [dpAll_length da]; exact p.same m (.int _)⟩
  · split at hz
    · rename_i hl
      cases hz
      obtain ⟨x, rfl, h1⟩ := all1 hd
      rw [dq_str h1] at r
      exact call_len_str pins s σ H _ us Q I r ⟨_, rfl, Nat.le_trans hl lim_line, p.same m (.int _)⟩
    · cases hz
theorem b_abs : CallR X (.builtin "abs") (rBf X.K bAbs) := by
  intro pins s σ H xs us Q I r h
  obtain ⟨F, ds, z, m, hd, hz, p⟩ := h
  unfold bAbs at hz
  split at hz <;> (try contradiction)
  cases hz
  obtain ⟨x, rfl, h1⟩ := all1 hd
  exact call_abs pins s σ H _ us Q I r ⟨_, by rw [dq_int h1], p.same m (.int _)⟩
theorem b_min2 (hc : X.calm = true) : CallR X (.builtin "min") (rBf X.K bMin2) := by
  intro pins s σ H xs us Q I r h
  obtain ⟨F, ds, z, m, hd, hz, p⟩ := h
  unfold bMin2 at hz
  split at hz <;> (try contradiction)
  cases hz
  obtain ⟨x, y, rfl, h1, h2⟩ := all2 hd
  exact call_min2 hc pins s σ H _ us Q I r ⟨_, _, by rw [dq_int h1, dq_int h2], p.same m (.int _)⟩
theorem b_max2 (hc : X.calm = true) : CallR X (.builtin "max") (rBf X.K bMax2) := by
  intro pins s σ H xs us Q I r h
  obtain ⟨F, ds, z, m, hd, hz, p⟩ := h
  unfold bMax2 at hz
  split at hz <;> (try contradiction)
  cases hz
  obtain ⟨x, y, rfl, h1, h2⟩ := all2 hd
  exact call_max2 hc pins s σ H _ us Q I r ⟨_, _, by rw [dq_int h1, dq_int h2], p.same m (.int _)⟩
theorem b_min1 (hc : X.calm = true) : CallR X (.builtin "min") (rBf X.K bMin1) := by
  intro pins s σ H xs us Q I r h
  obtain ⟨F, ds, z, m, hd, hz, p⟩ := h
  unfold bMin1 at hz
  split at hz <;> (try contradiction)
  split at hz <;> (try contradiction)
  rename_i e
  cases hz
  obtain ⟨x, rfl, h1⟩ := all1 hd
  obtain ⟨a, ws, rfl, ha, da⟩ := dq_lstR m h1
  rw [dpAll_ints da e] at ha
  exact cr_min hc pins s σ H _ us Q I r ⟨a, _, rfl, ha, by simp, fun k hk hl => by rw [minL_spec _ _ k hk hl]; exact p.same m (.int _)⟩
theorem b_max1 (hc : X.calm = true) : CallR X (.builtin "max") (rBf X.K bMax1) := by
  intro pins s σ H xs us Q I r h
  obtain ⟨F, ds, z, m, hd, hz, p⟩ := h
  unfold bMax1 at hz
  split at hz <;> (try contradiction)
  split at hz <;> (try contradiction)
  rename_i e
  cases hz
  obtain ⟨x, rfl, h1⟩ := all1 hd
  obtain ⟨a, ws, rfl, ha, da⟩ := dq_lstR m h1
  rw [dpAll_ints da e] at ha
  exact cr_max hc pins s σ H _ us Q I r ⟨a, _, rfl, ha, by simp, fun k hk hl => by rw [maxL_spec _ _ k hk hl]; exact p.same m (.int _)⟩
theorem b_sum (hc : X.calm = true) : CallR X (.builtin "sum") (rBf X.K bSum) := by
  intro pins s σ H xs us Q I r h
  obtain ⟨F, ds, z, m, hd, hz, p⟩ := h
  unfold bSum at hz
  split at hz <;> (try contradiction)
  simp only [Option.map_eq_some_iff] at hz
  obtain ⟨ns, e, rfl⟩ := hz
  obtain ⟨x, rfl, h1⟩ := all1 hd
  obtain ⟨a, ws, rfl, ha, da⟩ := dq_lstR m h1
  rw [dpAll_ints da e] at ha
  exact cr_sum hc pins s σ H _ us Q I r ⟨a, _, rfl, ha, p.same m (.int _)⟩
theorem b_sorted : CallR X (.builtin "sorted") (rBf X.K bSorted) := by
  intro pins s σ H xs us Q I r h
  obtain ⟨F, ds, z, m, hd, hz, p⟩ := h
  unfold bSorted at hz
  split at hz <;> (try contradiction)
  simp only [Option.map_eq_some_iff] at hz
  obtain ⟨ns, e, rfl⟩ := hz
  obtain ⟨x, rfl, h1⟩ := all1 hd
  obtain ⟨a, ws, rfl, ha, da⟩ := dq_lstR m h1
  rw [dpAll_ints da e] at ha
  exact cr_sortedI pins s σ H _ us Q I r ⟨a, _, rfl, ha, fun ms b h1 h2 hb => by rw [isort_spec h1 h2]; exact p.newL m (dpAll_of_ints _) b hb⟩
theorem b_tuple : CallR X (.type "tuple") (rBf X.K bTuple) := by
  intro pins s σ H xs us Q I r h
  obtain ⟨F, ds, z, m, hd, hz, p⟩ := h
  unfold bTuple at hz
  split at hz <;> (try contradiction)
  · cases hz
    obtain ⟨x, rfl, h1⟩ := all1 hd
    obtain ⟨a, ws, rfl, ha, da⟩ := dq_lstR m h1
    exact call_tuple_of pins s σ H _ us Q I r ⟨a, ws, rfl, .inl ⟨ha, p.newT m da⟩⟩
  · cases hz
    obtain ⟨x, rfl, h1⟩ := all1 hd
    obtain ⟨a, ws, rfl, ha, da⟩ := dq_tupF h1
    exact call_tuple_of pins s σ H _ us Q I r ⟨a, ws, rfl, .inr ⟨sqT_mono m ha, p.same m (.tup ha da)⟩⟩
theorem b_list : CallR X (.type "list") (rBf X.K bList) := by
  intro pins s σ H xs us Q I r h
  obtain ⟨F, ds, z, m, hd, hz, p⟩ := h
  unfold bList at hz
  split at hz <;> (try contradiction)
  · cases hz
    obtain ⟨x, rfl, h1⟩ := all1 hd
    obtain ⟨a, ws, rfl, ha, da⟩ := dq_lstR m h1
    exact call_list_of pins s σ H _ us Q I r ⟨a, ws, rfl, .inl ha, p.newL m da⟩
  · cases hz
    obtain ⟨x, rfl, h1⟩ := all1 hd
    obtain ⟨a, ws, rfl, ha, da⟩ := dq_tup m h1
    exact call_list_of pins s σ H _ us Q I r ⟨a, ws, rfl, .inr ha, p.newL m da⟩
theorem b_int : CallR X (.type "int") (rBf X.K bInt) := by
  intro pins s σ H xs us Q I r h
  obtain ⟨F, ds, z, m, hd, hz, p⟩ := h
  unfold bInt at hz
  split at hz <;> (try contradiction)
  · cases hz
    obtain ⟨x, rfl, h1⟩ := all1 hd
    exact call_int1 pins s σ H _ us Q I r (.inl ⟨_, by rw [dq_int h1], p.same m (.int _)⟩)
  · cases hz
    obtain ⟨x, rfl, h1⟩ := all1 hd
    exact call_int1 pins s σ H _ us Q I r (.inr ⟨_, by rw [dq_bl h1], p.same m (.int _)⟩)
theorem b_str : CallR X (.type "str") (rBf X.K bStr) := by
  intro pins s σ H xs us Q I r h
  obtain ⟨F, ds, z, m, hd, hz, p⟩ := h
  unfold bStr at hz
  split at hz <;> (try contradiction)
  · split at hz
    · rename_i hl
      cases hz
      obtain ⟨x, rfl, h1⟩ := all1 hd
      refine call_str_int pins s σ H _ us Q I r ⟨_, by rw [dq_int h1], ?_, p.same m (.str _)⟩
      refine Nat.lt_of_lt_of_le (m := 64) (PySem.Flt.log2_lt_of (by decide) ?_) (by decide)
      have := hl
      simp only [big] at this
      omega
    · cases hz
  · cases hz
    obtain ⟨x, rfl, h1⟩ := all1 hd
    exact SkE.call_str_str pins s σ H _ us Q I r ⟨_, by rw [dq_str h1], p.same m (.str _)⟩
theorem b_all (hc : X.calm = true) : CallR X (.builtin "all") (rBf X.K bAll) := by
  intro pins s σ H xs us Q I r h
  obtain ⟨F, ds, z, m, hd, hz, p⟩ := h
  unfold bAll at hz
  split at hz <;> (try contradiction)
  simp only [Option.map_eq_some_iff] at hz
  obtain ⟨ns, e, rfl⟩ := hz
  obtain ⟨x, rfl, h1⟩ := all1 hd
  obtain ⟨a, ws, rfl, ha, da⟩ := dq_lstR m h1
  rw [dpAll_bools da e] at ha
  exact cr_all hc pins s σ H _ us Q I r ⟨a, _, rfl, ha, p.same m (.bl _)⟩
end
end BC

/-! BSnd: each construct's evaluation is the model's. -/
namespace BC
open PySem L2

theorem pe_imp {X : Cx} {e : Expr} {t t' : TE} (h : PE X e t) (i : ∀ σ H Q, t' σ H Q → t σ H Q) : PE X e t' := ⟨fun pins s σ H Q I q => h.run pins s σ H Q I (i σ H Q q)⟩
theorem pt_imp {X : Cx} {e : Expr} {t t' : TT} (h : PT X e t) (i : ∀ σ H Q, t' σ H Q → t σ H Q) : PT X e t' := ⟨fun pins s σ H Q I q => h.run pins s σ H Q I (i σ H Q q)⟩
theorem pw_imp {X : Cx} {e : Expr} {t t' : TT} (h : PW X e t) (i : ∀ σ H Q, t' σ H Q → t σ H Q) : PW X e t' := ⟨fun w pins s σ H Q I q => h.run w pins s σ H Q I (i σ H Q q)⟩
theorem pa_imp {X : Cx} {e : List Expr} {t t' : TA} (h : PA X e t) (i : ∀ σ H Q, t' σ H Q → t σ H Q) : PA X e t' := ⟨fun p pins s σ H Q I q => h.run p pins s σ H Q I (i σ H Q q)⟩
theorem one1_assoc {α : Type} (r : Rs (List Va)) (k : Va → Sg → Rs (List Va)) (j : Va → Sg → Rs α) : one1 (one1 r k) j = one1 r fun v s => one1 (k v s) j := by
  cases r with
  | ok vs s =>
    match vs with
    | [v] => rfl
    | [] => rfl
    | _ :: _ :: _ => rfl
  | err c s => rfl
  | stuck => rfl
theorem bind_one1 {α β : Type} (r : Rs α) (k : α → Sg → Rs (List Va)) (j : Va → Sg → Rs β) : one1 (r.bind k) j = r.bind fun v s => one1 (k v s) j := by
  cases r <;> rfl

section
variable {T : Tn} {W : WX} {G : Gh} {H : Hp} {σ : St} {s : Sg} {Q : VK}
theorem Rel.sub (R : Rel T G s σ H) : Same (part G.own 0 H) H := part_sub
theorem vrep_peek {v : Va} {u : V} {x : PyData} (R : Rel T G s σ H) (r : vrep T s G H v u) (e : peek s v = some x) : Dq T.K H (part G.own 0 H) true u x := by
  cases v with
  | d y => cases e; exact .of r
  | c k =>
    simp only [peek] at e
    split at e
    · rename_i xs hk
      cases e
      have q := R.wld k _ hk
      cases q with
      | lst h d =>
        rw [r.2]
        exact .cell (part_sub _ _ h) d
    · rename_i xs hk
      cases e
      have q := R.wld k _ hk
      cases q with
      | frz h =>
        rw [r.2]
        exact .of h
    · cases e
  | b k => cases e
  | x n => cases e
  | s ns => cases e
theorem dq_weak {K : PySem.W.Frag} {H F : Hp} {v : V} {d : PyData} (h : Dq K H F true v d) : Dq K H F false v d := by
  cases h with
  | of h => exact .of h
  | cell a b => exact .cell a b
  | scr a _ => cases a
theorem vrep_peekR {v : Va} {u : V} {x : PyData} (R : Rel T G s σ H) (r : vrep T s G H v u) (e : peekR s v = some x) : Dq T.K H (part G.own 0 H) false u x := by
  cases v with
  | s ns =>
    cases e
    obtain ⟨a, e1, e2⟩ := r
    rw [e1]
    exact .scr rfl e2
  | d y => exact dq_weak (vrep_peek R r e)
  | c k => exact dq_weak (vrep_peek R r e)
  | b k => cases e
  | x n => cases e
theorem vrep_solid {v : Va} {u : V} {x : PyData} (R : Rel T G s σ H) (r : vrep T s G H v u) (e : solid s v = some x) : Dx T.K (part G.own 0 H) u x := by
  cases v with
  | d y => cases e; exact r
  | c k =>
    simp only [solid] at e
    split at e
    · rename_i xs hk
      cases e
      have q := R.wld k _ hk
      cases q with
      | frz h =>
        rw [r.2]
        exact h
    · cases e
  | b k => cases e
  | x n => cases e
  | s ns => cases e
theorem vreps_solids {vs : List Va} {us : List V} (R : Rel T G s σ H) (r : vreps T vs s G H us) : ∀ {xs : List PyData}, solids s vs = some xs → DxAll T.K (part G.own 0 H) us xs := by
  induction r with
  | nil => intro xs e; cases e; exact .nil
  | cons a b ih =>
    intro xs e
    simp only [solids] at e
    split at e
    · rename_i x ys e1 e2
      cases e
      exact .cons (vrep_solid R a e1) (ih e2)
    · cases e
theorem vreps_peeks {vs : List Va} {us : List V} (R : Rel T G s σ H) (r : vreps T vs s G H us) : ∀ {xs : List PyData}, peeks s vs = some xs → DqAll T.K H (part G.own 0 H) us xs := by
  induction r with
  | nil => intro xs e; cases e; exact .nil
  | cons a b ih =>
    intro xs e
    simp only [peeks] at e
    split at e
    · rename_i x ys e1 e2
      cases e
      exact .cons (vrep_peekR R a e1) (ih e2)
    · cases e
/-- the end of a pure step -/
theorem pst_end {z : PyData} (R : Rel T G s σ H) (h : Po T W G H s.W.length s.B.length σ (vreps T) (dat z s) (fun _ _ _ H' us => ∃ u, us = [u] ∧ Q u H')) : Pst T.K H (part G.own 0 H) z Q := by
  intro u H' F' m1 m2 m3 m4 d
  obtain ⟨R', x⟩ := R.grow (own' := fun a => if (F' a).isSome then 0 else G.own a) m1 (fun a o e => by
    show (if (F' a).isSome then 0 else G.own a) = G.own a
    cases q : F' a with
    | none => rfl
    | some o' =>
      rcases m3 a o' q with z | z
      · exact ((part_iff.mp z).1).symm
      · rw [z] at e; cases e)
  obtain ⟨u', e, q⟩ := h _ H' [u] x R' (.cons (dp_mono (fun a o e => part_iff.mpr ⟨by simp [e], m4 a o e⟩) _ _ d) .nil)
  cases e
  exact q
/-- the end where the heap stands -/
theorem here {v : Va} {u : V} (R : Rel T G s σ H) (r : vrep T s G H v u) (h : Po T W G H s.W.length s.B.length σ (vreps T) (.ok [v] s) (fun _ _ _ H' us => ∃ u, us = [u] ∧ Q u H')) : Q u H := by
  obtain ⟨u', e, q⟩ := h G H [u] (Ext.refl _ _ _ _) R (.cons r .nil)
  cases e
  exact q
theorem hereB {α : Type} {k : α} {Q : α → Hp → Prop} (R : Rel T G s σ H) (h : Po T W G H s.W.length s.B.length σ urep (.ok k s) (fun k _ _ H' _ => Q k H')) : Q k H := h G H () (Ext.refl _ _ _ _) R trivial
/-- truth -/
theorem tru_ok' {v : Va} {u : V} {α β : Type} {rep : α → Sg → Gh → Hp → β → Prop} {j : Bool → Sg → Rs α} {K : α → Sg → Gh → Hp → β → Prop} (R : Rel T G s σ H) (r : vrep T s G H v u)
    (h : Po T W G H s.W.length s.B.length σ rep ((tru v s).bind j) K) : ∃ k, TruV T.K u H k ∧ Po T W G H s.W.length s.B.length σ rep (j k s) K ∧ tru v s = .ok k s := by
  unfold tru at h ⊢
  split at h
  · rename_i x e
    cases q : truthD x with
    | none => rw [q] at h; exact h.elim
    | some k =>
      rw [q] at h
      exact ⟨k, tru_of part_sub (vrep_peekR R r e) q, h, rfl⟩
  · exact h.elim
end

/-! ### names and constants -/
section
variable {X : Cx} {T : Tn} {W : WX} (hK : X.K = T.K)
include hK
theorem s_var {i : Nat} {x : Str} {pos : Pos} (hN : X.N[i]? = some x) (hv : Vis X.env.scope x) (hd : (x == ("__debug__" : Str)) = false) (hcd : (x == ("__classdict__" : Str)) = false) :
    PE X (.Name x pos) (tE T W fun s => match s.ρ[i]? with
      | some (some v) => .ok [v] s
      | _ => .stuck) := by
  refine pe_imp (pe_var hN hv hd hcd) fun σ H Q ⟨s, G, R, h⟩ => ?_
  try dsimp only at h
  split at h
  · rename_i v e
    obtain ⟨u, e1, r⟩ := R.slot i v e
    exact ⟨u, e1, here R r h⟩
  · exact h.elim
/-- a list that changed becomes data -/
theorem Rel.freeze {G : Gh} {s : Sg} {σ : St} {H : Hp} {k : Nat} {xs : List PyData} (R : Rel T G s σ H) (e : s.W[k]? = some (.lst xs)) :
    ∃ own', Rel T { G with own := own' } { s with W := s.W.set k (.frz xs) } σ H ∧ Ext G H s.W.length s.B.length { G with own := own' } H s.W.length s.B.length ∧ Dx T.K (part own' 0 H) (.ref (G.adr k)) (.list xs) := by
  have q := R.wld k _ e
  cases q with
  | lst h d =>
    obtain ⟨ho, hH⟩ := part_iff.mp h
    have m0 : Same (part G.own 0 H) (part (fun a => if a = G.adr k then 0 else G.own a) 0 H) := fun a o q => by
      obtain ⟨q1, q2⟩ := part_iff.mp q
      refine part_iff.mpr ⟨?_, q2⟩
      show (if a = G.adr k then 0 else G.own a) = 0
      split
      · rfl
      · exact q1
    have mo : ∀ t, t ≠ 2 * k + 2 → Same (part G.own t H) (part (fun a => if a = G.adr k then 0 else G.own a) t H) := fun t ht a o q => by
      obtain ⟨q1, q2⟩ := part_iff.mp q
      refine part_iff.mpr ⟨?_, q2⟩
      have hne : a ≠ G.adr k := fun z => ht (by rw [← q1, z]; exact ho)
      show (if a = G.adr k then 0 else G.own a) = t
      rw [if_neg hne]
      exact q1
    have dd : Dx T.K (part (fun a => if a = G.adr k then 0 else G.own a) 0 H) (.ref (G.adr k)) (.list xs) := .lst (part_iff.mpr ⟨by simp, hH⟩) (dpAll_mono m0 _ _ d)
    refine ⟨fun a => if a = G.adr k then 0 else G.own a, ⟨R.len, fun i v e' => ?_, fun i r e' => ?_, fun i r e' => ?_⟩, ⟨fun a o q t => ⟨q, ?_⟩, fun _ _ => rfl, fun _ _ => rfl, Nat.le_refl _, Nat.le_refl _⟩, dd⟩
    · obtain ⟨u, e1, q⟩ := R.slot i v e'
      exact ⟨u, e1, VRep.mono m0 (by simp) (Nat.le_refl _) (fun _ _ => rfl) (fun _ _ => rfl) q⟩
    · by_cases hi : i = k
      · subst hi
        have hlt : i < s.W.length := by
          rcases Nat.lt_or_ge i s.W.length with z | z
          · exact z
          · rw [List.getElem?_eq_none z] at e; cases e
        have : (s.W.set i (.frz xs))[i]? = some (.frz xs) := by simp [hlt]
        rw [this] at e'
        cases e'
        exact .frz dd
      · have : (s.W.set k (.frz xs))[i]? = s.W[i]? := by rw [List.getElem?_set_ne (Ne.symm hi)]
        rw [this] at e'
        exact (R.wld i r e').mono m0 (mo _ (by omega)) (Nat.le_refl _) fun _ _ => rfl
    · exact (R.bx i r e').mono m0 (mo _ (by omega)) (Nat.le_refl _) fun _ _ => rfl
    · show (if a = G.adr k then 0 else G.own a) = G.own a
      split
      · rename_i z
        rw [z, ho] at t
        omega
      · rfl
theorem s_frz {i : Nat} {x : Str} {pos : Pos} (hN : X.N[i]? = some x) (hv : Vis X.env.scope x) (hd : (x == ("__debug__" : Str)) = false) (hcd : (x == ("__classdict__" : Str)) = false) :
    PE X (.Name x pos) (tE T W fun s => match s.ρ[i]? with
      | some (some (.c k)) => match s.W[k]? with
        | some (.lst xs) => dat (.list xs) { s with W := s.W.set k (.frz xs) }
        | some (.frz xs) => dat (.list xs) s
        | _ => .stuck
      | some (some (.d x)) => dat x s
      | _ => .stuck) := by
  refine pe_imp (pe_var hN hv hd hcd) fun σ H Q ⟨s, G, R, h⟩ => ?_
  try dsimp only at h
  split at h
  · rename_i k e
    obtain ⟨u, e1, r⟩ := R.slot i _ e
    refine ⟨u, e1, ?_⟩
    try dsimp only at h
    split at h
    · rename_i xs hk
      obtain ⟨own', R', x', d⟩ := Rel.freeze hK R hk
      rw [r.2]
      obtain ⟨u', e', q⟩ := h _ H [.ref (G.adr k)] (by simpa using x') R' (.cons d .nil)
      cases e'
      exact q
    · rename_i xs hk
      have q := R.wld k _ hk
      cases q with
      | frz d =>
        rw [r.2]
        exact here (v := .d (.list xs)) R d h
    · exact h.elim
  · rename_i x e
    obtain ⟨u, e1, r⟩ := R.slot i _ e
    exact ⟨u, e1, here R r h⟩
  · exact h.elim
theorem s_int {i : Int} {j : Nat} {pos : Pos} : PE X (.Constant (.int i) j pos) (tE T W (dat (.int i))) := pe_imp pe_int fun σ H Q ⟨s, G, R, h⟩ => here (v := .d (.int i)) R (.int i) h
theorem s_bool {i : Bool} {j : Nat} {pos : Pos} : PE X (.Constant (.bool i) j pos) (tE T W (dat (.bool i))) := pe_imp pe_bl fun σ H Q ⟨s, G, R, h⟩ => here (v := .d (.bool i)) R (.bl i) h
theorem s_none {j : Nat} {pos : Pos} : PE X (.Constant .none j pos) (tE T W (dat .none)) := pe_imp pe_non fun σ H Q ⟨s, G, R, h⟩ => here (v := .d .none) R .non h
theorem s_str {i : Str} {j : Nat} {pos : Pos} : PE X (.Constant (.str i) j pos) (tE T W (dat (.str i))) := pe_imp pe_str fun σ H Q ⟨s, G, R, h⟩ => here (v := .d (.str i)) R (.str i) h
theorem s_glob {x : Str} {d : PyData} {pos : Pos} (hg : Gl X x) (hm : ∃ v u, X.mg x = some u ∧ RelV v u ∧ ∀ F, Dx T.K F v d) (hd : (x == ("__debug__" : Str)) = false) : PE X (.Name x pos) (tE T W (dat d)) := by
  obtain ⟨v, u, h1, h2, h3⟩ := hm
  exact pe_imp (pe_glob hg h1 h2 hd) fun σ H Q ⟨s, G, R, h⟩ => here (v := .d d) R (h3 _) h
theorem s_neg {a : Expr} {f : M (List Va)} {pos : Pos} (ha : PE X a (tE T W f)) : PE X (.UnaryOp .USub a pos) (tE T W fun s => one1 (f s) fun x s => match x with
    | .d (.int i) => dat (.int (-i)) s
    | _ => .stuck) := by
  refine pe_imp (pe_un un_neg ha) fun σ H Q ⟨s, G, R, h⟩ => ⟨s, G, R, h.one1.imp fun vs s1 G1 H1 us x R1 _ ⟨v, u, e1, e2, r1, h1⟩ => ⟨u, e2, ?_⟩⟩
  try dsimp only at h1
  split at h1
  · rename_i i
    cases r1
    exact ⟨i, rfl, here (v := .d (.int (-i))) R1 (.int _) h1⟩
  · exact h1.elim
theorem s_bin {o : Bo} {a b : Expr} {fa fb : M (List Va)} {pos : Pos} (ha : PE X a (tE T W fa)) (hb : PE X b (tE T W fb)) : PE X (.BinOp a (boOp o) b pos) (tE T W fun s => one1 (fa s) fun x s => one1 (fb s) fun y s => match peek s x, peek s y with
    | some u, some v => datO (binD o u v) s
    | _, _ => .stuck) := by
  refine pe_imp (pe_op (o_bin o) ha hb) fun σ H Q ⟨s, G, R, h⟩ => ⟨s, G, R, h.one1.imp fun vs s1 G1 H1 us x R1 _ ⟨v, u, e1, e2, r1, h1⟩ => ⟨u, e2, s1, G1, R1, h1.one1.imp fun vs2 s2 G2 H2 us2 x2 R2 _ ⟨v2, u2, e3, e4, r2, h2⟩ => ⟨u2, e4, ?_⟩⟩⟩
  try dsimp only at h2
  split at h2
  · rename_i p q hp hq
    cases hz : binD o p q with
    | none => rw [hz] at h2; exact h2.elim
    | some z =>
      rw [hz] at h2
      rw [hK]
      exact ⟨_, p, q, z, part_sub, vrep_peek R2 (r1.ext x2) hp, vrep_peek R2 r2 hq, hz, pst_end R2 h2⟩
  · exact h2.elim
/-- the reading of a comparison -/
theorem cmp_rd {o : Co} {fa fb : M (List Va)} {σ : St} {H : Hp} {α β : Type} {rep : α → Sg → Gh → Hp → β → Prop} {s : Sg} {G : Gh} {j : PyData → PyData → Bool → Sg → Rs α} {K : α → Sg → Gh → Hp → β → Prop} {Q : VK} (R : Rel T G s σ H)
    (h : Po T W G H s.W.length s.B.length σ rep (one1 (fa s) fun x s => one1 (fb s) fun y s => match peek s x, peek s y with
      | some u, some v => match cmpD o u v with
        | some k => j u v k s
        | none => .stuck
      | _, _ => .stuck) K)
    (hq : ∀ u v s' G' H' k, Rel T G' s' σ H' → Po T W G' H' s'.W.length s'.B.length σ rep (j u v k s') K → Q (.bl k) H') : tOp (rC X.K (cmpD o)) (tE T W fa) (tE T W fb) σ H Q := by
  refine ⟨s, G, R, h.one1.imp fun vs s1 G1 H1 us x R1 _ ⟨v, u, e1, e2, r1, h1⟩ => ⟨u, e2, s1, G1, R1, h1.one1.imp fun vs2 s2 G2 H2 us2 x2 R2 _ ⟨v2, u2, e3, e4, r2, h2⟩ => ⟨u2, e4, ?_⟩⟩⟩
  try dsimp only at h2
  split at h2
  · rename_i p q hp hq'
    try dsimp only at h2
    split at h2
    · rename_i k hz
      rw [hK]
      exact ⟨_, p, q, k, part_sub, vrep_peek R2 (r1.ext x2) hp, vrep_peek R2 r2 hq', hz, hq p q s2 G2 H2 k R2 h2⟩
    · exact h2.elim
  · exact h2.elim
theorem boolO_match (o : Option Bool) (s : Sg) : boolO o s = match o with
    | some k => dat (.bool k) s
    | none => .stuck := by cases o <;> rfl
theorem s_cmp (hu : X.A.units + 64 < cLine) {o : Co} {a b : Expr} {fa fb : M (List Va)} {pos : Pos} (ha : PE X a (tE T W fa)) (hb : PE X b (tE T W fb)) (hm : behindInMarks (coOp o) b = false) : PE X (.Compare a [coOp o] [b] pos) (tE T W fun s => one1 (fa s) fun x s => one1 (fb s) fun y s => match peek s x, peek s y with
    | some u, some v => boolO (cmpD o u v) s
    | _, _ => .stuck) := by
  refine pe_imp (pe_cmpR (o_cmp hu o) ha hb hm) fun σ H Q ⟨s, G, R, h⟩ => ?_
  simp only [boolO_match hK] at h
  exact cmp_rd hK R h fun _ _ s' G' H' k R' h' => here (v := .d (.bool k)) R' (.bl k) h'
theorem t_cmp (hu : X.A.units + 64 < cLine) {o : Co} {a b : Expr} {fa fb : M (List Va)} {pos : Pos} (ha : PE X a (tE T W fa)) (hb : PE X b (tE T W fb)) (hm : behindInMarks (coOp o) b = false) : PT X (.Compare a [coOp o] [b] pos) (tT T W fun s => one1 (one1 (fa s) fun x s => one1 (fb s) fun y s => match peek s x, peek s y with
    | some u, some v => boolO (cmpD o u v) s
    | _, _ => .stuck) tru) := by
  refine pt_imp (pt_cmpR (o_cmp hu o) ha hb hm) fun σ H Q ⟨s, G, R, h⟩ => ?_
  have e : (one1 (one1 (fa s) fun x s => one1 (fb s) fun y s => match peek s x, peek s y with
    | some u, some v => boolO (cmpD o u v) s
    | _, _ => .stuck) tru) = (one1 (fa s) fun x s => one1 (fb s) fun y s => match peek s x, peek s y with
      | some u, some v => match cmpD o u v with
        | some k => .ok k s
        | none => .stuck
      | _, _ => .stuck) := by
    rw [one1_assoc]
    congr 1
    funext x s
    rw [one1_assoc]
    congr 1
    funext y s
    split
    · rename_i u v _ _
      cases cmpD o u v <;> rfl
    · rfl
  dsimp only at h
  rw [e] at h
  show tOp (rC X.K (cmpD o)) (tE T W fa) (tE T W fb) σ H fun x H' => ∃ k, x = .bl k ∧ Q k H'
  exact cmp_rd (j := fun _ _ k s => .ok k s) hK R h fun _ _ s' G' H' k R' h' => ⟨k, rfl, hereB R' h'⟩
theorem s_isN {a : Expr} {f : M (List Va)} {pos pos' : Pos} {j : Nat} (ha : PE X a (tE T W f)) : PE X (.Compare a [.Is] [.Constant .none j pos'] pos) (tE T W fun s => one1 (f s) fun x s => dat (.bool (isNone x)) s) := by
  refine pe_imp (pe_cmp (pc_isN ha) rfl) fun σ H Q ⟨s, G, R, h⟩ => ⟨s, G, R, h.one1.imp fun vs s1 G1 H1 us x R1 _ ⟨v, u, e1, e2, r1, h1⟩ => ⟨u, e2, ?_⟩⟩
  have e : isNone v = decide (u = .non) := by
    cases v with
    | d y => cases r1 <;> rfl
    | c k => rw [r1.2]; rfl
    | b k => rw [r1.2]; rfl
    | x n => obtain ⟨a, e, _⟩ := r1; rw [e]; rfl
    | s n => obtain ⟨a, e, _⟩ := r1; rw [e]; rfl
  try dsimp only
  rw [← e]
  exact here (v := .d (.bool (isNone v))) R1 (.bl _) h1
theorem s_isNot {a : Expr} {f : M (List Va)} {pos pos' : Pos} {j : Nat} (ha : PE X a (tE T W f)) : PE X (.Compare a [.IsNot] [.Constant .none j pos'] pos) (tE T W fun s => one1 (f s) fun x s => dat (.bool (!isNone x)) s) := by
  refine pe_imp (pe_cmp (pc_notN ha) rfl) fun σ H Q ⟨s, G, R, h⟩ => ⟨s, G, R, h.one1.imp fun vs s1 G1 H1 us x R1 _ ⟨v, u, e1, e2, r1, h1⟩ => ⟨u, e2, ?_⟩⟩
  have e : isNone v = decide (u = .non) := by
    cases v with
    | d y => cases r1 <;> rfl
    | c k => rw [r1.2]; rfl
    | b k => rw [r1.2]; rfl
    | x n => obtain ⟨a, e, _⟩ := r1; rw [e]; rfl
    | s n => obtain ⟨a, e, _⟩ := r1; rw [e]; rfl
  try dsimp only
  rw [← e]
  exact here (v := .d (.bool (!isNone v))) R1 (.bl _) h1
/-- a comparison that gives a truth, as a test -/
theorem t_isN {a : Expr} {f : M (List Va)} {pos pos' : Pos} {j : Nat} (ha : PE X a (tE T W f)) : PT X (.Compare a [.Is] [.Constant .none j pos'] pos) (tT T W fun s => one1 (one1 (f s) fun x s => dat (.bool (isNone x)) s) tru) := by
  refine pt_imp (pt_cmp (pc_isN ha) rfl) fun σ H Q ⟨s, G, R, h⟩ => ?_
  dsimp only at h
  rw [one1_assoc] at h
  refine ⟨s, G, R, h.one1.imp fun vs s1 G1 H1 us x R1 _ ⟨v, u, e1, e2, r1, h1⟩ => ⟨u, e2, _, rfl, ?_⟩⟩
  have e : isNone v = decide (u = .non) := by
    cases v with
    | d y => cases r1 <;> rfl
    | c k => rw [r1.2]; rfl
    | b k => rw [r1.2]; rfl
    | x n => obtain ⟨a, e, _⟩ := r1; rw [e]; rfl
    | s n => obtain ⟨a, e, _⟩ := r1; rw [e]; rfl
  try dsimp only
  rw [← e]
  exact hereB R1 h1
theorem t_isNot {a : Expr} {f : M (List Va)} {pos pos' : Pos} {j : Nat} (ha : PE X a (tE T W f)) : PT X (.Compare a [.IsNot] [.Constant .none j pos'] pos) (tT T W fun s => one1 (one1 (f s) fun x s => dat (.bool (!isNone x)) s) tru) := by
  refine pt_imp (pt_cmp (pc_notN ha) rfl) fun σ H Q ⟨s, G, R, h⟩ => ?_
  dsimp only at h
  rw [one1_assoc] at h
  refine ⟨s, G, R, h.one1.imp fun vs s1 G1 H1 us x R1 _ ⟨v, u, e1, e2, r1, h1⟩ => ⟨u, e2, _, rfl, ?_⟩⟩
  have e : isNone v = decide (u = .non) := by
    cases v with
    | d y => cases r1 <;> rfl
    | c k => rw [r1.2]; rfl
    | b k => rw [r1.2]; rfl
    | x n => obtain ⟨a, e, _⟩ := r1; rw [e]; rfl
    | s n => obtain ⟨a, e, _⟩ := r1; rw [e]; rfl
  try dsimp only
  rw [← e]
  exact hereB R1 h1
/-- low <= x <= high: the reading -/
theorem chain_rd {o p : Co} {fa fb fc : M (List Va)} {σ : St} {H : Hp} {α β : Type} {rep : α → Sg → Gh → Hp → β → Prop} {s : Sg} {G : Gh} {j : Bool → Sg → Rs α} {K : α → Sg → Gh → Hp → β → Prop} {Q : VK} (R : Rel T G s σ H)
    (h : Po T W G H s.W.length s.B.length σ rep (one1 (fa s) fun x s => one1 (fb s) fun y s => match peek s x, peek s y with
      | some u, some v => match cmpD o u v with
        | some true => one1 (fc s) fun z s => match peek s y, peek s z with
          | some v, some w => match cmpD p v w with
            | some k => j k s
            | none => .stuck
          | _, _ => .stuck
        | some false => j false s
        | none => .stuck
      | _, _ => .stuck) K)
    (hq : ∀ s' G' H' k, Rel T G' s' σ H' → Po T W G' H' s'.W.length s'.B.length σ rep (j k s') K → Q (.bl k) H') : tChain (rC X.K (cmpD o)) (rC X.K (cmpD p)) (tE T W fa) (tE T W fb) (tE T W fc) σ H Q := by
  refine ⟨s, G, R, h.one1.imp fun vs s1 G1 H1 us x R1 _ ⟨v, u, e1, e2, r1, h1⟩ => ⟨u, e2, s1, G1, R1, h1.one1.imp fun vs2 s2 G2 H2 us2 x2 R2 _ ⟨v2, u2, e3, e4, r2, h2⟩ => ⟨u2, e4, ?_⟩⟩⟩
  try dsimp only at h2
  split at h2
  · rename_i pd qd hp hq'
    split at h2
    · rename_i hz
      rw [hK]
      refine ⟨_, pd, qd, true, part_sub, vrep_peek R2 (r1.ext x2) hp, vrep_peek R2 r2 hq', hz, true, rfl, ?_⟩
      rw [if_pos rfl]
      refine ⟨s2, G2, R2, h2.one1.imp fun vs3 s3 G3 H3 us3 x3 R3 _ ⟨v3, u3, e5, e6, r3, h3⟩ => ⟨u3, e6, ?_⟩⟩
      try dsimp only at h3
      split at h3
      · rename_i pd2 qd2 hp2 hq2
        split at h3
        · rename_i k hz2
          exact ⟨_, pd2, qd2, k, part_sub, vrep_peek R3 (r2.ext x3) hp2, vrep_peek R3 r3 hq2, hz2, hq s3 G3 H3 k R3 h3⟩
        · exact h3.elim
      · exact h3.elim
    · rename_i hz
      rw [hK]
      refine ⟨_, pd, qd, false, part_sub, vrep_peek R2 (r1.ext x2) hp, vrep_peek R2 r2 hq', hz, false, rfl, ?_⟩
      rw [if_neg Bool.false_ne_true]
      exact hq s2 G2 H2 false R2 h2
    · exact h2.elim
  · exact h2.elim
theorem s_chain (hu : X.A.units + 64 < cLine) {o p : Co} {a b c : Expr} {fa fb fc : M (List Va)} {pos : Pos} (ha : PE X a (tE T W fa)) (hb : PE X b (tE T W fb)) (hc : PE X c (tE T W fc)) (hm : lastMarks [coOp o, coOp p] [b, c] = false) : PE X (.Compare a [coOp o, coOp p] [b, c] pos) (tE T W fun s => one1 (fa s) fun x s => one1 (fb s) fun y s => match peek s x, peek s y with
    | some u, some v => match cmpD o u v with
      | some true => one1 (fc s) fun z s => match peek s y, peek s z with
        | some v, some w => boolO (cmpD p v w) s
        | _, _ => .stuck
      | some false => dat (.bool false) s
      | none => .stuck
    | _, _ => .stuck) := by
  refine pe_imp (pe_chain (o_cmp hu o) (o_cmp hu p) ha hb hc hm) fun σ H Q ⟨s, G, R, h⟩ => ?_
  simp only [boolO_match hK] at h
  exact chain_rd hK (j := fun k s => dat (.bool k) s) R h fun s' G' H' k R' h' => here (v := .d (.bool k)) R' (.bl k) h'
theorem t_chain (hu : X.A.units + 64 < cLine) {o p : Co} {a b c : Expr} {fa fb fc : M (List Va)} {pos : Pos} (ha : PE X a (tE T W fa)) (hb : PE X b (tE T W fb)) (hc : PE X c (tE T W fc)) (hm : lastMarks [coOp o, coOp p] [b, c] = false) : PT X (.Compare a [coOp o, coOp p] [b, c] pos) (tT T W fun s => one1 (one1 (fa s) fun x s => one1 (fb s) fun y s => match peek s x, peek s y with
    | some u, some v => match cmpD o u v with
      | some true => one1 (fc s) fun z s => match peek s y, peek s z with
        | some v, some w => boolO (cmpD p v w) s
        | _, _ => .stuck
      | some false => dat (.bool false) s
      | none => .stuck
    | _, _ => .stuck) tru) := by
  refine pt_imp (pt_chain (o_cmp hu o) (o_cmp hu p) ha hb hc hm) fun σ H Q ⟨s, G, R, h⟩ => ?_
  have e : (one1 (one1 (fa s) fun x s => one1 (fb s) fun y s => match peek s x, peek s y with
    | some u, some v => match cmpD o u v with
      | some true => one1 (fc s) fun z s => match peek s y, peek s z with
        | some v, some w => boolO (cmpD p v w) s
        | _, _ => .stuck
      | some false => dat (.bool false) s
      | none => .stuck
    | _, _ => .stuck) tru) = (one1 (fa s) fun x s => one1 (fb s) fun y s => match peek s x, peek s y with
      | some u, some v => match cmpD o u v with
        | some true => one1 (fc s) fun z s => match peek s y, peek s z with
          | some v, some w => match cmpD p v w with
            | some k => Rs.ok k s
            | none => .stuck
          | _, _ => .stuck
        | some false => .ok false s
        | none => .stuck
      | _, _ => .stuck) := by
    rw [one1_assoc]
    congr 1
    funext x s
    rw [one1_assoc]
    congr 1
    funext y s
    split
    · split
      · rw [one1_assoc]
        congr 1
        funext z s
        split
        · rename_i u v _ _
          cases cmpD p u v <;> rfl
        · rfl
      · rfl
      · rfl
    · rfl
  dsimp only at h
  rw [e] at h
  show tChain (rC X.K (cmpD o)) (rC X.K (cmpD p)) (tE T W fa) (tE T W fb) (tE T W fc) σ H fun x H' => ∃ k, x = .bl k ∧ Q k H'
  exact chain_rd hK (j := fun k s => .ok k s) R h fun s' G' H' k R' h' => ⟨k, rfl, hereB R' h'⟩

/-! ### and, or, not, if else -/
theorem s_and {a b : Expr} {rest : List Expr} {fa fb : M (List Va)} {pos : Pos} (ha : PE X a (tE T W fa)) (hb : PE X (.BoolOp .And (b :: rest) pos) (tE T W fb)) : PE X (.BoolOp .And (a :: b :: rest) pos) (tE T W fun s => one1 (fa s) fun x s => (tru x s).bind fun k s => if k then fb s else .ok [x] s) := by
  refine pe_imp (pe_andT ha hb) fun σ H Q ⟨s, G, R, h⟩ => ⟨s, G, R, h.one1.imp fun vs s1 G1 H1 us x R1 _ ⟨v, u, e1, e2, r1, h1⟩ => ⟨u, e2, ?_⟩⟩
  obtain ⟨k, tv, h2, _⟩ := tru_ok' R1 r1 h1
  rw [hK]
  refine ⟨k, tv, ?_⟩
  cases k with
  | true => exact ⟨s1, G1, R1, h2⟩
  | false => exact here R1 r1 h2
theorem s_or {a b : Expr} {rest : List Expr} {fa fb : M (List Va)} {pos : Pos} (ha : PE X a (tE T W fa)) (hb : PE X (.BoolOp .Or (b :: rest) pos) (tE T W fb)) : PE X (.BoolOp .Or (a :: b :: rest) pos) (tE T W fun s => one1 (fa s) fun x s => (tru x s).bind fun k s => if k then .ok [x] s else fb s) := by
  refine pe_imp (pe_orT ha hb) fun σ H Q ⟨s, G, R, h⟩ => ⟨s, G, R, h.one1.imp fun vs s1 G1 H1 us x R1 _ ⟨v, u, e1, e2, r1, h1⟩ => ⟨u, e2, ?_⟩⟩
  obtain ⟨k, tv, h2, _⟩ := tru_ok' R1 r1 h1
  rw [hK]
  refine ⟨k, tv, ?_⟩
  cases k with
  | false => exact ⟨s1, G1, R1, h2⟩
  | true => exact here R1 r1 h2
theorem s_one {op : BoolOp} {a : Expr} {fa : M (List Va)} {pos : Pos} (ha : PE X a (tE T W fa)) : PE X (.BoolOp op [a] pos) (tE T W fa) := pe_one ha
theorem s_not {a : Expr} {fa : M (List Va)} {pos : Pos} (ha : PE X a (tE T W fa)) : PE X (.UnaryOp .Not a pos) (tE T W fun s => one1 (fa s) fun x s => (tru x s).bind fun k s => dat (.bool (!k)) s) := by
  refine pe_imp (pe_notT ha) fun σ H Q ⟨s, G, R, h⟩ => ⟨s, G, R, h.one1.imp fun vs s1 G1 H1 us x R1 _ ⟨v, u, e1, e2, r1, h1⟩ => ⟨u, e2, ?_⟩⟩
  obtain ⟨k, tv, h2, _⟩ := tru_ok' R1 r1 h1
  rw [hK]
  exact ⟨k, tv, here (v := .d (.bool (!k))) R1 (.bl _) h2⟩
theorem tru_dat (k : Bool) (s : Sg) : one1 (dat (.bool k) s) tru = .ok k s := rfl
theorem bind_ok_right {α : Type} (r : Rs α) : (r.bind fun a s => .ok a s) = r := by cases r <;> rfl
theorem ite_bool (k : Bool) {α : Type} {r r' : Rs α} : (if k = true then r else r') = cond k r r' := by cases k <;> rfl
theorem tru_cases (v : Va) (s : Sg) : tru v s = .stuck ∨ ∃ k, tru v s = .ok k s := by
  unfold tru
  split
  · rename_i x _
    cases truthD x with
    | none => exact .inl rfl
    | some k => exact .inr ⟨k, rfl⟩
  · exact .inl rfl
/-- two tests in a row -/
theorem t_and_eq (fa fb : M (List Va)) (s : Sg) : one1 (one1 (fa s) fun x s => (tru x s).bind fun k s => if k then fb s else .ok [x] s) tru = (one1 (fa s) tru).bind fun k s => if k then one1 (fb s) tru else .ok false s := by
  rw [one1_assoc]
  cases fa s with
  | err c t => rfl
  | stuck => rfl
  | ok vs t =>
    match vs with
    | [] => rfl
    | _ :: _ :: _ => rfl
    | [v] =>
      show one1 ((tru v t).bind fun k s => if k then fb s else .ok [v] s) tru = (tru v t).bind fun k s => if k then one1 (fb s) tru else .ok false s
      rcases tru_cases hK v t with h | ⟨k, h⟩
      · rw [h]; rfl
      · rw [h]
        cases k with
        | true => rfl
        | false => exact h
theorem t_or_eq (fa fb : M (List Va)) (s : Sg) : one1 (one1 (fa s) fun x s => (tru x s).bind fun k s => if k then .ok [x] s else fb s) tru = (one1 (fa s) tru).bind fun k s => if k then .ok true s else one1 (fb s) tru := by
  rw [one1_assoc]
  cases fa s with
  | err c t => rfl
  | stuck => rfl
  | ok vs t =>
    match vs with
    | [] => rfl
    | _ :: _ :: _ => rfl
    | [v] =>
      show one1 ((tru v t).bind fun k s => if k then .ok [v] s else fb s) tru = (tru v t).bind fun k s => if k then .ok true s else one1 (fb s) tru
      rcases tru_cases hK v t with h | ⟨k, h⟩
      · rw [h]; rfl
      · rw [h]
        cases k with
        | false => rfl
        | true => exact h
theorem t_not_eq (fa : M (List Va)) (s : Sg) : one1 (one1 (fa s) fun x s => (tru x s).bind fun k s => dat (.bool (!k)) s) tru = (one1 (fa s) tru).bind fun k s => .ok (!k) s := by
  rw [one1_assoc]
  cases fa s with
  | err c t => rfl
  | stuck => rfl
  | ok vs t =>
    match vs with
    | [] => rfl
    | _ :: _ :: _ => rfl
    | [v] =>
      show one1 ((tru v t).bind fun k s => dat (.bool (!k)) s) tru = (tru v t).bind fun k s => .ok (!k) s
      rcases tru_cases hK v t with h | ⟨k, h⟩
      · rw [h]; rfl
      · rw [h]; rfl
theorem t_and {a b : Expr} {rest : List Expr} {fa fb : M (List Va)} {pos : Pos} (ha : PT X a (tT T W fun s => one1 (fa s) tru)) (hb : PW X (.BoolOp .And (b :: rest) pos) (tT T W fun s => one1 (fb s) tru)) : PW X (.BoolOp .And (a :: b :: rest) pos) (tT T W fun s => one1 (one1 (fa s) fun x s => (tru x s).bind fun k s => if k then fb s else .ok [x] s) tru) := by
  refine pw_imp (pw_and ha hb) fun σ H Q ⟨s, G, R, h⟩ => ?_
  dsimp only at h
  rw [t_and_eq hK] at h
  refine ⟨s, G, R, h.bind.imp fun k s1 G1 H1 _ x R1 _ h1 => ?_⟩
  have h1 := h1.2
  cases k with
  | true => exact ⟨s1, G1, R1, h1⟩
  | false => exact hereB R1 h1
theorem t_or {a b : Expr} {rest : List Expr} {fa fb : M (List Va)} {pos : Pos} (ha : PT X a (tT T W fun s => one1 (fa s) tru)) (hb : PW X (.BoolOp .Or (b :: rest) pos) (tT T W fun s => one1 (fb s) tru)) : PW X (.BoolOp .Or (a :: b :: rest) pos) (tT T W fun s => one1 (one1 (fa s) fun x s => (tru x s).bind fun k s => if k then .ok [x] s else fb s) tru) := by
  refine pw_imp (pw_or ha hb) fun σ H Q ⟨s, G, R, h⟩ => ?_
  dsimp only at h
  rw [t_or_eq hK] at h
  refine ⟨s, G, R, h.bind.imp fun k s1 G1 H1 _ x R1 _ h1 => ?_⟩
  have h1 := h1.2
  cases k with
  | false => exact ⟨s1, G1, R1, h1⟩
  | true => exact hereB R1 h1
theorem t_not {a : Expr} {fa : M (List Va)} {pos : Pos} (ha : PT X a (tT T W fun s => one1 (fa s) tru)) : PT X (.UnaryOp .Not a pos) (tT T W fun s => one1 (one1 (fa s) fun x s => (tru x s).bind fun k s => dat (.bool (!k)) s) tru) := by
  refine pt_imp (pt_not ha) fun σ H Q ⟨s, G, R, h⟩ => ?_
  dsimp only at h
  rw [t_not_eq hK] at h
  exact ⟨s, G, R, h.bind.imp fun k s1 G1 H1 _ x R1 _ h1 => hereB R1 h1.2⟩
/-- any expression by its truth -/
theorem t_truth {a : Expr} {fa : M (List Va)} (ha : PE X a (tE T W fa)) (he : ∀ whole, isTrue a X.env whole = (do let v ← whole; standAt a.pos; holding [v] (truthy v))) : PT X a (tT T W fun s => one1 (fa s) tru) := by
  refine pt_imp (pt_truth ha he) fun σ H Q ⟨s, G, R, h⟩ => ⟨s, G, R, h.one1.imp fun vs s1 G1 H1 us x R1 _ ⟨v, u, e1, e2, r1, h1⟩ => ⟨u, e2, ?_⟩⟩
  rw [← bind_ok_right (α := Bool) (hK := hK) (tru v s1)] at h1
  obtain ⟨k, tv, h2, _⟩ := tru_ok' R1 r1 h1
  rw [hK]
  exact ⟨k, tv, hereB R1 h2⟩
theorem s_if {t a b : Expr} {ft fa fb : M (List Va)} {pos : Pos} (ht : PT X t (tT T W fun s => one1 (ft s) tru)) (ha : PE X a (tE T W fa)) (hb : PE X b (tE T W fb)) : PE X (.IfExp t a b pos) (tE T W fun s => one1 (ft s) fun x s => (tru x s).bind fun k s => if k then fa s else fb s) := by
  refine pe_imp (pe_ifExp ht ha hb) fun σ H Q ⟨s, G, R, h⟩ => ?_
  have e : (one1 (ft s) fun x s => (tru x s).bind fun k s => if k then fa s else fb s) = (one1 (ft s) tru).bind fun k s => if k then fa s else fb s := by
    cases ft s with
    | ok vs t =>
      match vs with
      | [v] => rfl
      | [] => rfl
      | _ :: _ :: _ => rfl
    | err c t => rfl
    | stuck => rfl
  dsimp only at h
  rw [e] at h
  refine ⟨s, G, R, h.bind.imp fun k s1 G1 H1 _ x R1 _ h1 => ?_⟩
  have h1 := h1.2
  cases k with
  | false => exact ⟨s1, G1, R1, h1⟩
  | true => exact ⟨s1, G1, R1, h1⟩

/-! ### lists of expressions, displays -/
theorem l_nil : PA X [] (tL T W fun s => .ok [] s) := pa_imp pa_nil fun σ H Q ⟨s, G, R, h⟩ => h G H [] (Ext.refl _ _ _ _) R .nil
theorem l_cons {e : Expr} {es : List Expr} {fa fb : M (List Va)} (ha : PE X e (tE T W fa)) (hb : PA X es (tL T W fb)) (hs : starEach (e :: es) X.env = (false, eval e X.env) :: starEach es X.env) : PA X (e :: es) (tL T W fun s => one1 (fa s) fun x s => (fb s).bind fun xs s => .ok (x :: xs) s) := by
  refine pa_imp (pa_cons ha hb hs) fun σ H Q ⟨s, G, R, h⟩ => ⟨s, G, R, h.one1.imp fun vs s1 G1 H1 us x R1 _ ⟨v, u, e1, e2, r1, h1⟩ => ⟨u, e2, s1, G1, R1, (h1.bind (rep' := vreps T)).imp fun vs2 s2 G2 H2 us2 x2 R2 r2 h2 => ?_⟩⟩
  exact h2.2 G2 H2 (u :: us2) (Ext.refl _ _ _ _) R2 (.cons (r1.ext x2) r2)
theorem s_tup {es : List Expr} {f : M (List Va)} {k : Nat} {pos : Pos} (ha : PA X es (tL T W f)) : PE X (.Tuple es k pos) (tE T W fun s => (f s).bind fun vs s => match solids s vs with
    | some xs => if xs.length ≤ lim then dat (.tuple xs) s else .stuck
    | none => .stuck) := by
  refine pe_imp (pe_tup ha) fun σ H Q ⟨s, G, R, h⟩ => ⟨s, G, R, (h.bind (rep' := vreps T)).imp fun vs s1 G1 H1 us x R1 r1 h1 => ?_⟩
  have h1 := h1.2
  split at h1
  · rename_i xs e
    split at h1
    · rename_i hl
      have d := vreps_solids R1 r1 e
      exact ⟨by rw [dpAll_length d]; exact Nat.le_trans hl lim_line, (pst_end R1 h1).newT part_sub d⟩
    · exact h1.elim
  · exact h1.elim
theorem s_lst {es : List Expr} {f : M (List Va)} {pos : Pos} (ha : PA X es (tL T W f)) : PE X (.List es pos) (tE T W fun s => (f s).bind fun vs s => match solids s vs with
    | some xs => if xs.length ≤ lim then dat (.list xs) s else .stuck
    | none => .stuck) := by
  refine pe_imp (pe_lst ha) fun σ H Q ⟨s, G, R, h⟩ => ⟨s, G, R, (h.bind (rep' := vreps T)).imp fun vs s1 G1 H1 us x R1 r1 h1 => ?_⟩
  have h1 := h1.2
  split at h1
  · rename_i xs e
    split at h1
    · rename_i hl
      have d := vreps_solids R1 r1 e
      exact ⟨by rw [dpAll_length d]; exact Nat.le_trans hl lim_line, (pst_end R1 h1).newL part_sub d⟩
    · exact h1.elim
  · exact h1.elim
theorem s_idx {a b : Expr} {fa fb : M (List Va)} {pos : Pos} (ha : PE X a (tE T W fa)) (hb : PE X b (tE T W fb)) (hp : PlainIx b) : PE X (.Subscript a b pos) (tE T W fun s => one1 (fa s) fun x s => one1 (fb s) fun y s => match peekR s x, peek s y with
    | some u, some v => datO (idxD u v) s
    | _, _ => .stuck) := by
  refine pe_imp (pe_ix o_idx ha hb hp) fun σ H Q ⟨s, G, R, h⟩ => ⟨s, G, R, h.one1.imp fun vs s1 G1 H1 us x R1 _ ⟨v, u, e1, e2, r1, h1⟩ => ⟨u, e2, s1, G1, R1, h1.one1.imp fun vs2 s2 G2 H2 us2 x2 R2 _ ⟨v2, u2, e3, e4, r2, h2⟩ => ⟨u2, e4, ?_⟩⟩⟩
  try dsimp only at h2
  split at h2
  · rename_i p q hp hq
    cases hz : idxD p q with
    | none => rw [hz] at h2; exact h2.elim
    | some z =>
      rw [hz] at h2
      rw [hK]
      exact ⟨_, p, q, z, part_sub, vrep_peekR R2 (r1.ext x2) hp, vrep_peek R2 r2 hq, hz, pst_end R2 h2⟩
  · exact h2.elim
/-- a built-in function of data -/
theorem s_bf {f : List PyData → Option PyData} {id : String} {x : Str} {e : Expr} {es : List Expr} {fa : M (List Va)} {p pos : Pos} (hc : CallR X (.builtin id) (rBf X.K f)) (hg : Gl X x) (hm : X.mg x = none) (hv : bootBuiltins x = some (.builtin id)) (ha : PA X (e :: es) (tL T W fa)) (hn : x ≠ "__name__") (hdb : (x == ("__debug__" : Str)) = false)
    (hs : starEach (e :: es) X.env = (false, eval e X.env) :: starEach es X.env) (hpl : (backTo pos (starEach es X.env)).any (·.1) = false) : PE X (.Call (.Name x p) (e :: es) [] pos) (tE T W fun s => (fa s).bind fun vs s => match peeks s vs with
      | some xs => datO (f xs) s
      | none => .stuck) := by
  refine pe_imp (pe_callB hc hg hm hv ha hn hdb hs hpl) fun σ H Q ⟨s, G, R, h⟩ => ⟨s, G, R, (h.bind (rep' := vreps T)).imp fun vs s1 G1 H1 us x R1 r1 h1 => ?_⟩
  have h1 := h1.2
  split at h1
  · rename_i xs e
    cases hz : f xs with
    | none => rw [hz] at h1; exact h1.elim
    | some z =>
      rw [hz] at h1
      rw [hK]
      exact ⟨_, xs, z, part_sub, vreps_peeks R1 r1 e, hz, pst_end R1 h1⟩
  · exact h1.elim
theorem s_bfT {f : List PyData → Option PyData} {id : String} {x : Str} {e : Expr} {es : List Expr} {fa : M (List Va)} {p pos : Pos} (hc : CallR X (.type id) (rBf X.K f)) (hg : Gl X x) (hm : X.mg x = none) (hv : bootBuiltins x = some (.type id)) (ha : PA X (e :: es) (tL T W fa)) (hn : x ≠ "__name__") (hdb : (x == ("__debug__" : Str)) = false)
    (hs : starEach (e :: es) X.env = (false, eval e X.env) :: starEach es X.env) (hpl : (backTo pos (starEach es X.env)).any (·.1) = false) : PE X (.Call (.Name x p) (e :: es) [] pos) (tE T W fun s => (fa s).bind fun vs s => match peeks s vs with
      | some xs => datO (f xs) s
      | none => .stuck) := by
  refine pe_imp (pe_callTy hc hg hm hv ha hn hdb hs hpl) fun σ H Q ⟨s, G, R, h⟩ => ⟨s, G, R, (h.bind (rep' := vreps T)).imp fun vs s1 G1 H1 us x R1 r1 h1 => ?_⟩
  have h1 := h1.2
  split at h1
  · rename_i xs e
    cases hz : f xs with
    | none => rw [hz] at h1; exact h1.elim
    | some z =>
      rw [hz] at h1
      rw [hK]
      exact ⟨_, xs, z, part_sub, vreps_peeks R1 r1 e, hz, pst_end R1 h1⟩
  · exact h1.elim
end
end BC

/-! BLoop: slices, what is walked, targets, loops, comprehensions. -/
namespace BC
open PySem L2

theorem pi_imp {X : Cx} {tg e : Expr} {t t' : TI} (h : PI X tg e t) (i : ∀ σ H R, t' σ H R → t σ H R) : PI X tg e t' := ⟨fun pins s σ H R I q => h.run pins s σ H R I (i σ H R q)⟩
theorem po_imp {X : Cx} {e : Option Expr} {t t' : TO} (h : PO X e t) (i : ∀ σ H R, t' σ H R → t σ H R) : PO X e t' := ⟨fun pins s σ H R I q => h.run pins s σ H R I (i σ H R q)⟩
theorem ps_imp {X : Cx} {e : Stmt} {t t' : TS} (h : PS X e t) (i : ∀ D σ H, t' D σ H → t D σ H) : PS X e t' := ⟨fun pins s σ H D I q => h.run pins s σ H D I (i D σ H q)⟩
theorem pss_imp {X : Cx} {e : List Stmt} {t t' : TS} (h : PSs X e t) (i : ∀ D σ H, t' D σ H → t D σ H) : PSs X e t' := ⟨fun pins s σ H D I q => h.run pins s σ H D I (i D σ H q)⟩
theorem pg_imp {X : Cx} {e : Expr} {t t' : TG} (h : PG X e t) (i : ∀ v σ H Q, t' v σ H Q → t v σ H Q) : PG X e t' := ⟨fun pins s σ H v u Q I r q => h.run pins s σ H v u Q I r (i v σ H Q q)⟩

def tO (T : Tn) (W : WX) (f : M (Option Int)) : TO := fun σ H Q => ∃ s G, Rel T G s σ H ∧ Po T W G H s.W.length s.B.length σ urep (f s) (fun o _ _ H' _ => Q o H')
/-- what is walked: the items, as they stand -/
def tI (T : Tn) (W : WX) (f : M (List Va)) : TI := fun σ H R => ∃ s G, Rel T G s σ H ∧ Po T W G H s.W.length s.B.length σ (vreps T) (f s) (fun _ _ G' H' us => ∀ J, Walk J us.length (fun H2 => Same (part G'.own 0 H') H2) (YAt us) → R J H')
section
variable {X : Cx} {T : Tn} {W : WX} (hK : X.K = T.K)
include hK
theorem o_none : PO X none (tO T W fun t => .ok none t) := po_imp po_none fun σ H Q ⟨s, G, R, h⟩ => h G H () (Ext.refl _ _ _ _) R trivial
theorem o_some {e : Expr} {f : M (List Va)} (he : PE X e (tE T W f)) : PO X (some e) (tO T W fun t => one1 (f t) partI) := by
  refine po_imp (po_some he) fun σ H Q ⟨s, G, R, h⟩ => ⟨s, G, R, h.one1.imp fun vs s1 G1 H1 us x R1 _ ⟨v, u, e1, e2, r1, h1⟩ => ⟨u, e2, ?_⟩⟩
  unfold partI at h1
  split at h1
  · cases r1
    exact ⟨_, rfl, h1 G1 H1 () (Ext.refl _ _ _ _) R1 trivial⟩
  · exact h1.elim
theorem s_slice {a : Expr} {lo hi : Option Expr} {fa : M (List Va)} {fl fh : M (Option Int)} {p2 pos : Pos} (ha : PE X a (tE T W fa)) (hl : PO X lo (tO T W fl)) (hh : PO X hi (tO T W fh)) : PE X (.Subscript a (.Slice lo hi none p2) pos) (tE T W fun s => one1 (fa s) fun x s => (fl s).bind fun l s => (fh s).bind fun h s => match peek s x with
    | some u => datO (sliceD u l h) s
    | none => .stuck) := by
  refine pe_imp (pe_slice o_slice ha hl hh) fun σ H Q ⟨s, G, R, h⟩ => ⟨s, G, R, h.one1.imp fun vs s1 G1 H1 us x R1 _ ⟨v, u, e1, e2, r1, h1⟩ => ⟨u, e2, s1, G1, R1, (h1.bind (rep' := urep)).imp fun l s2 G2 H2 _ x2 R2 _ h2 => ⟨s2, G2, R2, (h2.2.bind (rep' := urep)).imp fun k s3 G3 H3 _ x3 R3 _ h3 => ?_⟩⟩⟩
  have h3 := h3.2
  split at h3
  · rename_i d e
    cases hz : sliceD d l k with
    | none => rw [hz] at h3; exact h3.elim
    | some z =>
      rw [hz] at h3
      rw [hK]
      exact ⟨_, d, z, part_sub, vrep_peek R3 ((r1.ext x2).ext x3) e, hz, pst_end R3 h3⟩
  · exact h3.elim

/-! ### what is walked -/
theorem rng_reps {i j : Int} {t : Sg} {G : Gh} {H : Hp} : vreps T (rangeL i j) t G H ((List.range (j - i).toNat).map fun (k : Nat) => V.int (i + (k : Int))) := by
  unfold rangeL
  generalize List.range (j - i).toNat = l
  induction l with
  | nil => exact .nil
  | cons b r ih => exact .cons (.int _) ih
theorem rng_walk {i j : Int} {G : Gh} {H : Hp} : Walk (Itr i (j - i).toNat) (((List.range (j - i).toNat).map fun (k : Nat) => V.int (i + (k : Int))) : List V).length (fun H2 => Same (part G.own 0 H) H2) (YAt ((List.range (j - i).toNat).map fun (k : Nat) => V.int (i + (k : Int)))) := by
  have e : (((List.range (j - i).toNat).map fun (k : Nat) => V.int (i + (k : Int))) : List V).length = (j - i).toNat := by simp
  rw [e]
  exact (walk_range (lo := i) (n := (j - i).toNat)).mono (fun _ _ => trivial) fun k H2 y H3 hi _ y' => ⟨y'.1, by rw [y'.2]; simp [hi]⟩
theorem i_rng1 (hm : X.mg "range" = none) {tg a : Expr} {fa : M (List Va)} {p pos : Pos} (hg : Gl X "range") (ha : PE X a (tE T W fa)) (hs : starEach [a] X.env = [(false, eval a X.env)]) : PI X tg (.Call (.Name "range" p) [a] [] pos) (tI T W fun s => one1 (fa s) fun x s => match x with
    | .d (.int j) => if rngOk 0 j then .ok (rangeL 0 j) s else .stuck
    | _ => .stuck) := by
  refine pi_imp (pi_range1 hg hm (pa_cons ha pa_nil hs) hs) fun σ H R' ⟨s, G, R, h⟩ => ⟨s, G, R, h.one1.imp fun vs s1 G1 H1 us x R1 _ ⟨v, u, e1, e2, r1, h1⟩ => ⟨u, e2, ?_⟩⟩
  try dsimp only at h1
  split at h1
  · rename_i j
    split at h1
    · rename_i hj
      cases r1
      have q := h1 G1 H1 _ (Ext.refl _ _ _ _) R1 (rng_reps hK) (Itr 0 (j - 0).toNat) (rng_walk hK)
      rw [Int.sub_zero] at q
      exact ⟨j, rfl, by have := hj.2.2.1; omega, by have := hj.2.2.2; omega, q⟩
    · exact h1.elim
  · exact h1.elim
theorem i_rng2 (hm : X.mg "range" = none) {tg a b : Expr} {fa fb : M (List Va)} {p pos : Pos} (hg : Gl X "range") (ha : PE X a (tE T W fa)) (hb : PE X b (tE T W fb)) (hs : starEach [a, b] X.env = [(false, eval a X.env), (false, eval b X.env)]) (hs2 : starEach [b] X.env = [(false, eval b X.env)]) : PI X tg (.Call (.Name "range" p) [a, b] [] pos) (tI T W fun s => one1 (fa s) fun x s => one1 (fb s) fun y s => match x, y with
    | .d (.int i), .d (.int j) => if rngOk i j then .ok (rangeL i j) s else .stuck
    | _, _ => .stuck) := by
  refine pi_imp (pi_range2 hg hm (pa_cons ha (pa_cons hb pa_nil hs2) (by rw [hs, hs2])) hs hs2) fun σ H R' ⟨s, G, R, h⟩ => ⟨s, G, R, h.one1.imp fun vs s1 G1 H1 us x R1 _ ⟨v, u, e1, e2, r1, h1⟩ => ⟨u, e2, s1, G1, R1, h1.one1.imp fun vs2 s2 G2 H2 us2 x2 R2 _ ⟨v2, u2, e3, e4, r2, h2⟩ => ⟨u2, e4, ?_⟩⟩⟩
  try dsimp only at h2
  split at h2
  · rename_i i j _
    split at h2
    · rename_i hj
      cases r1
      cases r2
      exact ⟨i, j, rfl, ⟨by have := hj.1; omega, by have := hj.2.1; omega, by have := hj.2.2.1; omega, by have := hj.2.2.2; omega⟩, h2 G2 H2 _ (Ext.refl _ _ _ _) R2 (rng_reps hK) (Itr i (j - i).toNat) (rng_walk hK)⟩
    · exact h2.elim
  · exact h2.elim
theorem dx_reps {s : Sg} {G : Gh} {H : Hp} : ∀ {us : List V} {xs : List PyData}, DxAll T.K (part G.own 0 H) us xs → vreps T (xs.map .d) s G H us
  | _, _, .nil => .nil
  | _, _, .cons a b => .cons a (dx_reps b)
/-- a list or a tuple of data -/
theorem i_seq {tg e : Expr} {f : M (List Va)} (he : PE X e (tE T W f)) : PI X tg e (tI T W fun s => one1 (f s) fun x s => match solid s x with
    | some (.list xs) => .ok (xs.map .d) s
    | some (.tuple xs) => .ok (xs.map .d) s
    | _ => .stuck) := by
  refine ⟨fun pins s0 σ H R' I ⟨s, G, R, h⟩ => ?_⟩
  have key : tE T W f σ H (fun x H1 => ∃ a, x = .ref a ∧ (((∃ xs, SqL X.K H1 a xs) ∧ R' (Itl X.K a) H1) ∨ ((∃ xs, SqT X.K H1 a xs) ∧ R' (Itt X.K a) H1))) := by
    refine ⟨s, G, R, h.one1.imp fun vs s1 G1 H1 us x R1 _ ⟨v, u, e1, e2, r1, h1⟩ => ⟨u, e2, ?_⟩⟩
    try dsimp only at h1
    split at h1
    · rename_i xs hx
      have d := vrep_solid R1 r1 hx
      cases d with
      | lst q da =>
        refine ⟨_, rfl, .inl ⟨⟨_, SqL.of (part_sub _ _ q)⟩, h1 G1 H1 _ (Ext.refl _ _ _ _) R1 (dx_reps hK da) _ (walk_list.mono (fun H2 m => SqL.of (m _ _ q)) fun _ _ _ _ _ _ y => y)⟩⟩
    · rename_i xs hx
      have d := vrep_solid R1 r1 hx
      cases d with
      | tup q da =>
        rw [hK]
        refine ⟨_, rfl, .inr ⟨⟨_, sqT_mono part_sub q⟩, h1 G1 H1 _ (Ext.refl _ _ _ _) R1 (dx_reps hK da) _ (walk_tup.mono (fun H2 m => sqT_mono m q) fun _ _ _ _ _ _ y => y)⟩⟩
    · exact h1.elim
  refine thn (he.run pins s0 σ H _ I key) fun v s1 hq => ?_
  obtain ⟨x, H1, I1, r1, a, ex, q⟩ := hq
  rw [ex] at r1
  have ev : v = Value.ref a := r1
  subst ev
  have fresh : ∀ b ∈ [s1.heap.objs.size], FpOk X pins H1 b := fun b hb => by
    rw [List.mem_singleton.mp hb]; exact I1.fpOk (Nat.le_refl _) (I1.hok.fresh (Nat.le_refl _))
  rcases q with ⟨⟨xs, hx⟩, q⟩ | ⟨⟨xs, hx⟩, q⟩
  · obtain ⟨its, rv, pl, hz⟩ := I1.list hx
    exact wpAny_pyIter_list pl.isList ⟨_, [_], _, Itl X.K a, H1, rfl, I1.kept (t' := s1.toks) (fun b o e => Heap.get?_push_of_some _ e), turn_list a _, ⟨_, Heap.get?_push_size _ rfl, rfl, rfl⟩, fresh, q⟩
  · obtain ⟨its, rv, pl, hz⟩ := I1.tuple hx
    exact wpAny_pyIter_tuple (show s1.heap.IsTuple a its.toArray from pl) ⟨_, [_], _, Itt X.K a, H1, rfl, I1.kept (t' := s1.toks) (fun b o e => Heap.get?_push_of_some _ e), turn_tuple a _, ⟨_, Heap.get?_push_size _ rfl, rfl, rfl⟩, fresh, q⟩
/-- a text, sign by sign -/
theorem i_str {tg e : Expr} {f : M (List Va)} (he : PE X e (tE T W f)) : PI X tg e (tI T W fun s => one1 (f s) fun x s => match x with
    | .d (.str z) => .ok (z.cps.toList.map fun c => .d (.str ⟨#[c]⟩)) s
    | _ => .stuck) := by
  refine pi_imp (pi_str he) fun σ H R' ⟨s, G, R, h⟩ => ⟨s, G, R, h.one1.imp fun vs s1 G1 H1 us x R1 _ ⟨v, u, e1, e2, r1, h1⟩ => ⟨u, e2, ?_⟩⟩
  try dsimp only at h1
  split at h1
  · rename_i z
    cases r1
    have hr : vreps T (z.cps.toList.map fun c => .d (.str ⟨#[c]⟩)) s1 G1 H1 (z.cps.toList.map fun c => V.str ⟨#[c]⟩) := by
      generalize z.cps.toList = l
      induction l with
      | nil => exact .nil
      | cons b r ih => exact .cons (.str _) ih
    refine ⟨z, rfl, h1 G1 H1 _ (Ext.refl _ _ _ _) R1 hr (Its z) ?_⟩
    have el : (z.cps.toList.map fun c => V.str ⟨#[c]⟩).length = z.cps.size := by simp
    rw [el]
    refine walk_str.mono (fun _ _ => trivial) fun i H2 y H3 hi _ ⟨y1, c, y2, y3⟩ => ⟨y1, ?_⟩
    have : z.cps.toList[i]? = some c := by rw [Array.getElem?_toList]; exact y2
    rw [y3]; simp only [List.getElem?_map, this, Option.map_some]
  · exact h1.elim

/-! ### targets -/
/-- a name that the block stores -/
structure Nm (X : Cx) (i : Nat) (x : Str) : Prop where
  ix : X.N[i]? = some x
  loc : Loc X.env.scope x
  fn : X.fn x = true ∨ X.env.scope.names.lookup x = some .local
theorem Rel.set {G : Gh} {s : Sg} {σ : St} {H : Hp} {i : Nat} {v : Va} {u : V} (R : Rel T G s σ H) (r : vrep T s G H v u) : Rel T G { s with ρ := s.ρ.set i (some v) } (σ.set i (some u)) H := by
  refine ⟨by simp [R.len], fun j w e => ?_, R.wld, R.bx⟩
  by_cases hj : i = j
  · subst hj
    have hlt : i < s.ρ.length := by
      rcases Nat.lt_or_ge i s.ρ.length with z | z
      · exact z
      · rw [List.getElem?_eq_none (by simpa using z)] at e; cases e
    have e1 : (s.ρ.set i (some v))[i]? = some (some v) := by simp [hlt]
    have e : (s.ρ.set i (some v))[i]? = some (some w) := e
    rw [e1] at e
    cases e
    have : i < σ.length := by rw [← R.len]; exact hlt
    exact ⟨u, by simp [this], r⟩
  · have e : (s.ρ.set i (some v))[j]? = some (some w) := e
    rw [List.getElem?_set_ne hj] at e
    obtain ⟨z, e1, q⟩ := R.slot j w e
    exact ⟨z, by rw [List.getElem?_set_ne hj]; exact e1, q⟩
/-- what a target stores, and what is wanted behind it -/
def gT (T : Tn) (t : Tg) : TG := fun v σ H Q => ∃ s G x, Rel T G s σ H ∧ vrep T s G H x v ∧ ∃ s', setTg t x s = some s' ∧ ∀ σ', Rel T G s' σ' H → Q σ' H
theorem g_name {i : Nat} {x : Str} {pos : Pos} (nd : X.N.Nodup) (n : Nm X i x) : PG X (.Name x pos) (gT T (.name i)) := by
  refine pg_imp (pg_name nd n.ix n.loc n.fn) fun v σ H Q ⟨s, G, y, R, r, s', e, q⟩ => ?_
  cases e
  exact q _ (Rel.set hK R r)
/-- names, one behind another -/
inductive Nms (X : Cx) : List Nat → List Expr → Prop where
  | nil : Nms X [] []
  | cons {i is x pos es} : Nm X i x → Nms X is es → Nms X (i :: is) (.Name x pos :: es)
theorem Nms.each {is : List Nat} {es : List Expr} (h : Nms X is es) : (assignEach es X.env).findIdx? (·.1) = none ∧ (assignEach es X.env).length = is.length := by
  induction h with
  | nil => exact ⟨rfl, rfl⟩
  | cons _ _ ih =>
    refine ⟨?_, by show (_ :: _).length = _; simp [ih.2]⟩
    show ((false, _) :: assignEach _ X.env).findIdx? (·.1) = none
    rw [List.findIdx?_cons]
    simp [ih.1]
def gSlots : List Nat → TGs
  | [] => gNil
  | i :: is => gCons (gName i) (gSlots is)
theorem Nms.pgs {is : List Nat} {es : List Expr} (nd : X.N.Nodup) (h : Nms X is es) : PGs X es (gSlots is) := by
  induction h with
  | nil => exact pgs_nil
  | cons n _ ih => exact pgs_cons (pg_name nd n.ix n.loc n.fn) ih (by rfl)
theorem slots_rd {G : Gh} {H : Hp} {Q : St → Hp → Prop} : ∀ {is : List Nat} {xs : List PyData} {us : List V} {s s' : Sg} {σ : St}, Rel T G s σ H → DxAll T.K (part G.own 0 H) us xs → setIs is xs s = some s' → (∀ σ', Rel T G s' σ' H → Q σ' H) → gSlots is us σ H Q
  | [], [], _, _, _, σ, R, d, e, q => by
    cases d
    cases e
    exact ⟨rfl, q σ R⟩
  | i :: is, x :: xs, _, s, s', σ, R, d, e, q => by
    cases d with
    | cons h t =>
      refine ⟨_, _, rfl, ?_⟩
      exact slots_rd (Rel.set (i := i) hK R (v := .d x) h) t e q
  | [], _ :: _, _, _, _, _, _, _, e, _ => by cases e
  | _ :: _, [], _, _, _, _, _, _, e, _ => by cases e
theorem setIs_len {is : List Nat} {xs : List PyData} {s s' : Sg} (e : setIs is xs s = some s') : xs.length = is.length := by
  induction is generalizing xs s with
  | nil => cases xs with
    | nil => rfl
    | cons _ _ => cases e
  | cons i is ih => cases xs with
    | nil => cases e
    | cons x xs =>
      have e' : setIs is xs { s with ρ := s.ρ.set i (some (.d x)) } = some s' := e
      simp [ih e']
theorem g_names {is : List Nat} {es : List Expr} {k : Nat} {pos : Pos} (hc : X.calm = true) (nd : X.N.Nodup) (h : Nms X is es) : PG X (.Tuple es k pos) (gT T (.names is)) := by
  refine pg_imp (pg_tup hc (h.pgs hK nd) (h.each hK).2 (h.each hK).1) fun v σ H Q ⟨s, G, y, R, r, s', e, q⟩ => ?_
  simp only [setTg] at e
  split at e
  · rename_i xs hx
    have d := vrep_solid R r hx
    cases d with
    | tup a da =>
      rw [hK]
      exact ⟨_, _, rfl, sqT_mono part_sub a, by rw [dpAll_length da]; exact setIs_len hK e, slots_rd hK R da e q⟩
  · cases e
theorem g_namesL {is : List Nat} {es : List Expr} {k : Nat} {pos : Pos} (hc : X.calm = true) (nd : X.N.Nodup) (h : Nms X is es) : PG X (.Tuple es k pos) (gT T (.namesL is)) := by
  refine pg_imp (pg_lst hc (h.pgs hK nd) (h.each hK).2 (h.each hK).1) fun v σ H Q ⟨s, G, y, R, r, s', e, q⟩ => ?_
  simp only [setTg] at e
  split at e
  · rename_i xs hx
    have d := vrep_solid R r hx
    cases d with
    | lst a da =>
      exact ⟨_, _, rfl, SqL.of (part_sub _ _ a), by rw [dpAll_length da]; exact setIs_len hK e, slots_rd hK R da e q⟩
  · cases e
theorem setTg_w {t : Tg} {v : Va} {s s' : Sg} (e : setTg t v s = some s') : s'.W = s.W ∧ s'.B = s.B := by
  have key : ∀ {is : List Nat} {xs : List PyData} {s s' : Sg}, setIs is xs s = some s' → s'.W = s.W ∧ s'.B = s.B := by
    intro is
    induction is with
    | nil => intro xs s s' e; cases xs <;> cases e; exact ⟨rfl, rfl⟩
    | cons i is ih => intro xs s s' e; cases xs with
      | nil => cases e
      | cons x xs =>
        have e' : setIs is xs { s with ρ := s.ρ.set i (some (.d x)) } = some s' := e
        have q := ih e'
        exact ⟨q.1, q.2⟩
  cases t with
  | name i => cases e; exact ⟨rfl, rfl⟩
  | names is => simp only [setTg] at e; split at e; exact key e; cases e
  | namesL is => simp only [setTg] at e; split at e; exact key e; cases e

/-! ### statements -/
theorem ss_nil : PSs X [] (tS T W fun s => .ok .next s) := pss_imp pss_nil fun D σ H ⟨s, G, R, h⟩ => h G H σ (Ext.refl _ _ _ _) R
theorem ss_cons {st : Stmt} {rest : List Stmt} {f g : M Fl} (h1 : PS X st (tS T W f)) (h2 : PSs X rest (tS T W g)) : PSs X (st :: rest) (tS T W fun s => (f s).bind fun k s => match k with
    | .next => g s
    | k => .ok k s) := by
  refine pss_imp (pss_cons h1 h2) fun D σ H ⟨s, G, R, h⟩ => ⟨s, G, R, h.bind.imp fun k s1 G1 H1 σ1 x R1 h1 => ?_⟩
  cases k with
  | next => exact ⟨s1, G1, R1, h1⟩
  | brk => exact h1 G1 H1 σ1 (Ext.refl _ _ _ _) R1
  | cont => exact h1 G1 H1 σ1 (Ext.refl _ _ _ _) R1
  | ret v => exact h1 G1 H1 σ1 (Ext.refl _ _ _ _) R1
theorem st_pass {pos : Pos} : PS X (.Pass pos) (tS T W fun s => .ok .next s) := ps_imp ps_pass fun D σ H ⟨s, G, R, h⟩ => h G H σ (Ext.refl _ _ _ _) R
theorem st_brk {pos : Pos} : PS X (.Break pos) (tS T W fun s => .ok .brk s) := ps_imp ps_break fun D σ H ⟨s, G, R, h⟩ => h G H σ (Ext.refl _ _ _ _) R
theorem st_cont {pos : Pos} : PS X (.Continue pos) (tS T W fun s => .ok .cont s) := ps_imp ps_continue fun D σ H ⟨s, G, R, h⟩ => h G H σ (Ext.refl _ _ _ _) R
theorem st_retN {pos : Pos} : PS X (.Return none pos) (tS T W fun s => .ok (.ret (.d .none)) s) := ps_imp ps_retN fun D σ H ⟨s, G, R, h⟩ => h G H σ (Ext.refl _ _ _ _) R .non .non
theorem st_ret {e : Expr} {f : M (List Va)} {pos : Pos} (he : PE X e (tE T W f)) : PS X (.Return (some e) pos) (tS T W fun s => one1 (f s) fun v s => .ok (.ret v) s) := by
  refine ps_imp (ps_ret he) fun D σ H ⟨s, G, R, h⟩ => ⟨s, G, R, (h.one1 (σ := σ)).imp fun vs s1 G1 H1 us x R1 _ ⟨v, u, e1, e2, r1, h1⟩ => ⟨u, e2, ?_⟩⟩
  exact h1 G1 H1 σ (Ext.refl _ _ _ _) R1 u r1
theorem st_drop {e : Expr} {f : M (List Va)} {pos : Pos} (he : PE X e (tE T W f)) (hs : swapsWith e none pos.line X.env = pure false) : PS X (.Expr e pos) (tS T W fun s => one1 (f s) fun _ s => .ok .next s) := by
  refine ps_imp (ps_expr he hs) fun D σ H ⟨s, G, R, h⟩ => ⟨s, G, R, (h.one1 (σ := σ)).imp fun vs s1 G1 H1 us x R1 _ ⟨v, u, e1, e2, r1, h1⟩ => ⟨u, e2, ?_⟩⟩
  exact h1 G1 H1 σ (Ext.refl _ _ _ _) R1
theorem st_if {c : Expr} {a b : List Stmt} {fc : M (List Va)} {fa fb : M Fl} {pos : Pos} (hc : PT X c (tT T W fun s => one1 (fc s) tru)) (ha : PSs X a (tS T W fa)) (hb : PSs X b (tS T W fb)) : PS X (.If c a b pos) (tS T W fun s => one1 (fc s) fun x s => (tru x s).bind fun k s => if k then fa s else fb s) := by
  refine ps_imp (ps_if hc ha hb) fun D σ H ⟨s, G, R, h⟩ => ?_
  have e : (one1 (fc s) fun x s => (tru x s).bind fun k s => if k then fa s else fb s) = (one1 (fc s) tru).bind fun k s => if k then fa s else fb s := by
    cases fc s with
    | ok vs t =>
      match vs with
      | [v] => rfl
      | [] => rfl
      | _ :: _ :: _ => rfl
    | err c t => rfl
    | stuck => rfl
  dsimp only at h
  rw [e] at h
  refine ⟨s, G, R, (h.bindP (σ := σ) (rep' := urep)).imp fun k s1 G1 H1 _ x R1 _ h1 => ?_⟩
  have h1 := h1.2
  cases k with
  | false => exact ⟨s1, G1, R1, h1⟩
  | true => exact ⟨s1, G1, R1, h1⟩
theorem st_asg {t : Tg} {tg e : Expr} {f : M (List Va)} {pos : Pos} (he : PE X e (tE T W f)) (hg : PG X tg (gT T t)) (hs : swapsWithSole [tg] e pos.line X.env = pure false) (hw : swappedStores [tg] e X.env = pure none)
    (h1 : (assignEach [tg] X.env).map (·.2) = [assign tg X.env]) : PS X (.Assign [tg] e pos) (tS T W fun s => one1 (f s) fun v s => match setTg t v s with
      | some s => .ok .next s
      | none => .stuck) := by
  refine ps_imp (ps_asg he hg hs hw h1) fun D σ H ⟨s, G, R, h⟩ => ⟨s, G, R, (h.one1 (σ := σ)).imp fun vs s1 G1 H1 us x R1 _ ⟨v, u, e1, e2, r1, h1⟩ => ⟨u, e2, s1, G1, v, R1, r1, ?_⟩⟩
  try dsimp only at h1
  split at h1
  · rename_i s2 e
    refine ⟨s2, e, fun σ' R2 => h1 G1 H1 σ' ?_ R2⟩
    obtain ⟨w1, w2⟩ := setTg_w hK e
    rw [w1, w2]
    exact Ext.refl _ _ _ _
  · exact h1.elim
theorem st_set {i : Nat} {x : Str} {e : Expr} {f : M (List Va)} {pos pos' : Pos} (nd : X.N.Nodup) (n : Nm X i x) (he : PE X e (tE T W f)) (hs : swapsWith e (some (.Name x pos')) pos.line X.env = pure false) : PS X (.Assign [.Name x pos'] e pos) (tS T W fun s => one1 (f s) fun v s => match setTg (.name i) v s with
      | some s => .ok .next s
      | none => .stuck) := by
  refine ps_imp (ps_set nd n.ix n.loc he hs n.fn) fun D σ H ⟨s, G, R, h⟩ => ⟨s, G, R, (h.one1 (σ := σ)).imp fun vs s1 G1 H1 us x R1 _ ⟨v, u, e1, e2, r1, h1⟩ => ⟨u, e2, ?_⟩⟩
  exact h1 G1 H1 _ (Ext.refl _ _ _ _) (Rel.set hK R1 r1)

/-! ### loops -/
/-- one turn of a loop -/
theorem turn_rd {f : M Fl} {s : Sg} {G : Gh} {H : Hp} {n m : Nat} {r : List Va} {step : Va → Sg → Rs Fl} {D : Ends} {N : St → Hp → Prop} {k : Sg → Rs Fl}
    (h : PoS T W G H n m (match f s with
      | .ok .next s' => k s'
      | .ok .cont s' => k s'
      | .ok .brk s' => .ok .next s'
      | .ok (.ret x) s' => .ok (.ret x) s'
      | .err c s' => .err c s'
      | .stuck => .stuck) (DK T D)) (hN : ∀ s' G' H' σ', Ext G H n m G' H' s'.W.length s'.B.length → Rel T G' s' σ' H' → PoS T W G H n m (k s') (DK T D) → N σ' H') :
    PoS T W G H n m (f s) (DK T { D with nx := N, ct := N, bk := D.nx }) := by
  cases q : f s with
  | ok fl s' =>
    rw [q] at h
    cases fl with
    | next => exact fun G' H' σ' x R => hN s' G' H' σ' x R h
    | cont => exact fun G' H' σ' x R => hN s' G' H' σ' x R h
    | brk => exact fun G' H' σ' x R => h G' H' σ' x R
    | ret v => exact fun G' H' σ' x R => h G' H' σ' x R
  | err c s' => rw [q] at h; exact h
  | stuck => rw [q] at h; exact h
theorem st_for {t : Tg} {tg iter : Expr} {body : List Stmt} {fs : M (List Va)} {fb : M Fl} {pos : Pos} (hp : PassesOwn (model X.prog X.w) X.A X.env X.xe) (hc : X.calm = true) (hi : PI X tg iter (tI T W fs)) (hg : PG X tg (gT T t)) (hb : PSs X body (tS T W fb))
    (hs : ∀ x, foldedSetIterable iter X.env x = pure x) : PS X (.For tg iter body [] pos) (tS T W fun s => (fs s).bind fun items s => loopL (fun v s => match setTg t v s with
      | some s => fb s
      | none => .stuck) items s) := by
  refine ps_imp (ps_for hp hc hi hg hb hs) fun D σ H ⟨s, G, R, h⟩ => ⟨s, G, R, (h.bindP (σ := σ) (rep' := vreps T)).imp fun items s1 G1 H1 us x R1 r1 h1 => ?_⟩
  have h1 := h1.2
  intro J wk
  have hl : items.length = us.length := r1.length
  refine for_it wk (fun i σ' H' => ∃ s' G', Rel T G' s' σ' H' ∧ Ext G1 H1 s1.W.length s1.B.length G' H' s'.W.length s'.B.length ∧ PoS T W G' H' s'.W.length s'.B.length (loopL (fun v s => match setTg t v s with
      | some s => fb s
      | none => .stuck) (items.drop i) s') (DK T D)) ⟨s1, G1, R1, Ext.refl _ _ _ _, by simpa using h1⟩ (fun i σ' H' _ ⟨s', G', R', x', _⟩ => x'.data.trans part_sub) ?_ ?_
  · rintro i v σ' H' H'' hlt ⟨s', G', R', x', p⟩ ⟨rfl, hv⟩
    have hlt' : i < items.length := by omega
    rw [List.drop_eq_getElem_cons hlt'] at p
    obtain ⟨u, e1, e2⟩ : ∃ u, us[i]? = some u ∧ vrep T s1 G1 H1 items[i] u := by
      have aux : ∀ {vs : List Va} {us : List V} (k : Nat) (hk : k < vs.length), vreps T vs s1 G1 H1 us → ∃ u, us[k]? = some u ∧ vrep T s1 G1 H1 vs[k] u := by
        intro vs us k hk q
        induction q generalizing k with
        | nil => simp at hk
        | cons a b ih =>
          cases k with
          | zero => exact ⟨_, rfl, a⟩
          | succ k =>
            obtain ⟨u, q1, q2⟩ := ih k (by simpa using hk)
            exact ⟨u, by simpa using q1, by simpa using q2⟩
      exact aux i hlt' r1
    rw [hv] at e1
    cases e1
    have e3 : vrep T s' G' H'' items[i] v := e2.ext x'
    simp only [loopL] at p
    cases e : setTg t items[i] s' with
    | none =>
      rw [e] at p
      exact p.elim
    | some s2 =>
      rw [e] at p
      dsimp only at p
      refine ⟨s', G', items[i], R', e3, s2, e, fun σ2 R2 => ?_⟩
      obtain ⟨w1, w2⟩ := setTg_w hK e
      have p := turn_rd hK (r := []) (step := fun _ _ => .stuck) (N := fun σ3 H3 => ∃ s3 G3, Rel T G3 s3 σ3 H3 ∧ Ext G1 H1 s1.W.length s1.B.length G3 H3 s3.W.length s3.B.length ∧ PoS T W G3 H3 s3.W.length s3.B.length (loopL (fun v s => match setTg t v s with
        | some s => fb s
        | none => .stuck) (items.drop (i + 1)) s3) (DK T D)) p fun s3 G3 H3 σ3 x3 R3 p3 => ⟨s3, G3, R3, x'.trans x3, p3.ext x3⟩
      refine ⟨s2, G', R2, ?_⟩
      rw [w1, w2]
      exact p
  · rintro σ' H' ⟨s', G', R', x', p⟩
    rw [← hl, List.drop_length] at p
    exact p G' H' σ' (Ext.refl _ _ _ _) R'
theorem st_while {k : Nat} {c : Expr} {body : List Stmt} {fc : M (List Va)} {fb : M Fl} {pos : Pos} (hp : PassesOwn (model X.prog X.w) X.A X.env X.xe) (hc : PT X c (tT T W fun s => one1 (fc s) tru)) (hb : PSs X body (tS T W fb)) : PS X (.While c body [] pos) (tS T W fun s => whileL (fun s => one1 (fc s) tru) fb k s) := by
  refine ps_imp (ps_while hp hc hb) fun D σ H ⟨s, G, R, h⟩ => ?_
  refine ⟨fun m σ' H' => ∃ s' G', Rel T G' s' σ' H' ∧ PoS T W G' H' s'.W.length s'.B.length (whileL (fun s => one1 (fc s) tru) fb m s') (DK T D), ⟨k, s, G, R, h⟩, ?_⟩
  rintro m σ' H' ⟨s', G', R', p⟩
  cases m with
  | zero => exact p.elim
  | succ m =>
    refine ⟨s', G', R', (PoS.bindP (σ := σ') (rep' := urep) p).imp fun b s1 G1 H1 _ x R1 _ h1 => ?_⟩
    have h1 := h1.2
    cases b with
    | false => exact h1 G1 H1 σ' (Ext.refl _ _ _ _) R1
    | true =>
      dsimp only at h1 ⊢
      rw [if_pos rfl]
      rw [if_pos rfl] at h1
      refine ⟨fun σ2 H2 => ∃ s2 G2, Rel T G2 s2 σ2 H2 ∧ PoS T W G2 H2 s2.W.length s2.B.length (whileL (fun s => one1 (fc s) tru) fb m s2) (DK T D), fun σ2 H2 q => ⟨m, Nat.lt_succ_self _, q⟩, s1, G1, R1, ?_⟩
      exact turn_rd hK (r := []) (step := fun _ _ => .stuck) h1 fun s3 G3 H3 σ3 x3 R3 p3 => ⟨s3, G3, R3, p3.ext x3⟩

/-! ### comprehensions -/
theorem wipeR_some {ρ : List (Option Va)} {i : Nat} {x : Va} : ∀ {vs : List Nat}, (wipeR ρ vs)[i]? = some (some x) → ρ[i]? = some (some x) ∧ i ∉ vs
  | [], h => ⟨h, by simp⟩
  | v :: vs, h => by
    have h : ((wipeR ρ vs).set v none)[i]? = some (some x) := h
    by_cases hi : v = i
    · subst hi
      by_cases hv : v < (wipeR ρ vs).length
      · rw [List.getElem?_set_self hv] at h; cases h
      · rw [List.getElem?_eq_none (by simpa using hv)] at h; cases h
    · rw [List.getElem?_set_ne hi] at h
      obtain ⟨h1, h2⟩ := wipeR_some h
      exact ⟨h1, by simp only [List.mem_cons, not_or]; exact ⟨fun e => hi e.symm, h2⟩⟩
theorem wipeR_len (ρ : List (Option Va)) : ∀ vs : List Nat, (wipeR ρ vs).length = ρ.length
  | [] => rfl
  | v :: vs => by show ((wipeR ρ vs).set v none).length = _; rw [List.length_set, wipeR_len ρ vs]
theorem Rel.wiped {G : Gh} {s : Sg} {σ : St} {H : Hp} (R : Rel T G s σ H) (own : List Nat) : Rel T G { s with ρ := wipeR s.ρ own } (wipe σ own) H := by
  refine ⟨by rw [wipe_length]; show (wipeR s.ρ own).length = _; rw [wipeR_len hK]; exact R.len, fun i v e => ?_, R.wld, R.bx⟩
  obtain ⟨e1, e2⟩ := wipeR_some hK e
  obtain ⟨u, q1, q2⟩ := R.slot i v e1
  exact ⟨u, by rw [wipe_out e2]; exact q1, q2⟩
theorem Rel.slots {G G' : Gh} {s t : Sg} {σ σ' : St} {H H' : Hp} (R : Rel T G s σ H) (R' : Rel T G' t σ' H') (x : Ext G H s.W.length s.B.length G' H' t.W.length t.B.length) : Rel T G' { t with ρ := s.ρ } σ H' := by
  refine ⟨R.len, fun i v e => ?_, R'.wld, R'.bx⟩
  obtain ⟨u, q1, q2⟩ := R.slot i v e
  exact ⟨u, q1, q2.ext x⟩
theorem Rel.retag {G : Gh} {s : Sg} {σ : St} {H : Hp} {D : Addr} (R : Rel T G s σ H) (h : G.own D = 1) : Rel T { G with own := fun a => if a = D then 0 else G.own a } s σ H := by
  have m : ∀ t, t ≠ 1 → Same (part G.own t H) (part (fun a => if a = D then 0 else G.own a) t H) := fun t ht a o q => by
    obtain ⟨q1, q2⟩ := part_iff.mp q
    refine part_iff.mpr ⟨?_, q2⟩
    have : a ≠ D := fun z => ht (by rw [← q1, z]; exact h)
    show (if a = D then 0 else G.own a) = t
    rw [if_neg this]; exact q1
  refine ⟨R.len, fun i v e => ?_, fun k r e => ?_, fun k r e => ?_⟩
  · obtain ⟨u, q1, q2⟩ := R.slot i v e
    exact ⟨u, q1, VRep.mono (m 0 (by decide)) (Nat.le_refl _) (Nat.le_refl _) (fun _ _ => rfl) (fun _ _ => rfl) q2⟩
  · exact (R.wld k r e).mono (m 0 (by decide)) (m _ (by omega)) (Nat.le_refl _) fun _ _ => rfl
  · exact (R.bx k r e).mono (m 0 (by decide)) (m _ (by omega)) (Nat.le_refl _) fun _ _ => rfl
/-- the list that a comprehension has made -/
def crep (T : Tn) (G : Gh) (H : Hp) : List Va → Sg → Gh → Hp → Addr × List V → Prop := fun vs s' G' H' b => H' b.1 = some (.lst b.2) ∧ G'.own b.1 = 1 ∧ (∀ o, H b.1 = some o → 2 ≤ G.own b.1) ∧ vreps T vs s' G' H' b.2
theorem wipeR_get (ρ : List (Option Va)) (k : Nat) : ∀ vs : List Nat, (wipeR ρ vs)[k]? = if k ∈ vs then (if k < ρ.length then some none else none) else ρ[k]?
  | [] => by simp [wipeR]
  | v :: vs => by
    show ((wipeR ρ vs).set v none)[k]? = _
    have l := wipeR_len hK ρ vs
    by_cases hv : v = k
    · subst hv
      rw [if_pos List.mem_cons_self]
      by_cases hlt : v < ρ.length
      · rw [List.getElem?_set_self (by omega), if_pos hlt]
      · rw [List.getElem?_eq_none (by simp; omega), if_neg hlt]
    · rw [List.getElem?_set_ne hv, wipeR_get ρ k vs]
      by_cases hm : k ∈ vs
      · rw [if_pos hm, if_pos (List.mem_cons_of_mem _ hm)]
      · rw [if_neg hm, if_neg (by simp only [List.mem_cons, not_or]; exact ⟨fun z => hv z.symm, hm⟩)]
theorem wipe_get (σ : St) (k : Nat) : ∀ vs : List Nat, (wipe σ vs)[k]? = if k ∈ vs then (if k < σ.length then some none else none) else σ[k]?
  | [] => by simp [wipe]
  | v :: vs => by
    show ((wipe σ vs).set v none)[k]? = _
    have l := wipe_length σ vs
    by_cases hv : v = k
    · subst hv
      rw [if_pos List.mem_cons_self]
      by_cases hlt : v < σ.length
      · rw [List.getElem?_set_self (by omega), if_pos hlt]
      · rw [List.getElem?_eq_none (by simp; omega), if_neg hlt]
    · rw [List.getElem?_set_ne hv, wipe_get σ k vs]
      by_cases hm : k ∈ vs
      · rw [if_pos hm, if_pos (List.mem_cons_of_mem _ hm)]
      · rw [if_neg hm, if_neg (by simp only [List.mem_cons, not_or]; exact ⟨fun z => hv z.symm, hm⟩)]
theorem wipeR_set {ρ : List (Option Va)} {i : Nat} {y : Option Va} {own : List Nat} (hi : i ∈ own) : wipeR (ρ.set i y) own = wipeR ρ own := by
  apply List.ext_getElem?
  intro k
  rw [wipeR_get hK, wipeR_get hK, List.length_set]
  by_cases hk : k ∈ own
  · rw [if_pos hk, if_pos hk]
  · have hne : i ≠ k := fun z => hk (by rw [← z]; exact hi)
    rw [if_neg hk, if_neg hk, List.getElem?_set_ne hne]
theorem wipe_set {ρ : St} {i : Nat} {y : Option V} {own : List Nat} (hi : i ∈ own) : wipe (ρ.set i y) own = wipe ρ own := by
  apply List.ext_getElem?
  intro k
  rw [wipe_get hK, wipe_get hK, List.length_set]
  by_cases hk : k ∈ own
  · rw [if_pos hk, if_pos hk]
  · have hne : i ≠ k := fun z => hk (by rw [← z]; exact hi)
    rw [if_neg hk, if_neg hk, List.getElem?_set_ne hne]
theorem slots_rd2 {G : Gh} {H : Hp} {own : List Nat} {Q : St → Hp → Prop} : ∀ {is : List Nat} {xs : List PyData} {us : List V} {s s' : Sg} {σ : St}, (∀ i ∈ is, i ∈ own) → Rel T G s σ H → DxAll T.K (part G.own 0 H) us xs → setIs is xs s = some s' → (∀ σ', Rel T G s' σ' H → wipe σ' own = wipe σ own → wipeR s'.ρ own = wipeR s.ρ own → Q σ' H) → gSlots is us σ H Q
  | [], [], _, _, _, σ, _, R, d, e, q => by
    cases d
    cases e
    exact ⟨rfl, q σ R rfl rfl⟩
  | i :: is, x :: xs, _, s, s', σ, sub, R, d, e, q => by
    cases d with
    | cons h t =>
      refine ⟨_, _, rfl, ?_⟩
      refine slots_rd2 (fun k hk => sub k (List.mem_cons_of_mem _ hk)) (Rel.set (i := i) hK R (v := .d x) h) t e fun σ' R' w1 w2 => q σ' R' ?_ ?_
      · rw [w1, wipe_set hK (sub i List.mem_cons_self)]
      · rw [w2, wipeR_set hK (sub i List.mem_cons_self)]
  | [], _ :: _, _, _, _, _, _, _, _, e, _ => by cases e
  | _ :: _, [], _, _, _, _, _, _, _, e, _ => by cases e
/-- the reading of a block's own target -/
def gOf (K : PySem.W.Frag) : List Nat → TG
  | [i] => gName i
  | is => gTup K is.length (gSlots is)
theorem gOf_rd {tg own : List Nat} (sub : ∀ i ∈ tg, i ∈ own) {G : Gh} {H : Hp} {Q : St → Hp → Prop} {v : Va} {u : V} {s s' : Sg} {σ : St} (R : Rel T G s σ H) (r : vrep T s G H v u) (e : setTg (tgOf tg) v s = some s')
    (q : ∀ σ', Rel T G s' σ' H → wipe σ' own = wipe σ own → wipeR s'.ρ own = wipeR s.ρ own → Q σ' H) : gOf X.K tg u σ H Q := by
  have many : ∀ is : List Nat, (∀ i ∈ is, i ∈ own) → (match solid s v with
    | some (.tuple xs) => setIs is xs s
    | _ => none) = some s' → gTup X.K is.length (gSlots is) u σ H Q := by
    intro is sub e
    split at e
    · rename_i xs hx
      have d := vrep_solid R r hx
      cases d with
      | tup a da =>
        rw [hK]
        exact ⟨_, _, rfl, sqT_mono part_sub a, by rw [dpAll_length da]; exact setIs_len hK e, slots_rd2 hK sub R da e q⟩
    · cases e
  match tg, e with
  | [i], e =>
    cases e
    exact q _ (Rel.set hK R r) (wipe_set hK (sub i List.mem_cons_self)) (wipeR_set hK (sub i List.mem_cons_self))
  | [], e => exact many [] sub e
  | i :: j :: r, e => exact many (i :: j :: r) sub e
theorem g_of {tg : List Nat} {e : Expr} (hc : X.calm = true) (nd : X.N.Nodup) (h : (∃ i x pos, tg = [i] ∧ e = .Name x pos ∧ Nm X i x) ∨ (∃ es k pos, tg.length ≠ 1 ∧ e = .Tuple es k pos ∧ Nms X tg es)) : PG X e (gOf X.K tg) := by
  rcases h with ⟨i, x, pos, rfl, rfl, n⟩ | ⟨es, k, pos, hl, rfl, n⟩
  · exact pg_name nd n.ix n.loc n.fn
  · have e : gOf X.K tg = gTup X.K tg.length (gSlots tg) := by
      match tg, hl with
      | [], _ => rfl
      | [i], hl => exact absurd rfl hl
      | _ :: _ :: _, _ => rfl
    rw [e]
    exact pg_tup hc (n.pgs hK nd) (n.each hK).2 (n.each hK).1
theorem vreps_at {s : Sg} {G : Gh} {H : Hp} {vs : List Va} {us : List V} : ∀ (k : Nat) (hk : k < vs.length), vreps T vs s G H us → ∃ u, us[k]? = some u ∧ vrep T s G H vs[k] u := by
  intro k hk q
  induction q generalizing k with
  | nil => simp at hk
  | cons a b ih =>
    cases k with
    | zero => exact ⟨_, rfl, a⟩
    | succ k =>
      obtain ⟨u, q1, q2⟩ := ih k (by simpa using hk)
      exact ⟨u, by simpa using q1, by simpa using q2⟩
theorem vreps_snoc {s : Sg} {G : Gh} {H : Hp} {vs : List Va} {us : List V} {v : Va} {u : V} (h : vreps T vs s G H us) (r : vrep T s G H v u) : vreps T (vs ++ [v]) s G H (us ++ [u]) := by
  induction h with
  | nil => exact .cons r .nil
  | cons a _ ih => exact .cons a ih
theorem wipe_twice (σ : St) (own : List Nat) : wipe (wipe σ own) own = wipe σ own := by
  apply List.ext_getElem?
  intro k
  rw [wipe_get hK, wipe_get hK, wipe_length]
  by_cases hk : k ∈ own
  · rw [if_pos hk, if_pos hk]
  · rw [if_neg hk, if_neg hk]
theorem Rel.upd1 {G : Gh} {s : Sg} {σ : St} {H : Hp} {D : Addr} {o : HO} (R : Rel T G s σ H) (h : G.own D = 1) : Rel T G s σ (upd H D o) := by
  have m : ∀ t, t ≠ 1 → Same (part G.own t H) (part G.own t (upd H D o)) := fun t ht a o' q => by
    obtain ⟨q1, q2⟩ := part_iff.mp q
    have : a ≠ D := fun z => ht (by rw [← q1, z]; exact h)
    exact part_iff.mpr ⟨q1, by rw [upd_ne this]; exact q2⟩
  refine ⟨R.len, fun i v e => ?_, fun k r e => ?_, fun k r e => ?_⟩
  · obtain ⟨u, q1, q2⟩ := R.slot i v e
    exact ⟨u, q1, VRep.mono (m 0 (by decide)) (Nat.le_refl _) (Nat.le_refl _) (fun _ _ => rfl) (fun _ _ => rfl) q2⟩
  · exact (R.wld k r e).mono (m 0 (by decide)) (m _ (by omega)) (Nat.le_refl _) fun _ _ => rfl
  · exact (R.bx k r e).mono (m 0 (by decide)) (m _ (by omega)) (Nat.le_refl _) fun _ _ => rfl
theorem vreps_upd1 {s : Sg} {G : Gh} {H : Hp} {D : Addr} {o : HO} (h : G.own D = 1) {vs : List Va} {us : List V} (r : vreps T vs s G H us) : vreps T vs s G (upd H D o) us := by
  have m : Same (part G.own 0 H) (part G.own 0 (upd H D o)) := fun a o' q => by
    obtain ⟨q1, q2⟩ := part_iff.mp q
    have : a ≠ D := fun z => by rw [z, h] at q1; cases q1
    exact part_iff.mpr ⟨q1, by rw [upd_ne this]; exact q2⟩
  exact Paired.mapP r fun _ _ => VRep.mono m (Nat.le_refl _) (Nat.le_refl _) (fun _ _ => rfl) (fun _ _ => rfl)
/-- a comprehension: the reading -/
theorem c_rd {fs : M (List Va)} {fc : M Bool} {fe : M (List Va)} {tg own : List Nat} (sub : ∀ i ∈ tg, i ∈ own) {σ : St} {H : Hp} {Q : VK} {s : Sg} {G : Gh} (R : Rel T G s σ H)
    (h : Po T W G H s.W.length s.B.length σ (crep T G H) (compM fs tg own fc fe s) (fun _ _ _ H' b => Q (.ref b.1) H')) : tLc (tI T W fs) (gOf X.K tg) (tT T (fun _ _ _ _ => False) fc) (tE T (fun _ _ _ _ => False) fe) own σ H Q := by
  refine ⟨s, G, R, ?_⟩
  unfold compM at h
  refine (h.bind (rep' := vreps T)).imp fun items s1 G1 H1 us x1 R1 r1 h1 => ?_
  have r1 := h1.1
  have h1 := h1.2
  intro J wk D hD
  have hl : items.length = us.length := r1.length
  have k0 : ∀ a o, H1 a = some o → (fun a => if a = D then 1 else G1.own a) a = G1.own a := fun a o e => by
    show (if a = D then 1 else G1.own a) = G1.own a
    rw [if_neg (ne_of_none e hD)]
  obtain ⟨R0, x0⟩ := R1.grow (own' := fun a => if a = D then 1 else G1.own a) (same_upd (o := .lst []) hD) k0
  have own0 : ∀ o, H D = some o → 2 ≤ G.own D := fun o e => by
    rcases Nat.lt_or_ge (G.own D) 2 with z | z
    · have := (x1.keep D o e (by omega)).1
      rw [hD] at this; cases this
    · exact z
  let turn : Va → Sg → Rs (Option Va) := fun v t => match setTg (tgOf tg) v { t with ρ := wipeR s1.ρ own } with
      | some t1 => (fc t1).bind fun b t2 => if b then one1 (fe t2) fun y t3 => .ok (some y) t3 else .ok none t2
      | none => .stuck
  refine lc_it wk (fun i H' => ∃ t G' σt acc ac, Rel T G' t σt H' ∧ Ext G1 H1 s1.W.length s1.B.length G' H' t.W.length t.B.length ∧ H' D = some (.lst acc) ∧ G'.own D = 1 ∧ vreps T ac t G' H' acc ∧
      Po T W G1 H1 s1.W.length s1.B.length σ (crep T G H) ((compL turn (items.drop i) ac t).bind fun vs t => .ok vs { t with ρ := s1.ρ }) (fun _ _ _ H' b => Q (.ref b.1) H'))
    ⟨s1, _, σ, [], [], R0, x0, upd_same, by simp, .nil, h1⟩ (fun i H' _ ⟨t, G', σt, acc, ac, R', x', _⟩ => x'.data.trans part_sub) ?_ ?_
  · rintro i v H' H'' hlt ⟨t, G', σt, acc, ac, R', x', hacc, hown, hr, p⟩ ⟨rfl, hv⟩
    have hlt' : i < items.length := by omega
    rw [List.drop_eq_getElem_cons hlt'] at p
    obtain ⟨u, e1, e2⟩ := vreps_at hK i hlt' r1
    rw [hv] at e1
    cases e1
    have e3 : vrep T t G' H'' items[i] v := e2.ext x'
    have Rw : Rel T G' { t with ρ := wipeR s1.ρ own } (wipe σ own) H'' := (Rel.slots hK R1 R' x').wiped hK own
    simp only [compL] at p
    cases e : setTg (tgOf tg) items[i] { t with ρ := wipeR s1.ρ own } with
    | none =>
      have et : turn items[i] t = .stuck := by show (match setTg (tgOf tg) items[i] { t with ρ := wipeR s1.ρ own } with | some t1 => _ | none => _) = _; rw [e]
      rw [et] at p
      exact p.elim
    | some t1 =>
      have et : turn items[i] t = (fc t1).bind fun b t2 => if b then one1 (fe t2) fun y t3 => .ok (some y) t3 else .ok none t2 := by show (match setTg (tgOf tg) items[i] { t with ρ := wipeR s1.ρ own } with | some t1 => _ | none => _) = _; rw [e]
      rw [et] at p
      obtain ⟨l1, l2⟩ := setTg_w hK e
      have l1 : t1.W = t.W := l1
      have l2 : t1.B = t.B := l2
      refine gOf_rd hK sub Rw e3 e fun σ2 R2 w1 w2 => ⟨w1.trans (wipe_twice hK σ own), t1, G', R2, ?_⟩
      cases ec : fc t1 with
      | err c t2 => rw [ec] at p; exact p.elim
      | stuck => rw [ec] at p; exact p.elim
      | ok b t2 =>
        rw [ec] at p
        intro G2 H2 _ x2 R2' _
        rw [l1, l2] at x2
        cases b with
        | false =>
          show ∃ t G' σt acc ac, _
          have hD2 := x2.keep D _ hacc (by omega)
          exact ⟨t2, G2, σ2, acc, ac, R2', x'.trans x2, hD2.1, hD2.2.trans hown, VReps.ext x2 hr, p⟩
        | true =>
          show tE T _ fe σ2 H2 _
          refine ⟨t2, G2, R2', ?_⟩
          have p : Po T W G1 H1 s1.W.length s1.B.length σ (crep T G H) ((match one1 (fe t2) fun y t3 => Rs.ok (some y) t3 with
            | .ok (some y) s' => if ac.length < lim then compL turn (items.drop (i + 1)) (ac ++ [y]) s' else .stuck
            | .ok none s' => compL turn (items.drop (i + 1)) ac s'
            | _ => .stuck).bind fun vs t => .ok vs { t with ρ := s1.ρ }) (fun _ _ _ H' b => Q (.ref b.1) H') := p
          cases ee : fe t2 with
          | err c t3 => rw [ee] at p; exact p.elim
          | stuck => rw [ee] at p; exact p.elim
          | ok ys t3 =>
            rw [ee] at p
            match ys, p with
            | [], p => exact p.elim
            | _ :: _ :: _, p => exact p.elim
            | [y], p =>
              intro G3 H3 us3 x3 R3 q3
              cases q3 with
              | cons q3 q4 =>
                cases q4
                rename_i w
                refine ⟨w, rfl, acc, ?_⟩
                have xx := x2.trans x3
                have hD3 := xx.keep D _ hacc (by omega)
                have p : Po T W G1 H1 s1.W.length s1.B.length σ (crep T G H) ((if ac.length < lim then compL turn (items.drop (i + 1)) (ac ++ [y]) t3 else .stuck).bind fun vs t => .ok vs { t with ρ := s1.ρ }) (fun _ _ _ H' b => Q (.ref b.1) H') := p
                by_cases hz : ac.length < lim
                · rw [if_pos hz] at p
                  refine ⟨hD3.1, by rw [← hr.length]; exact Nat.lt_of_lt_of_le hz lim_line, t3, G3, σ2, acc ++ [w], ac ++ [y], Rel.upd1 hK R3 (hD3.2.trans hown), ?_, upd_same, hD3.2.trans hown, vreps_upd1 hK (hD3.2.trans hown) (vreps_snoc hK (VReps.ext xx hr) q3), p⟩
                  have x4 := x'.trans xx
                  refine ⟨fun a o e t => ?_, x4.adr, x4.bdr, x4.nc, x4.nb⟩
                  rw [upd_ne (ne_of_none e hD)]
                  exact x4.keep a o e t
                · rw [if_neg hz] at p
                  exact p.elim
  · rintro H' ⟨t, G', σt, acc, ac, R', x', hacc, hown, hr, p⟩
    rw [← hl, List.drop_length] at p
    exact p G' H' (D, acc) x' (Rel.slots hK R1 R' x') ⟨hacc, hown, own0, hr⟩
/-- the list as data -/
theorem comp_data {f : M (List Va)} {σ : St} {H : Hp} {s : Sg} {G : Gh} {K : List Va → Sg → Gh → Hp → List V → Prop} (h : Po T W G H s.W.length s.B.length σ (vreps T) ((f s).bind fun vs s => match solids s vs with
      | some xs => dat (.list xs) s
      | none => .stuck) K) : Po T W G H s.W.length s.B.length σ (crep T G H) (f s) (fun vs s' G' H' b => ∃ G'' x, K [.d x] s' G'' H' [.ref b.1] ∧ Rel T G'' s' σ H' ∧ Ext G H s.W.length s.B.length G'' H' s'.W.length s'.B.length) := by
  cases q : f s with
  | err c t => rw [q] at h; exact h
  | stuck => rw [q] at h; exact h
  | ok vs t =>
    rw [q] at h
    rintro G' H' ⟨D, us⟩ x R' ⟨h1, h2, h3, h4⟩
    have h : Po T W G H s.W.length s.B.length σ (vreps T) (match solids t vs with
      | some xs => dat (.list xs) t
      | none => .stuck) K := h
    split at h
    · rename_i xs e
      have R2 := Rel.retag hK R' h2
      have x2 : Ext G H s.W.length s.B.length { G' with own := fun a => if a = D then 0 else G'.own a } H' t.W.length t.B.length := by
        refine ⟨fun a o e1 e2 => ?_, x.adr, x.bdr, x.nc, x.nb⟩
        have hne : a ≠ D := fun z => by
          rw [z] at e1 e2
          have q : 2 ≤ G.own D := h3 o e1
          omega
        obtain ⟨k1, k2⟩ := x.keep a o e1 e2
        refine ⟨k1, ?_⟩
        show (if a = D then 0 else G'.own a) = _
        rw [if_neg hne]; exact k2
      have m : Same (part G'.own 0 H') (part (fun a => if a = D then 0 else G'.own a) 0 H') := fun a o q => by
        obtain ⟨q1, q2⟩ := part_iff.mp q
        have hne : a ≠ D := fun z => by rw [z, h2] at q1; cases q1
        exact part_iff.mpr ⟨by show (if a = D then 0 else G'.own a) = 0; rw [if_neg hne]; exact q1, q2⟩
      have d : Dx T.K (part (fun a => if a = D then 0 else G'.own a) 0 H') (.ref D) (.list xs) := .lst (part_iff.mpr ⟨by simp, h1⟩) (dpAll_mono m _ _ (vreps_solids R' h4 e))
      exact ⟨_, .list xs, h _ H' [.ref D] x2 R2 (.cons d .nil), R2, x2⟩
    · exact h.elim
/-- [elt for tg in iter if ..] as data -/
theorem s_comp {elt tge iter : Expr} {ifs : List Expr} {scope : Scope} {ownp : List (Str × Nat)} {pos : Pos} {fs : M (List Va)} {fc : M Bool} {fe : M (List Va)} {tg : List Nat} (sub : ∀ i ∈ tg, i ∈ ownp.map (·.2)) (hc : X.calm = true) (hN : X.N.Nodup) (hi : PI X tge iter (tI T W fs)) (ok : BlkOk X.N X.env.scope scope ownp)
    (hg : ∀ (s : Shared) (H : Hp) (C : Addr) (cl : List (Str × Addr)) (fp : List Addr), PG (X.blk s H scope (compEnvC scope cl C X.env) fp) tge (gOf X.K tg)) (ht : ∀ (s : Shared) (H : Hp) (C : Addr) (cl : List (Str × Addr)) (fp : List Addr), PTs (X.blk s H scope (compEnvC scope cl C X.env) fp) ifs (tT T (fun _ _ _ _ => False) fc))
    (he : ∀ (s : Shared) (H : Hp) (C : Addr) (cl : List (Str × Addr)) (fp : List Addr), PE (X.blk s H scope (compEnvC scope cl C X.env) fp) elt (tE T (fun _ _ _ _ => False) fe)) (hs : ∀ x, foldedSetIterable iter X.env x = pure x) :
    PE X (.ListComp elt [⟨tge, iter, ifs, 0⟩] scope pos) (tE T W fun s => (compM fs tg (ownp.map (·.2)) fc fe s).bind fun vs s => match solids s vs with
      | some xs => dat (.list xs) s
      | none => .stuck) := by
  refine pe_imp (pe_lc hc hN hi ok hg ht he hs) fun σ H Q ⟨s, G, R, h⟩ => c_rd hK sub R ((comp_data hK h).imp fun vs s' G' H' b x R' r q => ?_)
  obtain ⟨G'', y, ⟨u, e, q⟩, _, _⟩ := q
  cases e
  exact q
/-- name = [..] on one line -/
theorem st_comp {i : Nat} {y : Str} {py : Pos} {elt tge iter : Expr} {ifs : List Expr} {scope : Scope} {ownp : List (Str × Nat)} {pos spos : Pos} {fs : M (List Va)} {fc : M Bool} {fe : M (List Va)} {tg : List Nat} (sub : ∀ i ∈ tg, i ∈ ownp.map (·.2)) (hc : X.calm = true) (hN : X.N.Nodup) (hy : X.N[i]? = some y) (hyl : X.env.scope.names.lookup y = some .local)
    (hsw : swapsWith (.ListComp elt [⟨tge, iter, ifs, 0⟩] scope pos) (some (.Name y py)) spos.line X.env = pure true) (hi : PI X tge iter (tI T W fs)) (ok : BlkOk X.N X.env.scope scope ownp)
    (hg : ∀ (s : Shared) (H : Hp) (C : Addr) (cl : List (Str × Addr)) (fp : List Addr), PG (X.blk s H scope (compEnvC scope cl C X.env) fp) tge (gOf X.K tg)) (ht : ∀ (s : Shared) (H : Hp) (C : Addr) (cl : List (Str × Addr)) (fp : List Addr), PTs (X.blk s H scope (compEnvC scope cl C X.env) fp) ifs (tT T (fun _ _ _ _ => False) fc))
    (he : ∀ (s : Shared) (H : Hp) (C : Addr) (cl : List (Str × Addr)) (fp : List Addr), PE (X.blk s H scope (compEnvC scope cl C X.env) fp) elt (tE T (fun _ _ _ _ => False) fe)) (hs : ∀ x, foldedSetIterable iter X.env x = pure x) :
    PS X (.Assign [.Name y py] (.ListComp elt [⟨tge, iter, ifs, 0⟩] scope pos) spos) (tS T W fun s => one1 ((compM fs tg (ownp.map (·.2)) fc fe s).bind fun vs s => match solids s vs with
      | some xs => dat (.list xs) s
      | none => .stuck) fun v s => match setTg (.name i) v s with
        | some s => .ok .next s
        | none => .stuck) := by
  refine ps_imp (ps_setLc hc hN hy hyl hsw hi ok hg ht he hs) fun D σ H ⟨s, G, R, h⟩ => ?_
  refine c_rd hK (Q := fun x H1 => gName i x σ H1 D.nx) sub R ((comp_data hK (h.one1 (σ := σ))).imp fun vs s' G' H' b x R' r q => ?_)
  obtain ⟨G'', y, ⟨v, u, e1, e2, r, q⟩, R2, x2⟩ := q
  cases e1
  cases e2
  exact q G'' H' _ (Ext.refl _ _ _ _) (Rel.set hK R2 r)
end
end BC

/-! BStm: lists that change, raise, isinstance. -/
namespace BC
open PySem L2
section
variable {X : Cx} {T : Tn} {W : WX} (hK : X.K = T.K)
include hK
/-- a new cell -/
theorem Rel.alloc {G : Gh} {s : Sg} {σ : St} {H H' : Hp} {p : Addr} {own' : Addr → Nat} {r : Re} (R : Rel T G s σ H) (m : Same H H') (k : ∀ a o, H a = some o → own' a = G.own a) (hr : ResAt T (part own' 0 H') z0 0 p r (part own' (2 * s.W.length + 2) H')) :
    Rel T { G with own := own', adr := fun j => if j = s.W.length then p else G.adr j } { s with W := s.W ++ [r] } σ H' ∧ Ext G H s.W.length s.B.length { G with own := own', adr := fun j => if j = s.W.length then p else G.adr j } H' (s.W ++ [r]).length s.B.length := by
  have pm : ∀ t, Same (part G.own t H) (part own' t H') := fun t a o h => by
    obtain ⟨e, q⟩ := part_iff.mp h
    exact part_iff.mpr ⟨(k a o q).trans e, m a o q⟩
  have ea : ∀ j, j < s.W.length → (if j = s.W.length then p else G.adr j) = G.adr j := fun j hj => if_neg (by omega)
  refine ⟨⟨R.len, fun i v e => ?_, fun i r' e => ?_, fun i r' e => ?_⟩, ⟨fun a o h _ => ⟨m a o h, k a o h⟩, ea, fun _ _ => rfl, by simp, Nat.le_refl _⟩⟩
  · obtain ⟨u, e1, q⟩ := R.slot i v e
    exact ⟨u, e1, VRep.mono (pm 0) (by simp) (Nat.le_refl _) ea (fun _ _ => rfl) q⟩
  · have e : (s.W ++ [r])[i]? = some r' := e
    by_cases hi : i < s.W.length
    · rw [List.getElem?_append_left hi] at e
      show ResAt T _ _ _ (if i = s.W.length then p else G.adr i) r' _
      rw [ea i hi]
      exact (R.wld i r' e).mono (pm 0) (pm _) (Nat.le_refl _) fun _ _ => rfl
    · have hi2 : i = s.W.length := by
        rcases Nat.lt_or_ge i (s.W ++ [r]).length with z | z
        · simp at z; omega
        · rw [List.getElem?_eq_none z] at e; cases e
      subst hi2
      rw [List.getElem?_append_right (Nat.le_refl _), Nat.sub_self] at e
      cases e
      show ResAt T _ _ _ (if s.W.length = s.W.length then p else G.adr s.W.length) r _
      rw [if_pos rfl]
      exact hr
  · exact (R.bx i r' e).mono (pm 0) (pm _) (Nat.le_refl _) fun _ _ => rfl
theorem Rel.allocL {G : Gh} {s : Sg} {σ : St} {H : Hp} {p : Addr} {us : List V} {xs : List PyData} (R : Rel T G s σ H) (hp : H p = none) (d : DxAll T.K (part G.own 0 H) us xs) :
    ∃ G', Rel T G' { s with W := s.W ++ [.lst xs] } σ (upd H p (.lst us)) ∧ Ext G H s.W.length s.B.length G' (upd H p (.lst us)) (s.W ++ [Re.lst xs]).length s.B.length ∧ G'.adr s.W.length = p := by
  have k0 : ∀ a o, H a = some o → (fun a => if a = p then 2 * s.W.length + 2 else G.own a) a = G.own a := fun a o e => by
    show (if a = p then _ else G.own a) = G.own a
    rw [if_neg (ne_of_none e hp)]
  have m : Same (part G.own 0 H) (part (fun a => if a = p then 2 * s.W.length + 2 else G.own a) 0 (upd H p (.lst us))) := fun a o h => by
    obtain ⟨e, q⟩ := part_iff.mp h
    exact part_iff.mpr ⟨(k0 a o q).trans e, same_upd hp a o q⟩
  obtain ⟨R', x⟩ := Rel.alloc hK R (same_upd (o := .lst us) hp) k0 (r := .lst xs) (p := p) (.lst (part_iff.mpr ⟨by simp, upd_same⟩) (dpAll_mono m _ _ d))
  exact ⟨_, R', x, by simp⟩
/-- a list that changes has other items -/
theorem Rel.setL {G : Gh} {s : Sg} {σ : St} {H : Hp} {k : Nat} {xs ys : List PyData} {us : List V} (R : Rel T G s σ H) (e : s.W[k]? = some (.lst xs)) (d : DxAll T.K (part G.own 0 H) us ys) :
    Rel T G { s with W := s.W.set k (.lst ys) } σ (upd H (G.adr k) (.lst us)) ∧ Ext G H s.W.length s.B.length G (upd H (G.adr k) (.lst us)) (s.W.set k (.lst ys)).length s.B.length := by
  have q := R.wld k _ e
  cases q with
  | lst h d0 =>
    obtain ⟨ho, hH⟩ := part_iff.mp h
    have m : ∀ t, t ≠ 2 * k + 2 → Same (part G.own t H) (part G.own t (upd H (G.adr k) (.lst us))) := fun t ht a o q => by
      obtain ⟨q1, q2⟩ := part_iff.mp q
      have hne : a ≠ G.adr k := fun z => ht (by rw [← q1, z]; exact ho)
      exact part_iff.mpr ⟨q1, by rw [upd_ne hne]; exact q2⟩
    refine ⟨⟨R.len, fun i v e' => ?_, fun i r e' => ?_, fun i r e' => ?_⟩, ⟨fun a o q t => ?_, fun _ _ => rfl, fun _ _ => rfl, by simp, Nat.le_refl _⟩⟩
    · obtain ⟨u, e1, q⟩ := R.slot i v e'
      exact ⟨u, e1, VRep.mono (m 0 (by omega)) (by simp) (Nat.le_refl _) (fun _ _ => rfl) (fun _ _ => rfl) q⟩
    · have e' : (s.W.set k (.lst ys))[i]? = some r := e'
      by_cases hi : i = k
      · subst hi
        have hlt : i < s.W.length := by
          rcases Nat.lt_or_ge i s.W.length with z | z
          · exact z
          · rw [List.getElem?_eq_none z] at e; cases e
        rw [List.getElem?_set_self hlt] at e'
        cases e'
        exact .lst (part_iff.mpr ⟨ho, upd_same⟩) (dpAll_mono (m 0 (by omega)) _ _ d)
      · rw [List.getElem?_set_ne (Ne.symm hi)] at e'
        exact (R.wld i r e').mono (m 0 (by omega)) (m _ (by omega)) (Nat.le_refl _) fun _ _ => rfl
    · exact (R.bx i r e').mono (m 0 (by omega)) (m _ (by omega)) (Nat.le_refl _) fun _ _ => rfl
    · have hne : a ≠ G.adr k := fun z => by rw [z, ho] at t; omega
      exact ⟨by rw [upd_ne hne]; exact q, rfl⟩
theorem cell_at {G : Gh} {s : Sg} {σ : St} {H : Hp} {k : Nat} {xs : List PyData} (R : Rel T G s σ H) (e : s.W[k]? = some (.lst xs)) : ∃ us, H (G.adr k) = some (.lst us) ∧ DxAll T.K (part G.own 0 H) us xs := by
  have q := R.wld k _ e
  cases q with
  | lst h d => exact ⟨_, (part_iff.mp h).2, d⟩
theorem st_newL {i : Nat} {x : Str} {es : List Expr} {f : M (List Va)} {pos pos' pos2 : Pos} (nd : X.N.Nodup) (n : Nm X i x) (ha : PA X es (tL T W f)) : PS X (.Assign [.Name x pos'] (.List es pos2) pos) (tS T W fun s => (f s).bind fun vs s => match solids s vs with
    | some xs => if xs.length ≤ lim then .ok .next { s with ρ := s.ρ.set i (some (.c s.W.length)), W := s.W ++ [.lst xs] } else .stuck
    | none => .stuck) := by
  refine ps_imp (ps_set nd n.ix n.loc (pe_lst ha) (by rfl) n.fn) fun D σ H ⟨s, G, R, h⟩ => ⟨s, G, R, (h.bindP (σ := σ) (rep' := vreps T)).imp fun vs s1 G1 H1 us x R1 r1 h1 => ?_⟩
  have h1 := h1.2
  split at h1
  · rename_i xs e
    split at h1
    · rename_i hl
      have d := vreps_solids R1 r1 e
      refine ⟨by rw [dpAll_length d]; exact Nat.le_trans hl lim_line, fun p hp => ?_⟩
      obtain ⟨G', R2, x2, ea⟩ := Rel.allocL hK R1 hp d
      exact h1 G' _ _ x2 (Rel.set (i := i) hK R2 (v := .c s1.W.length) ⟨by simp, by rw [ea]⟩)
    · exact h1.elim
  · exact h1.elim
theorem st_newR {i : Nat} {x : Str} {a b : Expr} {fa fb : M (List Va)} {pos pos' pos2 pos3 : Pos} (nd : X.N.Nodup) (n : Nm X i x) (ha : PE X a (tE T W fa)) (hb : PE X b (tE T W fb)) (hs : starEach [a] X.env = (false, eval a X.env) :: starEach [] X.env) : PS X (.Assign [.Name x pos'] (.BinOp (.List [a] pos2) .Mult b pos3) pos) (tS T W fun s => one1 (fa s) fun v s => match solid s v with
    | some x => one1 (fb s) fun w s => match w with
      | .d (.int k) => match mulD (.list [x]) (.int k) with
        | some (.list xs) => .ok .next { s with ρ := s.ρ.set i (some (.c s.W.length)), W := s.W ++ [.lst xs] }
        | _ => .stuck
      | _ => .stuck
    | none => .stuck) := by
  refine ps_imp (ps_set nd n.ix n.loc (pe_op op_rep (pe_lst (pa_cons ha pa_nil hs)) hb) (by rfl) n.fn) fun D σ H ⟨s, G, R, h⟩ => ⟨s, G, R, (h.one1 (σ := σ)).imp fun vs s1 G1 H1 us x R1 _ ⟨v, u, e1, e2, r1, h1⟩ => ⟨u, e2, ?_⟩⟩
  try dsimp only at h1
  split at h1
  · rename_i y ey
    refine ⟨by show 1 ≤ sizeLine; rw [sizeLine_eq]; decide, fun p hp => ?_⟩
    -- the short list is nobody's
    have k0 : ∀ a o, H1 a = some o → (fun a => if a = p then 1 else G1.own a) a = G1.own a := fun a o e => by
      show (if a = p then 1 else G1.own a) = G1.own a
      rw [if_neg (ne_of_none e hp)]
    obtain ⟨R0, x0⟩ := R1.grow (own' := fun a => if a = p then 1 else G1.own a) (same_upd (o := .lst [u]) hp) k0
    have dy := dp_mono x0.data _ _ (vrep_solid R1 r1 ey)
    refine ⟨s1, _, R0, ((h1.ext x0).one1 (σ := σ)).imp fun vs2 s2 G2 H2 us2 x2 R2 _ ⟨w, u2, e3, e4, r2, h2⟩ => ⟨u2, e4, ?_⟩⟩
    try dsimp only at h2
    split at h2
    · rename_i k
      cases r2
      simp only [mulD] at h2
      split at h2
      · rename_i xs em
        split at em
        · rename_i hl
          cases em
          obtain ⟨hp2, _⟩ := x2.keep p _ upd_same (by simp)
          have d : DxAll T.K (part G2.own 0 H2) [u] [y] := .cons (dp_mono x2.data _ _ dy) .nil
          refine ⟨p, k, [u], rfl, rfl, hp2, hl.1, hl.2.1, Nat.le_trans hl.2.2 lim_line, fun q hq => ?_⟩
          obtain ⟨G', R3, x3, ea⟩ := Rel.allocL hK R2 hq (dpAll_rep d _)
          exact h2 G' _ _ x3 (Rel.set (i := i) hK R3 (v := .c s2.W.length) ⟨by simp, by rw [ea]⟩)
        · cases em
      · exact h2.elim
    · exact h2.elim
  · exact h1.elim
theorem lstAt_some {s : Sg} {i k : Nat} (e : lstAt s i = some k) : s.ρ[i]? = some (some (.c k)) ∧ ∃ xs, s.W[k]? = some (.lst xs) := by
  unfold lstAt at e
  split at e
  · rename_i k' e1
    split at e
    · rename_i xs e2
      cases e
      exact ⟨e1, xs, e2⟩
    · cases e
  · cases e
/-- x.append(e) -/
theorem st_app {i : Nat} {x : Str} {e : Expr} {f : M (List Va)} {pos p1 p2 p3 : Pos} (hN : X.N[i]? = some x) (hv : Vis X.env.scope x) (hd : (x == ("__debug__" : Str)) = false) (hcd : (x == ("__classdict__" : Str)) = false) (he : PE X e (tE T W f)) (hline : (p2.endLine == p3.line) = true)
    (hs : starEach [e] X.env = (false, eval e X.env) :: starEach [] X.env) : PS X (.Expr (.Call (.Attribute (.Name x p1) "append" p2) [e] [] p3) pos) (tS T W fun s => match lstAt s i with
      | some k => one1 (f s) fun v s => match s.W[k]?, solid s v with
        | some (.lst xs), some x => if xs.length < lim then .ok .next { s with W := s.W.set k (.lst (xs ++ [x])) } else .stuck
        | _, _ => .stuck
      | none => .stuck) := by
  have ha : PA X [e] (tCons (tE T W f) tNil) := pa_cons he pa_nil hs
  refine ps_imp (ps_expr (pe_bm PySem.F.plainAttrs_list PySem.F.slot_list_append PySem.F.type_list_append mt_append (pe_var hN hv hd hcd) ha (by rfl) (by rw [hs]; rfl) hline hs (by rfl)) (by rfl)) fun D σ H ⟨s, G, R, h⟩ => ?_
  dsimp only at h
  split at h
  · rename_i k ek
    obtain ⟨e1, xs0, e2⟩ := lstAt_some hK ek
    obtain ⟨u, q1, q2⟩ := R.slot i _ e1
    obtain ⟨us0, c1, c2⟩ := cell_at hK R e2
    refine ⟨u, q1, ?_⟩
    rw [q2.2]
    refine ⟨.inl ⟨rfl, us0, SqL.of c1⟩, s, G, R, (h.one1 (σ := σ)).imp fun vs s1 G1 H1 us y R1 _ ⟨v, w, e3, e4, r1, h1⟩ => ⟨w, e4, ?_⟩⟩
    try dsimp only at h1
    split at h1
    · rename_i xs y' ew es
      split at h1
      · rename_i hl
        obtain ⟨us1, c3, c4⟩ := cell_at hK R1 ew
        have ea : G1.adr k = G.adr k := y.adr k q2.1
        obtain ⟨R2, x2⟩ := Rel.setL hK R1 ew (dpAll_append c4 (.cons (vrep_solid R1 r1 es) .nil))
        rw [← ea]
        exact ⟨_, us1, w, rfl, rfl, c3, by rw [dpAll_length c4]; exact Nat.lt_of_lt_of_le hl lim_line, h1 _ _ _ x2 R2⟩
      · exact h1.elim
    · exact h1.elim
  · exact h.elim
/-- x.extend(e) -/
theorem st_ext {i : Nat} {x : Str} {e : Expr} {f : M (List Va)} {pos p1 p2 p3 : Pos} (hN : X.N[i]? = some x) (hv : Vis X.env.scope x) (hd : (x == ("__debug__" : Str)) = false) (hcd : (x == ("__classdict__" : Str)) = false) (he : PE X e (tE T W f)) (hline : (p2.endLine == p3.line) = true)
    (hs : starEach [e] X.env = (false, eval e X.env) :: starEach [] X.env) : PS X (.Expr (.Call (.Attribute (.Name x p1) "extend" p2) [e] [] p3) pos) (tS T W fun s => match lstAt s i with
      | some k => one1 (f s) fun v s => match s.W[k]?, solid s v with
        | some (.lst xs), some (.list ys) => if xs.length + ys.length ≤ lim then .ok .next { s with W := s.W.set k (.lst (xs ++ ys)) } else .stuck
        | _, _ => .stuck
      | none => .stuck) := by
  have ha : PA X [e] (tCons (tE T W f) tNil) := pa_cons he pa_nil hs
  refine ps_imp (ps_expr (pe_bm PySem.F.plainAttrs_list PySem.F.slot_list_extend PySem.F.type_list_extend mt_extend (pe_var hN hv hd hcd) ha (by rfl) (by rw [hs]; rfl) hline hs (by rfl)) (by rfl)) fun D σ H ⟨s, G, R, h⟩ => ?_
  dsimp only at h
  split at h
  · rename_i k ek
    obtain ⟨e1, xs0, e2⟩ := lstAt_some hK ek
    obtain ⟨u, q1, q2⟩ := R.slot i _ e1
    obtain ⟨us0, c1, c2⟩ := cell_at hK R e2
    refine ⟨u, q1, ?_⟩
    rw [q2.2]
    refine ⟨.inl ⟨rfl, us0, SqL.of c1⟩, s, G, R, (h.one1 (σ := σ)).imp fun vs s1 G1 H1 us y R1 _ ⟨v, w, e3, e4, r1, h1⟩ => ⟨w, e4, ?_⟩⟩
    try dsimp only at h1
    split at h1
    · rename_i xs ys ew es
      split at h1
      · rename_i hl
        obtain ⟨us1, c3, c4⟩ := cell_at hK R1 ew
        have ea : G1.adr k = G.adr k := y.adr k q2.1
        have d := vrep_solid R1 r1 es
        cases d with
        | lst q da =>
          obtain ⟨R2, x2⟩ := Rel.setL hK R1 ew (dpAll_append c4 da)
          rw [← ea]
          exact ⟨_, _, us1, _, rfl, rfl, c3, part_sub _ _ q, by rw [dpAll_length c4, dpAll_length da]; exact Nat.le_trans hl lim_line, h1 _ _ _ x2 R2⟩
      · exact h1.elim
    · exact h1.elim
  · exact h.elim
theorem dpAll_last {K : PySem.W.Frag} {F : Hp} {us : List V} {xs : List PyData} (d : DxAll K F us xs) {x : PyData} (e : xs.getLast? = some x) : ∃ u, us[us.length - 1]? = some u ∧ Dx K F u x := by
  rw [List.getLast?_eq_getElem?] at e
  rw [dpAll_length d]
  exact dpAll_get d e
theorem dpAll_dropLast {K : PySem.W.Frag} {F : Hp} : ∀ {us : List V} {xs : List PyData}, DxAll K F us xs → DxAll K F us.dropLast xs.dropLast := by
  intro us xs d
  rw [List.dropLast_eq_take, List.dropLast_eq_take, dpAll_length d]
  exact dpAll_take _ d
/-- x.pop() -/
theorem s_pop {i : Nat} {x : Str} {p1 p2 p3 : Pos} (hN : X.N[i]? = some x) (hv : Vis X.env.scope x) (hd : (x == ("__debug__" : Str)) = false) (hcd : (x == ("__classdict__" : Str)) = false) (hline : (p2.endLine == p3.line) = true) :
    PE X (.Call (.Attribute (.Name x p1) "pop" p2) [] [] p3) (tE T W fun s => match s.ρ[i]? with
      | some (some (.c k)) => match s.W[k]? with
        | some (.lst xs) => match xs.getLast? with
          | some v => dat v { s with W := s.W.set k (.lst xs.dropLast) }
          | none => .stuck
        | _ => .stuck
      | _ => .stuck) := by
  refine pe_imp (pe_bm0 PySem.F.plainAttrs_list PySem.F.slot_list_pop PySem.F.type_list_pop mt_pop (pe_var hN hv hd hcd) (by rfl) hline) fun σ H Q ⟨s, G, R, h⟩ => ?_
  dsimp only at h
  split at h
  · rename_i k e
    obtain ⟨u, q1, q2⟩ := R.slot i _ e
    split at h
    · rename_i xs e2
      split at h
      · rename_i v e3
        obtain ⟨us, c1, c2⟩ := cell_at hK R e2
        obtain ⟨w, c3, c4⟩ := dpAll_last hK c2 e3
        refine ⟨u, q1, ?_⟩
        rw [q2.2]
        refine ⟨.inl ⟨rfl, us, SqL.of c1⟩, _, us, w, rfl, rfl, c1, c3, ?_⟩
        obtain ⟨R2, x2⟩ := Rel.setL hK R e2 (dpAll_dropLast hK c2)
        obtain ⟨u', e', q⟩ := h G _ [w] x2 R2 (.cons (VRep.ext (v := .d v) x2 c4) .nil)
        cases e'
        exact q
      · exact h.elim
    · exact h.elim
  · exact h.elim
/-- x[j] = e -/
theorem st_setI {i : Nat} {x y : Str} {e : Expr} {fj fe : M (List Va)} {pos p1 p2 pj : Pos} (hN : X.N[i]? = some x) (hv : Vis X.env.scope x) (hd : (x == ("__debug__" : Str)) = false) (hcd : (x == ("__classdict__" : Str)) = false) (he : PE X e (tE T W fe)) (hj : PE X (.Name y pj) (tE T W fj))
    (hs : swapsWithSole [.Subscript (.Name x p1) (.Name y pj) p2] e pos.line X.env = pure false) (hw : swappedStores [.Subscript (.Name x p1) (.Name y pj) p2] e X.env = pure none) : PS X (.Assign [.Subscript (.Name x p1) (.Name y pj) p2] e pos) (tS T W fun s => one1 (fe s) fun v s => match s.ρ[i]? with
    | some (some (.c k)) => one1 (fj s) fun w s => match s.W[k]?, w, solid s v with
      | some (.lst xs), .d (.int n), some x => match L2.ixN xs.length n with
        | some m => .ok .next { s with W := s.W.set k (.lst (xs.set m x)) }
        | none => .stuck
      | _, _, _ => .stuck
    | _ => .stuck) := by
  refine ps_imp (ps_asg he (pg_sub (pe_var hN hv hd hcd) hj set_list) hs hw (by rfl)) fun D σ H ⟨s, G, R, h⟩ => ⟨s, G, R, (h.one1 (σ := σ)).imp fun vs s1 G1 H1 us x1 R1 _ ⟨v, u, e1, e2, r1, h1⟩ => ⟨u, e2, ?_⟩⟩
  try dsimp only at h1
  split at h1
  · rename_i k ek
    obtain ⟨w, q1, q2⟩ := R1.slot i _ ek
    refine ⟨w, q1, s1, G1, R1, (h1.one1 (σ := σ)).imp fun vs2 s2 G2 H2 us2 x2 R2 _ ⟨v2, u2, e3, e4, r2, h2⟩ => ⟨u2, e4, ?_⟩⟩
    try dsimp only at h2
    split at h2
    · rename_i xs n y ew es
      split at h2
      · rename_i m em
        cases r2
        obtain ⟨us1, c3, c4⟩ := cell_at hK R2 ew
        have ea : G2.adr k = G1.adr k := x2.adr k q2.1
        obtain ⟨R3, x3⟩ := Rel.setL hK R2 ew (dpAll_set (vrep_solid R2 (r1.ext x2) es) m c4)
        rw [q2.2, ← ea]
        exact ⟨_, us1, n, m, rfl, rfl, c3, by rw [dpAll_length c4]; exact em, h2 _ _ _ x3 R3⟩
      · exact h2.elim
    · exact h2.elim
  · exact h1.elim
/-- a, b = e1, e2 -/
theorem st_par {i j : Nat} {x y : Str} {a b : Expr} {fa fb : M (List Va)} {px py pt pos : Pos} {kt k2 : Nat} {pt2 : Pos} (hc : X.calm = true) (hN : X.N.Nodup) (hi : X.N[i]? = some x) (hj : X.N[j]? = some y) (hij : i ≠ j)
    (hx : X.env.scope.names.lookup x = some .local) (hy : X.env.scope.names.lookup y = some .local) (ha : PE X a (tE T W fa)) (hb : PE X b (tE T W fb)) (h1 : starEach [a, b] X.env = (false, eval a X.env) :: starEach [b] X.env) (h2 : starEach [b] X.env = (false, eval b X.env) :: starEach [] X.env)
    (hw : swappedStores [.Tuple [.Name x px, .Name y py] kt pt] (.Tuple [a, b] k2 pt2) X.env = pure (some [x, y])) :
    PS X (.Assign [.Tuple [.Name x px, .Name y py] kt pt] (.Tuple [a, b] k2 pt2) pos) (tS T W fun s => one1 (fa s) fun v s => one1 (fb s) fun w s => match solid s v with
    | some x => .ok .next { s with ρ := (s.ρ.set i (some (.d x))).set j (some w) }
    | none => .stuck) := by
  refine ps_imp (ps_par hc hN hi hj hij hx hy (pa_cons ha (pa_cons hb pa_nil h2) h1) hw (by rfl)) fun D σ H ⟨s, G, R, h⟩ => ⟨s, G, R, (h.one1 (σ := σ)).imp fun vs s1 G1 H1 us x1 R1 _ ⟨v, u, e1, e2, r1, h1⟩ => ⟨u, e2, s1, G1, R1, (h1.one1 (σ := σ)).imp fun vs2 s2 G2 H2 us2 x2 R2 _ ⟨v2, u2, e3, e4, r2, h2⟩ => ⟨u2, e4, ?_⟩⟩⟩
  try dsimp only at h2
  split at h2
  · rename_i z ez
    exact ⟨u, u2, rfl, h2 _ _ _ (Ext.refl _ _ _ _) (Rel.set hK (Rel.set hK R2 (v := .d z) (vrep_solid R2 (r1.ext x2) ez)) r2)⟩
  · exact h2.elim

/-! ### raise -/
/-- an own error's class -/
structure XcOk (X : Cx) (T : Tn) (c : Nat) (x : Str) : Prop where
  mg : X.mg x = some (.ref (T.exc c))
  ex : PySem.W.excIn X.K (T.exc c) [.type "ValueError", .type "Exception", .type "BaseException", .type "object"] "ValueError.__new__" = true
  kp : PySem.W.keepIn X.K (.ref (T.exc c)) = true
  sub : PySem.W.subIn X.K (.ref (T.exc c)) (.type "BaseException") = some true
  ty : PySem.W.typeIn X.K (.ref (T.exc c)) = some (.type "type")
theorem st_raise {c : Nat} {x m : Str} {j : Nat} {p p2 p3 pos : Pos} (hc : X.calm = true) (tk : Takes X W) (F : XcOk X T c x) (hg : Gl X x) (hdb : (x == ("__debug__" : Str)) = false) :
    PS X (.Raise (some (.Call (.Name x p) [.Constant (.str m) j p2] [] p3)) none pos) (tS T W fun s => .err c s) := by
  refine ps_imp (ps_raise hc tk (pmk_own PySem.F.excBase_ValueError F.ex F.mg F.kp (raises_own F.sub F.ty) hg hdb)) fun D σ H ⟨s, G, R, h⟩ => ?_
  exact h G H σ (Ext.refl _ _ _ _) R

/-! ### isinstance -/
def tyName : Nat → String
  | 0 => "int" | 1 => "bool" | 2 => "str" | 3 => "tuple" | 4 => "list" | 5 => "dict" | _ => "ValueError"
def dName : PyData → String
  | .none => "NoneType" | .bool _ => "bool" | .int _ => "int" | .str _ => "str" | .list _ => "list" | .tuple _ => "tuple" | .dict _ => "dict"
theorem kit_of_isi {K : PySem.W.Frag} {d : PyData} {t : Nat} {b : Bool} (e : isiD d t = some b) : PySem.W.kitOne K (.type (dName d)) (.type (tyName t)) = some b := by
  have go : ∀ (n : String) (f : Nat → Bool), (∀ t, t < 6 → kitB n (tyName t) = some (f t)) → (if t < 6 then some (f t) else none) = some b → PySem.W.kitOne K (.type n) (.type (tyName t)) = some b := by
    intro n f h e
    split at e
    · rename_i ht
      exact kit_ty (by rw [h t ht]; exact e)
    · cases e
  cases d with
  | none => exact go "NoneType" (fun _ => false) (by decide +kernel) e
  | bool x => exact go "bool" (fun t => t == 0 || t == 1) (by decide +kernel) e
  | int i => exact go "int" (fun t => t == 0) (by decide +kernel) e
  | str z => exact go "str" (fun t => t == 2) (by decide +kernel) e
  | tuple l => exact go "tuple" (fun t => t == 3) (by decide +kernel) e
  | list l => exact go "list" (fun t => t == 4) (by decide +kernel) e
  | dict l => cases e
theorem tyX_of {H F : Hp} {u : V} {d : PyData} (m : Same F H) (h : Dq X.K H F true u d) : TyX X.K H u (.type (dName d)) := by
  cases d with
  | none => rw [dq_non h]; exact .base .non
  | bool b => rw [dq_bl h]; exact .base (.bl b)
  | int i => rw [dq_int h]; exact .base (.int i)
  | str z => rw [dq_str h]; exact .base (.str z)
  | list l =>
    obtain ⟨a, us, rfl, ha, _⟩ := dq_lst m h
    exact .base (.lst ha)
  | tuple l =>
    obtain ⟨a, us, rfl, ha, _⟩ := dq_tup m h
    rcases ha with (ha | ⟨o, ha⟩) | ⟨o, its, n, hk, hc, _⟩
    · exact .base (.tup ha)
    · exact .fTuple ha
    · exact .kTuple hk hc
  | dict l => exact (dq_dict h).elim
/-- isinstance(e, T), e data -/
theorem s_isi {t : Nat} {a : Expr} {f : M (List Va)} {p q pos : Pos} (hg : Gl X "isinstance") (hm : X.mg "isinstance" = none) (hgT : Gl X (Str.ofString (tyName t))) (hmT : X.mg (Str.ofString (tyName t)) = none) (ht : t < 6) (ha : PE X a (tE T W f)) (h1 : starEach [a, .Name (Str.ofString (tyName t)) q] X.env = (false, eval a X.env) :: starEach [.Name (Str.ofString (tyName t)) q] X.env) :
    PE X (.Call (.Name "isinstance" p) [a, .Name (Str.ofString (tyName t)) q] [] pos) (tE T W fun s => one1 (f s) fun x s => match peek s x with
      | some d => boolO (isiD d t) s
      | none => .stuck) := by
  have ht6 : t = 0 ∨ t = 1 ∨ t = 2 ∨ t = 3 ∨ t = 4 ∨ t = 5 := by omega
  have hT : PE X (.Name (Str.ofString (tyName t)) q) (tC (.ty (tyName t))) := by
    rcases ht6 with rfl | rfl | rfl | rfl | rfl | rfl <;> exact pe_bltn hgT hmT (by decide +kernel) (show _ = _ from rfl) (by decide) (by decide)
  refine pe_imp (pe_callB call_isi hg hm (by decide +kernel) (pa_cons ha (pa_cons hT pa_nil) h1) (by decide) (by decide) h1 (by rfl)) fun σ H Q ⟨s, G, R, h⟩ => ⟨s, G, R, h.one1.imp fun vs s1 G1 H1 us x R1 _ ⟨v, u, e1, e2, r1, h1⟩ => ⟨u, e2, ?_⟩⟩
  try dsimp only at h1
  split at h1
  · rename_i d ed
    cases hz : isiD d t with
    | none => rw [hz] at h1; exact h1.elim
    | some b =>
      rw [hz] at h1
      have dq := vrep_peek R1 r1 ed
      rw [← hK] at dq
      exact ⟨u, .ty (tyName t), _, _, b, rfl, .ty _, tyX_of hK part_sub dq, kit_of_isi hK hz, here (v := .d (.bool b)) R1 (.bl b) h1⟩
  · exact h1.elim
end
end BC

/-! BRun: calls by value and result. -/
namespace BC
open PySem L2

def Re.size : Re → Nat
  | .box rs => rs.length
  | _ => 1
inductive TopAt (T : Tn) (F : Hp) (pa : Nat → Addr) : Re → Hp → Prop where
  | box {rs Hm own} : (∀ i r, rs[i]? = some r → ResAt T F pa rs.length (pa i) r (part own i Hm)) → TopAt T F pa (.box rs) Hm
  | one {r Hm} : r.plain = true → ResAt T F z0 0 (pa 0) r Hm → TopAt T F pa r Hm
theorem TopAt.res {T : Tn} {F : Hp} {pa : Nat → Addr} {r : Re} {Hm : Hp} (h : TopAt T F pa r Hm) : ResAt T F z0 0 (pa 0) r Hm := by
  cases h with
  | box h => exact .box rfl h
  | one _ h => exact h
theorem ResAt.top {T : Tn} {F : Hp} {ba : Nat → Addr} {nb : Nat} {a : Addr} {r : Re} {Hm : Hp} (h : ResAt T F ba nb a r Hm) (c : r.closed = true) : ∃ pa, pa 0 = a ∧ TopAt T F pa r Hm := by
  cases h with
  | box e h => exact ⟨_, e, .box h⟩
  | lst h d => exact ⟨fun _ => a, rfl, .one rfl (.lst h d)⟩
  | frz h => exact ⟨fun _ => a, rfl, .one rfl (.frz h)⟩
  | ins h d =>
    refine ⟨fun _ => a, rfl, .one rfl (.ins h ?_)⟩
    have go : ∀ {fs : List (Nat × Fv)} {fu : List (Str × V)}, FsRep T F ba nb Hm fs fu → (fs.all fun p => p.2.closed) = true → FsRep T F z0 0 Hm fs fu := by
      intro fs fu q
      induction q with
      | nil => intro _; exact .nil
      | cons a _ ih =>
        intro hc
        rw [List.all_cons, Bool.and_eq_true] at hc
        refine .cons ⟨a.1, ?_⟩ (ih hc.2)
        rename_i p q _ _ _
        obtain ⟨n, fv⟩ := p
        have a2 := a.2
        cases fv with
        | v x => cases x with
          | d y => exact a2
          | c k => cases hc.1
          | b k => cases hc.1
          | x k => cases hc.1
          | s k => cases hc.1
        | ol xs => exact a2
        | fl xs => cases hc.1
    exact go d c
/-- without its own parts an instance may be read with any -/
theorem ResAt.weak {T : Tn} {F : Hp} {a : Addr} {r : Re} {Hm : Hp} {ba : Nat → Addr} {nb : Nat} (h : ResAt T F z0 0 a r Hm) : ResAt T F ba nb a r Hm :=
  h.mono (Same.refl _) (Same.refl _) (Nat.zero_le _) fun k hk => absurd hk (Nat.not_lt_zero _)
theorem TopAt.mono {T : Tn} {F F' : Hp} {pa : Nat → Addr} {r : Re} {Hm Hm' : Hp} (m : Same F F') (mm : Same Hm Hm') (h : TopAt T F pa r Hm) : TopAt T F' pa r Hm' := by
  cases h with
  | box h => exact .box fun i r hr => (h i r hr).mono m (part_mono mm) (Nat.le_refl _) fun _ _ => rfl
  | one p h => exact .one p (h.mono m mm (Nat.le_refl _) fun _ _ => rfl)

def resL : List Av → List Re
  | [] => []
  | .r r :: as => r :: resL as
  | _ :: as => resL as
/-- the arguments: j counts what may change -/
inductive ArgsRep (T : Tn) (F : Hp) (pa : Nat → Nat → Addr) : Nat → List Av → List V → Prop where
  | nil {n} : ArgsRep T F pa n [] []
  | d {n x u as us} : Dx T.K F u x → ArgsRep T F pa n as us → ArgsRep T F pa n (.d x :: as) (u :: us)
  | x {n k a as us} : F a = some (ExC (.ref (T.exc k)) a) → ArgsRep T F pa n as us → ArgsRep T F pa n (.x k :: as) (.ref a :: us)
  | s {n a ns as us} : SqL T.K F a (ns.map V.int) → ArgsRep T F pa n as us → ArgsRep T F pa n (.s ns :: as) (.ref a :: us)
  | r {n r as us} : ArgsRep T F pa (n + 1) as us → ArgsRep T F pa n (.r r :: as) (.ref (pa n 0) :: us)
def Ex (own : Addr → Nat) (H : Hp) (own' : Addr → Nat) (H' : Hp) : Prop := ∀ a o, H a = some o → own a ≤ 1 → H' a = some o ∧ own' a = own a
def OutV (T : Tn) (own : Addr → Nat) (pa : Nat → Nat → Addr) (H : Hp) (n : Nat) : Av → V → Prop
  | .d x, u => Dx T.K (part own 0 H) u x
  | .r r, u => u = .ref (pa n 0) ∧ TopAt T (part own 0 H) (pa n) r (part own (2 * n + 2) H)
  | _, _ => False
/-- the promise of a def that computes φ -/
def spF (T : Tn) (op : Bool) (φ : Fn) : Sp := fun vs H Q E => ∃ (own : Addr → Nat) (pa : Nat → Nat → Addr) (as : List Av), ArgsRep T (part own 0 H) pa 0 as vs ∧
  (∀ (j : Nat) (r : Re), (resL as)[j]? = some r → TopAt T (part own 0 H) (pa j) r (part own (2 * j + 2) H)) ∧
  match φ as with
  | .ok v outs => outs.length = (resL as).length ∧ ∀ own' pa' H' u, Ex own H own' H' → (∀ (j : Nat) (r : Re), (resL as)[j]? = some r → pa' j 0 = pa j 0 ∧ (op = true → j = 0 → ∀ i, i < r.size → pa' j i = pa j i)) →
      (∀ (j : Nat) (r : Re), outs[j]? = some r → TopAt T (part own' 0 H') (pa' j) r (part own' (2 * j + 2) H')) → OutV T own' pa' H' (resL as).length v u → Q u H'
  | .err c outs => outs.length = (resL as).length ∧ ∀ own' (pa' : Nat → Nat → Addr) H', Ex own H own' H' → (∀ (j : Nat) (r : Re), (resL as)[j]? = some r → pa' j 0 = pa j 0 ∧ (op = true → j = 0 → ∀ i, i < r.size → pa' j i = pa j i)) →
      (∀ (j : Nat) (r : Re), outs[j]? = some r → TopAt T (part own' 0 H') (pa' j) r (part own' (2 * j + 2) H')) → E (.ref (T.exc c)) none H'
  | .stuck => False

/-! ### tags across a call -/
def cover : Va → Nat → Bool
  | .c k, t => t == 2 * k + 2
  | .b 0, t => t % 2 == 1 && decide (3 ≤ t)
  | .b (k + 1), t => t == 2 * k + 5
  | _, _ => false
def mtc : List Va → Nat → Nat → Nat
  | [], _, _ => 1
  | v :: r, j, t => if cover v t then 2 * j + 2 else mtc r (j + 1) t
def mt (cs : List Va) (t : Nat) : Nat := if t = 0 then 0 else mtc cs 0 t
theorem mtc_vals (cs : List Va) : ∀ j t, mtc cs j t = 1 ∨ ∃ i v, cs[i]? = some v ∧ cover v t = true ∧ mtc cs j t = 2 * (j + i) + 2 := by
  induction cs with
  | nil => intro j t; exact .inl rfl
  | cons v r ih =>
    intro j t
    unfold mtc
    by_cases h : cover v t = true
    · rw [if_pos h]; exact .inr ⟨0, v, rfl, h, rfl⟩
    · rw [if_neg h]
      rcases ih (j + 1) t with q | ⟨i, w, h1, h2, h3⟩
      · exact .inl q
      · exact .inr ⟨i + 1, w, by simpa using h1, h2, by rw [h3]; omega⟩
theorem mtc_none {cs : List Va} : ∀ {j t}, (∀ v ∈ cs, cover v t = false) → mtc cs j t = 1 := by
  induction cs with
  | nil => intro j t _; rfl
  | cons v r ih =>
    intro j t h
    unfold mtc
    rw [if_neg (by rw [h v List.mem_cons_self]; exact Bool.false_ne_true)]
    exact ih fun w hw => h w (List.mem_cons_of_mem _ hw)
theorem cover_ne {v : Va} {t : Nat} (h : cover v t = true) : 2 ≤ t := by
  cases v with
  | c k => simp [cover] at h; omega
  | b k => cases k with
    | zero => simp [cover] at h; omega
    | succ k => simp [cover] at h; omega
  | _ => cases h
theorem apart_uniq {cs : List Va} (ap : apart cs = true) {i j : Nat} {v w : Va} {t : Nat} (hi : cs[i]? = some v) (hj : cs[j]? = some w) (hv : cover v t = true) (hw : cover w t = true) : i = j := by
  unfold apart at ap
  rw [Bool.and_eq_true, Bool.or_eq_true] at ap
  obtain ⟨nd, al⟩ := ap
  have nd := of_decide_eq_true nd
  have same : v.tag = w.tag := by
    have aux : ∀ {v w : Va}, v ∈ cs → w ∈ cs → cover v t = true → cover w t = true → v.tag = (1, 0) → w.tag = (1, 0) := by
      intro v w hv' hw' cv cw ev
      rcases al with al | al
      · have : (cs.any fun v => v.tag == (1, 0)) = true := List.any_eq_true.mpr ⟨v, hv', by rw [ev]; rfl⟩
        rw [this] at al; cases al
      · have h := List.all_eq_true.mp al w hw'
        rw [Bool.or_eq_true] at h
        rcases h with h | h
        · exact of_decide_eq_true (by simpa using h)
        · cases w with
          | c k =>
            cases v with
            | b n => cases n with
              | zero => simp [cover] at cv cw; omega
              | succ n => cases ev
            | c n => cases ev
            | _ => cases cv
          | b k => cases h
          | _ => cases cw
    have mv := List.mem_of_getElem? hi
    have mw := List.mem_of_getElem? hj
    cases v with
    | c k => cases w with
      | c n => simp [cover] at hv hw; have : k = n := by omega
               rw [this]
      | b n => cases n with
        | zero => have := aux mw mv hw hv rfl; cases this
        | succ n => simp [cover] at hv hw; omega
      | _ => cases hw
    | b k => cases k with
      | zero => rw [aux mv mw hv hw rfl]; rfl
      | succ k => cases w with
        | c n => simp [cover] at hv hw; omega
        | b n => cases n with
          | zero => have := aux mw mv hw hv rfl; cases this
          | succ n => simp [cover] at hv hw; have : k = n := by omega
                      rw [this]
        | _ => cases hw
    | _ => cases hv
  have e1 : (cs.map Va.tag)[i]? = some v.tag := by rw [List.getElem?_map, hi]; rfl
  have e2 : (cs.map Va.tag)[j]? = some v.tag := by rw [List.getElem?_map, hj, same]; rfl
  have hlt : i < (cs.map Va.tag).length := by
    rcases Nat.lt_or_ge i (cs.map Va.tag).length with z | z
    · exact z
    · rw [List.getElem?_eq_none z] at e1; cases e1
  exact (List.getElem?_inj hlt nd).mp (e1.trans e2.symm)
theorem mt_at {cs : List Va} (ap : apart cs = true) {j : Nat} {v : Va} {t : Nat} (hj : cs[j]? = some v) (hv : cover v t = true) : mt cs t = 2 * j + 2 := by
  have ht := cover_ne hv
  unfold mt
  rw [if_neg (by omega)]
  have h0 := mtc_vals cs 0 t
  rcases h0 with h | ⟨i, w, h1, h2, h3⟩
  · exfalso
    have gen : ∀ (cs : List Va) (j k : Nat), cs[j]? = some v → mtc cs k t ≠ 1 := by
      intro cs
      induction cs with
      | nil => intro j k h; simp at h
      | cons x r ih =>
        intro j k h
        unfold mtc
        by_cases hx : cover x t = true
        · rw [if_pos hx]; omega
        · rw [if_neg hx]
          cases j with
          | zero => simp at h; subst h; exact absurd hv hx
          | succ j => exact ih j (k + 1) (by simpa using h)
    exact gen cs j 0 hj h
  · have := apart_uniq ap h1 hj h2 hv
    subst this
    rw [h3]; omega
theorem mt_inv {cs : List Va} {j t : Nat} (h : mt cs t = 2 * j + 2) : ∃ v, cs[j]? = some v ∧ cover v t = true := by
  unfold mt at h
  split at h
  · omega
  · rcases mtc_vals cs 0 t with q | ⟨i, w, h1, h2, h3⟩
    · omega
    · have : i = j := by omega
      subst this
      exact ⟨w, h1, h2⟩
theorem mt_le {cs : List Va} {t : Nat} (h : t ≤ 1) : mt cs t = t := by
  unfold mt
  split
  · omega
  · rename_i h0
    have : t = 1 := by omega
    subst this
    exact mtc_none fun v _ => by
      cases q : cover v 1 with
      | false => rfl
      | true => have := cover_ne q; omega
theorem mt_zero {cs : List Va} {t : Nat} (h : mt cs t = 0) : t = 0 := by
  unfold mt at h
  split at h
  · assumption
  · rcases mtc_vals cs 0 t with q | ⟨i, w, h1, h2, h3⟩ <;> omega
theorem mt_one {cs : List Va} {t : Nat} (h : mt cs t = 1) : ∀ (j : Nat) (v : Va), cs[j]? = some v → apart cs = true → cover v t = false := by
  intro j v hj ap
  cases q : cover v t with
  | false => rfl
  | true => rw [mt_at ap hj q] at h; omega

/-! ### what comes back -/
theorem back_rho (cs : List Va) : ∀ (outs : List Re) (s : Sg), (backAll s cs outs).ρ = s.ρ ∧ (backAll s cs outs).W.length = s.W.length := by
  induction cs with
  | nil => intro outs s; cases outs <;> exact ⟨rfl, rfl⟩
  | cons v r ih =>
    intro outs s
    cases outs with
    | nil => exact ⟨rfl, rfl⟩
    | cons o os =>
      obtain ⟨h1, h2⟩ := ih os (setRes s v o)
      refine ⟨h1.trans ?_, h2.trans ?_⟩
      · cases v with
        | b k => cases k <;> rfl
        | _ => rfl
      · cases v with
        | c k => exact List.length_set
        | b k => cases k <;> rfl
        | _ => rfl
/-- the world behind: a cell that was handed in, one that was not -/
theorem back_W (cs : List Va) : ∀ (outs : List Re) (s : Sg), outs.length = cs.length → (cs.map Va.tag).Nodup → ∀ k, k < s.W.length →
    (∀ (j : Nat) (o : Re), cs[j]? = some (Va.c k) → outs[j]? = some o → (backAll s cs outs).W[k]? = some o) ∧ ((∀ j : Nat, cs[j]? ≠ some (Va.c k)) → (backAll s cs outs).W[k]? = s.W[k]?) := by
  induction cs with
  | nil => intro outs s _ _ k hk; exact ⟨fun j o h => by simp at h, fun _ => by cases outs <;> rfl⟩
  | cons v r ih =>
    intro outs s hl nd k hk
    cases outs with
    | nil => cases hl
    | cons o os =>
      rw [List.map_cons, List.nodup_cons] at nd
      have hk2 : k < (setRes s v o).W.length := by
        cases v with
        | c n => show k < (s.W.set n o).length; rw [List.length_set]; exact hk
        | b n => cases n <;> exact hk
        | _ => exact hk
      obtain ⟨i1, i2⟩ := ih os (setRes s v o) (by simpa using hl) nd.2 k hk2
      have notin : v = .c k → ∀ j : Nat, r[j]? ≠ some (Va.c k) := fun e j h => nd.1 (by rw [e]; exact List.mem_map.mpr ⟨_, List.mem_of_getElem? h, rfl⟩)
      refine ⟨fun j o' h1 h2 => ?_, fun h => ?_⟩
      · cases j with
        | zero =>
          have e : v = .c k := by simpa using h1
          have e2 : o = o' := by simpa using h2
          subst e e2
          rw [show backAll s (Va.c k :: r) (o :: os) = backAll (setRes s (.c k) o) r os from rfl, i2 (notin rfl)]
          show (s.W.set k o)[k]? = _
          rw [List.getElem?_set_self hk]
        | succ j => exact i1 j o' (by simpa using h1) (by simpa using h2)
      · have hv : v ≠ .c k := fun e => h 0 (by rw [e]; rfl)
        rw [show backAll s (v :: r) (o :: os) = backAll (setRes s v o) r os from rfl, i2 fun j hj => h (j + 1) (by simpa using hj)]
        cases v with
        | c n =>
          show (s.W.set n o)[k]? = _
          rw [List.getElem?_set_ne (fun e => hv (by rw [e]))]
        | b n => cases n <;> rfl
        | _ => rfl
/-- the box behind, where it was not handed in whole -/
theorem back_B (cs : List Va) : ∀ (outs : List Re) (s : Sg), outs.length = cs.length → (cs.map Va.tag).Nodup → (∀ j : Nat, cs[j]? ≠ some (Va.b 0)) → (backAll s cs outs).B.length = s.B.length ∧ ∀ k, k < s.B.length →
    (∀ (j : Nat) (o : Re), cs[j]? = some (Va.b k) → outs[j]? = some o → (backAll s cs outs).B[k]? = some o) ∧ ((∀ j : Nat, cs[j]? ≠ some (Va.b k)) → (backAll s cs outs).B[k]? = s.B[k]?) := by
  induction cs with
  | nil => intro outs s _ _ _; exact ⟨by cases outs <;> rfl, fun k hk => ⟨fun j o h => by simp at h, fun _ => by cases outs <;> rfl⟩⟩
  | cons v r ih =>
    intro outs s hl nd h0
    cases outs with
    | nil => cases hl
    | cons o os =>
      rw [List.map_cons, List.nodup_cons] at nd
      have hv0 : v ≠ .b 0 := fun e => h0 0 (by rw [e]; rfl)
      have hlen : (setRes s v o).B.length = s.B.length := by
        cases v with
        | b n => cases n with
          | zero => exact absurd rfl hv0
          | succ n => exact List.length_set
        | _ => rfl
      obtain ⟨l1, ih⟩ := ih os (setRes s v o) (by simpa using hl) nd.2 (fun j hj => h0 (j + 1) (by simpa using hj))
      refine ⟨l1.trans hlen, fun k hk => ?_⟩
      obtain ⟨i1, i2⟩ := ih k (by omega)
      have notin : v = .b k → ∀ j : Nat, r[j]? ≠ some (Va.b k) := fun e j h => nd.1 (by rw [e]; exact List.mem_map.mpr ⟨_, List.mem_of_getElem? h, rfl⟩)
      refine ⟨fun j o' h1 h2 => ?_, fun h => ?_⟩
      · cases j with
        | zero =>
          have e : v = .b k := by simpa using h1
          have e2 : o = o' := by simpa using h2
          subst e e2
          rw [show backAll s (Va.b k :: r) (o :: os) = backAll (setRes s (.b k) o) r os from rfl, i2 (notin rfl)]
          cases k with
          | zero => exact absurd rfl hv0
          | succ n =>
            show (s.B.set (n + 1) o)[n + 1]? = _
            rw [List.getElem?_set_self hk]
        | succ j => exact i1 j o' (by simpa using h1) (by simpa using h2)
      · have hv : v ≠ .b k := fun e => h 0 (by rw [e]; rfl)
        rw [show backAll s (v :: r) (o :: os) = backAll (setRes s v o) r os from rfl, i2 fun j hj => h (j + 1) (by simpa using hj)]
        cases v with
        | b n => cases n with
          | zero => exact absurd rfl hv0
          | succ n =>
            show (s.B.set (n + 1) o)[k]? = _
            rw [List.getElem?_set_ne (fun e => hv (by rw [e]))]
        | _ => rfl
/-- the box behind, where it was handed in whole -/
theorem back_B0 (cs : List Va) : ∀ (outs : List Re) (s : Sg), outs.length = cs.length → (cs.map Va.tag).Nodup → (∀ (j k : Nat), cs[j]? ≠ some (Va.b (k + 1))) → ∀ (j : Nat) (o : Re), cs[j]? = some (Va.b 0) → outs[j]? = some o → (backAll s cs outs).B = openB o := by
  have keep : ∀ (cs : List Va) (outs : List Re) (s : Sg), (∀ (j k : Nat), cs[j]? ≠ some (Va.b k)) → (backAll s cs outs).B = s.B := by
    intro cs
    induction cs with
    | nil => intro outs s _; cases outs <;> rfl
    | cons v r ih =>
      intro outs s h
      cases outs with
      | nil => rfl
      | cons o os =>
        rw [show backAll s (v :: r) (o :: os) = backAll (setRes s v o) r os from rfl, ih os _ fun j k hj => h (j + 1) k (by simpa using hj)]
        cases v with
        | b n => exact absurd rfl (h 0 n)
        | _ => rfl
  induction cs with
  | nil => intro outs s _ _ _ j o h; simp at h
  | cons v r ih =>
    intro outs s hl nd h0 j o h1 h2
    cases outs with
    | nil => cases hl
    | cons p os =>
      rw [List.map_cons, List.nodup_cons] at nd
      cases j with
      | zero =>
        have e : v = .b 0 := by simpa using h1
        have e2 : p = o := by simpa using h2
        subst e e2
        rw [show backAll s (Va.b 0 :: r) (p :: os) = backAll (setRes s (.b 0) p) r os from rfl, keep]
        · rfl
        · intro j k hj
          cases k with
          | zero => exact nd.1 (List.mem_map.mpr ⟨_, List.mem_of_getElem? hj, rfl⟩)
          | succ k => exact h0 (j + 1) k (by simpa using hj)
      | succ j => exact ih os (setRes s v p) (by simpa using hl) nd.2 (fun j k hj => h0 (j + 1) k (by simpa using hj)) j o (by simpa using h1) (by simpa using h2)
theorem backOk_len {s : Sg} : ∀ {cs : List Va} {outs : List Re}, backOk s cs outs = true → outs.length = cs.length ∧ ∀ (j : Nat) (o : Re), cs[j]? = some (Va.b 0) → outs[j]? = some o → s.B.length ≤ (openB o).length := by
  intro cs
  induction cs with
  | nil => intro outs h; cases outs with
    | nil => exact ⟨rfl, fun j o h => by simp at h⟩
    | cons _ _ => cases h
  | cons v r ih =>
    intro outs h
    cases outs with
    | nil => cases v with
      | b k => cases k <;> cases h
      | _ => cases h
    | cons o os =>
      have key : backOk s r os = true ∧ (v = .b 0 → s.B.length ≤ (openB o).length) := by
        cases v with
        | b k => cases k with
          | zero =>
            simp only [backOk, Bool.and_eq_true] at h
            exact ⟨h.2, fun _ => of_decide_eq_true h.1⟩
          | succ k => exact ⟨h, fun e => by cases e⟩
        | _ => exact ⟨h, fun e => by cases e⟩
      obtain ⟨k1, k2⟩ := ih key.1
      refine ⟨by simp [k1], fun j p h1 h2 => ?_⟩
      cases j with
      | zero =>
        have e : v = .b 0 := by simpa using h1
        have e2 : o = p := by simpa using h2
        rw [← e2]; exact key.2 e
      | succ j => exact k2 j p (by simpa using h1) (by simpa using h2)

/-! ### the call -/
def addrOf (G : Gh) : Va → Addr
  | .c k => G.adr k
  | .b k => G.bdr k
  | _ => 0
def ownIn (cs : List Va) (G : Gh) : Addr → Nat := fun a => mt cs (G.own a)
/-- may be handed over as it is -/
def mayGo (s : Sg) (v : Va) (r : Re) : Prop := r.closed = true ∨ (v = .b 0 ∧ s.B.length ≠ 1)
section
variable {T : Tn} {W : WX} {G : Gh} {H : Hp} {σ : St} {s : Sg}
theorem toAv_res {v : Va} {a : Av} {ds : List Va} (e : toAv s v = some (a, ds)) : (ds = [] ∧ ((∃ x, a = .d x ∧ solid s v = some x) ∨ (∃ n, a = .x n ∧ v = .x n) ∨ (∃ n, a = .s n ∧ v = .s n))) ∨ (∃ r, ds = [v] ∧ a = .r r ∧ resOf s v = some r ∧ mayGo s v r ∧ ((∃ k, v = .c k) ∨ ∃ k, v = .b k)) := by
  have go : ∀ v : Va, (∃ k, v = .c k) ∨ (∃ k, v = .b k) → (match solid s v with
    | some x => some (.d x, [])
    | none => match resOf s v with
      | some r => if goes s v r then some (.r r, [v]) else none
      | none => none) = some (a, ds) → (ds = [] ∧ ((∃ x, a = .d x ∧ solid s v = some x) ∨ (∃ n, a = .x n ∧ v = .x n) ∨ (∃ n, a = .s n ∧ v = .s n))) ∨ (∃ r, ds = [v] ∧ a = .r r ∧ resOf s v = some r ∧ mayGo s v r ∧ ((∃ k, v = .c k) ∨ ∃ k, v = .b k)) := by
    intro v hv e
    split at e
    · rename_i x hx
      cases e
      exact .inl ⟨rfl, .inl ⟨x, rfl, hx⟩⟩
    · split at e
      · rename_i r hr
        split at e
        · rename_i hc
          cases e
          refine .inr ⟨r, rfl, rfl, hr, ?_, hv⟩
          unfold goes at hc
          rw [Bool.or_eq_true, Bool.and_eq_true] at hc
          rcases hc with hc | ⟨hc, hl⟩
          · exact .inl hc
          · refine .inr ⟨?_, by simpa using hl⟩
            rcases hv with ⟨k, rfl⟩ | ⟨k, rfl⟩
            · cases hc
            · cases k with
              | zero => rfl
              | succ k => simp [Va.tag] at hc
        · cases e
      · cases e
  cases v with
  | d x => cases e; exact .inl ⟨rfl, .inl ⟨x, rfl, rfl⟩⟩
  | x n => cases e; exact .inl ⟨rfl, .inr (.inl ⟨n, rfl, rfl⟩)⟩
  | s n => cases e; exact .inl ⟨rfl, .inr (.inr ⟨n, rfl, rfl⟩)⟩
  | c k => exact go _ (.inl ⟨k, rfl⟩) e
  | b k => exact go _ (.inr ⟨k, rfl⟩) e
/-- the arguments as they are handed over -/
theorem toAvs_args (R : Rel T G s σ H) {pa : Nat → Nat → Addr} : ∀ {vs : List Va} {us : List V} {as : List Av} {cs : List Va} {j0 : Nat}, vreps T vs s G H us → toAvs s vs = some (as, cs) → (∀ (j : Nat) (v : Va), cs[j]? = some v → pa (j0 + j) 0 = addrOf G v) →
    ArgsRep T (part G.own 0 H) pa j0 as us ∧ (resL as).length = cs.length ∧ ∀ (j : Nat) (r : Re), (resL as)[j]? = some r → ∃ v, cs[j]? = some v ∧ resOf s v = some r ∧ mayGo s v r := by
  intro vs
  induction vs with
  | nil =>
    intro us as cs j0 r e _
    cases e
    cases r
    exact ⟨.nil, rfl, fun j r h => by simp [resL] at h⟩
  | cons v vs ih =>
    intro us as cs j0 r e hp
    cases r with
    | @cons _ u _ us' r1 r2 =>
      simp only [toAvs] at e
      split at e
      · rename_i a b as' bs' e1 e2
        cases e
        rcases toAv_res e1 with ⟨hb, hx⟩ | ⟨re, hb, rfl, hr, hm, hv⟩
        · subst hb
          obtain ⟨i1, i2, i3⟩ := ih (j0 := j0) r2 e2 (by simpa using hp)
          rcases hx with ⟨x, rfl, hs⟩ | ⟨n, rfl, rfl⟩ | ⟨n, rfl, rfl⟩
          · exact ⟨.d (vrep_solid R r1 hs) i1, i2, i3⟩
          · obtain ⟨ad, ea, h⟩ := r1
            rw [ea]
            exact ⟨.x h i1, i2, i3⟩
          · obtain ⟨ad, ea, h⟩ := r1
            rw [ea]
            exact ⟨.s h i1, i2, i3⟩
        · subst hb
          obtain ⟨i1, i2, i3⟩ := ih (j0 := j0 + 1) r2 e2 (fun j w hj => by
            have := hp (j + 1) w (by simpa using hj)
            rw [show j0 + 1 + j = j0 + (j + 1) by omega]; exact this)
          have h0 := hp 0 v rfl
          rw [Nat.add_zero] at h0
          have eu : u = V.ref (pa j0 0) := by
            rw [h0]
            rcases hv with ⟨k, rfl⟩ | ⟨k, rfl⟩
            · exact r1.2
            · exact r1.2
          rw [eu]
          refine ⟨.r i1, by simp [resL, i2], fun j r hj => ?_⟩
          cases j with
          | zero =>
            have : re = r := by simpa [resL] using hj
            subst this
            exact ⟨v, rfl, hr, hm⟩
          | succ j =>
            obtain ⟨w, q1, q2⟩ := i3 j r (by simpa [resL] using hj)
            exact ⟨w, by simpa using q1, q2⟩
      · cases e
theorem part_in0 (cs : List Va) : part (ownIn cs G) 0 H = part G.own 0 H := by
  funext a
  unfold part ownIn
  by_cases h : G.own a = 0
  · rw [if_pos h, if_pos (by rw [h]; rfl)]
  · rw [if_neg h, if_neg (fun z => h (mt_zero z))]
theorem bx_len {k : Nat} {r : Re} (e : s.B[k]? = some r) : k < s.B.length := by
  rcases Nat.lt_or_ge k s.B.length with z | z
  · exact z
  · rw [List.getElem?_eq_none z] at e; cases e
/-- what is handed over lies at its own addresses -/
theorem top_in (R : Rel T G s σ H) {cs : List Va} (ap : apart cs = true) {j : Nat} {v : Va} {r : Re} (hj : cs[j]? = some v) (hr : resOf s v = some r) (hm : mayGo s v r) :
    ∃ p, p 0 = addrOf G v ∧ (v = .b 0 → p = G.bdr) ∧ TopAt T (part (ownIn cs G) 0 H) p r (part (ownIn cs G) (2 * j + 2) H) := by
  rw [part_in0]
  have pm : ∀ t, cover v t = true → Same (part G.own t H) (part (ownIn cs G) (2 * j + 2) H) := fun t ht a o q => by
    obtain ⟨q1, q2⟩ := part_iff.mp q
    exact part_iff.mpr ⟨by show mt cs (G.own a) = _; rw [q1]; exact mt_at ap hj ht, q2⟩
  cases v with
  | c k =>
    have hc : r.closed = true := by
      rcases hm with hm | ⟨hm, _⟩
      · exact hm
      · cases hm
    obtain ⟨p, e, t⟩ := (R.wld k r hr).top hc
    exact ⟨p, e, fun z => (by cases z), t.mono (Same.refl _) (pm _ (by simp [cover]))⟩
  | b k =>
    cases k with
    | succ k =>
      have hc : r.closed = true := by
        rcases hm with hm | ⟨hm, _⟩
        · exact hm
        · cases hm
      obtain ⟨p, e, t⟩ := (R.bx (k + 1) r hr).top hc
      exact ⟨p, e, fun z => (by cases z), t.mono (Same.refl _) (pm _ (by simp [cover]; omega))⟩
    | zero =>
      simp only [resOf] at hr
      split at hr
      · rename_i c fs rs hB
        cases hr
        refine ⟨G.bdr, rfl, fun _ => rfl, ?_⟩
        cases rs with
        | nil =>
          have hc : (Re.ins c fs).closed = true := by
            rcases hm with hm | ⟨_, hm⟩
            · exact hm
            · rw [hB] at hm; exact absurd rfl hm
          obtain ⟨p, e, t⟩ := (R.bx 0 (.ins c fs) (by rw [hB]; rfl)).top hc
          have t2 := t.res
          rw [e] at t2
          exact .one rfl (t2.mono (Same.refl _) (pm _ (by simp [cover])) (Nat.le_refl _) fun _ _ => rfl)
        | cons r2 rs =>
          refine .box (own := fun a => (G.own a - 3) / 2) fun i r' hi => ?_
          have hi' : s.B[i]? = some r' := by rw [hB]; exact hi
          have q := R.bx i r' hi'
          rw [hB] at q
          refine q.mono (Same.refl _) (fun a o q => ?_) (Nat.le_refl _) fun _ _ => rfl
          obtain ⟨q1, q2⟩ := part_iff.mp q
          refine part_iff.mpr ⟨by show (G.own a - 3) / 2 = i; rw [q1]; omega, pm (2 * i + 3) (by simp [cover] <;> omega) a o (part_iff.mpr ⟨q1, q2⟩)⟩
      · cases hr
  | d x => cases hr
  | x n => cases hr
  | s n => cases hr
theorem top_open {F : Hp} {pa : Nat → Addr} {r : Re} {Hm : Hp} (h : TopAt T F pa r Hm) : ∃ sp : Addr → Nat, ∀ (i : Nat) (r' : Re), (openB r)[i]? = some r' → ResAt T F pa (openB r).length (pa i) r' (part sp i Hm) := by
  cases h with
  | box h => exact ⟨_, h⟩
  | one p h =>
    have e : openB r = [r] := by
      cases r with
      | box rs => cases p
      | _ => rfl
    rw [e]
    refine ⟨fun _ => 0, fun i r' hi => ?_⟩
    cases i with
    | zero =>
      have : r = r' := by simpa using hi
      subst this
      exact h.weak.mono (Same.refl _) (fun a o q => part_iff.mpr ⟨rfl, q⟩) (Nat.le_refl _) fun _ _ => rfl
    | succ i => simp at hi
/-- behind the call: the state with what came back -/
theorem back_rel (R : Rel T G s σ H) {cs : List Va} {outs : List Re} (ap : apart cs = true) (bo : backOk s cs outs = true) {own' : Addr → Nat} {pa pa' : Nat → Nat → Addr} {H' : Hp} (ex : Ex (ownIn cs G) H own' H')
    (h0 : ∀ (j : Nat) (v : Va), cs[j]? = some v → pa' j 0 = addrOf G v) (hb : ∀ j : Nat, cs[j]? = some (Va.b 0) → ∀ i, i < s.B.length → pa' j i = G.bdr i)
    (hn : ∀ (j : Nat) (v : Va), cs[j]? = some v → (∃ k, v = .c k ∧ k < s.W.length) ∨ ∃ k, v = .b k ∧ k < s.B.length)
    (ht : ∀ (j : Nat) (r : Re), outs[j]? = some r → TopAt T (part own' 0 H') (pa' j) r (part own' (2 * j + 2) H')) :
    ∃ G', Rel T G' (backAll s cs outs) σ H' ∧ Ext G H s.W.length s.B.length G' H' (backAll s cs outs).W.length (backAll s cs outs).B.length ∧ Same (part own' 0 H') (part G'.own 0 H') ∧ Same (part own' (2 * cs.length + 2) H') (part G'.own (2 * s.W.length + 2) H') := by
  obtain ⟨ol, ob⟩ := backOk_len bo
  have nd : (cs.map Va.tag).Nodup := by
    unfold apart at ap
    rw [Bool.and_eq_true] at ap
    exact of_decide_eq_true ap.1
  -- the box's parts apart
  obtain ⟨sp, hsp⟩ : ∃ sp : Addr → Nat, ∀ (j : Nat) (r : Re), cs[j]? = some (Va.b 0) → outs[j]? = some r → ∀ (i : Nat) (r' : Re), (openB r)[i]? = some r' → ResAt T (part own' 0 H') (pa' j) (openB r).length (pa' j i) r' (part sp i (part own' (2 * j + 2) H')) := by
    by_cases hx : ∃ (j : Nat) (r : Re), cs[j]? = some (Va.b 0) ∧ outs[j]? = some r
    · obtain ⟨j, r, h1, h2⟩ := hx
      obtain ⟨sp, h⟩ := top_open (ht j r h2)
      refine ⟨sp, fun j' r' h1' h2' => ?_⟩
      have : j = j' := apart_uniq ap (t := 3) h1 h1' (by simp [cover]) (by simp [cover])
      subst this
      rw [h2] at h2'
      cases h2'
      exact h
    · exact ⟨fun _ => 0, fun j r h1 h2 => absurd ⟨j, r, h1, h2⟩ hx⟩
  let ow : Addr → Nat := fun a => if own' a = 0 then 0 else if own' a = 1 then (if ownIn cs G a = 1 then G.own a else 1) else if own' a % 2 = 1 then 1 else
    match cs[own' a / 2 - 1]? with
    | some (.c k) => 2 * k + 2
    | some (.b 0) => 2 * sp a + 3
    | some (.b (k + 1)) => 2 * k + 5
    | some _ => 1
    | none => if own' a / 2 - 1 = cs.length then 2 * s.W.length + 2 else 1
  have ow0 : ∀ a, own' a = 0 → ow a = 0 := fun a e => by show (if own' a = 0 then 0 else _) = 0; rw [if_pos e]
  have owj : ∀ a j, own' a = 2 * j + 2 → ow a = match cs[j]? with
    | some (.c k) => 2 * k + 2
    | some (.b 0) => 2 * sp a + 3
    | some (.b (k + 1)) => 2 * k + 5
    | some _ => 1
    | none => if j = cs.length then 2 * s.W.length + 2 else 1 := fun a j e => by
    have ej : own' a / 2 - 1 = j := by omega
    show (if own' a = 0 then 0 else if own' a = 1 then (if ownIn cs G a = 1 then G.own a else 1) else if own' a % 2 = 1 then 1 else _) = _
    rw [if_neg (by omega), if_neg (by omega), if_neg (by omega), ej]
  have owk : ∀ a o, H a = some o → ownIn cs G a = 1 → H' a = some o ∧ ow a = G.own a := fun a o e1 e2 => by
    obtain ⟨q1, q2⟩ := ex a o e1 (by omega)
    refine ⟨q1, ?_⟩
    rw [e2] at q2
    show (if own' a = 0 then 0 else if own' a = 1 then (if ownIn cs G a = 1 then G.own a else 1) else _) = _
    rw [if_neg (by omega), if_pos q2, if_pos e2]
  have x : ∀ n' m', s.W.length ≤ n' → s.B.length ≤ m' → ∀ bd : Nat → Addr, (∀ k, k < s.B.length → bd k = G.bdr k) → Ext G H s.W.length s.B.length ⟨ow, G.adr, bd⟩ H' n' m' := fun n' m' hn' hm' bd hbd => by
    refine ⟨fun a o e1 e2 => ?_, fun _ _ => rfl, hbd, hn', hm'⟩
    have e3 : ownIn cs G a = G.own a := mt_le e2
    by_cases hz : G.own a = 0
    · obtain ⟨q1, q2⟩ := ex a o e1 (by omega)
      refine ⟨q1, ?_⟩
      show ow a = G.own a
      rw [hz, ow0 a (by omega)]
    · exact owk a o e1 (by omega)
  have dat0 : Same (part own' 0 H') (part ow 0 H') := fun a o q => by
    obtain ⟨q1, q2⟩ := part_iff.mp q
    exact part_iff.mpr ⟨ow0 a q1, q2⟩
  have newS : Same (part own' (2 * cs.length + 2) H') (part ow (2 * s.W.length + 2) H') := fun a o q => by
    obtain ⟨q1, q2⟩ := part_iff.mp q
    refine part_iff.mpr ⟨?_, q2⟩
    rw [owj a cs.length q1, List.getElem?_eq_none (Nat.le_refl _)]
    dsimp only
    rw [if_pos rfl]
  obtain ⟨brho, bWl⟩ := back_rho cs outs s
  -- the world's cells
  have wld : ∀ (k : Nat) (r : Re), (backAll s cs outs).W[k]? = some r → ResAt T (part ow 0 H') z0 0 (G.adr k) r (part ow (2 * k + 2) H') := by
    intro k r e
    have hk : k < s.W.length := by
      rcases Nat.lt_or_ge k s.W.length with z | z
      · exact z
      · rw [List.getElem?_eq_none (by omega)] at e; cases e
    obtain ⟨w1, w2⟩ := back_W cs outs s ol nd k hk
    by_cases hx : ∃ j : Nat, cs[j]? = some (Va.c k)
    · obtain ⟨j, hj⟩ := hx
      have hjl : j < outs.length := by
        rw [ol]
        rcases Nat.lt_or_ge j cs.length with z | z
        · exact z
        · rw [List.getElem?_eq_none z] at hj; cases hj
      have ho : outs[j]? = some outs[j] := List.getElem?_eq_getElem hjl
      have e' := w1 j _ hj ho
      rw [e'] at e
      cases e
      have q := (ht j _ ho).res
      rw [h0 j _ hj] at q
      refine q.mono dat0 (fun a o q => ?_) (Nat.le_refl _) fun _ _ => rfl
      obtain ⟨q1, q2⟩ := part_iff.mp q
      exact part_iff.mpr ⟨by rw [owj a j q1, hj], q2⟩
    · have e' := w2 fun j hj => hx ⟨j, hj⟩
      rw [e'] at e
      refine (R.wld k r e).mono ((x _ _ (Nat.le_refl _) (Nat.le_refl _) G.bdr fun _ _ => rfl).data) (fun a o q => ?_) (Nat.le_refl _) fun _ _ => rfl
      obtain ⟨q1, q2⟩ := part_iff.mp q
      have nc : ownIn cs G a = 1 := by
        show mt cs (G.own a) = 1
        rw [q1]
        unfold mt
        rw [if_neg (by omega)]
        refine mtc_none fun v hv => ?_
        cases q : cover v (2 * k + 2) with
        | false => rfl
        | true =>
          obtain ⟨j, hj⟩ := List.mem_iff_getElem?.mp hv
          cases v with
          | c n => simp [cover] at q; exact absurd ⟨j, by rw [hj]; congr 2; omega⟩ hx
          | b n => cases n with
            | zero => simp [cover] at q <;> omega
            | succ n => simp [cover] at q <;> omega
          | _ => cases q
      obtain ⟨z1, z2⟩ := owk a o q2 nc
      exact part_iff.mpr ⟨z2.trans q1, z1⟩
  by_cases hx0 : ∃ j : Nat, cs[j]? = some (Va.b 0)
  · -- the box went whole
    obtain ⟨j0, hj0⟩ := hx0
    have nob : ∀ (j k : Nat), cs[j]? ≠ some (Va.b (k + 1)) := fun j k hj => by
      have := apart_uniq ap (t := 2 * k + 5) hj hj0 (by simp [cover]) (by simp [cover] <;> omega)
      subst this
      rw [hj0] at hj
      cases hj
    have hjl : j0 < outs.length := by
      rw [ol]
      rcases Nat.lt_or_ge j0 cs.length with z | z
      · exact z
      · rw [List.getElem?_eq_none z] at hj0; cases hj0
    have ho : outs[j0]? = some outs[j0] := List.getElem?_eq_getElem hjl
    have eB := back_B0 cs outs s ol nd nob j0 _ hj0 ho
    have xB := x (backAll s cs outs).W.length (backAll s cs outs).B.length (by omega) (by rw [eB]; exact ob j0 _ hj0 ho) (pa' j0) (hb j0 hj0)
    refine ⟨⟨ow, G.adr, pa' j0⟩, ⟨by rw [brho]; exact R.len, fun i v e => ?_, wld, fun k r e => ?_⟩, xB, dat0, newS⟩
    · rw [brho] at e
      obtain ⟨u, q1, q2⟩ := R.slot i v e
      exact ⟨u, q1, q2.ext xB⟩
    · rw [eB] at e ⊢
      refine (hsp j0 _ hj0 ho k r e).mono dat0 (fun a o q => ?_) (Nat.le_refl _) fun _ _ => rfl
      obtain ⟨q1, q2⟩ := part_iff.mp q
      obtain ⟨q3, q4⟩ := part_iff.mp q2
      exact part_iff.mpr ⟨by show ow a = _; rw [owj a j0 q3, hj0]; dsimp only; rw [q1], q4⟩
  · -- parts of the box, one by one
    have no0 : ∀ j : Nat, cs[j]? ≠ some (Va.b 0) := fun j hj => hx0 ⟨j, hj⟩
    obtain ⟨bl, bB⟩ := back_B cs outs s ol nd no0
    have xB := x (backAll s cs outs).W.length (backAll s cs outs).B.length (by omega) (by omega) G.bdr fun _ _ => rfl
    refine ⟨⟨ow, G.adr, G.bdr⟩, ⟨by rw [brho]; exact R.len, fun i v e => ?_, wld, fun k r e => ?_⟩, xB, dat0, newS⟩
    · rw [brho] at e
      obtain ⟨u, q1, q2⟩ := R.slot i v e
      exact ⟨u, q1, q2.ext xB⟩
    · have hk : k < s.B.length := by
        rcases Nat.lt_or_ge k s.B.length with z | z
        · exact z
        · rw [List.getElem?_eq_none (by omega)] at e; cases e
      obtain ⟨w1, w2⟩ := bB k hk
      rw [bl]
      by_cases hx : ∃ j : Nat, cs[j]? = some (Va.b k)
      · obtain ⟨j, hj⟩ := hx
        have hjl : j < outs.length := by
          rw [ol]
          rcases Nat.lt_or_ge j cs.length with z | z
          · exact z
          · rw [List.getElem?_eq_none z] at hj; cases hj
        have ho : outs[j]? = some outs[j] := List.getElem?_eq_getElem hjl
        have e' := w1 j _ hj ho
        rw [e'] at e
        cases e
        have q := (ht j _ ho).res
        rw [h0 j _ hj] at q
        refine q.weak.mono dat0 (fun a o q => ?_) (Nat.le_refl _) fun _ _ => rfl
        obtain ⟨q1, q2⟩ := part_iff.mp q
        refine part_iff.mpr ⟨?_, q2⟩
        show ow a = _
        rw [owj a j q1, hj]
        cases k with
        | zero => exact absurd hj (no0 j)
        | succ k => show 2 * k + 5 = 2 * (k + 1) + 3; omega
      · have e' := w2 fun j hj => hx ⟨j, hj⟩
        rw [e'] at e
        refine (R.bx k r e).mono xB.data (fun a o q => ?_) (Nat.le_refl _) fun _ _ => rfl
        obtain ⟨q1, q2⟩ := part_iff.mp q
        have nc : ownIn cs G a = 1 := by
          show mt cs (G.own a) = 1
          rw [q1]
          unfold mt
          rw [if_neg (by omega)]
          refine mtc_none fun v hv => ?_
          cases q : cover v (2 * k + 3) with
          | false => rfl
          | true =>
            obtain ⟨j, hj⟩ := List.mem_iff_getElem?.mp hv
            cases v with
            | c n => simp [cover] at q; omega
            | b n => cases n with
              | zero => exact absurd hj (no0 j)
              | succ n => simp [cover] at q; exact absurd ⟨j, by rw [hj]; congr 2; omega⟩ hx
            | _ => cases q
        obtain ⟨z1, z2⟩ := owk a o q2 nc
        exact part_iff.mpr ⟨z2.trans q1, z1⟩
end
section
variable {X : Cx} {T : Tn} {W : WX} (hK : X.K = T.K)
include hK
theorem resOf_lt {s : Sg} {v : Va} {r : Re} (e : resOf s v = some r) : (∃ k, v = .c k ∧ k < s.W.length) ∨ ∃ k, v = .b k ∧ k < s.B.length := by
  cases v with
  | c k =>
    refine .inl ⟨k, rfl, ?_⟩
    rcases Nat.lt_or_ge k s.W.length with z | z
    · exact z
    · have e : s.W[k]? = some r := e
      rw [List.getElem?_eq_none z] at e; cases e
  | b k =>
    refine .inr ⟨k, rfl, ?_⟩
    cases k with
    | zero =>
      simp only [resOf] at e
      split at e
      · rename_i c fs rs hB
        rw [hB]; simp
      · cases e
    | succ k => exact bx_len (r := r) e
  | d x => cases e
  | x n => cases e
  | s n => cases e
theorem resOf_size {s : Sg} {r : Re} (e : resOf s (.b 0) = some r) : r.size = s.B.length := by
  simp only [resOf] at e
  split at e
  · rename_i c fs rs hB
    cases e
    rw [hB]
    cases rs <;> rfl
  · cases e
/-- a call by value and result keeps the callee's promise -/
theorem run_rd {G : Gh} {H : Hp} {σ : St} {s : Sg} {φ : Fn} {op : Bool} {vs : List Va} {us : List V} {Q : VK} (R : Rel T G s σ H) (r : vreps T vs s G H us)
    (h : Po T W G H s.W.length s.B.length σ (fun v s G H u => vrep T s G H v u) (run φ op 0 vs s) (fun _ _ _ H' u => Q u H')) : spF T op φ us H Q (fun cls d H' => W cls d σ H') := by
  unfold run at h
  split at h
  · exact h.elim
  · rename_i as cs e
    split at h
    · rename_i ap
      rw [Bool.and_eq_true] at ap
      obtain ⟨ap, b0⟩ := ap
      obtain ⟨_, rl, rg⟩ := toAvs_args R (pa := fun j _ => match cs[j]? with
        | some v => addrOf G v
        | none => 0) (j0 := 0) r e (fun j v hj => by simp [hj])
      obtain ⟨pa, hpa⟩ := Classical.axiomOfChoice (r := fun (j : Nat) (p : Nat → Addr) => ∀ v r, cs[j]? = some v → (resL as)[j]? = some r → p 0 = addrOf G v ∧ (v = .b 0 → p = G.bdr) ∧ TopAt T (part (ownIn cs G) 0 H) p r (part (ownIn cs G) (2 * j + 2) H)) (fun j => by
          by_cases hx : ∃ v r, cs[j]? = some v ∧ (resL as)[j]? = some r
          · obtain ⟨v, r, h1, h2⟩ := hx
            obtain ⟨v', q1, q2, q3⟩ := rg j r h2
            rw [h1] at q1
            cases q1
            obtain ⟨p, p1, p2, p3⟩ := top_in R ap h1 q2 q3
            refine ⟨p, fun v' r' h1' h2' => ?_⟩
            rw [h1] at h1'
            rw [h2] at h2'
            cases h1'
            cases h2'
            exact ⟨p1, p2, p3⟩
          · exact ⟨z0, fun v r h1 h2 => absurd ⟨v, r, h1, h2⟩ hx⟩)
      have hres : ∀ (j : Nat) (v : Va), cs[j]? = some v → ∃ r, (resL as)[j]? = some r := fun j v hj => by
        have : j < (resL as).length := by
          rw [rl]
          rcases Nat.lt_or_ge j cs.length with z | z
          · exact z
          · rw [List.getElem?_eq_none z] at hj; cases hj
        exact ⟨_, List.getElem?_eq_getElem this⟩
      have h0 : ∀ (j : Nat) (v : Va), cs[j]? = some v → pa j 0 = addrOf G v := fun j v hj => by
        obtain ⟨r, hr⟩ := hres j v hj
        exact (hpa j v r hj hr).1
      obtain ⟨ar, _, _⟩ := toAvs_args R (pa := pa) (j0 := 0) r e (fun j v hj => by rw [Nat.zero_add]; exact h0 j v hj)
      refine ⟨ownIn cs G, pa, as, by rw [part_in0]; exact ar, fun j r hr => ?_, ?_⟩
      · obtain ⟨v, q1, _, _⟩ := rg j r hr
        exact (hpa j v r q1 hr).2.2
      -- what is the same behind, ahead of the cases
      have back : ∀ {outs : List Re} {own' : Addr → Nat} {pa' : Nat → Nat → Addr} {H' : Hp}, backOk s cs outs = true → Ex (ownIn cs G) H own' H' → (∀ (j : Nat) (r : Re), (resL as)[j]? = some r → pa' j 0 = pa j 0 ∧ (op = true → j = 0 → ∀ i, i < r.size → pa' j i = pa j i)) →
          (∀ (j : Nat) (r : Re), outs[j]? = some r → TopAt T (part own' 0 H') (pa' j) r (part own' (2 * j + 2) H')) →
          ∃ G', Rel T G' (backAll s cs outs) σ H' ∧ Ext G H s.W.length s.B.length G' H' (backAll s cs outs).W.length (backAll s cs outs).B.length ∧ Same (part own' 0 H') (part G'.own 0 H') ∧ Same (part own' (2 * cs.length + 2) H') (part G'.own (2 * s.W.length + 2) H') := by
        intro outs own' pa' H' bo ex hp ht
        refine back_rel (pa := pa) R ap bo ex (fun j v hj => ?_) (fun j hj i hi => ?_) (fun j v hj => ?_) ht
        · obtain ⟨r, hr⟩ := hres j v hj
          rw [(hp j r hr).1]; exact h0 j v hj
        · obtain ⟨r, hr⟩ := hres j _ hj
          obtain ⟨v, q1, q2, _⟩ := rg j r hr
          rw [hj] at q1
          cases q1
          have hz : op = true ∧ j = 0 := by
            cases cs with
            | nil => simp at hj
            | cons w ws =>
              simp only [b0ok, Bool.and_eq_true, Bool.or_eq_true] at b0
              cases j with
              | zero =>
                have : w = .b 0 := by simpa using hj
                subst this
                rcases b0.1 with z | z
                · simp [Va.tag] at z
                · exact ⟨z, rfl⟩
              | succ j =>
                have := List.all_eq_true.mp b0.2 _ (List.mem_of_getElem? (i := j) (by simpa using hj))
                simp [Va.tag] at this
          rw [(hp j r hr).2 hz.1 hz.2 i (by rw [resOf_size hK q2]; exact hi), (hpa j _ r hj hr).2.1 rfl]
        · obtain ⟨r, hr⟩ := hres j v hj
          obtain ⟨v', q1, q2, _⟩ := rg j r hr
          rw [hj] at q1
          cases q1
          exact resOf_lt hK q2
      cases hφ : φ as with
      | stuck => rw [hφ] at h; exact h.elim
      | err c outs =>
        rw [hφ] at h
        dsimp only at h ⊢
        split at h
        · rename_i bo
          refine ⟨(backOk_len bo).1.trans rl.symm, fun own' pa' H' ex hp ht => ?_⟩
          obtain ⟨G', R', x', _, _⟩ := back bo ex hp ht
          exact h G' H' x' R'
        · exact h.elim
      | ok v outs =>
        rw [hφ] at h
        dsimp only at h ⊢
        split at h
        · rename_i bo
          refine ⟨(backOk_len bo).1.trans rl.symm, fun own' pa' H' u ex hp ht ov => ?_⟩
          obtain ⟨G', R', x', m0, mn⟩ := back bo ex hp ht
          cases v with
          | d y => exact h G' H' u x' R' (dp_mono m0 _ _ ov)
          | x n => exact h.elim
          | s n => exact h.elim
          | r re =>
            rw [rl] at ov
            obtain ⟨eu, tp⟩ := ov
            obtain ⟨_, bWl⟩ := back_rho cs outs s
            have hr : ResAt T (part G'.own 0 H') z0 0 (pa' cs.length 0) re (part G'.own (2 * (backAll s cs outs).W.length + 2) H') := by
              rw [bWl]
              exact tp.res.mono m0 mn (Nat.le_refl _) fun _ _ => rfl
            obtain ⟨R2, x2⟩ := Rel.alloc hK R' (Same.refl _) (fun _ _ _ => rfl) hr
            rw [eu]
            exact h _ H' _ (x'.trans x2) R2 ⟨by simp, by simp⟩
        · exact h.elim
    · exact h.elim
/-- f(..) of a def that computes φ -/
theorem s_call {k : Nat} {f : Addr} {fd : FuncData} {ps : List Str} {φ : Fn} {x : Str} {e : Expr} {es : List Expr} {fa : M (List Va)} {p pos : Pos} (F : FnOk X.prog X.w X.K X.mg X.base (L2.CX X.prog X.w) k f fd ps (spF T false φ)) (hr : Room k X.A) (hg : Gl X x) (hm : X.mg x = some (.ref f)) (hk : PySem.W.keepIn X.K (.ref f) = true) (hb : Binds X.K fd ps []) (tk : Takes X W)
    (ha : PA X (e :: es) (tL T W fa)) (hdb : (x == ("__debug__" : Str)) = false) (he : starEach (e :: es) X.env = (false, eval e X.env) :: starEach es X.env) (hpl : (backTo pos (starEach es X.env)).any (·.1) = false) :
    PE X (.Call (.Name x p) (e :: es) [] pos) (tE T W fun s => (fa s).bind fun vs s => (run φ false 0 vs s).bind fun v s => .ok [v] s) := by
  refine pe_imp (pe_callS F hr hg hm hk hb (fun σ => passAt tk σ) ha hdb he hpl) fun σ H Q ⟨s, G, R, h⟩ => ⟨s, G, R, (h.bind (rep' := vreps T)).imp fun vs s1 G1 H1 us x1 R1 r1 h1 => ?_⟩
  have h1 := h1.2
  refine run_rd hK R1 r1 ?_
  cases q : run φ false 0 vs s1 with
  | stuck => rw [q] at h1; exact h1.elim
  | err c s2 => rw [q] at h1; exact h1
  | ok v s2 =>
    rw [q] at h1
    intro G' H' u x2 R2 r2
    obtain ⟨u', e1, q2⟩ := h1 G' H' [u] x2 R2 (.cons r2 .nil)
    cases e1
    exact q2
end
end BC

/-! BDef: a def whose body is checked keeps its promise. -/
namespace BC
open PySem L2
section
variable {T : Tn}
theorem ResAt.top0 {F : Hp} {a : Addr} {r : Re} {Hm : Hp} (h : ResAt T F z0 0 a r Hm) : ∃ pa, pa 0 = a ∧ TopAt T F pa r Hm := by
  cases r with
  | box rs => cases h with | box e h => exact ⟨_, e, .box h⟩
  | _ => exact ⟨fun _ => a, rfl, .one rfl h⟩
theorem enterW_res : ∀ (as : List Av) (k : Nat), (enter.enterW k as).2 = resL as
  | [], _ => rfl
  | .r r :: as, k => by show r :: (enter.enterW (k + 1) as).2 = _; rw [enterW_res as]; rfl
  | .d _ :: as, k => enterW_res as k
  | .x _ :: as, k => enterW_res as k
  | .s _ :: as, k => enterW_res as k
def SlotRep (T : Tn) (F : Hp) (ca ba : Nat → Addr) (nc nb : Nat) (o : Option Va) (u : V) : Prop := ∃ v, o = some v ∧ VRep T F ca ba nc nb v u
theorem enterW_rep {F : Hp} {pa : Nat → Nat → Addr} {ca ba : Nat → Addr} {nc nb : Nat} {j : Nat} {as : List Av} {us : List V} (h : ArgsRep T F pa j as us) :
    ∀ k, (∀ i, i < (resL as).length → ca (k + i) = pa (j + i) 0) → k + (resL as).length ≤ nc → Paired (SlotRep T F ca ba nc nb) (enter.enterW k as).1 us := by
  induction h with
  | nil => intro k _ _; exact .nil
  | d hx _ ih => intro k h1 h2; exact .cons ⟨_, rfl, hx⟩ (ih k h1 h2)
  | x hx _ ih => intro k h1 h2; exact .cons ⟨.x _, rfl, _, rfl, hx⟩ (ih k h1 h2)
  | s hx _ ih => intro k h1 h2; exact .cons ⟨.s _, rfl, _, rfl, hx⟩ (ih k h1 h2)
  | r _ ih =>
    intro k h1 h2
    have l : ∀ (r : Re) (as : List Av), (resL (.r r :: as)).length = (resL as).length + 1 := fun _ _ => rfl
    rw [l] at h1 h2
    have h10 : ca k = pa _ 0 := h1 0 (by omega)
    refine .cons ⟨.c k, rfl, by omega, by rw [h10]; rfl⟩ (ih (k + 1) (fun i hi => ?_) (by omega))
    have := h1 (i + 1) (by omega)
    rw [show k + 1 + i = k + (i + 1) by omega, this]
    congr 1
    omega
theorem start_slots {F : Hp} {ca ba : Nat → Addr} {nc nb n : Nat} {os : List (Option Va)} {us : List V} (h : Paired (SlotRep T F ca ba nc nb) os us) : ∀ (i : Nat) (v : Va), (os ++ List.replicate n none)[i]? = some (some v) → ∃ u, (us.map some ++ List.replicate n (none : Option V))[i]? = some (some u) ∧ VRep T F ca ba nc nb v u := by
  induction h with
  | nil =>
    intro i v e
    rw [List.nil_append, List.getElem?_replicate] at e
    split at e <;> cases e
  | cons a _ ih =>
    intro i v e
    cases i with
    | zero =>
      obtain ⟨w, e1, e2⟩ := a
      subst e1
      have : w = v := by simpa using e
      subst this
      exact ⟨_, rfl, e2⟩
    | succ i => exact ih i v (by simpa using e)
theorem argsRep_len {F : Hp} {pa : Nat → Nat → Addr} {j : Nat} {as : List Av} {us : List V} (h : ArgsRep T F pa j as us) : as.length = us.length := by
  induction h with
  | nil => rfl
  | _ => simp_all
/-- the end of a def, towards its caller -/
theorem exit_rd {G G' : Gh} {H H' : Hp} {n0 m0 : Nat} {s' : Sg} {σ' : St} (R' : Rel T G' s' σ' H') (x : Ext G H n0 m0 G' H' s'.W.length s'.B.length) {op : Bool} {n kr : Nat} {os : List Re} (eo : outs op n s' = some os)
    {own : Addr → Nat} {pa : Nat → Nat → Addr} (ho : ∀ a, own a ≤ 1 → G.own a = own a) (hn : n ≤ n0) (hW : ∀ k, k < n → G.adr k = pa (k + (if op then 1 else 0)) 0) (hB : op = true → G.bdr = pa 0 ∧ 1 ≤ m0) :
    ∃ (own' : Addr → Nat) (pa' : Nat → Nat → Addr), Ex own H own' H' ∧ os.length = n + (if op then 1 else 0) ∧ (∀ j, j < os.length → pa' j 0 = pa j 0) ∧ (op = true → ∀ i, i < m0 → pa' 0 i = pa 0 i) ∧
      (∀ (j : Nat) (r : Re), os[j]? = some r → TopAt T (part own' 0 H') (pa' j) r (part own' (2 * j + 2) H')) ∧ Same (part G'.own 0 H') (part own' 0 H') ∧
      (n ≤ kr → ∀ r, s'.W[kr]? = some r → pa' os.length 0 = G'.adr kr ∧ TopAt T (part own' 0 H') (pa' os.length) r (part own' (2 * os.length + 2) H')) := by
  let off : Nat := if op then 1 else 0
  let ow : Addr → Nat := fun a => if G'.own a = 0 then 0 else if G'.own a % 2 = 1 then (if op = true ∧ 3 ≤ G'.own a then 2 else 1) else
    if G'.own a / 2 - 1 < n then 2 * (G'.own a / 2 - 1 + off) + 2 else if G'.own a / 2 - 1 = kr then 2 * (n + off) + 2 else 1
  have d0 : Same (part G'.own 0 H') (part ow 0 H') := fun a o q => by
    obtain ⟨q1, q2⟩ := part_iff.mp q
    exact part_iff.mpr ⟨by show (if G'.own a = 0 then 0 else _) = 0; rw [if_pos q1], q2⟩
  have dk : ∀ k, k < n → Same (part G'.own (2 * k + 2) H') (part ow (2 * (k + off) + 2) H') := fun k hk a o q => by
    obtain ⟨q1, q2⟩ := part_iff.mp q
    refine part_iff.mpr ⟨?_, q2⟩
    show (if G'.own a = 0 then 0 else if G'.own a % 2 = 1 then _ else if G'.own a / 2 - 1 < n then 2 * (G'.own a / 2 - 1 + off) + 2 else _) = _
    rw [if_neg (by omega), if_neg (by omega), if_pos (by omega)]
    omega
  have dr : n ≤ kr → Same (part G'.own (2 * kr + 2) H') (part ow (2 * (n + off) + 2) H') := fun hk a o q => by
    obtain ⟨q1, q2⟩ := part_iff.mp q
    refine part_iff.mpr ⟨?_, q2⟩
    show (if G'.own a = 0 then 0 else if G'.own a % 2 = 1 then _ else if G'.own a / 2 - 1 < n then _ else if G'.own a / 2 - 1 = kr then 2 * (n + off) + 2 else 1) = _
    rw [if_neg (by omega), if_neg (by omega), if_neg (by omega), if_pos (by omega)]
  have db : op = true → ∀ i, Same (part G'.own (2 * i + 3) H') (part ow 2 H') := fun hop i a o q => by
    obtain ⟨q1, q2⟩ := part_iff.mp q
    refine part_iff.mpr ⟨?_, q2⟩
    show (if G'.own a = 0 then 0 else if G'.own a % 2 = 1 then (if op = true ∧ 3 ≤ G'.own a then 2 else 1) else _) = _
    rw [if_neg (by omega), if_pos (by omega), if_pos ⟨hop, by omega⟩]
  have ex : Ex own H ow H' := fun a o e t => by
    have e1 := ho a t
    obtain ⟨q1, q2⟩ := x.keep a o e (by omega)
    refine ⟨q1, ?_⟩
    rw [e1] at q2
    show (if G'.own a = 0 then 0 else if G'.own a % 2 = 1 then (if op = true ∧ 3 ≤ G'.own a then 2 else 1) else _) = own a
    by_cases hz : own a = 0
    · rw [if_pos (by omega)]; omega
    · rw [if_neg (by omega), if_pos (by omega), if_neg (by omega)]; omega
  -- addresses of the world's cells
  obtain ⟨wa, hwa⟩ := Classical.axiomOfChoice (r := fun (k : Nat) (p : Nat → Addr) => ∀ r, s'.W[k]? = some r → p 0 = G'.adr k ∧ TopAt T (part G'.own 0 H') p r (part G'.own (2 * k + 2) H')) (fun k => by
    cases q : s'.W[k]? with
    | none => exact ⟨z0, fun r e => by cases e⟩
    | some r =>
      obtain ⟨p, e, t⟩ := (R'.wld k r q).top0
      exact ⟨p, fun r' e' => by cases e'; exact ⟨e, t⟩⟩)
  have eoff : (if op = true then 1 else 0) = off := rfl
  unfold outs at eo
  split at eo
  · rename_i hle
    cases op with
    | false =>
      simp only [Bool.false_eq_true, if_false] at eo
      cases eo
      have ol : (s'.W.take n).length = n := by rw [List.length_take]; omega
      refine ⟨ow, fun j => if j < n then wa j else wa kr, ex, by simp [ol], fun j hj => ?_, (fun h => by cases h), fun j r hr => ?_, d0, fun hk r hr => ?_⟩
      · have hj : j < n := by omega
        dsimp only
        rw [if_pos hj]
        have hr : s'.W[j]? = some s'.W[j] := List.getElem?_eq_getElem (by omega)
        rw [(hwa j _ hr).1, x.adr j (by omega), hW j hj]
        rfl
      · have hj : j < n := by
          rcases Nat.lt_or_ge j n with z | z
          · exact z
          · rw [List.getElem?_eq_none (by omega)] at hr; cases hr
        rw [List.getElem?_take_of_lt hj] at hr
        dsimp only
        rw [if_pos hj]
        exact (hwa j r hr).2.mono d0 (dk j hj)
      · rw [ol]
        dsimp only
        rw [if_neg (Nat.lt_irrefl _)]
        exact ⟨(hwa kr r hr).1, (hwa kr r hr).2.mono d0 (dr hk)⟩
    | true =>
      obtain ⟨hb1, hb2⟩ := hB rfl
      simp only [if_true] at eo
      have hbl : m0 ≤ s'.B.length := x.nb
      have fin : ∀ rb : Re, os = rb :: s'.W.take n → TopAt T (part ow 0 H') G'.bdr rb (part ow 2 H') →
          ∃ (own' : Addr → Nat) (pa' : Nat → Nat → Addr), Ex own H own' H' ∧ os.length = n + 1 ∧ (∀ j, j < os.length → pa' j 0 = pa j 0) ∧ (∀ i, i < m0 → pa' 0 i = pa 0 i) ∧
          (∀ (j : Nat) (r : Re), os[j]? = some r → TopAt T (part own' 0 H') (pa' j) r (part own' (2 * j + 2) H')) ∧ Same (part G'.own 0 H') (part own' 0 H') ∧
          (n ≤ kr → ∀ r, s'.W[kr]? = some r → pa' os.length 0 = G'.adr kr ∧ TopAt T (part own' 0 H') (pa' os.length) r (part own' (2 * os.length + 2) H')) := by
        intro rb eos tb
        subst eos
        have ol : (rb :: s'.W.take n).length = n + 1 := by rw [List.length_cons, List.length_take]; omega
        refine ⟨ow, fun j => if j = 0 then G'.bdr else if j < n + 1 then wa (j - 1) else wa kr, ex, ol, fun j hj => ?_, fun i hi => ?_, fun j r hr => ?_, d0, fun hk r hr => ?_⟩
        · cases j with
          | zero =>
            dsimp only
            rw [if_pos rfl, x.bdr 0 (by omega), hb1]
          | succ j =>
            have hj : j < n := by omega
            dsimp only
            rw [if_neg (by omega), if_pos (by omega), Nat.add_sub_cancel]
            have hr : s'.W[j]? = some s'.W[j] := List.getElem?_eq_getElem (by omega)
            rw [(hwa j _ hr).1, x.adr j (by omega), hW j hj]
            rfl
        · dsimp only
          rw [if_pos rfl, x.bdr i hi, hb1]
        · cases j with
          | zero =>
            have : rb = r := by simpa using hr
            subst this
            dsimp only
            rw [if_pos rfl]
            exact tb
          | succ j =>
            have hr : (s'.W.take n)[j]? = some r := by simpa using hr
            have hj : j < n := by
              rcases Nat.lt_or_ge j n with z | z
              · exact z
              · rw [List.getElem?_eq_none (by rw [List.length_take]; omega)] at hr; cases hr
            rw [List.getElem?_take_of_lt hj] at hr
            dsimp only
            rw [if_neg (by omega), if_pos (by omega), Nat.add_sub_cancel]
            exact (hwa j r hr).2.mono d0 (dk j hj)
        · rw [ol]
          dsimp only
          rw [if_neg (by omega), if_neg (Nat.lt_irrefl _)]
          exact ⟨(hwa kr r hr).1, (hwa kr r hr).2.mono d0 (dr hk)⟩
      have fin' : ∀ rb : Re, os = rb :: s'.W.take n → TopAt T (part ow 0 H') G'.bdr rb (part ow 2 H') →
          ∃ (own' : Addr → Nat) (pa' : Nat → Nat → Addr), Ex own H own' H' ∧ os.length = n + (if true = true then 1 else 0) ∧ (∀ j, j < os.length → pa' j 0 = pa j 0) ∧ (true = true → ∀ i, i < m0 → pa' 0 i = pa 0 i) ∧
          (∀ (j : Nat) (r : Re), os[j]? = some r → TopAt T (part own' 0 H') (pa' j) r (part own' (2 * j + 2) H')) ∧ Same (part G'.own 0 H') (part own' 0 H') ∧
          (n ≤ kr → ∀ r, s'.W[kr]? = some r → pa' os.length 0 = G'.adr kr ∧ TopAt T (part own' 0 H') (pa' os.length) r (part own' (2 * os.length + 2) H')) := fun rb e t => by
        obtain ⟨o, p, q1, q2, q3, q4, q5⟩ := fin rb e t
        exact ⟨o, p, q1, q2, q3, fun _ => q4, q5⟩
      split at eo
      · cases eo
      · rename_i r hBr
        split at eo
        · rename_i hc
          cases eo
          rw [Bool.and_eq_true] at hc
          have q := R'.bx 0 r (by rw [hBr]; rfl)
          obtain ⟨p, e, t⟩ := q.top hc.1
          have t2 := t.res
          rw [e] at t2
          exact fin' r rfl (.one hc.2 (t2.mono d0 (db rfl 0) (Nat.le_refl _) fun _ _ => rfl))
        · cases eo
      · rename_i rs hne1 hne2
        cases eo
        refine fin' (.box s'.B) rfl (.box (own := fun a => (G'.own a - 3) / 2) fun i r' hi => ?_)
        refine (R'.bx i r' hi).mono d0 (fun a o q => ?_) (Nat.le_refl _) fun _ _ => rfl
        obtain ⟨q1, q2⟩ := part_iff.mp q
        exact part_iff.mpr ⟨by show (G'.own a - 3) / 2 = i; rw [q1]; omega, db rfl i a o q⟩
  · cases eo
theorem enter_false (as : List Av) : enter false as = ((enter.enterW 0 as).1, [], (enter.enterW 0 as).2) := by
  cases as with
  | nil => rfl
  | cons a as => cases a <;> rfl
theorem enterW_len : ∀ (as : List Av) (k : Nat), (enter.enterW k as).1.length = as.length
  | [], _ => rfl
  | .r r :: as, k => by show ((some (Va.c k)) :: (enter.enterW (k + 1) as).1).length = _; simp [enterW_len as]
  | .d x :: as, k => by show ((some (Va.d x)) :: (enter.enterW k as).1).length = _; simp [enterW_len as]
  | .x x :: as, k => by show ((some (Va.x x)) :: (enter.enterW k as).1).length = _; simp [enterW_len as]
  | .s x :: as, k => by show ((some (Va.s x)) :: (enter.enterW k as).1).length = _; simp [enterW_len as]
/-- a def's entry -/
theorem entry_rd {own : Addr → Nat} {pa : Nat → Nat → Addr} {as : List Av} {us : List V} {H : Hp} {op : Bool} {n : Nat} (ar : ArgsRep T (part own 0 H) pa 0 as us)
    (ht : ∀ (j : Nat) (r : Re), (resL as)[j]? = some r → TopAt T (part own 0 H) (pa j) r (part own (2 * j + 2) H)) (hop : op = true → boxed true as = true) :
    ∃ G, Rel T G ⟨(enter op as).1 ++ List.replicate n none, (enter op as).2.1, (enter op as).2.2⟩ (us.map some ++ List.replicate n none) H ∧ (∀ a, own a ≤ 1 → G.own a = own a) ∧
      (∀ k, k < (enter op as).2.2.length → G.adr k = pa (k + (if op then 1 else 0)) 0) ∧ (op = true → G.bdr = pa 0) ∧
      (enter op as).2.2.length + (if op then 1 else 0) = (resL as).length ∧ (∀ r, op = true → (resL as)[0]? = some r → r.size = (enter op as).2.1.length) := by
  cases op with
  | false =>
    rw [enter_false]
    refine ⟨⟨fun a => if own a % 2 = 1 then 1 else own a, fun k => pa k 0, z0⟩, ⟨?_, ?_, ?_, ?_⟩, fun a h => ?_, fun k _ => rfl, (fun h => by cases h), by simp [enterW_res], (fun r h => by cases h)⟩
    · show ((enter.enterW 0 as).1 ++ List.replicate n none).length = _
      simp [enterW_len, argsRep_len ar]
    · have e0 : part (fun a => if own a % 2 = 1 then 1 else own a) 0 H = part own 0 H := by
        funext a
        unfold part
        by_cases h : own a = 0
        · rw [if_pos h, if_pos (by show (if own a % 2 = 1 then 1 else own a) = 0; rw [if_neg (by omega)]; exact h)]
        · rw [if_neg h, if_neg (by intro z; apply h; revert z; show (if own a % 2 = 1 then 1 else own a) = 0 → _; split <;> omega)]
      show ∀ (i : Nat) (v : Va), ((enter.enterW 0 as).1 ++ List.replicate n none)[i]? = some (some v) → _
      rw [e0]
      refine start_slots (enterW_rep ar 0 (fun i _ => by rw [Nat.zero_add]) ?_)
      show 0 + _ ≤ (enter.enterW 0 as).2.length
      rw [enterW_res]; omega
    · intro k r e
      have e : (enter.enterW 0 as).2[k]? = some r := e
      rw [enterW_res] at e
      refine (ht k r e).res.mono (fun a o q => ?_) (fun a o q => ?_) (Nat.le_refl _) fun _ _ => rfl
      · obtain ⟨q1, q2⟩ := part_iff.mp q
        exact part_iff.mpr ⟨by show (if own a % 2 = 1 then 1 else own a) = 0; rw [if_neg (by omega)]; exact q1, q2⟩
      · obtain ⟨q1, q2⟩ := part_iff.mp q
        exact part_iff.mpr ⟨by show (if own a % 2 = 1 then 1 else own a) = _; rw [if_neg (by omega)]; exact q1, q2⟩
    · intro k r e
      have e : ([] : List Re)[k]? = some r := e
      simp at e
    · show (if own a % 2 = 1 then 1 else own a) = own a
      split <;> omega
  | true =>
    have hb := hop rfl
    cases as with
    | nil => cases hb
    | cons a as =>
      cases a with
      | d x => cases hb
      | x k => cases hb
      | s k => cases hb
      | r r =>
        cases ar with
        | r ar =>
          rename_i us
          obtain ⟨sp, hsp⟩ := top_open (ht 0 r rfl)
          have e0 : part (fun a => if own a = 0 then 0 else if own a % 2 = 1 then 1 else if own a = 2 then 2 * sp a + 3 else own a - 2) 0 H = part own 0 H := by
            funext a
            unfold part
            by_cases h : own a = 0
            · rw [if_pos h, if_pos (by dsimp only; rw [if_pos h])]
            · rw [if_neg h, if_neg (by dsimp only; rw [if_neg h]; split; decide; split <;> omega)]
          have hlb : 1 ≤ (openB r).length ∨ (openB r) = [] := by
            cases h : openB r with
            | nil => exact .inr rfl
            | cons _ _ => exact .inl (by simp)
          refine ⟨⟨fun a => if own a = 0 then 0 else if own a % 2 = 1 then 1 else if own a = 2 then 2 * sp a + 3 else own a - 2, fun k => pa (k + 1) 0, pa 0⟩, ⟨?_, ?_, ?_, ?_⟩, fun a h => ?_, fun k _ => rfl, fun _ => rfl, ?_, fun r' _ hr => ?_⟩
          · show (((some (Va.b 0)) :: (enter.enterW 0 as).1) ++ List.replicate n none).length = _
            simp [enterW_len, argsRep_len ar]
          · show ∀ (i : Nat) (v : Va), (((some (Va.b 0)) :: (enter.enterW 0 as).1) ++ List.replicate n none)[i]? = some (some v) → _
            rw [e0]
            have h1 : 0 < (openB r).length := by
              rcases hlb with z | z
              · exact z
              · rw [show boxed true (Av.r r :: as) = !(openB r).isEmpty from rfl, z] at hb; cases hb
            have q := enterW_rep (ca := fun k => pa (k + 1) 0) (ba := pa 0) (nc := (enter.enterW 0 as).2.length) (nb := (openB r).length) ar 0 (fun i _ => by (try dsimp only); congr 1; omega) (by rw [enterW_res]; omega)
            exact start_slots (.cons ⟨.b 0, rfl, h1, rfl⟩ q)
          · intro k r' e
            have e : (enter.enterW 0 as).2[k]? = some r' := e
            rw [enterW_res] at e
            refine (ht (k + 1) r' e).res.mono (by rw [e0]; exact Same.refl _) (fun a o q => ?_) (Nat.le_refl _) fun _ _ => rfl
            obtain ⟨q1, q2⟩ := part_iff.mp q
            refine part_iff.mpr ⟨?_, q2⟩
            dsimp only
            rw [if_neg (by omega), if_neg (by omega), if_neg (by omega)]
            omega
          · intro k r' e
            have e : (openB r)[k]? = some r' := e
            refine (hsp k r' e).mono (by rw [e0]; exact Same.refl _) (fun a o q => ?_) (Nat.le_refl _) fun _ _ => rfl
            obtain ⟨q1, q2⟩ := part_iff.mp q
            obtain ⟨q3, q4⟩ := part_iff.mp q2
            refine part_iff.mpr ⟨?_, q4⟩
            dsimp only
            rw [if_neg (by omega), if_neg (by omega), if_pos (by omega), q1]
          · dsimp only
            by_cases hz : own a = 0
            · rw [if_pos hz]; omega
            · rw [if_neg hz, if_pos (by omega)]; omega
          · show (enter.enterW 0 as).2.length + 1 = (resL as).length + 1
            rw [enterW_res]
          · have : r = r' := by simpa [resL] using hr
            subst this
            show r.size = (openB r).length
            cases r <;> rfl
/-- THE RULE: a def whose body is the code's keeps the code's promise -/
theorem def_ok {P : Program} {w : World} {mg : Str → Option Value} {base : Heap} {x qual : Str} {st : Stmt} {f : Addr} {fd : FuncData} {N ps : List Str} {k : Nat} {Φ : Tbl} {gl : Nat → PyData} {code : Cd} {op : Bool} (F : Fun T.K x qual st f fd) (S : FnScope N ps (defScope st)) (hpn : ps.length ≤ N.length)
    (hb : ∀ (cdv : Value) (A : Around) (outer : List Env) (s : Shared) (H : Hp) (E : XK), Room k (A.deeper (PyProof.Rows.envOfC qual (defScope st) s.heap.objs.size f cdv)) →
      PSs (cxOf (L2.CX P w) P w T.K mg base N qual (defScope st) f cdv A outer s H E) (defBody st) (tS T (fun cls d _ H' => E cls d H') (semS Φ gl code))) :
    FnOk P w T.K mg base (L2.CX P w) (k + 1) f fd ps (spF T op (defF Φ gl ps.length N.length op code)) := by
  refine F.okX S (fun vs H Q E h => ?_) fun cdv A outer s H vs Q E hr h => ?_
  · obtain ⟨own, pa, as, ar, _, h⟩ := h
    by_cases hc : as.length = ps.length ∧ ps.length ≤ N.length ∧ (op = true → boxed true as = true)
    · rw [← argsRep_len ar]; exact hc.1
    · rw [show defF Φ gl ps.length N.length op code as = .stuck from if_neg hc] at h
      exact h.elim
  · refine ⟨_, hb cdv A outer s H E hr, ?_⟩
    obtain ⟨own, pa, as, ar, ht, h⟩ := h
    by_cases hc : as.length = ps.length ∧ ps.length ≤ N.length ∧ (op = true → boxed true as = true)
    · rw [show defF Φ gl ps.length N.length op code as = _ from if_pos hc] at h
      obtain ⟨h1, h2, h3⟩ := hc
      have hl := argsRep_len ar
      obtain ⟨G, R, g1, g2, g3, g4, g5⟩ := entry_rd (n := N.length - as.length) ar ht h3
      have est : L2.start N vs = vs.map some ++ List.replicate (N.length - as.length) none := by unfold L2.start; rw [hl]
      rw [est]
      refine ⟨_, G, R, ?_⟩
      have hm0 : op = true → 1 ≤ (enter op as).2.1.length := fun e => by
        have hb := h3 e
        subst e
        cases as with
        | nil => cases hb
        | cons a as => cases a with
          | r r =>
            show 1 ≤ (openB r).length
            cases q : openB r with
            | nil => rw [show boxed true (Av.r r :: as) = !(openB r).isEmpty from rfl, q] at hb; cases hb
            | cons _ _ => simp
          | d _ => cases hb
          | x _ => cases hb
          | s _ => cases hb
      -- the end with a value
      have fin : ∀ (s' : Sg) (v : Va) (G' : Gh) (H' : Hp) (σ' : St) (u : V), Ext G H (enter op as).2.2.length (enter op as).2.1.length G' H' s'.W.length s'.B.length → Rel T G' s' σ' H' → vrep T s' G' H' v u →
          (match leave op (enter op as).2.2.length v s' with
            | .ok v outs => outs.length = (resL as).length ∧ ∀ own' pa' H' u, Ex own H own' H' → (∀ (j : Nat) (r : Re), (resL as)[j]? = some r → pa' j 0 = pa j 0 ∧ (op = true → j = 0 → ∀ i, i < r.size → pa' j i = pa j i)) →
                (∀ (j : Nat) (r : Re), outs[j]? = some r → TopAt T (part own' 0 H') (pa' j) r (part own' (2 * j + 2) H')) → OutV T own' pa' H' (resL as).length v u → Q u H'
            | .err c outs => outs.length = (resL as).length ∧ ∀ own' (pa' : Nat → Nat → Addr) H', Ex own H own' H' → (∀ (j : Nat) (r : Re), (resL as)[j]? = some r → pa' j 0 = pa j 0 ∧ (op = true → j = 0 → ∀ i, i < r.size → pa' j i = pa j i)) →
                (∀ (j : Nat) (r : Re), outs[j]? = some r → TopAt T (part own' 0 H') (pa' j) r (part own' (2 * j + 2) H')) → E (.ref (T.exc c)) none H'
            | .stuck => False) → Q u H' := by
        intro s' v G' H' σ' u x R' rv hq
        cases eo : outs op (enter op as).2.2.length s' with
        | none =>
          have el : leave op (enter op as).2.2.length v s' = .stuck := by unfold leave; rw [eo]
          rw [el] at hq
          exact hq.elim
        | some os =>
          have agree : ∀ {pa' : Nat → Nat → Addr}, (∀ j, j < os.length → pa' j 0 = pa j 0) → (op = true → ∀ i, i < (enter op as).2.1.length → pa' 0 i = pa 0 i) → os.length = (enter op as).2.2.length + (if op then 1 else 0) → (∀ (j : Nat) (r : Re), (resL as)[j]? = some r → pa' j 0 = pa j 0 ∧ (op = true → j = 0 → ∀ i, i < r.size → pa' j i = pa j i)) := by
            intro pa' a1 a2 a3 j r hr
            have hj : j < os.length := by
              rw [a3, g4]
              rcases Nat.lt_or_ge j (resL as).length with z | z
              · exact z
              · rw [List.getElem?_eq_none z] at hr; cases hr
            refine ⟨a1 j hj, fun ho hj0 i hi => ?_⟩
            subst hj0
            exact a2 ho i (by rw [← g5 r ho hr]; exact hi)
          cases ey : solid s' v with
          | some y =>
            have el : leave op (enter op as).2.2.length v s' = .ok (.d y) os := by unfold leave; rw [eo]; dsimp only; rw [ey]
            rw [el] at hq
            obtain ⟨hq1, hq2⟩ := hq
            obtain ⟨ow, pa', x1, x2, x3, x4, x5, x6, _⟩ := exit_rd (kr := 0) R' x eo g1 (Nat.le_refl _) g2 fun ho => ⟨g3 ho, hm0 ho⟩
            exact hq2 ow pa' H' u x1 (agree x3 x4 x2) x5 (dp_mono x6 _ _ (vrep_solid R' rv ey))
          | none =>
            have no : ∀ {v : Va}, (∀ k, v ≠ .c k) → solid s' v = none → leave op (enter op as).2.2.length v s' = .stuck := fun {v} hv ey => by
              unfold leave; rw [eo]; dsimp only; rw [ey]
              cases v with
              | c k => exact absurd rfl (hv k)
              | _ => rfl
            cases v with
            | c k =>
              by_cases hk : (enter op as).2.2.length ≤ k
              · cases er : s'.W[k]? with
                | none =>
                  have el : leave op (enter op as).2.2.length (.c k) s' = .stuck := by unfold leave; rw [eo]; dsimp only; rw [ey]; dsimp only; rw [if_pos hk, er]
                  rw [el] at hq
                  exact hq.elim
                | some r =>
                  have el : leave op (enter op as).2.2.length (.c k) s' = .ok (.r r) os := by unfold leave; rw [eo]; dsimp only; rw [ey]; dsimp only; rw [if_pos hk, er]
                  rw [el] at hq
                  obtain ⟨hq1, hq2⟩ := hq
                  obtain ⟨ow, pa', x1, x2, x3, x4, x5, x6, x7⟩ := exit_rd (kr := k) R' x eo g1 (Nat.le_refl _) g2 fun ho => ⟨g3 ho, hm0 ho⟩
                  obtain ⟨y1, y2⟩ := x7 hk r er
                  rw [hq1] at y1 y2
                  exact hq2 ow pa' H' u x1 (agree x3 x4 x2) x5 ⟨by rw [rv.2, y1], y2⟩
              · have el : leave op (enter op as).2.2.length (.c k) s' = .stuck := by unfold leave; rw [eo]; dsimp only; rw [ey]; dsimp only; rw [if_neg hk]
                rw [el] at hq
                exact hq.elim
            | d y => cases ey
            | b j => rw [no (fun _ h => by cases h) ey] at hq; exact hq.elim
            | x j => rw [no (fun _ h => by cases h) ey] at hq; exact hq.elim
            | s j => rw [no (fun _ h => by cases h) ey] at hq; exact hq.elim
      dsimp only
      generalize hs : semS Φ gl code _ = rs at h
      cases rs with
      | stuck => exact h.elim
      | err c s' =>
        intro G' H' σ' x R'
        cases eo : outs op (enter op as).2.2.length s' with
        | none => dsimp only at h; rw [eo] at h; exact h.elim
        | some os =>
          dsimp only at h
          rw [eo] at h
          obtain ⟨hq1, hq2⟩ := h
          obtain ⟨ow, pa', x1, x2, x3, x4, x5, x6, _⟩ := exit_rd (kr := 0) R' x eo g1 (Nat.le_refl _) g2 fun ho => ⟨g3 ho, hm0 ho⟩
          refine hq2 ow pa' H' x1 (fun j r hr => ?_) x5
          have hj : j < os.length := by
            rw [x2, g4]
            rcases Nat.lt_or_ge j (resL as).length with z | z
            · exact z
            · rw [List.getElem?_eq_none z] at hr; cases hr
          refine ⟨x3 j hj, fun ho hj0 i hi => ?_⟩
          subst hj0
          exact x4 ho i (by rw [← g5 r ho hr]; exact hi)
      | ok fl s' =>
        cases fl with
        | next => exact fun G' H' σ' x R' => fin s' (.d .none) G' H' σ' .non x R' .non h
        | ret v => exact fun G' H' σ' x R' u ru => fin s' v G' H' σ' u x R' ru h
        | brk => exact h.elim
        | cont => exact h.elim
    · rw [show defF Φ gl ps.length N.length op code as = .stuck from if_neg hc] at h
      exact h.elim
end
end BC

/-! BChk: a code stands for a text: a check, and what it is worth. -/
namespace BC
open PySem L2
/-- names: slots, defs, constants, own errors -/
structure Tb where
  N : List Str
  fn : List Str
  gl : List Str
  xc : List Str
def notStar : Expr → Bool
  | .Starred .. => false
  | _ => true
def isPlain : Expr → Bool
  | .Slice .. => false
  | _ => true
def isGen : Expr → Bool
  | .UnaryOp .Not .. => false
  | .BoolOp .. => false
  | .Compare .. => false
  | .IfExp .. => false
  | _ => true
def notSet : Expr → Bool
  | .Set .. => false
  | _ => true
def notComp : Expr → Bool
  | .ListComp .. => false
  | .SetComp .. => false
  | .DictComp .. => false
  | _ => true
def notTup : Expr → Bool
  | .Tuple .. => false
  | _ => true
def isVar (B : Tb) (sc : Scope) (i : Nat) (x : Str) : Bool :=
  decide (B.N[i]? = some x) && (match sc.names.lookup x with
    | some .local => true
    | some .cell => true
    | some .free => true
    | _ => false) && !(x == ("__debug__" : Str)) && !(x == ("__classdict__" : Str))
def isGl (sc : Scope) (x : Str) : Bool := decide (sc.names.lookup x = some .globalImplicit) && !(x == ("__debug__" : Str))
def isTg (B : Tb) (sc : Scope) (own : Str → Bool) (i : Nat) (x : Str) : Bool :=
  decide (B.N[i]? = some x) && (decide (sc.names.lookup x = some .local) || (decide (sc.names.lookup x = some .cell) && own x))
def isTgs (B : Tb) (sc : Scope) (own : Str → Bool) : List Nat → List Expr → Bool
  | [], [] => true
  | i :: is, .Name x _ :: es => isTg B sc own i x && isTgs B sc own is es
  | _, _ => false
def isTgt (B : Tb) (sc : Scope) (own : Str → Bool) (is : List Nat) (e : Expr) : Bool := match is, e with
  | [i], .Name x _ => isTg B sc own i x
  | [_], _ => false
  | is, .Tuple es _ _ => isTgs B sc own is es
  | _, _ => false
def cstOk : PyData → Const → Bool
  | .int i, .int j => decide (i = j)
  | .bool i, .bool j => decide (i = j)
  | .none, .none => true
  | .str i, .str j => decide (i = j)
  | _, _ => false
def bfName : Bf → Str
  | .len => "len" | .abs => "abs" | .min2 => "min" | .max2 => "max" | .min1 => "min" | .max1 => "max" | .sum => "sum" | .sorted => "sorted"
  | .tuple => "tuple" | .list => "list" | .int => "int" | .str => "str" | .all => "all" | _ => ""
def bfHas : Bf → Bool
  | .len | .abs | .min2 | .max2 | .min1 | .max1 | .sum | .sorted | .tuple | .list | .int | .str | .all => true
  | _ => false
def bnames : List Str := ["len", "abs", "min", "max", "sum", "sorted", "tuple", "list", "int", "str", "all", "range", "isinstance", "bool", "dict", "ValueError"]
def Xe.isL : Xe → Bool
  | .nil | .cons .. => true
  | _ => false
def Xe.isS : Xe → Bool
  | .sseq .. | .sfl .. | .srng1 .. | .srng2 .. | .sstr .. => true
  | _ => false
def Xe.isV (c : Xe) : Bool := !c.isL && !c.isS
def ownp (B : Tb) (own : List Nat) : List (Str × Nat) := own.map fun i => ((B.N[i]?).getD "", i)
theorem ownp_ix (B : Tb) (own : List Nat) : (ownp B own).map (·.2) = own := by
  unfold ownp; rw [List.map_map]; exact List.map_id' _
def isOp (o : Co) (op : CmpOp) : Bool := decide (op = coOp o)
def optE : Option Expr → List Expr
  | none => []
  | some e => [e]
def chk (B : Tb) : Xe → Scope → List Expr → Bool
  | .nil, _, es => match es with
    | [] => true
    | _ => false
  | .cons a r, sc, es => match es with
    | e :: es => notStar e && a.isV && r.isL && chk B a sc [e] && chk B r sc es
    | _ => false
  | .var i, sc, es => match es with
    | [.Name x _] => isVar B sc i x
    | _ => false
  | .frz i, sc, es => match es with
    | [.Name x _] => isVar B sc i x
    | _ => false
  | .cst d, _, es => match es with
    | [.Constant c _ _] => cstOk d c
    | _ => false
  | .glob g, sc, es => match es with
    | [.Name x _] => isGl sc x && decide (B.gl[g]? = some x)
    | _ => false
  | .neg a, sc, es => match es with
    | [.UnaryOp .USub e _] => a.isV && chk B a sc [e]
    | _ => false
  | .bin o a b, sc, es => match es with
    | [.BinOp x op y _] => decide (op = boOp o) && a.isV && b.isV && chk B a sc [x] && chk B b sc [y]
    | _ => false
  | .cmp o a b, sc, es => match es with
    | [.Compare x [op] [y] _] => isOp o op && a.isV && b.isV && !behindInMarks op y && chk B a sc [x] && chk B b sc [y]
    | _ => false
  | .chain o p a b c, sc, es => match es with
    | [.Compare x [op, op2] [y, z] _] => isOp o op && isOp p op2 && a.isV && b.isV && c.isV && !lastMarks [op, op2] [y, z] && chk B a sc [x] && chk B b sc [y] && chk B c sc [z]
    | _ => false
  | .isN a, sc, es => match es with
    | [.Compare x [.Is] [.Constant .none _ _] _] => a.isV && chk B a sc [x]
    | _ => false
  | .isNot a, sc, es => match es with
    | [.Compare x [.IsNot] [.Constant .none _ _] _] => a.isV && chk B a sc [x]
    | _ => false
  | .and a b, sc, es => match es with
    | [.BoolOp .And (x :: y :: r) p] => a.isV && b.isV && chk B a sc [x] && chk B b sc [.BoolOp .And (y :: r) p]
    | _ => false
  | .or a b, sc, es => match es with
    | [.BoolOp .Or (x :: y :: r) p] => a.isV && b.isV && chk B a sc [x] && chk B b sc [.BoolOp .Or (y :: r) p]
    | _ => false
  | .one a, sc, es => match es with
    | [.BoolOp _ [x] _] => a.isV && chk B a sc [x]
    | _ => false
  | .not a, sc, es => match es with
    | [.UnaryOp .Not x _] => a.isV && chk B a sc [x]
    | _ => false
  | .ifx t a b, sc, es => match es with
    | [.IfExp x y z _] => t.isV && a.isV && b.isV && chk B t sc [x] && chk B a sc [y] && chk B b sc [z]
    | _ => false
  | .tup as, sc, es => match es with
    | [.Tuple xs _ _] => as.isL && chk B as sc xs
    | _ => false
  | .lst as, sc, es => match es with
    | [.List xs _] => as.isL && chk B as sc xs
    | _ => false
  | .idx a i, sc, es => match es with
    | [.Subscript x y _] => a.isV && i.isV && isPlain y && chk B a sc [x] && chk B i sc [y]
    | _ => false
  | .slice a lo hi, sc, es => match es with
    | [.Subscript x (.Slice l h none _) _] => a.isV && chk B a sc [x] && (match l with
        | none => lo.isNil
        | some _ => lo.isV) && (match h with
        | none => hi.isNil
        | some _ => hi.isV) && chk B lo sc (optE l) && chk B hi sc (optE h)
    | _ => false
  | .call f m as, sc, es => match es with
    | [.Call (.Name x _) (e :: es) [] _] => decide (m = 0) && as.isL && isGl sc x && decide (B.fn[f]? = some x) && (e :: es).all notStar && chk B as sc (e :: es)
    | _ => false
  | .bf f as, sc, es => match es with
    | [.Call (.Name x _) (e :: es) [] _] => bfHas f && as.isL && isGl sc x && decide (x = bfName f) && (e :: es).all notStar && chk B as sc (e :: es)
    | _ => false
  | .isi a t, sc, es => match es with
    | [.Call (.Name x _) [e, .Name y _] [] _] => decide (x = ("isinstance" : Str)) && isGl sc x && isGl sc y && decide (t < 6) && decide (y = Str.ofString (tyName t)) && notStar e && a.isV && chk B a sc [e]
    | _ => false
  | .pop i, sc, es => match es with
    | [.Call (.Attribute (.Name x _) m p2) [] [] p3] => decide (m = ("pop" : Str)) && isVar B sc i x && (p2.endLine == p3.line)
    | _ => false
  | .sseq a, sc, es => match es with
    | [e] => a.isV && chk B a sc [e]
    | _ => false
  | .sstr a, sc, es => match es with
    | [e] => a.isV && chk B a sc [e]
    | _ => false
  | .srng1 a, sc, es => match es with
    | [.Call (.Name x _) [e] [] _] => decide (x = ("range" : Str)) && isGl sc x && notStar e && a.isV && chk B a sc [e]
    | _ => false
  | .srng2 a b, sc, es => match es with
    | [.Call (.Name x _) [e, e2] [] _] => decide (x = ("range" : Str)) && isGl sc x && notStar e && notStar e2 && a.isV && b.isV && chk B a sc [e] && chk B b sc [e2]
    | _ => false
  | .comp src tg own cond elt, sc, es => match es with
    | [.ListComp x [⟨tge, it, ifs, n⟩] scope _] => decide (n = 0) && notSet it && src.isS && chk B src sc [it] && (tg.all fun i => decide (i ∈ own)) && blkC B.N sc scope (ownp B own) &&
        isTgt B (relS scope sc) (fun y => scope.names.lookup y == some .cell) tg tge &&
        (match ifs with
          | [] => cond.isNil
          | [_] => cond.isV
          | _ => false) && chk B cond (relS scope sc) ifs && elt.isV && chk B elt (relS scope sc) [x]
    | _ => false
  | _, _, _ => false
structure Has (X : Cx) (T : Tn) (W : WX) (Φ : Tbl) (gl : Nat → PyData) (B : Tb) (sc : Scope) : Prop where
  K : X.K = T.K
  N : X.N = B.N
  nd : B.N.Nodup
  sc : X.env.scope = sc
  calm : X.calm = true
  un : X.A.units + 64 < cLine
  tk : Takes X W
  fn : ∀ f x, B.fn[f]? = some x → ∃ k a fd ps, FnOk X.prog X.w X.K X.mg X.base (L2.CX X.prog X.w) k a fd ps (spF T false (Φ f)) ∧ Room k X.A ∧ X.mg x = some (.ref a) ∧ PySem.W.keepIn X.K (.ref a) = true ∧ Binds X.K fd ps []
  gl : ∀ g x, B.gl[g]? = some x → ∃ v u, X.mg x = some u ∧ RelV v u ∧ ∀ F, Dx T.K F v (gl g)
  xc : ∀ c x, B.xc[c]? = some x → XcOk X T c x
  bt : ∀ x ∈ bnames, X.mg x = none
structure SV (X : Cx) (T : Tn) (W : WX) (f : M (List Va)) (e : Expr) : Prop where
  pe : PE X e (tE T W f)
  pt : PT X e (tT T W fun s => one1 (f s) tru)
section
variable {X : Cx} {T : Tn} {W : WX} {Φ : Tbl} {gl : Nat → PyData} {B : Tb} {sc : Scope}
theorem star1 {e : Expr} {es : List Expr} {env : Env} (h : notStar e = true) : starEach (e :: es) env = (false, eval e env) :: starEach es env := by
  cases e <;> first | rfl | cases h
theorem starP {pos : Pos} {env : Env} : ∀ {es : List Expr}, es.all notStar = true → (backTo pos (starEach es env)).any (·.1) = false
  | [], _ => rfl
  | e :: es, h => by
    simp only [List.all_cons, Bool.and_eq_true] at h
    rw [star1 h.1]
    show (false || (backTo pos (starEach es env)).any (·.1)) = false
    rw [starP h.2]; rfl
theorem plain_ix {e : Expr} (h : isPlain e = true) : PlainIx e := by
  intro o i
  cases e <;> first | rfl | cases h
theorem gen_true {e : Expr} {env : Env} (h : isGen e = true) : ∀ whole, isTrue e env whole = (do let v ← whole; standAt e.pos; holding [v] (truthy v)) := by
  intro whole
  cases e with
  | UnaryOp op x p => cases op <;> first | rfl | cases h
  | _ => first | rfl | cases h
theorem set_not {e : Expr} {env : Env} (h : notSet e = true) : ∀ x, foldedSetIterable e env x = pure x := by
  intro x
  cases e <;> first | rfl | cases h
theorem SV.gen {f : M (List Va)} {e : Expr} (hK : X.K = T.K) (pe : PE X e (tE T W f)) (h : isGen e = true) : SV X T W f e := ⟨pe, t_truth hK pe (gen_true h)⟩
theorem isVar_vis {i : Nat} {x : Str} (H : Has X T W Φ gl B sc) (h : isVar B sc i x = true) : X.N[i]? = some x ∧ Vis X.env.scope x ∧ (x == ("__debug__" : Str)) = false ∧ (x == ("__classdict__" : Str)) = false := by
  unfold isVar at h
  simp only [Bool.and_eq_true, decide_eq_true_eq, Bool.not_eq_true'] at h
  obtain ⟨⟨⟨h1, h2⟩, h3⟩, h4⟩ := h
  refine ⟨by rw [H.N]; exact h1, ?_, h3, h4⟩
  rw [H.sc]
  unfold Vis
  split at h2 <;> simp_all
theorem isGl_gl {x : Str} (H : Has X T W Φ gl B sc) (h : isGl sc x = true) : Gl X x ∧ (x == ("__debug__" : Str)) = false := by
  unfold isGl at h
  simp only [Bool.and_eq_true, decide_eq_true_eq, Bool.not_eq_true'] at h
  exact ⟨by show X.env.scope.names.lookup x = _; rw [H.sc]; exact h.1, h.2⟩
theorem isTg_nm {i : Nat} {x : Str} {own : Str → Bool} (hN : X.N = B.N) (hs : X.env.scope = sc) (ho : ∀ x, own x = true → X.fn x = true) (h : isTg B sc own i x = true) : Nm X i x := by
  unfold isTg at h
  simp only [Bool.and_eq_true, Bool.or_eq_true, decide_eq_true_eq] at h
  obtain ⟨h1, h2⟩ := h
  refine ⟨by rw [hN]; exact h1, ?_, ?_⟩
  · rw [hs]
    rcases h2 with h | h
    · exact .inl h
    · exact .inr h.1
  · rw [hs]
    rcases h2 with h | h
    · exact .inr h
    · exact .inl (ho _ h.2)
theorem isTgs_nms {own : Str → Bool} (hN : X.N = B.N) (hs : X.env.scope = sc) (ho : ∀ x, own x = true → X.fn x = true) : ∀ {is : List Nat} {es : List Expr}, isTgs B sc own is es = true → Nms X is es
  | [], [], _ => .nil
  | [], _ :: _, h => by cases h
  | _ :: _, [], h => by cases h
  | i :: is, e :: es, h => by
    cases e with
    | Name x p =>
      unfold isTgs at h
      rw [Bool.and_eq_true] at h
      exact .cons (isTg_nm hN hs ho h.1) (isTgs_nms hN hs ho h.2)
    | _ => cases h
theorem isTgt_of {own : Str → Bool} {is : List Nat} {e : Expr} (hN : X.N = B.N) (hs : X.env.scope = sc) (ho : ∀ x, own x = true → X.fn x = true) (h : isTgt B sc own is e = true) :
    (∃ i x pos, is = [i] ∧ e = .Name x pos ∧ Nm X i x) ∨ (∃ es k pos, is.length ≠ 1 ∧ e = .Tuple es k pos ∧ Nms X is es) := by
  unfold isTgt at h
  split at h
  · exact .inl ⟨_, _, _, rfl, rfl, isTg_nm hN hs ho h⟩
  · cases h
  · rename_i hn
    refine .inr ⟨_, _, _, ?_, rfl, isTgs_nms hN hs ho h⟩
    intro hl
    match is, hl with
    | [i], _ => exact hn i rfl
  · cases h
theorem isi_eq (t : Nat) (ht : t < 6) (x : Va) (s : Sg) : (match peek s x with
      | some d => boolO (isiD d t) s
      | none => .stuck) = boolO (isiV x t s) s := by
  unfold isiV
  cases x with
  | x n =>
    show Rs.stuck = boolO (isiX n t) s
    unfold isiX
    rw [if_neg (by omega), if_neg (by omega)]; rfl
  | d y => rfl
  | c k => show _ = boolO (match peek s (.c k) with | some x => isiD x t | none => none) s; cases peek s (.c k) <;> rfl
  | b k => rfl
  | s ns => rfl

def Xe.isB : Xe → Bool
  | .and .. | .or .. | .one .. => true
  | _ => false
structure COk (X : Cx) (T : Tn) (W : WX) (Φ : Tbl) (gl : Nat → PyData) (c : Xe) (es : List Expr) : Prop where
  v : c.isV = true → ∃ e, es = [e] ∧ SV X T W (sem Φ gl c) e
  l : c.isL = true → PA X es (tL T W (sem Φ gl c))
  s : c.isS = true → ∀ tg, ∃ e, es = [e] ∧ PI X tg e (tI T W (sem Φ gl c))
  w : c.isB = true → ∃ e, es = [e] ∧ PW X e (tT T W fun s => one1 (sem Φ gl c s) tru)
theorem noB {b : Bool} {p : Prop} (h : b = false) (h' : b = true) : p := by rw [h] at h'; cases h'
theorem COk.val {c : Xe} {e : Expr} (h : SV X T W (sem Φ gl c) e) (hl : c.isL = false) (hs : c.isS = false) (hb : c.isB = false) : COk X T W Φ gl c [e] :=
  ⟨fun _ => ⟨e, rfl, h⟩, noB hl, noB hs, noB hb⟩
theorem COk.boo {c : Xe} {e : Expr} (h : PE X e (tE T W (sem Φ gl c))) (w : PW X e (tT T W fun s => one1 (sem Φ gl c s) tru)) (hl : c.isL = false) (hs : c.isS = false) : COk X T W Φ gl c [e] :=
  ⟨fun _ => ⟨e, rfl, h, w.pt⟩, noB hl, noB hs, fun _ => ⟨e, rfl, w⟩⟩
theorem COk.lis {c : Xe} {es : List Expr} (h : PA X es (tL T W (sem Φ gl c))) (hv : c.isV = false) (hs : c.isS = false) (hb : c.isB = false) : COk X T W Φ gl c es :=
  ⟨noB hv, fun _ => h, noB hs, noB hb⟩
theorem COk.src {c : Xe} {e : Expr} (h : ∀ tg, PI X tg e (tI T W (sem Φ gl c))) (hv : c.isV = false) (hl : c.isL = false) (hb : c.isB = false) : COk X T W Φ gl c [e] :=
  ⟨noB hv, noB hl, fun _ tg => ⟨e, rfl, h tg⟩, noB hb⟩
theorem COk.one {c : Xe} {e : Expr} (h : COk X T W Φ gl c [e]) (hv : c.isV = true) : SV X T W (sem Φ gl c) e := by
  obtain ⟨e', q, h⟩ := h.v hv
  cases q
  exact h
theorem bf_ok (H : Has X T W Φ gl B sc) {f : Bf} (hf : bfHas f = true) {e : Expr} {es : List Expr} {fa : M (List Va)} {p pos : Pos} (hg : Gl X (bfName f)) (hd : (bfName f == ("__debug__" : Str)) = false) (ha : PA X (e :: es) (tL T W fa)) (hs : starEach (e :: es) X.env = (false, eval e X.env) :: starEach es X.env) (hpl : (backTo pos (starEach es X.env)).any (·.1) = false) :
    PE X (.Call (.Name (bfName f) p) (e :: es) [] pos) (tE T W fun s => (fa s).bind fun vs s => match peeks s vs with
      | some xs => datO (bfD f xs) s
      | none => .stuck) := by
  have bt : X.mg (bfName f) = none := H.bt _ (by cases f <;> first | (cases hf; done) | decide)
  cases f <;> first
    | (cases hf; done)
    | exact s_bf H.K b_len hg bt (by decide +kernel) ha (by decide) hd hs hpl
    | exact s_bf H.K b_abs hg bt (by decide +kernel) ha (by decide) hd hs hpl
    | exact s_bf H.K (b_min2 H.calm) hg bt (by decide +kernel) ha (by decide) hd hs hpl
    | exact s_bf H.K (b_max2 H.calm) hg bt (by decide +kernel) ha (by decide) hd hs hpl
    | exact s_bf H.K (b_min1 H.calm) hg bt (by decide +kernel) ha (by decide) hd hs hpl
    | exact s_bf H.K (b_max1 H.calm) hg bt (by decide +kernel) ha (by decide) hd hs hpl
    | exact s_bf H.K (b_sum H.calm) hg bt (by decide +kernel) ha (by decide) hd hs hpl
    | exact s_bf H.K b_sorted hg bt (by decide +kernel) ha (by decide) hd hs hpl
    | exact s_bf H.K (b_all H.calm) hg bt (by decide +kernel) ha (by decide) hd hs hpl
    | exact s_bfT H.K b_tuple hg bt (by decide +kernel) ha (by decide) hd hs hpl
    | exact s_bfT H.K b_list hg bt (by decide +kernel) ha (by decide) hd hs hpl
    | exact s_bfT H.K b_int hg bt (by decide +kernel) ha (by decide) hd hs hpl
    | exact s_bfT H.K b_str hg bt (by decide +kernel) ha (by decide) hd hs hpl

theorem COk.pw {c : Xe} {e : Expr} (h : COk X T W Φ gl c [e]) (hb : c.isB = true) : PW X e (tT T W fun s => one1 (sem Φ gl c s) tru) := by
  obtain ⟨e', q, h⟩ := h.w hb
  cases q
  exact h
theorem COk.sr {c : Xe} {e : Expr} (h : COk X T W Φ gl c [e]) (hs : c.isS = true) (tg : Expr) : PI X tg e (tI T W (sem Φ gl c)) := by
  obtain ⟨e', q, h⟩ := h.s hs tg
  cases q
  exact h
/-- the check of a boolean's rest gives a boolean -/
theorem rest_bo {b : Xe} {op : BoolOp} {xs : List Expr} {p : Pos} {sc : Scope} (hv : b.isV = true) (h : chk B b sc [.BoolOp op xs p] = true) : b.isB = true := by
  cases b <;> first | rfl | (cases hv; done) | (unfold chk at h; cases h; done)
theorem t_ifx {t a b : Expr} {ft fa fb : M (List Va)} {pos : Pos} (ht : PT X t (tT T W fun s => one1 (ft s) tru)) (ha : PT X a (tT T W fun s => one1 (fa s) tru)) (hb : PT X b (tT T W fun s => one1 (fb s) tru)) :
    PT X (.IfExp t a b pos) (tT T W fun s => one1 (one1 (ft s) fun x s => (tru x s).bind fun k s => if k then fa s else fb s) tru) := by
  refine ⟨fun pins s σ H Q I ⟨s0, G, R, h⟩ => ?_⟩
  have e : one1 (one1 (ft s0) fun x s => (tru x s).bind fun k s => if k then fa s else fb s) tru = (one1 (ft s0) tru).bind fun k s => if k then one1 (fa s) tru else one1 (fb s) tru := by
    cases ft s0 with
    | ok vs t =>
      match vs with
      | [v] =>
        show one1 ((tru v t).bind fun k s => if k then fa s else fb s) tru = (tru v t).bind fun k s => if k then one1 (fa s) tru else one1 (fb s) tru
        cases tru v t with
        | ok k s => cases k <;> rfl
        | err c s => rfl
        | stuck => rfl
      | [] => rfl
      | _ :: _ :: _ => rfl
    | err c t => rfl
    | stuck => rfl
  dsimp only at h
  rw [e] at h
  show wpAny _ _ (bind (isTrue t X.env (eval t X.env)) fun k => if k = true then isTrue a X.env (eval a X.env) else isTrue b X.env (eval b X.env)) _ _ _
  refine wpAny_bind (thn (ht.run pins s σ H (fun k H1 => cond k (tT T W (fun s => one1 (fa s) tru) σ H1 Q) (tT T W (fun s => one1 (fb s) tru) σ H1 Q)) I ⟨s0, G, R, h.bind.imp fun k s1 G1 H1 _ x R1 _ h1 => ?_⟩) fun d s1 ⟨H1, I1, q1⟩ => ?_)
  · have h1 := h1.2
    cases k with
    | true => exact ⟨s1, G1, R1, h1⟩
    | false => exact ⟨s1, G1, R1, h1⟩
  · cases d with
    | true => exact ha.run pins s1 σ H1 Q I1 q1
    | false => exact hb.run pins s1 σ H1 Q I1 q1
variable (T Φ gl B)
theorem blk_has {X : Cx} {W : WX} {sc : Scope} (H : Has X T W Φ gl B sc) (s : Shared) (Hh : Hp) (scope : Scope) (C : Addr) (cl : List (Str × Addr)) (fp : List Addr) :
    Has (X.blk s Hh scope (compEnvC scope cl C X.env) fp) T (fun _ _ _ _ => False) Φ gl B (relS scope sc) where
  K := H.K
  N := H.N
  nd := H.nd
  sc := by rw [← H.sc]; rfl
  calm := H.calm
  un := H.un
  tk := takes0
  fn := H.fn
  gl := H.gl
  xc := fun c x h => let q := H.xc c x h; ⟨q.mg, q.ex, q.kp, q.sub, q.ty⟩
  bt := H.bt
/-- what a comprehension's rule asks -/
structure CPt (X : Cx) (T : Tn) (W : WX) (Φ : Tbl) (gl : Nat → PyData) (src : Xe) (tg : List Nat) (op : List (Str × Nat)) (cond elt0 : Xe) (elt tge it : Expr) (ifs : List Expr) (scope : Scope) : Prop where
  sub : ∀ i ∈ tg, i ∈ op.map (·.2)
  nd : X.N.Nodup
  hi : PI X tge it (tI T W (sem Φ gl src))
  ok : BlkOk X.N X.env.scope scope op
  hg : ∀ (s : Shared) (H : Hp) (C : Addr) (cl : List (Str × Addr)) (fp : List Addr), PG (X.blk s H scope (compEnvC scope cl C X.env) fp) tge (gOf X.K tg)
  ht : ∀ (s : Shared) (H : Hp) (C : Addr) (cl : List (Str × Addr)) (fp : List Addr), PTs (X.blk s H scope (compEnvC scope cl C X.env) fp) ifs (tT T (fun _ _ _ _ => False) (condM cond.isNil (sem Φ gl cond)))
  he : ∀ (s : Shared) (H : Hp) (C : Addr) (cl : List (Str × Addr)) (fp : List Addr), PE (X.blk s H scope (compEnvC scope cl C X.env) fp) elt (tE T (fun _ _ _ _ => False) (sem Φ gl elt0))
  hs : ∀ x, foldedSetIterable it X.env x = pure x
theorem comp_parts {src cond elt : Xe} {tg own : List Nat} {x tge it : Expr} {ifs : List Expr} {n : Int} {scope : Scope} {pos : Pos} {X : Cx} {W : WX} {sc : Scope} (ihs : ∀ {X : Cx} {W : WX} {sc : Scope} {es : List Expr}, Has X T W Φ gl B sc → chk B src sc es = true → COk X T W Φ gl src es)
    (ihc : ∀ {X : Cx} {W : WX} {sc : Scope} {es : List Expr}, Has X T W Φ gl B sc → chk B cond sc es = true → COk X T W Φ gl cond es) (ihe : ∀ {X : Cx} {W : WX} {sc : Scope} {es : List Expr}, Has X T W Φ gl B sc → chk B elt sc es = true → COk X T W Φ gl elt es)
    (H : Has X T W Φ gl B sc) (h : chk B (.comp src tg own cond elt) sc [.ListComp x [⟨tge, it, ifs, n⟩] scope pos] = true) : n = 0 ∧ CPt X T W Φ gl src tg (ownp B own) cond elt x tge it ifs scope := by
  unfold chk at h
  simp only [Bool.and_eq_true, decide_eq_true_eq] at h
  obtain ⟨⟨⟨⟨⟨⟨⟨⟨⟨⟨h0, h1⟩, h2⟩, h3⟩, h4⟩, h5⟩, h6⟩, h7⟩, h8⟩, h9⟩, h10⟩ := h
  refine ⟨h0, ⟨?_, by rw [H.N]; exact H.nd, (ihs H h3).sr h2 tge, ?_, fun s Hh C cl fp => g_of (X := X.blk s Hh scope (compEnvC scope cl C X.env) fp) H.K H.calm (by show X.N.Nodup; rw [H.N]; exact H.nd) (isTgt_of (B := B) H.N (by show relS scope X.env.scope = _; rw [H.sc]) (fun y hy => hy) h6), fun s Hh C cl fp => ?_, fun s Hh C cl fp => ((ihe (blk_has T Φ gl B H s Hh scope C cl fp) h10).one h9).pe, set_not h1⟩⟩
  · rw [ownp_ix]
    intro i hi
    exact of_decide_eq_true (List.all_eq_true.mp h4 i hi)
  · rw [H.N, H.sc]
    exact blkOk_by h5
  · have HB := blk_has T Φ gl B H s Hh scope C cl fp
    match ifs, h7, h8 with
    | [], h7, h8 =>
      have e : condM cond.isNil (sem Φ gl cond) = fun t => .ok true t := by funext t; unfold condM; rw [if_pos h7]
      rw [e]
      exact ⟨fun pins s σ Hh Q I q => pts_nil.run pins s σ Hh Q I (by
        obtain ⟨s, G, R, q⟩ := q
        exact hereB R q)⟩
    | [c], h7, h8 =>
      have e : condM cond.isNil (sem Φ gl cond) = fun t => one1 (sem Φ gl cond t) tru := by
        funext t
        unfold condM
        rw [if_neg]
        intro z
        cases cond <;> first | cases z; done | cases h7
      rw [e]
      exact pts_one ((ihc HB h8).one h7).pt
    | _ :: _ :: _, h7, h8 => cases h7
theorem chk_ok : ∀ (c : Xe) {X : Cx} {W : WX} {sc : Scope} {es : List Expr}, Has X T W Φ gl B sc → chk B c sc es = true → COk X T W Φ gl c es := by
  intro c
  induction c with
  | nil =>
    intro X W sc es H h
    unfold chk at h
    split at h
    · exact .lis (l_nil H.K) rfl rfl rfl
    · cases h
  | cons a r iha ihr =>
    intro X W sc es H h
    unfold chk at h
    split at h
    · simp only [Bool.and_eq_true] at h
      obtain ⟨⟨⟨⟨h1, h2⟩, h3⟩, h4⟩, h5⟩ := h
      exact .lis (l_cons H.K ((iha H h4).one h2).pe ((ihr H h5).l h3) (star1 h1)) rfl rfl rfl
    · cases h
  | var i =>
    intro X W sc es H h
    unfold chk at h
    split at h
    · obtain ⟨h1, h2, h3, h4⟩ := isVar_vis H h
      exact .val (.gen H.K (s_var H.K h1 h2 h3 h4) rfl) rfl rfl rfl
    · cases h
  | frz i =>
    intro X W sc es H h
    unfold chk at h
    split at h
    · obtain ⟨h1, h2, h3, h4⟩ := isVar_vis H h
      exact .val (.gen H.K (s_frz H.K h1 h2 h3 h4) rfl) rfl rfl rfl
    · cases h
  | cst d =>
    intro X W sc es H h
    unfold chk at h
    split at h
    · unfold cstOk at h
      split at h
      · cases of_decide_eq_true h; exact .val (.gen H.K (s_int H.K) rfl) rfl rfl rfl
      · cases of_decide_eq_true h; exact .val (.gen H.K (s_bool H.K) rfl) rfl rfl rfl
      · exact .val (.gen H.K (s_none H.K) rfl) rfl rfl rfl
      · cases of_decide_eq_true h; exact .val (.gen H.K (s_str H.K) rfl) rfl rfl rfl
      · cases h
    · cases h
  | glob g =>
    intro X W sc es H h
    unfold chk at h
    split at h
    · simp only [Bool.and_eq_true, decide_eq_true_eq] at h
      obtain ⟨h1, h2⟩ := h
      obtain ⟨h3, h4⟩ := isGl_gl H h1
      exact .val (.gen H.K (s_glob H.K h3 (H.gl _ _ h2) h4) rfl) rfl rfl rfl
    · cases h
  | neg a iha =>
    intro X W sc es H h
    unfold chk at h
    split at h
    · simp only [Bool.and_eq_true] at h
      obtain ⟨h1, h2⟩ := h
      exact .val (.gen H.K (s_neg H.K ((iha H h2).one h1).pe) rfl) rfl rfl rfl
    · cases h
  | bin o a b iha ihb =>
    intro X W sc es H h
    unfold chk at h
    split at h
    · simp only [Bool.and_eq_true, decide_eq_true_eq] at h
      obtain ⟨⟨⟨⟨h1, h2⟩, h3⟩, h4⟩, h5⟩ := h
      subst h1
      exact .val (.gen H.K (s_bin H.K ((iha H h4).one h2).pe ((ihb H h5).one h3).pe) rfl) rfl rfl rfl
    · cases h
  | cmp o a b iha ihb =>
    intro X W sc es H h
    unfold chk at h
    split at h
    · simp only [Bool.and_eq_true, isOp, decide_eq_true_eq, Bool.not_eq_true'] at h
      obtain ⟨⟨⟨⟨⟨h1, h2⟩, h3⟩, hm⟩, h4⟩, h5⟩ := h
      subst h1
      exact .val ⟨s_cmp H.K H.un ((iha H h4).one h2).pe ((ihb H h5).one h3).pe hm, t_cmp H.K H.un ((iha H h4).one h2).pe ((ihb H h5).one h3).pe hm⟩ rfl rfl rfl
    · cases h
  | chain o p a b c iha ihb ihc =>
    intro X W sc es H h
    unfold chk at h
    split at h
    · simp only [Bool.and_eq_true, isOp, decide_eq_true_eq, Bool.not_eq_true'] at h
      obtain ⟨⟨⟨⟨⟨⟨⟨⟨h1, h2⟩, h3⟩, h4⟩, h5⟩, hm⟩, h6⟩, h7⟩, h8⟩ := h
      subst h1
      subst h2
      have q1 := ((iha H h6).one h3).pe
      have q2 := ((ihb H h7).one h4).pe
      have q3 := ((ihc H h8).one h5).pe
      exact .val ⟨s_chain H.K H.un q1 q2 q3 hm, t_chain H.K H.un q1 q2 q3 hm⟩ rfl rfl rfl
    · cases h
  | isN a iha =>
    intro X W sc es H h
    unfold chk at h
    split at h
    · simp only [Bool.and_eq_true] at h
      obtain ⟨h1, h2⟩ := h
      have q := ((iha H h2).one h1).pe
      exact .val ⟨s_isN H.K q, t_isN H.K q⟩ rfl rfl rfl
    · cases h
  | isNot a iha =>
    intro X W sc es H h
    unfold chk at h
    split at h
    · simp only [Bool.and_eq_true] at h
      obtain ⟨h1, h2⟩ := h
      have q := ((iha H h2).one h1).pe
      exact .val ⟨s_isNot H.K q, t_isNot H.K q⟩ rfl rfl rfl
    · cases h
  | and a b iha ihb =>
    intro X W sc es H h
    unfold chk at h
    split at h
    · simp only [Bool.and_eq_true] at h
      obtain ⟨⟨⟨h1, h2⟩, h3⟩, h4⟩ := h
      have q1 := (iha H h3).one h1
      have q2 := ihb H h4
      exact .boo (s_and H.K q1.pe (q2.one h2).pe) (t_and H.K q1.pt (q2.pw (rest_bo h2 h4))) rfl rfl
    · cases h
  | or a b iha ihb =>
    intro X W sc es H h
    unfold chk at h
    split at h
    · simp only [Bool.and_eq_true] at h
      obtain ⟨⟨⟨h1, h2⟩, h3⟩, h4⟩ := h
      have q1 := (iha H h3).one h1
      have q2 := ihb H h4
      exact .boo (s_or H.K q1.pe (q2.one h2).pe) (t_or H.K q1.pt (q2.pw (rest_bo h2 h4))) rfl rfl
    · cases h
  | one a iha =>
    intro X W sc es H h
    unfold chk at h
    split at h
    · rename_i op x p
      simp only [Bool.and_eq_true] at h
      obtain ⟨h1, h2⟩ := h
      have q := (iha H h2).one h1
      cases op with
      | And => exact .boo (s_one H.K q.pe) (pw_and1 q.pt) rfl rfl
      | Or => exact .boo (s_one H.K q.pe) (pw_or1 q.pt) rfl rfl
    · cases h
  | not a iha =>
    intro X W sc es H h
    unfold chk at h
    split at h
    · simp only [Bool.and_eq_true] at h
      obtain ⟨h1, h2⟩ := h
      have q := (iha H h2).one h1
      exact .val ⟨s_not H.K q.pe, t_not H.K q.pt⟩ rfl rfl rfl
    · cases h
  | ifx t a b iht iha ihb =>
    intro X W sc es H h
    unfold chk at h
    split at h
    · simp only [Bool.and_eq_true] at h
      obtain ⟨⟨⟨⟨⟨h1, h2⟩, h3⟩, h4⟩, h5⟩, h6⟩ := h
      have q := (iht H h4).one h1
      have q2 := (iha H h5).one h2
      have q3 := (ihb H h6).one h3
      exact .val ⟨s_if H.K q.pt q2.pe q3.pe, t_ifx q.pt q2.pt q3.pt⟩ rfl rfl rfl
    · cases h
  | tup as ih =>
    intro X W sc es H h
    unfold chk at h
    split at h
    · simp only [Bool.and_eq_true] at h
      obtain ⟨h1, h2⟩ := h
      exact .val (.gen H.K (s_tup H.K ((ih H h2).l h1)) rfl) rfl rfl rfl
    · cases h
  | lst as ih =>
    intro X W sc es H h
    unfold chk at h
    split at h
    · simp only [Bool.and_eq_true] at h
      obtain ⟨h1, h2⟩ := h
      exact .val (.gen H.K (s_lst H.K ((ih H h2).l h1)) rfl) rfl rfl rfl
    · cases h
  | idx a i iha ihi =>
    intro X W sc es H h
    unfold chk at h
    split at h
    · simp only [Bool.and_eq_true] at h
      obtain ⟨⟨⟨⟨h1, h2⟩, h3⟩, h4⟩, h5⟩ := h
      exact .val (.gen H.K (s_idx H.K ((iha H h4).one h1).pe ((ihi H h5).one h2).pe (plain_ix h3)) rfl) rfl rfl rfl
    · cases h
  | slice a lo hi iha ihl ihh =>
    intro X W sc es H h
    unfold chk at h
    split at h
    · rename_i x l hh _ _
      simp only [Bool.and_eq_true] at h
      obtain ⟨⟨⟨⟨⟨h1, h2⟩, h3⟩, h4⟩, h5⟩, h6⟩ := h
      have po : ∀ {c : Xe} {o : Option Expr}, (match o with
          | none => c.isNil
          | some _ => c.isV) = true → chk B c sc (optE o) = true → (∀ {X : Cx} {W : WX} {sc : Scope} {es : List Expr}, Has X T W Φ gl B sc → chk B c sc es = true → COk X T W Φ gl c es) → PO X o (tO T W (partM c.isNil (sem Φ gl c))) := by
        intro c o k1 k2 ih
        cases o with
        | none =>
          have e : partM c.isNil (sem Φ gl c) = fun t => .ok none t := by funext t; unfold partM; rw [if_pos k1]
          rw [e]
          exact o_none H.K
        | some e =>
          have q := (ih H k2).one k1
          have e : partM c.isNil (sem Φ gl c) = fun t => one1 (sem Φ gl c t) partI := by
            funext t
            unfold partM
            rw [if_neg]
            intro z
            cases c <;> first | cases z; done | cases k1
          rw [e]
          exact o_some H.K q.pe
      exact .val (.gen H.K (s_slice H.K ((iha H h2).one h1).pe (po h3 h5 ihl) (po h4 h6 ihh)) rfl) rfl rfl rfl
    · cases h
  | call f m as ih =>
    intro X W sc es H h
    unfold chk at h
    split at h
    · simp only [Bool.and_eq_true, decide_eq_true_eq] at h
      obtain ⟨⟨⟨⟨⟨h1, h2⟩, h3⟩, h4⟩, h5⟩, h6⟩ := h
      subst h1
      obtain ⟨g1, g2⟩ := isGl_gl H h3
      obtain ⟨k, a, fd, ps, F, hr, hm, hk, hb⟩ := H.fn _ _ h4
      rw [List.all_cons, Bool.and_eq_true] at h5
      exact .val (.gen H.K (s_call H.K F hr g1 hm hk hb H.tk ((ih H h6).l h2) g2 (star1 h5.1) (starP h5.2)) rfl) rfl rfl rfl
    · cases h
  | bf f as ih =>
    intro X W sc es H h
    unfold chk at h
    split at h
    · simp only [Bool.and_eq_true, decide_eq_true_eq] at h
      obtain ⟨⟨⟨⟨⟨h1, h2⟩, h3⟩, h4⟩, h5⟩, h6⟩ := h
      subst h4
      obtain ⟨g1, g2⟩ := isGl_gl H h3
      rw [List.all_cons, Bool.and_eq_true] at h5
      exact .val (.gen H.K (bf_ok H h1 g1 g2 ((ih H h6).l h2) (star1 h5.1) (starP h5.2)) rfl) rfl rfl rfl
    · cases h
  | isi a t ih =>
    intro X W sc es H h
    unfold chk at h
    split at h
    · simp only [Bool.and_eq_true, decide_eq_true_eq] at h
      obtain ⟨⟨⟨⟨⟨⟨⟨h1, h2⟩, h3⟩, h4⟩, h5⟩, h6⟩, h7⟩, h8⟩ := h
      subst h1
      subst h5
      have bt : X.mg (Str.ofString (tyName t)) = none := by
        have ht6 : t = 0 ∨ t = 1 ∨ t = 2 ∨ t = 3 ∨ t = 4 ∨ t = 5 := by omega
        rcases ht6 with rfl | rfl | rfl | rfl | rfl | rfl <;> exact H.bt _ (by decide +kernel)
      refine .val (.gen H.K ?_ rfl) rfl rfl rfl
      refine pe_imp (s_isi H.K (isGl_gl H h2).1 (H.bt _ (by decide +kernel)) (isGl_gl H h3).1 bt h4 ((ih H h8).one h7).pe (star1 h6)) fun σ Hh Q hq => ?_
      have e : sem Φ gl (.isi a t) = fun s => one1 (sem Φ gl a s) fun x s => match peek s x with
          | some d => boolO (isiD d t) s
          | none => .stuck := by
        funext s
        show one1 (sem Φ gl a s) (fun x s => boolO (isiV x t s) s) = _
        congr 1
        funext x s
        exact (isi_eq t h4 x s).symm
      rw [e] at hq
      exact hq
    · cases h
  | pop i =>
    intro X W sc es H h
    unfold chk at h
    split at h
    · simp only [Bool.and_eq_true, decide_eq_true_eq] at h
      obtain ⟨⟨h1, h2⟩, h5⟩ := h
      subst h1
      obtain ⟨h1, h2, h3, h4⟩ := isVar_vis H h2
      exact .val (.gen H.K (s_pop H.K h1 h2 h3 h4 h5) rfl) rfl rfl rfl
    · cases h
  | sseq a ih =>
    intro X W sc es H h
    unfold chk at h
    split at h
    · simp only [Bool.and_eq_true] at h
      exact .src (fun tg => i_seq H.K ((ih H h.2).one h.1).pe) rfl rfl rfl
    · cases h
  | sstr a ih =>
    intro X W sc es H h
    unfold chk at h
    split at h
    · simp only [Bool.and_eq_true] at h
      exact .src (fun tg => i_str H.K ((ih H h.2).one h.1).pe) rfl rfl rfl
    · cases h
  | srng1 a ih =>
    intro X W sc es H h
    unfold chk at h
    split at h
    · simp only [Bool.and_eq_true, decide_eq_true_eq] at h
      obtain ⟨⟨⟨⟨h1, h2⟩, h3⟩, h4⟩, h5⟩ := h
      subst h1
      exact .src (fun tg => i_rng1 H.K (H.bt _ (by decide +kernel)) (isGl_gl H h2).1 ((ih H h5).one h4).pe (star1 h3)) rfl rfl rfl
    · cases h
  | srng2 a b iha ihb =>
    intro X W sc es H h
    unfold chk at h
    split at h
    · simp only [Bool.and_eq_true, decide_eq_true_eq] at h
      obtain ⟨⟨⟨⟨⟨⟨⟨h1, h2⟩, h3⟩, h3'⟩, h4⟩, h4'⟩, h5⟩, h5'⟩ := h
      subst h1
      have e2 := star1 (es := []) (env := X.env) h3'
      exact .src (fun tg => i_rng2 H.K (H.bt _ (by decide +kernel)) (isGl_gl H h2).1 ((iha H h5).one h4).pe ((ihb H h5').one h4').pe (by rw [star1 h3, e2]; rfl) e2) rfl rfl rfl
    · cases h
  | comp src tg own cond elt ihs ihc ihe =>
    intro X W sc es H h
    unfold chk at h
    split at h
    · rename_i x tge it ifs n scope pos
      have h' : chk B (.comp src tg own cond elt) sc [.ListComp x [⟨tge, it, ifs, n⟩] scope pos] = true := by unfold chk; exact h
      obtain ⟨h0, q⟩ := comp_parts T Φ gl B ihs ihc ihe H h'
      subst h0
      refine .val (.gen H.K ?_ rfl) rfl rfl rfl
      have r := s_comp (W := W) (pos := pos) H.K q.sub H.calm q.nd q.hi q.ok q.hg q.ht q.he q.hs
      rw [ownp_ix] at r
      exact r
    · cases h
  | _ =>
    intro X W sc es H h
    unfold chk at h
    cases h
end
end BC

/-! BChs: the check of statements. -/
namespace BC
open PySem L2
def isTgK (B : Tb) (sc : Scope) : Tg → Expr → Bool
  | .name i, .Name x _ => isTg B sc (fun _ => true) i x
  | .names is, .Tuple es _ _ => isTgs B sc (fun _ => true) is es
  | .namesL is, .Tuple es _ _ => isTgs B sc (fun _ => true) is es
  | _, _ => false
def isComp : Xe → Bool
  | .comp .. => true
  | _ => false
def compSw (B : Tb) (sc : Scope) (i : Nat) (tg e : Expr) : Bool := match tg, e with
  | .Name y py, .ListComp _ _ scope pos => decide (B.N[i]? = some y) && decide (sc.names.lookup y = some .local) && (py.line == pos.line) && !(scope.names.any fun (n, k) => n == y && (k == .local || k == .cell))
  | _, _ => false
def cellSw (sc : Scope) (tg e : Expr) : Bool := match tg, e with
  | .Name y _, .ListComp .. => decide (sc.names.lookup y = some .cell)
  | _, _ => false
def Cd.isQ : Cd → Bool
  | .nil | .seq .. => true
  | _ => false
def chkS (B : Tb) (sc : Scope) : Cd → List Stmt → Bool
  | .nil, ss => match ss with
    | [] => true
    | _ => false
  | .seq a b, ss => match ss with
    | s :: ss => !a.isQ && b.isQ && chkS B sc a [s] && chkS B sc b ss
    | _ => false
  | .pass, ss => match ss with
    | [.Pass _] => true
    | _ => false
  | .brk, ss => match ss with
    | [.Break _] => true
    | _ => false
  | .cont, ss => match ss with
    | [.Continue _] => true
    | _ => false
  | .retN, ss => match ss with
    | [.Return none _] => true
    | _ => false
  | .ret e, ss => match ss with
    | [.Return (some x) _] => e.isV && chk B e sc [x]
    | _ => false
  | .drop e, ss => match ss with
    | [.Expr x _] => e.isV && notComp x && chk B e sc [x]
    | _ => false
  | .asg t e, ss => match ss with
    | [.Assign [tg] x _] => e.isV && chk B e sc [x] && (match t with
        | .name i => (isTgK B sc t tg && (notComp x || cellSw sc tg x)) || (compSw B sc i tg x && isComp e)
        | _ => isTgK B sc t tg && notComp x && notTup x)
    | _ => false
  | .newL i as, ss => match ss with
    | [.Assign [.Name x _] (.List es _) _] => isTg B sc (fun _ => true) i x && as.isL && chk B as sc es
    | _ => false
  | .newR i a n, ss => match ss with
    | [.Assign [.Name x _] (.BinOp (.List [e1] _) .Mult e2 _) _] => isTg B sc (fun _ => true) i x && a.isV && n.isV && notStar e1 && chk B a sc [e1] && chk B n sc [e2]
    | _ => false
  | .app i e, ss => match ss with
    | [.Expr (.Call (.Attribute (.Name x _) m p2) [y] [] p3) _] => decide (m = ("append" : Str)) && isVar B sc i x && (p2.endLine == p3.line) && notStar y && e.isV && chk B e sc [y]
    | _ => false
  | .ext i e, ss => match ss with
    | [.Expr (.Call (.Attribute (.Name x _) m p2) [y] [] p3) _] => decide (m = ("extend" : Str)) && isVar B sc i x && (p2.endLine == p3.line) && notStar y && e.isV && chk B e sc [y]
    | _ => false
  | .set i j e, ss => match ss with
    | [.Assign [.Subscript (.Name x _) (.Name y pj) _] z _] => isVar B sc i x && j.isV && e.isV && notComp z && notTup z && chk B j sc [.Name y pj] && chk B e sc [z]
    | _ => false
  | .ite c a b, ss => match ss with
    | [.If x s t _] => c.isV && a.isQ && b.isQ && chk B c sc [x] && chkS B sc a s && chkS B sc b t
    | _ => false
  | .for_ t src body, ss => match ss with
    | [.For tg it s [] _] => src.isS && body.isQ && notSet it && isTgK B sc t tg && chk B src sc [it] && chkS B sc body s
    | _ => false
  | .whl n c body, ss => match ss with
    | [.While x s [] _] => c.isV && body.isQ && chk B c sc [x] && chkS B sc body s
    | _ => false
  | .raise c, ss => match ss with
    | [.Raise (some (.Call (.Name x _) [.Constant (.str _) _ _] [] _)) none _] => isGl sc x && decide (B.xc[c]? = some x)
    | _ => false
  | _, _ => false
structure HasS (X : Cx) (T : Tn) (W : WX) (Φ : Tbl) (gl : Nat → PyData) (B : Tb) (sc : Scope) : Prop extends Has X T W Φ gl B sc where
  po : PassesOwn (model X.prog X.w) X.A X.env X.xe
  fnc : ∀ x, X.fn x = true
  kind : X.env.scope.kind = ScopeKind.function
section
variable {X : Cx} {T : Tn} {W : WX} {Φ : Tbl} {gl : Nat → PyData} {B : Tb} {sc : Scope}
theorem isTgK_pg {t : Tg} {e : Expr} (H : HasS X T W Φ gl B sc) (h : isTgK B sc t e = true) : PG X e (gT T t) := by
  have nd : X.N.Nodup := by rw [H.N]; exact H.nd
  unfold isTgK at h
  split at h
  · exact g_name H.K nd (isTg_nm H.N H.sc (fun x _ => H.fnc x) h)
  · exact g_names H.K H.calm nd (isTgs_nms H.N H.sc (fun x _ => H.fnc x) h)
  · exact g_namesL H.K H.calm nd (isTgs_nms H.N H.sc (fun x _ => H.fnc x) h)
  · cases h
theorem sw_false {e : Expr} {t : Option Expr} {l : Nat} {env : Env} (h : notComp e = true) : swapsWith e t l env = pure false := by
  cases e <;> first | rfl | cases h
theorem sw_cell {y : Str} {py : Pos} {e : Expr} {l : Nat} {env : Env} (h : cellSw env.scope (.Name y py) e = true) : swapsWith e (some (.Name y py)) l env = pure false := by
  cases e <;> first | (cases h; done) | skip
  have ky : env.kindOf y = some .cell := of_decide_eq_true h
  unfold swapsWith
  simp only [ky, Expr.pos]
  simp [show (NameKind.cell == NameKind.local) = false from rfl]
theorem sole_false {tg e : Expr} {l : Nat} {env : Env} (h : notComp e = true) : swapsWithSole [tg] e l env = pure false := by
  unfold swapsWithSole
  exact sw_false h
theorem store_none {tg e : Expr} {env : Env} (h : notTup e = true) : swappedStores [tg] e env = pure none := by
  cases e <;> first | (cases h; done) | (cases tg <;> rfl)
structure SOk (X : Cx) (T : Tn) (W : WX) (Φ : Tbl) (gl : Nat → PyData) (c : Cd) (ss : List Stmt) : Prop where
  q : c.isQ = true → PSs X ss (tS T W (semS Φ gl c))
  s : c.isQ = false → ∃ s, ss = [s] ∧ PS X s (tS T W (semS Φ gl c))
theorem SOk.one {c : Cd} {s : Stmt} (h : SOk X T W Φ gl c [s]) (hq : c.isQ = false) : PS X s (tS T W (semS Φ gl c)) := by
  obtain ⟨s', q, h⟩ := h.s hq
  cases q
  exact h
theorem SOk.st {c : Cd} {s : Stmt} (h : PS X s (tS T W (semS Φ gl c))) (hq : c.isQ = false) : SOk X T W Φ gl c [s] := ⟨noB hq, fun _ => ⟨s, rfl, h⟩⟩
theorem SOk.qs {c : Cd} {s : List Stmt} (h : PSs X s (tS T W (semS Φ gl c))) (hq : c.isQ = true) : SOk X T W Φ gl c s := ⟨fun _ => h, fun z => by rw [hq] at z; cases z⟩
variable (T Φ gl B)
theorem chkS_ok : ∀ (c : Cd) {X : Cx} {W : WX} {sc : Scope} {ss : List Stmt}, HasS X T W Φ gl B sc → chkS B sc c ss = true → SOk X T W Φ gl c ss := by
  intro c
  induction c with
  | nil =>
    intro X W sc ss H h
    unfold chkS at h
    split at h
    · exact .qs (ss_nil H.K) rfl
    · cases h
  | seq a b iha ihb =>
    intro X W sc ss H h
    unfold chkS at h
    split at h
    · simp only [Bool.and_eq_true, Bool.not_eq_true'] at h
      obtain ⟨⟨⟨h1, h2⟩, h3⟩, h4⟩ := h
      exact .qs (ss_cons H.K ((iha H h3).one h1) ((ihb H h4).q h2)) rfl
    · cases h
  | pass =>
    intro X W sc ss H h
    unfold chkS at h
    split at h
    · exact .st (st_pass H.K) rfl
    · cases h
  | brk =>
    intro X W sc ss H h
    unfold chkS at h
    split at h
    · exact .st (st_brk H.K) rfl
    · cases h
  | cont =>
    intro X W sc ss H h
    unfold chkS at h
    split at h
    · exact .st (st_cont H.K) rfl
    · cases h
  | retN =>
    intro X W sc ss H h
    unfold chkS at h
    split at h
    · exact .st (st_retN H.K) rfl
    · cases h
  | ret e =>
    intro X W sc ss H h
    unfold chkS at h
    split at h
    · simp only [Bool.and_eq_true] at h
      obtain ⟨h1, h2⟩ := h
      exact .st (st_ret H.K ((chk_ok T Φ gl B e H.toHas h2).one h1).pe) rfl
    · cases h
  | drop e =>
    intro X W sc ss H h
    unfold chkS at h
    split at h
    · simp only [Bool.and_eq_true] at h
      obtain ⟨⟨h1, h3⟩, h2⟩ := h
      exact .st (st_drop H.K ((chk_ok T Φ gl B e H.toHas h2).one h1).pe (sw_false h3)) rfl
    · cases h
  | asg t e =>
    intro X W sc ss H h
    unfold chkS at h
    split at h
    · rename_i tg x pos
      simp only [Bool.and_eq_true] at h
      obtain ⟨⟨h1, h2⟩, h3⟩ := h
      have he := ((chk_ok T Φ gl B e H.toHas h2).one h1).pe
      have h1t : isTgK B sc t tg = true → (assignEach [tg] X.env).map (·.2) = [assign tg X.env] := fun z => by
        unfold isTgK at z
        split at z <;> first | rfl | cases z
      split at h3
      · rename_i i
        rw [Bool.or_eq_true] at h3
        rcases h3 with h3 | h3
        · rw [Bool.and_eq_true] at h3
          obtain ⟨h3, h4⟩ := h3
          rw [Bool.or_eq_true] at h4
          cases tg with
          | Name y py => exact .st (st_set H.K (by rw [H.N]; exact H.nd) (isTg_nm H.N H.sc (fun x _ => H.fnc x) (show isTg B sc (fun _ => true) i y = true from h3)) he (h4.elim sw_false fun h4 => sw_cell (py := py) (by rw [H.sc]; exact h4))) rfl
          | _ => cases h3
        · rw [Bool.and_eq_true] at h3
          obtain ⟨h3, h4⟩ := h3
          cases e with
          | comp src tgs own cond elt =>
            unfold compSw at h3
            split at h3
            · rename_i y py elt' gs scope cpos
              simp only [Bool.and_eq_true, decide_eq_true_eq, Bool.not_eq_true'] at h3
              obtain ⟨⟨⟨c1, c2⟩, c3⟩, c4⟩ := h3
              have hg : ∃ tge it ifs n, gs = [⟨tge, it, ifs, n⟩] := by
                unfold chk at h2
                split at h2
                · rename_i e'; cases e'; exact ⟨_, _, _, _, rfl⟩
                · cases h2
              obtain ⟨tge, it, ifs, n, rfl⟩ := hg
              obtain ⟨h0, q⟩ := comp_parts T Φ gl B (fun {X W sc es} => chk_ok T Φ gl B src) (fun {X W sc es} => chk_ok T Φ gl B cond) (fun {X W sc es} => chk_ok T Φ gl B elt) H.toHas h2
              subst h0
              have hy : X.env.scope.names.lookup y = some .local := by rw [H.sc]; exact c2
              have r := st_comp (W := W) (spos := pos) (py := py) (pos := cpos) H.K q.sub H.calm q.nd (by rw [H.N]; exact c1) hy (sw_true H.kind hy c3 c4) q.hi q.ok q.hg q.ht q.he q.hs
              rw [ownp_ix] at r
              exact .st r rfl
            · cases h3
          | _ => cases h4
      · simp only [Bool.and_eq_true] at h3
        obtain ⟨⟨h3, h4⟩, h5⟩ := h3
        exact .st (st_asg H.K he (isTgK_pg H h3) (sw_false h4) (store_none h5) (h1t h3)) rfl
    · cases h
  | newL i as =>
    intro X W sc ss H h
    unfold chkS at h
    split at h
    · simp only [Bool.and_eq_true] at h
      obtain ⟨⟨h1, h2⟩, h3⟩ := h
      exact .st (st_newL H.K (by rw [H.N]; exact H.nd) (isTg_nm H.N H.sc (fun x _ => H.fnc x) h1) ((chk_ok T Φ gl B as H.toHas h3).l h2)) rfl
    · cases h
  | newR i a n =>
    intro X W sc ss H h
    unfold chkS at h
    split at h
    · simp only [Bool.and_eq_true] at h
      obtain ⟨⟨⟨⟨⟨h1, h2⟩, h3⟩, h4⟩, h5⟩, h6⟩ := h
      refine .st (ps_imp (st_newR H.K (by rw [H.N]; exact H.nd) (isTg_nm H.N H.sc (fun x _ => H.fnc x) h1) ((chk_ok T Φ gl B a H.toHas h5).one h2).pe ((chk_ok T Φ gl B n H.toHas h6).one h3).pe (star1 h4)) fun D σ Hh q => ?_) rfl
      exact q
    · cases h
  | app i e =>
    intro X W sc ss H h
    unfold chkS at h
    split at h
    · simp only [Bool.and_eq_true, decide_eq_true_eq] at h
      obtain ⟨⟨⟨⟨⟨h1, h2⟩, h3⟩, h4⟩, h5⟩, h6⟩ := h
      subst h1
      obtain ⟨k1, k2, k3, k4⟩ := isVar_vis H.toHas h2
      exact .st (st_app H.K k1 k2 k3 k4 ((chk_ok T Φ gl B e H.toHas h6).one h5).pe h3 (star1 h4)) rfl
    · cases h
  | ext i e =>
    intro X W sc ss H h
    unfold chkS at h
    split at h
    · simp only [Bool.and_eq_true, decide_eq_true_eq] at h
      obtain ⟨⟨⟨⟨⟨h1, h2⟩, h3⟩, h4⟩, h5⟩, h6⟩ := h
      subst h1
      obtain ⟨k1, k2, k3, k4⟩ := isVar_vis H.toHas h2
      exact .st (st_ext H.K k1 k2 k3 k4 ((chk_ok T Φ gl B e H.toHas h6).one h5).pe h3 (star1 h4)) rfl
    · cases h
  | set i j e =>
    intro X W sc ss H h
    unfold chkS at h
    split at h
    · simp only [Bool.and_eq_true, decide_eq_true_eq] at h
      obtain ⟨⟨⟨⟨⟨⟨h1, h2⟩, h3⟩, h4⟩, h5⟩, h6⟩, h7⟩ := h
      obtain ⟨k1, k2, k3, k4⟩ := isVar_vis H.toHas h1
      exact .st (st_setI H.K k1 k2 k3 k4 ((chk_ok T Φ gl B e H.toHas h7).one h3).pe ((chk_ok T Φ gl B j H.toHas h6).one h2).pe (sole_false h4) (store_none h5)) rfl
    · cases h
  | ite c a b iha ihb =>
    intro X W sc ss H h
    unfold chkS at h
    split at h
    · simp only [Bool.and_eq_true] at h
      obtain ⟨⟨⟨⟨⟨h1, h2⟩, h3⟩, h4⟩, h5⟩, h6⟩ := h
      exact .st (st_if H.K ((chk_ok T Φ gl B c H.toHas h4).one h1).pt ((iha H h5).q h2) ((ihb H h6).q h3)) rfl
    · cases h
  | for_ t src body ih =>
    intro X W sc ss H h
    unfold chkS at h
    split at h
    · simp only [Bool.and_eq_true] at h
      obtain ⟨⟨⟨⟨⟨h1, h2⟩, h3⟩, h4⟩, h5⟩, h6⟩ := h
      exact .st (st_for H.K H.po H.calm ((chk_ok T Φ gl B src H.toHas h5).sr h1 _) (isTgK_pg H h4) ((ih H h6).q h2) (set_not h3)) rfl
    · cases h
  | whl n c body ih =>
    intro X W sc ss H h
    unfold chkS at h
    split at h
    · simp only [Bool.and_eq_true] at h
      obtain ⟨⟨⟨h1, h2⟩, h3⟩, h4⟩ := h
      exact .st (st_while H.K H.po ((chk_ok T Φ gl B c H.toHas h3).one h1).pt ((ih H h4).q h2)) rfl
    · cases h
  | raise c =>
    intro X W sc ss H h
    unfold chkS at h
    split at h
    · simp only [Bool.and_eq_true, decide_eq_true_eq] at h
      obtain ⟨h1, h2⟩ := h
      obtain ⟨g1, g2⟩ := isGl_gl H.toHas h1
      exact .st (st_raise H.K H.calm H.tk (H.xc _ _ h2) g1 g2) rfl
    · cases h
  | _ =>
    intro X W sc ss H h
    unfold chkS at h
    cases h
end
end BC

/-! BEnd: from def to def, then the law. -/
namespace BC
open PySem L2
/-- a def's name, and what it computes -/
def Knows (P : Program) (w : World) (T : Tn) (mg : Str → Option Value) (base : Heap) (k : Nat) (x : Str) (φ : Fn) : Prop :=
  ∃ a fd ps, FnOk P w T.K mg base (L2.CX P w) k a fd ps (spF T false φ) ∧ mg x = some (.ref a) ∧ PySem.W.keepIn T.K (.ref a) = true ∧ Binds T.K fd ps []
theorem Knows.mono {P : Program} {w : World} {T : Tn} {mg : Str → Option Value} {base : Heap} {j k : Nat} {x : Str} {φ : Fn} (h : Knows P w T mg base j x φ) (hl : j ≤ k) : Knows P w T mg base k x φ := by
  obtain ⟨a, fd, ps, F, r⟩ := h
  exact ⟨a, fd, ps, F.mono hl, r⟩
/-- what a def may name -/
structure Env1 (T : Tn) (mg : Str → Option Value) (gl : Nat → PyData) (gls xcs : List Str) : Prop where
  gl : ∀ g x, gls[g]? = some x → ∃ v u, mg x = some u ∧ RelV v u ∧ ∀ F, Dx T.K F v (gl g)
  mgx : ∀ c x, xcs[c]? = some x → mg x = some (.ref (T.exc c))
  ex : ∀ c x, xcs[c]? = some x → PySem.W.excIn T.K (T.exc c) [.type "ValueError", .type "Exception", .type "BaseException", .type "object"] "ValueError.__new__" = true
  kp : ∀ c x, xcs[c]? = some x → PySem.W.keepIn T.K (.ref (T.exc c)) = true
  sub : ∀ c x, xcs[c]? = some x → PySem.W.subIn T.K (.ref (T.exc c)) (.type "BaseException") = some true
  ty : ∀ c x, xcs[c]? = some x → PySem.W.typeIn T.K (.ref (T.exc c)) = some (.type "type")
  bt : ∀ x ∈ bnames, mg x = none
def tbl (l : List Fn) : Tbl := fun f => (l[f]?).getD fun _ => .stuck
/-- the defs that came so far -/
def Past (P : Program) (w : World) (T : Tn) (mg : Str → Option Value) (base : Heap) (xs : List Str) (l : List Fn) : Prop :=
  xs.length = l.length ∧ ∀ (f : Nat) (x : Str), xs[f]? = some x → Knows P w T mg base l.length x (tbl l f)
theorem Past.nil {P : Program} {w : World} {T : Tn} {mg : Str → Option Value} {base : Heap} : Past P w T mg base [] [] := ⟨rfl, fun f x h => by simp at h⟩
theorem Past.snoc {P : Program} {w : World} {T : Tn} {mg : Str → Option Value} {base : Heap} {xs : List Str} {l : List Fn} {x : Str} {φ : Fn} (p : Past P w T mg base xs l) (h : Knows P w T mg base (l.length + 1) x φ) : Past P w T mg base (xs ++ [x]) (l ++ [φ]) := by
  refine ⟨by simp [p.1], fun f y hy => ?_⟩
  have e : (l ++ [φ]).length = l.length + 1 := by simp
  rw [e]
  by_cases hf : f < xs.length
  · rw [List.getElem?_append_left hf] at hy
    have q := (p.2 f y hy).mono (Nat.le_succ _)
    have : tbl (l ++ [φ]) f = tbl l f := by
      unfold tbl
      rw [List.getElem?_append_left (by rw [← p.1]; exact hf)]
    rw [this]
    exact q
  · rw [List.getElem?_append_right (by omega)] at hy
    have hz : f - xs.length = 0 := by
      rcases Nat.eq_zero_or_pos (f - xs.length) with z | z
      · exact z
      · rw [List.getElem?_eq_none (by simp; omega)] at hy; cases hy
    rw [hz] at hy
    have hxy : x = y := by simpa using hy
    subst hxy
    have : tbl (l ++ [φ]) f = φ := by
      unfold tbl
      rw [List.getElem?_append_right (by rw [← p.1]; omega), ← p.1, hz]
      rfl
    rw [this]
    exact h
def scopeOk (N ps : List Str) (sc : Scope) : Bool :=
  decide (sc.kind = .function) && !sc.isCoroutine && !sc.isGenerator && decide N.Nodup && decide (N.take ps.length = ps) && (ps.all fun x => decide (sc.names.lookup x = some .local) || decide (sc.names.lookup x = some .cell)) && (sc.names.all fun y => decide (y.2 ≠ .free)) && decide (ps.length ≤ N.length)
theorem scopeOk_fn {N ps : List Str} {sc : Scope} (h : scopeOk N ps sc = true) : FnScope N ps sc ∧ ps.length ≤ N.length := by
  unfold scopeOk at h
  simp only [Bool.and_eq_true, decide_eq_true_eq, Bool.not_eq_true', List.all_eq_true, Bool.or_eq_true] at h
  obtain ⟨⟨⟨⟨⟨⟨⟨h1, h2⟩, h3⟩, h4⟩, h5⟩, h6⟩, h7⟩, h8⟩ := h
  exact ⟨⟨h1, h2, h3, h4, h5, h6, h7⟩, h8⟩
/-- a def whose code is checked -/
theorem Past.fn {P : Program} {w : World} {T : Tn} {mg : Str → Option Value} {base : Heap} {gl : Nat → PyData} {gls xcs xs : List Str} {l : List Fn} {x qual : Str} {st : Stmt} {f : Addr} {fd : FuncData} {N ps : List Str} {code : Cd}
    (p : Past P w T mg base xs l) (e : Env1 T mg gl gls xcs) (F : Fun T.K x qual st f fd) (hm : mg x = some (.ref f)) (hb : Binds T.K fd ps []) (hs : scopeOk N ps (defScope st) = true) (hq : code.isQ = true) (hc : chkS ⟨N, xs, gls, xcs⟩ (defScope st) code (defBody st) = true) :
    FnOk P w T.K mg base (L2.CX P w) (l.length + 1) f fd ps (spF T false (defF (tbl l) gl ps.length N.length false code)) ∧
    Past P w T mg base (xs ++ [x]) (l ++ [defF (tbl l) gl ps.length N.length false code]) := by
  obtain ⟨S, hpn⟩ := scopeOk_fn hs
  have F1 : FnOk P w T.K mg base (L2.CX P w) (l.length + 1) f fd ps (spF T false (defF (tbl l) gl ps.length N.length false code)) := by
    refine def_ok F S hpn fun cdv A outer s H E hr => (chkS_ok T (tbl l) gl ⟨N, xs, gls, xcs⟩ code ?_ hc).q hq
    refine { K := rfl, N := rfl, nd := S.nd, sc := rfl, calm := rfl, un := ?_, tk := takes_of rfl rfl rfl rfl, fn := fun g y hy => ?_, gl := e.gl, xc := fun c y hy => ⟨e.mgx c y hy, e.ex c y hy, e.kp c y hy, e.sub c y hy, e.ty c y hy⟩, bt := e.bt, po := passes_of rfl, fnc := fun _ => rfl, kind := S.kind }
    · have := hr.un
      show (A.deeper _).units + 64 < cLine
      omega
    · obtain ⟨a, fd', ps', G, h1, h2, h3⟩ := p.2 g y hy
      exact ⟨l.length, a, fd', ps', G, hr, h1, h2, h3⟩
  exact ⟨F1, p.snoc ⟨f, fd, ps, F1, hm, F.kp, hb⟩⟩
/-- the promise of a law -/
def spLaw (K : PySem.W.Frag) : Sp := fun vs H Q _ => ∃ (a : Addr) (ns : List Int), vs = [.ref a] ∧ SqL K H a (ns.map V.int) ∧ ns.length ≤ 63 ∧ ∀ H', Q (.bl true) H'
theorem law_sp {T : Tn} {φ : Fn} (h : ∀ ns : List Int, ns.length ≤ 63 → φ [.s ns] = .ok (.d (.bool true)) []) :
    ∀ (vs : List V) (H : Hp) (Q : VK) (E : XK), spLaw T.K vs H Q E → spF T false φ vs H Q E := by
  rintro vs H Q E ⟨a, ns, rfl, hS, hl, hq⟩
  refine ⟨fun _ => 0, fun _ _ => 0, [.s ns], ?_, fun j r hj => by simp [resL] at hj, ?_⟩
  · have e : part (fun _ => 0) 0 H = H := by
      funext b
      unfold part
      rw [if_pos rfl]
    rw [e]
    exact .s hS .nil
  · rw [h ns hl]
    exact ⟨rfl, fun own' pa' H' u _ _ _ o => by cases o; exact hq H'⟩
theorem law_walk {l : PySem.W.OpenLaw} {q : Program} {loose : List Str} {XP : (Str → Option Value) → Heap → Prop} {YP : World → Heap → Prop} {d : DefRec} {K : Params → PySem.W.Frag} {k : Nat} {x : Str} (hn : l.most = some 63) (hdf : d.params.defaults = []) (hr : Room k callerA)
    (hY : ∀ (w : World) (h : Heap), YP w h → (K w.params).In h)
    (F : ∀ (w : World) (mg : Str → Option Value) (fa : Addr) (h : Heap), (K w.params).In h → h.Ns mainGlobals mg → mg d.name = some (.ref fa) →
      ∃ fd : FuncData, (∀ (s : Shared) (u : Value), BindsTo s fd ⟨[u], []⟩ [(x, u)]) ∧ ∀ base : Heap, (K w.params).In base → base.Ns mainGlobals mg → FnOk l.prog w (K w.params) mg base (L2.CX l.prog w) k fa fd [x] (spLaw (K w.params))) :
    PySem.W.WalkO q loose XP YP l.row.toRowW d [] (fun f vs => PySem.call f vs) :=
  L2.walk_of (n := 63) (k := k) (x := x) (CX := fun w => L2.CX l.prog w) (sp := fun w => spLaw (K w.params)) hn (by decide) hdf hr hY F (fun _ _ a ns hl _ hS => ⟨a, ns, rfl, hS, hl, fun _ => rfl⟩) fun _ _ _ _ _ ⟨_, _, _, _, _, _, _, _, _, _, _, _, z⟩ => z
theorem bt_of {mg : Str → Option Value} (h : (bnames.map mg).all Option.isNone = true) : ∀ x ∈ bnames, mg x = none := fun x hx => by
  have q := List.all_eq_true.mp h _ (List.mem_map_of_mem hx)
  cases e : mg x with
  | none => rfl
  | some v => rw [e] at q; cases q
end BC

/-! BMath: reckoning with codes. -/
namespace BC
open PySem
/-! what follows a value, by name: so that simp does not look under it -/
section
variable (Φ : Tbl) (gl : Nat → PyData)
def kCons2 (x : Va) (xs : List Va) (s : Sg) : Rs (List Va) := .ok (x :: xs) s
def kCons (r : Xe) (x : Va) (s : Sg) : Rs (List Va) := (sem Φ gl r s).bind (kCons2 x)
@[simp] theorem sem_nil (s : Sg) : sem Φ gl .nil s = .ok [] s := rfl
@[simp] theorem sem_cons (a r : Xe) (s : Sg) : sem Φ gl (.cons a r) s = one1 (sem Φ gl a s) (kCons Φ gl r) := rfl
@[simp] theorem kCons_eq (r : Xe) (x : Va) (s : Sg) : kCons Φ gl r x s = (sem Φ gl r s).bind (kCons2 x) := rfl
@[simp] theorem kCons2_eq (x : Va) (xs : List Va) (s : Sg) : kCons2 x xs s = .ok (x :: xs) s := rfl
def kVar (s : Sg) : Option (Option Va) → Rs (List Va)
  | some (some v) => .ok [v] s
  | _ => .stuck
@[simp] theorem sem_var (i : Nat) (s : Sg) : sem Φ gl (.var i) s = kVar s s.ρ[i]? := rfl
@[simp] theorem kVar_eq (s : Sg) (v : Va) : kVar s (some (some v)) = .ok [v] s := rfl
def kFrz2 (s : Sg) (k : Nat) : Option Re → Rs (List Va)
  | some (.lst xs) => dat (.list xs) { s with W := s.W.set k (.frz xs) }
  | some (.frz xs) => dat (.list xs) s
  | _ => .stuck
def kFrz (s : Sg) : Option (Option Va) → Rs (List Va)
  | some (some (.c k)) => kFrz2 s k s.W[k]?
  | some (some (.d x)) => dat x s
  | _ => .stuck
@[simp] theorem sem_frz (i : Nat) (s : Sg) : sem Φ gl (.frz i) s = kFrz s s.ρ[i]? := by
  show (match s.ρ[i]? with
    | some (some (.c k)) => match s.W[k]? with
      | some (.lst xs) => dat (.list xs) { s with W := s.W.set k (.frz xs) }
      | some (.frz xs) => dat (.list xs) s
      | _ => .stuck
    | some (some (.d x)) => dat x s
    | _ => .stuck) = _
  unfold kFrz
  split
  · unfold kFrz2
    split <;> rfl
  · rfl
  · rfl
@[simp] theorem kFrz_c (s : Sg) (k : Nat) : kFrz s (some (some (.c k))) = kFrz2 s k s.W[k]? := rfl
@[simp] theorem kFrz_d (s : Sg) (x : PyData) : kFrz s (some (some (.d x))) = .ok [.d x] s := rfl
@[simp] theorem kFrz2_l (s : Sg) (k : Nat) (xs : List PyData) : kFrz2 s k (some (.lst xs)) = .ok [.d (.list xs)] { s with W := s.W.set k (.frz xs) } := rfl
@[simp] theorem kFrz2_f (s : Sg) (k : Nat) (xs : List PyData) : kFrz2 s k (some (.frz xs)) = .ok [.d (.list xs)] s := rfl
@[simp] theorem sem_cst (x : PyData) (s : Sg) : sem Φ gl (.cst x) s = .ok [.d x] s := rfl
@[simp] theorem sem_glob (g : Nat) (s : Sg) : sem Φ gl (.glob g) s = .ok [.d (gl g)] s := rfl
def kNeg (x : Va) (s : Sg) : Rs (List Va) := match x with
  | .d (.int i) => dat (.int (-i)) s
  | _ => .stuck
@[simp] theorem sem_neg (a : Xe) (s : Sg) : sem Φ gl (.neg a) s = one1 (sem Φ gl a s) kNeg := rfl
@[simp] theorem kNeg_eq (i : Int) (s : Sg) : kNeg (.d (.int i)) s = .ok [.d (.int (-i))] s := rfl
def kO1 (f : PyData → PyData → Option PyData) (s : Sg) : Option PyData → Option PyData → Rs (List Va)
  | some u, some v => datO (f u v) s
  | _, _ => .stuck
@[simp] theorem kO1_eq (f : PyData → PyData → Option PyData) (s : Sg) (u v : PyData) : kO1 f s (some u) (some v) = datO (f u v) s := rfl
def kB1 (f : PyData → PyData → Option Bool) (s : Sg) : Option PyData → Option PyData → Rs (List Va)
  | some u, some v => boolO (f u v) s
  | _, _ => .stuck
@[simp] theorem kB1_eq (f : PyData → PyData → Option Bool) (s : Sg) (u v : PyData) : kB1 f s (some u) (some v) = boolO (f u v) s := rfl
def kBin2 (o : Bo) (x y : Va) (s : Sg) : Rs (List Va) := kO1 (binD o) s (peek s x) (peek s y)
def kBin (o : Bo) (b : Xe) (x : Va) (s : Sg) : Rs (List Va) := one1 (sem Φ gl b s) (kBin2 o x)
theorem kO1_m (f : PyData → PyData → Option PyData) (s : Sg) (a b : Option PyData) : (match a, b with
    | some u, some v => datO (f u v) s
    | _, _ => .stuck) = kO1 f s a b := by cases a <;> cases b <;> rfl
theorem kB1_m (f : PyData → PyData → Option Bool) (s : Sg) (a b : Option PyData) : (match a, b with
    | some u, some v => boolO (f u v) s
    | _, _ => .stuck) = kB1 f s a b := by cases a <;> cases b <;> rfl
@[simp] theorem sem_bin (o : Bo) (a b : Xe) (s : Sg) : sem Φ gl (.bin o a b) s = one1 (sem Φ gl a s) (kBin Φ gl o b) := by
  show one1 _ _ = one1 _ _
  congr 1
@[simp] theorem kBin_eq (o : Bo) (b : Xe) (x : Va) (s : Sg) : kBin Φ gl o b x s = one1 (sem Φ gl b s) (kBin2 o x) := rfl
@[simp] theorem kBin2_eq (o : Bo) (x y : Va) (s : Sg) : kBin2 o x y s = kO1 (binD o) s (peek s x) (peek s y) := rfl
def kCmp2 (o : Co) (x y : Va) (s : Sg) : Rs (List Va) := kB1 (cmpD o) s (peek s x) (peek s y)
def kCmp (o : Co) (b : Xe) (x : Va) (s : Sg) : Rs (List Va) := one1 (sem Φ gl b s) (kCmp2 o x)
@[simp] theorem sem_cmp (o : Co) (a b : Xe) (s : Sg) : sem Φ gl (.cmp o a b) s = one1 (sem Φ gl a s) (kCmp Φ gl o b) := by
  show one1 _ _ = one1 _ _
  congr 1
@[simp] theorem kCmp_eq (o : Co) (b : Xe) (x : Va) (s : Sg) : kCmp Φ gl o b x s = one1 (sem Φ gl b s) (kCmp2 o x) := rfl
@[simp] theorem kCmp2_eq (o : Co) (x y : Va) (s : Sg) : kCmp2 o x y s = kB1 (cmpD o) s (peek s x) (peek s y) := rfl
def kChn4 (p : Co) (y z : Va) (s : Sg) : Rs (List Va) := kB1 (cmpD p) s (peek s y) (peek s z)
def kChn3 (p : Co) (c : Xe) (y : Va) (s : Sg) : Option Bool → Rs (List Va)
  | some true => one1 (sem Φ gl c s) (kChn4 p y)
  | some false => dat (.bool false) s
  | none => .stuck
def kChn2m (o p : Co) (c : Xe) (y : Va) (s : Sg) : Option PyData → Option PyData → Rs (List Va)
  | some u, some v => kChn3 Φ gl p c y s (cmpD o u v)
  | _, _ => .stuck
def kChn2 (o p : Co) (c : Xe) (x y : Va) (s : Sg) : Rs (List Va) := kChn2m Φ gl o p c y s (peek s x) (peek s y)
def kChn (o p : Co) (b c : Xe) (x : Va) (s : Sg) : Rs (List Va) := one1 (sem Φ gl b s) (kChn2 Φ gl o p c x)
@[simp] theorem sem_chain (o p : Co) (a b c : Xe) (s : Sg) : sem Φ gl (.chain o p a b c) s = one1 (sem Φ gl a s) (kChn Φ gl o p b c) := by
  show one1 _ _ = one1 _ _
  congr 1
@[simp] theorem kChn_eq (o p : Co) (b c : Xe) (x : Va) (s : Sg) : kChn Φ gl o p b c x s = one1 (sem Φ gl b s) (kChn2 Φ gl o p c x) := rfl
@[simp] theorem kChn2_eq (o p : Co) (c : Xe) (x y : Va) (s : Sg) : kChn2 Φ gl o p c x y s = kChn2m Φ gl o p c y s (peek s x) (peek s y) := rfl
@[simp] theorem kChn2m_eq (o p : Co) (c : Xe) (y : Va) (s : Sg) (u v : PyData) : kChn2m Φ gl o p c y s (some u) (some v) = kChn3 Φ gl p c y s (cmpD o u v) := rfl
@[simp] theorem kChn3_t (p : Co) (c : Xe) (y : Va) (s : Sg) : kChn3 Φ gl p c y s (some true) = one1 (sem Φ gl c s) (kChn4 p y) := rfl
@[simp] theorem kChn3_f (p : Co) (c : Xe) (y : Va) (s : Sg) : kChn3 Φ gl p c y s (some false) = .ok [.d (.bool false)] s := rfl
@[simp] theorem kChn4_eq (p : Co) (y z : Va) (s : Sg) : kChn4 p y z s = kB1 (cmpD p) s (peek s y) (peek s z) := rfl
def kIsN (x : Va) (s : Sg) : Rs (List Va) := .ok [.d (.bool (isNone x))] s
def kIsNot (x : Va) (s : Sg) : Rs (List Va) := .ok [.d (.bool (!isNone x))] s
@[simp] theorem sem_isN (a : Xe) (s : Sg) : sem Φ gl (.isN a) s = one1 (sem Φ gl a s) kIsN := rfl
@[simp] theorem sem_isNot (a : Xe) (s : Sg) : sem Φ gl (.isNot a) s = one1 (sem Φ gl a s) kIsNot := rfl
@[simp] theorem kIsN_eq (x : Va) (s : Sg) : kIsN x s = .ok [.d (.bool (isNone x))] s := rfl
@[simp] theorem kIsNot_eq (x : Va) (s : Sg) : kIsNot x s = .ok [.d (.bool (!isNone x))] s := rfl
def kAnd2 (b : Xe) (x : Va) (k : Bool) (s : Sg) : Rs (List Va) := if k then sem Φ gl b s else .ok [x] s
def kAnd (b : Xe) (x : Va) (s : Sg) : Rs (List Va) := (tru x s).bind (kAnd2 Φ gl b x)
@[simp] theorem sem_and (a b : Xe) (s : Sg) : sem Φ gl (.and a b) s = one1 (sem Φ gl a s) (kAnd Φ gl b) := rfl
@[simp] theorem kAnd_eq (b : Xe) (x : Va) (s : Sg) : kAnd Φ gl b x s = (tru x s).bind (kAnd2 Φ gl b x) := rfl
@[simp] theorem kAnd2_t (b : Xe) (x : Va) (s : Sg) : kAnd2 Φ gl b x true s = sem Φ gl b s := rfl
@[simp] theorem kAnd2_f (b : Xe) (x : Va) (s : Sg) : kAnd2 Φ gl b x false s = .ok [x] s := rfl
def kOr2 (b : Xe) (x : Va) (k : Bool) (s : Sg) : Rs (List Va) := if k then .ok [x] s else sem Φ gl b s
def kOr (b : Xe) (x : Va) (s : Sg) : Rs (List Va) := (tru x s).bind (kOr2 Φ gl b x)
@[simp] theorem sem_or (a b : Xe) (s : Sg) : sem Φ gl (.or a b) s = one1 (sem Φ gl a s) (kOr Φ gl b) := rfl
@[simp] theorem kOr_eq (b : Xe) (x : Va) (s : Sg) : kOr Φ gl b x s = (tru x s).bind (kOr2 Φ gl b x) := rfl
@[simp] theorem kOr2_t (b : Xe) (x : Va) (s : Sg) : kOr2 Φ gl b x true s = .ok [x] s := rfl
@[simp] theorem kOr2_f (b : Xe) (x : Va) (s : Sg) : kOr2 Φ gl b x false s = sem Φ gl b s := rfl
@[simp] theorem sem_one (a : Xe) (s : Sg) : sem Φ gl (.one a) s = sem Φ gl a s := rfl
def kNot2 (k : Bool) (s : Sg) : Rs (List Va) := .ok [.d (.bool (!k))] s
def kNot (x : Va) (s : Sg) : Rs (List Va) := (tru x s).bind kNot2
@[simp] theorem sem_not (a : Xe) (s : Sg) : sem Φ gl (.not a) s = one1 (sem Φ gl a s) kNot := rfl
@[simp] theorem kNot_eq (x : Va) (s : Sg) : kNot x s = (tru x s).bind kNot2 := rfl
@[simp] theorem kNot2_eq (k : Bool) (s : Sg) : kNot2 k s = .ok [.d (.bool (!k))] s := rfl
def kIf2 (a b : Xe) (k : Bool) (s : Sg) : Rs (List Va) := if k then sem Φ gl a s else sem Φ gl b s
def kIf (a b : Xe) (x : Va) (s : Sg) : Rs (List Va) := (tru x s).bind (kIf2 Φ gl a b)
@[simp] theorem sem_ifx (t a b : Xe) (s : Sg) : sem Φ gl (.ifx t a b) s = one1 (sem Φ gl t s) (kIf Φ gl a b) := rfl
@[simp] theorem kIf_eq (a b : Xe) (x : Va) (s : Sg) : kIf Φ gl a b x s = (tru x s).bind (kIf2 Φ gl a b) := rfl
@[simp] theorem kIf2_t (a b : Xe) (s : Sg) : kIf2 Φ gl a b true s = sem Φ gl a s := rfl
@[simp] theorem kIf2_f (a b : Xe) (s : Sg) : kIf2 Φ gl a b false s = sem Φ gl b s := rfl
def kTup2 (s : Sg) : Option (List PyData) → Rs (List Va)
  | some xs => if xs.length ≤ lim then dat (.tuple xs) s else .stuck
  | none => .stuck
def kTup (vs : List Va) (s : Sg) : Rs (List Va) := kTup2 s (solids s vs)
@[simp] theorem sem_tup (as : Xe) (s : Sg) : sem Φ gl (.tup as) s = (sem Φ gl as s).bind kTup := by
  show Rs.bind _ _ = Rs.bind _ _
  congr 1
@[simp] theorem kTup_eq (vs : List Va) (s : Sg) : kTup vs s = kTup2 s (solids s vs) := rfl
@[simp] theorem kTup2_eq (xs : List PyData) (s : Sg) : kTup2 s (some xs) = if xs.length ≤ lim then .ok [.d (.tuple xs)] s else .stuck := rfl
def kLst2 (s : Sg) : Option (List PyData) → Rs (List Va)
  | some xs => if xs.length ≤ lim then dat (.list xs) s else .stuck
  | none => .stuck
def kLst (vs : List Va) (s : Sg) : Rs (List Va) := kLst2 s (solids s vs)
@[simp] theorem sem_lst (as : Xe) (s : Sg) : sem Φ gl (.lst as) s = (sem Φ gl as s).bind kLst := by
  show Rs.bind _ _ = Rs.bind _ _
  congr 1
@[simp] theorem kLst_eq (vs : List Va) (s : Sg) : kLst vs s = kLst2 s (solids s vs) := rfl
@[simp] theorem kLst2_eq (xs : List PyData) (s : Sg) : kLst2 s (some xs) = if xs.length ≤ lim then .ok [.d (.list xs)] s else .stuck := rfl
def kIdx2 (x y : Va) (s : Sg) : Rs (List Va) := kO1 idxD s (peekR s x) (peek s y)
def kIdx (i : Xe) (x : Va) (s : Sg) : Rs (List Va) := one1 (sem Φ gl i s) (kIdx2 x)
@[simp] theorem sem_idx (a i : Xe) (s : Sg) : sem Φ gl (.idx a i) s = one1 (sem Φ gl a s) (kIdx Φ gl i) := by
  show one1 _ _ = one1 _ _
  congr 1
@[simp] theorem kIdx_eq (i : Xe) (x : Va) (s : Sg) : kIdx Φ gl i x s = one1 (sem Φ gl i s) (kIdx2 x) := rfl
@[simp] theorem kIdx2_eq (x y : Va) (s : Sg) : kIdx2 x y s = kO1 idxD s (peekR s x) (peek s y) := rfl
def kSl3m (l h : Option Int) (s : Sg) : Option PyData → Rs (List Va)
  | some u => datO (sliceD u l h) s
  | none => .stuck
def kSl3 (x : Va) (l h : Option Int) (s : Sg) : Rs (List Va) := kSl3m l h s (peek s x)
def kSl2 (hi : Xe) (x : Va) (l : Option Int) (s : Sg) : Rs (List Va) := (partM hi.isNil (sem Φ gl hi) s).bind (kSl3 x l)
def kSl (lo hi : Xe) (x : Va) (s : Sg) : Rs (List Va) := (partM lo.isNil (sem Φ gl lo) s).bind (kSl2 Φ gl hi x)
@[simp] theorem sem_slice (a lo hi : Xe) (s : Sg) : sem Φ gl (.slice a lo hi) s = one1 (sem Φ gl a s) (kSl Φ gl lo hi) := by
  show one1 _ _ = one1 _ _
  congr 1
@[simp] theorem kSl_eq (lo hi : Xe) (x : Va) (s : Sg) : kSl Φ gl lo hi x s = (partM lo.isNil (sem Φ gl lo) s).bind (kSl2 Φ gl hi x) := rfl
@[simp] theorem kSl2_eq (hi : Xe) (x : Va) (l : Option Int) (s : Sg) : kSl2 Φ gl hi x l s = (partM hi.isNil (sem Φ gl hi) s).bind (kSl3 x l) := rfl
@[simp] theorem kSl3_eq (x : Va) (l h : Option Int) (s : Sg) : kSl3 x l h s = kSl3m l h s (peek s x) := rfl
@[simp] theorem kSl3m_eq (l h : Option Int) (s : Sg) (u : PyData) : kSl3m l h s (some u) = datO (sliceD u l h) s := rfl
@[simp] theorem partI_eq (i : Int) (s : Sg) : partI (.d (.int i)) s = .ok (some i) s := rfl
@[simp] theorem partM_t (f : M (List Va)) (s : Sg) : partM true f s = .ok none s := rfl
@[simp] theorem partM_f (f : M (List Va)) (s : Sg) : partM false f s = one1 (f s) partI := rfl
def kV1 (v : Va) (s : Sg) : Rs (List Va) := .ok [v] s
def kCall (f m : Nat) (vs : List Va) (s : Sg) : Rs (List Va) := (BC.run (Φ f) false m vs s).bind kV1
@[simp] theorem kV1_eq (v : Va) (s : Sg) : kV1 v s = .ok [v] s := rfl
@[simp] theorem sem_call (f m : Nat) (as : Xe) (s : Sg) : sem Φ gl (.call f m as) s = (sem Φ gl as s).bind (kCall Φ f m) := rfl
@[simp] theorem kCall_eq (f m : Nat) (vs : List Va) (s : Sg) : kCall Φ f m vs s = (BC.run (Φ f) false m vs s).bind kV1 := rfl
def kBf2 (f : Bf) (s : Sg) : Option (List PyData) → Rs (List Va)
  | some xs => datO (bfD f xs) s
  | none => .stuck
def kBf (f : Bf) (vs : List Va) (s : Sg) : Rs (List Va) := kBf2 f s (peeks s vs)
@[simp] theorem sem_bf (f : Bf) (as : Xe) (s : Sg) : sem Φ gl (.bf f as) s = (sem Φ gl as s).bind (kBf f) := by
  show Rs.bind _ _ = Rs.bind _ _
  congr 1
@[simp] theorem kBf_eq (f : Bf) (vs : List Va) (s : Sg) : kBf f vs s = kBf2 f s (peeks s vs) := rfl
@[simp] theorem kBf2_eq (f : Bf) (xs : List PyData) (s : Sg) : kBf2 f s (some xs) = datO (bfD f xs) s := rfl
def kIsi (t : Nat) (x : Va) (s : Sg) : Rs (List Va) := boolO (isiV x t s) s
@[simp] theorem sem_isi (a : Xe) (t : Nat) (s : Sg) : sem Φ gl (.isi a t) s = one1 (sem Φ gl a s) (kIsi t) := rfl
@[simp] theorem kIsi_eq (t : Nat) (x : Va) (s : Sg) : kIsi t x s = boolO (isiV x t s) s := rfl
def kSeq2 (s : Sg) : Option PyData → Rs (List Va)
  | some (.list xs) => .ok (xs.map .d) s
  | some (.tuple xs) => .ok (xs.map .d) s
  | _ => .stuck
def kSseq (x : Va) (s : Sg) : Rs (List Va) := kSeq2 s (solid s x)
@[simp] theorem sem_sseq (e : Xe) (s : Sg) : sem Φ gl (.sseq e) s = one1 (sem Φ gl e s) kSseq := rfl
@[simp] theorem kSseq_eq (x : Va) (s : Sg) : kSseq x s = kSeq2 s (solid s x) := rfl
@[simp] theorem kSeq2_l (s : Sg) (xs : List PyData) : kSeq2 s (some (.list xs)) = .ok (xs.map .d) s := rfl
@[simp] theorem kSeq2_t (s : Sg) (xs : List PyData) : kSeq2 s (some (.tuple xs)) = .ok (xs.map .d) s := rfl
/-! statements -/
def kSq (b : Cd) (f : Fl) (s : Sg) : Rs Fl := match f with
  | .next => semS Φ gl b s
  | f => .ok f s
@[simp] theorem semS_nil (s : Sg) : semS Φ gl .nil s = .ok .next s := rfl
@[simp] theorem semS_seq (a b : Cd) (s : Sg) : semS Φ gl (.seq a b) s = (semS Φ gl a s).bind (kSq Φ gl b) := rfl
@[simp] theorem kSq_n (b : Cd) (s : Sg) : kSq Φ gl b .next s = semS Φ gl b s := rfl
@[simp] theorem kSq_r (b : Cd) (v : Va) (s : Sg) : kSq Φ gl b (.ret v) s = .ok (.ret v) s := rfl
@[simp] theorem kSq_b (b : Cd) (s : Sg) : kSq Φ gl b .brk s = .ok .brk s := rfl
@[simp] theorem kSq_c (b : Cd) (s : Sg) : kSq Φ gl b .cont s = .ok .cont s := rfl
@[simp] theorem semS_pass (s : Sg) : semS Φ gl .pass s = .ok .next s := rfl
@[simp] theorem semS_brk (s : Sg) : semS Φ gl .brk s = .ok .brk s := rfl
@[simp] theorem semS_cont (s : Sg) : semS Φ gl .cont s = .ok .cont s := rfl
@[simp] theorem semS_retN (s : Sg) : semS Φ gl .retN s = .ok (.ret (.d .none)) s := rfl
@[simp] theorem semS_raise (c : Nat) (s : Sg) : semS Φ gl (.raise c) s = .err c s := rfl
def kAsg2 : Option Sg → Rs Fl
  | some s => .ok Fl.next s
  | none => .stuck
def kAsg (t : Tg) (v : Va) (s : Sg) : Rs Fl := kAsg2 (setTg t v s)
@[simp] theorem semS_asg (t : Tg) (e : Xe) (s : Sg) : semS Φ gl (.asg t e) s = one1 (sem Φ gl e s) (kAsg t) := rfl
@[simp] theorem kAsg_n (i : Nat) (v : Va) (s : Sg) : kAsg (.name i) v s = .ok .next { s with ρ := s.ρ.set i (some v) } := rfl
@[simp] theorem kAsg_t (is : List Nat) (xs : List PyData) (s : Sg) : kAsg (.names is) (.d (.tuple xs)) s = kAsg2 (setIs is xs s) := rfl
@[simp] theorem kAsg_l (is : List Nat) (xs : List PyData) (s : Sg) : kAsg (.namesL is) (.d (.list xs)) s = kAsg2 (setIs is xs s) := rfl
@[simp] theorem kAsg2_eq (s : Sg) : kAsg2 (some s) = .ok .next s := rfl
def kRet (v : Va) (s : Sg) : Rs Fl := .ok (.ret v) s
@[simp] theorem semS_ret (e : Xe) (s : Sg) : semS Φ gl (.ret e) s = one1 (sem Φ gl e s) kRet := rfl
@[simp] theorem kRet_eq (v : Va) (s : Sg) : kRet v s = .ok (.ret v) s := rfl
def kDrop (v : Va) (s : Sg) : Rs Fl := .ok Fl.next s
@[simp] theorem semS_drop (e : Xe) (s : Sg) : semS Φ gl (.drop e) s = one1 (sem Φ gl e s) kDrop := rfl
@[simp] theorem kDrop_eq (v : Va) (s : Sg) : kDrop v s = .ok .next s := rfl
def kIte2 (a b : Cd) (k : Bool) (s : Sg) : Rs Fl := if k then semS Φ gl a s else semS Φ gl b s
def kIte (a b : Cd) (x : Va) (s : Sg) : Rs Fl := (tru x s).bind (kIte2 Φ gl a b)
@[simp] theorem semS_ite (c : Xe) (a b : Cd) (s : Sg) : semS Φ gl (.ite c a b) s = one1 (sem Φ gl c s) (kIte Φ gl a b) := rfl
@[simp] theorem kIte_eq (a b : Cd) (x : Va) (s : Sg) : kIte Φ gl a b x s = (tru x s).bind (kIte2 Φ gl a b) := rfl
@[simp] theorem kIte2_t (a b : Cd) (s : Sg) : kIte2 Φ gl a b true s = semS Φ gl a s := rfl
@[simp] theorem kIte2_f (a b : Cd) (s : Sg) : kIte2 Φ gl a b false s = semS Φ gl b s := rfl
def kNewL2 (i : Nat) (s : Sg) : Option (List PyData) → Rs Fl
  | some xs => if xs.length ≤ lim then .ok .next { s with ρ := s.ρ.set i (some (.c s.W.length)), W := s.W ++ [.lst xs] } else .stuck
  | none => .stuck
def kNewL (i : Nat) (vs : List Va) (s : Sg) : Rs Fl := kNewL2 i s (solids s vs)
@[simp] theorem semS_newL (i : Nat) (as : Xe) (s : Sg) : semS Φ gl (.newL i as) s = (sem Φ gl as s).bind (kNewL i) := by
  show Rs.bind _ _ = Rs.bind _ _
  congr 1
@[simp] theorem kNewL_eq (i : Nat) (vs : List Va) (s : Sg) : kNewL i vs s = kNewL2 i s (solids s vs) := rfl
@[simp] theorem kNewL2_eq (i : Nat) (xs : List PyData) (s : Sg) : kNewL2 i s (some xs) = if xs.length ≤ lim then .ok .next { s with ρ := s.ρ.set i (some (.c s.W.length)), W := s.W ++ [.lst xs] } else .stuck := rfl
def kApp3 (k : Nat) (s : Sg) : Option Re → Option PyData → Rs Fl
  | some (.lst xs), some x => if xs.length < lim then .ok .next { s with W := s.W.set k (.lst (xs ++ [x])) } else .stuck
  | _, _ => .stuck
def kApp2 (k : Nat) (v : Va) (s : Sg) : Rs Fl := kApp3 k s s.W[k]? (solid s v)
def kApp (e : Xe) (s : Sg) : Option Nat → Rs Fl
  | some k => one1 (sem Φ gl e s) (kApp2 k)
  | none => .stuck
@[simp] theorem semS_app (i : Nat) (e : Xe) (s : Sg) : semS Φ gl (.app i e) s = kApp Φ gl e s (lstAt s i) := by
  show (match lstAt s i with
    | some k => one1 (sem Φ gl e s) fun v s => match s.W[k]?, solid s v with
      | some (.lst xs), some x => if xs.length < lim then Rs.ok Fl.next { s with W := s.W.set k (.lst (xs ++ [x])) } else .stuck
      | _, _ => .stuck
    | none => .stuck) = _
  cases lstAt s i with
  | none => rfl
  | some k =>
    show one1 _ _ = one1 _ _
    congr 1
@[simp] theorem kApp_eq (e : Xe) (s : Sg) (k : Nat) : kApp Φ gl e s (some k) = one1 (sem Φ gl e s) (kApp2 k) := rfl
@[simp] theorem kApp2_eq (k : Nat) (v : Va) (s : Sg) : kApp2 k v s = kApp3 k s s.W[k]? (solid s v) := rfl
@[simp] theorem kApp3_eq (k : Nat) (s : Sg) (xs : List PyData) (x : PyData) : kApp3 k s (some (.lst xs)) (some x) = if xs.length < lim then .ok .next { s with W := s.W.set k (.lst (xs ++ [x])) } else .stuck := rfl
end
section
variable (Φ : Tbl) (gl : Nat → PyData)
theorem seq_next {a b : Cd} {s t : Sg} (h : semS Φ gl a s = .ok .next t) : semS Φ gl (.seq a b) s = semS Φ gl b t := by
  show (semS Φ gl a s).bind _ = _
  rw [h]; rfl
theorem seq_ret {a b : Cd} {s t : Sg} {v : Va} (h : semS Φ gl a s = .ok (.ret v) t) : semS Φ gl (.seq a b) s = .ok (.ret v) t := by
  show (semS Φ gl a s).bind _ = _
  rw [h]; rfl
theorem seq_err {a b : Cd} {s t : Sg} {c : Nat} (h : semS Φ gl a s = .err c t) : semS Φ gl (.seq a b) s = .err c t := by
  show (semS Φ gl a s).bind _ = _
  rw [h]; rfl
end
theorem loop_ind {f : Va → Sg → Rs Fl} (I : Nat → Sg → Prop) : ∀ (items : List Va) (k : Nat) (s : Sg), I k s → (∀ i s, (h : i < items.length) → I (k + i) s → ∃ s', (f items[i] s = .ok .next s' ∨ f items[i] s = .ok .cont s') ∧ I (k + i + 1) s') → ∃ s', loopL f items s = .ok .next s' ∧ I (k + items.length) s'
  | [], k, s, h, _ => ⟨s, rfl, h⟩
  | v :: r, k, s, h, st => by
    obtain ⟨s1, e, h1⟩ := st 0 s (by simp) h
    obtain ⟨s2, e2, h2⟩ := loop_ind I r (k + 1) s1 h1 fun i s hi hI => by
      obtain ⟨s', e', h'⟩ := st (i + 1) s (by simpa using hi) (by rw [show k + (i + 1) = k + 1 + i by omega]; exact hI)
      refine ⟨s', by simpa using e', ?_⟩
      rw [show k + 1 + i + 1 = k + (i + 1) + 1 by omega]; exact h'
    refine ⟨s2, ?_, by rw [show k + (v :: r).length = k + 1 + r.length by simp; omega]; exact h2⟩
    show (match f v s with
      | .ok .next s' => loopL f r s'
      | .ok .cont s' => loopL f r s'
      | .ok .brk s' => .ok .next s'
      | .ok (.ret x) s' => .ok (.ret x) s'
      | .err c s' => .err c s'
      | .stuck => .stuck) = _
    have e' : f v s = .ok .next s1 ∨ f v s = .ok .cont s1 := e
    rcases e' with e' | e' <;> (rw [e']; exact e2)
/-- a comprehension, turn by turn: the items made, the box and the world behind -/
theorem compL_ind {f : Va → Sg → Rs (Option Va)} (I : Nat → List Va → Sg → Prop) : ∀ (items : List Va) (k : Nat) (acc : List Va) (s : Sg), I k acc s → (∀ i acc s, (h : i < items.length) → I (k + i) acc s → acc.length < lim ∧ ∃ o s', f items[i] s = .ok o s' ∧ I (k + i + 1) (acc ++ o.toList) s') → ∃ vs s', compL f items acc s = .ok vs s' ∧ I (k + items.length) vs s'
  | [], k, acc, s, h, _ => ⟨acc, s, rfl, h⟩
  | v :: r, k, acc, s, h, st => by
    obtain ⟨hl, o, s1, e, h1⟩ := st 0 acc s (by simp) h
    have e' : f v s = .ok o s1 := e
    obtain ⟨vs, s2, e2, h2⟩ := compL_ind I r (k + 1) (acc ++ o.toList) s1 h1 fun i acc s hi hI => by
      obtain ⟨hl, o, s', e', h'⟩ := st (i + 1) acc s (by simpa using hi) (by rw [show k + (i + 1) = k + 1 + i by omega]; exact hI)
      refine ⟨hl, o, s', by simpa using e', ?_⟩
      rw [show k + 1 + i + 1 = k + (i + 1) + 1 by omega]; exact h'
    refine ⟨vs, s2, ?_, by rw [show k + (v :: r).length = k + 1 + r.length by simp; omega]; exact h2⟩
    show (match f v s with
      | .ok (some y) s' => if acc.length < lim then compL f r (acc ++ [y]) s' else .stuck
      | .ok none s' => compL f r acc s'
      | _ => .stuck) = _
    rw [e']
    cases o with
    | none => simpa using e2
    | some y => dsimp only; rw [if_pos hl]; exact e2
def stepC (tg own : List Nat) (cond : M Bool) (elt : M (List Va)) (ρ : List (Option Va)) (v : Va) (t : Sg) : Rs (Option Va) := match setTg (tgOf tg) v { t with ρ := wipeR ρ own } with
  | some t1 => (cond t1).bind fun b t2 => if b then one1 (elt t2) fun y t3 => .ok (some y) t3 else .ok none t2
  | none => .stuck
theorem compM_eq (src : M (List Va)) (tg own : List Nat) (cond : M Bool) (elt : M (List Va)) (s : Sg) : compM src tg own cond elt s = (src s).bind fun items s1 => (compL (stepC tg own cond elt s1.ρ) items [] s1).bind fun vs t => .ok vs { t with ρ := s1.ρ } := rfl
theorem stepC_eq {tg own : List Nat} {cond : M Bool} {elt : M (List Va)} {ρ : List (Option Va)} {v : Va} {t t1 t2 : Sg} {b : Bool} (h1 : setTg (tgOf tg) v { t with ρ := wipeR ρ own } = some t1) (h2 : cond t1 = .ok b t2) : stepC tg own cond elt ρ v t = if b then one1 (elt t2) fun y t3 => .ok (some y) t3 else .ok none t2 := by
  unfold stepC
  rw [h1]
  dsimp only
  rw [h2]
  rfl
/-- .. that neither draws nor calls: a filter, a map -/
theorem compM_pure {src : M (List Va)} {tg own : List Nat} {cond : M Bool} {elt : M (List Va)} {s : Sg} {α : Type} {xs : List α} (φ : α → PyData) (p : α → Bool) (g : α → PyData) (hs : src s = .ok (xs.map fun a => .d (φ a)) s) (hl : xs.length ≤ lim)
    (ht : ∀ x ∈ xs, ∃ t : Sg, setTg (tgOf tg) (.d (φ x)) { s with ρ := wipeR s.ρ own } = some t ∧ ∃ u : Sg, u.B = s.B ∧ u.W = s.W ∧ cond t = .ok (p x) u ∧ (p x = true → ∃ v : Sg, v.B = s.B ∧ v.W = s.W ∧ elt u = .ok [.d (g x)] v)) :
    compM src tg own cond elt s = .ok (((xs.filter p).map g).map .d) s := by
  rw [compM_eq, hs, bind_ok]
  obtain ⟨vs, s', e, hI⟩ := compL_ind (fun k acc t => acc = (((xs.take k).filter p).map g).map .d ∧ t.B = s.B ∧ t.W = s.W) (f := stepC tg own cond elt s.ρ) (xs.map fun a => .d (φ a)) 0 [] s ⟨by simp, rfl, rfl⟩ (fun i acc t hi ⟨h1, h2, h3⟩ => by
    rw [Nat.zero_add] at h1 ⊢
    have hi' : i < xs.length := by simpa using hi
    obtain ⟨t1, e1, u, b2, w2, e2, h⟩ := ht xs[i] (List.getElem_mem hi')
    have et : ({ t with ρ := wipeR s.ρ own } : Sg) = { s with ρ := wipeR s.ρ own } := by
      obtain ⟨r, b, w⟩ := t
      obtain ⟨r', b', w'⟩ := s
      cases h2
      cases h3
      rfl
    have el : (xs.take i).length = i := by rw [List.length_take]; omega
    have hacc : acc.length < lim := by
      rw [h1, List.length_map, List.length_map]
      have := List.length_filter_le p (xs.take i)
      omega
    have ei : (xs.map fun a => Va.d (φ a))[i] = .d (φ xs[i]) := by simp
    have tk : xs.take (i + 1) = xs.take i ++ [xs[i]] := by rw [List.take_succ, List.getElem?_eq_getElem hi']; rfl
    refine ⟨hacc, ?_⟩
    rw [ei, stepC_eq (by rw [et]; exact e1) e2]
    cases hp : p xs[i] with
    | false =>
      refine ⟨none, u, by simp, ?_, b2, w2⟩
      rw [tk, h1, List.filter_append]
      simp [hp, List.filter_cons]
    | true =>
      obtain ⟨v, b3, w3, e3⟩ := h hp
      refine ⟨some (.d (g xs[i])), v, by simp [e3], ?_, b3, w3⟩
      rw [tk, h1, List.filter_append]
      simp [hp, List.filter_cons])
  rw [e, bind_ok]
  obtain ⟨h1, h2, h3⟩ := hI
  obtain ⟨r, b, w⟩ := s'
  obtain ⟨r', b', w'⟩ := s
  cases h2
  cases h3
  rw [h1]
  simp
theorem solids_d (s : Sg) : ∀ xs : List PyData, solids s (xs.map .d) = some xs
  | [] => rfl
  | x :: r => by
    show (match solid s (.d x), solids s (r.map .d) with
      | some x, some xs => some (x :: xs)
      | _, _ => none) = _
    rw [solids_d s r]; rfl
theorem peeks_d (s : Sg) : ∀ xs : List PyData, peeks s (xs.map .d) = some xs
  | [] => rfl
  | x :: r => by
    show (match peekR s (.d x), peeks s (r.map .d) with
      | some x, some xs => some (x :: xs)
      | _, _ => none) = _
    rw [peeks_d s r]; rfl
theorem intsD_map : ∀ ns : List Int, intsD (ns.map .int) = some ns
  | [] => rfl
  | n :: r => by show (intsD (r.map .int)).map (n :: ·) = _; rw [intsD_map r]; rfl
theorem boolsD_map : ∀ ns : List Bool, boolsD (ns.map .bool) = some ns
  | [] => rfl
  | n :: r => by show (boolsD (r.map .bool)).map (n :: ·) = _; rw [boolsD_map r]; rfl

section
variable {Φ : Tbl} {gl : Nat → PyData}
theorem set_set_none (ρ : List (Option Va)) (i : Nat) (v : Option Va) : (wipeR ρ [i]).set i v = ρ.set i v := by
  show (ρ.set i none).set i v = _
  rw [List.set_set]
/-- [elt for x in src] -/
theorem comp_map1 {src elt : Xe} {i : Nat} {s : Sg} {α : Type} {xs : List α} (φ : α → PyData) (g : α → PyData) (hs : sem Φ gl src s = .ok (xs.map fun a => .d (φ a)) s) (hl : xs.length ≤ lim) (ht : ∀ x ∈ xs, sem Φ gl elt { s with ρ := s.ρ.set i (some (.d (φ x))) } = dat (g x) { s with ρ := s.ρ.set i (some (.d (φ x))) }) :
    sem Φ gl (.comp src [i] [i] .nil elt) s = dat (.list (xs.map g)) s := by
  have e := compM_pure (tg := [i]) (own := [i]) (cond := condM Xe.nil.isNil (sem Φ gl .nil)) (elt := sem Φ gl elt) φ (fun _ => true) g hs hl fun x hx =>
    ⟨{ s with ρ := s.ρ.set i (some (.d (φ x))) }, by show some _ = some _; rw [set_set_none], { s with ρ := s.ρ.set i (some (.d (φ x))) }, rfl, rfl, rfl, fun _ => ⟨{ s with ρ := s.ρ.set i (some (.d (φ x))) }, rfl, rfl, ht x hx⟩⟩
  show (compM _ _ _ _ _ s).bind _ = _
  have ef : xs.filter (fun _ => true) = xs := List.filter_eq_self.mpr fun _ _ => rfl
  rw [e, bind_ok, solids_d, ef]
/-- [elt for x in src if cond] -/
theorem comp_filter1 {src cond elt : Xe} {i : Nat} {s : Sg} {α : Type} {xs : List α} (φ : α → PyData) (p : α → Bool) (g : α → PyData) (hn : cond.isNil = false) (hs : sem Φ gl src s = .ok (xs.map fun a => .d (φ a)) s) (hl : xs.length ≤ lim) (hc : ∀ x ∈ xs, sem Φ gl cond { s with ρ := s.ρ.set i (some (.d (φ x))) } = dat (.bool (p x)) { s with ρ := s.ρ.set i (some (.d (φ x))) })
    (ht : ∀ x ∈ xs, p x = true → sem Φ gl elt { s with ρ := s.ρ.set i (some (.d (φ x))) } = dat (g x) { s with ρ := s.ρ.set i (some (.d (φ x))) }) :
    sem Φ gl (.comp src [i] [i] cond elt) s = dat (.list ((xs.filter p).map g)) s := by
  have e := compM_pure (tg := [i]) (own := [i]) (cond := condM cond.isNil (sem Φ gl cond)) (elt := sem Φ gl elt) φ p g hs hl fun x hx =>
    ⟨{ s with ρ := s.ρ.set i (some (.d (φ x))) }, by show some _ = some _; rw [set_set_none], { s with ρ := s.ρ.set i (some (.d (φ x))) }, rfl, rfl, by
      show (if cond.isNil = true then _ else _) = _
      rw [hn, if_neg (by decide), hc x hx]
      rfl, fun hp => ⟨{ s with ρ := s.ρ.set i (some (.d (φ x))) }, rfl, rfl, ht x hx hp⟩⟩
  show (compM _ _ _ _ _ s).bind _ = _
  rw [e, bind_ok, solids_d]
/-- .. that changes the world -/
theorem comp_st1 {src elt : Xe} {i : Nat} {s : Sg} {α : Type} {xs : List α} (φ : α → PyData) (I : Nat → List PyData → List Re → Prop) (hs : sem Φ gl src s = .ok (xs.map fun a => .d (φ a)) s) (hl : xs.length ≤ lim) (h0 : I 0 [] s.W)
    (ht : ∀ k (hk : k < xs.length) ys W, ys.length = k → I k ys W → ∃ y ρ' W', sem Φ gl elt ⟨s.ρ.set i (some (.d (φ xs[k]))), s.B, W⟩ = .ok [.d y] ⟨ρ', s.B, W'⟩ ∧ I (k + 1) (ys ++ [y]) W') :
    ∃ ys W', sem Φ gl (.comp src [i] [i] .nil elt) s = dat (.list ys) { s with W := W' } ∧ ys.length = xs.length ∧ I xs.length ys W' := by
  obtain ⟨vs, s', e, ys, h1, h2, h3, h4⟩ := compL_ind (fun k acc t => ∃ ys : List PyData, acc = ys.map .d ∧ t.B = s.B ∧ ys.length = k ∧ I k ys t.W) (f := stepC [i] [i] (condM Xe.nil.isNil (sem Φ gl .nil)) (sem Φ gl elt) s.ρ) (xs.map fun a => .d (φ a)) 0 [] s ⟨[], rfl, rfl, rfl, h0⟩ (fun k acc t hk ⟨ys, h1, h2, h3, h4⟩ => by
    rw [Nat.zero_add] at h3 h4 ⊢
    have hk' : k < xs.length := by simpa using hk
    obtain ⟨y, ρ', W', e, hI⟩ := ht k hk' ys t.W h3 h4
    refine ⟨by rw [h1, List.length_map]; omega, some (.d y), ⟨ρ', s.B, W'⟩, ?_, ys ++ [y], by rw [h1]; simp, rfl, by simp [h3], hI⟩
    have ei : (xs.map fun a => Va.d (φ a))[k] = .d (φ xs[k]) := by simp
    rw [ei, stepC_eq (t1 := ⟨s.ρ.set i (some (.d (φ xs[k]))), s.B, t.W⟩) (t2 := ⟨s.ρ.set i (some (.d (φ xs[k]))), s.B, t.W⟩) (b := true) (by show some _ = some _; rw [set_set_none, h2]) (show condM Xe.nil.isNil (sem Φ gl .nil) _ = .ok true _ from rfl)]
    rw [if_pos rfl, e]
    rfl)
  refine ⟨ys, s'.W, ?_, by simpa using h3, by simpa using h4⟩
  show (compM _ _ _ _ _ s).bind _ = _
  rw [compM_eq, hs, bind_ok, e, bind_ok, bind_ok]
  rw [h1, solids_d]
  obtain ⟨r, b, w⟩ := s'
  cases h2
  rfl
/-- for x in data: an invariant over what stands -/
theorem for_ind {t : Tg} {src : Xe} {body : Cd} {s : Sg} {α : Type} {xs : List α} (φ : α → PyData) (I : Nat → Sg → Prop) (hs : sem Φ gl src s = .ok (xs.map fun a => .d (φ a)) s) (h0 : I 0 s)
    (ht : ∀ k (hk : k < xs.length) s, I k s → ∃ s1 s2, setTg t (.d (φ xs[k])) s = some s1 ∧ (semS Φ gl body s1 = .ok .next s2 ∨ semS Φ gl body s1 = .ok .cont s2) ∧ I (k + 1) s2) :
    ∃ s', semS Φ gl (.for_ t src body) s = .ok .next s' ∧ I xs.length s' := by
  let f : Va → Sg → Rs Fl := fun v s => match setTg t v s with
      | some s => semS Φ gl body s
      | none => .stuck
  obtain ⟨s', e, h⟩ := loop_ind (f := f) I (xs.map fun a => .d (φ a)) 0 s h0 fun k s hk hI => by
    rw [Nat.zero_add] at hI ⊢
    have hk' : k < xs.length := by simpa using hk
    obtain ⟨s1, s2, e1, e2, hI'⟩ := ht k hk' s hI
    refine ⟨s2, ?_, hI'⟩
    have ei : (xs.map fun a => Va.d (φ a))[k] = .d (φ xs[k]) := by simp
    have ef : f (.d (φ xs[k])) s = semS Φ gl body s1 := by
      show (match setTg t (.d (φ xs[k])) s with
      | some s => semS Φ gl body s
      | none => .stuck) = _
      rw [e1]
    rw [ei, ef]
    exact e2
  refine ⟨s', ?_, by simpa using h⟩
  show (sem Φ gl src s).bind _ = _
  rw [hs, bind_ok]
  exact e
theorem rng1_src {a : Xe} {s t : Sg} {n : Nat} (h : sem Φ gl a s = dat (.int n) t) (hn : n < 2 ^ 60) : sem Φ gl (.srng1 a) s = .ok ((List.range n).map fun (i : Nat) => .d (.int (i : Int))) t := by
  show one1 (sem Φ gl a s) _ = _
  rw [h, one1_dat]
  dsimp only
  rw [if_pos (by unfold rngOk; omega)]
  unfold rangeL
  simp
theorem rng2_src {a b : Xe} {s t u : Sg} {i j : Int} (h : sem Φ gl a s = dat (.int i) t) (h2 : sem Φ gl b t = dat (.int j) u) (hn : rngOk i j) : sem Φ gl (.srng2 a b) s = .ok ((List.range (j - i).toNat).map fun (k : Nat) => .d (.int (i + (k : Int)))) u := by
  show one1 (sem Φ gl a s) _ = _
  rw [h, one1_dat]
  show one1 (sem Φ gl b t) _ = _
  rw [h2, one1_dat]
  dsimp only
  rw [if_pos hn]
  rfl
end

theorem mul_l {a b : Int} (h1 : -1000000000000000000 < a) (h2 : a < 1000000000000000000) : mulD (.int a) (.int b) = some (.int (a * b)) := by
  show (if _ then _ else _) = _
  rw [if_pos (Or.inl (by unfold big; omega))]
theorem mul_r {a b : Int} (h1 : -1000000000000000000 < b) (h2 : b < 1000000000000000000) : mulD (.int a) (.int b) = some (.int (a * b)) := by
  show (if _ then _ else _) = _
  rw [if_pos (Or.inr (Or.inl (by unfold big; omega)))]
theorem big_huge : 1000000000000000000 < huge := by
  unfold huge
  exact Nat.lt_of_lt_of_le (by decide : 1000000000000000000 < 2 ^ 64) (Nat.pow_le_pow_right (by decide) (by decide))
theorem div_ok {a b : Int} (h1 : 0 < b) (h2 : b < 1000000000000000000) : divD (.int a) (.int b) = some (.int (a / b)) := by
  show (if _ then _ else _) = _
  have hb : b.natAbs < 1000000000000000000 := by omega
  rw [if_pos ⟨h1, Nat.lt_trans hb big_huge⟩]
theorem for_indR {Φ : Tbl} {gl : Nat → PyData} (R : Cd) {t : Tg} {src : Xe} {body : Cd} (hR : R = .for_ t src body) {s : Sg} {α : Type} {xs : List α} (φ : α → PyData) (I : Nat → Sg → Prop) (hs : sem Φ gl src s = .ok (xs.map fun a => .d (φ a)) s) (h0 : I 0 s)
    (ht : ∀ k (hk : k < xs.length) s, I k s → ∃ s1 s2, setTg t (.d (φ xs[k])) s = some s1 ∧ (semS Φ gl body s1 = .ok .next s2 ∨ semS Φ gl body s1 = .ok .cont s2) ∧ I (k + 1) s2) :
    ∃ s', semS Φ gl R s = .ok .next s' ∧ I xs.length s' := by
  subst hR
  exact for_ind φ I hs h0 ht
theorem rng2_same {Φ : Tbl} {gl : Nat → PyData} {a b : Xe} {s : Sg} {i j : Int} (h : sem Φ gl a s = dat (.int i) s) (h2 : sem Φ gl b s = dat (.int j) s) (hn : rngOk i j) : sem Φ gl (.srng2 a b) s = .ok ((List.range (j - i).toNat).map fun (k : Nat) => .d (.int (i + (k : Int)))) s := rng2_src h h2 hn
theorem rng1_same {Φ : Tbl} {gl : Nat → PyData} {a : Xe} {s : Sg} {n : Nat} (h : sem Φ gl a s = dat (.int n) s) (hn : n < 2 ^ 60) : sem Φ gl (.srng1 a) s = .ok ((List.range n).map fun (i : Nat) => .d (.int (i : Int))) s := rng1_src h hn
/-- a def's end -/
def finF (m : Nat) (r : Rs Fl) : Fr := match r with
  | .ok .next s => leave false m (.d .none) s
  | .ok (.ret v) s => leave false m v s
  | .err c s => match outs false m s with
    | some os => .err c os
    | none => .stuck
  | _ => .stuck
@[simp] theorem finF_n (m : Nat) (s : Sg) : finF m (.ok .next s) = leave false m (.d .none) s := rfl
@[simp] theorem finF_r (m : Nat) (v : Va) (s : Sg) : finF m (.ok (.ret v) s) = leave false m v s := rfl
theorem defF_fin {Φ : Tbl} {gl : Nat → PyData} {np n : Nat} {code : Cd} {as : List Av} (ρ : List (Option Va)) (W : List Re) (h1 : as.length = np ∧ np ≤ n) (h2 : (enter.enterW 0 as).1 ++ List.replicate (n - as.length) none = ρ) (h3 : (enter.enterW 0 as).2 = W) :
    defF Φ gl np n false code as = finF W.length (semS Φ gl code ⟨ρ, [], W⟩) := by
  unfold defF
  rw [if_pos ⟨h1.1, h1.2, fun z => by cases z⟩, enter_false]
  subst h2
  subst h3
  rfl
/-- a comprehension whose source changes the world, too -/
theorem comp_st2 {Φ : Tbl} {gl : Nat → PyData} (E : Xe) {src elt : Xe} {i : Nat} (hE : E = .comp src [i] [i] .nil elt) {s s1 : Sg} {α : Type} {xs : List α} (φ : α → PyData) (I : Nat → List PyData → List Re → Prop) (hs : sem Φ gl src s = .ok (xs.map fun a => .d (φ a)) s1) (hl : xs.length ≤ lim) (h0 : I 0 [] s1.W)
    (ht : ∀ k (hk : k < xs.length) ys W, ys.length = k → I k ys W → ∃ y ρ' W', sem Φ gl elt ⟨s1.ρ.set i (some (.d (φ xs[k]))), s1.B, W⟩ = .ok [.d y] ⟨ρ', s1.B, W'⟩ ∧ I (k + 1) (ys ++ [y]) W') :
    ∃ ys W', sem Φ gl E s = .ok [.d (.list ys)] { s1 with W := W' } ∧ ys.length = xs.length ∧ I xs.length ys W' := by
  subst hE
  obtain ⟨vs, s', e, ys, h1, h2, h3, h4⟩ := compL_ind (fun k acc t => ∃ ys : List PyData, acc = ys.map .d ∧ t.B = s1.B ∧ ys.length = k ∧ I k ys t.W) (f := stepC [i] [i] (condM Xe.nil.isNil (sem Φ gl .nil)) (sem Φ gl elt) s1.ρ) (xs.map fun a => .d (φ a)) 0 [] s1 ⟨[], rfl, rfl, rfl, h0⟩ (fun k acc t hk ⟨ys, h1, h2, h3, h4⟩ => by
    rw [Nat.zero_add] at h3 h4 ⊢
    have hk' : k < xs.length := by simpa using hk
    obtain ⟨y, ρ', W', e, hI⟩ := ht k hk' ys t.W h3 h4
    refine ⟨by rw [h1, List.length_map]; omega, some (.d y), ⟨ρ', s1.B, W'⟩, ?_, ys ++ [y], by rw [h1]; simp, rfl, by simp [h3], hI⟩
    have ei : (xs.map fun a => Va.d (φ a))[k] = .d (φ xs[k]) := by simp
    rw [ei, stepC_eq (t1 := ⟨s1.ρ.set i (some (.d (φ xs[k]))), s1.B, t.W⟩) (t2 := ⟨s1.ρ.set i (some (.d (φ xs[k]))), s1.B, t.W⟩) (b := true) (by show some _ = some _; rw [set_set_none, h2]) (show condM Xe.nil.isNil (sem Φ gl .nil) _ = .ok true _ from rfl)]
    rw [if_pos rfl, e]
    rfl)
  refine ⟨ys, s'.W, ?_, by simpa using h3, by simpa using h4⟩
  show (compM _ _ _ _ _ s).bind _ = _
  rw [compM_eq, hs, bind_ok, e, bind_ok, bind_ok]
  rw [h1, solids_d]
  obtain ⟨r, b, w⟩ := s'
  cases h2
  rfl
theorem step_next {Φ : Tbl} {gl : Nat → PyData} (T : Cd) {a b : Cd} (hT : T = .seq a b) {s : Sg} (t : Sg) (h : semS Φ gl a s = .ok .next t) : semS Φ gl T s = semS Φ gl b t := by
  subst hT
  exact seq_next Φ gl h
theorem step_ret {Φ : Tbl} {gl : Nat → PyData} (T : Cd) {a b : Cd} (hT : T = .seq a b) {s : Sg} (v : Va) (t : Sg) (h : semS Φ gl a s = .ok (.ret v) t) : semS Φ gl T s = .ok (.ret v) t := by
  subst hT
  exact seq_ret Φ gl h
end BC

namespace K42
open PySem L2 BC
/-! codes (gen.py) -/
def gls : List PyData := [(.int 65535), (.int 100), (.int 1000000), (.int 1000000000), (.int 200)]
def gl : Nat → PyData := fun g => gls.getD g .none
@[simp] theorem gl_0 : gl 0 = (.int 65535) := rfl
@[simp] theorem gl_1 : gl 1 = (.int 100) := rfl
@[simp] theorem gl_2 : gl 2 = (.int 1000000) := rfl
@[simp] theorem gl_3 : gl 3 = (.int 1000000000) := rfl
@[simp] theorem gl_4 : gl 4 = (.int 200) := rfl
def gnames : List Str := ["MOST_TOP", "MOST_READS", "MOST_SLIP", "MOST_SPAN", "MOST_PERIODS"]
def xnames : List Str := ["BadNumber", "BadReads"]
def N_is_whole : List Str := ["thing", "low", "most"]
def P_is_whole : List Str := ["thing", "low", "most"]
def C_is_whole : Cd := (.seq (.ret (.and (.isi (.var 0) 0) (.and (.not (.isi (.var 0) 1)) (.one (.chain .le .le (.var 1) (.var 0) (.var 2)))))) (
.nil))
def L_is_whole : List Fn := []
def F_is_whole : Fn := defF (tbl L_is_whole) gl 3 3 false C_is_whole
def N_look_reads : List Str := ["top", "reads", "one"]
def P_look_reads : List Str := ["top", "reads"]
def E_look_reads_0 : Xe := .comp (.sseq (.var 1)) [2] [2] .nil (.call 0 0 (.cons (.var 2) (.cons (.cst (.int 0)) (.cons (.var 0) .nil))))
def C_look_reads : Cd := (.seq (.ite (.not (.call 0 0 (.cons (.var 0) (.cons (.cst (.int 1)) (.cons (.glob 0) .nil)))))
(.seq (.raise 0) (
.nil))
(.nil)) (
.seq (.ite (.or (.not (.isi (.var 1) 4)) (.or (.cmp .gt (.bf .len (.cons (.var 1) .nil)) (.glob 1)) (.one (.not (.bf .all (.cons E_look_reads_0 .nil))))))
(.seq (.raise 1) (
.nil))
(.nil)) (
.nil)))
def L_look_reads : List Fn := [F_is_whole]
@[simp] theorem tb_look_reads_0 : tbl L_look_reads 0 = F_is_whole := rfl
def F_look_reads : Fn := defF (tbl L_look_reads) gl 2 3 false C_look_reads
def N_totals : List Str := ["top", "reads", "found", "k"]
def P_totals : List Str := ["top", "reads"]
def B_totals_0 : Cd := (.seq (.app 2 (.ifx (.cmp .gt (.var 3) (.cst (.int 0))) (.bin .add (.idx (.var 2) (.neg (.cst (.int 1)))) (.bin .mod (.bin .sub (.idx (.var 1) (.var 3)) (.idx (.var 1) (.bin .sub (.var 3) (.cst (.int 1))))) (.bin .add (.var 0) (.cst (.int 1))))) (.cst (.int 0)))) (
.nil))
def R_totals_0 : Cd := .for_ (.name 3) (.srng1 (.bf .len (.cons (.var 1) .nil))) B_totals_0
def C_totals : Cd := (.seq (.drop (.call 1 0 (.cons (.var 0) (.cons (.var 1) .nil)))) (
.seq (.newL 2 .nil) (
.seq R_totals_0 (
.seq (.ret (.frz 2)) (
.nil)))))
def L_totals : List Fn := [F_is_whole, F_look_reads]
@[simp] theorem tb_totals_1 : tbl L_totals 1 = F_look_reads := rfl
def F_totals : Fn := defF (tbl L_totals) gl 2 4 false C_totals
def N_fitting : List Str := ["size", "rest", "told", "slip", "low", "first", "one"]
def P_fitting : List Str := ["size", "rest", "told", "slip"]
def E_fitting_0 : Xe := .comp (.sseq (.tup (.cons (.var 5) (.cons (.bin .add (.var 5) (.var 0)) .nil)))) [6] [6] (.cmp .le (.var 6) (.bin .add (.var 2) (.var 3))) (.var 6)
def C_fitting : Cd := (.seq (.asg (.name 4) (.bf .max2 (.cons (.cst (.int 0)) (.cons (.bin .sub (.var 2) (.var 3)) .nil)))) (
.seq (.asg (.name 5) (.bin .add (.var 4) (.bin .mod (.bin .sub (.var 1) (.var 4)) (.var 0)))) (
.seq (.ret E_fitting_0) (
.nil))))
def L_fitting : List Fn := [F_is_whole, F_look_reads, F_totals]
def F_fitting : Fn := defF (tbl L_fitting) gl 4 7 false C_fitting
def N_sure_totals : List Str := ["top", "reads", "times", "slip", "found", "k", "some", "is_sure", "one"]
def P_sure_totals : List Str := ["top", "reads", "times", "slip"]
def E_sure_totals_0 : Xe := .comp (.sseq (.var 2)) [8] [8] .nil (.call 0 0 (.cons (.var 8) (.cons (.cst (.int 0)) (.cons (.glob 3) .nil))))
def B_sure_totals_0 : Cd := (.seq (.ite (.cmp .eq (.var 5) (.cst (.int 0)))
(.seq (.app 4 (.cst (.int 0))) (
.nil))
(.seq (.asg (.name 6) (.call 3 0 (.cons (.bin .add (.var 0) (.cst (.int 1))) (.cons (.bin .sub (.idx (.var 1) (.var 5)) (.idx (.var 1) (.bin .sub (.var 5) (.cst (.int 1))))) (.cons (.bin .sub (.idx (.var 2) (.var 5)) (.idx (.var 2) (.bin .sub (.var 5) (.cst (.int 1))))) (.cons (.var 3) .nil)))))) (
.seq (.asg (.name 7) (.and (.cmp .eq (.bf .len (.cons (.var 6) .nil)) (.cst (.int 1))) (.one (.isNot (.idx (.var 4) (.neg (.cst (.int 1)))))))) (
.seq (.app 4 (.ifx (.var 7) (.bin .add (.idx (.var 4) (.neg (.cst (.int 1)))) (.idx (.var 6) (.cst (.int 0)))) (.cst .none))) (
.nil))))) (
.nil))
def R_sure_totals_0 : Cd := .for_ (.name 5) (.srng1 (.bf .len (.cons (.var 1) .nil))) B_sure_totals_0
def C_sure_totals : Cd := (.seq (.drop (.call 1 0 (.cons (.var 0) (.cons (.var 1) .nil)))) (
.seq (.ite (.or (.not (.isi (.var 2) 4)) (.one (.cmp .ne (.bf .len (.cons (.var 2) .nil)) (.bf .len (.cons (.var 1) .nil)))))
(.seq (.raise 1) (
.nil))
(.nil)) (
.seq (.ite (.or (.not (.bf .all (.cons E_sure_totals_0 .nil))) (.one (.cmp .ne (.bf .sorted (.cons (.var 2) .nil)) (.var 2))))
(.seq (.raise 1) (
.nil))
(.nil)) (
.seq (.ite (.not (.call 0 0 (.cons (.var 3) (.cons (.cst (.int 0)) (.cons (.glob 2) .nil)))))
(.seq (.raise 0) (
.nil))
(.nil)) (
.seq (.newL 4 .nil) (
.seq R_sure_totals_0 (
.seq (.ret (.frz 4)) (
.nil))))))))
def L_sure_totals : List Fn := [F_is_whole, F_look_reads, F_totals, F_fitting]
@[simp] theorem tb_sure_totals_0 : tbl L_sure_totals 0 = F_is_whole := rfl
@[simp] theorem tb_sure_totals_1 : tbl L_sure_totals 1 = F_look_reads := rfl
@[simp] theorem tb_sure_totals_3 : tbl L_sure_totals 3 = F_fitting := rfl
def F_sure_totals : Fn := defF (tbl L_sure_totals) gl 4 9 false C_sure_totals
def N_evened : List Str := ["top", "under", "many", "k"]
def P_evened : List Str := ["top", "under", "many"]
def E_evened_0 : Xe := .comp (.srng1 (.var 2)) [3] [3] .nil (.bin .sub (.bin .div (.bin .mul (.bin .add (.var 3) (.cst (.int 1))) (.var 0)) (.var 1)) (.bin .div (.bin .mul (.var 3) (.var 0)) (.var 1)))
def C_evened : Cd := (.seq (.ite (.or (.not (.call 0 0 (.cons (.var 0) (.cons (.cst (.int 1)) (.cons (.glob 3) .nil))))) (.or (.not (.call 0 0 (.cons (.var 1) (.cons (.cst (.int 1)) (.cons (.glob 3) .nil))))) (.one (.cmp .lt (.var 0) (.var 1)))))
(.seq (.raise 0) (
.nil))
(.nil)) (
.seq (.ite (.not (.call 0 0 (.cons (.var 2) (.cons (.cst (.int 0)) (.cons (.glob 4) .nil)))))
(.seq (.raise 0) (
.nil))
(.nil)) (
.seq (.ret E_evened_0) (
.nil))))
def L_evened : List Fn := [F_is_whole, F_look_reads, F_totals, F_fitting, F_sure_totals]
@[simp] theorem tb_evened_0 : tbl L_evened 0 = F_is_whole := rfl
def F_evened : Fn := defF (tbl L_evened) gl 3 4 false C_evened
def N_drift : List Str := ["periods", "top", "under", "found", "total", "k", "one"]
def P_drift : List Str := ["periods", "top", "under"]
def E_drift_0 : Xe := .comp (.sseq (.var 0)) [6] [6] .nil (.call 0 0 (.cons (.var 6) (.cons (.cst (.int 0)) (.cons (.glob 3) .nil))))
def B_drift_0 : Cd := (.seq (.asg (.name 4) (.bin .add (.var 4) (.idx (.var 0) (.var 5)))) (
.seq (.app 3 (.bin .sub (.bin .mul (.var 4) (.var 2)) (.bin .mul (.bin .add (.var 5) (.cst (.int 1))) (.var 1)))) (
.nil)))
def R_drift_0 : Cd := .for_ (.name 5) (.srng1 (.bf .len (.cons (.var 0) .nil))) B_drift_0
def C_drift : Cd := (.seq (.ite (.or (.not (.isi (.var 0) 4)) (.one (.cmp .gt (.bf .len (.cons (.var 0) .nil)) (.glob 4))))
(.seq (.raise 1) (
.nil))
(.nil)) (
.seq (.ite (.not (.bf .all (.cons E_drift_0 .nil)))
(.seq (.raise 1) (
.nil))
(.nil)) (
.seq (.drop (.call 5 0 (.cons (.var 1) (.cons (.var 2) (.cons (.cst (.int 0)) .nil))))) (
.seq (.newL 3 (.cons (.cst (.int 0)) .nil)) (
.seq (.asg (.name 4) (.cst (.int 0))) (
.seq R_drift_0 (
.seq (.ret (.tup (.cons (.bf .min1 (.cons (.var 3) .nil)) (.cons (.bf .max1 (.cons (.var 3) .nil)) .nil)))) (
.nil))))))))
def L_drift : List Fn := [F_is_whole, F_look_reads, F_totals, F_fitting, F_sure_totals, F_evened]
@[simp] theorem tb_drift_0 : tbl L_drift 0 = F_is_whole := rfl
@[simp] theorem tb_drift_5 : tbl L_drift 5 = F_evened := rfl
def F_drift : Fn := defF (tbl L_drift) gl 3 7 false C_drift
def N__law_cell : List Str := ["_law_script", "_law_k"]
def P__law_cell : List Str := ["_law_script", "_law_k"]
def C__law_cell : Cd := (.seq (.ite (.var 0)
(.seq (.ret (.idx (.var 0) (.bin .mod (.var 1) (.bf .len (.cons (.var 0) .nil))))) (
.nil))
(.nil)) (
.seq (.ret (.cst (.int 0))) (
.nil)))
def L__law_cell : List Fn := [F_is_whole, F_look_reads, F_totals, F_fitting, F_sure_totals, F_evened, F_drift]
def F__law_cell : Fn := defF (tbl L__law_cell) gl 2 2 false C__law_cell
def N__law_mix : List Str := ["_law_script", "_law_k", "_law_number"]
def P__law_mix : List Str := ["_law_script", "_law_k"]
def C__law_mix : Cd := (.seq (.asg (.name 2) (.bin .mod (.bin .add (.call 7 0 (.cons (.var 0) (.cons (.var 1) .nil))) (.bin .mul (.cst (.int 104729)) (.bin .add (.var 1) (.cst (.int 1))))) (.cst (.int 4294967291)))) (
.seq (.asg (.name 2) (.bin .mod (.bin .pow (.var 2) (.cst (.int 5))) (.cst (.int 4294967279)))) (
.seq (.ret (.bin .mod (.bin .add (.bin .mul (.bin .div (.var 2) (.cst (.int 64))) (.cst (.int 69621))) (.var 2)) (.cst (.int 4294967231)))) (
.nil))))
def L__law_mix : List Fn := [F_is_whole, F_look_reads, F_totals, F_fitting, F_sure_totals, F_evened, F_drift, F__law_cell]
@[simp] theorem tb__law_mix_7 : tbl L__law_mix 7 = F__law_cell := rfl
def F__law_mix : Fn := defF (tbl L__law_mix) gl 2 3 false C__law_mix
def N__law_draw : List Str := ["_law_script", "_law_town", "_law_many"]
def P__law_draw : List Str := ["_law_script", "_law_town", "_law_many"]
def C__law_draw : Cd := (.seq (.app 1 (.cst (.int 0))) (
.seq (.ret (.bin .mod (.bin .div (.call 8 0 (.cons (.var 0) (.cons (.bf .len (.cons (.var 1) .nil)) .nil))) (.cst (.int 8))) (.var 2))) (
.nil)))
def L__law_draw : List Fn := [F_is_whole, F_look_reads, F_totals, F_fitting, F_sure_totals, F_evened, F_drift, F__law_cell, F__law_mix]
@[simp] theorem tb__law_draw_8 : tbl L__law_draw 8 = F__law_mix := rfl
def F__law_draw : Fn := defF (tbl L__law_draw) gl 3 3 false C__law_draw
def N__law_pick : List Str := ["_law_script", "_law_town", "_law_some"]
def P__law_pick : List Str := ["_law_script", "_law_town", "_law_some"]
def C__law_pick : Cd := (.seq (.ret (.idx (.var 2) (.call 9 0 (.cons (.var 0) (.cons (.var 1) (.cons (.bf .len (.cons (.var 2) .nil)) .nil)))))) (
.nil))
def L__law_pick : List Fn := [F_is_whole, F_look_reads, F_totals, F_fitting, F_sure_totals, F_evened, F_drift, F__law_cell, F__law_mix, F__law_draw]
@[simp] theorem tb__law_pick_9 : tbl L__law_pick 9 = F__law_draw := rfl
def F__law_pick : Fn := defF (tbl L__law_pick) gl 3 3 false C__law_pick
def N__law_sure : List Str := ["_law_size", "_law_reads", "_law_times", "_law_slip", "_law_found", "_law_k", "_law_told", "_law_rest", "_law_first", "_law_some", "_law_j", "_law_one"]
def P__law_sure : List Str := ["_law_size", "_law_reads", "_law_times", "_law_slip"]
def E__law_sure_0 : Xe := .comp (.srng2 (.var 8) (.bin .add (.bin .add (.var 8) (.bin .div (.bin .mul (.cst (.int 2)) (.var 3)) (.var 0))) (.cst (.int 5)))) [10] [10] .nil (.bin .add (.var 7) (.bin .mul (.var 10) (.var 0)))
def E__law_sure_1 : Xe := .comp (.sseq (.var 9)) [11] [11] (.cmp .le (.bf .abs (.cons (.bin .sub (.var 11) (.var 6)) .nil)) (.var 3)) (.var 11)
def B__law_sure_0 : Cd := (.seq (.asg (.name 6) (.bin .sub (.idx (.var 2) (.var 5)) (.idx (.var 2) (.bin .sub (.var 5) (.cst (.int 1)))))) (
.seq (.asg (.name 7) (.bin .mod (.bin .sub (.idx (.var 1) (.var 5)) (.idx (.var 1) (.bin .sub (.var 5) (.cst (.int 1))))) (.var 0))) (
.seq (.asg (.name 8) (.bf .max2 (.cons (.cst (.int 0)) (.cons (.bin .sub (.bin .div (.bin .sub (.var 6) (.var 3)) (.var 0)) (.cst (.int 1))) .nil)))) (
.seq (.asg (.name 9) E__law_sure_0) (
.seq (.asg (.name 9) E__law_sure_1) (
.seq (.app 4 (.ifx (.and (.cmp .eq (.bf .len (.cons (.var 9) .nil)) (.cst (.int 1))) (.one (.isNot (.idx (.var 4) (.neg (.cst (.int 1))))))) (.bin .add (.idx (.var 4) (.neg (.cst (.int 1)))) (.idx (.var 9) (.cst (.int 0)))) (.cst .none))) (
.nil)))))))
def R__law_sure_0 : Cd := .for_ (.name 5) (.srng2 (.cst (.int 1)) (.bf .len (.cons (.var 1) .nil))) B__law_sure_0
def C__law_sure : Cd := (.seq (.newL 4 (.cons (.cst (.int 0)) .nil)) (
.seq R__law_sure_0 (
.seq (.ret (.frz 4)) (
.nil))))
def L__law_sure : List Fn := [F_is_whole, F_look_reads, F_totals, F_fitting, F_sure_totals, F_evened, F_drift, F__law_cell, F__law_mix, F__law_draw, F__law_pick]
def F__law_sure : Fn := defF (tbl L__law_sure) gl 4 12 false C__law_sure
def N_law : List Str := ["_law_script", "_law_town", "_law_high", "_law_steps", "_law_first", "_law_sums", "_law_reads", "_law_wide", "_law_slip", "_law_off", "_law_times", "_law_one", "_law_told", "_law_under", "_law_over", "_law_many", "_law_periods", "_law_k", "_law_bent", "_law_offs", "_law_low", "_law_top_now"]
def P_law : List Str := ["_law_script"]
def E_law_0 : Xe := .comp (.srng1 (.call 9 0 (.cons (.var 0) (.cons (.var 1) (.cons (.cst (.int 12)) .nil))))) [17] [17] .nil (.call 9 0 (.cons (.var 0) (.cons (.var 1) (.cons (.bin .add (.var 2) (.cst (.int 1))) .nil))))
def E_law_1 : Xe := .comp (.srng1 (.bin .add (.bf .len (.cons (.var 3) .nil)) (.cst (.int 1)))) [17] [17] .nil (.bf .sum (.cons (.slice (.var 3) .nil (.var 17)) .nil))
def E_law_2 : Xe := .comp (.sseq (.var 5)) [11] [11] .nil (.bin .mod (.bin .add (.var 4) (.var 11)) (.bin .add (.var 2) (.cst (.int 1))))
def E_law_3 : Xe := .comp (.sseq (.var 3)) [11] [11] .nil (.bin .add (.var 11) (.bin .mul (.bin .add (.var 2) (.cst (.int 1))) (.call 9 0 (.cons (.var 0) (.cons (.var 1) (.cons (.cst (.int 4)) .nil))))))
def E_law_4 : Xe := .comp (.srng1 (.bin .add (.bf .len (.cons (.var 7) .nil)) (.cst (.int 1)))) [17] [17] .nil (.bf .sum (.cons (.slice (.var 7) .nil (.var 17)) .nil))
def E_law_5 : Xe := .comp (.sseq (.var 5)) [11] [11] .nil (.bin .mod (.bin .add (.var 4) (.var 11)) (.bin .add (.var 2) (.cst (.int 1))))
def B_law_0 : Cd := (.seq (.app 10 (.bin .add (.idx (.var 10) (.neg (.cst (.int 1)))) (.bf .max2 (.cons (.cst (.int 0)) (.cons (.bin .add (.var 11) (.ifx (.cmp .eq (.call 9 0 (.cons (.var 0) (.cons (.var 1) (.cons (.cst (.int 2)) .nil)))) (.cst (.int 0))) (.var 9) (.bin .sub (.cst (.int 0)) (.var 9)))) .nil))))) (
.nil))
def R_law_0 : Cd := .for_ (.name 11) (.sseq (.var 7)) B_law_0
def B_law_1 : Cd := (.seq (.ite (.cmp .ne (.bf .sum (.cons (.slice (.var 16) .nil (.var 17)) .nil)) (.bin .div (.bin .mul (.var 14) (.var 17)) (.var 13)))
(.seq (.ret (.cst (.bool false))) (
.nil))
(.nil)) (
.nil))
def R_law_1 : Cd := .for_ (.name 17) (.srng2 (.cst (.int 1)) (.bin .add (.var 15) (.cst (.int 1)))) B_law_1
def E_law_6 : Xe := .comp (.sseq (.var 16)) [11] [11] .nil (.bin .add (.var 11) (.call 9 0 (.cons (.var 0) (.cons (.var 1) (.cons (.cst (.int 3)) .nil)))))
def E_law_7 : Xe := .comp (.srng2 (.cst (.int 1)) (.bin .add (.var 15) (.cst (.int 1)))) [17] [17] .nil (.bin .sub (.bin .mul (.bf .sum (.cons (.slice (.var 18) .nil (.var 17)) .nil)) (.var 13)) (.bin .mul (.var 17) (.var 14)))
def T_law_26 : Cd := .seq (.ret (.cmp .eq (.call 6 0 (.cons (.var 18) (.cons (.var 14) (.cons (.var 13) .nil)))) (.tup (.cons (.bf .min1 (.cons (.var 19) .nil)) (.cons (.bf .max1 (.cons (.var 19) .nil)) .nil))))) .nil
def T_law_25 : Cd := .seq (.asg (.name 19) (.bin .add (.lst (.cons (.cst (.int 0)) .nil)) E_law_7)) T_law_26
def T_law_24 : Cd := .seq (.asg (.name 18) E_law_6) T_law_25
def T_law_23 : Cd := .seq (.ite (.or (.cmp .ne (.bf .len (.cons (.var 16) .nil)) (.var 15)) (.or (.not (.chain .lt .le (.bin .sub (.cst (.int 0)) (.var 13)) (.var 20) (.cst (.int 0)))) (.one (.cmp .ne (.var 21) (.cst (.int 0))))))
(.seq (.ret (.cst (.bool false))) (
.nil))
(.nil)) T_law_24
def T_law_22 : Cd := .seq (.asg (.names [20, 21]) (.call 6 0 (.cons (.var 16) (.cons (.var 14) (.cons (.var 13) .nil))))) T_law_23
def T_law_21 : Cd := .seq R_law_1 T_law_22
def T_law_20 : Cd := .seq (.asg (.name 16) (.call 5 0 (.cons (.var 14) (.cons (.var 13) (.cons (.var 15) .nil))))) T_law_21
def T_law_19 : Cd := .seq (.asg (.name 15) (.call 9 0 (.cons (.var 0) (.cons (.var 1) (.cons (.cst (.int 60)) .nil))))) T_law_20
def T_law_18 : Cd := .seq (.asg (.name 14) (.bin .add (.var 13) (.call 9 0 (.cons (.var 0) (.cons (.var 1) (.cons (.cst (.int 100000)) .nil)))))) T_law_19
def T_law_17 : Cd := .seq (.asg (.name 13) (.bin .add (.cst (.int 1)) (.call 9 0 (.cons (.var 0) (.cons (.var 1) (.cons (.call 10 0 (.cons (.var 0) (.cons (.var 1) (.cons (.lst (.cons (.cst (.int 7)) (.cons (.cst (.int 1000)) .nil))) .nil)))) .nil)))))) T_law_18
def T_law_16 : Cd := .seq (.ite (.and (.cmp .le (.bin .mul (.cst (.int 2)) (.var 8)) (.var 2)) (.one (.cmp .ne (.var 12) (.var 5))))
(.seq (.ret (.cst (.bool false))) (
.nil))
(.nil)) T_law_17
def T_law_15 : Cd := .seq (.ite (.cmp .ne (.var 12) (.call 11 0 (.cons (.bin .add (.var 2) (.cst (.int 1))) (.cons (.var 6) (.cons (.frz 10) (.cons (.var 8) .nil))))))
(.seq (.ret (.cst (.bool false))) (
.nil))
(.nil)) T_law_16
def T_law_14 : Cd := .seq (.asg (.name 12) (.call 4 0 (.cons (.var 2) (.cons (.var 6) (.cons (.frz 10) (.cons (.var 8) .nil)))))) T_law_15
def T_law_13 : Cd := .seq R_law_0 T_law_14
def T_law_12 : Cd := .seq (.newL 10 (.cons (.cst (.int 7)) .nil)) T_law_13
def T_law_11 : Cd := .seq (.asg (.name 9) (.call 9 0 (.cons (.var 0) (.cons (.var 1) (.cons (.bin .add (.var 8) (.cst (.int 1))) .nil))))) T_law_12
def T_law_10 : Cd := .seq (.asg (.name 8) (.call 9 0 (.cons (.var 0) (.cons (.var 1) (.cons (.call 10 0 (.cons (.var 0) (.cons (.var 1) (.cons (.lst (.cons (.cst (.int 1)) (.cons (.bin .add (.bin .div (.var 2) (.cst (.int 2))) (.cst (.int 1))) (.cons (.bin .mul (.cst (.int 2)) (.var 2)) .nil)))) .nil)))) .nil))))) T_law_11
def T_law_9 : Cd := .seq (.asg (.name 6) E_law_5) T_law_10
def T_law_8 : Cd := .seq (.asg (.name 5) E_law_4) T_law_9
def T_law_7 : Cd := .seq (.asg (.name 7) E_law_3) T_law_8
def T_law_6 : Cd := .seq (.ite (.or (.cmp .ne (.call 2 0 (.cons (.var 2) (.cons (.var 6) .nil))) (.var 5)) (.one (.cmp .ne (.call 2 0 (.cons (.var 2) (.cons (.lst .nil) .nil))) (.lst .nil))))
(.seq (.ret (.cst (.bool false))) (
.nil))
(.nil)) T_law_7
def T_law_5 : Cd := .seq (.asg (.name 6) E_law_2) T_law_6
def T_law_4 : Cd := .seq (.asg (.name 5) E_law_1) T_law_5
def T_law_3 : Cd := .seq (.asg (.name 4) (.call 9 0 (.cons (.var 0) (.cons (.var 1) (.cons (.bin .add (.var 2) (.cst (.int 1))) .nil))))) T_law_4
def T_law_2 : Cd := .seq (.asg (.name 3) E_law_0) T_law_3
def T_law_1 : Cd := .seq (.asg (.name 2) (.bin .add (.cst (.int 1)) (.call 9 0 (.cons (.var 0) (.cons (.var 1) (.cons (.call 10 0 (.cons (.var 0) (.cons (.var 1) (.cons (.lst (.cons (.cst (.int 9)) (.cons (.cst (.int 300)) (.cons (.cst (.int 65535)) .nil)))) .nil)))) .nil)))))) T_law_2
def T_law_0 : Cd := .seq (.newL 1 .nil) T_law_1
def C_law : Cd := T_law_0
def L_law : List Fn := [F_is_whole, F_look_reads, F_totals, F_fitting, F_sure_totals, F_evened, F_drift, F__law_cell, F__law_mix, F__law_draw, F__law_pick, F__law_sure]
@[simp] theorem tb_law_2 : tbl L_law 2 = F_totals := rfl
@[simp] theorem tb_law_4 : tbl L_law 4 = F_sure_totals := rfl
@[simp] theorem tb_law_5 : tbl L_law 5 = F_evened := rfl
@[simp] theorem tb_law_6 : tbl L_law 6 = F_drift := rfl
@[simp] theorem tb_law_9 : tbl L_law 9 = F__law_draw := rfl
@[simp] theorem tb_law_10 : tbl L_law 10 = F__law_pick := rfl
@[simp] theorem tb_law_11 : tbl L_law 11 = F__law_sure := rfl
def F_law : Fn := defF (tbl L_law) gl 1 22 false C_law
end K42

namespace K42
open PySem L2 BC
def top (i : Nat) : Stmt := PySem.Challenge.pw_beatchips_k42_whole_totals.main.body.getD i (.Pass ⟨0, 0, 0, 0⟩)
def X_is_whole : List Str := []
abbrev S_is_whole : Stmt := top 6
theorem sc_is_whole : scopeOk N_is_whole P_is_whole (defScope S_is_whole) = true := by decide +kernel
theorem ck_is_whole : chkS ⟨N_is_whole, X_is_whole, gnames, xnames⟩ (defScope S_is_whole) C_is_whole (defBody S_is_whole) = true := by decide +kernel
def X_look_reads : List Str := ["is_whole"]
abbrev S_look_reads : Stmt := top 12
theorem sc_look_reads : scopeOk N_look_reads P_look_reads (defScope S_look_reads) = true := by decide +kernel
theorem ck_look_reads : chkS ⟨N_look_reads, X_look_reads, gnames, xnames⟩ (defScope S_look_reads) C_look_reads (defBody S_look_reads) = true := by decide +kernel
def X_totals : List Str := ["is_whole", "look_reads"]
abbrev S_totals : Stmt := top 13
theorem sc_totals : scopeOk N_totals P_totals (defScope S_totals) = true := by decide +kernel
theorem ck_totals : chkS ⟨N_totals, X_totals, gnames, xnames⟩ (defScope S_totals) C_totals (defBody S_totals) = true := by decide +kernel
def X_fitting : List Str := ["is_whole", "look_reads", "totals"]
abbrev S_fitting : Stmt := top 15
theorem sc_fitting : scopeOk N_fitting P_fitting (defScope S_fitting) = true := by decide +kernel
theorem ck_fitting : chkS ⟨N_fitting, X_fitting, gnames, xnames⟩ (defScope S_fitting) C_fitting (defBody S_fitting) = true := by decide +kernel
def X_sure_totals : List Str := ["is_whole", "look_reads", "totals", "fitting"]
abbrev S_sure_totals : Stmt := top 14
theorem sc_sure_totals : scopeOk N_sure_totals P_sure_totals (defScope S_sure_totals) = true := by decide +kernel
theorem ck_sure_totals : chkS ⟨N_sure_totals, X_sure_totals, gnames, xnames⟩ (defScope S_sure_totals) C_sure_totals (defBody S_sure_totals) = true := by decide +kernel
def X_evened : List Str := ["is_whole", "look_reads", "totals", "fitting", "sure_totals"]
abbrev S_evened : Stmt := top 16
theorem sc_evened : scopeOk N_evened P_evened (defScope S_evened) = true := by decide +kernel
theorem ck_evened : chkS ⟨N_evened, X_evened, gnames, xnames⟩ (defScope S_evened) C_evened (defBody S_evened) = true := by decide +kernel
def X_drift : List Str := ["is_whole", "look_reads", "totals", "fitting", "sure_totals", "evened"]
abbrev S_drift : Stmt := top 17
theorem sc_drift : scopeOk N_drift P_drift (defScope S_drift) = true := by decide +kernel
theorem ck_drift : chkS ⟨N_drift, X_drift, gnames, xnames⟩ (defScope S_drift) C_drift (defBody S_drift) = true := by decide +kernel
def X__law_cell : List Str := ["is_whole", "look_reads", "totals", "fitting", "sure_totals", "evened", "drift"]
abbrev S__law_cell : Stmt := top 19
theorem sc__law_cell : scopeOk N__law_cell P__law_cell (defScope S__law_cell) = true := by decide +kernel
theorem ck__law_cell : chkS ⟨N__law_cell, X__law_cell, gnames, xnames⟩ (defScope S__law_cell) C__law_cell (defBody S__law_cell) = true := by decide +kernel
def X__law_mix : List Str := ["is_whole", "look_reads", "totals", "fitting", "sure_totals", "evened", "drift", "_law_cell"]
abbrev S__law_mix : Stmt := top 20
theorem sc__law_mix : scopeOk N__law_mix P__law_mix (defScope S__law_mix) = true := by decide +kernel
theorem ck__law_mix : chkS ⟨N__law_mix, X__law_mix, gnames, xnames⟩ (defScope S__law_mix) C__law_mix (defBody S__law_mix) = true := by decide +kernel
def X__law_draw : List Str := ["is_whole", "look_reads", "totals", "fitting", "sure_totals", "evened", "drift", "_law_cell", "_law_mix"]
abbrev S__law_draw : Stmt := top 21
theorem sc__law_draw : scopeOk N__law_draw P__law_draw (defScope S__law_draw) = true := by decide +kernel
theorem ck__law_draw : chkS ⟨N__law_draw, X__law_draw, gnames, xnames⟩ (defScope S__law_draw) C__law_draw (defBody S__law_draw) = true := by decide +kernel
def X__law_pick : List Str := ["is_whole", "look_reads", "totals", "fitting", "sure_totals", "evened", "drift", "_law_cell", "_law_mix", "_law_draw"]
abbrev S__law_pick : Stmt := top 22
theorem sc__law_pick : scopeOk N__law_pick P__law_pick (defScope S__law_pick) = true := by decide +kernel
theorem ck__law_pick : chkS ⟨N__law_pick, X__law_pick, gnames, xnames⟩ (defScope S__law_pick) C__law_pick (defBody S__law_pick) = true := by decide +kernel
def X__law_sure : List Str := ["is_whole", "look_reads", "totals", "fitting", "sure_totals", "evened", "drift", "_law_cell", "_law_mix", "_law_draw", "_law_pick"]
abbrev S__law_sure : Stmt := top 23
theorem sc__law_sure : scopeOk N__law_sure P__law_sure (defScope S__law_sure) = true := by decide +kernel
theorem ck__law_sure : chkS ⟨N__law_sure, X__law_sure, gnames, xnames⟩ (defScope S__law_sure) C__law_sure (defBody S__law_sure) = true := by decide +kernel
def X_law : List Str := ["is_whole", "look_reads", "totals", "fitting", "sure_totals", "evened", "drift", "_law_cell", "_law_mix", "_law_draw", "_law_pick", "_law_sure"]
abbrev S_law : Stmt := top 24
theorem sc_law : scopeOk N_law P_law (defScope S_law) = true := by decide +kernel
theorem ck_law : chkS ⟨N_law, X_law, gnames, xnames⟩ (defScope S_law) C_law (defBody S_law) = true := by decide +kernel
end K42

namespace K42
open PySem BC
theorem whole_int (i lo hi : Int) : F_is_whole [.d (.int i), .d (.int lo), .d (.int hi)] = .ok (.d (.bool (decide (lo ≤ i) && decide (i ≤ hi)))) [] := by
  by_cases h : lo ≤ i <;> by_cases h2 : i ≤ hi <;> simp [F_is_whole, defF, C_is_whole, enter, enter.enterW, semS, sem, isiV, peek, isiD, boolO, datO, dat, tru, peekR, truthD, cmpD, leave, outs, solid, h, h2]
theorem all_true {α : Type} {rs : List α} {b : α → Bool} (h : ∀ r ∈ rs, b r = true) : bAll [.list (rs.map fun r => .bool (b r))] = some (.bool true) := by
  have e : boolsD (rs.map fun r => .bool (b r)) = some (List.replicate rs.length true) := by
    induction rs with
    | nil => rfl
    | cons r rs ih =>
      show (boolsD (rs.map fun r => .bool (b r))).map (b r :: ·) = _
      rw [ih fun r hr => h r (List.mem_cons_of_mem _ hr), h r List.mem_cons_self]
      rfl
  simp [bAll, e]
theorem look_ok {top : Int} {rs : List Int} (h1 : 1 ≤ top) (h2 : top ≤ 65535) (h3 : rs.length ≤ 100) (h4 : ∀ r ∈ rs, 0 ≤ r ∧ r ≤ top) : F_look_reads [.d (.int top), .d (.list (rs.map PyData.int))] = .ok (.d .none) [] := by
  have hc : sem (tbl L_look_reads) gl E_look_reads_0 _ = _ := comp_map1 (s := ⟨[some (.d (.int top)), some (.d (.list (rs.map PyData.int))), none], [], []⟩) (xs := rs) PyData.int (fun r => .bool (decide (0 ≤ r) && decide (r ≤ top)))
    (by simp -implicitDefEqProofs [BC.run, toAvs, toAv, apart, b0ok, backOk, backAll, isiV, peek, isiD, tru, peekR, truthD, cmpD, ltD, binD, addD, subD, solid, solids, peeks, setTg, setIs, one1_dat, bfD, bLen, isNone, dat, partM, partI, Xe.isNil, Va.tag, goes, Re.closed, resOf, setRes, lstAt, Function.comp_def]) (by simp [lim]; omega) (fun x hx => by simp -implicitDefEqProofs [BC.run, toAvs, toAv, apart, b0ok, backOk, backAll, isiV, peek, isiD, tru, peekR, truthD, cmpD, ltD, binD, addD, subD, solid, solids, peeks, setTg, setIs, one1_dat, bfD, bLen, isNone, dat, partM, partI, Xe.isNil, Va.tag, goes, Re.closed, resOf, setRes, lstAt, whole_int])
  have hb := all_true (rs := rs) (b := fun r => decide (0 ≤ r) && decide (r ≤ top)) fun r hr => by simp [h4 r hr]
  have h3' : ¬ ((100 : Int) < (rs.length : Int)) := by omega
  simp only [F_look_reads, defF, C_look_reads, enter, enter.enterW]
  simp -implicitDefEqProofs [BC.run, toAvs, toAv, apart, b0ok, backOk, backAll, isiV, peek, isiD, tru, peekR, truthD, cmpD, ltD, binD, addD, subD, solid, solids, peeks, setTg, setIs, one1_dat, bfD, bLen, isNone, dat, partM, partI, Xe.isNil, Va.tag, goes, Re.closed, resOf, setRes, lstAt, whole_int, h1, h2, hc, h3', hb, leave, outs]

def nth (rs : List Int) (i : Nat) : Int := rs.getD i 0
theorem at_int {rs : List Int} {i : Nat} (h : i < rs.length) : idxD (.list (rs.map PyData.int)) (.int (i : Int)) = some (.int (nth rs i)) := by
  refine L2.atI_nat ?_
  unfold nth
  rw [List.getElem?_map, List.getElem?_eq_getElem h, List.getD_eq_getElem?_getD, List.getElem?_eq_getElem h]
  rfl
theorem at_int' {rs : List Int} {i : Nat} {j : Int} (e : j = (i : Int)) (h : i < rs.length) : idxD (.list (rs.map PyData.int)) (.int j) = some (.int (nth rs i)) := by rw [e]; exact at_int h
theorem at_last {l : List PyData} {x : PyData} : idxD (.list (l ++ [x])) (.int (-1)) = some x := L2.atI_last l x
def tA (m : Int) (rs : List Int) : Nat → Int
  | 0 => 0
  | k + 1 => tA m rs k + (nth rs (k + 1) - nth rs k) % m
theorem totals_ok {top : Int} {rs : List Int} (h1 : 1 ≤ top) (h2 : top ≤ 65535) (h3 : rs.length ≤ 100) (h4 : ∀ r ∈ rs, 0 ≤ r ∧ r ≤ top) : F_totals [.d (.int top), .d (.list (rs.map PyData.int))] = .ok (.d (.list ((List.range rs.length).map fun k => .int (tA (top + 1) rs k)))) [] := by
  have hl := look_ok h1 h2 h3 h4
  obtain ⟨s', e, o, hs⟩ := for_indR (Φ := tbl L_totals) (gl := gl) R_totals_0 rfl (s := ⟨[some (.d (.int top)), some (.d (.list (rs.map PyData.int))), some (.c 0), none], [], [.lst []]⟩) (xs := List.range rs.length) (fun i => .int (i : Int))
    (fun k s => ∃ o, s = ⟨[some (.d (.int top)), some (.d (.list (rs.map PyData.int))), some (.c 0), o], [], [.lst ((List.range k).map fun k => .int (tA (top + 1) rs k))]⟩)
    (rng1_src (by simp -implicitDefEqProofs [BC.run, toAvs, toAv, apart, b0ok, backOk, backAll, isiV, peek, isiD, tru, peekR, truthD, cmpD, ltD, binD, addD, subD, solid, solids, peeks, setTg, setIs, one1_dat, bfD, bLen, isNone, dat, partM, partI, Xe.isNil, Va.tag, goes, Re.closed, resOf, setRes, lstAt]) (by omega)) ⟨none, rfl⟩ fun k hk s ⟨o, hs⟩ => by
      have hk' : k < rs.length := by simpa using hk
      subst hs
      refine ⟨_, ⟨[some (.d (.int top)), some (.d (.list (rs.map PyData.int))), some (.c 0), some (.d (.int k))], [], [.lst ((List.range (k + 1)).map fun k => .int (tA (top + 1) rs k))]⟩, rfl, .inl ?_, _, rfl⟩
      unfold B_totals_0
      cases k with
      | zero => simp -implicitDefEqProofs [BC.run, toAvs, toAv, apart, b0ok, backOk, backAll, isiV, peek, isiD, tru, peekR, truthD, cmpD, ltD, binD, addD, subD, solid, solids, peeks, setTg, setIs, one1_dat, bfD, bLen, isNone, dat, partM, partI, Xe.isNil, Va.tag, goes, Re.closed, resOf, setRes, lstAt, lstAt, lim, tA]
      | succ k =>
        have e1 := at_int (rs := rs) (i := k + 1) hk'
        have e2 := at_int' (rs := rs) (i := k) (j := ((k + 1 : Nat) : Int) - 1) (by omega) (by omega)
        have e3 : ((0 : Int) < ((k + 1 : Nat) : Int)) := by omega
        have e4 : (0 : Int) < top + 1 := by omega
        have e5 : k + 1 < lim := by simp [lim]; omega
        have e6 := at_last (l := (List.range k).map fun k => .int (tA (top + 1) rs k)) (x := .int (tA (top + 1) rs k))
        simp only [List.range_succ, List.map_append, List.map_cons, List.map_nil]
        simp -implicitDefEqProofs [BC.run, toAvs, toAv, apart, b0ok, backOk, backAll, isiV, peek, isiD, tru, peekR, truthD, cmpD, ltD, binD, addD, subD, solid, solids, peeks, setTg, setIs, one1_dat, bfD, bLen, isNone, dat, partM, partI, Xe.isNil, Va.tag, goes, Re.closed, resOf, setRes, lstAt, lstAt, modD, -Int.natCast_add, e1, e2, e3, e4, e5, e6, tA]
  simp only [F_totals, defF, C_totals, enter, enter.enterW]
  simp -implicitDefEqProofs [BC.run, toAvs, toAv, apart, b0ok, backOk, backAll, isiV, peek, isiD, tru, peekR, truthD, cmpD, ltD, binD, addD, subD, solid, solids, peeks, setTg, setIs, one1_dat, bfD, bLen, isNone, dat, partM, partI, Xe.isNil, Va.tag, goes, Re.closed, resOf, setRes, lstAt, hl, lstAt, e, hs, leave, outs]

def lowO (told slip : Int) : Int := if told - slip > 0 then told - slip else 0
def fst0 (size rest told slip : Int) : Int := lowO told slip + (rest - lowO told slip) % size
def fit (size rest told slip : Int) : List Int := [fst0 size rest told slip, fst0 size rest told slip + size].filter fun x => decide (x ≤ told + slip)
theorem fitting_ok {size rest told slip : Int} (hs : 0 < size) : F_fitting [.d (.int size), .d (.int rest), .d (.int told), .d (.int slip)] = .ok (.d (.list ((fit size rest told slip).map PyData.int))) [] := by
  have hc : sem (tbl L_fitting) gl E_fitting_0 _ = _ := comp_filter1 (s := ⟨[some (.d (.int size)), some (.d (.int rest)), some (.d (.int told)), some (.d (.int slip)), some (.d (.int (lowO told slip))), some (.d (.int (fst0 size rest told slip))), none], [], []⟩)
    (xs := [fst0 size rest told slip, fst0 size rest told slip + size]) .int (fun x => decide (x ≤ told + slip)) .int rfl (by simp -implicitDefEqProofs [BC.run, toAvs, toAv, apart, b0ok, backOk, backAll, isiV, peek, isiD, tru, peekR, truthD, cmpD, ltD, binD, addD, subD, solid, solids, peeks, setTg, setIs, one1_dat, bfD, bLen, isNone, dat, partM, partI, Xe.isNil, Va.tag, goes, Re.closed, resOf, setRes, lstAt, lim]) (by simp [lim]) (fun x _ => by simp -implicitDefEqProofs [BC.run, toAvs, toAv, apart, b0ok, backOk, backAll, isiV, peek, isiD, tru, peekR, truthD, cmpD, ltD, binD, addD, subD, solid, solids, peeks, setTg, setIs, one1_dat, bfD, bLen, isNone, dat, partM, partI, Xe.isNil, Va.tag, goes, Re.closed, resOf, setRes, lstAt]) (fun x _ _ => by simp -implicitDefEqProofs [BC.run, toAvs, toAv, apart, b0ok, backOk, backAll, isiV, peek, isiD, tru, peekR, truthD, cmpD, ltD, binD, addD, subD, solid, solids, peeks, setTg, setIs, one1_dat, bfD, bLen, isNone, dat, partM, partI, Xe.isNil, Va.tag, goes, Re.closed, resOf, setRes, lstAt])
  simp only [F_fitting, defF, C_fitting, enter, enter.enterW]
  have e1 : bMax2 [.int 0, .int (told - slip)] = some (.int (lowO told slip)) := rfl
  have e2 : lowO told slip + (rest - lowO told slip) % size = fst0 size rest told slip := rfl
  simp -implicitDefEqProofs [BC.run, toAvs, toAv, apart, b0ok, backOk, backAll, isiV, peek, isiD, tru, peekR, truthD, cmpD, ltD, binD, addD, subD, solid, solids, peeks, setTg, setIs, one1_dat, bfD, bLen, isNone, dat, partM, partI, Xe.isNil, Va.tag, goes, Re.closed, resOf, setRes, lstAt, e1, modD, hs, e2, hc, leave, outs]
  rfl
theorem evened_ok {top under : Int} {many : Nat} (h1 : 1 ≤ top) (h2 : top ≤ 1000000000) (h3 : 1 ≤ under) (h4 : under ≤ top) (h5 : many ≤ 200) :
    F_evened [.d (.int top), .d (.int under), .d (.int (many : Int))] = .ok (.d (.list ((List.range many).map fun (k : Nat) => .int (((k : Int) + 1) * top / under - (k : Int) * top / under)))) [] := by
  have hu : under ≤ 1000000000 := by omega
  have hc : sem (tbl L_evened) gl E_evened_0 _ = _ := comp_map1 (s := ⟨[some (.d (.int top)), some (.d (.int under)), some (.d (.int (many : Int))), none], [], []⟩)
    (xs := List.range many) (fun k => .int (k : Int)) (fun k => .int (((k : Int) + 1) * top / under - (k : Int) * top / under)) (rng1_src (by simp -implicitDefEqProofs [BC.run, toAvs, toAv, apart, b0ok, backOk, backAll, isiV, peek, isiD, tru, peekR, truthD, cmpD, ltD, binD, addD, subD, solid, solids, peeks, setTg, setIs, one1_dat, bfD, bLen, isNone, dat, partM, partI, Xe.isNil, Va.tag, goes, Re.closed, resOf, setRes, lstAt]) (by omega)) (by simp [lim]; omega) (fun x hx => by
      have hx : x < many := by simpa using hx
      have m1 : mulD (.int ((x : Int) + 1)) (.int top) = some (.int (((x : Int) + 1) * top)) := mul_l (by omega) (by omega)
      have m2 : mulD (.int (x : Int)) (.int top) = some (.int ((x : Int) * top)) := mul_l (by omega) (by omega)
      have d : ∀ a, divD (.int a) (.int under) = some (.int (a / under)) := fun a => div_ok (by omega) (by omega)
      simp -implicitDefEqProofs [BC.run, toAvs, toAv, apart, b0ok, backOk, backAll, isiV, peek, isiD, tru, peekR, truthD, cmpD, ltD, binD, addD, subD, solid, solids, peeks, setTg, setIs, one1_dat, bfD, bLen, isNone, dat, partM, partI, Xe.isNil, Va.tag, goes, Re.closed, resOf, setRes, lstAt, m1, m2, d])
  have n4 : ¬ top < under := by omega
  have h5' : (many : Int) ≤ 200 := by omega
  simp only [F_evened, defF, C_evened, enter, enter.enterW]
  simp -implicitDefEqProofs [BC.run, toAvs, toAv, apart, b0ok, backOk, backAll, isiV, peek, isiD, tru, peekR, truthD, cmpD, ltD, binD, addD, subD, solid, solids, peeks, setTg, setIs, one1_dat, bfD, bLen, isNone, dat, partM, partI, Xe.isNil, Va.tag, goes, Re.closed, resOf, setRes, lstAt, whole_int, h1, h2, h3, hu, n4, h5', hc, leave, outs]

def psum (ps : List Int) : Nat → Int
  | 0 => 0
  | k + 1 => psum ps k + nth ps k
theorem psum_bound {ps : List Int} {b : Int} (h : ∀ p ∈ ps, 0 ≤ p ∧ p ≤ b) : ∀ k, k ≤ ps.length → 0 ≤ psum ps k ∧ psum ps k ≤ k * b
  | 0, _ => by simp [psum]
  | k + 1, hk => by
    have ih := psum_bound h k (by omega)
    have hn : nth ps k ∈ ps := by
      unfold nth
      rw [List.getD_eq_getElem?_getD, List.getElem?_eq_getElem (by omega)]
      exact List.getElem_mem _
    have := h _ hn
    show 0 ≤ psum ps k + nth ps k ∧ psum ps k + nth ps k ≤ ((k + 1 : Nat) : Int) * b
    rw [show (((k + 1 : Nat) : Int)) * b = (k : Int) * b + b by rw [Int.natCast_add, Int.add_mul]; simp]
    omega
def dOff (ps : List Int) (top under : Int) (k : Nat) : Int := psum ps k * under - (k : Int) * top
def dOffs (ps : List Int) (top under : Int) (n : Nat) : List Int := (List.range n).map (dOff ps top under)
theorem min_ints {a : Int} {r : List Int} : bMin1 [.list ((a :: r).map PyData.int)] = some (.int (minL (a :: r))) := by
  show (match intsD ((a :: r).map PyData.int) with
    | some (a :: r) => some (PyData.int (minL (a :: r)))
    | _ => none) = _
  rw [intsD_map]
theorem max_ints {a : Int} {r : List Int} : bMax1 [.list ((a :: r).map PyData.int)] = some (.int (maxL (a :: r))) := by
  show (match intsD ((a :: r).map PyData.int) with
    | some (a :: r) => some (PyData.int (maxL (a :: r)))
    | _ => none) = _
  rw [intsD_map]
theorem drift_ok {top under : Int} {ps : List Int} (h1 : 1 ≤ top) (h2 : top ≤ 1000000000) (h3 : 1 ≤ under) (h4 : under ≤ top) (h5 : ps.length ≤ 200) (h6 : ∀ p ∈ ps, 0 ≤ p ∧ p ≤ 1000000000) :
    F_drift [.d (.list (ps.map PyData.int)), .d (.int top), .d (.int under)] = .ok (.d (.tuple [.int (minL (dOffs ps top under (ps.length + 1))), .int (maxL (dOffs ps top under (ps.length + 1)))])) [] := by
  have he := evened_ok (many := 0) h1 h2 h3 h4 (by omega)
  have he : F_evened [.d (.int top), .d (.int under), .d (.int 0)] = .ok (.d (.list [])) [] := he
  have hc : sem (tbl L_drift) gl E_drift_0 _ = _ := comp_map1 (s := ⟨[some (.d (.list (ps.map PyData.int))), some (.d (.int top)), some (.d (.int under)), none, none, none, none], [], []⟩) (xs := ps) PyData.int (fun r => .bool (decide (0 ≤ r) && decide (r ≤ 1000000000)))
    (by simp -implicitDefEqProofs [BC.run, toAvs, toAv, apart, b0ok, backOk, backAll, isiV, peek, isiD, tru, peekR, truthD, cmpD, ltD, binD, addD, subD, solid, solids, peeks, setTg, setIs, one1_dat, bfD, bLen, isNone, dat, partM, partI, Xe.isNil, Va.tag, goes, Re.closed, resOf, setRes, lstAt, Function.comp_def]) (by simp [lim]; omega) (fun x hx => by simp -implicitDefEqProofs [BC.run, toAvs, toAv, apart, b0ok, backOk, backAll, isiV, peek, isiD, tru, peekR, truthD, cmpD, ltD, binD, addD, subD, solid, solids, peeks, setTg, setIs, one1_dat, bfD, bLen, isNone, dat, partM, partI, Xe.isNil, Va.tag, goes, Re.closed, resOf, setRes, lstAt, whole_int])
  have hb := all_true (rs := ps) (b := fun r => decide (0 ≤ r) && decide (r ≤ 1000000000)) fun r hr => by simp [h6 r hr]
  have h5' : ¬ ((200 : Int) < (ps.length : Int)) := by omega
  obtain ⟨s', e, o, hs⟩ := for_indR (Φ := tbl L_drift) (gl := gl) R_drift_0 rfl (s := ⟨[some (.d (.list (ps.map PyData.int))), some (.d (.int top)), some (.d (.int under)), some (.c 0), some (.d (.int 0)), none, none], [], [.lst [.int 0]]⟩) (xs := List.range ps.length) (fun i => .int (i : Int))
    (fun k s => ∃ o, s = ⟨[some (.d (.list (ps.map PyData.int))), some (.d (.int top)), some (.d (.int under)), some (.c 0), some (.d (.int (psum ps k))), o, none], [], [.lst ((dOffs ps top under (k + 1)).map PyData.int)]⟩)
    (rng1_src (by simp -implicitDefEqProofs [BC.run, toAvs, toAv, apart, b0ok, backOk, backAll, isiV, peek, isiD, tru, peekR, truthD, cmpD, ltD, binD, addD, subD, solid, solids, peeks, setTg, setIs, one1_dat, bfD, bLen, isNone, dat, partM, partI, Xe.isNil, Va.tag, goes, Re.closed, resOf, setRes, lstAt]) (by omega)) ⟨none, by simp [dOffs, dOff, psum]⟩ fun k hk s ⟨o, hs⟩ => by
      have hk' : k < ps.length := by simpa using hk
      subst hs
      refine ⟨_, ⟨[some (.d (.list (ps.map PyData.int))), some (.d (.int top)), some (.d (.int under)), some (.c 0), some (.d (.int (psum ps (k + 1)))), some (.d (.int k)), none], [], [.lst ((dOffs ps top under (k + 1 + 1)).map PyData.int)]⟩, rfl, .inl ?_, _, rfl⟩
      unfold B_drift_0
      have e1 := at_int (rs := ps) (i := k) hk'
      have e4 : psum ps k + nth ps k = psum ps (k + 1) := rfl
      have m1 : mulD (.int (psum ps (k + 1))) (.int under) = some (.int (psum ps (k + 1) * under)) := mul_r (by omega) (by omega)
      have m2 : mulD (.int ((k : Int) + 1)) (.int top) = some (.int (((k : Int) + 1) * top)) := mul_r (by omega) (by omega)
      have e5 : (dOffs ps top under (k + 1)).length < lim := by simp [lim, dOffs]; omega
      have e7 : dOffs ps top under (k + 1 + 1) = dOffs ps top under (k + 1) ++ [psum ps (k + 1) * under - ((k : Int) + 1) * top] := by
        unfold dOffs
        rw [List.range_succ, List.map_append]
        rfl
      rw [e7]
      simp -implicitDefEqProofs [BC.run, toAvs, toAv, apart, b0ok, backOk, backAll, isiV, peek, isiD, tru, peekR, truthD, cmpD, ltD, binD, addD, subD, solid, solids, peeks, setTg, setIs, one1_dat, bfD, bLen, isNone, dat, partM, partI, Xe.isNil, Va.tag, goes, Re.closed, resOf, setRes, lstAt, lstAt, e1, e4, e5, m1, m2]
  have e8 : ∃ a r, dOffs ps top under (ps.length + 1) = a :: r := by
    unfold dOffs
    rw [List.range_succ_eq_map]
    exact ⟨_, _, rfl⟩
  obtain ⟨a, r, e8⟩ := e8
  have m1 := min_ints (a := a) (r := r)
  have m2 := max_ints (a := a) (r := r)
  rw [List.length_range, e8] at hs
  simp only [F_drift, defF, C_drift, enter, enter.enterW]
  rw [e8]
  simp only [List.map_cons] at m1 m2 hs
  simp -implicitDefEqProofs [BC.run, toAvs, toAv, apart, b0ok, backOk, backAll, isiV, peek, isiD, tru, peekR, truthD, cmpD, ltD, binD, addD, subD, solid, solids, peeks, setTg, setIs, one1_dat, bfD, bLen, isNone, dat, partM, partI, Xe.isNil, Va.tag, goes, Re.closed, resOf, setRes, lstAt, hc, h5', hb, he, lim, e, hs, m1, m2, leave, outs]
end K42

namespace K42
open PySem BC
theorem cell_ok (ns : List Int) (k : Int) : ∃ c : Int, F__law_cell [.s ns, .d (.int k)] = .ok (.d (.int c)) [] := by
  cases ns with
  | nil =>
    refine ⟨0, ?_⟩
    simp only [F__law_cell, defF, C__law_cell, enter, enter.enterW]
    simp -implicitDefEqProofs [BC.run, toAvs, toAv, apart, b0ok, backOk, backAll, isiV, peek, isiD, tru, peekR, truthD, cmpD, ltD, binD, addD, subD, solid, solids, peeks, setTg, setIs, one1_dat, bfD, bLen, isNone, dat, partM, partI, Xe.isNil, Va.tag, goes, Re.closed, resOf, setRes, lstAt, leave, outs]
  | cons a r =>
    have hl : (0 : Int) < (r.length : Int) + 1 := by omega
    have h1 := Int.emod_nonneg k (show (r.length : Int) + 1 ≠ 0 by omega)
    have h2 := Int.emod_lt_of_pos k hl
    have e := at_int' (rs := a :: r) (i := (k % ((r.length : Int) + 1)).toNat) (j := k % ((r.length : Int) + 1)) (by omega) (by simp; omega)
    simp only [List.map_cons] at e
    refine ⟨nth (a :: r) (k % ((r.length : Int) + 1)).toNat, ?_⟩
    simp only [F__law_cell, defF, C__law_cell, enter, enter.enterW]
    simp -implicitDefEqProofs [BC.run, toAvs, toAv, apart, b0ok, backOk, backAll, isiV, peek, isiD, tru, peekR, truthD, cmpD, ltD, binD, addD, subD, solid, solids, peeks, setTg, setIs, one1_dat, bfD, bLen, isNone, dat, partM, partI, Xe.isNil, Va.tag, goes, Re.closed, resOf, setRes, lstAt, modD, hl, e, leave, outs]
theorem mix_ok (ns : List Int) (k : Int) : ∃ c : Int, 0 ≤ c ∧ F__law_mix [.s ns, .d (.int k)] = .ok (.d (.int c)) [] := by
  obtain ⟨c, hc⟩ := cell_ok ns k
  have m1 : mulD (.int 104729) (.int (k + 1)) = some (.int (104729 * (k + 1))) := mul_l (by omega) (by omega)
  have h1 := Int.emod_nonneg (c + 104729 * (k + 1)) (show (4294967291 : Int) ≠ 0 by decide)
  have h2 := Int.emod_lt_of_pos (c + 104729 * (k + 1)) (show (0 : Int) < 4294967291 by decide)
  have p : powD (.int ((c + 104729 * (k + 1)) % 4294967291)) (.int 5) = some (.int (((c + 104729 * (k + 1)) % 4294967291) ^ 5)) := by
    show (if _ then _ else _) = _
    rw [if_pos ⟨by decide, by decide, by unfold big; omega, by unfold big; omega⟩]
    rfl
  have d : ∀ a, divD (.int a) (.int 64) = some (.int (a / 64)) := fun a => div_ok (by decide) (by decide)
  have m2 : ∀ a, mulD (.int a) (.int 69621) = some (.int (a * 69621)) := fun a => mul_r (by decide) (by decide)
  refine ⟨_, Int.emod_nonneg ((((c + 104729 * (k + 1)) % 4294967291) ^ 5 % 4294967279 / 64) * 69621 + ((c + 104729 * (k + 1)) % 4294967291) ^ 5 % 4294967279) (show (4294967231 : Int) ≠ 0 by decide), ?_⟩
  simp only [F__law_mix, defF, C__law_mix, enter, enter.enterW]
  simp -implicitDefEqProofs [BC.run, toAvs, toAv, apart, b0ok, backOk, backAll, isiV, peek, isiD, tru, peekR, truthD, cmpD, ltD, binD, addD, subD, solid, solids, peeks, setTg, setIs, one1_dat, bfD, bLen, isNone, dat, partM, partI, Xe.isNil, Va.tag, goes, Re.closed, resOf, setRes, lstAt, modD, hc, m1, p, d, m2, leave, outs]
def town (n : Nat) : List PyData := List.replicate n (.int 0)
theorem draw_ok (ns : List Int) (n : Nat) {many : Int} (hm : 0 < many) (hn : n < 1000000) : ∃ v : Int, 0 ≤ v ∧ v < many ∧ F__law_draw [.s ns, .r (.lst (town n)), .d (.int many)] = .ok (.d (.int v)) [.lst (town (n + 1))] := by
  obtain ⟨c, hc0, hc⟩ := mix_ok ns ((n : Int) + 1)
  have d : ∀ a, divD (.int a) (.int 8) = some (.int (a / 8)) := fun a => div_ok (by decide) (by decide)
  refine ⟨c / 8 % many, Int.emod_nonneg _ (by omega), Int.emod_lt_of_pos _ hm, ?_⟩
  have e1 : town n ++ [.int 0] = town (n + 1) := by unfold town; rw [List.replicate_succ']
  have e2 : (town n).length = n := by simp [town]
  have e3 : (town (n + 1)).length = n + 1 := by simp [town]
  simp only [F__law_draw, defF, C__law_draw, enter, enter.enterW]
  simp -implicitDefEqProofs [BC.run, toAvs, toAv, apart, b0ok, backOk, backAll, isiV, peek, isiD, tru, peekR, truthD, cmpD, ltD, binD, addD, subD, solid, solids, peeks, setTg, setIs, one1_dat, bfD, bLen, isNone, dat, partM, partI, Xe.isNil, Va.tag, goes, Re.closed, resOf, setRes, lstAt, modD, hc, d, hm, e1, e2, e3, lim, hn, leave, outs]
theorem pick_ok (ns : List Int) (n : Nat) {l : List PyData} (hl : l ≠ []) (hn : n < 1000000) : ∃ (i : Nat) (h : i < l.length), F__law_pick [.s ns, .r (.lst (town n)), .d (.list l)] = .ok (.d l[i]) [.lst (town (n + 1))] := by
  have hp : 0 < l.length := List.length_pos_iff.mpr hl
  obtain ⟨v, h1, h2, e⟩ := draw_ok ns n (many := (l.length : Int)) (by omega) hn
  refine ⟨v.toNat, by omega, ?_⟩
  have e2 : idxD (.list l) (.int v) = some l[v.toNat] := by
    have q := L2.atI_nat (xs := l) (j := v.toNat) (v := l[v.toNat]) (List.getElem?_eq_getElem (by omega))
    rw [Int.toNat_of_nonneg h1] at q
    exact q
  simp only [F__law_pick, defF, C__law_pick, enter, enter.enterW]
  simp -implicitDefEqProofs [BC.run, toAvs, toAv, apart, b0ok, backOk, backAll, isiV, peek, isiD, tru, peekR, truthD, cmpD, ltD, binD, addD, subD, solid, solids, peeks, setTg, setIs, one1_dat, bfD, bLen, isNone, dat, partM, partI, Xe.isNil, Va.tag, goes, Re.closed, resOf, setRes, lstAt, e, e2, leave, outs]
end K42

namespace K42
open PySem BC
def num : PyData → Bool
  | .int _ => true
  | .none => true
  | .bool _ => true
  | _ => false
theorem nums_lay : ∀ {l : List PyData}, (∀ x ∈ l, num x = true) → PyData.canLayAll0 l = true ∧ PyData.depthAll l = 0
  | [], _ => ⟨rfl, rfl⟩
  | x :: r, h => by
    obtain ⟨h1, h2⟩ := nums_lay (l := r) fun y hy => h y (List.mem_cons_of_mem _ hy)
    have hx := h x List.mem_cons_self
    cases x <;> first | (cases hx; done) | exact ⟨by simp [PyData.canLayAll0, PyData.canLay0, h1], by simp [PyData.depthAll, PyData.depth, h2]⟩
theorem eqD_list {l : List PyData} (h : ∀ x ∈ l, num x = true) : eqD (.list l) (.list l) = some true := by
  obtain ⟨h1, h2⟩ := nums_lay h
  have hs : SeqAt.shaped (.list l) = true := by simp [SeqAt.shaped, PyData.canLay0, PyData.depth, h1, h2]
  have he : PyData.eqv (.list l) (.list l) = true := by rw [PyData.eqv]; exact SeqAt.eqvAll_refl l h1
  unfold eqD
  rw [hs, he]
  rfl
theorem eqD_tup {l : List PyData} (h : ∀ x ∈ l, num x = true) : eqD (.tuple l) (.tuple l) = some true := by
  obtain ⟨h1, h2⟩ := nums_lay h
  have hs : SeqAt.shaped (.tuple l) = true := by simp [SeqAt.shaped, PyData.canLay0, PyData.depth, h1, h2]
  have he : PyData.eqv (.tuple l) (.tuple l) = true := by rw [PyData.eqv]; exact SeqAt.eqvAll_refl l h1
  unfold eqD
  rw [hs, he]
  rfl
def opt : Option Int → PyData
  | some i => .int i
  | none => .none
theorem num_opt (o : Option Int) : num (opt o) = true := by cases o <;> rfl
def single : List Int → Option Int
  | [x] => some x
  | _ => none
def oA (f : Nat → List Int) : Nat → Option Int
  | 0 => some 0
  | k + 1 => match oA f k, single (f k) with
    | some a, some x => some (a + x)
    | _, _ => none
theorem oA_single {f g : Nat → List Int} {n : Nat} (h : ∀ k, k + 1 < n → single (f k) = single (g k)) : ∀ k, k < n → oA f k = oA g k
  | 0, _ => rfl
  | k + 1, hk => by
    show (match oA f k, single (f k) with
      | some a, some x => some (a + x)
      | _, _ => none) = _
    rw [oA_single h k (by omega), h k hk]
    rfl
def fitK (size slip : Int) (rs ts : List Int) (k : Nat) : List Int := fit size (nth rs (k + 1) - nth rs k) (nth ts (k + 1) - nth ts k) slip
theorem sure_step {top slip : Int} {rs ts : List Int} {k : Nat} (h1 : 1 ≤ top) (hk : k + 1 < rs.length) (h3 : rs.length ≤ 100) (h5 : ts.length = rs.length) {F : List PyData} (hF : F.length = k) (o : Option Int) (o2 o3 : Option Va) :
    ∃ o2' o3', semS (tbl L_sure_totals) gl B_sure_totals_0 ⟨[some (.d (.int top)), some (.d (.list (rs.map .int))), some (.d (.list (ts.map .int))), some (.d (.int slip)), some (.c 0), some (.d (.int ((k + 1 : Nat) : Int))), o2, o3, none], [], [.lst (F ++ [opt o])]⟩ =
      .ok .next ⟨[some (.d (.int top)), some (.d (.list (rs.map .int))), some (.d (.list (ts.map .int))), some (.d (.int slip)), some (.c 0), some (.d (.int ((k + 1 : Nat) : Int))), o2', o3', none], [], [.lst (F ++ [opt o] ++ [opt (match o, single (fitK (top + 1) slip rs ts k) with
          | some a, some x => some (a + x)
          | _, _ => none)])]⟩ := by
  have e0 : ∀ a b : Int, eqD (.int a) (.int b) = some (decide (a = b)) := fun _ _ => rfl
  have e1 := at_int (rs := rs) (i := k + 1) hk
  have e2 := at_int' (rs := rs) (i := k) (j := ((k + 1 : Nat) : Int) - 1) (by omega) (by omega)
  have e3 := at_int (rs := ts) (i := k + 1) (by omega)
  have e4 := at_int' (rs := ts) (i := k) (j := ((k + 1 : Nat) : Int) - 1) (by omega) (by omega)
  have e5 : k + 1 < lim := by simp [lim]; omega
  have e6 := at_last (l := F) (x := opt o)
  have e7 : ¬ (((k + 1 : Nat) : Int) = 0) := by omega
  have hf := fitting_ok (size := top + 1) (rest := nth rs (k + 1) - nth rs k) (told := nth ts (k + 1) - nth ts k) (slip := slip) (by omega)
  have hf : F_fitting [.d (.int (top + 1)), .d (.int (nth rs (k + 1) - nth rs k)), .d (.int (nth ts (k + 1) - nth ts k)), .d (.int slip)] = .ok (.d (.list ((fitK (top + 1) slip rs ts k).map .int))) [] := hf
  generalize fitK (top + 1) slip rs ts k = gf at *
  unfold B_sure_totals_0
  cases o with
  | none =>
    simp only [opt] at e6
    match gf with
    | [] => exact ⟨some (.d (.list [])), some (.d (.bool false)), by simp -implicitDefEqProofs [BC.run, toAvs, toAv, apart, b0ok, backOk, backAll, isiV, peek, isiD, tru, peekR, truthD, cmpD, ltD, binD, addD, subD, solid, solids, peeks, setTg, setIs, one1_dat, bfD, bLen, isNone, dat, partM, partI, Xe.isNil, Va.tag, goes, Re.closed, resOf, setRes, lstAt, e0, -Int.natCast_add, e1, e2, e3, e4, e5, e6, e7, hf, hF, opt, single]⟩
    | [x] => exact ⟨some (.d (.list [.int x])), some (.d (.bool false)), by simp -implicitDefEqProofs [BC.run, toAvs, toAv, apart, b0ok, backOk, backAll, isiV, peek, isiD, tru, peekR, truthD, cmpD, ltD, binD, addD, subD, solid, solids, peeks, setTg, setIs, one1_dat, bfD, bLen, isNone, dat, partM, partI, Xe.isNil, Va.tag, goes, Re.closed, resOf, setRes, lstAt, e0, -Int.natCast_add, e1, e2, e3, e4, e5, e6, e7, hf, hF, opt, single]⟩
    | x :: y :: r =>
      have e8 : ¬ (((r.length + 1 + 1 : Nat) : Int) = 1) := by omega
      exact ⟨some (.d (.list (.int x :: .int y :: r.map .int))), some (.d (.bool false)), by simp -implicitDefEqProofs [BC.run, toAvs, toAv, apart, b0ok, backOk, backAll, isiV, peek, isiD, tru, peekR, truthD, cmpD, ltD, binD, addD, subD, solid, solids, peeks, setTg, setIs, one1_dat, bfD, bLen, isNone, dat, partM, partI, Xe.isNil, Va.tag, goes, Re.closed, resOf, setRes, lstAt, e0, -Int.natCast_add, e1, e2, e3, e4, e5, e6, e7, hf, hF, opt, single, e8]⟩
  | some a =>
    simp only [opt] at e6
    match gf with
    | [] => exact ⟨some (.d (.list [])), some (.d (.bool false)), by simp -implicitDefEqProofs [BC.run, toAvs, toAv, apart, b0ok, backOk, backAll, isiV, peek, isiD, tru, peekR, truthD, cmpD, ltD, binD, addD, subD, solid, solids, peeks, setTg, setIs, one1_dat, bfD, bLen, isNone, dat, partM, partI, Xe.isNil, Va.tag, goes, Re.closed, resOf, setRes, lstAt, e0, -Int.natCast_add, e1, e2, e3, e4, e5, e6, e7, hf, hF, opt, single]⟩
    | [x] =>
      have e9 : idxD (.list [.int x]) (.int 0) = some (.int x) := rfl
      exact ⟨some (.d (.list [.int x])), some (.d (.bool true)), by simp -implicitDefEqProofs [BC.run, toAvs, toAv, apart, b0ok, backOk, backAll, isiV, peek, isiD, tru, peekR, truthD, cmpD, ltD, binD, addD, subD, solid, solids, peeks, setTg, setIs, one1_dat, bfD, bLen, isNone, dat, partM, partI, Xe.isNil, Va.tag, goes, Re.closed, resOf, setRes, lstAt, e0, -Int.natCast_add, e1, e2, e3, e4, e5, e6, e7, hf, hF, opt, single, e9]⟩
    | x :: y :: r =>
      have e8 : ¬ (((r.length + 1 + 1 : Nat) : Int) = 1) := by omega
      exact ⟨some (.d (.list (.int x :: .int y :: r.map .int))), some (.d (.bool false)), by simp -implicitDefEqProofs [BC.run, toAvs, toAv, apart, b0ok, backOk, backAll, isiV, peek, isiD, tru, peekR, truthD, cmpD, ltD, binD, addD, subD, solid, solids, peeks, setTg, setIs, one1_dat, bfD, bLen, isNone, dat, partM, partI, Xe.isNil, Va.tag, goes, Re.closed, resOf, setRes, lstAt, e0, -Int.natCast_add, e1, e2, e3, e4, e5, e6, e7, hf, hF, opt, single, e8]⟩
theorem sure_ok {top slip : Int} {rs ts : List Int} (h1 : 1 ≤ top) (h2 : top ≤ 65535) (h3 : rs.length ≤ 100) (h4 : ∀ r ∈ rs, 0 ≤ r ∧ r ≤ top) (h5 : ts.length = rs.length) (h6 : ∀ t ∈ ts, 0 ≤ t ∧ t ≤ 1000000000) (h7 : isort ts = ts) (h8 : 0 ≤ slip) (h9 : slip ≤ 1000000) :
    F_sure_totals [.d (.int top), .d (.list (rs.map .int)), .d (.list (ts.map .int)), .d (.int slip)] = .ok (.d (.list ((List.range rs.length).map fun k => opt (oA (fitK (top + 1) slip rs ts) k)))) [] := by
  have hl := look_ok h1 h2 h3 h4
  have hc : sem (tbl L_sure_totals) gl E_sure_totals_0 _ = _ := comp_map1 (s := ⟨[some (.d (.int top)), some (.d (.list (rs.map .int))), some (.d (.list (ts.map .int))), some (.d (.int slip)), none, none, none, none, none], [], []⟩) (xs := ts) PyData.int (fun r => .bool (decide (0 ≤ r) && decide (r ≤ 1000000000)))
    (by simp -implicitDefEqProofs [BC.run, toAvs, toAv, apart, b0ok, backOk, backAll, isiV, peek, isiD, tru, peekR, truthD, cmpD, ltD, binD, addD, subD, solid, solids, peeks, setTg, setIs, one1_dat, bfD, bLen, isNone, dat, partM, partI, Xe.isNil, Va.tag, goes, Re.closed, resOf, setRes, lstAt, Function.comp_def]) (by simp [lim]; omega) (fun x hx => by simp -implicitDefEqProofs [BC.run, toAvs, toAv, apart, b0ok, backOk, backAll, isiV, peek, isiD, tru, peekR, truthD, cmpD, ltD, binD, addD, subD, solid, solids, peeks, setTg, setIs, one1_dat, bfD, bLen, isNone, dat, partM, partI, Xe.isNil, Va.tag, goes, Re.closed, resOf, setRes, lstAt, whole_int])
  have hb := all_true (rs := ts) (b := fun r => decide (0 ≤ r) && decide (r ≤ 1000000000)) fun r hr => by simp [h6 r hr]
  have hso : bSorted [.list (ts.map PyData.int)] = some (.list (ts.map .int)) := by
    show (intsD (ts.map PyData.int)).map _ = _
    rw [intsD_map]
    show some (PyData.list ((isort ts).map .int)) = _
    rw [h7]
  have heq : eqD (.list (ts.map PyData.int)) (.list (ts.map PyData.int)) = some true := eqD_list fun x hx => by
    obtain ⟨i, _, rfl⟩ := List.mem_map.mp hx
    rfl
  have e0 : ∀ a b : Int, eqD (.int a) (.int b) = some (decide (a = b)) := fun _ _ => rfl
  obtain ⟨s', e, o1, o2, o3, hs⟩ := for_indR (Φ := tbl L_sure_totals) (gl := gl) R_sure_totals_0 rfl (s := ⟨[some (.d (.int top)), some (.d (.list (rs.map .int))), some (.d (.list (ts.map .int))), some (.d (.int slip)), some (.c 0), none, none, none, none], [], [.lst []]⟩) (xs := List.range rs.length) (fun i => .int (i : Int))
    (fun k s => ∃ o1 o2 o3, s = ⟨[some (.d (.int top)), some (.d (.list (rs.map .int))), some (.d (.list (ts.map .int))), some (.d (.int slip)), some (.c 0), o1, o2, o3, none], [], [.lst ((List.range k).map fun k => opt (oA (fitK (top + 1) slip rs ts) k))]⟩)
    (rng1_src (by simp -implicitDefEqProofs [BC.run, toAvs, toAv, apart, b0ok, backOk, backAll, isiV, peek, isiD, tru, peekR, truthD, cmpD, ltD, binD, addD, subD, solid, solids, peeks, setTg, setIs, one1_dat, bfD, bLen, isNone, dat, partM, partI, Xe.isNil, Va.tag, goes, Re.closed, resOf, setRes, lstAt]) (by omega)) ⟨none, none, none, rfl⟩ fun k hk s ⟨o1, o2, o3, hs⟩ => by
      have hk' : k < rs.length := by simpa using hk
      subst hs
      cases k with
      | zero =>
        refine ⟨_, ⟨[some (.d (.int top)), some (.d (.list (rs.map .int))), some (.d (.list (ts.map .int))), some (.d (.int slip)), some (.c 0), some (.d (.int 0)), o2, o3, none], [], [.lst ((List.range 1).map fun k => opt (oA (fitK (top + 1) slip rs ts) k))]⟩, rfl, .inl ?_, _, _, _, rfl⟩
        unfold B_sure_totals_0
        have : List.range 1 = [0] := rfl
        simp -implicitDefEqProofs [BC.run, toAvs, toAv, apart, b0ok, backOk, backAll, isiV, peek, isiD, tru, peekR, truthD, cmpD, ltD, binD, addD, subD, solid, solids, peeks, setTg, setIs, one1_dat, bfD, bLen, isNone, dat, partM, partI, Xe.isNil, Va.tag, goes, Re.closed, resOf, setRes, lstAt, e0, lim, this, oA, opt]
      | succ k =>
        obtain ⟨o2', o3', e⟩ := sure_step (top := top) (slip := slip) (rs := rs) (ts := ts) (k := k) h1 hk' h3 h5 (F := (List.range k).map fun k => opt (oA (fitK (top + 1) slip rs ts) k)) (by simp) (oA (fitK (top + 1) slip rs ts) k) o2 o3
        have r1 : (List.range (k + 1)).map (fun k => opt (oA (fitK (top + 1) slip rs ts) k)) = (List.range k).map (fun k => opt (oA (fitK (top + 1) slip rs ts) k)) ++ [opt (oA (fitK (top + 1) slip rs ts) k)] := by rw [List.range_succ, List.map_append]; rfl
        have r2 : (List.range (k + 1 + 1)).map (fun k => opt (oA (fitK (top + 1) slip rs ts) k)) = (List.range (k + 1)).map (fun k => opt (oA (fitK (top + 1) slip rs ts) k)) ++ [opt (oA (fitK (top + 1) slip rs ts) (k + 1))] := by rw [List.range_succ (n := k + 1), List.map_append]; rfl
        have ek : (List.range rs.length)[k + 1] = k + 1 := by simp
        rw [r2, r1, ek]
        exact ⟨_, _, rfl, .inl e, _, _, _, rfl⟩
  simp only [F_sure_totals, defF, C_sure_totals, enter, enter.enterW]
  rw [List.length_range] at hs
  have h5' : (ts.length : Int) = (rs.length : Int) := by omega
  simp -implicitDefEqProofs [BC.run, toAvs, toAv, apart, b0ok, backOk, backAll, isiV, peek, isiD, tru, peekR, truthD, cmpD, ltD, binD, addD, subD, solid, solids, peeks, setTg, setIs, one1_dat, bfD, bLen, isNone, dat, partM, partI, Xe.isNil, Va.tag, goes, Re.closed, resOf, setRes, lstAt, hl, h5', hc, hb, hso, heq, e0, whole_int, h8, h9, e, hs, leave, outs]
end K42

namespace K42
open PySem BC
def brLo (size slip told : Int) : Int := if (told - slip) / size - 1 > 0 then (told - slip) / size - 1 else 0
def brN (size slip told : Int) : Nat := (brLo size slip told + 2 * slip / size + 5 - brLo size slip told).toNat
def brF (size slip told rest : Int) (k : Nat) : Int := rest + (brLo size slip told + (k : Int)) * size
def near (told slip x : Int) : Bool := decide ((if x - told < 0 then -(x - told) else x - told) ≤ slip)
def brute (size slip told rest : Int) : List Int := ((List.range (brN size slip told)).filter fun k => near told slip (brF size slip told rest k)).map (brF size slip told rest)
def bruteK (size slip : Int) (rs ts : List Int) (k : Nat) : List Int := brute size slip (nth ts (k + 1) - nth ts k) ((nth rs (k + 1) - nth rs k) % size)
theorem sure2_step {size slip : Int} {rs ts : List Int} {k : Nat} (h1 : 1 ≤ size) (h2 : size ≤ 100000) (hk : k + 1 < rs.length) (h3 : rs.length ≤ 100) (h5 : ts.length = rs.length) (h6 : ∀ t ∈ ts, 0 ≤ t ∧ t ≤ 1000000000) (h8 : 0 ≤ slip) (h9 : slip ≤ 1000000) (hq : 2 * slip / size ≤ 1000) {F : List PyData} (hF : F.length = k) (o : Option Int) (o0 o1 o2 o3 o4 : Option Va) :
    ∃ o0' o1' o2' o3' o4', semS (tbl L__law_sure) gl B__law_sure_0 ⟨[some (.d (.int size)), some (.d (.list (rs.map .int))), some (.d (.list (ts.map .int))), some (.d (.int slip)), some (.c 0), some (.d (.int ((k + 1 : Nat) : Int))), o1, o2, o3, o4, none, none], [], [.lst (F ++ [opt o])]⟩ =
      .ok .next ⟨[some (.d (.int size)), some (.d (.list (rs.map .int))), some (.d (.list (ts.map .int))), some (.d (.int slip)), some (.c 0), o0', o1', o2', o3', o4', none, none], [], [.lst (F ++ [opt o] ++ [opt (match o, single (bruteK size slip rs ts k) with
          | some a, some x => some (a + x)
          | _, _ => none)])]⟩ := by
  have e0 : ∀ a b : Int, eqD (.int a) (.int b) = some (decide (a = b)) := fun _ _ => rfl
  have e1 := at_int (rs := rs) (i := k + 1) hk
  have e2 := at_int' (rs := rs) (i := k) (j := ((k + 1 : Nat) : Int) - 1) (by omega) (by omega)
  have e3 := at_int (rs := ts) (i := k + 1) (by omega)
  have e4 := at_int' (rs := ts) (i := k) (j := ((k + 1 : Nat) : Int) - 1) (by omega) (by omega)
  have e5 : k + 1 < lim := by simp [lim]; omega
  have e6 := at_last (l := F) (x := opt o)
  have hn : ∀ i, i < ts.length → 0 ≤ nth ts i ∧ nth ts i ≤ 1000000000 := fun i hi => h6 _ (by
    unfold nth
    rw [List.getD_eq_getElem?_getD, List.getElem?_eq_getElem hi]
    exact List.getElem_mem _)
  have hn1 := hn k (by omega)
  have hn2 := hn (k + 1) (by omega)
  have hs : 0 < size := by omega
  unfold bruteK
  generalize ht : nth ts (k + 1) - nth ts k = told at *
  generalize hr : nth rs (k + 1) - nth rs k = rest at *
  have d : ∀ a, divD (.int a) (.int size) = some (.int (a / size)) := fun a => div_ok (by omega) (by omega)
  have m1 : mulD (.int 2) (.int slip) = some (.int (2 * slip)) := mul_l (by omega) (by omega)
  have m2 : ∀ a, mulD (.int a) (.int size) = some (.int (a * size)) := fun a => mul_r (by omega) (by omega)
  have hlo : 0 ≤ brLo size slip told ∧ brLo size slip told ≤ 1000000000 := by
    unfold brLo
    split
    · rename_i hp
      have hnn : 0 ≤ told - slip := by
        rcases (by omega : told - slip < 0 ∨ 0 ≤ told - slip) with z | z
        · have := Int.ediv_neg_of_neg_of_pos z hs
          omega
        · exact z
      have := Int.ediv_le_self size hnn
      omega
    · omega
  have hq0 : 0 ≤ 2 * slip / size := Int.ediv_nonneg (by omega) (by omega)
  have b2 : bMax2 [.int 0, .int ((told - slip) / size - 1)] = some (.int (brLo size slip told)) := rfl
  have hN : brN size slip told ≤ 1005 := by unfold brN; omega
  have hc0 : ∀ o4, sem (tbl L__law_sure) gl E__law_sure_0 ⟨[some (.d (.int size)), some (.d (.list (rs.map .int))), some (.d (.list (ts.map .int))), some (.d (.int slip)), some (.c 0), some (.d (.int ((k + 1 : Nat) : Int))), some (.d (.int told)), some (.d (.int (rest % size))), some (.d (.int (brLo size slip told))), o4, none, none], [], [.lst (F ++ [opt o])]⟩ =
      dat (.list ((List.range (brN size slip told)).map fun k => PyData.int (brF size slip told (rest % size) k))) ⟨[some (.d (.int size)), some (.d (.list (rs.map .int))), some (.d (.list (ts.map .int))), some (.d (.int slip)), some (.c 0), some (.d (.int ((k + 1 : Nat) : Int))), some (.d (.int told)), some (.d (.int (rest % size))), some (.d (.int (brLo size slip told))), o4, none, none], [], [.lst (F ++ [opt o])]⟩ := fun o4 =>
    comp_map1 (xs := List.range (brN size slip told)) (fun k => PyData.int (brLo size slip told + (k : Int))) (fun k => PyData.int (brF size slip told (rest % size) k))
      (rng2_same (i := brLo size slip told) (j := brLo size slip told + 2 * slip / size + 5) (by simp -implicitDefEqProofs [BC.run, toAvs, toAv, apart, b0ok, backOk, backAll, isiV, peek, isiD, tru, peekR, truthD, cmpD, ltD, binD, addD, subD, solid, solids, peeks, setTg, setIs, one1_dat, bfD, bLen, isNone, dat, partM, partI, Xe.isNil, Va.tag, goes, Re.closed, resOf, setRes, lstAt]) (by simp -implicitDefEqProofs [BC.run, toAvs, toAv, apart, b0ok, backOk, backAll, isiV, peek, isiD, tru, peekR, truthD, cmpD, ltD, binD, addD, subD, solid, solids, peeks, setTg, setIs, one1_dat, bfD, bLen, isNone, dat, partM, partI, Xe.isNil, Va.tag, goes, Re.closed, resOf, setRes, lstAt, m1, d]) (by unfold rngOk; omega)) (by simp [lim]; omega) (fun x hx => by simp -implicitDefEqProofs [BC.run, toAvs, toAv, apart, b0ok, backOk, backAll, isiV, peek, isiD, tru, peekR, truthD, cmpD, ltD, binD, addD, subD, solid, solids, peeks, setTg, setIs, one1_dat, bfD, bLen, isNone, dat, partM, partI, Xe.isNil, Va.tag, goes, Re.closed, resOf, setRes, lstAt, m2, brF])
  have hc1 : sem (tbl L__law_sure) gl E__law_sure_1 ⟨[some (.d (.int size)), some (.d (.list (rs.map .int))), some (.d (.list (ts.map .int))), some (.d (.int slip)), some (.c 0), some (.d (.int ((k + 1 : Nat) : Int))), some (.d (.int told)), some (.d (.int (rest % size))), some (.d (.int (brLo size slip told))), some (.d (.list ((List.range (brN size slip told)).map fun k => PyData.int (brF size slip told (rest % size) k)))), none, none], [], [.lst (F ++ [opt o])]⟩ =
      dat (.list (((List.range (brN size slip told)).filter fun k => near told slip (brF size slip told (rest % size) k)).map fun k => PyData.int (brF size slip told (rest % size) k))) ⟨[some (.d (.int size)), some (.d (.list (rs.map .int))), some (.d (.list (ts.map .int))), some (.d (.int slip)), some (.c 0), some (.d (.int ((k + 1 : Nat) : Int))), some (.d (.int told)), some (.d (.int (rest % size))), some (.d (.int (brLo size slip told))), some (.d (.list ((List.range (brN size slip told)).map fun k => PyData.int (brF size slip told (rest % size) k)))), none, none], [], [.lst (F ++ [opt o])]⟩ :=
    comp_filter1 (fun k => PyData.int (brF size slip told (rest % size) k)) (fun k => near told slip (brF size slip told (rest % size) k)) (fun k => PyData.int (brF size slip told (rest % size) k)) rfl (by simp -implicitDefEqProofs [BC.run, toAvs, toAv, apart, b0ok, backOk, backAll, isiV, peek, isiD, tru, peekR, truthD, cmpD, ltD, binD, addD, subD, solid, solids, peeks, setTg, setIs, one1_dat, bfD, bLen, isNone, dat, partM, partI, Xe.isNil, Va.tag, goes, Re.closed, resOf, setRes, lstAt, Function.comp_def]) (by simp [lim]; omega) (fun x hx => by simp -implicitDefEqProofs [BC.run, toAvs, toAv, apart, b0ok, backOk, backAll, isiV, peek, isiD, tru, peekR, truthD, cmpD, ltD, binD, addD, subD, solid, solids, peeks, setTg, setIs, one1_dat, bfD, bLen, isNone, dat, partM, partI, Xe.isNil, Va.tag, goes, Re.closed, resOf, setRes, lstAt, bAbs, near]) (fun x hx _ => by simp -implicitDefEqProofs [BC.run, toAvs, toAv, apart, b0ok, backOk, backAll, isiV, peek, isiD, tru, peekR, truthD, cmpD, ltD, binD, addD, subD, solid, solids, peeks, setTg, setIs, one1_dat, bfD, bLen, isNone, dat, partM, partI, Xe.isNil, Va.tag, goes, Re.closed, resOf, setRes, lstAt])
  have hg : (((List.range (brN size slip told)).filter fun k => near told slip (brF size slip told (rest % size) k)).map fun k => PyData.int (brF size slip told (rest % size) k)) = (brute size slip told (rest % size)).map .int := by
    unfold brute
    rw [List.map_map]
    rfl
  rw [hg] at hc1
  generalize brute size slip told (rest % size) = gf at *
  unfold B__law_sure_0
  generalize (((List.range (brN size slip told)).map fun k => PyData.int (brF size slip told (rest % size) k))) = q9 at *
  cases o with
  | none =>
    simp only [opt] at e6 hc0 hc1
    match gf with
    | [] => exact ⟨_, _, _, _, _, by simp -implicitDefEqProofs [BC.run, toAvs, toAv, apart, b0ok, backOk, backAll, isiV, peek, isiD, tru, peekR, truthD, cmpD, ltD, binD, addD, subD, solid, solids, peeks, setTg, setIs, one1_dat, bfD, bLen, isNone, dat, partM, partI, Xe.isNil, Va.tag, goes, Re.closed, resOf, setRes, lstAt, e0, -Int.natCast_add, e1, e2, e3, e4, e5, e6, ht, hr, modD, hs, d, b2, hc0, hc1, hF, opt, single]; exact ⟨rfl, rfl, rfl, rfl, rfl⟩⟩
    | [x] => exact ⟨_, _, _, _, _, by simp -implicitDefEqProofs [BC.run, toAvs, toAv, apart, b0ok, backOk, backAll, isiV, peek, isiD, tru, peekR, truthD, cmpD, ltD, binD, addD, subD, solid, solids, peeks, setTg, setIs, one1_dat, bfD, bLen, isNone, dat, partM, partI, Xe.isNil, Va.tag, goes, Re.closed, resOf, setRes, lstAt, e0, -Int.natCast_add, e1, e2, e3, e4, e5, e6, ht, hr, modD, hs, d, b2, hc0, hc1, hF, opt, single]; exact ⟨rfl, rfl, rfl, rfl, rfl⟩⟩
    | x :: y :: r =>
      have e8 : ¬ (((r.length + 1 + 1 : Nat) : Int) = 1) := by omega
      exact ⟨_, _, _, _, _, by simp -implicitDefEqProofs [BC.run, toAvs, toAv, apart, b0ok, backOk, backAll, isiV, peek, isiD, tru, peekR, truthD, cmpD, ltD, binD, addD, subD, solid, solids, peeks, setTg, setIs, one1_dat, bfD, bLen, isNone, dat, partM, partI, Xe.isNil, Va.tag, goes, Re.closed, resOf, setRes, lstAt, e0, -Int.natCast_add, e1, e2, e3, e4, e5, e6, ht, hr, modD, hs, d, b2, hc0, hc1, hF, opt, single, e8]; exact ⟨rfl, rfl, rfl, rfl, rfl⟩⟩
  | some a =>
    simp only [opt] at e6 hc0 hc1
    match gf with
    | [] => exact ⟨_, _, _, _, _, by simp -implicitDefEqProofs [BC.run, toAvs, toAv, apart, b0ok, backOk, backAll, isiV, peek, isiD, tru, peekR, truthD, cmpD, ltD, binD, addD, subD, solid, solids, peeks, setTg, setIs, one1_dat, bfD, bLen, isNone, dat, partM, partI, Xe.isNil, Va.tag, goes, Re.closed, resOf, setRes, lstAt, e0, -Int.natCast_add, e1, e2, e3, e4, e5, e6, ht, hr, modD, hs, d, b2, hc0, hc1, hF, opt, single]; exact ⟨rfl, rfl, rfl, rfl, rfl⟩⟩
    | [x] =>
      have e9 : idxD (.list [.int x]) (.int 0) = some (.int x) := rfl
      exact ⟨_, _, _, _, _, by simp -implicitDefEqProofs [BC.run, toAvs, toAv, apart, b0ok, backOk, backAll, isiV, peek, isiD, tru, peekR, truthD, cmpD, ltD, binD, addD, subD, solid, solids, peeks, setTg, setIs, one1_dat, bfD, bLen, isNone, dat, partM, partI, Xe.isNil, Va.tag, goes, Re.closed, resOf, setRes, lstAt, e0, -Int.natCast_add, e1, e2, e3, e4, e5, e6, ht, hr, modD, hs, d, b2, hc0, hc1, hF, opt, single, e9]; exact ⟨rfl, rfl, rfl, rfl, rfl⟩⟩
    | x :: y :: r =>
      have e8 : ¬ (((r.length + 1 + 1 : Nat) : Int) = 1) := by omega
      exact ⟨_, _, _, _, _, by simp -implicitDefEqProofs [BC.run, toAvs, toAv, apart, b0ok, backOk, backAll, isiV, peek, isiD, tru, peekR, truthD, cmpD, ltD, binD, addD, subD, solid, solids, peeks, setTg, setIs, one1_dat, bfD, bLen, isNone, dat, partM, partI, Xe.isNil, Va.tag, goes, Re.closed, resOf, setRes, lstAt, e0, -Int.natCast_add, e1, e2, e3, e4, e5, e6, ht, hr, modD, hs, d, b2, hc0, hc1, hF, opt, single, e8]; exact ⟨rfl, rfl, rfl, rfl, rfl⟩⟩
theorem lsure_ok {size slip : Int} {rs ts : List Int} (h1 : 1 ≤ size) (h2 : size ≤ 100000) (h3 : rs.length ≤ 100) (h0 : 1 ≤ rs.length) (h5 : ts.length = rs.length) (h6 : ∀ t ∈ ts, 0 ≤ t ∧ t ≤ 1000000000) (h8 : 0 ≤ slip) (h9 : slip ≤ 1000000) (hq : 2 * slip / size ≤ 1000) :
    F__law_sure [.d (.int size), .d (.list (rs.map .int)), .d (.list (ts.map .int)), .d (.int slip)] = .ok (.d (.list ((List.range rs.length).map fun k => opt (oA (bruteK size slip rs ts) k)))) [] := by
  obtain ⟨s', e, o0, o1, o2, o3, o4, hs⟩ := for_indR (Φ := tbl L__law_sure) (gl := gl) R__law_sure_0 rfl (s := ⟨[some (.d (.int size)), some (.d (.list (rs.map .int))), some (.d (.list (ts.map .int))), some (.d (.int slip)), some (.c 0), none, none, none, none, none, none, none], [], [.lst [.int 0]]⟩) (xs := List.range ((rs.length : Int) - 1).toNat) (fun i => .int (1 + (i : Int)))
    (fun k s => ∃ o0 o1 o2 o3 o4, s = ⟨[some (.d (.int size)), some (.d (.list (rs.map .int))), some (.d (.list (ts.map .int))), some (.d (.int slip)), some (.c 0), o0, o1, o2, o3, o4, none, none], [], [.lst ((List.range (k + 1)).map fun k => opt (oA (bruteK size slip rs ts) k))]⟩)
    (rng2_same (by simp -implicitDefEqProofs [BC.run, toAvs, toAv, apart, b0ok, backOk, backAll, isiV, peek, isiD, tru, peekR, truthD, cmpD, ltD, binD, addD, subD, solid, solids, peeks, setTg, setIs, one1_dat, bfD, bLen, isNone, dat, partM, partI, Xe.isNil, Va.tag, goes, Re.closed, resOf, setRes, lstAt]) (by simp -implicitDefEqProofs [BC.run, toAvs, toAv, apart, b0ok, backOk, backAll, isiV, peek, isiD, tru, peekR, truthD, cmpD, ltD, binD, addD, subD, solid, solids, peeks, setTg, setIs, one1_dat, bfD, bLen, isNone, dat, partM, partI, Xe.isNil, Va.tag, goes, Re.closed, resOf, setRes, lstAt]) (by unfold rngOk; omega)) ⟨none, none, none, none, none, by simp [oA, opt]⟩ fun k hk s ⟨o0, o1, o2, o3, o4, hs⟩ => by
      have hk' : k + 1 < rs.length := by rw [List.length_range] at hk; omega
      subst hs
      obtain ⟨p0, p1, p2, p3, p4, e⟩ := sure2_step h1 h2 hk' h3 h5 h6 h8 h9 hq (F := (List.range k).map fun k => opt (oA (bruteK size slip rs ts) k)) (by simp) (oA (bruteK size slip rs ts) k) o0 o1 o2 o3 o4
      have r1 : (List.range (k + 1)).map (fun k => opt (oA (bruteK size slip rs ts) k)) = (List.range k).map (fun k => opt (oA (bruteK size slip rs ts) k)) ++ [opt (oA (bruteK size slip rs ts) k)] := by rw [List.range_succ, List.map_append]; rfl
      have r2 : (List.range (k + 1 + 1)).map (fun k => opt (oA (bruteK size slip rs ts) k)) = (List.range (k + 1)).map (fun k => opt (oA (bruteK size slip rs ts) k)) ++ [opt (oA (bruteK size slip rs ts) (k + 1))] := by rw [List.range_succ (n := k + 1), List.map_append]; rfl
      have ek : (1 : Int) + (((List.range ((rs.length : Int) - 1).toNat)[k] : Nat) : Int) = ((k + 1 : Nat) : Int) := by simp; omega
      rw [r2, r1, ek]
      exact ⟨_, _, rfl, .inl e, _, _, _, _, _, rfl⟩
  have er : ((rs.length : Int) - 1).toNat + 1 = rs.length := by omega
  rw [List.length_range, er] at hs
  refine (defF_fin (np := 4) (n := 12) [some (.d (.int size)), some (.d (.list (rs.map .int))), some (.d (.list (ts.map .int))), some (.d (.int slip)), none, none, none, none, none, none, none, none] [] ⟨rfl, by decide⟩ rfl rfl).trans ?_
  unfold C__law_sure
  simp -implicitDefEqProofs [BC.run, toAvs, toAv, apart, b0ok, backOk, backAll, isiV, peek, isiD, tru, peekR, truthD, cmpD, ltD, binD, addD, subD, solid, solids, peeks, setTg, setIs, one1_dat, bfD, bLen, isNone, dat, partM, partI, Xe.isNil, Va.tag, goes, Re.closed, resOf, setRes, lstAt, e, lim, hs, leave, outs]
end K42

namespace K42
open PySem BC
theorem filter_one {p : Nat → Bool} {i : Nat} : ∀ N : Nat, (∀ k, k < N → p k = decide (k = i)) → (List.range N).filter p = if i < N then [i] else []
  | 0, _ => by simp
  | N + 1, h => by
    rw [List.range_succ, List.filter_append, filter_one N fun k hk => h k (by omega), List.filter_cons, List.filter_nil, h N (by omega)]
    by_cases e : N = i
    · subst e
      have h1 : ¬ N < N := by omega
      have h2 : N < N + 1 := by omega
      simp [h1, h2]
    · by_cases hl : i < N
      · have h2 : i < N + 1 := by omega
        simp [e, hl, h2]
      · have h2 : ¬ i < N + 1 := by omega
        simp [e, hl]
        omega
theorem single_some {l : List Int} {x : Int} (h : single l = some x) : l = [x] := by
  match l, h with
  | [y], h =>
    have e : some y = some x := h
    cases e
    rfl
theorem fit_brute {size slip told rest : Int} (hs : 1 ≤ size) (h0 : 0 ≤ told) (hsl : 0 ≤ slip) : single (fit size rest told slip) = single (brute size slip told (rest % size)) := by
  have hr0 := Int.emod_nonneg rest (show size ≠ 0 by omega)
  have hr1 := Int.emod_lt_of_pos rest (show 0 < size by omega)
  have hlow : 0 ≤ lowO told slip ∧ told - slip ≤ lowO told slip ∧ (lowO told slip = 0 ∨ lowO told slip = told - slip) := by unfold lowO; split <;> omega
  have hx1 := Int.emod_nonneg (rest - lowO told slip) (show size ≠ 0 by omega)
  have hx2 := Int.emod_lt_of_pos (rest - lowO told slip) (show 0 < size by omega)
  have hxm : (fst0 size rest told slip) % size = rest % size := by
    unfold fst0
    rw [Int.add_emod, Int.emod_emod_of_dvd _ (Int.dvd_refl size), ← Int.add_emod]
    congr 1
    omega
  have hxd := Int.emod_add_mul_ediv (fst0 size rest told slip) size
  have hf : fst0 size rest told slip = lowO told slip + (rest - lowO told slip) % size := rfl
  have hj0 : 0 ≤ fst0 size rest told slip / size := Int.ediv_nonneg (by omega) (by omega)
  have hq0 : 0 ≤ 2 * slip / size := Int.ediv_nonneg (by omega) (by omega)
  rw [hxm] at hxd
  have hlo0 : 0 ≤ brLo size slip told := by unfold brLo; split <;> omega
  -- brLo ≤ j0, j0 + 1 < brLo + N
  have hlo1 : brLo size slip told ≤ fst0 size rest told slip / size ∧ fst0 size rest told slip / size ≤ brLo size slip told + 2 ∧ (told - slip ≤ 0 → fst0 size rest told slip / size = brLo size slip told) := by
    rcases (by omega : told - slip ≤ 0 ∨ 0 < told - slip) with z | z
    · have e0 : lowO told slip = 0 := by unfold lowO; rw [if_neg (by omega)]
      have e1 : (told - slip) / size - 1 ≤ 0 := by
        have := Int.ediv_le_ediv (show 0 < size by omega) z
        rw [Int.zero_ediv] at this
        omega
      have e2 : brLo size slip told = 0 := by unfold brLo; rw [if_neg (by omega)]
      have e3 : fst0 size rest told slip / size = 0 := Int.ediv_eq_zero_of_lt (by omega) (by omega)
      rw [e2, e3]
      omega
    · have e0 : lowO told slip = told - slip := by unfold lowO; rw [if_pos (by omega)]
      have e1 : (told - slip) / size ≤ fst0 size rest told slip / size := Int.ediv_le_ediv (by omega) (by omega)
      have e2 : fst0 size rest told slip / size ≤ (told - slip + size) / size := Int.ediv_le_ediv (by omega) (by omega)
      have e3 : (told - slip + size) / size = (told - slip) / size + 1 := by
        have := Int.add_mul_ediv_right (told - slip) 1 (show size ≠ 0 by omega)
        rw [Int.one_mul] at this
        exact this
      rw [e3] at e2
      unfold brLo
      split <;> omega
  obtain ⟨i, hi⟩ : ∃ i : Nat, (i : Int) = fst0 size rest told slip / size - brLo size slip told := ⟨(fst0 size rest told slip / size - brLo size slip told).toNat, by omega⟩
  have hN : brN size slip told = (2 * slip / size + 5).toNat := by unfold brN; congr 1; omega
  have hiN : i + 1 < brN size slip told := by rw [hN]; omega
  have hb : ∀ k : Nat, brF size slip told (rest % size) k = rest % size + (brLo size slip told + (k : Int)) * size := fun _ => rfl
  have hbi : brF size slip told (rest % size) i = fst0 size rest told slip := by
    rw [hb, show brLo size slip told + (i : Int) = fst0 size rest told slip / size by omega, Int.mul_comm]; exact hxd
  have hdiff : ∀ k : Nat, brF size slip told (rest % size) k = fst0 size rest told slip + ((k : Int) - (i : Int)) * size := fun k => by
    rw [← hbi, hb, hb, show brLo size slip told + (k : Int) = (brLo size slip told + (i : Int)) + ((k : Int) - (i : Int)) by omega, Int.add_mul]
    omega
  have hlt : ∀ k : Nat, k < i → brF size slip told (rest % size) k ≤ fst0 size rest told slip - size := fun k hk => by
    rw [hdiff]
    have := Int.mul_le_mul_of_nonneg_right (show (k : Int) - (i : Int) ≤ -1 by omega) (show 0 ≤ size by omega)
    omega
  have hgt : ∀ k : Nat, i < k → fst0 size rest told slip + size ≤ brF size slip told (rest % size) k := fun k hk => by
    rw [hdiff]
    have := Int.mul_le_mul_of_nonneg_right (show 1 ≤ (k : Int) - (i : Int) by omega) (show 0 ≤ size by omega)
    omega
  have near_iff : ∀ x, near told slip x = decide (told - slip ≤ x ∧ x ≤ told + slip) := fun x => by
    unfold near
    congr 1
    apply propext
    split <;> omega
  have low_no : ∀ k : Nat, k < i → near told slip (brF size slip told (rest % size) k) = false := fun k hk => by
    rw [near_iff]
    have := hlt k hk
    have hz : ¬ (told - slip ≤ 0) := fun z => by have := hlo1.2.2 z; omega
    have e0 : lowO told slip = told - slip := by unfold lowO; rw [if_pos (by omega)]
    exact decide_eq_false (by omega)
  have hfit : fit size rest told slip = if fst0 size rest told slip ≤ told + slip then (if fst0 size rest told slip + size ≤ told + slip then [fst0 size rest told slip, fst0 size rest told slip + size] else [fst0 size rest told slip]) else [] := by
    unfold fit
    by_cases c1 : fst0 size rest told slip ≤ told + slip
    · by_cases c2 : fst0 size rest told slip + size ≤ told + slip
      · simp [c1, c2]
      · simp [c1, c2]
    · have c2 : ¬ (fst0 size rest told slip + size ≤ told + slip) := by omega
      simp [c1, c2]
  rw [hfit]
  unfold brute
  by_cases c1 : fst0 size rest told slip ≤ told + slip
  · rw [if_pos c1]
    by_cases c2 : fst0 size rest told slip + size ≤ told + slip
    · rw [if_pos c2]
      -- both none
      cases hq : single (((List.range (brN size slip told)).filter fun k => near told slip (brF size slip told (rest % size) k)).map (brF size slip told (rest % size))) with
      | none => rfl
      | some y =>
        exfalso
        have e := single_some hq
        have m1 : i ∈ (List.range (brN size slip told)).filter fun k => near told slip (brF size slip told (rest % size) k) := by
          rw [List.mem_filter, List.mem_range, near_iff, hbi]
          exact ⟨by omega, decide_eq_true (by omega)⟩
        have m2 : i + 1 ∈ (List.range (brN size slip told)).filter fun k => near told slip (brF size slip told (rest % size) k) := by
          rw [List.mem_filter, List.mem_range, near_iff, hdiff]
          refine ⟨hiN, decide_eq_true ?_⟩
          rw [show ((i + 1 : Nat) : Int) - (i : Int) = 1 by omega, Int.one_mul]
          omega
        generalize (List.range (brN size slip told)).filter (fun k => near told slip (brF size slip told (rest % size) k)) = l at e m1 m2
        match l, e with
        | [a], _ =>
          simp at m1 m2
          omega
    · rw [if_neg c2]
      rw [filter_one (i := i) _ fun k hk => ?_, if_pos (by omega)]
      · show some _ = some _
        rw [hbi]
      · rcases Nat.lt_trichotomy k i with z | z | z
        · rw [low_no k z]; exact (decide_eq_false (by omega)).symm
        · subst z
          rw [near_iff, hbi]
          rw [decide_eq_true (show told - slip ≤ fst0 size rest told slip ∧ fst0 size rest told slip ≤ told + slip by omega)]
          simp
        · have := hgt k z
          rw [near_iff, decide_eq_false (show ¬ (told - slip ≤ brF size slip told (rest % size) k ∧ brF size slip told (rest % size) k ≤ told + slip) by omega)]
          exact (decide_eq_false (by omega)).symm
  · rw [if_neg c1]
    have e : (List.range (brN size slip told)).filter (fun k => near told slip (brF size slip told (rest % size) k)) = [] := by
      rw [List.filter_eq_nil_iff]
      intro k _
      rcases Nat.lt_trichotomy k i with z | z | z
      · rw [low_no k z]; simp
      · subst z
        rw [near_iff, hbi, decide_eq_false (by omega)]; simp
      · have := hgt k z
        rw [near_iff, decide_eq_false (by omega)]; simp
    rw [e]
    rfl
end K42

namespace K42
open PySem BC
def ssum (ws : List Int) (k : Nat) : Int := (ws.take k).sum
theorem ssum_succ {ws : List Int} {k : Nat} (h : k < ws.length) : ssum ws (k + 1) = ssum ws k + nth ws k := by
  unfold ssum nth
  rw [List.take_succ, List.getElem?_eq_getElem h, List.getD_eq_getElem?_getD, List.getElem?_eq_getElem h, List.sum_append]
  show _ + (ws[k] + 0) = _ + ws[k]
  rw [Int.add_zero]
theorem psum_ssum {ws : List Int} : ∀ k, k ≤ ws.length → psum ws k = ssum ws k
  | 0, _ => by simp [psum, ssum]
  | k + 1, h => by
    rw [ssum_succ (by omega), ← psum_ssum k (by omega)]
    rfl
def sumsOf (ws : List Int) : List Int := (List.range (ws.length + 1)).map (ssum ws)
def readsOf (m first : Int) (ws : List Int) : List Int := (sumsOf ws).map fun x => (first + x) % m
theorem nth_map {α : Type} {f : α → Int} {l : List α} {k : Nat} (h : k < l.length) : nth (l.map f) k = f l[k] := by
  unfold nth
  rw [List.getD_eq_getElem?_getD, List.getElem?_map, List.getElem?_eq_getElem h]
  rfl
theorem nth_reads {m first : Int} {ws : List Int} {k : Nat} (h : k ≤ ws.length) : nth (readsOf m first ws) k = (first + ssum ws k) % m := by
  unfold readsOf sumsOf
  rw [List.map_map, nth_map (by simp; omega)]
  simp
theorem diff_reads {m first : Int} {ws : List Int} {k : Nat} (h : k < ws.length) : (nth (readsOf m first ws) (k + 1) - nth (readsOf m first ws) k) % m = nth ws k % m := by
  rw [nth_reads (by omega), nth_reads (by omega), ← Int.sub_emod, ssum_succ h]
  congr 1
  omega
theorem len_reads {m first : Int} {ws : List Int} : (readsOf m first ws).length = ws.length + 1 := by simp [readsOf, sumsOf]
theorem in_reads {m first : Int} {ws : List Int} (hm : 0 < m) : ∀ r ∈ readsOf m first ws, 0 ≤ r ∧ r ≤ m - 1 := by
  intro r hr
  obtain ⟨x, _, rfl⟩ := List.mem_map.mp hr
  have := Int.emod_nonneg (first + x) (show m ≠ 0 by omega)
  have := Int.emod_lt_of_pos (first + x) hm
  omega
theorem tot_sums {m first : Int} {ws : List Int} (h : ∀ w ∈ ws, 0 ≤ w ∧ w < m) : ∀ k, k ≤ ws.length → tA m (readsOf m first ws) k = ssum ws k
  | 0, _ => by simp [tA, ssum]
  | k + 1, hk => by
    have hn : nth ws k ∈ ws := by
      unfold nth
      rw [List.getD_eq_getElem?_getD, List.getElem?_eq_getElem (by omega)]
      exact List.getElem_mem _
    show tA m (readsOf m first ws) k + _ = _
    rw [tot_sums h k (by omega), diff_reads (by omega), ssum_succ (by omega), Int.emod_eq_of_lt (h _ hn).1 (h _ hn).2]
theorem totals_list {m first : Int} {ws : List Int} (h : ∀ w ∈ ws, 0 ≤ w ∧ w < m) : ((List.range (readsOf m first ws).length).map fun k => PyData.int (tA m (readsOf m first ws) k)) = (sumsOf ws).map .int := by
  unfold sumsOf
  rw [len_reads, List.map_map]
  refine List.map_congr_left fun k hk => ?_
  rw [List.mem_range] at hk
  show PyData.int _ = PyData.int _
  rw [tot_sums h k (by omega)]
/-- a step w is the only one that fits -/
theorem single_fit {m rest told slip w : Int} (hm : 2 * slip < m) (hw : 0 ≤ w) (h1 : told - slip ≤ w) (h2 : w ≤ told + slip) (hr : rest % m = w % m) : single (fit m rest told slip) = some w := by
  have hlow : 0 ≤ lowO told slip ∧ told - slip ≤ lowO told slip ∧ lowO told slip ≤ w := by unfold lowO; split <;> omega
  have e1 : (rest - lowO told slip) % m = w - lowO told slip := by
    rw [Int.sub_emod, hr, ← Int.sub_emod]
    exact Int.emod_eq_of_lt (by omega) (by omega)
  have e2 : fst0 m rest told slip = w := by unfold fst0; rw [e1]; omega
  unfold fit
  rw [e2]
  have c1 : w ≤ told + slip := h2
  have c2 : ¬ (w + m ≤ told + slip) := by omega
  simp [c1, c2]
  rfl
theorem oA_sums {m slip first : Int} {ws ts : List Int} (hm : 2 * slip < m) (hw : ∀ w ∈ ws, 0 ≤ w) (ht : ∀ k, k < ws.length → nth ts (k + 1) - nth ts k - slip ≤ nth ws k ∧ nth ws k ≤ nth ts (k + 1) - nth ts k + slip) : ∀ k, k ≤ ws.length → oA (fitK m slip (readsOf m first ws) ts) k = some (ssum ws k)
  | 0, _ => by simp [oA, ssum]
  | k + 1, hk => by
    have hn : nth ws k ∈ ws := by
      unfold nth
      rw [List.getD_eq_getElem?_getD, List.getElem?_eq_getElem (by omega)]
      exact List.getElem_mem _
    have e : single (fitK m slip (readsOf m first ws) ts k) = some (nth ws k) := single_fit hm (hw _ hn) (ht k (by omega)).1 (ht k (by omega)).2 (diff_reads (by omega))
    show (match oA (fitK m slip (readsOf m first ws) ts) k, single (fitK m slip (readsOf m first ws) ts k) with
      | some a, some x => some (a + x)
      | _, _ => none) = _
    rw [oA_sums hm hw ht k (by omega), e, ssum_succ (by omega)]
theorem told_list {m slip first : Int} {ws ts : List Int} (hm : 2 * slip < m) (hw : ∀ w ∈ ws, 0 ≤ w) (ht : ∀ k, k < ws.length → nth ts (k + 1) - nth ts k - slip ≤ nth ws k ∧ nth ws k ≤ nth ts (k + 1) - nth ts k + slip) :
    ((List.range (readsOf m first ws).length).map fun k => opt (oA (fitK m slip (readsOf m first ws) ts) k)) = (sumsOf ws).map .int := by
  unfold sumsOf
  rw [len_reads, List.map_map]
  refine List.map_congr_left fun k hk => ?_
  rw [List.mem_range] at hk
  rw [oA_sums hm hw ht k (by omega)]
  rfl
theorem told_sure {m slip first : Int} {ws ts : List Int} (h1 : 1 ≤ m) (hs : 0 ≤ slip) (ht : ∀ k, k < ws.length → 0 ≤ nth ts (k + 1) - nth ts k) :
    ((List.range (readsOf m first ws).length).map fun k => opt (oA (fitK m slip (readsOf m first ws) ts) k)) = ((List.range (readsOf m first ws).length).map fun k => opt (oA (bruteK m slip (readsOf m first ws) ts) k)) := by
  refine List.map_congr_left fun k hk => ?_
  rw [List.mem_range] at hk
  rw [oA_single (g := bruteK m slip (readsOf m first ws) ts) (n := (readsOf m first ws).length) (fun j hj => ?_) k hk]
  rw [len_reads] at hj
  exact fit_brute h1 (ht j (by omega)) hs
/-! periods -/
def perOf (top under : Int) (many : Nat) : List Int := (List.range many).map fun (k : Nat) => ((k : Int) + 1) * top / under - (k : Int) * top / under
theorem nth_per {top under : Int} {many k : Nat} (h : k < many) : nth (perOf top under many) k = ((k : Int) + 1) * top / under - (k : Int) * top / under := by
  unfold perOf
  rw [nth_map (by simpa using h)]
  simp
theorem psum_per {top under : Int} {many : Nat} : ∀ k, k ≤ many → psum (perOf top under many) k = (k : Int) * top / under
  | 0, _ => by simp [psum]
  | k + 1, h => by
    show psum (perOf top under many) k + nth (perOf top under many) k = _
    rw [psum_per k (by omega), nth_per (by omega), Int.natCast_add]
    simp
    omega
theorem per_bound {top under : Int} {many : Nat} (h1 : 0 ≤ top) (h2 : top ≤ 200000) (h3 : 1 ≤ under) (hm : many ≤ 60) : ∀ p ∈ perOf top under many, 0 ≤ p ∧ p ≤ 20000000 := by
  intro p hp
  obtain ⟨k, hk, rfl⟩ := List.mem_map.mp hp
  rw [List.mem_range] at hk
  have a1 : (k : Int) * top / under ≤ ((k : Int) + 1) * top / under := Int.ediv_le_ediv (by omega) (by rw [Int.add_mul]; omega)
  have a2 : 0 ≤ (k : Int) * top / under := Int.ediv_nonneg (Int.mul_nonneg (by omega) h1) (by omega)
  have a3 : ((k : Int) + 1) * top ≤ 61 * 200000 := by
    have b1 := Int.mul_le_mul_of_nonneg_right (show (k : Int) + 1 ≤ 61 by omega) h1
    omega
  have a4 := Int.ediv_le_self under (show 0 ≤ ((k : Int) + 1) * top from Int.mul_nonneg (by omega) h1)
  omega
theorem dOff_per {top under : Int} {many k : Nat} (h3 : 1 ≤ under) (h : k ≤ many) : - under < dOff (perOf top under many) top under k ∧ dOff (perOf top under many) top under k ≤ 0 := by
  unfold dOff
  rw [psum_per k h]
  have := Int.emod_add_mul_ediv ((k : Int) * top) under
  have h1 := Int.emod_nonneg ((k : Int) * top) (show under ≠ 0 by omega)
  have h2 := Int.emod_lt_of_pos ((k : Int) * top) (show 0 < under by omega)
  rw [Int.mul_comm ((k : Int) * top / under) under]
  omega
theorem minL_mem : ∀ {l : List Int}, l ≠ [] → minL l ∈ l
  | [a], _ => by simp [minL]
  | a :: b :: r, _ => by
    have ih := minL_mem (l := b :: r) (by simp)
    show min a (minL (b :: r)) ∈ _
    rcases Int.le_total a (minL (b :: r)) with z | z
    · rw [Int.min_eq_left z]; simp
    · rw [Int.min_eq_right z]; exact List.mem_cons_of_mem _ ih
theorem maxL_mem : ∀ {l : List Int}, l ≠ [] → maxL l ∈ l
  | [a], _ => by simp [maxL]
  | a :: b :: r, _ => by
    have ih := maxL_mem (l := b :: r) (by simp)
    show max a (maxL (b :: r)) ∈ _
    rcases Int.le_total a (maxL (b :: r)) with z | z
    · rw [Int.max_eq_right z]; exact List.mem_cons_of_mem _ ih
    · rw [Int.max_eq_left z]; simp
theorem maxL_ge : ∀ {l : List Int} {x : Int}, x ∈ l → x ≤ maxL l
  | [a], x, h => by simp [maxL] at h ⊢; omega
  | a :: b :: r, x, h => by
    show x ≤ max a (maxL (b :: r))
    rcases List.mem_cons.mp h with h | h
    · omega
    · have := maxL_ge (l := b :: r) h
      omega
theorem drift_per {top under : Int} {many : Nat} (h3 : 1 ≤ under) : - under < minL (dOffs (perOf top under many) top under (many + 1)) ∧ minL (dOffs (perOf top under many) top under (many + 1)) ≤ 0 ∧ maxL (dOffs (perOf top under many) top under (many + 1)) = 0 := by
  have hne : dOffs (perOf top under many) top under (many + 1) ≠ [] := by
    unfold dOffs
    rw [List.range_succ_eq_map]
    simp
  have all : ∀ x ∈ dOffs (perOf top under many) top under (many + 1), - under < x ∧ x ≤ 0 := fun x hx => by
    obtain ⟨k, hk, rfl⟩ := List.mem_map.mp hx
    rw [List.mem_range] at hk
    exact dOff_per h3 (by omega)
  have z : (0 : Int) ∈ dOffs (perOf top under many) top under (many + 1) := List.mem_map.mpr ⟨0, by simp, by simp [dOff, psum]⟩
  have a1 := all _ (minL_mem hne)
  have a2 := all _ (maxL_mem hne)
  have a3 := maxL_ge z
  exact ⟨a1.1, a1.2, by omega⟩
end K42

namespace K42
open PySem BC
theorem pick_int (ns : List Int) (n : Nat) {l : List Int} (hl : l ≠ []) (hn : n < 1000000) : ∃ p, p ∈ l ∧ F__law_pick [.s ns, .r (.lst (town n)), .d (.list (l.map .int))] = .ok (.d (.int p)) [.lst (town (n + 1))] := by
  obtain ⟨i, hi, e⟩ := pick_ok ns n (l := l.map .int) (by simpa using hl) hn
  have hi' : i < l.length := by simpa using hi
  refine ⟨l[i], List.getElem_mem hi', ?_⟩
  rw [e]
  simp
theorem sum_cut (ws : List Int) (k : Nat) : bSum [.list (cutD (ws.map .int) none (some (k : Int)))] = some (.int (ssum ws k)) := by
  have e : cutD (ws.map PyData.int) none (some (k : Int)) = (ws.take k).map .int := by
    unfold cutD
    rw [HT.sIx_none, HT.sIx_nat, List.drop_zero, Nat.sub_zero, List.length_map, List.map_take]
    rcases Nat.le_total k ws.length with z | z
    · rw [Nat.min_eq_left z]
    · rw [Nat.min_eq_right z, List.take_of_length_le (l := ws.map PyData.int) (i := k) (by simpa using z), List.take_of_length_le (by simp)]
  show (intsD _).map _ = _
  rw [e, intsD_map]
  rfl

theorem step0 (ns : List Int) : semS (tbl L_law) gl T_law_0 ⟨[some (.s ns), none, none, none, none, none, none, none, none, none, none, none, none, none, none, none, none, none, none, none, none, none], [], []⟩ = semS (tbl L_law) gl T_law_1 ⟨[some (.s ns), some (.c 0), none, none, none, none, none, none, none, none, none, none, none, none, none, none, none, none, none, none, none, none], [], [.lst (town (0))]⟩ := step_next T_law_0 rfl _ (by simp -implicitDefEqProofs [BC.run, toAvs, toAv, apart, b0ok, backOk, backAll, isiV, peek, isiD, tru, peekR, truthD, cmpD, ltD, binD, addD, subD, solid, solids, peeks, setTg, setIs, one1_dat, bfD, bLen, isNone, dat, partM, partI, Xe.isNil, Va.tag, goes, Re.closed, resOf, setRes, lstAt, lim, town])
theorem step1 (ns : List Int) : ∃ high : Int, 1 ≤ high ∧ high ≤ 65535 ∧ semS (tbl L_law) gl T_law_1 ⟨[some (.s ns), some (.c 0), none, none, none, none, none, none, none, none, none, none, none, none, none, none, none, none, none, none, none, none], [], [.lst (town (0))]⟩ = semS (tbl L_law) gl T_law_2 ⟨[some (.s ns), some (.c 0), some (.d (.int (high))), none, none, none, none, none, none, none, none, none, none, none, none, none, none, none, none, none, none, none], [], [.lst (town (2))]⟩ := by
  obtain ⟨p, hp, e1⟩ := pick_int ns 0 (l := [9, 300, 65535]) (by simp) (by omega)
  have hp' : 9 ≤ p ∧ p ≤ 65535 := by simp at hp; omega
  obtain ⟨v, h1, h2, e2⟩ := draw_ok ns 1 (many := p) (by omega) (by omega)
  simp only [List.map_cons, List.map_nil] at e1
  exact ⟨1 + v, by omega, by omega, step_next T_law_1 rfl _ (by simp -implicitDefEqProofs [BC.run, toAvs, toAv, apart, b0ok, backOk, backAll, isiV, peek, isiD, tru, peekR, truthD, cmpD, ltD, binD, addD, subD, solid, solids, peeks, setTg, setIs, one1_dat, bfD, bLen, isNone, dat, partM, partI, Xe.isNil, Va.tag, goes, Re.closed, resOf, setRes, lstAt, lim, e1, e2])⟩
theorem step2 (ns : List Int) (high : Int) (hh : 1 ≤ high) : ∃ (ws : List Int) (n : Nat), ws.length ≤ 11 ∧ (∀ w ∈ ws, 0 ≤ w ∧ w ≤ high) ∧ n ≤ 20 ∧ semS (tbl L_law) gl T_law_2 ⟨[some (.s ns), some (.c 0), some (.d (.int (high))), none, none, none, none, none, none, none, none, none, none, none, none, none, none, none, none, none, none, none], [], [.lst (town (2))]⟩ = semS (tbl L_law) gl T_law_3 ⟨[some (.s ns), some (.c 0), some (.d (.int (high))), some (.d (.list ((ws).map PyData.int))), none, none, none, none, none, none, none, none, none, none, none, none, none, none, none, none, none, none], [], [.lst (town (n))]⟩ := by
  obtain ⟨v, h1, h2, e1⟩ := draw_ok ns 2 (many := 12) (by omega) (by omega)
  obtain ⟨ys, W', e, hy, n, hW, hn, ws, hws, hb⟩ := comp_st2 (Φ := tbl L_law) (gl := gl) E_law_0 rfl (s := ⟨[some (.s ns), some (.c 0), some (.d (.int (high))), none, none, none, none, none, none, none, none, none, none, none, none, none, none, none, none, none, none, none], [], [.lst (town (2))]⟩) (s1 := ⟨[some (.s ns), some (.c 0), some (.d (.int (high))), none, none, none, none, none, none, none, none, none, none, none, none, none, none, none, none, none, none, none], [], [.lst (town (3))]⟩) (xs := List.range v.toNat) (fun (k : Nat) => .int (k : Int))
    (fun k ys W => ∃ n, W = [.lst (town n)] ∧ n ≤ 3 + k ∧ ∃ ws : List Int, ys = ws.map .int ∧ ∀ w ∈ ws, 0 ≤ w ∧ w ≤ high)
    (rng1_src (n := v.toNat) (by rw [Int.toNat_of_nonneg h1]; simp -implicitDefEqProofs [BC.run, toAvs, toAv, apart, b0ok, backOk, backAll, isiV, peek, isiD, tru, peekR, truthD, cmpD, ltD, binD, addD, subD, solid, solids, peeks, setTg, setIs, one1_dat, bfD, bLen, isNone, dat, partM, partI, Xe.isNil, Va.tag, goes, Re.closed, resOf, setRes, lstAt, e1]) (by omega)) (by simp [lim]; omega) ⟨3, rfl, by omega, [], rfl, by simp⟩ (fun k hk ys W hy ⟨n, hW, hn, ws, hws, hb⟩ => by
      rw [List.length_range] at hk
      obtain ⟨u, u1, u2, e2⟩ := draw_ok ns n (many := high + 1) (by omega) (by omega)
      subst hW
      refine ⟨.int u, _, [.lst (town (n + 1))], (by simp -implicitDefEqProofs [BC.run, toAvs, toAv, apart, b0ok, backOk, backAll, isiV, peek, isiD, tru, peekR, truthD, cmpD, ltD, binD, addD, subD, solid, solids, peeks, setTg, setIs, one1_dat, bfD, bLen, isNone, dat, partM, partI, Xe.isNil, Va.tag, goes, Re.closed, resOf, setRes, lstAt, e2]; rfl), n + 1, rfl, by omega, ws ++ [u], by rw [hws]; simp, fun w hw => ?_⟩
      rcases List.mem_append.mp hw with h | h
      · exact hb w h
      · simp at h; omega)
  rw [List.length_range] at hy hn
  have hl : ws.length = ys.length := by rw [hws, List.length_map]
  subst hW
  subst hws
  exact ⟨ws, n, by omega, hb, by omega, step_next T_law_2 rfl _ (by simp -implicitDefEqProofs [BC.run, toAvs, toAv, apart, b0ok, backOk, backAll, isiV, peek, isiD, tru, peekR, truthD, cmpD, ltD, binD, addD, subD, solid, solids, peeks, setTg, setIs, one1_dat, bfD, bLen, isNone, dat, partM, partI, Xe.isNil, Va.tag, goes, Re.closed, resOf, setRes, lstAt, e])⟩
theorem step3 (ns : List Int) (high : Int) (ws : List Int) (n : Nat) (hh : 1 ≤ high) (hn : n ≤ 20) : ∃ first : Int, 0 ≤ first ∧ first ≤ high ∧ semS (tbl L_law) gl T_law_3 ⟨[some (.s ns), some (.c 0), some (.d (.int (high))), some (.d (.list ((ws).map PyData.int))), none, none, none, none, none, none, none, none, none, none, none, none, none, none, none, none, none, none], [], [.lst (town (n))]⟩ = semS (tbl L_law) gl T_law_4 ⟨[some (.s ns), some (.c 0), some (.d (.int (high))), some (.d (.list ((ws).map PyData.int))), some (.d (.int (first))), none, none, none, none, none, none, none, none, none, none, none, none, none, none, none, none, none], [], [.lst (town (n + 1))]⟩ := by
  obtain ⟨v, h1, h2, e1⟩ := draw_ok ns n (many := high + 1) (by omega) (by omega)
  exact ⟨v, h1, by omega, step_next T_law_3 rfl _ (by simp -implicitDefEqProofs [BC.run, toAvs, toAv, apart, b0ok, backOk, backAll, isiV, peek, isiD, tru, peekR, truthD, cmpD, ltD, binD, addD, subD, solid, solids, peeks, setTg, setIs, one1_dat, bfD, bLen, isNone, dat, partM, partI, Xe.isNil, Va.tag, goes, Re.closed, resOf, setRes, lstAt, e1])⟩
theorem step4 (ns : List Int) (high : Int) (ws : List Int) (n : Nat) (first : Int) (hl : ws.length ≤ 11) : semS (tbl L_law) gl T_law_4 ⟨[some (.s ns), some (.c 0), some (.d (.int (high))), some (.d (.list ((ws).map PyData.int))), some (.d (.int (first))), none, none, none, none, none, none, none, none, none, none, none, none, none, none, none, none, none], [], [.lst (town (n + 1))]⟩ = semS (tbl L_law) gl T_law_5 ⟨[some (.s ns), some (.c 0), some (.d (.int (high))), some (.d (.list ((ws).map PyData.int))), some (.d (.int (first))), some (.d (.list ((sumsOf ws).map PyData.int))), none, none, none, none, none, none, none, none, none, none, none, none, none, none, none, none], [], [.lst (town (n + 1))]⟩ := by
  have hc : sem (tbl L_law) gl E_law_1 ⟨[some (.s ns), some (.c 0), some (.d (.int (high))), some (.d (.list ((ws).map PyData.int))), some (.d (.int (first))), none, none, none, none, none, none, none, none, none, none, none, none, none, none, none, none, none], [], [.lst (town (n + 1))]⟩ = dat (.list ((List.range (ws.length + 1)).map fun k => PyData.int (ssum ws k))) ⟨[some (.s ns), some (.c 0), some (.d (.int (high))), some (.d (.list ((ws).map PyData.int))), some (.d (.int (first))), none, none, none, none, none, none, none, none, none, none, none, none, none, none, none, none, none], [], [.lst (town (n + 1))]⟩ :=
    comp_map1 (fun (k : Nat) => .int (k : Int)) (fun k => .int (ssum ws k)) (rng1_same (by simp -implicitDefEqProofs [BC.run, toAvs, toAv, apart, b0ok, backOk, backAll, isiV, peek, isiD, tru, peekR, truthD, cmpD, ltD, binD, addD, subD, solid, solids, peeks, setTg, setIs, one1_dat, bfD, bLen, isNone, dat, partM, partI, Xe.isNil, Va.tag, goes, Re.closed, resOf, setRes, lstAt]) (by omega)) (by simp [lim]; omega) (fun k hk => by simp -implicitDefEqProofs [BC.run, toAvs, toAv, apart, b0ok, backOk, backAll, isiV, peek, isiD, tru, peekR, truthD, cmpD, ltD, binD, addD, subD, solid, solids, peeks, setTg, setIs, one1_dat, bfD, bLen, isNone, dat, partM, partI, Xe.isNil, Va.tag, goes, Re.closed, resOf, setRes, lstAt, sliceD, sum_cut])
  exact step_next T_law_4 rfl _ (by simp -implicitDefEqProofs [BC.run, toAvs, toAv, apart, b0ok, backOk, backAll, isiV, peek, isiD, tru, peekR, truthD, cmpD, ltD, binD, addD, subD, solid, solids, peeks, setTg, setIs, one1_dat, bfD, bLen, isNone, dat, partM, partI, Xe.isNil, Va.tag, goes, Re.closed, resOf, setRes, lstAt, hc, sumsOf, Function.comp_def])
theorem step5 (ns : List Int) (high : Int) (ws : List Int) (n : Nat) (first : Int) (hh : 1 ≤ high) (hl : ws.length ≤ 11) : semS (tbl L_law) gl T_law_5 ⟨[some (.s ns), some (.c 0), some (.d (.int (high))), some (.d (.list ((ws).map PyData.int))), some (.d (.int (first))), some (.d (.list ((sumsOf ws).map PyData.int))), none, none, none, none, none, none, none, none, none, none, none, none, none, none, none, none], [], [.lst (town (n + 1))]⟩ = semS (tbl L_law) gl T_law_6 ⟨[some (.s ns), some (.c 0), some (.d (.int (high))), some (.d (.list ((ws).map PyData.int))), some (.d (.int (first))), some (.d (.list ((sumsOf ws).map PyData.int))), some (.d (.list ((readsOf (high + 1) first ws).map PyData.int))), none, none, none, none, none, none, none, none, none, none, none, none, none, none, none], [], [.lst (town (n + 1))]⟩ := by
  have hp : 0 < high + 1 := by omega
  have hc : sem (tbl L_law) gl E_law_2 ⟨[some (.s ns), some (.c 0), some (.d (.int (high))), some (.d (.list ((ws).map PyData.int))), some (.d (.int (first))), some (.d (.list ((sumsOf ws).map PyData.int))), none, none, none, none, none, none, none, none, none, none, none, none, none, none, none, none], [], [.lst (town (n + 1))]⟩ = dat (.list ((sumsOf ws).map fun x => PyData.int ((first + x) % (high + 1)))) ⟨[some (.s ns), some (.c 0), some (.d (.int (high))), some (.d (.list ((ws).map PyData.int))), some (.d (.int (first))), some (.d (.list ((sumsOf ws).map PyData.int))), none, none, none, none, none, none, none, none, none, none, none, none, none, none, none, none], [], [.lst (town (n + 1))]⟩ :=
    comp_map1 PyData.int (fun x => .int ((first + x) % (high + 1))) (by simp -implicitDefEqProofs [BC.run, toAvs, toAv, apart, b0ok, backOk, backAll, isiV, peek, isiD, tru, peekR, truthD, cmpD, ltD, binD, addD, subD, solid, solids, peeks, setTg, setIs, one1_dat, bfD, bLen, isNone, dat, partM, partI, Xe.isNil, Va.tag, goes, Re.closed, resOf, setRes, lstAt, Function.comp_def]) (by simp [lim, sumsOf]; omega) (fun k hk => by simp -implicitDefEqProofs [BC.run, toAvs, toAv, apart, b0ok, backOk, backAll, isiV, peek, isiD, tru, peekR, truthD, cmpD, ltD, binD, addD, subD, solid, solids, peeks, setTg, setIs, one1_dat, bfD, bLen, isNone, dat, partM, partI, Xe.isNil, Va.tag, goes, Re.closed, resOf, setRes, lstAt, modD, hp])
  exact step_next T_law_5 rfl _ (by simp -implicitDefEqProofs [BC.run, toAvs, toAv, apart, b0ok, backOk, backAll, isiV, peek, isiD, tru, peekR, truthD, cmpD, ltD, binD, addD, subD, solid, solids, peeks, setTg, setIs, one1_dat, bfD, bLen, isNone, dat, partM, partI, Xe.isNil, Va.tag, goes, Re.closed, resOf, setRes, lstAt, hc, readsOf, Function.comp_def])
theorem num_ints (l : List Int) : ∀ x ∈ l.map PyData.int, num x = true := fun x hx => by
  obtain ⟨i, _, rfl⟩ := List.mem_map.mp hx
  rfl
theorem step6 (ns : List Int) (high : Int) (ws : List Int) (n : Nat) (first : Int) (hh : 1 ≤ high) (hh2 : high ≤ 65535) (hl : ws.length ≤ 11) (hw : ∀ w ∈ ws, 0 ≤ w ∧ w ≤ high) : semS (tbl L_law) gl T_law_6 ⟨[some (.s ns), some (.c 0), some (.d (.int (high))), some (.d (.list ((ws).map PyData.int))), some (.d (.int (first))), some (.d (.list ((sumsOf ws).map PyData.int))), some (.d (.list ((readsOf (high + 1) first ws).map PyData.int))), none, none, none, none, none, none, none, none, none, none, none, none, none, none, none], [], [.lst (town (n + 1))]⟩ = semS (tbl L_law) gl T_law_7 ⟨[some (.s ns), some (.c 0), some (.d (.int (high))), some (.d (.list ((ws).map PyData.int))), some (.d (.int (first))), some (.d (.list ((sumsOf ws).map PyData.int))), some (.d (.list ((readsOf (high + 1) first ws).map PyData.int))), none, none, none, none, none, none, none, none, none, none, none, none, none, none, none], [], [.lst (town (n + 1))]⟩ := by
  have t1 := totals_ok (top := high) (rs := readsOf (high + 1) first ws) hh hh2 (by rw [len_reads]; omega) fun r hr => by
    have := in_reads (by omega) r hr
    omega
  rw [totals_list fun w h => by have := hw w h; omega] at t1
  have t2 := totals_ok (top := high) (rs := []) hh hh2 (by simp) (by simp)
  have t2 : F_totals [.d (.int high), .d (.list [])] = .ok (.d (.list [])) [] := t2
  have q1 := eqD_list (num_ints (sumsOf ws))
  have q2 : eqD (.list []) (.list []) = some true := rfl
  exact step_next T_law_6 rfl _ (by simp -implicitDefEqProofs [BC.run, toAvs, toAv, apart, b0ok, backOk, backAll, isiV, peek, isiD, tru, peekR, truthD, cmpD, ltD, binD, addD, subD, solid, solids, peeks, setTg, setIs, one1_dat, bfD, bLen, isNone, dat, partM, partI, Xe.isNil, Va.tag, goes, Re.closed, resOf, setRes, lstAt, t1, t2, q1, q2, lim])

theorem step7 (ns : List Int) (high : Int) (ws : List Int) (n : Nat) (first : Int) (hh : 1 ≤ high) (hh2 : high ≤ 65535) (hl : ws.length ≤ 11) (hw : ∀ w ∈ ws, 0 ≤ w ∧ w ≤ high) (hn : n ≤ 30) : ∃ (vs : List Int) (n' : Nat), vs.length = ws.length ∧ (∀ w ∈ vs, 0 ≤ w ∧ w ≤ 300000) ∧ n' ≤ n + 11 ∧ semS (tbl L_law) gl T_law_7 ⟨[some (.s ns), some (.c 0), some (.d (.int (high))), some (.d (.list ((ws).map PyData.int))), some (.d (.int (first))), some (.d (.list ((sumsOf ws).map PyData.int))), some (.d (.list ((readsOf (high + 1) first ws).map PyData.int))), none, none, none, none, none, none, none, none, none, none, none, none, none, none, none], [], [.lst (town (n))]⟩ = semS (tbl L_law) gl T_law_8 ⟨[some (.s ns), some (.c 0), some (.d (.int (high))), some (.d (.list ((ws).map PyData.int))), some (.d (.int (first))), some (.d (.list ((sumsOf ws).map PyData.int))), some (.d (.list ((readsOf (high + 1) first ws).map PyData.int))), some (.d (.list ((vs).map PyData.int))), none, none, none, none, none, none, none, none, none, none, none, none, none, none], [], [.lst (town (n'))]⟩ := by
  obtain ⟨ys, W', e, hy, n', hW, hn', vs, hws, hb⟩ := comp_st2 (Φ := tbl L_law) (gl := gl) E_law_3 rfl (s := ⟨[some (.s ns), some (.c 0), some (.d (.int (high))), some (.d (.list ((ws).map PyData.int))), some (.d (.int (first))), some (.d (.list ((sumsOf ws).map PyData.int))), some (.d (.list ((readsOf (high + 1) first ws).map PyData.int))), none, none, none, none, none, none, none, none, none, none, none, none, none, none, none], [], [.lst (town (n))]⟩) (s1 := ⟨[some (.s ns), some (.c 0), some (.d (.int (high))), some (.d (.list ((ws).map PyData.int))), some (.d (.int (first))), some (.d (.list ((sumsOf ws).map PyData.int))), some (.d (.list ((readsOf (high + 1) first ws).map PyData.int))), none, none, none, none, none, none, none, none, none, none, none, none, none, none, none], [], [.lst (town (n))]⟩) (xs := ws) PyData.int
    (fun k ys W => ∃ n', W = [.lst (town n')] ∧ n' ≤ n + k ∧ ∃ vs : List Int, ys = vs.map .int ∧ ∀ w ∈ vs, 0 ≤ w ∧ w ≤ 300000)
    (by simp -implicitDefEqProofs [BC.run, toAvs, toAv, apart, b0ok, backOk, backAll, isiV, peek, isiD, tru, peekR, truthD, cmpD, ltD, binD, addD, subD, solid, solids, peeks, setTg, setIs, one1_dat, bfD, bLen, isNone, dat, partM, partI, Xe.isNil, Va.tag, goes, Re.closed, resOf, setRes, lstAt, Function.comp_def]) (by simp [lim]; omega) ⟨n, rfl, by omega, [], rfl, by simp⟩ (fun k hk ys W hy ⟨n', hW, hn', vs, hws, hb⟩ => by
      obtain ⟨u, u1, u2, e2⟩ := draw_ok ns n' (many := 4) (by omega) (by omega)
      have m1 : mulD (.int (high + 1)) (.int u) = some (.int ((high + 1) * u)) := mul_l (by omega) (by omega)
      have hwk := hw ws[k] (List.getElem_mem hk)
      have b1 := Int.mul_le_mul_of_nonneg_left (show u ≤ 3 by omega) (show 0 ≤ high + 1 by omega)
      have b2 := Int.mul_nonneg (show 0 ≤ high + 1 by omega) u1
      subst hW
      refine ⟨.int (ws[k] + (high + 1) * u), _, [.lst (town (n' + 1))], (by simp -implicitDefEqProofs [BC.run, toAvs, toAv, apart, b0ok, backOk, backAll, isiV, peek, isiD, tru, peekR, truthD, cmpD, ltD, binD, addD, subD, solid, solids, peeks, setTg, setIs, one1_dat, bfD, bLen, isNone, dat, partM, partI, Xe.isNil, Va.tag, goes, Re.closed, resOf, setRes, lstAt, e2, m1]; rfl), n' + 1, rfl, by omega, vs ++ [ws[k] + (high + 1) * u], by rw [hws]; simp, fun w hw => ?_⟩
      rcases List.mem_append.mp hw with h | h
      · exact hb w h
      · simp at h; omega)
  have hl' : vs.length = ys.length := by rw [hws, List.length_map]
  subst hW
  subst hws
  exact ⟨vs, n', by omega, hb, by omega, step_next T_law_7 rfl _ (by simp -implicitDefEqProofs [BC.run, toAvs, toAv, apart, b0ok, backOk, backAll, isiV, peek, isiD, tru, peekR, truthD, cmpD, ltD, binD, addD, subD, solid, solids, peeks, setTg, setIs, one1_dat, bfD, bLen, isNone, dat, partM, partI, Xe.isNil, Va.tag, goes, Re.closed, resOf, setRes, lstAt, e])⟩
theorem step8 (ns : List Int) (high : Int) (ws vs : List Int) (n : Nat) (first : Int) (hl : vs.length ≤ 11) : semS (tbl L_law) gl T_law_8 ⟨[some (.s ns), some (.c 0), some (.d (.int (high))), some (.d (.list ((ws).map PyData.int))), some (.d (.int (first))), some (.d (.list ((sumsOf ws).map PyData.int))), some (.d (.list ((readsOf (high + 1) first ws).map PyData.int))), some (.d (.list ((vs).map PyData.int))), none, none, none, none, none, none, none, none, none, none, none, none, none, none], [], [.lst (town (n))]⟩ = semS (tbl L_law) gl T_law_9 ⟨[some (.s ns), some (.c 0), some (.d (.int (high))), some (.d (.list ((ws).map PyData.int))), some (.d (.int (first))), some (.d (.list ((sumsOf vs).map PyData.int))), some (.d (.list ((readsOf (high + 1) first ws).map PyData.int))), some (.d (.list ((vs).map PyData.int))), none, none, none, none, none, none, none, none, none, none, none, none, none, none], [], [.lst (town (n))]⟩ := by
  have hc : sem (tbl L_law) gl E_law_4 ⟨[some (.s ns), some (.c 0), some (.d (.int (high))), some (.d (.list ((ws).map PyData.int))), some (.d (.int (first))), some (.d (.list ((sumsOf ws).map PyData.int))), some (.d (.list ((readsOf (high + 1) first ws).map PyData.int))), some (.d (.list ((vs).map PyData.int))), none, none, none, none, none, none, none, none, none, none, none, none, none, none], [], [.lst (town (n))]⟩ = dat (.list ((List.range (vs.length + 1)).map fun k => PyData.int (ssum vs k))) ⟨[some (.s ns), some (.c 0), some (.d (.int (high))), some (.d (.list ((ws).map PyData.int))), some (.d (.int (first))), some (.d (.list ((sumsOf ws).map PyData.int))), some (.d (.list ((readsOf (high + 1) first ws).map PyData.int))), some (.d (.list ((vs).map PyData.int))), none, none, none, none, none, none, none, none, none, none, none, none, none, none], [], [.lst (town (n))]⟩ :=
    comp_map1 (fun (k : Nat) => .int (k : Int)) (fun k => .int (ssum vs k)) (rng1_same (by simp -implicitDefEqProofs [BC.run, toAvs, toAv, apart, b0ok, backOk, backAll, isiV, peek, isiD, tru, peekR, truthD, cmpD, ltD, binD, addD, subD, solid, solids, peeks, setTg, setIs, one1_dat, bfD, bLen, isNone, dat, partM, partI, Xe.isNil, Va.tag, goes, Re.closed, resOf, setRes, lstAt]) (by omega)) (by simp [lim]; omega) (fun k hk => by simp -implicitDefEqProofs [BC.run, toAvs, toAv, apart, b0ok, backOk, backAll, isiV, peek, isiD, tru, peekR, truthD, cmpD, ltD, binD, addD, subD, solid, solids, peeks, setTg, setIs, one1_dat, bfD, bLen, isNone, dat, partM, partI, Xe.isNil, Va.tag, goes, Re.closed, resOf, setRes, lstAt, sliceD, sum_cut])
  have hsum : (List.range (vs.length + 1)).map (fun k => PyData.int (ssum vs k)) = (sumsOf vs).map .int := by unfold sumsOf; rw [List.map_map]; rfl
  rw [hsum] at hc
  exact step_next T_law_8 rfl _ (by simp -implicitDefEqProofs [BC.run, toAvs, toAv, apart, b0ok, backOk, backAll, isiV, peek, isiD, tru, peekR, truthD, cmpD, ltD, binD, addD, subD, solid, solids, peeks, setTg, setIs, one1_dat, bfD, bLen, isNone, dat, partM, partI, Xe.isNil, Va.tag, goes, Re.closed, resOf, setRes, lstAt, hc])
theorem step9 (ns : List Int) (high : Int) (ws vs : List Int) (n : Nat) (first : Int) (hh : 1 ≤ high) (hl : vs.length ≤ 11) : semS (tbl L_law) gl T_law_9 ⟨[some (.s ns), some (.c 0), some (.d (.int (high))), some (.d (.list ((ws).map PyData.int))), some (.d (.int (first))), some (.d (.list ((sumsOf vs).map PyData.int))), some (.d (.list ((readsOf (high + 1) first ws).map PyData.int))), some (.d (.list ((vs).map PyData.int))), none, none, none, none, none, none, none, none, none, none, none, none, none, none], [], [.lst (town (n))]⟩ = semS (tbl L_law) gl T_law_10 ⟨[some (.s ns), some (.c 0), some (.d (.int (high))), some (.d (.list ((ws).map PyData.int))), some (.d (.int (first))), some (.d (.list ((sumsOf vs).map PyData.int))), some (.d (.list ((readsOf (high + 1) first vs).map PyData.int))), some (.d (.list ((vs).map PyData.int))), none, none, none, none, none, none, none, none, none, none, none, none, none, none], [], [.lst (town (n))]⟩ := by
  have hp : 0 < high + 1 := by omega
  have hc : sem (tbl L_law) gl E_law_5 ⟨[some (.s ns), some (.c 0), some (.d (.int (high))), some (.d (.list ((ws).map PyData.int))), some (.d (.int (first))), some (.d (.list ((sumsOf vs).map PyData.int))), some (.d (.list ((readsOf (high + 1) first ws).map PyData.int))), some (.d (.list ((vs).map PyData.int))), none, none, none, none, none, none, none, none, none, none, none, none, none, none], [], [.lst (town (n))]⟩ = dat (.list ((sumsOf vs).map fun x => PyData.int ((first + x) % (high + 1)))) ⟨[some (.s ns), some (.c 0), some (.d (.int (high))), some (.d (.list ((ws).map PyData.int))), some (.d (.int (first))), some (.d (.list ((sumsOf vs).map PyData.int))), some (.d (.list ((readsOf (high + 1) first ws).map PyData.int))), some (.d (.list ((vs).map PyData.int))), none, none, none, none, none, none, none, none, none, none, none, none, none, none], [], [.lst (town (n))]⟩ :=
    comp_map1 PyData.int (fun x => .int ((first + x) % (high + 1))) (by simp -implicitDefEqProofs [BC.run, toAvs, toAv, apart, b0ok, backOk, backAll, isiV, peek, isiD, tru, peekR, truthD, cmpD, ltD, binD, addD, subD, solid, solids, peeks, setTg, setIs, one1_dat, bfD, bLen, isNone, dat, partM, partI, Xe.isNil, Va.tag, goes, Re.closed, resOf, setRes, lstAt, Function.comp_def]) (by simp [lim, sumsOf]; omega) (fun k hk => by simp -implicitDefEqProofs [BC.run, toAvs, toAv, apart, b0ok, backOk, backAll, isiV, peek, isiD, tru, peekR, truthD, cmpD, ltD, binD, addD, subD, solid, solids, peeks, setTg, setIs, one1_dat, bfD, bLen, isNone, dat, partM, partI, Xe.isNil, Va.tag, goes, Re.closed, resOf, setRes, lstAt, modD, hp])
  have hsum : (sumsOf vs).map (fun x => PyData.int ((first + x) % (high + 1))) = (readsOf (high + 1) first vs).map .int := by unfold readsOf; rw [List.map_map]; rfl
  rw [hsum] at hc
  exact step_next T_law_9 rfl _ (by simp -implicitDefEqProofs [BC.run, toAvs, toAv, apart, b0ok, backOk, backAll, isiV, peek, isiD, tru, peekR, truthD, cmpD, ltD, binD, addD, subD, solid, solids, peeks, setTg, setIs, one1_dat, bfD, bLen, isNone, dat, partM, partI, Xe.isNil, Va.tag, goes, Re.closed, resOf, setRes, lstAt, hc])
theorem step10 (ns : List Int) (high : Int) (ws vs : List Int) (n : Nat) (first : Int) (hh : 1 ≤ high) (hh2 : high ≤ 65535) (hn : n ≤ 50) : ∃ slip : Int, 0 ≤ slip ∧ slip ≤ 2 * high ∧ semS (tbl L_law) gl T_law_10 ⟨[some (.s ns), some (.c 0), some (.d (.int (high))), some (.d (.list ((ws).map PyData.int))), some (.d (.int (first))), some (.d (.list ((sumsOf vs).map PyData.int))), some (.d (.list ((readsOf (high + 1) first vs).map PyData.int))), some (.d (.list ((vs).map PyData.int))), none, none, none, none, none, none, none, none, none, none, none, none, none, none], [], [.lst (town (n))]⟩ = semS (tbl L_law) gl T_law_11 ⟨[some (.s ns), some (.c 0), some (.d (.int (high))), some (.d (.list ((ws).map PyData.int))), some (.d (.int (first))), some (.d (.list ((sumsOf vs).map PyData.int))), some (.d (.list ((readsOf (high + 1) first vs).map PyData.int))), some (.d (.list ((vs).map PyData.int))), some (.d (.int (slip))), none, none, none, none, none, none, none, none, none, none, none, none, none], [], [.lst (town (n + 2))]⟩ := by
  obtain ⟨p, hp, e1⟩ := pick_int ns n (l := [1, high / 2 + 1, 2 * high]) (by simp) (by omega)
  have hp' : 1 ≤ p ∧ p ≤ 2 * high := by simp at hp; omega
  obtain ⟨v, h1, h2, e2⟩ := draw_ok ns (n + 1) (many := p) (by omega) (by omega)
  simp only [List.map_cons, List.map_nil] at e1
  have d : divD (.int high) (.int 2) = some (.int (high / 2)) := div_ok (by omega) (by omega)
  have m : mulD (.int 2) (.int high) = some (.int (2 * high)) := mul_l (by omega) (by omega)
  exact ⟨v, by omega, by omega, step_next T_law_10 rfl _ (by simp -implicitDefEqProofs [BC.run, toAvs, toAv, apart, b0ok, backOk, backAll, isiV, peek, isiD, tru, peekR, truthD, cmpD, ltD, binD, addD, subD, solid, solids, peeks, setTg, setIs, one1_dat, bfD, bLen, isNone, dat, partM, partI, Xe.isNil, Va.tag, goes, Re.closed, resOf, setRes, lstAt, lim, e1, e2, d, m])⟩
theorem step11 (ns : List Int) (high : Int) (ws vs : List Int) (n : Nat) (first slip : Int) (hs : 0 ≤ slip) (hn : n ≤ 60) : ∃ off : Int, 0 ≤ off ∧ off ≤ slip ∧ semS (tbl L_law) gl T_law_11 ⟨[some (.s ns), some (.c 0), some (.d (.int (high))), some (.d (.list ((ws).map PyData.int))), some (.d (.int (first))), some (.d (.list ((sumsOf vs).map PyData.int))), some (.d (.list ((readsOf (high + 1) first vs).map PyData.int))), some (.d (.list ((vs).map PyData.int))), some (.d (.int (slip))), none, none, none, none, none, none, none, none, none, none, none, none, none], [], [.lst (town (n))]⟩ = semS (tbl L_law) gl T_law_12 ⟨[some (.s ns), some (.c 0), some (.d (.int (high))), some (.d (.list ((ws).map PyData.int))), some (.d (.int (first))), some (.d (.list ((sumsOf vs).map PyData.int))), some (.d (.list ((readsOf (high + 1) first vs).map PyData.int))), some (.d (.list ((vs).map PyData.int))), some (.d (.int (slip))), some (.d (.int (off))), none, none, none, none, none, none, none, none, none, none, none, none], [], [.lst (town (n + 1))]⟩ := by
  obtain ⟨v, h1, h2, e1⟩ := draw_ok ns n (many := slip + 1) (by omega) (by omega)
  exact ⟨v, h1, by omega, step_next T_law_11 rfl _ (by simp -implicitDefEqProofs [BC.run, toAvs, toAv, apart, b0ok, backOk, backAll, isiV, peek, isiD, tru, peekR, truthD, cmpD, ltD, binD, addD, subD, solid, solids, peeks, setTg, setIs, one1_dat, bfD, bLen, isNone, dat, partM, partI, Xe.isNil, Va.tag, goes, Re.closed, resOf, setRes, lstAt, e1])⟩
theorem step12 (ns : List Int) (high : Int) (ws vs : List Int) (n : Nat) (first slip off : Int) : semS (tbl L_law) gl T_law_12 ⟨[some (.s ns), some (.c 0), some (.d (.int (high))), some (.d (.list ((ws).map PyData.int))), some (.d (.int (first))), some (.d (.list ((sumsOf vs).map PyData.int))), some (.d (.list ((readsOf (high + 1) first vs).map PyData.int))), some (.d (.list ((vs).map PyData.int))), some (.d (.int (slip))), some (.d (.int (off))), none, none, none, none, none, none, none, none, none, none, none, none], [], [.lst (town (n))]⟩ = semS (tbl L_law) gl T_law_13 ⟨[some (.s ns), some (.c 0), some (.d (.int (high))), some (.d (.list ((ws).map PyData.int))), some (.d (.int (first))), some (.d (.list ((sumsOf vs).map PyData.int))), some (.d (.list ((readsOf (high + 1) first vs).map PyData.int))), some (.d (.list ((vs).map PyData.int))), some (.d (.int (slip))), some (.d (.int (off))), some (.c 1), none, none, none, none, none, none, none, none, none, none, none], [], [.lst (town (n)), .lst [.int 7]]⟩ := step_next T_law_12 rfl _ (by simp -implicitDefEqProofs [BC.run, toAvs, toAv, apart, b0ok, backOk, backAll, isiV, peek, isiD, tru, peekR, truthD, cmpD, ltD, binD, addD, subD, solid, solids, peeks, setTg, setIs, one1_dat, bfD, bLen, isNone, dat, partM, partI, Xe.isNil, Va.tag, goes, Re.closed, resOf, setRes, lstAt, lim])
theorem nth_lt {l : List Int} {x : Int} {j : Nat} (h : j < l.length) : nth (l ++ [x]) j = nth l j := by
  unfold nth
  rw [List.getD_eq_getElem?_getD, List.getD_eq_getElem?_getD, List.getElem?_append_left h]
theorem nth_eq {l : List Int} {x : Int} {j : Nat} (h : j = l.length) : nth (l ++ [x]) j = x := by
  unfold nth
  rw [List.getD_eq_getElem?_getD, List.getElem?_append_right (by omega), h, Nat.sub_self]
  rfl
theorem step13 (ns : List Int) (high : Int) (ws vs : List Int) (n : Nat) (first slip off : Int) (hl : vs.length ≤ 11) (hv : ∀ w ∈ vs, 0 ≤ w ∧ w ≤ 300000) (ho : 0 ≤ off) (hos : off ≤ slip) (hsl : slip ≤ 140000) (hn : n ≤ 70) :
    ∃ (ts : List Int) (n' : Nat) (o : Option Va), ts.length = vs.length + 1 ∧ (∀ t ∈ ts, 0 ≤ t ∧ t ≤ 1000000000) ∧ ts.Pairwise (· ≤ ·) ∧ (∀ k, k < vs.length → 0 ≤ nth ts (k + 1) - nth ts k ∧ nth ts (k + 1) - nth ts k - slip ≤ nth vs k ∧ nth vs k ≤ nth ts (k + 1) - nth ts k + slip) ∧ n' ≤ n + 11 ∧
      semS (tbl L_law) gl T_law_13 ⟨[some (.s ns), some (.c 0), some (.d (.int (high))), some (.d (.list ((ws).map PyData.int))), some (.d (.int (first))), some (.d (.list ((sumsOf vs).map PyData.int))), some (.d (.list ((readsOf (high + 1) first vs).map PyData.int))), some (.d (.list ((vs).map PyData.int))), some (.d (.int (slip))), some (.d (.int (off))), some (.c 1), none, none, none, none, none, none, none, none, none, none, none], [], [.lst (town (n)), .lst [.int 7]]⟩ = semS (tbl L_law) gl T_law_14 ⟨[some (.s ns), some (.c 0), some (.d (.int (high))), some (.d (.list ((ws).map PyData.int))), some (.d (.int (first))), some (.d (.list ((sumsOf vs).map PyData.int))), some (.d (.list ((readsOf (high + 1) first vs).map PyData.int))), some (.d (.list ((vs).map PyData.int))), some (.d (.int (slip))), some (.d (.int (off))), some (.c 1), o, none, none, none, none, none, none, none, none, none, none], [], [.lst (town (n')), .lst ((ts).map PyData.int)]⟩ := by
  have e0 : ∀ a b : Int, eqD (.int a) (.int b) = some (decide (a = b)) := fun _ _ => rfl
  obtain ⟨s', e, ti, last, n', o, hs, h1, h2, h3, h4, h5, h6⟩ := for_indR (Φ := tbl L_law) (gl := gl) R_law_0 rfl (s := ⟨[some (.s ns), some (.c 0), some (.d (.int (high))), some (.d (.list ((ws).map PyData.int))), some (.d (.int (first))), some (.d (.list ((sumsOf vs).map PyData.int))), some (.d (.list ((readsOf (high + 1) first vs).map PyData.int))), some (.d (.list ((vs).map PyData.int))), some (.d (.int (slip))), some (.d (.int (off))), some (.c 1), none, none, none, none, none, none, none, none, none, none, none], [], [.lst (town (n)), .lst [.int 7]]⟩) (xs := vs) PyData.int
    (fun k s => ∃ (ti : List Int) (last : Int) (n' : Nat) (o : Option Va), s = ⟨[some (.s ns), some (.c 0), some (.d (.int (high))), some (.d (.list ((ws).map PyData.int))), some (.d (.int (first))), some (.d (.list ((sumsOf vs).map PyData.int))), some (.d (.list ((readsOf (high + 1) first vs).map PyData.int))), some (.d (.list ((vs).map PyData.int))), some (.d (.int (slip))), some (.d (.int (off))), some (.c 1), o, none, none, none, none, none, none, none, none, none, none], [], [.lst (town (n')), .lst ((ti ++ [last]).map PyData.int)]⟩ ∧ ti.length = k ∧ (∀ t ∈ ti ++ [last], 0 ≤ t ∧ t ≤ last) ∧ last ≤ 7 + (k : Int) * 500000 ∧ (ti ++ [last]).Pairwise (· ≤ ·) ∧
      (∀ j, j < k → 0 ≤ nth (ti ++ [last]) (j + 1) - nth (ti ++ [last]) j ∧ nth (ti ++ [last]) (j + 1) - nth (ti ++ [last]) j - slip ≤ nth vs j ∧ nth vs j ≤ nth (ti ++ [last]) (j + 1) - nth (ti ++ [last]) j + slip) ∧ n' ≤ n + k)
    (by simp -implicitDefEqProofs [BC.run, toAvs, toAv, apart, b0ok, backOk, backAll, isiV, peek, isiD, tru, peekR, truthD, cmpD, ltD, binD, addD, subD, solid, solids, peeks, setTg, setIs, one1_dat, bfD, bLen, isNone, dat, partM, partI, Xe.isNil, Va.tag, goes, Re.closed, resOf, setRes, lstAt, Function.comp_def]) ⟨[], 7, n, none, rfl, rfl, by simp, by omega, by simp, fun j hj => by omega, by omega⟩ (fun k hk s ⟨ti, last, n', o, hs, h1, h2, h3, h4, h5, h6⟩ => by
      obtain ⟨u, u1, u2, e2⟩ := draw_ok ns n' (many := 2) (by omega) (by omega)
      have hvk := hv vs[k] (List.getElem_mem hk)
      have hnv : nth vs k = vs[k] := by
        unfold nth
        rw [List.getD_eq_getElem?_getD, List.getElem?_eq_getElem hk]
        rfl
      have e6 := at_last (l := ti.map PyData.int) (x := .int last)
      have e5 : ti.length + 1 < lim := by simp [lim]; omega
      subst hs
      obtain ⟨d, hd, hdo⟩ : ∃ d : Int, (d = if u = 0 then off else 0 - off) ∧ -off ≤ d ∧ d ≤ off := ⟨_, rfl, by split <;> omega, by split <;> omega⟩
      obtain ⟨x, hx, hx0, hx1, hx2⟩ : ∃ x : Int, bMax2 [.int 0, .int (vs[k] + d)] = some (.int x) ∧ 0 ≤ x ∧ x - off ≤ vs[k] ∧ vs[k] ≤ x + off := ⟨if vs[k] + d > 0 then vs[k] + d else 0, rfl, by split <;> omega, by split <;> omega, by split <;> omega⟩
      refine ⟨_, ⟨[some (.s ns), some (.c 0), some (.d (.int (high))), some (.d (.list ((ws).map PyData.int))), some (.d (.int (first))), some (.d (.list ((sumsOf vs).map PyData.int))), some (.d (.list ((readsOf (high + 1) first vs).map PyData.int))), some (.d (.list ((vs).map PyData.int))), some (.d (.int (slip))), some (.d (.int (off))), some (.c 1), some (.d (.int vs[k])), none, none, none, none, none, none, none, none, none, none], [], [.lst (town (n' + 1)), .lst ((ti ++ [last] ++ [last + x]).map PyData.int)]⟩, rfl, .inl ?_, ti ++ [last], last + x, n' + 1, _, rfl, by simp; omega, fun t ht => ?_, by omega, ?_, fun j hj => ?_, by omega⟩
      · unfold B_law_0
        by_cases hu : u = 0
        · rw [if_pos hu] at hd
          subst hd
          have hu' : decide (u = 0) = true := decide_eq_true hu
          simp -implicitDefEqProofs [BC.run, toAvs, toAv, apart, b0ok, backOk, backAll, isiV, peek, isiD, tru, peekR, truthD, cmpD, ltD, binD, addD, subD, solid, solids, peeks, setTg, setIs, one1_dat, bfD, bLen, isNone, dat, partM, partI, Xe.isNil, Va.tag, goes, Re.closed, resOf, setRes, lstAt, e0, e2, e6, e5, hu', hx]
        · rw [if_neg hu] at hd
          subst hd
          have hu' : decide (u = 0) = false := decide_eq_false hu
          have e9 : (0 : Int) - off = -off := by omega
          rw [e9] at hx
          simp -implicitDefEqProofs [BC.run, toAvs, toAv, apart, b0ok, backOk, backAll, isiV, peek, isiD, tru, peekR, truthD, cmpD, ltD, binD, addD, subD, solid, solids, peeks, setTg, setIs, one1_dat, bfD, bLen, isNone, dat, partM, partI, Xe.isNil, Va.tag, goes, Re.closed, resOf, setRes, lstAt, e0, e2, e6, e5, hu', hx]
      · rcases List.mem_append.mp ht with h | h
        · have := h2 t h; omega
        · simp at h; have := h2 last (by simp); omega
      · rw [List.pairwise_append]
        refine ⟨h4, by simp, fun a ha b hb => ?_⟩
        simp at hb
        have := h2 a ha
        omega
      · have hlen : (ti ++ [last]).length = k + 1 := by simp [h1]
        rcases (by omega : j < k ∨ j = k) with z | z
        · rw [nth_lt (l := ti ++ [last]) (j := j + 1) (by omega), nth_lt (l := ti ++ [last]) (j := j) (by omega)]
          exact h5 j z
        · subst z
          rw [nth_eq (l := ti ++ [last]) (j := j + 1) (by omega), nth_lt (l := ti ++ [last]) (j := j) (by omega), nth_eq (l := ti) (j := j) (by omega), hnv]
          omega)
  subst hs
  refine ⟨ti ++ [last], n', o, by simp [h1], fun t ht => by have := h2 t ht; omega, h4, h5, by omega, step_next T_law_13 rfl _ e⟩

def toldL (m slip : Int) (rs ts : List Int) : List PyData := (List.range rs.length).map fun k => opt (oA (fitK m slip rs ts) k)
theorem num_told (m slip : Int) (rs ts : List Int) : ∀ x ∈ toldL m slip rs ts, num x = true := fun x hx => by
  obtain ⟨k, _, rfl⟩ := List.mem_map.mp hx
  exact num_opt _
theorem isort_id {ts : List Int} (h : ts.Pairwise (· ≤ ·)) : isort ts = ts := by
  unfold isort
  exact List.mergeSort_of_pairwise (h.imp fun hab => decide_eq_true hab)
theorem step14 (ns : List Int) (high : Int) (ws vs ts : List Int) (n : Nat) (first slip off : Int) (o : Option Va) (hh : 1 ≤ high) (hh2 : high ≤ 65535) (hl : vs.length ≤ 11) (ht : ts.length = vs.length + 1) (htb : ∀ t ∈ ts, 0 ≤ t ∧ t ≤ 1000000000) (hp : ts.Pairwise (· ≤ ·)) (hs : 0 ≤ slip) (hs2 : slip ≤ 140000) :
    semS (tbl L_law) gl T_law_14 ⟨[some (.s ns), some (.c 0), some (.d (.int (high))), some (.d (.list ((ws).map PyData.int))), some (.d (.int (first))), some (.d (.list ((sumsOf vs).map PyData.int))), some (.d (.list ((readsOf (high + 1) first vs).map PyData.int))), some (.d (.list ((vs).map PyData.int))), some (.d (.int (slip))), some (.d (.int (off))), some (.c 1), o, none, none, none, none, none, none, none, none, none, none], [], [.lst (town (n)), .lst ((ts).map PyData.int)]⟩ = semS (tbl L_law) gl T_law_15 ⟨[some (.s ns), some (.c 0), some (.d (.int (high))), some (.d (.list ((ws).map PyData.int))), some (.d (.int (first))), some (.d (.list ((sumsOf vs).map PyData.int))), some (.d (.list ((readsOf (high + 1) first vs).map PyData.int))), some (.d (.list ((vs).map PyData.int))), some (.d (.int (slip))), some (.d (.int (off))), some (.c 1), o, some (.d (.list (toldL (high + 1) slip (readsOf (high + 1) first vs) ts))), none, none, none, none, none, none, none, none, none], [], [.lst (town (n)), .frz ((ts).map PyData.int)]⟩ := by
  have q : F_sure_totals _ = .ok (.d (.list (toldL (high + 1) slip (readsOf (high + 1) first vs) ts))) [] := sure_ok (top := high) (slip := slip) (rs := readsOf (high + 1) first vs) (ts := ts) hh hh2 (by rw [len_reads]; omega) (fun r hr => by
    have := in_reads (by omega) r hr
    omega) (by rw [len_reads]; omega) htb (isort_id hp) hs (by omega)
  exact step_next T_law_14 rfl _ (by simp -implicitDefEqProofs [BC.run, toAvs, toAv, apart, b0ok, backOk, backAll, isiV, peek, isiD, tru, peekR, truthD, cmpD, ltD, binD, addD, subD, solid, solids, peeks, setTg, setIs, one1_dat, bfD, bLen, isNone, dat, partM, partI, Xe.isNil, Va.tag, goes, Re.closed, resOf, setRes, lstAt, q])
theorem step15 (ns : List Int) (high : Int) (ws vs ts : List Int) (n : Nat) (first slip off : Int) (o : Option Va) (hh : 1 ≤ high) (hh2 : high ≤ 65535) (hl : vs.length ≤ 11) (ht : ts.length = vs.length + 1) (htb : ∀ t ∈ ts, 0 ≤ t ∧ t ≤ 1000000000) (htd : ∀ k, k < vs.length → 0 ≤ nth ts (k + 1) - nth ts k) (hs : 0 ≤ slip) (hs2 : slip ≤ 2 * high) :
    semS (tbl L_law) gl T_law_15 ⟨[some (.s ns), some (.c 0), some (.d (.int (high))), some (.d (.list ((ws).map PyData.int))), some (.d (.int (first))), some (.d (.list ((sumsOf vs).map PyData.int))), some (.d (.list ((readsOf (high + 1) first vs).map PyData.int))), some (.d (.list ((vs).map PyData.int))), some (.d (.int (slip))), some (.d (.int (off))), some (.c 1), o, some (.d (.list (toldL (high + 1) slip (readsOf (high + 1) first vs) ts))), none, none, none, none, none, none, none, none, none], [], [.lst (town (n)), .frz ((ts).map PyData.int)]⟩ = semS (tbl L_law) gl T_law_16 ⟨[some (.s ns), some (.c 0), some (.d (.int (high))), some (.d (.list ((ws).map PyData.int))), some (.d (.int (first))), some (.d (.list ((sumsOf vs).map PyData.int))), some (.d (.list ((readsOf (high + 1) first vs).map PyData.int))), some (.d (.list ((vs).map PyData.int))), some (.d (.int (slip))), some (.d (.int (off))), some (.c 1), o, some (.d (.list (toldL (high + 1) slip (readsOf (high + 1) first vs) ts))), none, none, none, none, none, none, none, none, none], [], [.lst (town (n)), .frz ((ts).map PyData.int)]⟩ := by
  have q := lsure_ok (size := high + 1) (slip := slip) (rs := readsOf (high + 1) first vs) (ts := ts) (by omega) (by omega) (by rw [len_reads]; omega) (by rw [len_reads]; omega) (by rw [len_reads]; omega) htb hs (by omega) (by
    have := Int.ediv_lt_of_lt_mul (show 0 < high + 1 by omega) (show 2 * slip < 5 * (high + 1) by omega)
    omega)
  rw [← told_sure (by omega) hs htd] at q
  have q : F__law_sure _ = .ok (.d (.list (toldL (high + 1) slip (readsOf (high + 1) first vs) ts))) [] := q
  have e := eqD_list (num_told (high + 1) slip (readsOf (high + 1) first vs) ts)
  exact step_next T_law_15 rfl _ (by simp -implicitDefEqProofs [BC.run, toAvs, toAv, apart, b0ok, backOk, backAll, isiV, peek, isiD, tru, peekR, truthD, cmpD, ltD, binD, addD, subD, solid, solids, peeks, setTg, setIs, one1_dat, bfD, bLen, isNone, dat, partM, partI, Xe.isNil, Va.tag, goes, Re.closed, resOf, setRes, lstAt, q, e])
theorem step16 (ns : List Int) (high : Int) (ws vs ts : List Int) (n : Nat) (first slip off : Int) (o : Option Va) (hh : 1 ≤ high) (hv : ∀ w ∈ vs, 0 ≤ w) (hf : ∀ k, k < vs.length → nth ts (k + 1) - nth ts k - slip ≤ nth vs k ∧ nth vs k ≤ nth ts (k + 1) - nth ts k + slip) :
    semS (tbl L_law) gl T_law_16 ⟨[some (.s ns), some (.c 0), some (.d (.int (high))), some (.d (.list ((ws).map PyData.int))), some (.d (.int (first))), some (.d (.list ((sumsOf vs).map PyData.int))), some (.d (.list ((readsOf (high + 1) first vs).map PyData.int))), some (.d (.list ((vs).map PyData.int))), some (.d (.int (slip))), some (.d (.int (off))), some (.c 1), o, some (.d (.list (toldL (high + 1) slip (readsOf (high + 1) first vs) ts))), none, none, none, none, none, none, none, none, none], [], [.lst (town (n)), .frz ((ts).map PyData.int)]⟩ = semS (tbl L_law) gl T_law_17 ⟨[some (.s ns), some (.c 0), some (.d (.int (high))), some (.d (.list ((ws).map PyData.int))), some (.d (.int (first))), some (.d (.list ((sumsOf vs).map PyData.int))), some (.d (.list ((readsOf (high + 1) first vs).map PyData.int))), some (.d (.list ((vs).map PyData.int))), some (.d (.int (slip))), some (.d (.int (off))), some (.c 1), o, some (.d (.list (toldL (high + 1) slip (readsOf (high + 1) first vs) ts))), none, none, none, none, none, none, none, none, none], [], [.lst (town (n)), .frz ((ts).map PyData.int)]⟩ := by
  have m : mulD (.int 2) (.int slip) = some (.int (2 * slip)) := mul_l (by omega) (by omega)
  by_cases c : 2 * slip ≤ high
  · have q : toldL (high + 1) slip (readsOf (high + 1) first vs) ts = (sumsOf vs).map .int := told_list (by omega) hv hf
    have e := eqD_list (num_ints (sumsOf vs))
    rw [q]
    exact step_next T_law_16 rfl _ (by simp -implicitDefEqProofs [BC.run, toAvs, toAv, apart, b0ok, backOk, backAll, isiV, peek, isiD, tru, peekR, truthD, cmpD, ltD, binD, addD, subD, solid, solids, peeks, setTg, setIs, one1_dat, bfD, bLen, isNone, dat, partM, partI, Xe.isNil, Va.tag, goes, Re.closed, resOf, setRes, lstAt, m, c, e])
  · exact step_next T_law_16 rfl _ (by simp -implicitDefEqProofs [BC.run, toAvs, toAv, apart, b0ok, backOk, backAll, isiV, peek, isiD, tru, peekR, truthD, cmpD, ltD, binD, addD, subD, solid, solids, peeks, setTg, setIs, one1_dat, bfD, bLen, isNone, dat, partM, partI, Xe.isNil, Va.tag, goes, Re.closed, resOf, setRes, lstAt, m, c])
theorem step17 (ns : List Int) (high : Int) (ws vs ts : List Int) (n : Nat) (first slip off : Int) (o : Option Va) (hn : n ≤ 100) : ∃ under : Int, 1 ≤ under ∧ under ≤ 1000 ∧ semS (tbl L_law) gl T_law_17 ⟨[some (.s ns), some (.c 0), some (.d (.int (high))), some (.d (.list ((ws).map PyData.int))), some (.d (.int (first))), some (.d (.list ((sumsOf vs).map PyData.int))), some (.d (.list ((readsOf (high + 1) first vs).map PyData.int))), some (.d (.list ((vs).map PyData.int))), some (.d (.int (slip))), some (.d (.int (off))), some (.c 1), o, some (.d (.list (toldL (high + 1) slip (readsOf (high + 1) first vs) ts))), none, none, none, none, none, none, none, none, none], [], [.lst (town (n)), .frz ((ts).map PyData.int)]⟩ = semS (tbl L_law) gl T_law_18 ⟨[some (.s ns), some (.c 0), some (.d (.int (high))), some (.d (.list ((ws).map PyData.int))), some (.d (.int (first))), some (.d (.list ((sumsOf vs).map PyData.int))), some (.d (.list ((readsOf (high + 1) first vs).map PyData.int))), some (.d (.list ((vs).map PyData.int))), some (.d (.int (slip))), some (.d (.int (off))), some (.c 1), o, some (.d (.list (toldL (high + 1) slip (readsOf (high + 1) first vs) ts))), some (.d (.int (under))), none, none, none, none, none, none, none, none], [], [.lst (town (n + 2)), .frz ((ts).map PyData.int)]⟩ := by
  obtain ⟨p, hp, e1⟩ := pick_int ns n (l := [7, 1000]) (by simp) (by omega)
  have hp' : 7 ≤ p ∧ p ≤ 1000 := by simp at hp; omega
  obtain ⟨v, h1, h2, e2⟩ := draw_ok ns (n + 1) (many := p) (by omega) (by omega)
  simp only [List.map_cons, List.map_nil] at e1
  exact ⟨1 + v, by omega, by omega, step_next T_law_17 rfl _ (by simp -implicitDefEqProofs [BC.run, toAvs, toAv, apart, b0ok, backOk, backAll, isiV, peek, isiD, tru, peekR, truthD, cmpD, ltD, binD, addD, subD, solid, solids, peeks, setTg, setIs, one1_dat, bfD, bLen, isNone, dat, partM, partI, Xe.isNil, Va.tag, goes, Re.closed, resOf, setRes, lstAt, lim, e1, e2])⟩
theorem step18 (ns : List Int) (high : Int) (ws vs ts : List Int) (n : Nat) (first slip off : Int) (o : Option Va) (under : Int) (hn : n ≤ 110) : ∃ over : Int, under ≤ over ∧ over ≤ under + 100000 ∧ semS (tbl L_law) gl T_law_18 ⟨[some (.s ns), some (.c 0), some (.d (.int (high))), some (.d (.list ((ws).map PyData.int))), some (.d (.int (first))), some (.d (.list ((sumsOf vs).map PyData.int))), some (.d (.list ((readsOf (high + 1) first vs).map PyData.int))), some (.d (.list ((vs).map PyData.int))), some (.d (.int (slip))), some (.d (.int (off))), some (.c 1), o, some (.d (.list (toldL (high + 1) slip (readsOf (high + 1) first vs) ts))), some (.d (.int (under))), none, none, none, none, none, none, none, none], [], [.lst (town (n)), .frz ((ts).map PyData.int)]⟩ = semS (tbl L_law) gl T_law_19 ⟨[some (.s ns), some (.c 0), some (.d (.int (high))), some (.d (.list ((ws).map PyData.int))), some (.d (.int (first))), some (.d (.list ((sumsOf vs).map PyData.int))), some (.d (.list ((readsOf (high + 1) first vs).map PyData.int))), some (.d (.list ((vs).map PyData.int))), some (.d (.int (slip))), some (.d (.int (off))), some (.c 1), o, some (.d (.list (toldL (high + 1) slip (readsOf (high + 1) first vs) ts))), some (.d (.int (under))), some (.d (.int (over))), none, none, none, none, none, none, none], [], [.lst (town (n + 1)), .frz ((ts).map PyData.int)]⟩ := by
  obtain ⟨v, h1, h2, e2⟩ := draw_ok ns n (many := 100000) (by omega) (by omega)
  exact ⟨under + v, by omega, by omega, step_next T_law_18 rfl _ (by simp -implicitDefEqProofs [BC.run, toAvs, toAv, apart, b0ok, backOk, backAll, isiV, peek, isiD, tru, peekR, truthD, cmpD, ltD, binD, addD, subD, solid, solids, peeks, setTg, setIs, one1_dat, bfD, bLen, isNone, dat, partM, partI, Xe.isNil, Va.tag, goes, Re.closed, resOf, setRes, lstAt, e2])⟩
theorem step19 (ns : List Int) (high : Int) (ws vs ts : List Int) (n : Nat) (first slip off : Int) (o : Option Va) (under over : Int) (hn : n ≤ 120) : ∃ many : Nat, many ≤ 59 ∧ semS (tbl L_law) gl T_law_19 ⟨[some (.s ns), some (.c 0), some (.d (.int (high))), some (.d (.list ((ws).map PyData.int))), some (.d (.int (first))), some (.d (.list ((sumsOf vs).map PyData.int))), some (.d (.list ((readsOf (high + 1) first vs).map PyData.int))), some (.d (.list ((vs).map PyData.int))), some (.d (.int (slip))), some (.d (.int (off))), some (.c 1), o, some (.d (.list (toldL (high + 1) slip (readsOf (high + 1) first vs) ts))), some (.d (.int (under))), some (.d (.int (over))), none, none, none, none, none, none, none], [], [.lst (town (n)), .frz ((ts).map PyData.int)]⟩ = semS (tbl L_law) gl T_law_20 ⟨[some (.s ns), some (.c 0), some (.d (.int (high))), some (.d (.list ((ws).map PyData.int))), some (.d (.int (first))), some (.d (.list ((sumsOf vs).map PyData.int))), some (.d (.list ((readsOf (high + 1) first vs).map PyData.int))), some (.d (.list ((vs).map PyData.int))), some (.d (.int (slip))), some (.d (.int (off))), some (.c 1), o, some (.d (.list (toldL (high + 1) slip (readsOf (high + 1) first vs) ts))), some (.d (.int (under))), some (.d (.int (over))), some (.d (.int ((many : Nat)))), none, none, none, none, none, none], [], [.lst (town (n + 1)), .frz ((ts).map PyData.int)]⟩ := by
  obtain ⟨v, h1, h2, e2⟩ := draw_ok ns n (many := 60) (by omega) (by omega)
  obtain ⟨m, rfl⟩ := Int.eq_ofNat_of_zero_le h1
  exact ⟨m, by omega, step_next T_law_19 rfl _ (by simp -implicitDefEqProofs [BC.run, toAvs, toAv, apart, b0ok, backOk, backAll, isiV, peek, isiD, tru, peekR, truthD, cmpD, ltD, binD, addD, subD, solid, solids, peeks, setTg, setIs, one1_dat, bfD, bLen, isNone, dat, partM, partI, Xe.isNil, Va.tag, goes, Re.closed, resOf, setRes, lstAt, e2])⟩
theorem step20 (ns : List Int) (high : Int) (ws vs ts : List Int) (n : Nat) (first slip off : Int) (o : Option Va) (under over : Int) (many : Nat) (h1 : 1 ≤ under) (h2 : under ≤ over) (h3 : over ≤ 200000) (hm : many ≤ 59) : semS (tbl L_law) gl T_law_20 ⟨[some (.s ns), some (.c 0), some (.d (.int (high))), some (.d (.list ((ws).map PyData.int))), some (.d (.int (first))), some (.d (.list ((sumsOf vs).map PyData.int))), some (.d (.list ((readsOf (high + 1) first vs).map PyData.int))), some (.d (.list ((vs).map PyData.int))), some (.d (.int (slip))), some (.d (.int (off))), some (.c 1), o, some (.d (.list (toldL (high + 1) slip (readsOf (high + 1) first vs) ts))), some (.d (.int (under))), some (.d (.int (over))), some (.d (.int ((many : Nat)))), none, none, none, none, none, none], [], [.lst (town (n)), .frz ((ts).map PyData.int)]⟩ = semS (tbl L_law) gl T_law_21 ⟨[some (.s ns), some (.c 0), some (.d (.int (high))), some (.d (.list ((ws).map PyData.int))), some (.d (.int (first))), some (.d (.list ((sumsOf vs).map PyData.int))), some (.d (.list ((readsOf (high + 1) first vs).map PyData.int))), some (.d (.list ((vs).map PyData.int))), some (.d (.int (slip))), some (.d (.int (off))), some (.c 1), o, some (.d (.list (toldL (high + 1) slip (readsOf (high + 1) first vs) ts))), some (.d (.int (under))), some (.d (.int (over))), some (.d (.int ((many : Nat)))), some (.d (.list ((perOf over under many).map PyData.int))), none, none, none, none, none], [], [.lst (town (n)), .frz ((ts).map PyData.int)]⟩ := by
  have q := evened_ok (top := over) (under := under) (many := many) (by omega) (by omega) h1 h2 (by omega)
  have hp : ((List.range many).map fun (k : Nat) => PyData.int (((k : Int) + 1) * over / under - (k : Int) * over / under)) = (perOf over under many).map .int := by unfold perOf; rw [List.map_map]; rfl
  rw [hp] at q
  exact step_next T_law_20 rfl _ (by simp -implicitDefEqProofs [BC.run, toAvs, toAv, apart, b0ok, backOk, backAll, isiV, peek, isiD, tru, peekR, truthD, cmpD, ltD, binD, addD, subD, solid, solids, peeks, setTg, setIs, one1_dat, bfD, bLen, isNone, dat, partM, partI, Xe.isNil, Va.tag, goes, Re.closed, resOf, setRes, lstAt, q])
theorem len_per {top under : Int} {many : Nat} : (perOf top under many).length = many := by simp [perOf]
theorem step21 (ns : List Int) (high : Int) (ws vs ts : List Int) (n : Nat) (first slip off : Int) (o : Option Va) (under over : Int) (many : Nat) (h1 : 1 ≤ under) (h2 : under ≤ over) (h3 : over ≤ 200000) (hm : many ≤ 59) : ∃ o2 : Option Va, semS (tbl L_law) gl T_law_21 ⟨[some (.s ns), some (.c 0), some (.d (.int (high))), some (.d (.list ((ws).map PyData.int))), some (.d (.int (first))), some (.d (.list ((sumsOf vs).map PyData.int))), some (.d (.list ((readsOf (high + 1) first vs).map PyData.int))), some (.d (.list ((vs).map PyData.int))), some (.d (.int (slip))), some (.d (.int (off))), some (.c 1), o, some (.d (.list (toldL (high + 1) slip (readsOf (high + 1) first vs) ts))), some (.d (.int (under))), some (.d (.int (over))), some (.d (.int ((many : Nat)))), some (.d (.list ((perOf over under many).map PyData.int))), none, none, none, none, none], [], [.lst (town (n)), .frz ((ts).map PyData.int)]⟩ = semS (tbl L_law) gl T_law_22 ⟨[some (.s ns), some (.c 0), some (.d (.int (high))), some (.d (.list ((ws).map PyData.int))), some (.d (.int (first))), some (.d (.list ((sumsOf vs).map PyData.int))), some (.d (.list ((readsOf (high + 1) first vs).map PyData.int))), some (.d (.list ((vs).map PyData.int))), some (.d (.int (slip))), some (.d (.int (off))), some (.c 1), o, some (.d (.list (toldL (high + 1) slip (readsOf (high + 1) first vs) ts))), some (.d (.int (under))), some (.d (.int (over))), some (.d (.int ((many : Nat)))), some (.d (.list ((perOf over under many).map PyData.int))), o2, none, none, none, none], [], [.lst (town (n)), .frz ((ts).map PyData.int)]⟩ := by
  have e0 : ∀ a b : Int, eqD (.int a) (.int b) = some (decide (a = b)) := fun _ _ => rfl
  obtain ⟨s', e, o2, hs⟩ := for_indR (Φ := tbl L_law) (gl := gl) R_law_1 rfl (s := ⟨[some (.s ns), some (.c 0), some (.d (.int (high))), some (.d (.list ((ws).map PyData.int))), some (.d (.int (first))), some (.d (.list ((sumsOf vs).map PyData.int))), some (.d (.list ((readsOf (high + 1) first vs).map PyData.int))), some (.d (.list ((vs).map PyData.int))), some (.d (.int (slip))), some (.d (.int (off))), some (.c 1), o, some (.d (.list (toldL (high + 1) slip (readsOf (high + 1) first vs) ts))), some (.d (.int (under))), some (.d (.int (over))), some (.d (.int ((many : Nat)))), some (.d (.list ((perOf over under many).map PyData.int))), none, none, none, none, none], [], [.lst (town (n)), .frz ((ts).map PyData.int)]⟩) (xs := List.range ((many : Int) + 1 - 1).toNat) (fun (k : Nat) => .int (1 + (k : Int)))
    (fun k s => ∃ o2 : Option Va, s = ⟨[some (.s ns), some (.c 0), some (.d (.int (high))), some (.d (.list ((ws).map PyData.int))), some (.d (.int (first))), some (.d (.list ((sumsOf vs).map PyData.int))), some (.d (.list ((readsOf (high + 1) first vs).map PyData.int))), some (.d (.list ((vs).map PyData.int))), some (.d (.int (slip))), some (.d (.int (off))), some (.c 1), o, some (.d (.list (toldL (high + 1) slip (readsOf (high + 1) first vs) ts))), some (.d (.int (under))), some (.d (.int (over))), some (.d (.int ((many : Nat)))), some (.d (.list ((perOf over under many).map PyData.int))), o2, none, none, none, none], [], [.lst (town (n)), .frz ((ts).map PyData.int)]⟩) (rng2_same (by simp -implicitDefEqProofs [BC.run, toAvs, toAv, apart, b0ok, backOk, backAll, isiV, peek, isiD, tru, peekR, truthD, cmpD, ltD, binD, addD, subD, solid, solids, peeks, setTg, setIs, one1_dat, bfD, bLen, isNone, dat, partM, partI, Xe.isNil, Va.tag, goes, Re.closed, resOf, setRes, lstAt]) (by simp -implicitDefEqProofs [BC.run, toAvs, toAv, apart, b0ok, backOk, backAll, isiV, peek, isiD, tru, peekR, truthD, cmpD, ltD, binD, addD, subD, solid, solids, peeks, setTg, setIs, one1_dat, bfD, bLen, isNone, dat, partM, partI, Xe.isNil, Va.tag, goes, Re.closed, resOf, setRes, lstAt]) (by unfold rngOk; omega)) ⟨none, rfl⟩ (fun k hk s ⟨o2, hs⟩ => by
      have hk : k < many := by rw [List.length_range] at hk; omega
      subst hs
      have ek : (((List.range ((many : Int) + 1 - 1).toNat)[k] : Nat) : Int) = (k : Int) := by simp
      rw [ek]
      have hc := sum_cut (perOf over under many) (k + 1)
      rw [← psum_ssum (k + 1) (by rw [len_per]; omega), psum_per (k + 1) (by omega), show (((k + 1 : Nat)) : Int) = 1 + (k : Int) by omega, Int.mul_comm (1 + (k : Int)) over] at hc
      have m : mulD (.int over) (.int (1 + (k : Int))) = some (.int (over * (1 + (k : Int)))) := mul_l (by omega) (by omega)
      have d : ∀ a, divD (.int a) (.int under) = some (.int (a / under)) := fun a => div_ok (by omega) (by omega)
      refine ⟨_, ⟨[some (.s ns), some (.c 0), some (.d (.int (high))), some (.d (.list ((ws).map PyData.int))), some (.d (.int (first))), some (.d (.list ((sumsOf vs).map PyData.int))), some (.d (.list ((readsOf (high + 1) first vs).map PyData.int))), some (.d (.list ((vs).map PyData.int))), some (.d (.int (slip))), some (.d (.int (off))), some (.c 1), o, some (.d (.list (toldL (high + 1) slip (readsOf (high + 1) first vs) ts))), some (.d (.int (under))), some (.d (.int (over))), some (.d (.int ((many : Nat)))), some (.d (.list ((perOf over under many).map PyData.int))), some (.d (.int (1 + (k : Int)))), none, none, none, none], [], [.lst (town (n)), .frz ((ts).map PyData.int)]⟩, rfl, .inl ?_, _, rfl⟩
      unfold B_law_1
      simp -implicitDefEqProofs [BC.run, toAvs, toAv, apart, b0ok, backOk, backAll, isiV, peek, isiD, tru, peekR, truthD, cmpD, ltD, binD, addD, subD, solid, solids, peeks, setTg, setIs, one1_dat, bfD, bLen, isNone, dat, partM, partI, Xe.isNil, Va.tag, goes, Re.closed, resOf, setRes, lstAt, sliceD, hc, m, d, e0])
  subst hs
  exact ⟨o2, step_next T_law_21 rfl _ e⟩
theorem step22 (ns : List Int) (high : Int) (ws vs ts : List Int) (n : Nat) (first slip off : Int) (o : Option Va) (under over : Int) (many : Nat) (o2 : Option Va) (h1 : 1 ≤ under) (h2 : under ≤ over) (h3 : over ≤ 200000) (hm : many ≤ 59) : ∃ low : Int, - under < low ∧ low ≤ 0 ∧ semS (tbl L_law) gl T_law_22 ⟨[some (.s ns), some (.c 0), some (.d (.int (high))), some (.d (.list ((ws).map PyData.int))), some (.d (.int (first))), some (.d (.list ((sumsOf vs).map PyData.int))), some (.d (.list ((readsOf (high + 1) first vs).map PyData.int))), some (.d (.list ((vs).map PyData.int))), some (.d (.int (slip))), some (.d (.int (off))), some (.c 1), o, some (.d (.list (toldL (high + 1) slip (readsOf (high + 1) first vs) ts))), some (.d (.int (under))), some (.d (.int (over))), some (.d (.int ((many : Nat)))), some (.d (.list ((perOf over under many).map PyData.int))), o2, none, none, none, none], [], [.lst (town (n)), .frz ((ts).map PyData.int)]⟩ = semS (tbl L_law) gl T_law_23 ⟨[some (.s ns), some (.c 0), some (.d (.int (high))), some (.d (.list ((ws).map PyData.int))), some (.d (.int (first))), some (.d (.list ((sumsOf vs).map PyData.int))), some (.d (.list ((readsOf (high + 1) first vs).map PyData.int))), some (.d (.list ((vs).map PyData.int))), some (.d (.int (slip))), some (.d (.int (off))), some (.c 1), o, some (.d (.list (toldL (high + 1) slip (readsOf (high + 1) first vs) ts))), some (.d (.int (under))), some (.d (.int (over))), some (.d (.int ((many : Nat)))), some (.d (.list ((perOf over under many).map PyData.int))), o2, none, none, some (.d (.int (low))), some (.d (.int (0)))], [], [.lst (town (n)), .frz ((ts).map PyData.int)]⟩ := by
  have q := drift_ok (top := over) (under := under) (ps := perOf over under many) (by omega) (by omega) h1 h2 (by rw [len_per]; omega) (fun p hp => by have := per_bound (by omega) h3 h1 (by omega) p hp; omega)
  rw [len_per] at q
  obtain ⟨p1, p2, p3⟩ := drift_per (top := over) (under := under) (many := many) h1
  rw [p3] at q
  exact ⟨_, p1, p2, step_next T_law_22 rfl _ (by simp -implicitDefEqProofs [BC.run, toAvs, toAv, apart, b0ok, backOk, backAll, isiV, peek, isiD, tru, peekR, truthD, cmpD, ltD, binD, addD, subD, solid, solids, peeks, setTg, setIs, one1_dat, bfD, bLen, isNone, dat, partM, partI, Xe.isNil, Va.tag, goes, Re.closed, resOf, setRes, lstAt, q])⟩
theorem step23 (ns : List Int) (high : Int) (ws vs ts : List Int) (n : Nat) (first slip off : Int) (o : Option Va) (under over low : Int) (many : Nat) (o2 : Option Va) (hl1 : - under < low) (hl2 : low ≤ 0) : semS (tbl L_law) gl T_law_23 ⟨[some (.s ns), some (.c 0), some (.d (.int (high))), some (.d (.list ((ws).map PyData.int))), some (.d (.int (first))), some (.d (.list ((sumsOf vs).map PyData.int))), some (.d (.list ((readsOf (high + 1) first vs).map PyData.int))), some (.d (.list ((vs).map PyData.int))), some (.d (.int (slip))), some (.d (.int (off))), some (.c 1), o, some (.d (.list (toldL (high + 1) slip (readsOf (high + 1) first vs) ts))), some (.d (.int (under))), some (.d (.int (over))), some (.d (.int ((many : Nat)))), some (.d (.list ((perOf over under many).map PyData.int))), o2, none, none, some (.d (.int (low))), some (.d (.int (0)))], [], [.lst (town (n)), .frz ((ts).map PyData.int)]⟩ = semS (tbl L_law) gl T_law_24 ⟨[some (.s ns), some (.c 0), some (.d (.int (high))), some (.d (.list ((ws).map PyData.int))), some (.d (.int (first))), some (.d (.list ((sumsOf vs).map PyData.int))), some (.d (.list ((readsOf (high + 1) first vs).map PyData.int))), some (.d (.list ((vs).map PyData.int))), some (.d (.int (slip))), some (.d (.int (off))), some (.c 1), o, some (.d (.list (toldL (high + 1) slip (readsOf (high + 1) first vs) ts))), some (.d (.int (under))), some (.d (.int (over))), some (.d (.int ((many : Nat)))), some (.d (.list ((perOf over under many).map PyData.int))), o2, none, none, some (.d (.int (low))), some (.d (.int (0)))], [], [.lst (town (n)), .frz ((ts).map PyData.int)]⟩ := by
  have e0 : ∀ a b : Int, eqD (.int a) (.int b) = some (decide (a = b)) := fun _ _ => rfl
  have hz : 0 - under < low := by omega
  exact step_next T_law_23 rfl _ (by simp -implicitDefEqProofs [BC.run, toAvs, toAv, apart, b0ok, backOk, backAll, isiV, peek, isiD, tru, peekR, truthD, cmpD, ltD, binD, addD, subD, solid, solids, peeks, setTg, setIs, one1_dat, bfD, bLen, isNone, dat, partM, partI, Xe.isNil, Va.tag, goes, Re.closed, resOf, setRes, lstAt, e0, len_per, hl1, hl2, hz])
theorem step24 (ns : List Int) (high : Int) (ws vs ts : List Int) (n : Nat) (first slip off : Int) (o : Option Va) (under over low : Int) (many : Nat) (o2 : Option Va) (h1 : 1 ≤ under) (h2 : under ≤ over) (h3 : over ≤ 200000) (hm : many ≤ 59) (hn : n ≤ 130) : ∃ (bs : List Int) (n' : Nat), bs.length = many ∧ (∀ b ∈ bs, 0 ≤ b ∧ b ≤ 30000000) ∧ semS (tbl L_law) gl T_law_24 ⟨[some (.s ns), some (.c 0), some (.d (.int (high))), some (.d (.list ((ws).map PyData.int))), some (.d (.int (first))), some (.d (.list ((sumsOf vs).map PyData.int))), some (.d (.list ((readsOf (high + 1) first vs).map PyData.int))), some (.d (.list ((vs).map PyData.int))), some (.d (.int (slip))), some (.d (.int (off))), some (.c 1), o, some (.d (.list (toldL (high + 1) slip (readsOf (high + 1) first vs) ts))), some (.d (.int (under))), some (.d (.int (over))), some (.d (.int ((many : Nat)))), some (.d (.list ((perOf over under many).map PyData.int))), o2, none, none, some (.d (.int (low))), some (.d (.int (0)))], [], [.lst (town (n)), .frz ((ts).map PyData.int)]⟩ = semS (tbl L_law) gl T_law_25 ⟨[some (.s ns), some (.c 0), some (.d (.int (high))), some (.d (.list ((ws).map PyData.int))), some (.d (.int (first))), some (.d (.list ((sumsOf vs).map PyData.int))), some (.d (.list ((readsOf (high + 1) first vs).map PyData.int))), some (.d (.list ((vs).map PyData.int))), some (.d (.int (slip))), some (.d (.int (off))), some (.c 1), o, some (.d (.list (toldL (high + 1) slip (readsOf (high + 1) first vs) ts))), some (.d (.int (under))), some (.d (.int (over))), some (.d (.int ((many : Nat)))), some (.d (.list ((perOf over under many).map PyData.int))), o2, some (.d (.list ((bs).map PyData.int))), none, some (.d (.int (low))), some (.d (.int (0)))], [], [.lst (town (n')), .frz ((ts).map PyData.int)]⟩ := by
  obtain ⟨ys, W', e, hy, n', hW, hn', bs, hws, hb⟩ := comp_st2 (Φ := tbl L_law) (gl := gl) E_law_6 rfl (s := ⟨[some (.s ns), some (.c 0), some (.d (.int (high))), some (.d (.list ((ws).map PyData.int))), some (.d (.int (first))), some (.d (.list ((sumsOf vs).map PyData.int))), some (.d (.list ((readsOf (high + 1) first vs).map PyData.int))), some (.d (.list ((vs).map PyData.int))), some (.d (.int (slip))), some (.d (.int (off))), some (.c 1), o, some (.d (.list (toldL (high + 1) slip (readsOf (high + 1) first vs) ts))), some (.d (.int (under))), some (.d (.int (over))), some (.d (.int ((many : Nat)))), some (.d (.list ((perOf over under many).map PyData.int))), o2, none, none, some (.d (.int (low))), some (.d (.int (0)))], [], [.lst (town (n)), .frz ((ts).map PyData.int)]⟩) (s1 := ⟨[some (.s ns), some (.c 0), some (.d (.int (high))), some (.d (.list ((ws).map PyData.int))), some (.d (.int (first))), some (.d (.list ((sumsOf vs).map PyData.int))), some (.d (.list ((readsOf (high + 1) first vs).map PyData.int))), some (.d (.list ((vs).map PyData.int))), some (.d (.int (slip))), some (.d (.int (off))), some (.c 1), o, some (.d (.list (toldL (high + 1) slip (readsOf (high + 1) first vs) ts))), some (.d (.int (under))), some (.d (.int (over))), some (.d (.int ((many : Nat)))), some (.d (.list ((perOf over under many).map PyData.int))), o2, none, none, some (.d (.int (low))), some (.d (.int (0)))], [], [.lst (town (n)), .frz ((ts).map PyData.int)]⟩) (xs := perOf over under many) PyData.int
    (fun k ys W => ∃ n', W = [.lst (town n'), .frz (ts.map PyData.int)] ∧ n' ≤ n + k ∧ ∃ bs : List Int, ys = bs.map .int ∧ ∀ w ∈ bs, 0 ≤ w ∧ w ≤ 30000000)
    (by simp -implicitDefEqProofs [BC.run, toAvs, toAv, apart, b0ok, backOk, backAll, isiV, peek, isiD, tru, peekR, truthD, cmpD, ltD, binD, addD, subD, solid, solids, peeks, setTg, setIs, one1_dat, bfD, bLen, isNone, dat, partM, partI, Xe.isNil, Va.tag, goes, Re.closed, resOf, setRes, lstAt, Function.comp_def]) (by rw [len_per]; simp [lim]; omega) ⟨n, rfl, by omega, [], rfl, by simp⟩ (fun k hk ys W hy ⟨n', hW, hn', bs, hws, hb⟩ => by
      rw [len_per] at hk
      obtain ⟨u, u1, u2, e2⟩ := draw_ok ns n' (many := 3) (by omega) (by omega)
      have hk' : k < (perOf over under many).length := by rw [len_per]; exact hk
      have hpk := per_bound (by omega) h3 h1 (by omega) (perOf over under many)[k] (List.getElem_mem hk')
      generalize (perOf over under many)[k] = pk at *
      subst hW
      refine ⟨.int (pk + u), _, [.lst (town (n' + 1)), .frz (ts.map PyData.int)], (by simp -implicitDefEqProofs [BC.run, toAvs, toAv, apart, b0ok, backOk, backAll, isiV, peek, isiD, tru, peekR, truthD, cmpD, ltD, binD, addD, subD, solid, solids, peeks, setTg, setIs, one1_dat, bfD, bLen, isNone, dat, partM, partI, Xe.isNil, Va.tag, goes, Re.closed, resOf, setRes, lstAt, e2]; rfl), n' + 1, rfl, by omega, bs ++ [pk + u], by rw [hws]; simp, fun w hw => ?_⟩
      rcases List.mem_append.mp hw with h | h
      · exact hb w h
      · simp at h; omega)
  have hl' : bs.length = ys.length := by rw [hws, List.length_map]
  rw [len_per] at hy
  subst hW
  subst hws
  exact ⟨bs, n', by omega, hb, step_next T_law_24 rfl _ (by simp -implicitDefEqProofs [BC.run, toAvs, toAv, apart, b0ok, backOk, backAll, isiV, peek, isiD, tru, peekR, truthD, cmpD, ltD, binD, addD, subD, solid, solids, peeks, setTg, setIs, one1_dat, bfD, bLen, isNone, dat, partM, partI, Xe.isNil, Va.tag, goes, Re.closed, resOf, setRes, lstAt, e])⟩
theorem step25 (ns : List Int) (high : Int) (ws vs ts : List Int) (n : Nat) (first slip off : Int) (o : Option Va) (under over low : Int) (many : Nat) (o2 : Option Va) (bs : List Int) (h1 : 1 ≤ under) (h2 : under ≤ over) (h3 : over ≤ 200000) (hm : many ≤ 59) (hb : bs.length = many) : semS (tbl L_law) gl T_law_25 ⟨[some (.s ns), some (.c 0), some (.d (.int (high))), some (.d (.list ((ws).map PyData.int))), some (.d (.int (first))), some (.d (.list ((sumsOf vs).map PyData.int))), some (.d (.list ((readsOf (high + 1) first vs).map PyData.int))), some (.d (.list ((vs).map PyData.int))), some (.d (.int (slip))), some (.d (.int (off))), some (.c 1), o, some (.d (.list (toldL (high + 1) slip (readsOf (high + 1) first vs) ts))), some (.d (.int (under))), some (.d (.int (over))), some (.d (.int ((many : Nat)))), some (.d (.list ((perOf over under many).map PyData.int))), o2, some (.d (.list ((bs).map PyData.int))), none, some (.d (.int (low))), some (.d (.int (0)))], [], [.lst (town (n)), .frz ((ts).map PyData.int)]⟩ = semS (tbl L_law) gl T_law_26 ⟨[some (.s ns), some (.c 0), some (.d (.int (high))), some (.d (.list ((ws).map PyData.int))), some (.d (.int (first))), some (.d (.list ((sumsOf vs).map PyData.int))), some (.d (.list ((readsOf (high + 1) first vs).map PyData.int))), some (.d (.list ((vs).map PyData.int))), some (.d (.int (slip))), some (.d (.int (off))), some (.c 1), o, some (.d (.list (toldL (high + 1) slip (readsOf (high + 1) first vs) ts))), some (.d (.int (under))), some (.d (.int (over))), some (.d (.int ((many : Nat)))), some (.d (.list ((perOf over under many).map PyData.int))), o2, some (.d (.list ((bs).map PyData.int))), some (.d (.list ((dOffs bs over under (many + 1)).map PyData.int))), some (.d (.int (low))), some (.d (.int (0)))], [], [.lst (town (n)), .frz ((ts).map PyData.int)]⟩ := by
  have hc : sem (tbl L_law) gl E_law_7 ⟨[some (.s ns), some (.c 0), some (.d (.int (high))), some (.d (.list ((ws).map PyData.int))), some (.d (.int (first))), some (.d (.list ((sumsOf vs).map PyData.int))), some (.d (.list ((readsOf (high + 1) first vs).map PyData.int))), some (.d (.list ((vs).map PyData.int))), some (.d (.int (slip))), some (.d (.int (off))), some (.c 1), o, some (.d (.list (toldL (high + 1) slip (readsOf (high + 1) first vs) ts))), some (.d (.int (under))), some (.d (.int (over))), some (.d (.int ((many : Nat)))), some (.d (.list ((perOf over under many).map PyData.int))), o2, some (.d (.list ((bs).map PyData.int))), none, some (.d (.int (low))), some (.d (.int (0)))], [], [.lst (town (n)), .frz ((ts).map PyData.int)]⟩ = dat (.list ((List.range ((many : Int) + 1 - 1).toNat).map fun (k : Nat) => PyData.int (ssum bs (k + 1) * under - ((k : Int) + 1) * over))) ⟨[some (.s ns), some (.c 0), some (.d (.int (high))), some (.d (.list ((ws).map PyData.int))), some (.d (.int (first))), some (.d (.list ((sumsOf vs).map PyData.int))), some (.d (.list ((readsOf (high + 1) first vs).map PyData.int))), some (.d (.list ((vs).map PyData.int))), some (.d (.int (slip))), some (.d (.int (off))), some (.c 1), o, some (.d (.list (toldL (high + 1) slip (readsOf (high + 1) first vs) ts))), some (.d (.int (under))), some (.d (.int (over))), some (.d (.int ((many : Nat)))), some (.d (.list ((perOf over under many).map PyData.int))), o2, some (.d (.list ((bs).map PyData.int))), none, some (.d (.int (low))), some (.d (.int (0)))], [], [.lst (town (n)), .frz ((ts).map PyData.int)]⟩ :=
    comp_map1 (fun (k : Nat) => .int (1 + (k : Int))) (fun (k : Nat) => .int (ssum bs (k + 1) * under - ((k : Int) + 1) * over)) (rng2_same (by simp -implicitDefEqProofs [BC.run, toAvs, toAv, apart, b0ok, backOk, backAll, isiV, peek, isiD, tru, peekR, truthD, cmpD, ltD, binD, addD, subD, solid, solids, peeks, setTg, setIs, one1_dat, bfD, bLen, isNone, dat, partM, partI, Xe.isNil, Va.tag, goes, Re.closed, resOf, setRes, lstAt]) (by simp -implicitDefEqProofs [BC.run, toAvs, toAv, apart, b0ok, backOk, backAll, isiV, peek, isiD, tru, peekR, truthD, cmpD, ltD, binD, addD, subD, solid, solids, peeks, setTg, setIs, one1_dat, bfD, bLen, isNone, dat, partM, partI, Xe.isNil, Va.tag, goes, Re.closed, resOf, setRes, lstAt]) (by unfold rngOk; omega)) (by simp [lim]; omega) (fun k hk => by
      rw [List.mem_range] at hk
      have hc := sum_cut bs (k + 1)
      rw [show (((k + 1 : Nat)) : Int) = 1 + (k : Int) by omega] at hc
      have m1 : ∀ a, mulD (.int a) (.int under) = some (.int (a * under)) := fun a => mul_r (by omega) (by omega)
      have m2 : mulD (.int (1 + (k : Int))) (.int over) = some (.int (((k : Int) + 1) * over)) := by
        rw [Int.add_comm (k : Int) 1]; exact mul_l (by omega) (by omega)
      simp -implicitDefEqProofs [BC.run, toAvs, toAv, apart, b0ok, backOk, backAll, isiV, peek, isiD, tru, peekR, truthD, cmpD, ltD, binD, addD, subD, solid, solids, peeks, setTg, setIs, one1_dat, bfD, bLen, isNone, dat, partM, partI, Xe.isNil, Va.tag, goes, Re.closed, resOf, setRes, lstAt, sliceD, hc, m1, m2])
  have hp : [PyData.int 0] ++ ((List.range ((many : Int) + 1 - 1).toNat).map fun (k : Nat) => PyData.int (ssum bs (k + 1) * under - ((k : Int) + 1) * over)) = (dOffs bs over under (many + 1)).map .int := by
    unfold dOffs
    rw [show ((many : Int) + 1 - 1).toNat = many by omega, List.range_succ_eq_map, List.map_cons, List.map_cons, List.map_map, List.map_map]
    refine List.cons_eq_cons.mpr ⟨?_, ?_⟩
    · simp [dOff, psum]
    · refine List.map_congr_left fun k hk => ?_
      rw [List.mem_range] at hk
      show PyData.int _ = PyData.int (psum bs (k + 1) * under - ((k + 1 : Nat) : Int) * over)
      rw [psum_ssum (k + 1) (by omega), show (((k + 1 : Nat)) : Int) = (k : Int) + 1 by omega]
  have ha : addD (.list [.int 0]) (.list ((List.range ((many : Int) + 1 - 1).toNat).map fun (k : Nat) => PyData.int (ssum bs (k + 1) * under - ((k : Int) + 1) * over))) = some (.list ((dOffs bs over under (many + 1)).map .int)) := by
    show (if _ then _ else _) = _
    rw [if_pos (by simp [lim]; omega), hp]
  generalize ((List.range ((many : Int) + 1 - 1).toNat).map fun (k : Nat) => PyData.int (ssum bs (k + 1) * under - ((k : Int) + 1) * over)) = q at *
  refine step_next T_law_25 rfl _ ?_
  simp -implicitDefEqProofs [hc, ha, lim, dat, solids, solid, peek, binD]
theorem step26 (ns : List Int) (high : Int) (ws vs ts : List Int) (n : Nat) (first slip off : Int) (o : Option Va) (under over low : Int) (many : Nat) (o2 : Option Va) (bs : List Int) (h1 : 1 ≤ under) (h2 : under ≤ over) (h3 : over ≤ 200000) (hm : many ≤ 59) (hb : bs.length = many) (hbb : ∀ b ∈ bs, 0 ≤ b ∧ b ≤ 30000000) : ∃ s', semS (tbl L_law) gl T_law_26 ⟨[some (.s ns), some (.c 0), some (.d (.int (high))), some (.d (.list ((ws).map PyData.int))), some (.d (.int (first))), some (.d (.list ((sumsOf vs).map PyData.int))), some (.d (.list ((readsOf (high + 1) first vs).map PyData.int))), some (.d (.list ((vs).map PyData.int))), some (.d (.int (slip))), some (.d (.int (off))), some (.c 1), o, some (.d (.list (toldL (high + 1) slip (readsOf (high + 1) first vs) ts))), some (.d (.int (under))), some (.d (.int (over))), some (.d (.int ((many : Nat)))), some (.d (.list ((perOf over under many).map PyData.int))), o2, some (.d (.list ((bs).map PyData.int))), some (.d (.list ((dOffs bs over under (many + 1)).map PyData.int))), some (.d (.int (low))), some (.d (.int (0)))], [], [.lst (town (n)), .frz ((ts).map PyData.int)]⟩ = .ok (.ret (.d (.bool true))) s' := by
  have q := drift_ok (top := over) (under := under) (ps := bs) (by omega) (by omega) h1 h2 (by omega) (fun p hp => by have := hbb p hp; omega)
  rw [hb] at q
  have e8 : ∃ a r, dOffs bs over under (many + 1) = a :: r := by
    unfold dOffs
    rw [List.range_succ_eq_map]
    exact ⟨_, _, rfl⟩
  obtain ⟨a, r, e8⟩ := e8
  have m1 := min_ints (a := a) (r := r)
  have m2 := max_ints (a := a) (r := r)
  rw [← e8] at m1 m2
  have e := eqD_tup (l := [.int (minL (dOffs bs over under (many + 1))), .int (maxL (dOffs bs over under (many + 1)))]) (by simp [num])
  exact ⟨_, step_ret T_law_26 rfl _ _ (by simp -implicitDefEqProofs [BC.run, toAvs, toAv, apart, b0ok, backOk, backAll, isiV, peek, isiD, tru, peekR, truthD, cmpD, ltD, binD, addD, subD, solid, solids, peeks, setTg, setIs, one1_dat, bfD, bLen, isNone, dat, partM, partI, Xe.isNil, Va.tag, goes, Re.closed, resOf, setRes, lstAt, q, m1, m2, e, lim]; rfl)⟩

end K42

namespace K42
open PySem BC
theorem law_math (ns : List Int) (_ : ns.length ≤ 63) : F_law [.s ns] = .ok (.d (.bool true)) [] := by
  obtain ⟨high, a1, a2, s1⟩ := step1 ns
  obtain ⟨ws, n, b1, b2, b3, s2⟩ := step2 ns high a1
  obtain ⟨first, c1, c2, s3⟩ := step3 ns high ws n a1 b3
  have s4 := step4 ns high ws n first b1
  have s5 := step5 ns high ws n first a1 b1
  have s6 := step6 ns high ws n first a1 a2 b1 b2
  obtain ⟨vs, n2, d1, d2, d3, s7⟩ := step7 ns high ws (n + 1) first a1 a2 b1 b2 (by omega)
  have s8 := step8 ns high ws vs n2 first (by omega)
  have s9 := step9 ns high ws vs n2 first a1 (by omega)
  obtain ⟨slip, e1, e2, s10⟩ := step10 ns high ws vs n2 first a1 a2 (by omega)
  obtain ⟨off, f1, f2, s11⟩ := step11 ns high ws vs (n2 + 2) first slip e1 (by omega)
  have s12 := step12 ns high ws vs (n2 + 2 + 1) first slip off
  obtain ⟨ts, n3, o, g1, g2, g3, g4, g5, s13⟩ := step13 ns high ws vs (n2 + 2 + 1) first slip off (by omega) d2 f1 f2 (by omega) (by omega)
  have s14 := step14 ns high ws vs ts n3 first slip off o a1 a2 (by omega) g1 g2 g3 e1 (by omega)
  have s15 := step15 ns high ws vs ts n3 first slip off o a1 a2 (by omega) g1 g2 (fun k hk => (g4 k hk).1) e1 e2
  have s16 := step16 ns high ws vs ts n3 first slip off o a1 (fun w hw => (d2 w hw).1) (fun k hk => (g4 k hk).2)
  obtain ⟨under, h1, h2, s17⟩ := step17 ns high ws vs ts n3 first slip off o (by omega)
  obtain ⟨over, i1, i2, s18⟩ := step18 ns high ws vs ts (n3 + 2) first slip off o under (by omega)
  obtain ⟨many, j1, s19⟩ := step19 ns high ws vs ts (n3 + 2 + 1) first slip off o under over (by omega)
  have s20 := step20 ns high ws vs ts (n3 + 2 + 1 + 1) first slip off o under over many h1 i1 (by omega) j1
  obtain ⟨o2, s21⟩ := step21 ns high ws vs ts (n3 + 2 + 1 + 1) first slip off o under over many h1 i1 (by omega) j1
  obtain ⟨low, k1, k2, s22⟩ := step22 ns high ws vs ts (n3 + 2 + 1 + 1) first slip off o under over many o2 h1 i1 (by omega) j1
  have s23 := step23 ns high ws vs ts (n3 + 2 + 1 + 1) first slip off o under over low many o2 k1 k2
  obtain ⟨bs, n4, l1, l2, s24⟩ := step24 ns high ws vs ts (n3 + 2 + 1 + 1) first slip off o under over low many o2 h1 i1 (by omega) j1 (by omega)
  have s25 := step25 ns high ws vs ts n4 first slip off o under over low many o2 bs h1 i1 (by omega) j1 l1
  obtain ⟨s', s26⟩ := step26 ns high ws vs ts n4 first slip off o under over low many o2 bs h1 i1 (by omega) j1 l1 l2
  refine (defF_fin (np := 1) (n := 22) [some (.s ns), none, none, none, none, none, none, none, none, none, none, none, none, none, none, none, none, none, none, none, none, none] [] ⟨rfl, by decide⟩ rfl rfl).trans ?_
  have e : semS (tbl L_law) gl C_law ⟨[some (.s ns), none, none, none, none, none, none, none, none, none, none, none, none, none, none, none, none, none, none, none, none, none], [], []⟩ = .ok (.ret (.d (.bool true))) s' := by
    show semS (tbl L_law) gl T_law_0 _ = _
    rw [step0, s1, s2, s3, s4, s5, s6, s7, s8, s9, s10, s11, s12, s13, s14, s15, s16, s17, s18, s19, s20, s21, s22, s23, s24, s25, s26]
  rw [e, finF_r]
  simp [leave, outs, solid]
end K42

namespace K42
open PySem L2 BC PySem.W PyProof.Rows
theorem all_mk {l : PySem.W.OpenLaw} {w : World} {K : PySem.W.Frag} {h : Heap} {mg : Str → Option Value} {fa : Addr} (X : K.In h) (G : h.Ns mainGlobals mg) (hfa : mg "law" = some (.ref fa))
    (math : ∀ ns : List Int, ns.length ≤ 63 → F_law [.s ns] = .ok (.d (.bool true)) [])
    {od0 an0 : Option Addr} {sl0 : Array (Option Value)} {oc0 kV0 dc0 pm0 cd0 ct0 : Value} {f0 : Addr}
    {od1 an1 : Option Addr} {sl1 : Array (Option Value)} {oc1 kV1 dc1 pm1 cd1 ct1 : Value} {f1 : Addr}
    {od2 an2 : Option Addr} {sl2 : Array (Option Value)} {oc2 kV2 dc2 pm2 cd2 ct2 : Value} {f2 : Addr}
    {od3 an3 : Option Addr} {sl3 : Array (Option Value)} {oc3 kV3 dc3 pm3 cd3 ct3 : Value} {f3 : Addr}
    {od4 an4 : Option Addr} {sl4 : Array (Option Value)} {oc4 kV4 dc4 pm4 cd4 ct4 : Value} {f4 : Addr}
    {od5 an5 : Option Addr} {sl5 : Array (Option Value)} {oc5 kV5 dc5 pm5 cd5 ct5 : Value} {f5 : Addr}
    {od6 an6 : Option Addr} {sl6 : Array (Option Value)} {oc6 kV6 dc6 pm6 cd6 ct6 : Value} {f6 : Addr}
    {od7 an7 : Option Addr} {sl7 : Array (Option Value)} {oc7 kV7 dc7 pm7 cd7 ct7 : Value} {f7 : Addr}
    {od8 an8 : Option Addr} {sl8 : Array (Option Value)} {oc8 kV8 dc8 pm8 cd8 ct8 : Value} {f8 : Addr}
    {od9 an9 : Option Addr} {sl9 : Array (Option Value)} {oc9 kV9 dc9 pm9 cd9 ct9 : Value} {f9 : Addr}
    {od10 an10 : Option Addr} {sl10 : Array (Option Value)} {oc10 kV10 dc10 pm10 cd10 ct10 : Value} {f10 : Addr}
    {od11 an11 : Option Addr} {sl11 : Array (Option Value)} {oc11 kV11 dc11 pm11 cd11 ct11 : Value} {f11 : Addr}
    {od12 an12 : Option Addr} {sl12 : Array (Option Value)} {oc12 kV12 dc12 pm12 cd12 ct12 : Value} {f12 : Addr}
    {t0 : Tok}
    {t1 : Tok}
    {t2 : Tok}
    {t3 : Tok}
    {t4 : Tok}
    {e0 : Addr}
    {e1 : Addr}
    (a0 : PySem.W.nsIn K mainGlobals "is_whole" = some (some (.ref f0)))
    (l0 : K.lookup f0 = some ⟨oc0, od0, .func (PySem.W.fnOf "is_whole" "is_whole" (defArgs S_is_whole) (defBody S_is_whole) (defScope S_is_whole) .none kV0 dc0 pm0 an0 cd0 ct0), sl0⟩)
    (c0 : PySem.W.codeIn K cd0 "is_whole" = true)
    (k0 : PySem.W.keepIn K (.ref f0) = true)
    (a1 : PySem.W.nsIn K mainGlobals "look_reads" = some (some (.ref f1)))
    (l1 : K.lookup f1 = some ⟨oc1, od1, .func (PySem.W.fnOf "look_reads" "look_reads" (defArgs S_look_reads) (defBody S_look_reads) (defScope S_look_reads) .none kV1 dc1 pm1 an1 cd1 ct1), sl1⟩)
    (c1 : PySem.W.codeIn K cd1 "look_reads" = true)
    (k1 : PySem.W.keepIn K (.ref f1) = true)
    (a2 : PySem.W.nsIn K mainGlobals "totals" = some (some (.ref f2)))
    (l2 : K.lookup f2 = some ⟨oc2, od2, .func (PySem.W.fnOf "totals" "totals" (defArgs S_totals) (defBody S_totals) (defScope S_totals) .none kV2 dc2 pm2 an2 cd2 ct2), sl2⟩)
    (c2 : PySem.W.codeIn K cd2 "totals" = true)
    (k2 : PySem.W.keepIn K (.ref f2) = true)
    (a3 : PySem.W.nsIn K mainGlobals "fitting" = some (some (.ref f3)))
    (l3 : K.lookup f3 = some ⟨oc3, od3, .func (PySem.W.fnOf "fitting" "fitting" (defArgs S_fitting) (defBody S_fitting) (defScope S_fitting) .none kV3 dc3 pm3 an3 cd3 ct3), sl3⟩)
    (c3 : PySem.W.codeIn K cd3 "fitting" = true)
    (k3 : PySem.W.keepIn K (.ref f3) = true)
    (a4 : PySem.W.nsIn K mainGlobals "sure_totals" = some (some (.ref f4)))
    (l4 : K.lookup f4 = some ⟨oc4, od4, .func (PySem.W.fnOf "sure_totals" "sure_totals" (defArgs S_sure_totals) (defBody S_sure_totals) (defScope S_sure_totals) .none kV4 dc4 pm4 an4 cd4 ct4), sl4⟩)
    (c4 : PySem.W.codeIn K cd4 "sure_totals" = true)
    (k4 : PySem.W.keepIn K (.ref f4) = true)
    (a5 : PySem.W.nsIn K mainGlobals "evened" = some (some (.ref f5)))
    (l5 : K.lookup f5 = some ⟨oc5, od5, .func (PySem.W.fnOf "evened" "evened" (defArgs S_evened) (defBody S_evened) (defScope S_evened) .none kV5 dc5 pm5 an5 cd5 ct5), sl5⟩)
    (c5 : PySem.W.codeIn K cd5 "evened" = true)
    (k5 : PySem.W.keepIn K (.ref f5) = true)
    (a6 : PySem.W.nsIn K mainGlobals "drift" = some (some (.ref f6)))
    (l6 : K.lookup f6 = some ⟨oc6, od6, .func (PySem.W.fnOf "drift" "drift" (defArgs S_drift) (defBody S_drift) (defScope S_drift) .none kV6 dc6 pm6 an6 cd6 ct6), sl6⟩)
    (c6 : PySem.W.codeIn K cd6 "drift" = true)
    (k6 : PySem.W.keepIn K (.ref f6) = true)
    (a7 : PySem.W.nsIn K mainGlobals "_law_cell" = some (some (.ref f7)))
    (l7 : K.lookup f7 = some ⟨oc7, od7, .func (PySem.W.fnOf "_law_cell" "_law_cell" (defArgs S__law_cell) (defBody S__law_cell) (defScope S__law_cell) .none kV7 dc7 pm7 an7 cd7 ct7), sl7⟩)
    (c7 : PySem.W.codeIn K cd7 "_law_cell" = true)
    (k7 : PySem.W.keepIn K (.ref f7) = true)
    (a8 : PySem.W.nsIn K mainGlobals "_law_mix" = some (some (.ref f8)))
    (l8 : K.lookup f8 = some ⟨oc8, od8, .func (PySem.W.fnOf "_law_mix" "_law_mix" (defArgs S__law_mix) (defBody S__law_mix) (defScope S__law_mix) .none kV8 dc8 pm8 an8 cd8 ct8), sl8⟩)
    (c8 : PySem.W.codeIn K cd8 "_law_mix" = true)
    (k8 : PySem.W.keepIn K (.ref f8) = true)
    (a9 : PySem.W.nsIn K mainGlobals "_law_draw" = some (some (.ref f9)))
    (l9 : K.lookup f9 = some ⟨oc9, od9, .func (PySem.W.fnOf "_law_draw" "_law_draw" (defArgs S__law_draw) (defBody S__law_draw) (defScope S__law_draw) .none kV9 dc9 pm9 an9 cd9 ct9), sl9⟩)
    (c9 : PySem.W.codeIn K cd9 "_law_draw" = true)
    (k9 : PySem.W.keepIn K (.ref f9) = true)
    (a10 : PySem.W.nsIn K mainGlobals "_law_pick" = some (some (.ref f10)))
    (l10 : K.lookup f10 = some ⟨oc10, od10, .func (PySem.W.fnOf "_law_pick" "_law_pick" (defArgs S__law_pick) (defBody S__law_pick) (defScope S__law_pick) .none kV10 dc10 pm10 an10 cd10 ct10), sl10⟩)
    (c10 : PySem.W.codeIn K cd10 "_law_pick" = true)
    (k10 : PySem.W.keepIn K (.ref f10) = true)
    (a11 : PySem.W.nsIn K mainGlobals "_law_sure" = some (some (.ref f11)))
    (l11 : K.lookup f11 = some ⟨oc11, od11, .func (PySem.W.fnOf "_law_sure" "_law_sure" (defArgs S__law_sure) (defBody S__law_sure) (defScope S__law_sure) .none kV11 dc11 pm11 an11 cd11 ct11), sl11⟩)
    (c11 : PySem.W.codeIn K cd11 "_law_sure" = true)
    (k11 : PySem.W.keepIn K (.ref f11) = true)
    (a12 : PySem.W.nsIn K mainGlobals "law" = some (some (.ref f12)))
    (l12 : K.lookup f12 = some ⟨oc12, od12, .func (PySem.W.fnOf "law" "law" (defArgs S_law) (defBody S_law) (defScope S_law) .none kV12 dc12 pm12 an12 cd12 ct12), sl12⟩)
    (c12 : PySem.W.codeIn K cd12 "law" = true)
    (k12 : PySem.W.keepIn K (.ref f12) = true)
    (gg0 : PySem.W.nsIn K mainGlobals "MOST_TOP" = some (some (.int 65535 t0)))
    (gg1 : PySem.W.nsIn K mainGlobals "MOST_READS" = some (some (.int 100 t1)))
    (gg2 : PySem.W.nsIn K mainGlobals "MOST_SLIP" = some (some (.int 1000000 t2)))
    (gg3 : PySem.W.nsIn K mainGlobals "MOST_SPAN" = some (some (.int 1000000000 t3)))
    (gg4 : PySem.W.nsIn K mainGlobals "MOST_PERIODS" = some (some (.int 200 t4)))
    (xa0 : PySem.W.nsIn K mainGlobals "BadNumber" = some (some (.ref e0)))
    (xe0 : PySem.W.excIn K e0 [.type "ValueError", .type "Exception", .type "BaseException", .type "object"] "ValueError.__new__" = true)
    (xk0 : PySem.W.keepIn K (.ref e0) = true)
    (xs0 : PySem.W.subIn K (.ref e0) (.type "BaseException") = some true)
    (xt0 : PySem.W.typeIn K (.ref e0) = some (.type "type"))
    (xa1 : PySem.W.nsIn K mainGlobals "BadReads" = some (some (.ref e1)))
    (xe1 : PySem.W.excIn K e1 [.type "ValueError", .type "Exception", .type "BaseException", .type "object"] "ValueError.__new__" = true)
    (xk1 : PySem.W.keepIn K (.ref e1) = true)
    (xs1 : PySem.W.subIn K (.ref e1) (.type "BaseException") = some true)
    (xt1 : PySem.W.typeIn K (.ref e1) = some (.type "type"))
    (z0 : PySem.W.nsIn K mainGlobals "len" = some none)
    (z1 : PySem.W.nsIn K mainGlobals "abs" = some none)
    (z2 : PySem.W.nsIn K mainGlobals "min" = some none)
    (z3 : PySem.W.nsIn K mainGlobals "max" = some none)
    (z4 : PySem.W.nsIn K mainGlobals "sum" = some none)
    (z5 : PySem.W.nsIn K mainGlobals "sorted" = some none)
    (z6 : PySem.W.nsIn K mainGlobals "tuple" = some none)
    (z7 : PySem.W.nsIn K mainGlobals "list" = some none)
    (z8 : PySem.W.nsIn K mainGlobals "int" = some none)
    (z9 : PySem.W.nsIn K mainGlobals "str" = some none)
    (z10 : PySem.W.nsIn K mainGlobals "all" = some none)
    (z11 : PySem.W.nsIn K mainGlobals "range" = some none)
    (z12 : PySem.W.nsIn K mainGlobals "isinstance" = some none)
    (z13 : PySem.W.nsIn K mainGlobals "bool" = some none)
    (z14 : PySem.W.nsIn K mainGlobals "dict" = some none)
    (z15 : PySem.W.nsIn K mainGlobals "ValueError" = some none)
    : ∃ fd : FuncData, (∀ (s : Shared) (u : Value), BindsTo s fd ⟨[u], []⟩ [("_law_script", u)]) ∧ ∀ base : Heap, K.In base → base.Ns mainGlobals mg → FnOk l.prog w K mg base (L2.CX l.prog w) 13 fa fd ["_law_script"] (spLaw K) := by
  have e := hfa.symm.trans (PySem.W.mg_of X G a12)
  cases e
  let T : Tn := ⟨K, fun _ => 0, fun c => ([e0, e1] : List Addr).getD c 0, []⟩
  have env : Env1 T mg gl gnames xnames := by
    refine ⟨?_, ?_, ?_, ?_, ?_, ?_, ?_⟩
    · intro g x hx
      match g, hx with
      | 0, hx =>
        have e : some ("MOST_TOP" : Str) = some x := hx
        cases e
        exact ⟨.int 65535, _, PySem.W.mg_of X G gg0, ⟨_, rfl⟩, fun F => .int _⟩
      | 1, hx =>
        have e : some ("MOST_READS" : Str) = some x := hx
        cases e
        exact ⟨.int 100, _, PySem.W.mg_of X G gg1, ⟨_, rfl⟩, fun F => .int _⟩
      | 2, hx =>
        have e : some ("MOST_SLIP" : Str) = some x := hx
        cases e
        exact ⟨.int 1000000, _, PySem.W.mg_of X G gg2, ⟨_, rfl⟩, fun F => .int _⟩
      | 3, hx =>
        have e : some ("MOST_SPAN" : Str) = some x := hx
        cases e
        exact ⟨.int 1000000000, _, PySem.W.mg_of X G gg3, ⟨_, rfl⟩, fun F => .int _⟩
      | 4, hx =>
        have e : some ("MOST_PERIODS" : Str) = some x := hx
        cases e
        exact ⟨.int 200, _, PySem.W.mg_of X G gg4, ⟨_, rfl⟩, fun F => .int _⟩
      | g + 5, hx =>
        have e : (none : Option Str) = some x := hx
        cases e
    · intro c x hx
      match c, hx with
      | 0, hx =>
        have e : some ("BadNumber" : Str) = some x := hx
        cases e
        exact PySem.W.mg_of X G xa0
      | 1, hx =>
        have e : some ("BadReads" : Str) = some x := hx
        cases e
        exact PySem.W.mg_of X G xa1
      | c + 2, hx =>
        have e : (none : Option Str) = some x := hx
        cases e
    · intro c x hx
      match c, hx with
      | 0, hx =>
        have e : some ("BadNumber" : Str) = some x := hx
        cases e
        exact xe0
      | 1, hx =>
        have e : some ("BadReads" : Str) = some x := hx
        cases e
        exact xe1
      | c + 2, hx =>
        have e : (none : Option Str) = some x := hx
        cases e
    · intro c x hx
      match c, hx with
      | 0, hx =>
        have e : some ("BadNumber" : Str) = some x := hx
        cases e
        exact xk0
      | 1, hx =>
        have e : some ("BadReads" : Str) = some x := hx
        cases e
        exact xk1
      | c + 2, hx =>
        have e : (none : Option Str) = some x := hx
        cases e
    · intro c x hx
      match c, hx with
      | 0, hx =>
        have e : some ("BadNumber" : Str) = some x := hx
        cases e
        exact xs0
      | 1, hx =>
        have e : some ("BadReads" : Str) = some x := hx
        cases e
        exact xs1
      | c + 2, hx =>
        have e : (none : Option Str) = some x := hx
        cases e
    · intro c x hx
      match c, hx with
      | 0, hx =>
        have e : some ("BadNumber" : Str) = some x := hx
        cases e
        exact xt0
      | 1, hx =>
        have e : some ("BadReads" : Str) = some x := hx
        cases e
        exact xt1
      | c + 2, hx =>
        have e : (none : Option Str) = some x := hx
        cases e
    · refine bt_of ?_
      show ([mg "len", mg "abs", mg "min", mg "max", mg "sum", mg "sorted", mg "tuple", mg "list", mg "int", mg "str", mg "all", mg "range", mg "isinstance", mg "bool", mg "dict", mg "ValueError"] : List (Option Value)).all Option.isNone = true
      rw [PySem.W.mg_none_of X G z0, PySem.W.mg_none_of X G z1, PySem.W.mg_none_of X G z2, PySem.W.mg_none_of X G z3, PySem.W.mg_none_of X G z4, PySem.W.mg_none_of X G z5, PySem.W.mg_none_of X G z6, PySem.W.mg_none_of X G z7, PySem.W.mg_none_of X G z8, PySem.W.mg_none_of X G z9, PySem.W.mg_none_of X G z10, PySem.W.mg_none_of X G z11, PySem.W.mg_none_of X G z12, PySem.W.mg_none_of X G z13, PySem.W.mg_none_of X G z14, PySem.W.mg_none_of X G z15]
      rfl
  have B0 := fun_mk (st := S_is_whole) l0 c0 k0
  have b0 := B0.binds (ps := P_is_whole) fun _ _ _ _ _ _ us hl => match us, hl with | [_, _, _], _ => rfl
  have B1 := fun_mk (st := S_look_reads) l1 c1 k1
  have b1 := B1.binds (ps := P_look_reads) fun _ _ _ _ _ _ us hl => match us, hl with | [_, _], _ => rfl
  have B2 := fun_mk (st := S_totals) l2 c2 k2
  have b2 := B2.binds (ps := P_totals) fun _ _ _ _ _ _ us hl => match us, hl with | [_, _], _ => rfl
  have B3 := fun_mk (st := S_fitting) l3 c3 k3
  have b3 := B3.binds (ps := P_fitting) fun _ _ _ _ _ _ us hl => match us, hl with | [_, _, _, _], _ => rfl
  have B4 := fun_mk (st := S_sure_totals) l4 c4 k4
  have b4 := B4.binds (ps := P_sure_totals) fun _ _ _ _ _ _ us hl => match us, hl with | [_, _, _, _], _ => rfl
  have B5 := fun_mk (st := S_evened) l5 c5 k5
  have b5 := B5.binds (ps := P_evened) fun _ _ _ _ _ _ us hl => match us, hl with | [_, _, _], _ => rfl
  have B6 := fun_mk (st := S_drift) l6 c6 k6
  have b6 := B6.binds (ps := P_drift) fun _ _ _ _ _ _ us hl => match us, hl with | [_, _, _], _ => rfl
  have B7 := fun_mk (st := S__law_cell) l7 c7 k7
  have b7 := B7.binds (ps := P__law_cell) fun _ _ _ _ _ _ us hl => match us, hl with | [_, _], _ => rfl
  have B8 := fun_mk (st := S__law_mix) l8 c8 k8
  have b8 := B8.binds (ps := P__law_mix) fun _ _ _ _ _ _ us hl => match us, hl with | [_, _], _ => rfl
  have B9 := fun_mk (st := S__law_draw) l9 c9 k9
  have b9 := B9.binds (ps := P__law_draw) fun _ _ _ _ _ _ us hl => match us, hl with | [_, _, _], _ => rfl
  have B10 := fun_mk (st := S__law_pick) l10 c10 k10
  have b10 := B10.binds (ps := P__law_pick) fun _ _ _ _ _ _ us hl => match us, hl with | [_, _, _], _ => rfl
  have B11 := fun_mk (st := S__law_sure) l11 c11 k11
  have b11 := B11.binds (ps := P__law_sure) fun _ _ _ _ _ _ us hl => match us, hl with | [_, _, _, _], _ => rfl
  have B12 := fun_mk (st := S_law) l12 c12 k12
  have b12 := B12.binds (ps := P_law) fun _ _ _ _ _ _ us hl => match us, hl with | [_], _ => rfl
  refine ⟨PySem.W.fnOf "law" "law" (defArgs S_law) (defBody S_law) (defScope S_law) .none kV12 dc12 pm12 an12 cd12 ct12, fun s v => .of_eq rfl, fun base _ _ => ?_⟩
  have p0 : Past l.prog w T mg base [] [] := .nil
  have q0 := p0.fn (x := "is_whole") (N := N_is_whole) (ps := P_is_whole) (code := C_is_whole) env B0 (PySem.W.mg_of X G a0) b0 sc_is_whole rfl ck_is_whole
  have p1 : Past l.prog w T mg base X_look_reads L_look_reads := q0.2
  have q1 := p1.fn (x := "look_reads") (N := N_look_reads) (ps := P_look_reads) (code := C_look_reads) env B1 (PySem.W.mg_of X G a1) b1 sc_look_reads rfl ck_look_reads
  have p2 : Past l.prog w T mg base X_totals L_totals := q1.2
  have q2 := p2.fn (x := "totals") (N := N_totals) (ps := P_totals) (code := C_totals) env B2 (PySem.W.mg_of X G a2) b2 sc_totals rfl ck_totals
  have p3 : Past l.prog w T mg base X_fitting L_fitting := q2.2
  have q3 := p3.fn (x := "fitting") (N := N_fitting) (ps := P_fitting) (code := C_fitting) env B3 (PySem.W.mg_of X G a3) b3 sc_fitting rfl ck_fitting
  have p4 : Past l.prog w T mg base X_sure_totals L_sure_totals := q3.2
  have q4 := p4.fn (x := "sure_totals") (N := N_sure_totals) (ps := P_sure_totals) (code := C_sure_totals) env B4 (PySem.W.mg_of X G a4) b4 sc_sure_totals rfl ck_sure_totals
  have p5 : Past l.prog w T mg base X_evened L_evened := q4.2
  have q5 := p5.fn (x := "evened") (N := N_evened) (ps := P_evened) (code := C_evened) env B5 (PySem.W.mg_of X G a5) b5 sc_evened rfl ck_evened
  have p6 : Past l.prog w T mg base X_drift L_drift := q5.2
  have q6 := p6.fn (x := "drift") (N := N_drift) (ps := P_drift) (code := C_drift) env B6 (PySem.W.mg_of X G a6) b6 sc_drift rfl ck_drift
  have p7 : Past l.prog w T mg base X__law_cell L__law_cell := q6.2
  have q7 := p7.fn (x := "_law_cell") (N := N__law_cell) (ps := P__law_cell) (code := C__law_cell) env B7 (PySem.W.mg_of X G a7) b7 sc__law_cell rfl ck__law_cell
  have p8 : Past l.prog w T mg base X__law_mix L__law_mix := q7.2
  have q8 := p8.fn (x := "_law_mix") (N := N__law_mix) (ps := P__law_mix) (code := C__law_mix) env B8 (PySem.W.mg_of X G a8) b8 sc__law_mix rfl ck__law_mix
  have p9 : Past l.prog w T mg base X__law_draw L__law_draw := q8.2
  have q9 := p9.fn (x := "_law_draw") (N := N__law_draw) (ps := P__law_draw) (code := C__law_draw) env B9 (PySem.W.mg_of X G a9) b9 sc__law_draw rfl ck__law_draw
  have p10 : Past l.prog w T mg base X__law_pick L__law_pick := q9.2
  have q10 := p10.fn (x := "_law_pick") (N := N__law_pick) (ps := P__law_pick) (code := C__law_pick) env B10 (PySem.W.mg_of X G a10) b10 sc__law_pick rfl ck__law_pick
  have p11 : Past l.prog w T mg base X__law_sure L__law_sure := q10.2
  have q11 := p11.fn (x := "_law_sure") (N := N__law_sure) (ps := P__law_sure) (code := C__law_sure) env B11 (PySem.W.mg_of X G a11) b11 sc__law_sure rfl ck__law_sure
  have p12 : Past l.prog w T mg base X_law L_law := q11.2
  have q12 := p12.fn (x := "law") (N := N_law) (ps := P_law) (code := C_law) env B12 (PySem.W.mg_of X G a12) b12 sc_law rfl ck_law
  exact q12.1.imp (law_sp (T := T) math)
set_option pp.deepTerms false in
set_option pp.deepTerms.threshold 2 in
set_option pp.maxSteps 200 in
theorem go : PySem.Challenge.rw_beatchips_k42_whole_totals.Holds := by
  w_on; o_law; k_head; (case hw => w_witness2)
  k_fill
  refine law_walk (l := PySem.Challenge.rw_beatchips_k42_whole_totals) rfl rfl (k := 13) (x := "_law_script") ⟨rfl, by decide, by decide⟩ (fun w h Y => PySem.W.kIn_of Y) ?F
  case F =>
    intro w mg fa h KX G hmg
    refine' all_mk KX G hmg law_math ?a0 ?l0 ?c0 ?k0 ?a1 ?l1 ?c1 ?k1 ?a2 ?l2 ?c2 ?k2 ?a3 ?l3 ?c3 ?k3 ?a4 ?l4 ?c4 ?k4 ?a5 ?l5 ?c5 ?k5 ?a6 ?l6 ?c6 ?k6 ?a7 ?l7 ?c7 ?k7 ?a8 ?l8 ?c8 ?k8 ?a9 ?l9 ?c9 ?k9 ?a10 ?l10 ?c10 ?k10 ?a11 ?l11 ?c11 ?k11 ?a12 ?l12 ?c12 ?k12 ?gg0 ?gg1 ?gg2 ?gg3 ?gg4 ?xa0 ?xe0 ?xk0 ?xs0 ?xt0 ?xa1 ?xe1 ?xk1 ?xs1 ?xt1 ?z0 ?z1 ?z2 ?z3 ?z4 ?z5 ?z6 ?z7 ?z8 ?z9 ?z10 ?z11 ?z12 ?z13 ?z14 ?z15
    (case a0 => k_is)
    (case l0 => k_is)
    (case c0 => k_is)
    (case k0 => k_is)
    (case a1 => k_is)
    (case l1 => k_is)
    (case c1 => k_is)
    (case k1 => k_is)
    (case a2 => k_is)
    (case l2 => k_is)
    (case c2 => k_is)
    (case k2 => k_is)
    (case a3 => k_is)
    (case l3 => k_is)
    (case c3 => k_is)
    (case k3 => k_is)
    (case a4 => k_is)
    (case l4 => k_is)
    (case c4 => k_is)
    (case k4 => k_is)
    (case a5 => k_is)
    (case l5 => k_is)
    (case c5 => k_is)
    (case k5 => k_is)
    (case a6 => k_is)
    (case l6 => k_is)
    (case c6 => k_is)
    (case k6 => k_is)
    (case a7 => k_is)
    (case l7 => k_is)
    (case c7 => k_is)
    (case k7 => k_is)
    (case a8 => k_is)
    (case l8 => k_is)
    (case c8 => k_is)
    (case k8 => k_is)
    (case a9 => k_is)
    (case l9 => k_is)
    (case c9 => k_is)
    (case k9 => k_is)
    (case a10 => k_is)
    (case l10 => k_is)
    (case c10 => k_is)
    (case k10 => k_is)
    (case a11 => k_is)
    (case l11 => k_is)
    (case c11 => k_is)
    (case k11 => k_is)
    (case a12 => k_is)
    (case l12 => k_is)
    (case c12 => k_is)
    (case k12 => k_is)
    (case gg0 => k_is)
    (case gg1 => k_is)
    (case gg2 => k_is)
    (case gg3 => k_is)
    (case gg4 => k_is)
    (case xa0 => k_is)
    (case xe0 => k_exc)
    (case xk0 => k_is)
    (case xs0 => first | rfl | k_is)
    (case xt0 => k_is)
    (case xa1 => k_is)
    (case xe1 => k_exc)
    (case xk1 => k_is)
    (case xs1 => first | rfl | k_is)
    (case xt1 => k_is)
    (case z0 => k_is)
    (case z1 => k_is)
    (case z2 => k_is)
    (case z3 => k_is)
    (case z4 => k_is)
    (case z5 => k_is)
    (case z6 => k_is)
    (case z7 => k_is)
    (case z8 => k_is)
    (case z9 => k_is)
    (case z10 => k_is)
    (case z11 => k_is)
    (case z12 => k_is)
    (case z13 => k_is)
    (case z14 => k_is)
    (case z15 => k_is)
end K42

theorem PySem.Challenge.cw_beatchips_k42_whole_totals_holds : PySem.Challenge.rw_beatchips_k42_whole_totals.Holds :=
  K42.go
#print axioms PySem.Challenge.cw_beatchips_k42_whole_totals_holds

