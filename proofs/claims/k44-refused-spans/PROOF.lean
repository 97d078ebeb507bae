import PyProof.Rows.All
import Wide.All
import OpenK.AllK
import Wide.FinOn
import HandS.ForExc
import HandS.ForMost
import HandS.Wide
import HandS.TupMul
import HandS.Text
import HandS.RaiseMore
import HandS.Flow
import HandS.TupAny
import HandS.SortInts
import HandS.TryOnly
import HandS.Walk
import HandS.IsInst
import HandS.ExcIs
import HandS.ExcOwn
import HandS.ExcValue
import HandS.Strs
import HandS.SetFor
import HandS.Conv
import PySem.Challenge.RW_beatchips_k44_refused_spans
set_option Elab.async false
set_option linter.all false
set_option maxRecDepth 100000
set_option maxHeartbeats 8000000

/-! BSem: own codes for Python text, their evaluator over plain data. -/
namespace BC
open PySem

/-- a value: data, a cell of the world, a cell of the opened box, a caught error -/
inductive Va where
  | d (x : PyData) | c (k : Nat) | b (k : Nat) | x (n : Nat) | s (ns : List Int)
/-- a field: a value, a list of its own, a list that stands still (of parts, too) -/
inductive Fv where
  | v (x : Va) | ol (xs : List PyData) | fl (xs : List Va)
/-- what may change: a list, an instance, an instance with parts -/
inductive Re where
  | lst (xs : List PyData) | frz (xs : List PyData) | ins (c : Nat) (fs : List (Nat × Fv)) | box (rs : List Re)
/-- what is handed to a def: data, an error, what may change -/
inductive Av where
  | d (x : PyData) | x (n : Nat) | s (ns : List Int) | r (r : Re)
structure Sg where
  ρ : List (Option Va)
  B : List Re
  W : List Re
inductive Rs (α : Type) where
  | ok (a : α) (s : Sg) | err (c : Nat) (s : Sg) | stuck
inductive Fr where
  | ok (v : Av) (o : List Re) | err (c : Nat) (o : List Re) | stuck
abbrev Fn := List Av → Fr
abbrev Tbl := Nat → Fn

def Rs.bind {α β : Type} : Rs α → (α → Sg → Rs β) → Rs β
  | .ok a s, k => k a s
  | .err c s, _ => .err c s
  | .stuck, _ => .stuck
@[simp] theorem bind_ok {α β : Type} (a : α) (s : Sg) (k : α → Sg → Rs β) : (Rs.ok a s).bind k = k a s := rfl
@[simp] theorem bind_err {α β : Type} (c : Nat) (s : Sg) (k : α → Sg → Rs β) : (Rs.err c s : Rs α).bind k = .err c s := rfl
@[simp] theorem bind_stuck {α β : Type} (k : α → Sg → Rs β) : (Rs.stuck : Rs α).bind k = .stuck := rfl

/-! ### operations on data -/
abbrev lim : Nat := 1000000
abbrev big : Int := 2 ^ 64
abbrev huge : Nat := 2 ^ 4000
def addD : PyData → PyData → Option PyData
  | .int a, .int b => some (.int (a + b))
  | .str x, .str y => if x.length + y.length ≤ lim then some (.str (x ++ y)) else none
  | .list a, .list b => if a.length + b.length ≤ lim then some (.list (a ++ b)) else none
  | .tuple a, .tuple b => if a.length + b.length ≤ lim then some (.tuple (a ++ b)) else none
  | _, _ => none
def subD : PyData → PyData → Option PyData
  | .int a, .int b => some (.int (a - b))
  | _, _ => none
def mulD : PyData → PyData → Option PyData
  | .int a, .int b => if (-big < a ∧ a < big) ∨ (-big < b ∧ b < big) ∨ (a.natAbs < huge ∧ b.natAbs < huge) then some (.int (a * b)) else none
  | .list a, .int n => if -(2 ^ 63) ≤ n ∧ n < 2 ^ 63 ∧ a.length * n.toNat ≤ lim then some (.list (List.replicate n.toNat a).flatten) else none
  | .tuple a, .int n => if 2 ≤ n ∧ n ≤ 1000 ∧ a ≠ [] ∧ a.length ≤ 1000 then some (.tuple (List.replicate n.toNat a).flatten) else none
  | _, _ => none
def divD : PyData → PyData → Option PyData
  | .int a, .int b => if 0 < b ∧ b.natAbs < huge then some (.int (a / b)) else none
  | _, _ => none
def modD : PyData → PyData → Option PyData
  | .int a, .int b => if 0 < b then some (.int (a % b)) else none
  | _, _ => none
def powD : PyData → PyData → Option PyData
  | .int a, .int b => if 0 ≤ b ∧ b ≤ 1000 ∧ -big < a ∧ a < big then some (.int (a ^ b.toNat)) else none
  | _, _ => none
inductive Bo where
  | add | sub | mul | div | mod | pow
  deriving DecidableEq
def binD : Bo → PyData → PyData → Option PyData
  | .add => addD | .sub => subD | .mul => mulD | .div => divD | .mod => modD | .pow => powD

/-- none, bool, int, str -/
def flatD : PyData → Bool
  | .none => true | .bool _ => true | .int _ => true | .str _ => true
  | _ => false
def intsD : List PyData → Option (List Int)
  | [] => some []
  | .int i :: r => (intsD r).map (i :: ·)
  | _ :: _ => none
def boolsD : List PyData → Option (List Bool)
  | [] => some []
  | .bool i :: r => (boolsD r).map (i :: ·)
  | _ :: _ => none
def strsD : List PyData → Option (List Str)
  | [] => some []
  | .str i :: r => (strsD r).map (i :: ·)
  | _ :: _ => none
inductive Co where
  | eq | ne | lt | le | gt | ge | isIn | notIn
  deriving DecidableEq
/-- x in xs, for flat things; a text in a text -/
def inD (x y : PyData) : Option Bool :=
  match y with
  | .list ys => if flatD x && ys.all flatD then some (ys.any fun z => PyData.eqv z x) else none
  | .tuple ys => if flatD x && ys.all flatD then some (ys.any fun z => PyData.eqv z x) else none
  | .str t => match x with
    | .str u => some (!(Builtin.Str.occurrences t u 0 t.length 1).isEmpty)
    | _ => none
  | _ => none
def eqD (x y : PyData) : Option Bool := if SeqAt.shaped x && SeqAt.shaped y then some (PyData.eqv x y) else none
def ltD : PyData → PyData → Option Bool
  | .int a, .int b => some (decide (a < b))
  | .tuple a, .tuple b => match intsD a, intsD b with
    | some m, some n => some (HT.lexLt m n)
    | _, _ => none
  | _, _ => none
def cmpD : Co → PyData → PyData → Option Bool
  | .eq, x, y => eqD x y
  | .ne, x, y => (eqD x y).map (!·)
  | .lt, x, y => ltD x y
  | .le, .int a, .int b => some (decide (a ≤ b))
  | .gt, .int a, .int b => some (decide (b < a))
  | .ge, .int a, .int b => some (decide (b ≤ a))
  | .isIn, x, y => inD x y
  | .notIn, x, y => (inD x y).map (!·)
  | _, _, _ => none
def truthD : PyData → Option Bool
  | .none => some false
  | .bool b => some b
  | .int i => some (i != 0)
  | .str s => if s.length ≤ lim then some (s.length != 0) else none
  | .list l => some (!l.isEmpty)
  | .tuple l => some (!l.isEmpty)
  | _ => none
def idxD : PyData → PyData → Option PyData
  | .list l, .int i => L2.atI l i
  | .tuple l, .int i => L2.atI l i
  | .str z, .int i => if z.length ≤ lim then (L2.atI z.cps.toList i).map fun c => .str ⟨#[c]⟩ else none
  | _, _ => none
/-- a slice's part -/
def cutD (xs : List PyData) (lo hi : Option Int) : List PyData :=
  (xs.drop (HT.sIx xs.length 0 lo)).take (HT.sIx xs.length xs.length hi - HT.sIx xs.length 0 lo)
def sliceD (a : PyData) (lo hi : Option Int) : Option PyData :=
  match a with
  | .list l => some (.list (cutD l lo hi))
  | .tuple l => some (.tuple (cutD l lo hi))
  | .str z => if z.length ≤ lim then some (.str (L2.cutS z lo hi)) else none
  | _ => none

/-- built-in functions of data -/
inductive Bf where
  | len | abs | min2 | max2 | min1 | max1 | sum | sorted | tuple | list | int | str | all
  deriving DecidableEq
def insI (a : Int) : List Int → List Int
  | [] => [a]
  | b :: r => if a ≤ b then a :: b :: r else b :: insI a r
def isort : List Int → List Int
  | [] => []
  | a :: r => insI a (isort r)
theorem insI_perm (a : Int) : ∀ l : List Int, (insI a l).Perm (a :: l)
  | [] => .refl _
  | b :: r => by
    unfold insI
    split
    · exact .refl _
    · exact ((insI_perm a r).cons b).trans (.swap a b r)
theorem isort_perm : ∀ l : List Int, (isort l).Perm l
  | [] => .refl _
  | a :: r => (insI_perm a _).trans ((isort_perm r).cons a)
theorem insI_sorted (a : Int) : ∀ l : List Int, l.Pairwise (fun a b => decide (a ≤ b) = true) → (insI a l).Pairwise (fun a b => decide (a ≤ b) = true)
  | [], _ => by unfold insI; simp
  | b :: r, h => by
    obtain ⟨h1, h2⟩ := List.pairwise_cons.mp h
    unfold insI
    split
    · rename_i hab
      refine List.pairwise_cons.mpr ⟨fun x hx => ?_, h⟩
      rcases List.mem_cons.mp hx with q | q
      · subst q; simpa using hab
      · have := h1 x q
        simp at this ⊢
        omega
    · rename_i hab
      refine List.pairwise_cons.mpr ⟨fun x hx => ?_, insI_sorted a r h2⟩
      rcases List.mem_cons.mp ((insI_perm a r).mem_iff.mp hx) with q | q
      · subst q; simp; omega
      · exact h1 x q
theorem isort_sorted : ∀ l : List Int, (isort l).Pairwise (fun a b => decide (a ≤ b) = true)
  | [] => .nil
  | a :: r => insI_sorted a _ (isort_sorted r)
theorem isort_id : ∀ {l : List Int}, l.Pairwise (fun a b => decide (a ≤ b) = true) → isort l = l
  | [], _ => rfl
  | a :: r, h => by
    obtain ⟨h1, h2⟩ := List.pairwise_cons.mp h
    show insI a (isort r) = _
    rw [isort_id h2]
    cases r with
    | nil => rfl
    | cons b r =>
      have := h1 b List.mem_cons_self
      unfold insI
      rw [if_pos (by simpa using this)]
def minL : List Int → Int
  | [] => 0
  | [a] => a
  | a :: r => min a (minL r)
def maxL : List Int → Int
  | [] => 0
  | [a] => a
  | a :: r => max a (maxL r)
def listOf : PyData → Option (List PyData)
  | .list l => some l
  | .tuple l => some l
  | _ => none
def bLen : List PyData → Option PyData
  | [.list l] => some (.int l.length)
  | [.tuple l] => some (.int l.length)
  | [.str z] => if z.length ≤ lim then some (.int z.length) else none
  | _ => none
def bAbs : List PyData → Option PyData
  | [.int i] => some (.int (if i < 0 then -i else i))
  | _ => none
def bMin2 : List PyData → Option PyData
  | [.int i, .int j] => some (.int (if j < i then j else i))
  | _ => none
def bMax2 : List PyData → Option PyData
  | [.int i, .int j] => some (.int (if j > i then j else i))
  | _ => none
def bMin1 : List PyData → Option PyData
  | [.list l] => match intsD l with
    | some (a :: r) => some (.int (minL (a :: r)))
    | _ => none
  | _ => none
def bMax1 : List PyData → Option PyData
  | [.list l] => match intsD l with
    | some (a :: r) => some (.int (maxL (a :: r)))
    | _ => none
  | _ => none
def bSum : List PyData → Option PyData
  | [.list l] => (intsD l).map fun n => .int n.sum
  | _ => none
def bSorted : List PyData → Option PyData
  | [.list l] => (intsD l).map fun n => .list ((isort n).map .int)
  | _ => none
def bTuple : List PyData → Option PyData
  | [.list l] => some (.tuple l)
  | [.tuple l] => some (.tuple l)
  | _ => none
def bList : List PyData → Option PyData
  | [.list l] => some (.list l)
  | [.tuple l] => some (.list l)
  | _ => none
def bInt : List PyData → Option PyData
  | [.int i] => some (.int i)
  | [.bool b] => some (.int (if b then 1 else 0))
  | [.str z] => if z.length ≤ 640 then (PySem.intText? z).map .int else none
  | _ => none
def bStr : List PyData → Option PyData
  | [.int i] => if -big < i ∧ i < big then some (.str (toString i)) else none
  | [.str z] => some (.str z)
  | _ => none
def bAll : List PyData → Option PyData
  | [.list l] => (boolsD l).map fun n => .bool (n.all id)
  | _ => none
def bfD : Bf → List PyData → Option PyData
  | .len => bLen | .abs => bAbs | .min2 => bMin2 | .max2 => bMax2 | .min1 => bMin1 | .max1 => bMax1 | .sum => bSum | .sorted => bSorted
  | .tuple => bTuple | .list => bList | .int => bInt | .str => bStr | .all => bAll
/-- sorted(set(..)): rising, each once -/
def dedup : List Int → List Int
  | [] => []
  | a :: r => if a ∈ r then dedup r else a :: dedup r
def usort (l : List Int) : List Int := isort (dedup l)
def sortSetD (x : PyData) : Option PyData := match listOf x with
  | some l => match intsD l with
    | some n => if n.length < 64 then some (.list ((usort n).map .int)) else none
    | none => none
  | none => none
/-- list(range(..)), tuple(range(..)) -/
def rngD (t : Bool) (lo hi : Int) : Option PyData :=
  if -(2 ^ 60) ≤ lo ∧ lo < 2 ^ 60 ∧ -(2 ^ 60) ≤ hi ∧ hi < 2 ^ 60 ∧ (hi - lo).toNat ≤ lim then
    some (if t then .tuple ((List.range (hi - lo).toNat).map fun (i : Nat) => .int (lo + (i : Int))) else .list ((List.range (hi - lo).toNat).map fun (i : Nat) => .int (lo + (i : Int)))) else none
inductive Mt where
  | count | index | join | split
  deriving DecidableEq
/-- what the method is of -/
def mtTy : Mt → PyData → Bool
  | .count, .list _ => true | .index, .list _ => true | .join, .str _ => true | .split, .str _ => true
  | _, _ => false
def cntD : PyData → List PyData → Option PyData
  | .list l, [x] => if flatD x && l.all flatD then some (.int (l.countP fun z => PyData.eqv z x)) else none
  | _, _ => none
def fndD : PyData → List PyData → Option PyData
  | .list l, [x] => if flatD x && l.all flatD then (l.findIdx? fun z => PyData.eqv z x).map fun (i : Nat) => .int (i : Int) else none
  | _, _ => none
def joinD : PyData → List PyData → Option PyData
  | .str z, [.list l] => match strsD l with
    | some ys => if (ys.map (·.length)).sum + ys.length * z.length ≤ lim then some (.str (Txt.join z ys)) else none
    | none => none
  | _, _ => none
def splitD : PyData → List PyData → Option PyData
  | .str z, [.str w] => if w.length ≠ 0 ∧ z.length + 2 ≤ lim then some (.list ((Txt.split z w).map .str)) else none
  | _, _ => none
def mtD : Mt → PyData → List PyData → Option PyData
  | .count => cntD | .index => fndD | .join => joinD | .split => splitD
/-- dict(pairs).get(k, d) -/
def pairsD : List PyData → Option (List (Str × Int))
  | [] => some []
  | .tuple [.str s, .int i] :: r => (pairsD r).map ((s, i) :: ·)
  | _ :: _ => none
def dgetD (ps k d : PyData) : Option PyData := match ps, k with
  | .list l, .str z => match pairsD l with
    | some kv => if (kv.map (·.1)).Nodup then some (match kv.find? fun p => decide (p.1 = z) with
      | some p => .int p.2
      | none => d) else none
    | none => none
  | _, _ => none

/-! ### codes -/
inductive Xe where
  | nil | cons (a r : Xe)
  | var (i : Nat) | frz (i : Nat) | cst (x : PyData) | glob (g : Nat)
  | neg (a : Xe) | bin (o : Bo) (a b : Xe) | cmp (o : Co) (a b : Xe) | chain (o p : Co) (a b c : Xe) | isN (a : Xe) | isNot (a : Xe)
  | and (a b : Xe) | or (a b : Xe) | one (a : Xe) | not (a : Xe) | ifx (t a b : Xe)
  | tup (as : Xe) | lst (as : Xe) | idx (a i : Xe) | slice (a lo hi : Xe)
  | fld (o : Xe) (f : Nat) | fidx (o : Xe) (f : Nat) (i : Xe) | oidx (o : Xe) (f : Nat) (i : Xe) | flen (o : Xe) (f : Nat) | fcopy (o : Xe) (f : Nat) | popE (a : Xe)
  | call (f m : Nat) (as : Xe) | meth (f c : Nat) (o as : Xe)
  | bf (f : Bf) (as : Xe) | sset (a : Xe) | rng1 (t : Bool) (a : Xe) | rng2 (t : Bool) (a b : Xe) | mt (k : Mt) (a as : Xe) | dget (a k d : Xe) | isi (a : Xe) (t : Nat) | pop (i : Nat)
  | sseq (e : Xe) | sfl (o : Xe) (f : Nat) | srng1 (a : Xe) | srng2 (a b : Xe) | sstr (e : Xe)
  | comp (src : Xe) (tg own : List Nat) (cond elt : Xe)
def Xe.isNil : Xe → Bool
  | .nil => true
  | _ => false
inductive Tg where
  | name (i : Nat) | names (is : List Nat) | namesL (is : List Nat)
inductive Cd where
  | nil | seq (a b : Cd) | pass | brk | cont
  | asg (t : Tg) (e : Xe) | par (i j : Nat) (a b : Xe)
  | newL (i : Nat) (as : Xe) | newR (i : Nat) (a n : Xe) | newC (i : Nat) (a b : Xe)
  | app (i : Nat) (e : Xe) | ext (i : Nat) (e : Xe) | set (i : Nat) (j e : Xe)
  | setf (o : Xe) (f : Nat) (e : Xe) | setfs (i : Nat) (fs : List Nat) (e : Xe) | newB (o : Xe) (f : Nat) | newFR (o : Xe) (f : Nat) (a n : Xe) | newFC (o : Xe) (f : Nat) (src : Xe) (tg own : List Nat) (elt : Xe) | newFO (o : Xe) (f : Nat) (e : Xe)
  | appE (a e : Xe) | fset (o : Xe) (f : Nat) (i e : Xe)
  | drop (e : Xe) | ret (e : Xe) | retN
  | ite (c : Xe) (a b : Cd) | for_ (t : Tg) (src : Xe) (body : Cd) | whl (n : Nat) (c : Xe) (body : Cd)
  | raise (c : Nat) | tryA (c ie j : Nat) (body : Cd) | tryR (c : Nat) (body : Cd) (x : PyData) | tryS (c : Nat) (body : Cd) (i : Nat) (x : PyData) | unk
inductive Fl where
  | next | brk | cont | ret (v : Va)

/-! ### the world -/
abbrev M (α : Type) := Sg → Rs α
def lift {α : Type} (o : Option α) (s : Sg) : Rs α := match o with
  | some a => .ok a s
  | none => .stuck
@[simp] theorem lift_some {α : Type} (a : α) (s : Sg) : lift (some a) s = .ok a s := rfl
@[simp] theorem lift_none {α : Type} (s : Sg) : lift (none : Option α) s = .stuck := rfl
/-- what is read at a value: data, the items of a list that may change -/
def peek (s : Sg) : Va → Option PyData
  | .d x => some x
  | .c k => match s.W[k]? with
    | some (.lst xs) => some (.list xs)
    | some (.frz xs) => some (.list xs)
    | _ => none
  | .b k => match s.B[k]? with
    | some (.lst xs) => some (.list xs)
    | _ => none
  | _ => none
/-- .. or the script -/
def peekR (s : Sg) : Va → Option PyData
  | .s ns => some (.list (ns.map .int))
  | v => peek s v
def peeks (s : Sg) : List Va → Option (List PyData)
  | [] => some []
  | v :: r => match peekR s v, peeks s r with
    | some x, some xs => some (x :: xs)
    | _, _ => none
/-- data as data -/
def solid (s : Sg) : Va → Option PyData
  | .d x => some x
  | .c k => match s.W[k]? with
    | some (.frz xs) => some (.list xs)
    | _ => none
  | _ => none
def solids (s : Sg) : List Va → Option (List PyData)
  | [] => some []
  | v :: r => match solid s v, solids s r with
    | some x, some xs => some (x :: xs)
    | _, _ => none
def Fv.closed : Fv → Bool
  | .v (.d _) => true
  | .v _ => false
  | .ol _ => true
  | .fl _ => false
def Re.closed : Re → Bool
  | .ins _ fs => fs.all fun p => p.2.closed
  | _ => true
def Re.plain : Re → Bool
  | .box _ => false
  | _ => true
def Re.cls : Re → Option Nat
  | .ins c _ => some c
  | .box (.ins c _ :: _) => some c
  | _ => none
def openB : Re → List Re
  | .box rs => rs
  | r => [r]
def closeB : List Re → Re
  | [r] => r
  | rs => .box rs
/-- the object at a value -/
def resOf (s : Sg) : Va → Option Re
  | .c k => s.W[k]?
  | .b 0 => match s.B with
    | .ins c fs :: rs => some (closeB (.ins c fs :: rs))
    | _ => none
  | .b (k + 1) => s.B[k + 1]?
  | _ => none
def setRes (s : Sg) : Va → Re → Sg
  | .c k, r => { s with W := s.W.set k r }
  | .b 0, r => { s with B := openB r }
  | .b (k + 1), r => { s with B := s.B.set (k + 1) r }
  | _, _ => s
/-- the attribute owner at a value: an instance of the box, or of the world -/
def insOf (s : Sg) : Va → Option (Nat × List (Nat × Fv))
  | .b k => match s.B[k]? with
    | some (.ins c fs) => if fs.length < 100 then some (c, fs) else none
    | _ => none
  | _ => none
def setIns (s : Sg) : Va → Nat → List (Nat × Fv) → Sg
  | .b k, c, fs => { s with B := s.B.set k (.ins c fs) }
  | _, _, _ => s
def getN (f : Nat) : List (Nat × Fv) → Option Fv
  | [] => none
  | (g, v) :: r => if g = f then some v else getN f r
def putN (f : Nat) (v : Fv) : List (Nat × Fv) → List (Nat × Fv)
  | [] => [(f, v)]
  | (g, w) :: r => if g = f then (g, v) :: r else (g, w) :: putN f v r
def Fv.notO : Fv → Bool
  | .ol _ => false
  | _ => true
/-- no other list of its own -/
def onlyO (f : Nat) : List (Nat × Fv) → Bool
  | [] => true
  | (g, v) :: r => if g = f then r.all fun p => p.2.notO else v.notO && onlyO f r
def Va.tag : Va → Nat × Nat
  | .c k => (0, k)
  | .b k => (1, k)
  | _ => (2, 0)
def goes (s : Sg) (v : Va) (r : Re) : Bool := r.closed || (v.tag == (1, 0) && s.B.length != 1)
/-- an argument: data as data; what may change as it is, and where it goes back to -/
def toAv (s : Sg) (v : Va) : Option (Av × List Va) :=
  match v with
  | .d x => some (.d x, [])
  | .x n => some (.x n, [])
  | .s ns => some (.s ns, [])
  | v => match solid s v with
    | some x => some (.d x, [])
    | none => match resOf s v with
      | some r => if goes s v r then some (.r r, [v]) else none
      | none => none
def toAvs (s : Sg) : List Va → Option (List Av × List Va)
  | [] => some ([], [])
  | v :: r => match toAv s v, toAvs s r with
    | some (a, b), some (as, bs) => some (a :: as, b ++ bs)
    | _, _ => none
/-- no cell twice; the opened box goes alone -/
def apart (vs : List Va) : Bool := decide ((vs.map Va.tag).Nodup) && (!(vs.any fun v => v.tag == (1, 0)) || vs.all fun v => v.tag == (1, 0) || v.tag.1 == 0)
def backOk (s : Sg) : List Va → List Re → Bool
  | .b 0 :: vs, r :: rs => decide (s.B.length ≤ (openB r).length) && backOk s vs rs
  | _ :: vs, _ :: rs => backOk s vs rs
  | [], [] => true
  | _, _ => false
def backAll (s : Sg) : List Va → List Re → Sg
  | v :: vs, r :: rs => backAll (setRes s v r) vs rs
  | _, _ => s
/-- a call by value and result; m = 0: a new object goes to the world, 1: to the box -/
def b0ok (op : Bool) : List Va → Bool
  | [] => true
  | v :: r => (v.tag != (1, 0) || op) && r.all fun v => v.tag != (1, 0)
def run (φ : Fn) (op : Bool) (m : Nat) (vs : List Va) (s : Sg) : Rs Va :=
  match toAvs s vs with
  | none => .stuck
  | some (as, cs) => if apart cs && b0ok op cs then
      match φ as with
      | .ok v outs => if backOk s cs outs then
          let t := backAll s cs outs
          match v with
          | .d x => .ok (.d x) t
          | .x _ => .stuck
          | .s _ => .stuck
          | .r r => if m = 0 then .ok (.c t.W.length) { t with W := t.W ++ [r] }
              else if r.closed then .ok (.b t.B.length) { t with B := t.B ++ [r] } else .stuck
          else .stuck
      | .err c outs => if backOk s cs outs then .err c (backAll s cs outs) else .stuck
      | .stuck => .stuck
    else .stuck

def one1 {β : Type} (r : Rs (List Va)) (k : Va → Sg → Rs β) : Rs β := r.bind fun vs s => match vs with
  | [v] => k v s
  | _ => .stuck
@[simp] theorem one1_ok {β : Type} (v : Va) (s : Sg) (k : Va → Sg → Rs β) : one1 (.ok [v] s) k = k v s := rfl
@[simp] theorem one1_err {β : Type} (c : Nat) (s : Sg) (k : Va → Sg → Rs β) : one1 (.err c s) k = .err c s := rfl
@[simp] theorem one1_stuck {β : Type} (k : Va → Sg → Rs β) : one1 .stuck k = .stuck := rfl
def dat (x : PyData) (s : Sg) : Rs (List Va) := .ok [.d x] s
@[simp] theorem one1_dat {β : Type} (x : PyData) (s : Sg) (k : Va → Sg → Rs β) : one1 (dat x s) k = k (.d x) s := rfl
def boolO (o : Option Bool) (s : Sg) : Rs (List Va) := match o with
  | some b => dat (.bool b) s
  | none => .stuck
def datO (o : Option PyData) (s : Sg) : Rs (List Va) := match o with
  | some b => dat b s
  | none => .stuck
@[simp] theorem boolO_some (b : Bool) (s : Sg) : boolO (some b) s = dat (.bool b) s := rfl
@[simp] theorem boolO_none (s : Sg) : boolO none s = .stuck := rfl
@[simp] theorem datO_some (b : PyData) (s : Sg) : datO (some b) s = dat b s := rfl
@[simp] theorem datO_none (s : Sg) : datO none s = .stuck := rfl
/-- truth -/
def tru (v : Va) (s : Sg) : Rs Bool := match peekR s v with
  | some x => lift (truthD x) s
  | none => .stuck
def partI : Va → Sg → Rs (Option Int)
  | .d (.int i), s => .ok (some i) s
  | _, _ => .stuck
def partM (b : Bool) (f : M (List Va)) : M (Option Int) := fun s => if b then .ok none s else one1 (f s) partI
def condM (b : Bool) (f : M (List Va)) : M Bool := fun s => if b then .ok true s else one1 (f s) tru
def isNone : Va → Bool
  | .d .none => true
  | _ => false
/-- isinstance: 0 int, 1 bool, 2 str, 3 tuple, 4 list, 5 dict, 6 ValueError; 10 + n: the own error n -/
def isiD : PyData → Nat → Option Bool
  | .none, t => if t < 6 then some false else none
  | .bool _, t => if t < 6 then some (t == 0 || t == 1) else none
  | .int _, t => if t < 6 then some (t == 0) else none
  | .str _, t => if t < 6 then some (t == 2) else none
  | .tuple _, t => if t < 6 then some (t == 3) else none
  | .list _, t => if t < 6 then some (t == 4) else none
  | _, _ => none
/-- 0 is the class above all own errors -/
def isiX (n t : Nat) : Option Bool := if t = 6 then some true else if 10 ≤ t then some (t == 10 || t == 10 + n) else none
def isiV (v : Va) (t : Nat) (s : Sg) : Option Bool := match v with
  | .x n => isiX n t
  | v => match peek s v with
    | some x => isiD x t
    | none => none
/-- stores an item into the target's slots -/
def setIs : List Nat → List PyData → Sg → Option Sg
  | [], [], s => some s
  | i :: is, x :: xs, s => setIs is xs { s with ρ := s.ρ.set i (some (.d x)) }
  | _, _, _ => none
def setTg (t : Tg) (v : Va) (s : Sg) : Option Sg := match t with
  | .name i => some { s with ρ := s.ρ.set i (some v) }
  | .names is => match solid s v with
    | some (.tuple xs) => setIs is xs s
    | _ => none
  | .namesL is => match solid s v with
    | some (.list xs) => setIs is xs s
    | _ => none
def tgOf : List Nat → Tg
  | [i] => .name i
  | is => .names is
def wipeR (ρ : List (Option Va)) : List Nat → List (Option Va)
  | [] => ρ
  | i :: is => (wipeR ρ is).set i none
/-- one turn after another of a comprehension: the items made so far -/
def compL (f : Va → Sg → Rs (Option Va)) : List Va → List Va → Sg → Rs (List Va)
  | [], acc, s => .ok acc s
  | v :: r, acc, s => match f v s with
    | .ok (some y) s' => if acc.length < lim then compL f r (acc ++ [y]) s' else .stuck
    | .ok none s' => compL f r acc s'
    | _ => .stuck
def loopL (f : Va → Sg → Rs Fl) : List Va → Sg → Rs Fl
  | [], s => .ok .next s
  | v :: r, s => match f v s with
    | .ok .next s' => loopL f r s'
    | .ok .cont s' => loopL f r s'
    | .ok .brk s' => .ok .next s'
    | .ok (.ret x) s' => .ok (.ret x) s'
    | .err c s' => .err c s'
    | .stuck => .stuck
def whileL (c : M Bool) (f : M Fl) : Nat → M Fl
  | 0, _ => .stuck
  | n + 1, s => (c s).bind fun b s1 => if b then
      match f s1 with
      | .ok .next s' => whileL c f n s'
      | .ok .cont s' => whileL c f n s'
      | .ok .brk s' => .ok .next s'
      | .ok (.ret x) s' => .ok (.ret x) s'
      | .err e s' => .err e s'
      | .stuck => .stuck
    else .ok .next s1
def rangeL (lo hi : Int) : List Va := (List.range (hi - lo).toNat).map fun (i : Nat) => .d (.int (lo + (i : Int)))
def rngOk (i j : Int) : Prop := -(2 ^ 60) ≤ i ∧ i < 2 ^ 60 ∧ -(2 ^ 60) ≤ j ∧ j < 2 ^ 60
instance (i j : Int) : Decidable (rngOk i j) := by unfold rngOk; infer_instance
/-- a comprehension over its three parts -/
def compM (src : M (List Va)) (tg own : List Nat) (cond : M Bool) (elt : M (List Va)) (s : Sg) : Rs (List Va) :=
  (src s).bind fun items s1 =>
    (compL (fun v t => match setTg (tgOf tg) v { t with ρ := wipeR s1.ρ own } with
      | some t1 => (cond t1).bind fun b t2 => if b then one1 (elt t2) fun y t3 => .ok (some y) t3 else .ok none t2
      | none => .stuck) items [] s1).bind fun vs t => .ok vs { t with ρ := s1.ρ }

/-- a simple index: a name, a written number, an item of a tuple in a name -/
def simV : Xe → Sg → Option PyData
  | .var i, s => match s.ρ[i]? with
    | some (some (.d x)) => some x
    | _ => none
  | .cst (.int j), _ => some (.int j)
  | .idx (.var i) (.cst (.int j)), s => match s.ρ[i]? with
    | some (some (.d (.tuple xs))) => L2.atI xs j
    | _ => none
  | _, _ => none
section
variable (Φ : Tbl) (gl : Nat → PyData)
def sem : Xe → M (List Va)
  | .nil, s => .ok [] s
  | .cons a r, s => one1 (sem a s) fun x s => (sem r s).bind fun xs s => .ok (x :: xs) s
  | .var i, s => match s.ρ[i]? with
    | some (some v) => .ok [v] s
    | _ => .stuck
  | .frz i, s => match s.ρ[i]? with
    | some (some (.c k)) => match s.W[k]? with
      | some (.lst xs) => dat (.list xs) { s with W := s.W.set k (.frz xs) }
      | some (.frz xs) => dat (.list xs) s
      | _ => .stuck
    | some (some (.d x)) => dat x s
    | _ => .stuck
  | .cst x, s => dat x s
  | .glob g, s => dat (gl g) s
  | .neg a, s => one1 (sem a s) fun x s => match x with
    | .d (.int i) => dat (.int (-i)) s
    | _ => .stuck
  | .bin o a b, s => one1 (sem a s) fun x s => one1 (sem b s) fun y s => match peek s x, peek s y with
    | some u, some v => datO (binD o u v) s
    | _, _ => .stuck
  | .cmp o a b, s => one1 (sem a s) fun x s => one1 (sem b s) fun y s => match peek s x, peek s y with
    | some u, some v => boolO (cmpD o u v) s
    | _, _ => .stuck
  | .chain o p a b c, s => one1 (sem a s) fun x s => one1 (sem b s) fun y s => match peek s x, peek s y with
    | some u, some v => match cmpD o u v with
      | some true => one1 (sem c s) fun z s => match peek s y, peek s z with
        | some v, some w => boolO (cmpD p v w) s
        | _, _ => .stuck
      | some false => dat (.bool false) s
      | none => .stuck
    | _, _ => .stuck
  | .isN a, s => one1 (sem a s) fun x s => dat (.bool (isNone x)) s
  | .isNot a, s => one1 (sem a s) fun x s => dat (.bool (!isNone x)) s
  | .and a b, s => one1 (sem a s) fun x s => (tru x s).bind fun k s => if k then sem b s else .ok [x] s
  | .or a b, s => one1 (sem a s) fun x s => (tru x s).bind fun k s => if k then .ok [x] s else sem b s
  | .one a, s => sem a s
  | .not a, s => one1 (sem a s) fun x s => (tru x s).bind fun k s => dat (.bool (!k)) s
  | .ifx t a b, s => one1 (sem t s) fun x s => (tru x s).bind fun k s => if k then sem a s else sem b s
  | .tup as, s => (sem as s).bind fun vs s => match solids s vs with
    | some xs => if xs.length ≤ lim then dat (.tuple xs) s else .stuck
    | none => .stuck
  | .lst as, s => (sem as s).bind fun vs s => match solids s vs with
    | some xs => if xs.length ≤ lim then dat (.list xs) s else .stuck
    | none => .stuck
  | .idx a i, s => one1 (sem a s) fun x s => one1 (sem i s) fun y s => match peekR s x, peek s y with
    | some u, some v => datO (idxD u v) s
    | _, _ => .stuck
  | .slice a lo hi, s => one1 (sem a s) fun x s => (partM lo.isNil (sem lo) s).bind fun l s => (partM hi.isNil (sem hi) s).bind fun h s => match peek s x with
    | some u => datO (sliceD u l h) s
    | none => .stuck
  | .fld o f, s => one1 (sem o s) fun x s => match insOf s x with
    | some (_, fs) => match getN f fs with
      | some (.v v) => .ok [v] s
      | _ => .stuck
    | none => .stuck
  | .fidx o f i, s => one1 (sem o s) fun x s => match insOf s x with
    | some (_, fs) => match getN f fs with
      | some (.fl xs) => one1 (sem i s) fun y s => match y with
        | .d (.int j) => match L2.atI xs j with
          | some v => .ok [v] s
          | none => .stuck
        | _ => .stuck
      | _ => .stuck
    | none => .stuck
  | .oidx o f i, s => one1 (sem o s) fun x s => match insOf s x with
    | some (_, fs) => match getN f fs with
      | some (.ol xs) => match simV i s with
        | some (.int j) => datO (L2.atI xs j) s
        | _ => .stuck
      | _ => .stuck
    | none => .stuck
  | .flen o f, s => one1 (sem o s) fun x s => match insOf s x with
    | some (_, fs) => match getN f fs with
      | some (.fl xs) => dat (.int xs.length) s
      | _ => .stuck
    | none => .stuck
  | .fcopy o f, s => one1 (sem o s) fun x s => match insOf s x with
    | some (_, fs) => match getN f fs with
      | some (.ol xs) => dat (.list xs) s
      | _ => .stuck
    | none => .stuck
  | .popE a, s => one1 (sem a s) fun x s => match x with
    | .b k => match s.B[k]? with
      | some (.lst xs) => match xs.getLast? with
        | some v => dat v { s with B := s.B.set k (.lst xs.dropLast) }
        | none => .stuck
      | _ => .stuck
    | _ => .stuck
  | .call f m as, s => (sem as s).bind fun vs s => (run (Φ f) false m vs s).bind fun v s => .ok [v] s
  | .meth f c o as, s => one1 (sem o s) fun x s => match resOf s x with
    | some r => if r.cls = some c then (sem as s).bind fun vs s => (run (Φ f) true 0 (x :: vs) s).bind fun v s => .ok [v] s else .stuck
    | none => .stuck
  | .bf f as, s => (sem as s).bind fun vs s => match peeks s vs with
    | some xs => datO (bfD f xs) s
    | none => .stuck
  | .sset a, s => one1 (sem a s) fun x s => match peekR s x with
    | some d => datO (sortSetD d) s
    | none => .stuck
  | .rng1 t a, s => one1 (sem a s) fun x s => match x with
    | .d (.int j) => datO (rngD t 0 j) s
    | _ => .stuck
  | .rng2 t a b, s => one1 (sem a s) fun x s => one1 (sem b s) fun y s => match x, y with
    | .d (.int i), .d (.int j) => datO (rngD t i j) s
    | _, _ => .stuck
  | .mt k a as, s => one1 (sem a s) fun x s => match x with
    | .d d => if mtTy k d then (sem as s).bind fun vs s => match peeks s vs with
      | some ds => datO (mtD k d ds) s
      | none => .stuck else .stuck
    | _ => .stuck
  | .dget a k d, s => one1 (sem a s) fun x s => match x with
    | .d ps => if (dgetD ps (.str "") .none).isSome then one1 (sem k s) fun y s => one1 (sem d s) fun z s => match y, z with
      | .d u, .d w => datO (dgetD ps u w) s
      | _, _ => .stuck else .stuck
    | _ => .stuck
  | .isi a t, s => one1 (sem a s) fun x s => boolO (isiV x t s) s
  | .pop i, s => match s.ρ[i]? with
    | some (some (.c k)) => match s.W[k]? with
      | some (.lst xs) => match xs.getLast? with
        | some v => dat v { s with W := s.W.set k (.lst xs.dropLast) }
        | none => .stuck
      | _ => .stuck
    | _ => .stuck
  | .sseq e, s => one1 (sem e s) fun x s => match solid s x with
    | some (.list xs) => .ok (xs.map .d) s
    | some (.tuple xs) => .ok (xs.map .d) s
    | _ => .stuck
  | .sfl o f, s => one1 (sem o s) fun x s => match insOf s x with
    | some (_, fs) => match getN f fs with
      | some (.fl xs) => .ok xs s
      | _ => .stuck
    | none => .stuck
  | .srng1 a, s => one1 (sem a s) fun x s => match x with
    | .d (.int j) => if rngOk 0 j then .ok (rangeL 0 j) s else .stuck
    | _ => .stuck
  | .srng2 a b, s => one1 (sem a s) fun x s => one1 (sem b s) fun y s => match x, y with
    | .d (.int i), .d (.int j) => if rngOk i j then .ok (rangeL i j) s else .stuck
    | _, _ => .stuck
  | .sstr e, s => one1 (sem e s) fun x s => match x with
    | .d (.str z) => .ok (z.cps.toList.map fun c => .d (.str ⟨#[c]⟩)) s
    | _ => .stuck
  | .comp src tg own cond elt, s => (compM (sem src) tg own (condM cond.isNil (sem cond)) (sem elt) s).bind fun vs s => match solids s vs with
    | some xs => dat (.list xs) s
    | none => .stuck

def Va.isB : Va → Bool
  | .b _ => true
  | _ => false
/-- what a field may hold -/
def heldV (s : Sg) (v : Va) : Option Va := match solid s v with
  | some x => some (.d x)
  | none => match v with
    | .b k => some (.b k)
    | _ => none
/-- the list that may change in a slot -/
def lstAt (s : Sg) (i : Nat) : Option Nat := match s.ρ[i]? with
  | some (some (.c k)) => match s.W[k]? with
    | some (.lst _) => some k
    | _ => none
  | _ => none
/-- the error e is of the class c, 0 being above all -/
def subX (e c : Nat) : Bool := c == 0 || e == c
def setFs : List Nat → List PyData → Va → Sg → Option Sg
  | [], [], _, s => some s
  | f :: fs, x :: xs, o, s => match insOf s o with
    | some (c, m) => setFs fs xs o (setIns s o c (putN f (.v (.d x)) m))
    | none => none
  | _, _, _, _ => none
def semS : Cd → M Fl
  | .nil, s => .ok .next s
  | .seq a b, s => (semS a s).bind fun f s => match f with
    | .next => semS b s
    | f => .ok f s
  | .pass, s => .ok .next s
  | .brk, s => .ok .brk s
  | .cont, s => .ok .cont s
  | .asg t e, s => one1 (sem Φ gl e s) fun v s => match setTg t v s with
    | some s => .ok .next s
    | none => .stuck
  | .par i j a b, s => one1 (sem Φ gl a s) fun v s => one1 (sem Φ gl b s) fun w s => match solid s v with
    | some x => .ok .next { s with ρ := (s.ρ.set i (some (.d x))).set j (some w) }
    | none => .stuck
  | .newL i as, s => (sem Φ gl as s).bind fun vs s => match solids s vs with
    | some xs => if xs.length ≤ lim then .ok .next { s with ρ := s.ρ.set i (some (.c s.W.length)), W := s.W ++ [.lst xs] } else .stuck
    | none => .stuck
  | .newR i a n, s => one1 (sem Φ gl a s) fun v s => match solid s v with
    | some x => one1 (sem Φ gl n s) fun w s => match w with
      | .d (.int k) => match mulD (.list [x]) (.int k) with
        | some (.list xs) => .ok .next { s with ρ := s.ρ.set i (some (.c s.W.length)), W := s.W ++ [.lst xs] }
        | _ => .stuck
      | _ => .stuck
    | none => .stuck
  | .newC i a b, s => one1 (sem Φ gl a s) fun v s => one1 (sem Φ gl b s) fun w s => match peek s v, peek s w with
    | some (.list x), some (.list y) => match addD (.list x) (.list y) with
      | some (.list xs) => .ok .next { s with ρ := s.ρ.set i (some (.c s.W.length)), W := s.W ++ [.lst xs] }
      | _ => .stuck
    | _, _ => .stuck
  | .app i e, s => match lstAt s i with
    | some k => one1 (sem Φ gl e s) fun v s => match s.W[k]?, solid s v with
      | some (.lst xs), some x => if xs.length < lim then .ok .next { s with W := s.W.set k (.lst (xs ++ [x])) } else .stuck
      | _, _ => .stuck
    | none => .stuck
  | .ext i e, s => match lstAt s i with
    | some k => one1 (sem Φ gl e s) fun v s => match s.W[k]?, solid s v with
      | some (.lst xs), some (.list ys) => if xs.length + ys.length ≤ lim then .ok .next { s with W := s.W.set k (.lst (xs ++ ys)) } else .stuck
      | _, _ => .stuck
    | none => .stuck
  | .set i j e, s => one1 (sem Φ gl e s) fun v s => match s.ρ[i]? with
    | some (some (.c k)) => one1 (sem Φ gl j s) fun w s => match s.W[k]?, w, solid s v with
      | some (.lst xs), .d (.int n), some x => match L2.ixN xs.length n with
        | some m => .ok .next { s with W := s.W.set k (.lst (xs.set m x)) }
        | none => .stuck
      | _, _, _ => .stuck
    | _ => .stuck
  | .setf o f e, s => one1 (sem Φ gl e s) fun v s => one1 (sem Φ gl o s) fun x s => match heldV s v, insOf s x with
    | some w, some (c, m) => .ok .next (setIns s x c (putN f (.v w) m))
    | _, _ => .stuck
  | .setfs i fs e, s => one1 (sem Φ gl e s) fun v s => match solid s v, s.ρ[i]? with
    | some (.tuple xs), some (some x) => match setFs fs xs x s with
      | some s => .ok .next s
      | none => .stuck
    | _, _ => .stuck
  | .newB o f, s => one1 (sem Φ gl o s) fun x s => match insOf { s with B := s.B ++ [.lst []] } x with
    | some (c, m) => .ok .next (setIns { s with B := s.B ++ [.lst []] } x c (putN f (.v (.b s.B.length)) m))
    | none => .stuck
  | .newFR o f a n, s => one1 (sem Φ gl a s) fun v s => match solid s v with
    | some y => one1 (sem Φ gl n s) fun w s => match w with
      | .d (.int k) => match mulD (.list [y]) (.int k) with
        | some (.list xs) => one1 (sem Φ gl o s) fun x s => match insOf s x with
          | some (c, m) => .ok .next (setIns s x c (putN f (.ol xs) m))
          | none => .stuck
        | _ => .stuck
      | _ => .stuck
    | none => .stuck
  | .newFC o f src tg own elt, s => (compM (sem Φ gl src) tg own (fun t => .ok true t) (sem Φ gl elt) s).bind fun vs s => if vs.all Va.isB then one1 (sem Φ gl o s) fun x s => match insOf s x with
    | some (c, m) => .ok .next (setIns s x c (putN f (.fl vs) m))
    | _ => .stuck else .stuck
  | .newFO o f e, s => one1 (sem Φ gl e s) fun v s => match solid s v with
    | some y => match listOf y with
      | some xs => one1 (sem Φ gl o s) fun x s => match insOf s x with
        | some (c, m) => .ok .next (setIns s x c (putN f (.ol xs) m))
        | none => .stuck
      | none => .stuck
    | none => .stuck
  | .appE a e, s => one1 (sem Φ gl a s) fun x s => match x with
    | .b k => match s.B[k]? with
      | some (.lst _) => one1 (sem Φ gl e s) fun v s => match s.B[k]?, solid s v with
        | some (.lst xs), some y => if xs.length < lim then .ok .next { s with B := s.B.set k (.lst (xs ++ [y])) } else .stuck
        | _, _ => .stuck
      | _ => .stuck
    | _ => .stuck
  | .fset o f i e, s => one1 (sem Φ gl e s) fun v s => one1 (sem Φ gl o s) fun x s => match insOf s x, solid s v with
    | some (c, m), some y => match getN f m with
      | some (.ol xs) => match simV i s with
        | some (.int n) => match L2.ixN xs.length n with
          | some j => if onlyO f m then .ok .next (setIns s x c (putN f (.ol (xs.set j y)) m)) else .stuck
          | none => .stuck
        | _ => .stuck
      | _ => .stuck
    | _, _ => .stuck
  | .drop e, s => one1 (sem Φ gl e s) fun _ s => .ok .next s
  | .ret e, s => one1 (sem Φ gl e s) fun v s => .ok (.ret v) s
  | .retN, s => .ok (.ret (.d .none)) s
  | .ite c a b, s => one1 (sem Φ gl c s) fun x s => (tru x s).bind fun k s => if k then semS a s else semS b s
  | .for_ t src body, s => (sem Φ gl src s).bind fun items s => loopL (fun v s => match setTg t v s with
      | some s => semS body s
      | none => .stuck) items s
  | .whl n c body, s => whileL (fun s => one1 (sem Φ gl c s) tru) (semS body) n s
  | .raise c, s => .err c s
  | .tryA c ie j body, s => match semS body s with
    | .err e s => if subX e c then .ok .next { s with ρ := (s.ρ.set j (some (.x e))).set ie none } else .err e s
    | r => r
  | .tryR c body x, s => match semS body s with
    | .err e s => if subX e c then .ok (.ret (.d x)) s else .err e s
    | r => r
  | .tryS c body i x, s => match semS body s with
    | .err e s => if subX e c then .ok .next { s with ρ := s.ρ.set i (some (.d x)) } else .err e s
    | r => r
  | .unk, _ => .stuck

/-! ### a def -/
/-- the arguments as slots, box and world -/
def enter (op : Bool) : List Av → List (Option Va) × List Re × List Re
  | [] => ([], [], [])
  | .r r :: as => if op then ((some (.b 0)) :: (enterW 0 as).1, openB r, (enterW 0 as).2) else ((some (.c 0)) :: (enterW 1 as).1, [], r :: (enterW 1 as).2)
  | .d x :: as => (some (.d x) :: (enterW 0 as).1, [], (enterW 0 as).2)
  | .x n :: as => (some (.x n) :: (enterW 0 as).1, [], (enterW 0 as).2)
  | .s n :: as => (some (.s n) :: (enterW 0 as).1, [], (enterW 0 as).2)
where
  enterW : Nat → List Av → List (Option Va) × List Re
  | _, [] => ([], [])
  | k, .r r :: as => (some (.c k) :: (enterW (k + 1) as).1, r :: (enterW (k + 1) as).2)
  | k, .d x :: as => (some (.d x) :: (enterW k as).1, (enterW k as).2)
  | k, .x n :: as => (some (.x n) :: (enterW k as).1, (enterW k as).2)
  | k, .s n :: as => (some (.s n) :: (enterW k as).1, (enterW k as).2)
def count : List Av → Nat
  | [] => 0
  | .r _ :: as => count as + 1
  | _ :: as => count as
/-- what the arguments have become: n cells of the world, ahead of them the box -/
def outs (bx : Bool) (n : Nat) (s : Sg) : Option (List Re) :=
  if n ≤ s.W.length then (if bx then (match s.B with
    | [] => none
    | [r] => if r.closed && r.plain then some (r :: s.W.take n) else none
    | rs => some (.box rs :: s.W.take n)) else some (s.W.take n)) else none
def leave (bx : Bool) (n : Nat) (v : Va) (s : Sg) : Fr :=
  match outs bx n s with
  | none => .stuck
  | some os => match solid s v with
    | some x => .ok (.d x) os
    | none => match v with
      | .c k => if n ≤ k then (match s.W[k]? with
        | some r => .ok (.r r) os
        | none => .stuck) else .stuck
      | _ => .stuck
def boxed (op : Bool) : List Av → Bool
  | .r r :: _ => op && !(openB r).isEmpty
  | _ => false
/-- np parameters, n names; op: the first is an object that is opened -/
def defF (np n : Nat) (op : Bool) (code : Cd) : Fn := fun as =>
  if as.length = np ∧ np ≤ n ∧ (op = true → boxed true as = true) then
    match semS Φ gl code ⟨(enter op as).1 ++ List.replicate (n - as.length) none, (enter op as).2.1, (enter op as).2.2⟩ with
    | .ok .next s => leave op (enter op as).2.2.length (.d .none) s
    | .ok (.ret v) s => leave op (enter op as).2.2.length v s
    | .err c s => match outs op (enter op as).2.2.length s with
      | some os => .err c os
      | none => .stuck
    | _ => .stuck
  else .stuck
/-- C(..): the instance without attributes, then __init__ -/
def makeF (c : Nat) (φ : Fn) : Fn := fun as => match φ (.r (.ins c []) :: as) with
  | .ok (.d .none) (r :: os) => .ok (.r r) os
  | .err e (_ :: os) => .err e os
  | _ => .stuck
end
end BC

/-! BRep: how the evaluator's state lies in the abstract heap. -/
namespace BC
open PySem L2

/-- the written part's names: classes, errors, attributes -/
structure Tn where
  K : PySem.W.Frag
  cls : Nat → Addr
  exc : Nat → Addr
  fnm : List Str
/-- a caught error's object, of the class cl -/
def ExC (cl : Value) (a : Addr) : HO := .ext fun h => ∃ (oe : Obj) (vs : Array Value), h.get? a = some oe ∧ Zc cl none oe ∧ oe.data = .fields vs

def part (own : Addr → Nat) (t : Nat) (H : Hp) : Hp := fun a => if own a = t then H a else none
theorem part_iff {own : Addr → Nat} {t : Nat} {H : Hp} {a : Addr} {o : HO} : part own t H a = some o ↔ own a = t ∧ H a = some o := by
  unfold part
  by_cases h : own a = t
  · rw [if_pos h]; exact ⟨fun q => ⟨h, q⟩, fun q => q.2⟩
  · rw [if_neg h]; exact ⟨fun q => (by cases q), fun q => absurd q.1 h⟩
theorem part_sub {own : Addr → Nat} {t : Nat} {H : Hp} : Same (part own t H) H := fun _ _ h => (part_iff.mp h).2

theorem sqL_mono {K : PySem.W.Frag} {F F' : Hp} (m : Same F F') {a : Addr} {xs : List V} (h : SqL K F a xs) : SqL K F' a xs := by
  rcases h with (h | ⟨o, h⟩) | h
  · exact .inl (.inl (m _ _ h))
  · exact .inl (.inr ⟨o, m _ _ h⟩)
  · exact .inr h
theorem sqT_mono {K : PySem.W.Frag} {F F' : Hp} (m : Same F F') {a : Addr} {xs : List V} (h : SqT K F a xs) : SqT K F' a xs := by
  rcases h with (h | ⟨o, h⟩) | h
  · exact .inl (.inl (m _ _ h))
  · exact .inl (.inr ⟨o, m _ _ h⟩)
  · exact .inr h
mutual
/-- data in the heap F: lists are tracked -/
inductive Dx (K : PySem.W.Frag) (F : Hp) : V → PyData → Prop
  | non : Dx K F .non .none
  | bl (b : Bool) : Dx K F (.bl b) (.bool b)
  | int (i : Int) : Dx K F (.int i) (.int i)
  | str (x : Str) : Dx K F (.str x) (.str x)
  | lst {a : Addr} {us : List V} {ds : List PyData} : F a = some (.lst us) → DxAll K F us ds → Dx K F (.ref a) (.list ds)
  | tup {a : Addr} {us : List V} {ds : List PyData} : SqT K F a us → DxAll K F us ds → Dx K F (.ref a) (.tuple ds)
inductive DxAll (K : PySem.W.Frag) (F : Hp) : List V → List PyData → Prop
  | nil : DxAll K F [] []
  | cons {v : V} {vs : List V} {d : PyData} {ds : List PyData} : Dx K F v d → DxAll K F vs ds → DxAll K F (v :: vs) (d :: ds)
end
mutual
theorem dp_mono {K : PySem.W.Frag} {F F' : Hp} (m : Same F F') : ∀ (d : PyData) (v : V), Dx K F v d → Dx K F' v d
  | .none, _, h => by cases h; exact .non
  | .bool b, _, h => by cases h; exact .bl b
  | .int i, _, h => by cases h; exact .int i
  | .str x, _, h => by cases h; exact .str x
  | .list ds, _, h => by
    cases h with
    | lst hs ha => exact .lst (m _ _ hs) (dpAll_mono m ds _ ha)
  | .tuple ds, _, h => by
    cases h with
    | tup hs ha => exact .tup (sqT_mono m hs) (dpAll_mono m ds _ ha)
  | .dict _, _, h => by cases h
theorem dpAll_mono {K : PySem.W.Frag} {F F' : Hp} (m : Same F F') : ∀ (ds : List PyData) (vs : List V), DxAll K F vs ds → DxAll K F' vs ds
  | [], _, h => by cases h; exact .nil
  | d :: ds, _, h => by
    cases h with
    | cons h1 h2 => exact .cons (dp_mono m d _ h1) (dpAll_mono m ds _ h2)
end
mutual
theorem dp_of {K : PySem.W.Frag} {F H : Hp} (m : Same F H) : ∀ (d : PyData) (v : V), Dx K F v d → Dp K H v d
  | .none, _, h => by cases h; exact .non
  | .bool b, _, h => by cases h; exact .bl b
  | .int i, _, h => by cases h; exact .int i
  | .str x, _, h => by cases h; exact .str x
  | .list ds, _, h => by
    cases h with
    | lst hs ha => exact .lst (SqL.of (m _ _ hs)) (dpAll_of m ds _ ha)
  | .tuple ds, _, h => by
    cases h with
    | tup hs ha => exact .tup (sqT_mono m hs) (dpAll_of m ds _ ha)
  | .dict _, _, h => by cases h
theorem dpAll_of {K : PySem.W.Frag} {F H : Hp} (m : Same F H) : ∀ (ds : List PyData) (vs : List V), DxAll K F vs ds → DpAll K H vs ds
  | [], _, h => by cases h; exact .nil
  | d :: ds, _, h => by
    cases h with
    | cons h1 h2 => exact .cons (dp_of m d _ h1) (dpAll_of m ds _ h2)
end
theorem dpAll_length {K : PySem.W.Frag} {F : Hp} : ∀ {vs : List V} {ds : List PyData}, DxAll K F vs ds → vs.length = ds.length
  | _, _, .nil => rfl
  | _, _, .cons _ t => by simp [dpAll_length t]
theorem dpAll_get {K : PySem.W.Frag} {F : Hp} : ∀ {vs : List V} {ds : List PyData} {i : Nat} {d : PyData}, DxAll K F vs ds → ds[i]? = some d → ∃ v, vs[i]? = some v ∧ Dx K F v d
  | _, _, i, d, .nil, e => by simp at e
  | _, _, 0, d, .cons h t, e => by simp at e; subst e; exact ⟨_, rfl, h⟩
  | _, _, i + 1, d, .cons h t, e => by
    obtain ⟨v, e1, e2⟩ := dpAll_get (i := i) t (by simpa using e)
    exact ⟨v, by simpa using e1, e2⟩
theorem dpAll_get' {K : PySem.W.Frag} {F : Hp} : ∀ {vs : List V} {ds : List PyData} {i : Nat} {v : V}, DxAll K F vs ds → vs[i]? = some v → ∃ d, ds[i]? = some d ∧ Dx K F v d
  | _, _, i, d, .nil, e => by simp at e
  | _, _, 0, d, .cons h t, e => by simp at e; subst e; exact ⟨_, rfl, h⟩
  | _, _, i + 1, d, .cons h t, e => by
    obtain ⟨v, e1, e2⟩ := dpAll_get' (i := i) t (by simpa using e)
    exact ⟨v, by simpa using e1, e2⟩
theorem dpAll_append {K : PySem.W.Frag} {F : Hp} : ∀ {vs us : List V} {ds es : List PyData}, DxAll K F vs ds → DxAll K F us es → DxAll K F (vs ++ us) (ds ++ es)
  | _, _, _, _, .nil, s => s
  | _, _, _, _, .cons r t, s => .cons r (dpAll_append t s)
theorem dpAll_take {K : PySem.W.Frag} {F : Hp} : ∀ {vs : List V} {ds : List PyData} (n : Nat), DxAll K F vs ds → DxAll K F (vs.take n) (ds.take n)
  | _, _, 0, _ => by simp; exact .nil
  | _, _, n + 1, .nil => .nil
  | _, _, n + 1, .cons r t => .cons r (dpAll_take n t)
theorem dpAll_drop {K : PySem.W.Frag} {F : Hp} : ∀ {vs : List V} {ds : List PyData} (n : Nat), DxAll K F vs ds → DxAll K F (vs.drop n) (ds.drop n)
  | _, _, 0, h => h
  | _, _, n + 1, .nil => .nil
  | _, _, n + 1, .cons r t => dpAll_drop n t
theorem dpAll_set {K : PySem.W.Frag} {F : Hp} {v : V} {d : PyData} (h : Dx K F v d) : ∀ {vs : List V} {ds : List PyData} (i : Nat), DxAll K F vs ds → DxAll K F (vs.set i v) (ds.set i d)
  | _, _, _, .nil => .nil
  | _, _, 0, .cons _ t => .cons h t
  | _, _, i + 1, .cons r t => .cons r (dpAll_set h i t)
theorem dpAll_rep {K : PySem.W.Frag} {F : Hp} {vs : List V} {ds : List PyData} (h : DxAll K F vs ds) : ∀ n, DxAll K F (List.replicate n vs).flatten (List.replicate n ds).flatten
  | 0 => .nil
  | n + 1 => by
    rw [List.replicate_succ, List.replicate_succ, List.flatten_cons, List.flatten_cons]
    exact dpAll_append h (dpAll_rep h n)
theorem dpAll_ints {K : PySem.W.Frag} {F : Hp} : ∀ {ds : List PyData} {vs : List V} {ns : List Int}, DxAll K F vs ds → intsD ds = some ns → vs = ns.map V.int
  | [], _, _, h, e => by cases h; simp [intsD] at e; subst e; rfl
  | .int i :: r, _, _, h, e => by
    cases h with
    | cons h1 h2 =>
      cases h1
      simp only [intsD, Option.map_eq_some_iff] at e
      obtain ⟨m, e1, rfl⟩ := e
      rw [dpAll_ints h2 e1]; rfl
  | .none :: _, _, _, _, e => by simp [intsD] at e
  | .bool _ :: _, _, _, _, e => by simp [intsD] at e
  | .str _ :: _, _, _, _, e => by simp [intsD] at e
  | .list _ :: _, _, _, _, e => by simp [intsD] at e
  | .tuple _ :: _, _, _, _, e => by simp [intsD] at e
  | .dict _ :: _, _, _, _, e => by simp [intsD] at e
theorem dpAll_bools {K : PySem.W.Frag} {F : Hp} : ∀ {ds : List PyData} {vs : List V} {ns : List Bool}, DxAll K F vs ds → boolsD ds = some ns → vs = ns.map V.bl
  | [], _, _, h, e => by cases h; simp [boolsD] at e; subst e; rfl
  | .bool i :: r, _, _, h, e => by
    cases h with
    | cons h1 h2 =>
      cases h1
      simp only [boolsD, Option.map_eq_some_iff] at e
      obtain ⟨m, e1, rfl⟩ := e
      rw [dpAll_bools h2 e1]; rfl
  | .none :: _, _, _, _, e => by simp [boolsD] at e
  | .int _ :: _, _, _, _, e => by simp [boolsD] at e
  | .str _ :: _, _, _, _, e => by simp [boolsD] at e
  | .list _ :: _, _, _, _, e => by simp [boolsD] at e
  | .tuple _ :: _, _, _, _, e => by simp [boolsD] at e
  | .dict _ :: _, _, _, _, e => by simp [boolsD] at e
theorem dpAll_of_ints {K : PySem.W.Frag} {F : Hp} : ∀ ns : List Int, DxAll K F (ns.map V.int) (ns.map PyData.int)
  | [] => .nil
  | n :: r => .cons (.int n) (dpAll_of_ints r)

/-! ### values, what may change -/
def VRep (T : Tn) (F : Hp) (ca ba : Nat → Addr) (nc nb : Nat) : Va → V → Prop
  | .d x, u => Dx T.K F u x
  | .c k, u => k < nc ∧ u = .ref (ca k)
  | .b k, u => k < nb ∧ u = .ref (ba k)
  | .x n, u => ∃ a, u = .ref a ∧ F a = some (ExC (.ref (T.exc n)) a)
  | .s ns, u => ∃ a, u = .ref a ∧ SqL T.K F a (ns.map V.int)
abbrev VReps (T : Tn) (F : Hp) (ca ba : Nat → Addr) (nc nb : Nat) : List Va → List V → Prop := Paired (VRep T F ca ba nc nb)
abbrev z0 : Nat → Addr := fun _ => 0
def FRep (T : Tn) (F : Hp) (ba : Nat → Addr) (nb : Nat) (Hm : Hp) : Fv → V → Prop
  | .v x, u => VRep T F z0 ba 0 nb x u
  | .ol xs, u => ∃ p us, u = .ref p ∧ Hm p = some (.lst us) ∧ DxAll T.K F us xs
  | .fl xs, u => ∃ p us, u = .ref p ∧ F p = some (.lst us) ∧ VReps T F z0 ba 0 nb xs us
abbrev FsRep (T : Tn) (F : Hp) (ba : Nat → Addr) (nb : Nat) (Hm : Hp) : List (Nat × Fv) → List (Str × V) → Prop :=
  Paired fun p q => T.fnm[p.1]? = some q.1 ∧ FRep T F ba nb Hm p.2 q.2
inductive ResAt (T : Tn) (F : Hp) : (Nat → Addr) → Nat → Addr → Re → Hp → Prop where
  | lst {ba nb a xs Hm us} : Hm a = some (.lst us) → DxAll T.K F us xs → ResAt T F ba nb a (.lst xs) Hm
  | frz {ba nb a xs Hm} : Dx T.K F (.ref a) (.list xs) → ResAt T F ba nb a (.frz xs) Hm
  | ins {ba nb a c fs Hm dx fu} : Hm a = some (.ins (T.cls c) dx fu) → FsRep T F ba nb Hm fs fu → ResAt T F ba nb a (.ins c fs) Hm
  | box {ba0 nb0 a rs Hm own ba} : ba 0 = a → (∀ i r, rs[i]? = some r → ResAt T F ba rs.length (ba i) r (part own i Hm)) → ResAt T F ba0 nb0 a (.box rs) Hm

theorem VRep.mono {T : Tn} {F F' : Hp} {ca ba ca' ba' : Nat → Addr} {nc nb nc' nb' : Nat} (m : Same F F') (h1 : nc ≤ nc') (h2 : nb ≤ nb') (e1 : ∀ k, k < nc → ca' k = ca k) (e2 : ∀ k, k < nb → ba' k = ba k) :
    ∀ {v : Va} {u : V}, VRep T F ca ba nc nb v u → VRep T F' ca' ba' nc' nb' v u
  | .d _, _, h => dp_mono m _ _ h
  | .c k, _, ⟨h, e⟩ => ⟨Nat.lt_of_lt_of_le h h1, by rw [e1 k h]; exact e⟩
  | .b k, _, ⟨h, e⟩ => ⟨Nat.lt_of_lt_of_le h h2, by rw [e2 k h]; exact e⟩
  | .x _, _, ⟨a, e, h⟩ => ⟨a, e, m _ _ h⟩
  | .s _, _, ⟨a, e, h⟩ => ⟨a, e, sqL_mono m h⟩
theorem FRep.mono {T : Tn} {F F' Hm Hm' : Hp} {ba ba' : Nat → Addr} {nb nb' : Nat} (m : Same F F') (mm : Same Hm Hm') (h2 : nb ≤ nb') (e2 : ∀ k, k < nb → ba' k = ba k) :
    ∀ {v : Fv} {u : V}, FRep T F ba nb Hm v u → FRep T F' ba' nb' Hm' v u
  | .v _, _, h => VRep.mono m (Nat.le_refl _) h2 (fun _ _ => rfl) e2 h
  | .ol _, _, ⟨p, us, e, h, d⟩ => ⟨p, us, e, mm _ _ h, dpAll_mono m _ _ d⟩
  | .fl _, _, ⟨p, us, e, h, d⟩ => ⟨p, us, e, m _ _ h, Paired.mapP d fun _ _ => VRep.mono m (Nat.le_refl _) h2 (fun _ _ => rfl) e2⟩
theorem part_mono {own : Addr → Nat} {t : Nat} {H H' : Hp} (m : Same H H') : Same (part own t H) (part own t H') := fun _ _ h => part_iff.mpr ⟨(part_iff.mp h).1, m _ _ (part_iff.mp h).2⟩
theorem ResAt.mono {T : Tn} {F F' : Hp} (m : Same F F') {ba : Nat → Addr} {nb : Nat} {a : Addr} {r : Re} {Hm : Hp} (h : ResAt T F ba nb a r Hm) :
    ∀ {Hm' : Hp} {ba' : Nat → Addr} {nb' : Nat}, Same Hm Hm' → nb ≤ nb' → (∀ k, k < nb → ba' k = ba k) → ResAt T F' ba' nb' a r Hm' := by
  induction h with
  | lst h d => intro Hm' ba' nb' mm _ _; exact .lst (mm _ _ h) (dpAll_mono m _ _ d)
  | frz d => intro Hm' ba' nb' mm _ _; exact .frz (dp_mono m _ _ d)
  | ins h d => intro Hm' ba' nb' mm h2 e2; exact .ins (mm _ _ h) (Paired.mapP d fun _ _ q => ⟨q.1, FRep.mono m mm h2 e2 q.2⟩)
  | box e _ ih => intro Hm' ba' nb' mm _ _; exact .box e fun i r hr => ih i r hr (part_mono mm) (Nat.le_refl _) fun _ _ => rfl

/-! ### the state -/
structure Gh where
  own : Addr → Nat
  adr : Nat → Addr
  bdr : Nat → Addr
structure Rel (T : Tn) (G : Gh) (s : Sg) (σ : St) (H : Hp) : Prop where
  len : s.ρ.length = σ.length
  slot : ∀ (i : Nat) (v : Va), s.ρ[i]? = some (some v) → ∃ u, σ[i]? = some (some u) ∧ VRep T (part G.own 0 H) G.adr G.bdr s.W.length s.B.length v u
  wld : ∀ (k : Nat) (r : Re), s.W[k]? = some r → ResAt T (part G.own 0 H) z0 0 (G.adr k) r (part G.own (2 * k + 2) H)
  bx : ∀ (k : Nat) (r : Re), s.B[k]? = some r → ResAt T (part G.own 0 H) G.bdr s.B.length (G.bdr k) r (part G.own (2 * k + 3) H)
/-- data stands, what is not ours stands, addresses stand -/
structure Ext (G : Gh) (H : Hp) (nc nb : Nat) (G' : Gh) (H' : Hp) (nc' nb' : Nat) : Prop where
  keep : ∀ a o, H a = some o → G.own a ≤ 1 → H' a = some o ∧ G'.own a = G.own a
  adr : ∀ k, k < nc → G'.adr k = G.adr k
  bdr : ∀ k, k < nb → G'.bdr k = G.bdr k
  nc : nc ≤ nc'
  nb : nb ≤ nb'
theorem Ext.refl (G : Gh) (H : Hp) (nc nb : Nat) : Ext G H nc nb G H nc nb := ⟨fun _ _ h _ => ⟨h, rfl⟩, fun _ _ => rfl, fun _ _ => rfl, Nat.le_refl _, Nat.le_refl _⟩
theorem Ext.trans {G G1 G2 : Gh} {H H1 H2 : Hp} {a b a1 b1 a2 b2 : Nat} (x : Ext G H a b G1 H1 a1 b1) (y : Ext G1 H1 a1 b1 G2 H2 a2 b2) : Ext G H a b G2 H2 a2 b2 where
  keep := fun c o h t => by
    obtain ⟨h1, t1⟩ := x.keep c o h t
    obtain ⟨h2, t2⟩ := y.keep c o h1 (by omega)
    exact ⟨h2, t2.trans t1⟩
  adr := fun k h => (y.adr k (Nat.lt_of_lt_of_le h x.nc)).trans (x.adr k h)
  bdr := fun k h => (y.bdr k (Nat.lt_of_lt_of_le h x.nb)).trans (x.bdr k h)
  nc := Nat.le_trans x.nc y.nc
  nb := Nat.le_trans x.nb y.nb
theorem Ext.data {G G1 : Gh} {H H1 : Hp} {a b a1 b1 : Nat} (x : Ext G H a b G1 H1 a1 b1) : Same (part G.own 0 H) (part G1.own 0 H1) := fun c o h => by
  obtain ⟨e, q⟩ := part_iff.mp h
  obtain ⟨h1, t1⟩ := x.keep c o q (by omega)
  exact part_iff.mpr ⟨t1.trans e, h1⟩
theorem VRep.ext {T : Tn} {G G1 : Gh} {H H1 : Hp} {a b a1 b1 : Nat} (x : Ext G H a b G1 H1 a1 b1) {v : Va} {u : V} (h : VRep T (part G.own 0 H) G.adr G.bdr a b v u) : VRep T (part G1.own 0 H1) G1.adr G1.bdr a1 b1 v u :=
  VRep.mono x.data x.nc x.nb x.adr x.bdr h
theorem VReps.ext {T : Tn} {G G1 : Gh} {H H1 : Hp} {a b a1 b1 : Nat} (x : Ext G H a b G1 H1 a1 b1) {v : List Va} {u : List V} (h : VReps T (part G.own 0 H) G.adr G.bdr a b v u) : VReps T (part G1.own 0 H1) G1.adr G1.bdr a1 b1 v u :=
  Paired.mapP h fun _ _ => VRep.ext x
/-- the heap grows by data (tag 0) and by what is nobody's -/
theorem Rel.grow {T : Tn} {G : Gh} {s : Sg} {σ : St} {H : Hp} (R : Rel T G s σ H) {own' : Addr → Nat} {H' : Hp} (m : Same H H') (k : ∀ a o, H a = some o → own' a = G.own a) : Rel T { G with own := own' } s σ H' ∧ Ext G H s.W.length s.B.length { G with own := own' } H' s.W.length s.B.length := by
  have pm : ∀ t, Same (part G.own t H) (part own' t H') := fun t a o h => by
    obtain ⟨e, q⟩ := part_iff.mp h
    exact part_iff.mpr ⟨(k a o q).trans e, m a o q⟩
  refine ⟨⟨R.len, fun i v e => ?_, fun i r e => ?_, fun i r e => ?_⟩, ⟨fun a o h _ => ⟨m a o h, k a o h⟩, fun _ _ => rfl, fun _ _ => rfl, Nat.le_refl _, Nat.le_refl _⟩⟩
  · obtain ⟨u, e1, q⟩ := R.slot i v e
    exact ⟨u, e1, VRep.mono (pm 0) (Nat.le_refl _) (Nat.le_refl _) (fun _ _ => rfl) (fun _ _ => rfl) q⟩
  · exact (R.wld i r e).mono (pm 0) (pm _) (Nat.le_refl _) fun _ _ => rfl
  · exact (R.bx i r e).mono (pm 0) (pm _) (Nat.le_refl _) fun _ _ => rfl

/-! ### readings -/
/-- what is wanted behind an evaluation that began at G, H -/
def Po {α β : Type} (T : Tn) (W : WX) (G : Gh) (H : Hp) (n m : Nat) (σ : St) (rep : α → Sg → Gh → Hp → β → Prop) (r : Rs α) (K : α → Sg → Gh → Hp → β → Prop) : Prop := match r with
  | .ok a s' => ∀ G' H' b, Ext G H n m G' H' s'.W.length s'.B.length → Rel T G' s' σ H' → rep a s' G' H' b → K a s' G' H' b
  | .err c s' => ∀ G' H', Ext G H n m G' H' s'.W.length s'.B.length → Rel T G' s' σ H' → W (.ref (T.exc c)) none σ H'
  | .stuck => False
abbrev vrep (T : Tn) (s : Sg) (G : Gh) (H : Hp) : Va → V → Prop := VRep T (part G.own 0 H) G.adr G.bdr s.W.length s.B.length
abbrev vreps (T : Tn) : List Va → Sg → Gh → Hp → List V → Prop := fun vs s G H us => Paired (vrep T s G H) vs us
abbrev urep {α : Type} : α → Sg → Gh → Hp → Unit → Prop := fun _ _ _ _ _ => True
section
variable {α β : Type} {T : Tn} {W : WX} {G : Gh} {H : Hp} {n m : Nat} {σ : St} {rep : α → Sg → Gh → Hp → β → Prop}
theorem Po.ext {r : Rs α} {K : α → Sg → Gh → Hp → β → Prop} {G1 : Gh} {H1 : Hp} {n1 m1 : Nat} (h : Po T W G H n m σ rep r K) (x : Ext G H n m G1 H1 n1 m1) : Po T W G1 H1 n1 m1 σ rep r K := by
  cases r with
  | ok a s' => exact fun G' H' b y => h G' H' b (x.trans y)
  | err c s' => exact fun G' H' y => h G' H' (x.trans y)
  | stuck => exact h
theorem Po.imp {r : Rs α} {K K' : α → Sg → Gh → Hp → β → Prop} (h : Po T W G H n m σ rep r K) (k : ∀ a s' G' H' b, Ext G H n m G' H' s'.W.length s'.B.length → Rel T G' s' σ H' → rep a s' G' H' b → K a s' G' H' b → K' a s' G' H' b) : Po T W G H n m σ rep r K' := by
  cases r with
  | ok a s' => exact fun G' H' b x R q => k a s' G' H' b x R q (h G' H' b x R q)
  | err c s' => exact h
  | stuck => exact h
/-- one value, then the rest -/
theorem Po.one1 {ra : Rs (List Va)} {k : Va → Sg → Rs α} {K : α → Sg → Gh → Hp → β → Prop} (h : Po T W G H n m σ rep (one1 ra k) K) :
    Po T W G H n m σ (vreps T) ra (fun vs s' G' H' us => ∃ v u, vs = [v] ∧ us = [u] ∧ vrep T s' G' H' v u ∧ Po T W G' H' s'.W.length s'.B.length σ rep (k v s') K) := by
  cases ra with
  | ok vs s' =>
    match vs, h with
    | [v], h =>
      intro G' H' us x R q
      cases q with
      | cons a b =>
        cases b
        exact ⟨v, _, rfl, rfl, a, Po.ext h x⟩
    | [], h => exact False.elim h
    | _ :: _ :: _, h => exact False.elim h
  | err c s' => exact h
  | stuck => exact h
theorem Po.bind {γ δ : Type} {rep' : γ → Sg → Gh → Hp → δ → Prop} {ra : Rs γ} {k : γ → Sg → Rs α} {K : α → Sg → Gh → Hp → β → Prop} (h : Po T W G H n m σ rep (ra.bind k) K) :
    Po T W G H n m σ rep' ra (fun a s' G' H' b => rep' a s' G' H' b ∧ Po T W G' H' s'.W.length s'.B.length σ rep (k a s') K) := by
  cases ra with
  | ok a s' =>
    intro G' H' b x R q
    exact ⟨q, Po.ext h x⟩
  | err c s' => exact h
  | stuck => exact h
end
def tE (T : Tn) (W : WX) (f : M (List Va)) : TE := fun σ H Q => ∃ s G, Rel T G s σ H ∧ Po T W G H s.W.length s.B.length σ (vreps T) (f s) (fun _ _ _ H' us => ∃ u, us = [u] ∧ Q u H')
def tL (T : Tn) (W : WX) (f : M (List Va)) : TA := fun σ H Q => ∃ s G, Rel T G s σ H ∧ Po T W G H s.W.length s.B.length σ (vreps T) (f s) (fun _ _ _ H' us => Q us H')
def tT (T : Tn) (W : WX) (f : M Bool) : TT := fun σ H Q => ∃ s G, Rel T G s σ H ∧ Po T W G H s.W.length s.B.length σ urep (f s) (fun k _ _ H' _ => Q k H')
/-- .. of a statement: the slots may change -/
def PoS {α : Type} (T : Tn) (W : WX) (G : Gh) (H : Hp) (n m : Nat) (r : Rs α) (K : α → Sg → Gh → Hp → St → Prop) : Prop := match r with
  | .ok a s' => ∀ G' H' σ', Ext G H n m G' H' s'.W.length s'.B.length → Rel T G' s' σ' H' → K a s' G' H' σ'
  | .err c s' => ∀ G' H' σ', Ext G H n m G' H' s'.W.length s'.B.length → Rel T G' s' σ' H' → W (.ref (T.exc c)) none σ' H'
  | .stuck => False
/-- the ends of a statement -/
def DK (T : Tn) (D : Ends) : Fl → Sg → Gh → Hp → St → Prop
  | .next, _, _, H, σ => D.nx σ H
  | .brk, _, _, H, σ => D.bk σ H
  | .cont, _, _, H, σ => D.ct σ H
  | .ret v, s, G, H, _ => ∀ u, vrep T s G H v u → D.rt u H
def tS (T : Tn) (W : WX) (f : M Fl) : TS := fun D σ H => ∃ s G, Rel T G s σ H ∧ PoS T W G H s.W.length s.B.length (f s) (DK T D)
section
variable {α : Type} {T : Tn} {W : WX} {G : Gh} {H : Hp} {n m : Nat}
theorem PoS.ext {r : Rs α} {K : α → Sg → Gh → Hp → St → Prop} {G1 : Gh} {H1 : Hp} {n1 m1 : Nat} (h : PoS T W G H n m r K) (x : Ext G H n m G1 H1 n1 m1) : PoS T W G1 H1 n1 m1 r K := by
  cases r with
  | ok a s' => exact fun G' H' b y => h G' H' b (x.trans y)
  | err c s' => exact fun G' H' b y => h G' H' b (x.trans y)
  | stuck => exact h
theorem PoS.imp {r : Rs α} {K K' : α → Sg → Gh → Hp → St → Prop} (h : PoS T W G H n m r K) (k : ∀ a s' G' H' σ', Ext G H n m G' H' s'.W.length s'.B.length → Rel T G' s' σ' H' → K a s' G' H' σ' → K' a s' G' H' σ') : PoS T W G H n m r K' := by
  cases r with
  | ok a s' => exact fun G' H' b x R => k a s' G' H' b x R (h G' H' b x R)
  | err c s' => exact h
  | stuck => exact h
/-- a value, then a statement -/
theorem PoS.one1 {σ : St} {ra : Rs (List Va)} {k : Va → Sg → Rs α} {K : α → Sg → Gh → Hp → St → Prop} (h : PoS T W G H n m (one1 ra k) K) :
    Po T W G H n m σ (vreps T) ra (fun vs s' G' H' us => ∃ v u, vs = [v] ∧ us = [u] ∧ vrep T s' G' H' v u ∧ PoS T W G' H' s'.W.length s'.B.length (k v s') K) := by
  cases ra with
  | ok vs s' =>
    match vs, h with
    | [v], h =>
      intro G' H' us x R q
      cases q with
      | cons a b =>
        cases b
        exact ⟨v, _, rfl, rfl, a, PoS.ext h x⟩
    | [], h => exact False.elim h
    | _ :: _ :: _, h => exact False.elim h
  | err c s' => exact fun G' H' x R => h G' H' σ x R
  | stuck => exact h
theorem PoS.bindP {σ : St} {γ δ : Type} {rep' : γ → Sg → Gh → Hp → δ → Prop} {ra : Rs γ} {k : γ → Sg → Rs α} {K : α → Sg → Gh → Hp → St → Prop} (h : PoS T W G H n m (ra.bind k) K) :
    Po T W G H n m σ rep' ra (fun a s' G' H' b => rep' a s' G' H' b ∧ PoS T W G' H' s'.W.length s'.B.length (k a s') K) := by
  cases ra with
  | ok a s' => exact fun G' H' b x R q => ⟨q, PoS.ext h x⟩
  | err c s' => exact fun G' H' x R => h G' H' σ x R
  | stuck => exact h
theorem PoS.bind {γ : Type} {ra : Rs γ} {k : γ → Sg → Rs α} {K : α → Sg → Gh → Hp → St → Prop} (h : PoS T W G H n m (ra.bind k) K) :
    PoS T W G H n m ra (fun a s' G' H' _ => PoS T W G' H' s'.W.length s'.B.length (k a s') K) := by
  cases ra with
  | ok a s' => exact fun G' H' b x R => PoS.ext h x
  | err c s' => exact h
  | stuck => exact h
end
end BC

/-! BOps: the evaluator's operations on data are the model's. -/
namespace BC
open PySem L2

/-- data as an operation reads it: also a list that may change, and the script -/
inductive Dq (K : PySem.W.Frag) (H F : Hp) (st : Bool) : V → PyData → Prop
  | of {v d} : Dx K F v d → Dq K H F st v d
  | cell {a us xs} : H a = some (.lst us) → DxAll K F us xs → Dq K H F st (.ref a) (.list xs)
  | scr {a} {ns : List Int} : st = false → SqL K F a (ns.map V.int) → Dq K H F st (.ref a) (.list (ns.map .int))
section
variable {K : PySem.W.Frag} {H F : Hp} {st : Bool} {v : V}
theorem dq_non (h : Dq K H F st v .none) : v = .non := by cases h with | of h => cases h; rfl
theorem dq_bl {b : Bool} (h : Dq K H F st v (.bool b)) : v = .bl b := by cases h with | of h => cases h; rfl
theorem dq_int {b : Int} (h : Dq K H F st v (.int b)) : v = .int b := by cases h with | of h => cases h; rfl
theorem dq_str {b : Str} (h : Dq K H F st v (.str b)) : v = .str b := by cases h with | of h => cases h; rfl
theorem dq_tup {xs : List PyData} (m : Same F H) (h : Dq K H F st v (.tuple xs)) : ∃ a us, v = .ref a ∧ SqT K H a us ∧ DxAll K F us xs := by
  cases h with | of h => cases h with | tup h1 h2 => exact ⟨_, _, rfl, sqT_mono m h1, h2⟩
theorem dq_tupF {xs : List PyData} (h : Dq K H F st v (.tuple xs)) : ∃ a us, v = .ref a ∧ SqT K F a us ∧ DxAll K F us xs := by
  cases h with | of h => cases h with | tup h1 h2 => exact ⟨_, _, rfl, h1, h2⟩
theorem dq_lst {xs : List PyData} (m : Same F H) (h : Dq K H F true v (.list xs)) : ∃ a us, v = .ref a ∧ H a = some (.lst us) ∧ DxAll K F us xs := by
  generalize e : PyData.list xs = d at h
  cases h with
  | of h =>
    subst e
    cases h with | lst h1 h2 => exact ⟨_, _, rfl, m _ _ h1, h2⟩
  | cell h1 h2 =>
    injection e with e
    subst e
    exact ⟨_, _, rfl, h1, h2⟩
  | scr h _ => cases h
theorem dq_lstR {xs : List PyData} (m : Same F H) (h : Dq K H F st v (.list xs)) : ∃ a us, v = .ref a ∧ SqL K H a us ∧ DxAll K F us xs := by
  generalize e : PyData.list xs = d at h
  cases h with
  | of h =>
    subst e
    cases h with | lst h1 h2 => exact ⟨_, _, rfl, SqL.of (m _ _ h1), h2⟩
  | cell h1 h2 =>
    injection e with e
    subst e
    exact ⟨_, _, rfl, SqL.of h1, h2⟩
  | scr _ h =>
    injection e with e
    subst e
    exact ⟨_, _, rfl, sqL_mono m h, dpAll_of_ints _⟩
theorem dq_dict {xs} (h : Dq K H F st v (.dict xs)) : False := by cases h with | of h => cases h
theorem dq_dp {d : PyData} (m : Same F H) (h : Dq K H F st v d) : Dp K H v d := by
  cases h with
  | of h => exact dp_of m _ _ h
  | cell h1 h2 => exact .lst (SqL.of h1) (dpAll_of m _ _ h2)
  | scr _ h => exact .lst (sqL_mono m h) (dpAll_of m _ _ (dpAll_of_ints _))

/-- what a pure operation hands on: data, by growth -/
def Pst (K : PySem.W.Frag) (H F : Hp) (z : PyData) (Q : VK) : Prop := ∀ u H' F', Same H H' → Same F F' → (∀ a o, F' a = some o → F a = some o ∨ H a = none) → Same F' H' → Dx K F' u z → Q u H'
theorem Pst.same {z : PyData} {Q : VK} {u : V} (p : Pst K H F z Q) (m : Same F H) (h : Dx K F u z) : Q u H := p u H F (Same.refl _) (Same.refl _) (fun _ _ h => .inl h) m h
theorem same_upd {a : Addr} {o : HO} (h : H a = none) : Same H (upd H a o) := fun b u e => by rw [upd_ne (ne_of_none e h)]; exact e
theorem sub_none {a : Addr} (m : Same F H) (h : H a = none) : F a = none := by
  cases e : F a with
  | none => rfl
  | some o => rw [m _ _ e] at h; cases h
theorem Pst.new {z : PyData} {Q : VK} {o : HO} (p : Pst K H F z Q) (m : Same F H) (h : ∀ a F', Same F F' → F' a = some o → Dx K F' (.ref a) z) : ∀ a, H a = none → Q (.ref a) (upd H a o) := fun a e => by
  have eF := sub_none m e
  refine p (.ref a) (upd H a o) (upd F a o) (same_upd e) (same_upd eF) (fun b u h => ?_) (fun b u h => ?_) (h a _ (same_upd eF) upd_same)
  · by_cases hb : b = a
    · subst hb; exact .inr e
    · rw [upd_ne hb] at h; exact .inl h
  · by_cases hb : b = a
    · subst hb; rw [upd_same] at h ⊢; exact h
    · rw [upd_ne hb] at h ⊢; exact m _ _ h
theorem Pst.newL {zs : List PyData} {us : List V} {Q : VK} (p : Pst K H F (.list zs) Q) (m : Same F H) (h : DxAll K F us zs) : ∀ a, H a = none → Q (.ref a) (upd H a (.lst us)) :=
  p.new m fun _ _ mm e => .lst e (dpAll_mono mm _ _ h)
theorem Pst.newT {zs : List PyData} {us : List V} {Q : VK} (p : Pst K H F (.tuple zs) Q) (m : Same F H) (h : DxAll K F us zs) : ∀ a, H a = none → Q (.ref a) (upd H a (.tup us)) :=
  p.new m fun _ _ mm e => .tup (SqT.of e) (dpAll_mono mm _ _ h)
end

def rD (K : PySem.W.Frag) (f : PyData → PyData → Option PyData) (s1 s2 : Bool) : R2 := fun x y H Q => ∃ F d e z, Same F H ∧ Dq K H F s1 x d ∧ Dq K H F s2 y e ∧ f d e = some z ∧ Pst K H F z Q
theorem lim_line : lim ≤ sizeLine := by rw [sizeLine_eq]; decide
section
variable {X : Cx}
theorem o_add : OpR X (binaryOp .Add) (rD X.K addD true true) := by
  intro pins s σ H x y v u Q I rx ry h
  obtain ⟨F, d, e, z, m, hd, he, hz, p⟩ := h
  unfold addD at hz
  split at hz
  · cases hz
    exact op_add pins s σ H x y v u Q I rx ry ⟨_, _, dq_int hd, dq_int he, p.same m (.int _)⟩
  · split at hz
    · rename_i hl
      cases hz
      exact op_add_str pins s σ H x y v u Q I rx ry ⟨_, _, dq_str hd, dq_str he, Nat.le_trans hl lim_line, p.same m (.str _)⟩
    · cases hz
  · split at hz
    · rename_i hl
      cases hz
      obtain ⟨a, us, rfl, ha, da⟩ := dq_lst m hd
      obtain ⟨b, ws, rfl, hb, db⟩ := dq_lst m he
      exact op_cat pins s σ H _ _ v u Q I rx ry ⟨a, b, us, ws, rfl, rfl, ha, hb, by rw [dpAll_length da, dpAll_length db]; exact Nat.le_trans hl lim_line, p.newL m (dpAll_append da db)⟩
    · cases hz
  · split at hz
    · rename_i hl
      cases hz
      obtain ⟨a, us, rfl, ha, da⟩ := dq_tupF hd
      obtain ⟨b, ws, rfl, hb, db⟩ := dq_tupF he
      refine op_catA pins s σ H _ _ v u Q I rx ry ⟨a, b, us, ws, rfl, rfl, sqT_mono m ha, sqT_mono m hb, by rw [dpAll_length da, dpAll_length db]; exact Nat.le_trans hl lim_line, fun q => ?_, fun _ q => ?_, fun _ _ => p.newT m (dpAll_append da db)⟩
      · subst q
        cases da
        exact p.same m (.tup hb db)
      · subst q
        cases db
        rw [List.append_nil] at p
        exact p.same m (.tup ha da)
    · cases hz
  · cases hz
theorem o_sub : OpR X (binaryOp .Sub) (rD X.K subD true true) := by
  intro pins s σ H x y v u Q I rx ry h
  obtain ⟨F, d, e, z, m, hd, he, hz, p⟩ := h
  unfold subD at hz
  split at hz
  · cases hz
    exact op_sub pins s σ H x y v u Q I rx ry ⟨_, _, dq_int hd, dq_int he, p.same m (.int _)⟩
  · cases hz
theorem nil_of_dx {K : PySem.W.Frag} {F : Hp} {us : List V} {xs : List PyData} (h : DxAll K F us xs) (n : xs ≠ []) : us ≠ [] := fun q => n (by
  have := dpAll_length h
  rw [q] at this
  exact List.eq_nil_of_length_eq_zero this.symm)
theorem o_mul : OpR X (binaryOp .Mult) (rD X.K mulD true true) := by
  intro pins s σ H x y v u Q I rx ry h
  obtain ⟨F, d, e, z, m, hd, he, hz, p⟩ := h
  unfold mulD at hz
  split at hz
  · split at hz
    · rename_i hl
      cases hz
      rcases hl with hl | hl | hl
      · exact op_mul pins s σ H x y v u Q I rx ry ⟨_, _, dq_int hd, dq_int he, .inl hl, p.same m (.int _)⟩
      · exact op_mul pins s σ H x y v u Q I rx ry ⟨_, _, dq_int hd, dq_int he, .inr hl, p.same m (.int _)⟩
      · exact op_mulW pins s σ H x y v u Q I rx ry ⟨_, _, dq_int hd, dq_int he, wide_mul hl.1 hl.2 (by decide) (by decide) (by decide), p.same m (.int _)⟩
    · cases hz
  · split at hz
    · rename_i hl
      cases hz
      obtain ⟨a, us, rfl, ha, da⟩ := dq_lst m hd
      exact op_rep pins s σ H _ _ v u Q I rx ry ⟨a, _, us, rfl, dq_int he, ha, hl.1, hl.2.1, by rw [dpAll_length da]; exact Nat.le_trans hl.2.2 lim_line, p.newL m (dpAll_rep da _)⟩
    · cases hz
  · split at hz
    · rename_i hl
      cases hz
      obtain ⟨a, us, rfl, ha, da⟩ := dq_tup m hd
      exact op_repT pins s σ H _ _ v u Q I rx ry ⟨a, _, us, rfl, dq_int he, ha, nil_of_dx da hl.2.2.1, hl.1, hl.2.1, by rw [dpAll_length da]; exact hl.2.2.2, p.newT m (dpAll_rep da _)⟩
    · cases hz
  · cases hz
theorem o_div : OpR X (binaryOp .FloorDiv) (rD X.K divD true true) := by
  intro pins s σ H x y v u Q I rx ry h
  obtain ⟨F, d, e, z, m, hd, he, hz, p⟩ := h
  unfold divD at hz
  split at hz
  · split at hz
    · rename_i hl
      cases hz
      exact op_fdivW pins s σ H x y v u Q I rx ry ⟨_, _, dq_int hd, dq_int he, wide_div hl.1 hl.2 (by decide) (by decide), p.same m (.int _)⟩
    · cases hz
  · cases hz
theorem o_mod : OpR X (binaryOp .Mod) (rD X.K modD true true) := by
  intro pins s σ H x y v u Q I rx ry h
  obtain ⟨F, d, e, z, m, hd, he, hz, p⟩ := h
  unfold modD at hz
  split at hz
  · split at hz
    · rename_i hl
      cases hz
      exact op_mod pins s σ H x y v u Q I rx ry ⟨_, _, dq_int hd, dq_int he, hl, p.same m (.int _)⟩
    · cases hz
  · cases hz
theorem o_pow : OpR X (binaryOp .Pow) (rD X.K powD true true) := by
  intro pins s σ H x y v u Q I rx ry h
  obtain ⟨F, d, e, z, m, hd, he, hz, p⟩ := h
  unfold powD at hz
  split at hz
  · split at hz
    · rename_i hl
      cases hz
      refine op_pow pins s σ H x y v u Q I rx ry ⟨_, _, dq_int hd, dq_int he, ⟨hl.1, Int.le_trans hl.2.1 (by decide), ?_⟩, p.same m (.int _)⟩
      have := hl.2.2
      simp only [big] at this
      omega
    · cases hz
  · cases hz
def boOp : Bo → Operator
  | .add => .Add | .sub => .Sub | .mul => .Mult | .div => .FloorDiv | .mod => .Mod | .pow => .Pow
theorem o_bin : ∀ o : Bo, OpR X (binaryOp (boOp o)) (rD X.K (binD o) true true)
  | .add => o_add | .sub => o_sub | .mul => o_mul | .div => o_div | .mod => o_mod | .pow => o_pow

/-! ### comparisons -/
def rC (K : PySem.W.Frag) (f : PyData → PyData → Option Bool) : R2 := fun x y H Q => ∃ F d e k, Same F H ∧ Dq K H F true x d ∧ Dq K H F true y e ∧ f d e = some k ∧ Q (.bl k) H
def coOp : Co → CmpOp
  | .eq => .Eq | .ne => .NotEq | .lt => .Lt | .le => .LtE | .gt => .Gt | .ge => .GtE | .isIn => .In | .notIn => .NotIn
theorem flatV_of {K : PySem.W.Frag} {F : Hp} : ∀ {d : PyData} {v : V}, Dx K F v d → flatD d = true → flatV v = true
  | .none, _, h, _ => by cases h; rfl
  | .bool _, _, h, _ => by cases h; rfl
  | .int _, _, h, _ => by cases h; rfl
  | .str _, _, h, _ => by cases h; rfl
  | .list _, _, _, e => by cases e
  | .tuple _, _, _, e => by cases e
  | .dict _, _, _, e => by cases e
theorem flatAll_of {K : PySem.W.Frag} {F : Hp} : ∀ {ds : List PyData} {us : List V}, DxAll K F us ds → ds.all flatD = true → us.all flatV = true
  | [], _, h, _ => by cases h; rfl
  | d :: ds, _, h, e => by
    cases h with
    | cons h1 h2 =>
      rw [List.all_cons, Bool.and_eq_true] at e ⊢
      exact ⟨flatV_of h1 e.1, flatAll_of h2 e.2⟩
theorem eqV_of {K : PySem.W.Frag} {F : Hp} {d e : PyData} {v u : V} (h : Dx K F v d) (h' : Dx K F u e) (fd : flatD d = true) (fe : flatD e = true) : eqV v u = PyData.eqv d e := by
  cases h <;> cases h' <;> first | rfl | (cases fd) | (cases fe)
theorem any_eqV {K : PySem.W.Frag} {F : Hp} {x : PyData} {v : V} (h : Dx K F v x) (fx : flatD x = true) : ∀ {ds : List PyData} {us : List V}, DxAll K F us ds → ds.all flatD = true → (us.any fun y => eqV y v) = ds.any fun z => PyData.eqv z x
  | [], _, h, _ => by cases h; rfl
  | d :: ds, _, hh, e => by
    cases hh with
    | cons h1 h2 =>
      rw [List.all_cons, Bool.and_eq_true] at e
      rw [List.any_cons, List.any_cons, eqV_of h1 h e.1 fx, any_eqV h fx h2 e.2]
theorem dq_flat {K : PySem.W.Frag} {H F : Hp} {st : Bool} {d : PyData} {v : V} (h : Dq K H F st v d) (f : flatD d = true) : Dx K F v d := by
  cases h with
  | of h => exact h
  | cell _ _ => cases f
  | scr _ _ => cases f
theorem o_in (neg : Bool) : OpR X (compareOp (if neg then .NotIn else .In)) (rC X.K fun x y => (inD x y).map fun k => if neg then !k else k) := by
  intro pins s σ H x y v u Q I rx ry h
  obtain ⟨F, d, e, k, m, hd, he, hz, q⟩ := h
  simp only [Option.map_eq_some_iff] at hz
  obtain ⟨k0, hz, rfl⟩ := hz
  unfold inD at hz
  have seq : ∀ {us : List V} {a : Addr} {ys : List PyData}, (SqL X.K H a us ∨ SqT X.K H a us) → DxAll X.K F us ys → y = .ref a → (flatD d && ys.all flatD) = true → (ys.any fun z => PyData.eqv z d) = k0 →
      wpAny (model X.prog X.w) X.A (compareOp (if neg then .NotIn else .In) v u) (EP X pins σ Q) X.xe s := by
    intro us a ys hs da ey hf hk
    subst ey
    rw [Bool.and_eq_true] at hf
    have dx := dq_flat hd hf.1
    have e1 : inV x us = k0 := by unfold inV; rw [any_eqV dx hf.1 da hf.2, hk]
    cases neg with
    | true => exact op_notIn_seq pins s σ H x _ v u Q I rx ry ⟨a, us, rfl, hs, flatV_of dx hf.1, flatAll_of da hf.2, by rw [e1]; exact q⟩
    | false => exact op_in_seq pins s σ H x _ v u Q I rx ry ⟨a, us, rfl, hs, flatV_of dx hf.1, flatAll_of da hf.2, by rw [e1]; exact q⟩
  split at hz
  · split at hz
    · rename_i hf
      cases hz
      obtain ⟨a, us, rfl, ha, da⟩ := dq_lstR m he
      exact seq (.inl ha) da rfl hf rfl
    · cases hz
  · split at hz
    · rename_i hf
      cases hz
      obtain ⟨a, us, rfl, ha, da⟩ := dq_tup m he
      exact seq (.inr ha) da rfl hf rfl
    · cases hz
  · split at hz
    · cases hz
      cases neg with
      | true => exact op_notIn_str pins s σ H x y v u Q I rx ry ⟨_, _, dq_str hd, dq_str he, q⟩
      | false => exact op_in_str pins s σ H x y v u Q I rx ry ⟨_, _, dq_str hd, dq_str he, q⟩
    · cases hz
  · cases hz
theorem o_eq (hu : X.A.units + 64 < cLine) : OpR X (compareOp .Eq) (rC X.K eqD) := by
  intro pins s σ H x y v u Q I rx ry h
  obtain ⟨F, d, e, k, m, hd, he, hz, q⟩ := h
  unfold eqD at hz
  split at hz
  · rename_i hs
    cases hz
    rw [Bool.and_eq_true] at hs
    exact op_eqD hu pins s σ H x y v u Q I rx ry ⟨d, e, dq_dp m hd, dq_dp m he, hs.1, hs.2, q⟩
  · cases hz
theorem o_ne (hu : X.A.units + 64 < cLine) : OpR X (compareOp .NotEq) (rC X.K fun x y => (eqD x y).map (!·)) := by
  intro pins s σ H x y v u Q I rx ry h
  obtain ⟨F, d, e, k, m, hd, he, hz, q⟩ := h
  simp only [Option.map_eq_some_iff] at hz
  obtain ⟨k0, hz, rfl⟩ := hz
  unfold eqD at hz
  split at hz
  · rename_i hs
    cases hz
    rw [Bool.and_eq_true] at hs
    exact op_neD hu pins s σ H x y v u Q I rx ry ⟨d, e, dq_dp m hd, dq_dp m he, hs.1, hs.2, q⟩
  · cases hz
theorem o_lt (hu : X.A.units < cLine) : OpR X (compareOp .Lt) (rC X.K ltD) := by
  intro pins s σ H x y v u Q I rx ry h
  obtain ⟨F, d, e, k, m, hd, he, hz, q⟩ := h
  unfold ltD at hz
  split at hz
  · cases hz
    exact op_lt pins s σ H x y v u Q I rx ry ⟨_, _, dq_int hd, dq_int he, q⟩
  · split at hz
    · rename_i e1 e2
      cases hz
      obtain ⟨a, us, rfl, ha, da⟩ := dq_tup m hd
      obtain ⟨b, ws, rfl, hb, db⟩ := dq_tup m he
      rw [dpAll_ints da e1] at ha
      rw [dpAll_ints db e2] at hb
      exact op_ltT hu pins s σ H _ _ v u Q I rx ry ⟨a, b, _, _, rfl, rfl, ha, hb, q⟩
    · cases hz
  · cases hz
theorem o_cmp (hu : X.A.units + 64 < cLine) : ∀ o : Co, OpR X (compareOp (coOp o)) (rC X.K (cmpD o))
  | .eq => o_eq hu
  | .ne => o_ne hu
  | .lt => o_lt (by omega)
  | .isIn => fun pins s σ H x y v u Q I rx ry ⟨F, d, e, k, m, hd, he, hz, q⟩ => o_in false pins s σ H x y v u Q I rx ry ⟨F, d, e, k, m, hd, he, by simpa [cmpD] using hz, q⟩
  | .notIn => fun pins s σ H x y v u Q I rx ry ⟨F, d, e, k, m, hd, he, hz, q⟩ => o_in true pins s σ H x y v u Q I rx ry ⟨F, d, e, k, m, hd, he, by simpa [cmpD] using hz, q⟩
  | .le => fun pins s σ H x y v u Q I rx ry ⟨F, d, e, k, m, hd, he, hz, q⟩ => by
    unfold cmpD at hz
    split at hz <;> first | contradiction | skip
    all_goals (try (rename_i h; cases h))
    cases hz
    exact op_le pins s σ H x y v u Q I rx ry ⟨_, _, dq_int hd, dq_int he, q⟩
  | .gt => fun pins s σ H x y v u Q I rx ry ⟨F, d, e, k, m, hd, he, hz, q⟩ => by
    unfold cmpD at hz
    split at hz <;> first | contradiction | skip
    all_goals (try (rename_i h; cases h))
    cases hz
    exact op_gt pins s σ H x y v u Q I rx ry ⟨_, _, dq_int hd, dq_int he, q⟩
  | .ge => fun pins s σ H x y v u Q I rx ry ⟨F, d, e, k, m, hd, he, hz, q⟩ => by
    unfold cmpD at hz
    split at hz <;> first | contradiction | skip
    all_goals (try (rename_i h; cases h))
    cases hz
    exact op_ge pins s σ H x y v u Q I rx ry ⟨_, _, dq_int hd, dq_int he, q⟩
theorem tru_of {K : PySem.W.Frag} {H F : Hp} {st : Bool} {v : V} {d : PyData} {k : Bool} (m : Same F H) (h : Dq K H F st v d) (e : truthD d = some k) : TruV K v H k := by
  cases d with
  | none => cases e; rw [dq_non h]; rfl
  | bool b => cases e; rw [dq_bl h]; rfl
  | int i => cases e; rw [dq_int h]; rfl
  | str z =>
    simp only [truthD] at e
    split at e
    · rename_i hl
      cases e
      rw [dq_str h]
      refine ⟨Nat.le_trans hl lim_line, ?_⟩
      cases hz : z.length with
      | zero => rfl
      | succ n => simp [bne]; omega
    · cases e
  | list l =>
    cases e
    obtain ⟨a, us, rfl, ha, da⟩ := dq_lstR m h
    refine .inl ⟨us, ha, ?_⟩
    cases da <;> rfl
  | tuple l =>
    cases e
    obtain ⟨a, us, rfl, ha, da⟩ := dq_tup m h
    refine .inr (.inl ⟨us, ha, ?_⟩)
    cases da <;> rfl
  | dict l => cases e

/-! ### items, slices -/
theorem atI_dx {K : PySem.W.Frag} {F : Hp} {us : List V} {xs : List PyData} {i : Int} {d : PyData} (h : DxAll K F us xs) (e : atI xs i = some d) : ∃ v, atI us i = some v ∧ Dx K F v d := by
  unfold atI at e ⊢
  rw [dpAll_length h]
  cases q : ixN xs.length i with
  | none => rw [q] at e; cases e
  | some j =>
    rw [q] at e
    exact dpAll_get h e
theorem o_idx : IxR X (rD X.K idxD false true) := by
  intro value slice pins s σ H x y v u Q I rx ry h hs
  obtain ⟨F, d, e, z, m, hd, he, hz, p⟩ := h
  unfold idxD at hz
  split at hz
  · obtain ⟨a, us, rfl, ha, da⟩ := dq_lstR m hd
    obtain ⟨w, e1, dw⟩ := atI_dx da hz
    exact ix_list value slice pins s σ H _ _ v u Q I rx ry ⟨a, us, _, w, rfl, dq_int he, ha, e1, p.same m dw⟩ hs
  · obtain ⟨a, us, rfl, ha, da⟩ := dq_tup m hd
    obtain ⟨w, e1, dw⟩ := atI_dx da hz
    exact ix_tup value slice pins s σ H _ _ v u Q I rx ry ⟨a, us, _, w, rfl, dq_int he, ha, e1, p.same m dw⟩ hs
  · split at hz
    · rename_i hl
      simp only [Option.map_eq_some_iff] at hz
      obtain ⟨c, e1, rfl⟩ := hz
      exact ix_str value slice pins s σ H x y v u Q I rx ry ⟨_, _, c, dq_str hd, dq_int he, Nat.le_trans hl lim_line, e1, p.same m (.str _)⟩ hs
    · cases hz
  · cases hz
def rDS (K : PySem.W.Frag) : V → Option Int → Option Int → Hp → VK → Prop := fun x lo hi H Q => ∃ F d z, Same F H ∧ Dq K H F true x d ∧ sliceD d lo hi = some z ∧ Pst K H F z Q
theorem cut_dx {K : PySem.W.Frag} {F : Hp} {us : List V} {xs : List PyData} (lo hi : Option Int) (h : DxAll K F us xs) : DxAll K F (cutV us lo hi) (cutD xs lo hi) := by
  unfold cutV cutD
  rw [dpAll_length h]
  exact dpAll_take _ (dpAll_drop _ h)
theorem o_slice : SlR X (rDS X.K) := by
  intro pins s σ H x v vl vu lo hi sl Q I rx hs pl pu h
  obtain ⟨F, d, z, m, hd, hz, p⟩ := h
  unfold sliceD at hz
  split at hz
  · cases hz
    obtain ⟨a, us, rfl, ha, da⟩ := dq_lst m hd
    exact sl_list pins s σ H _ v vl vu lo hi sl Q I rx hs pl pu ⟨a, us, rfl, SqL.of ha, p.newL m (cut_dx lo hi da)⟩
  · cases hz
    obtain ⟨a, us, rfl, ha, da⟩ := dq_tupF hd
    have hc := cut_dx lo hi da
    refine sl_tupA pins s σ H _ v vl vu lo hi sl Q I rx hs pl pu ⟨a, us, rfl, sqT_mono m ha, fun hw => p.same m (.tup ha ?_), fun _ => p.newT m hc⟩
    have e : cutV us lo hi = us := by
      unfold cutV
      rw [hw.1, hw.2]
      simp
    rw [e] at hc
    exact hc
  · split at hz
    · rename_i hl
      cases hz
      exact sl_str pins s σ H _ v vl vu lo hi sl Q I rx hs pl pu ⟨_, dq_str hd, Nat.le_trans hl lim_line, p.same m (.str _)⟩
    · cases hz
  · cases hz
end
end BC

/-! BBlt: the built-in functions on data. -/
namespace BC
open PySem L2

abbrev DqAll (K : PySem.W.Frag) (H F : Hp) : List V → List PyData → Prop := Paired (Dq K H F false)
def rBf (K : PySem.W.Frag) (f : List PyData → Option PyData) : List V → Hp → VK → Prop := fun xs H Q => ∃ F ds z, Same F H ∧ DqAll K H F xs ds ∧ f ds = some z ∧ Pst K H F z Q
theorem all1 {K : PySem.W.Frag} {H F : Hp} {xs : List V} {d : PyData} (h : DqAll K H F xs [d]) : ∃ x, xs = [x] ∧ Dq K H F false x d := by
  cases h with | cons a b => cases b; exact ⟨_, rfl, a⟩
theorem all2 {K : PySem.W.Frag} {H F : Hp} {xs : List V} {d e : PyData} (h : DqAll K H F xs [d, e]) : ∃ x y, xs = [x, y] ∧ Dq K H F false x d ∧ Dq K H F false y e := by
  cases h with | cons a b => cases b with | cons c d => cases d; exact ⟨_, _, rfl, a, c⟩
theorem minL_spec : ∀ (a : Int) (r : List Int) (m : Int), m ∈ a :: r → (∀ y, y ∈ a :: r → m ≤ y) → m = minL (a :: r)
  | a, [], m, h, _ => by simpa [minL] using h
  | a, b :: r, m, h, q => by
    have ih := minL_spec b r
    have e : minL (a :: b :: r) = min a (minL (b :: r)) := rfl
    rw [e]
    have le : ∀ y ∈ b :: r, minL (b :: r) ≤ y := by
      clear ih e h q
      induction r generalizing b with
      | nil => intro y hy; simp [minL] at hy ⊢; omega
      | cons c t ih =>
        intro y hy
        have e : minL (b :: c :: t) = min b (minL (c :: t)) := rfl
        rcases List.mem_cons.mp hy with rfl | hy
        · rw [e]; omega
        · have := ih c y hy; rw [e]; omega
    have mem : ∀ (b : Int) (r : List Int), minL (b :: r) ∈ b :: r := by
      intro b r
      induction r generalizing b with
      | nil => simp [minL]
      | cons c t ih =>
        have e : minL (b :: c :: t) = min b (minL (c :: t)) := rfl
        rw [e]
        by_cases hc : b ≤ minL (c :: t)
        · rw [Int.min_eq_left hc]; exact List.mem_cons_self
        · rw [Int.min_eq_right (by omega)]; exact List.mem_cons_of_mem _ (ih c)
    have h1 := q a List.mem_cons_self
    have h2 := q _ (List.mem_cons_of_mem _ (mem b r))
    rcases List.mem_cons.mp h with rfl | h
    · omega
    · have := le m h; omega
theorem maxL_spec : ∀ (a : Int) (r : List Int) (m : Int), m ∈ a :: r → (∀ y, y ∈ a :: r → y ≤ m) → m = maxL (a :: r)
  | a, [], m, h, _ => by simpa [maxL] using h
  | a, b :: r, m, h, q => by
    have e : maxL (a :: b :: r) = max a (maxL (b :: r)) := rfl
    rw [e]
    have le : ∀ y ∈ b :: r, y ≤ maxL (b :: r) := by
      clear e h q
      induction r generalizing b with
      | nil => intro y hy; simp [maxL] at hy ⊢; omega
      | cons c t ih =>
        intro y hy
        have e : maxL (b :: c :: t) = max b (maxL (c :: t)) := rfl
        rcases List.mem_cons.mp hy with rfl | hy
        · rw [e]; omega
        · have := ih c y hy; rw [e]; omega
    have mem : ∀ (b : Int) (r : List Int), maxL (b :: r) ∈ b :: r := by
      intro b r
      induction r generalizing b with
      | nil => simp [maxL]
      | cons c t ih =>
        have e : maxL (b :: c :: t) = max b (maxL (c :: t)) := rfl
        rw [e]
        by_cases hc : maxL (c :: t) ≤ b
        · rw [Int.max_eq_left hc]; exact List.mem_cons_self
        · rw [Int.max_eq_right (by omega)]; exact List.mem_cons_of_mem _ (ih c)
    have h1 := q a List.mem_cons_self
    have h2 := q _ (List.mem_cons_of_mem _ (mem b r))
    rcases List.mem_cons.mp h with rfl | h
    · omega
    · have := le m h; omega
theorem isort_spec {ns ms : List Int} (h : ms.Perm ns) (q : ms.Pairwise (· ≤ ·)) : ms = isort ns := by
  have h1 : (isort ns).Perm ns := isort_perm _
  have h2 : (isort ns).Pairwise (fun a b => decide (a ≤ b) = true) := isort_sorted _
  refine (h.trans h1.symm).eq_of_pairwise (fun a b _ _ h1 h2 => ?_) q (h2.imp fun h => by simpa using h)
  exact Int.le_antisymm h1 h2
section
variable {X : Cx}
theorem b_len : CallR X (.builtin "len") (rBf X.K bLen) := by
  intro pins s σ H xs us Q I r h
  obtain ⟨F, ds, z, m, hd, hz, p⟩ := h
  unfold bLen at hz
  split at hz <;> (try contradiction)
  · cases hz
    obtain ⟨x, rfl, h1⟩ := all1 hd
    obtain ⟨a, ws, rfl, ha, da⟩ := dq_lstR m h1
    exact call_len_seq pins s σ H _ us Q I r ⟨a, ws, rfl, .inl ha, by rw [dpAll_length da]; exact p.same m (.int _)⟩
  · cases hz
    obtain ⟨x, rfl, h1⟩ := all1 hd
    obtain ⟨a, ws, rfl, ha, da⟩ := dq_tup m h1
    exact call_len_seq pins s σ H _ us Q I r ⟨a, ws, rfl, .inr ha, by rw [dpAll_length da]; exact p.same m (.int _)⟩
  · split at hz
    · rename_i hl
      cases hz
      obtain ⟨x, rfl, h1⟩ := all1 hd
      rw [dq_str h1] at r
      exact call_len_str pins s σ H _ us Q I r ⟨_, rfl, Nat.le_trans hl lim_line, p.same m (.int _)⟩
    · cases hz
theorem b_abs : CallR X (.builtin "abs") (rBf X.K bAbs) := by
  intro pins s σ H xs us Q I r h
  obtain ⟨F, ds, z, m, hd, hz, p⟩ := h
  unfold bAbs at hz
  split at hz <;> (try contradiction)
  cases hz
  obtain ⟨x, rfl, h1⟩ := all1 hd
  exact call_abs pins s σ H _ us Q I r ⟨_, by rw [dq_int h1], p.same m (.int _)⟩
theorem b_min2 (hc : X.calm = true) : CallR X (.builtin "min") (rBf X.K bMin2) := by
  intro pins s σ H xs us Q I r h
  obtain ⟨F, ds, z, m, hd, hz, p⟩ := h
  unfold bMin2 at hz
  split at hz <;> (try contradiction)
  cases hz
  obtain ⟨x, y, rfl, h1, h2⟩ := all2 hd
  exact call_min2 hc pins s σ H _ us Q I r ⟨_, _, by rw [dq_int h1, dq_int h2], p.same m (.int _)⟩
theorem b_max2 (hc : X.calm = true) : CallR X (.builtin "max") (rBf X.K bMax2) := by
  intro pins s σ H xs us Q I r h
  obtain ⟨F, ds, z, m, hd, hz, p⟩ := h
  unfold bMax2 at hz
  split at hz <;> (try contradiction)
  cases hz
  obtain ⟨x, y, rfl, h1, h2⟩ := all2 hd
  exact call_max2 hc pins s σ H _ us Q I r ⟨_, _, by rw [dq_int h1, dq_int h2], p.same m (.int _)⟩
theorem b_min1 (hc : X.calm = true) : CallR X (.builtin "min") (rBf X.K bMin1) := by
  intro pins s σ H xs us Q I r h
  obtain ⟨F, ds, z, m, hd, hz, p⟩ := h
  unfold bMin1 at hz
  split at hz <;> (try contradiction)
  split at hz <;> (try contradiction)
  rename_i e
  cases hz
  obtain ⟨x, rfl, h1⟩ := all1 hd
  obtain ⟨a, ws, rfl, ha, da⟩ := dq_lstR m h1
  rw [dpAll_ints da e] at ha
  exact cr_min hc pins s σ H _ us Q I r ⟨a, _, rfl, ha, by simp, fun k hk hl => by rw [minL_spec _ _ k hk hl]; exact p.same m (.int _)⟩
theorem b_max1 (hc : X.calm = true) : CallR X (.builtin "max") (rBf X.K bMax1) := by
  intro pins s σ H xs us Q I r h
  obtain ⟨F, ds, z, m, hd, hz, p⟩ := h
  unfold bMax1 at hz
  split at hz <;> (try contradiction)
  split at hz <;> (try contradiction)
  rename_i e
  cases hz
  obtain ⟨x, rfl, h1⟩ := all1 hd
  obtain ⟨a, ws, rfl, ha, da⟩ := dq_lstR m h1
  rw [dpAll_ints da e] at ha
  exact cr_max hc pins s σ H _ us Q I r ⟨a, _, rfl, ha, by simp, fun k hk hl => by rw [maxL_spec _ _ k hk hl]; exact p.same m (.int _)⟩
theorem b_sum (hc : X.calm = true) : CallR X (.builtin "sum") (rBf X.K bSum) := by
  intro pins s σ H xs us Q I r h
  obtain ⟨F, ds, z, m, hd, hz, p⟩ := h
  unfold bSum at hz
  split at hz <;> (try contradiction)
  simp only [Option.map_eq_some_iff] at hz
  obtain ⟨ns, e, rfl⟩ := hz
  obtain ⟨x, rfl, h1⟩ := all1 hd
  obtain ⟨a, ws, rfl, ha, da⟩ := dq_lstR m h1
  rw [dpAll_ints da e] at ha
  exact cr_sum hc pins s σ H _ us Q I r ⟨a, _, rfl, ha, p.same m (.int _)⟩
theorem b_sorted : CallR X (.builtin "sorted") (rBf X.K bSorted) := by
  intro pins s σ H xs us Q I r h
  obtain ⟨F, ds, z, m, hd, hz, p⟩ := h
  unfold bSorted at hz
  split at hz <;> (try contradiction)
  simp only [Option.map_eq_some_iff] at hz
  obtain ⟨ns, e, rfl⟩ := hz
  obtain ⟨x, rfl, h1⟩ := all1 hd
  obtain ⟨a, ws, rfl, ha, da⟩ := dq_lstR m h1
  rw [dpAll_ints da e] at ha
  exact cr_sortedI pins s σ H _ us Q I r ⟨a, _, rfl, ha, fun ms b h1 h2 hb => by rw [isort_spec h1 h2]; exact p.newL m (dpAll_of_ints _) b hb⟩
theorem b_tuple : CallR X (.type "tuple") (rBf X.K bTuple) := by
  intro pins s σ H xs us Q I r h
  obtain ⟨F, ds, z, m, hd, hz, p⟩ := h
  unfold bTuple at hz
  split at hz <;> (try contradiction)
  · cases hz
    obtain ⟨x, rfl, h1⟩ := all1 hd
    obtain ⟨a, ws, rfl, ha, da⟩ := dq_lstR m h1
    exact call_tuple_of pins s σ H _ us Q I r ⟨a, ws, rfl, .inl ⟨ha, p.newT m da⟩⟩
  · cases hz
    obtain ⟨x, rfl, h1⟩ := all1 hd
    obtain ⟨a, ws, rfl, ha, da⟩ := dq_tupF h1
    exact call_tuple_of pins s σ H _ us Q I r ⟨a, ws, rfl, .inr ⟨sqT_mono m ha, p.same m (.tup ha da)⟩⟩
theorem b_list : CallR X (.type "list") (rBf X.K bList) := by
  intro pins s σ H xs us Q I r h
  obtain ⟨F, ds, z, m, hd, hz, p⟩ := h
  unfold bList at hz
  split at hz <;> (try contradiction)
  · cases hz
    obtain ⟨x, rfl, h1⟩ := all1 hd
    obtain ⟨a, ws, rfl, ha, da⟩ := dq_lstR m h1
    exact call_list_of pins s σ H _ us Q I r ⟨a, ws, rfl, .inl ha, p.newL m da⟩
  · cases hz
    obtain ⟨x, rfl, h1⟩ := all1 hd
    obtain ⟨a, ws, rfl, ha, da⟩ := dq_tup m h1
    exact call_list_of pins s σ H _ us Q I r ⟨a, ws, rfl, .inr ha, p.newL m da⟩
theorem b_int : CallR X (.type "int") (rBf X.K bInt) := by
  intro pins s σ H xs us Q I r h
  obtain ⟨F, ds, z, m, hd, hz, p⟩ := h
  unfold bInt at hz
  split at hz <;> (try contradiction)
  · cases hz
    obtain ⟨x, rfl, h1⟩ := all1 hd
    exact call_int1 pins s σ H _ us Q I r (.inl ⟨_, by rw [dq_int h1], p.same m (.int _)⟩)
  · cases hz
    obtain ⟨x, rfl, h1⟩ := all1 hd
    exact call_int1 pins s σ H _ us Q I r (.inr ⟨_, by rw [dq_bl h1], p.same m (.int _)⟩)
  · split at hz
    · rename_i hl
      obtain ⟨n, hn, rfl⟩ := Option.map_eq_some_iff.mp hz
      obtain ⟨x, rfl, h1⟩ := all1 hd
      exact call_int_str pins s σ H _ us Q I r ⟨_, n, by rw [dq_str h1], hn, hl, p.same m (.int _)⟩
    · cases hz
theorem b_str : CallR X (.type "str") (rBf X.K bStr) := by
  intro pins s σ H xs us Q I r h
  obtain ⟨F, ds, z, m, hd, hz, p⟩ := h
  unfold bStr at hz
  split at hz <;> (try contradiction)
  · split at hz
    · rename_i hl
      cases hz
      obtain ⟨x, rfl, h1⟩ := all1 hd
      refine call_str_int pins s σ H _ us Q I r ⟨_, by rw [dq_int h1], ?_, p.same m (.str _)⟩
      refine Nat.lt_of_lt_of_le (m := 64) (PySem.Flt.log2_lt_of (by decide) ?_) (by decide)
      have := hl
      simp only [big] at this
      omega
    · cases hz
  · cases hz
    obtain ⟨x, rfl, h1⟩ := all1 hd
    exact SkE.call_str_str pins s σ H _ us Q I r ⟨_, by rw [dq_str h1], p.same m (.str _)⟩
theorem b_all (hc : X.calm = true) : CallR X (.builtin "all") (rBf X.K bAll) := by
  intro pins s σ H xs us Q I r h
  obtain ⟨F, ds, z, m, hd, hz, p⟩ := h
  unfold bAll at hz
  split at hz <;> (try contradiction)
  simp only [Option.map_eq_some_iff] at hz
  obtain ⟨ns, e, rfl⟩ := hz
  obtain ⟨x, rfl, h1⟩ := all1 hd
  obtain ⟨a, ws, rfl, ha, da⟩ := dq_lstR m h1
  rw [dpAll_bools da e] at ha
  exact cr_all hc pins s σ H _ us Q I r ⟨a, _, rfl, ha, p.same m (.bl _)⟩
end
end BC

/-! BSnd: each construct's evaluation is the model's. -/
namespace BC
open PySem L2

theorem pe_imp {X : Cx} {e : Expr} {t t' : TE} (h : PE X e t) (i : ∀ σ H Q, t' σ H Q → t σ H Q) : PE X e t' := ⟨fun pins s σ H Q I q => h.run pins s σ H Q I (i σ H Q q)⟩
theorem pt_imp {X : Cx} {e : Expr} {t t' : TT} (h : PT X e t) (i : ∀ σ H Q, t' σ H Q → t σ H Q) : PT X e t' := ⟨fun pins s σ H Q I q => h.run pins s σ H Q I (i σ H Q q)⟩
theorem pw_imp {X : Cx} {e : Expr} {t t' : TT} (h : PW X e t) (i : ∀ σ H Q, t' σ H Q → t σ H Q) : PW X e t' := ⟨fun w pins s σ H Q I q => h.run w pins s σ H Q I (i σ H Q q)⟩
theorem pa_imp {X : Cx} {e : List Expr} {t t' : TA} (h : PA X e t) (i : ∀ σ H Q, t' σ H Q → t σ H Q) : PA X e t' := ⟨fun p pins s σ H Q I q => h.run p pins s σ H Q I (i σ H Q q)⟩
theorem one1_assoc {α : Type} (r : Rs (List Va)) (k : Va → Sg → Rs (List Va)) (j : Va → Sg → Rs α) : one1 (one1 r k) j = one1 r fun v s => one1 (k v s) j := by
  cases r with
  | ok vs s =>
    match vs with
    | [v] => rfl
    | [] => rfl
    | _ :: _ :: _ => rfl
  | err c s => rfl
  | stuck => rfl
theorem bind_one1 {α β : Type} (r : Rs α) (k : α → Sg → Rs (List Va)) (j : Va → Sg → Rs β) : one1 (r.bind k) j = r.bind fun v s => one1 (k v s) j := by
  cases r <;> rfl

section
variable {T : Tn} {W : WX} {G : Gh} {H : Hp} {σ : St} {s : Sg} {Q : VK}
theorem Rel.sub (R : Rel T G s σ H) : Same (part G.own 0 H) H := part_sub
theorem vrep_peek {v : Va} {u : V} {x : PyData} (R : Rel T G s σ H) (r : vrep T s G H v u) (e : peek s v = some x) : Dq T.K H (part G.own 0 H) true u x := by
  cases v with
  | d y => cases e; exact .of r
  | c k =>
    simp only [peek] at e
    split at e
    · rename_i xs hk
      cases e
      have q := R.wld k _ hk
      cases q with
      | lst h d =>
        rw [r.2]
        exact .cell (part_sub _ _ h) d
    · rename_i xs hk
      cases e
      have q := R.wld k _ hk
      cases q with
      | frz h =>
        rw [r.2]
        exact .of h
    · cases e
  | b k =>
    simp only [peek] at e
    split at e
    · rename_i xs hk
      cases e
      have q := R.bx k _ hk
      cases q with
      | lst h d =>
        rw [r.2]
        exact .cell (part_sub _ _ h) d
    · cases e
  | x n => cases e
  | s ns => cases e
theorem dq_weak {K : PySem.W.Frag} {H F : Hp} {v : V} {d : PyData} (h : Dq K H F true v d) : Dq K H F false v d := by
  cases h with
  | of h => exact .of h
  | cell a b => exact .cell a b
  | scr a _ => cases a
theorem vrep_peekR {v : Va} {u : V} {x : PyData} (R : Rel T G s σ H) (r : vrep T s G H v u) (e : peekR s v = some x) : Dq T.K H (part G.own 0 H) false u x := by
  cases v with
  | s ns =>
    cases e
    obtain ⟨a, e1, e2⟩ := r
    rw [e1]
    exact .scr rfl e2
  | d y => exact dq_weak (vrep_peek R r e)
  | c k => exact dq_weak (vrep_peek R r e)
  | b k => exact dq_weak (vrep_peek R r e)
  | x n => cases e
theorem vrep_solid {v : Va} {u : V} {x : PyData} (R : Rel T G s σ H) (r : vrep T s G H v u) (e : solid s v = some x) : Dx T.K (part G.own 0 H) u x := by
  cases v with
  | d y => cases e; exact r
  | c k =>
    simp only [solid] at e
    split at e
    · rename_i xs hk
      cases e
      have q := R.wld k _ hk
      cases q with
      | frz h =>
        rw [r.2]
        exact h
    · cases e
  | b k => cases e
  | x n => cases e
  | s ns => cases e
theorem vreps_solids {vs : List Va} {us : List V} (R : Rel T G s σ H) (r : vreps T vs s G H us) : ∀ {xs : List PyData}, solids s vs = some xs → DxAll T.K (part G.own 0 H) us xs := by
  induction r with
  | nil => intro xs e; cases e; exact .nil
  | cons a b ih =>
    intro xs e
    simp only [solids] at e
    split at e
    · rename_i x ys e1 e2
      cases e
      exact .cons (vrep_solid R a e1) (ih e2)
    · cases e
theorem vreps_peeks {vs : List Va} {us : List V} (R : Rel T G s σ H) (r : vreps T vs s G H us) : ∀ {xs : List PyData}, peeks s vs = some xs → DqAll T.K H (part G.own 0 H) us xs := by
  induction r with
  | nil => intro xs e; cases e; exact .nil
  | cons a b ih =>
    intro xs e
    simp only [peeks] at e
    split at e
    · rename_i x ys e1 e2
      cases e
      exact .cons (vrep_peekR R a e1) (ih e2)
    · cases e
/-- the end of a pure step -/
theorem pst_end {z : PyData} (R : Rel T G s σ H) (h : Po T W G H s.W.length s.B.length σ (vreps T) (dat z s) (fun _ _ _ H' us => ∃ u, us = [u] ∧ Q u H')) : Pst T.K H (part G.own 0 H) z Q := by
  intro u H' F' m1 m2 m3 m4 d
  obtain ⟨R', x⟩ := R.grow (own' := fun a => if (F' a).isSome then 0 else G.own a) m1 (fun a o e => by
    show (if (F' a).isSome then 0 else G.own a) = G.own a
    cases q : F' a with
    | none => rfl
    | some o' =>
      rcases m3 a o' q with z | z
      · exact ((part_iff.mp z).1).symm
      · rw [z] at e; cases e)
  obtain ⟨u', e, q⟩ := h _ H' [u] x R' (.cons (dp_mono (fun a o e => part_iff.mpr ⟨by simp [e], m4 a o e⟩) _ _ d) .nil)
  cases e
  exact q
/-- the end where the heap stands -/
theorem here {v : Va} {u : V} (R : Rel T G s σ H) (r : vrep T s G H v u) (h : Po T W G H s.W.length s.B.length σ (vreps T) (.ok [v] s) (fun _ _ _ H' us => ∃ u, us = [u] ∧ Q u H')) : Q u H := by
  obtain ⟨u', e, q⟩ := h G H [u] (Ext.refl _ _ _ _) R (.cons r .nil)
  cases e
  exact q
theorem hereB {α : Type} {k : α} {Q : α → Hp → Prop} (R : Rel T G s σ H) (h : Po T W G H s.W.length s.B.length σ urep (.ok k s) (fun k _ _ H' _ => Q k H')) : Q k H := h G H () (Ext.refl _ _ _ _) R trivial
/-- truth -/
theorem tru_ok' {v : Va} {u : V} {α β : Type} {rep : α → Sg → Gh → Hp → β → Prop} {j : Bool → Sg → Rs α} {K : α → Sg → Gh → Hp → β → Prop} (R : Rel T G s σ H) (r : vrep T s G H v u)
    (h : Po T W G H s.W.length s.B.length σ rep ((tru v s).bind j) K) : ∃ k, TruV T.K u H k ∧ Po T W G H s.W.length s.B.length σ rep (j k s) K ∧ tru v s = .ok k s := by
  unfold tru at h ⊢
  split at h
  · rename_i x e
    cases q : truthD x with
    | none => rw [q] at h; exact h.elim
    | some k =>
      rw [q] at h
      exact ⟨k, tru_of part_sub (vrep_peekR R r e) q, h, rfl⟩
  · exact h.elim
end

/-! ### names and constants -/
section
variable {X : Cx} {T : Tn} {W : WX} (hK : X.K = T.K)
include hK
theorem s_var {i : Nat} {x : Str} {pos : Pos} (hN : X.N[i]? = some x) (hv : Vis X.env.scope x) (hd : (x == ("__debug__" : Str)) = false) (hcd : (x == ("__classdict__" : Str)) = false) :
    PE X (.Name x pos) (tE T W fun s => match s.ρ[i]? with
      | some (some v) => .ok [v] s
      | _ => .stuck) := by
  refine pe_imp (pe_var hN hv hd hcd) fun σ H Q ⟨s, G, R, h⟩ => ?_
  try dsimp only at h
  split at h
  · rename_i v e
    obtain ⟨u, e1, r⟩ := R.slot i v e
    exact ⟨u, e1, here R r h⟩
  · exact h.elim
/-- a list that changed becomes data -/
theorem Rel.freeze {G : Gh} {s : Sg} {σ : St} {H : Hp} {k : Nat} {xs : List PyData} (R : Rel T G s σ H) (e : s.W[k]? = some (.lst xs)) :
    ∃ own', Rel T { G with own := own' } { s with W := s.W.set k (.frz xs) } σ H ∧ Ext G H s.W.length s.B.length { G with own := own' } H s.W.length s.B.length ∧ Dx T.K (part own' 0 H) (.ref (G.adr k)) (.list xs) := by
  have q := R.wld k _ e
  cases q with
  | lst h d =>
    obtain ⟨ho, hH⟩ := part_iff.mp h
    have m0 : Same (part G.own 0 H) (part (fun a => if a = G.adr k then 0 else G.own a) 0 H) := fun a o q => by
      obtain ⟨q1, q2⟩ := part_iff.mp q
      refine part_iff.mpr ⟨?_, q2⟩
      show (if a = G.adr k then 0 else G.own a) = 0
      split
      · rfl
      · exact q1
    have mo : ∀ t, t ≠ 2 * k + 2 → Same (part G.own t H) (part (fun a => if a = G.adr k then 0 else G.own a) t H) := fun t ht a o q => by
      obtain ⟨q1, q2⟩ := part_iff.mp q
      refine part_iff.mpr ⟨?_, q2⟩
      have hne : a ≠ G.adr k := fun z => ht (by rw [← q1, z]; exact ho)
      show (if a = G.adr k then 0 else G.own a) = t
      rw [if_neg hne]
      exact q1
    have dd : Dx T.K (part (fun a => if a = G.adr k then 0 else G.own a) 0 H) (.ref (G.adr k)) (.list xs) := .lst (part_iff.mpr ⟨by simp, hH⟩) (dpAll_mono m0 _ _ d)
    refine ⟨fun a => if a = G.adr k then 0 else G.own a, ⟨R.len, fun i v e' => ?_, fun i r e' => ?_, fun i r e' => ?_⟩, ⟨fun a o q t => ⟨q, ?_⟩, fun _ _ => rfl, fun _ _ => rfl, Nat.le_refl _, Nat.le_refl _⟩, dd⟩
    · obtain ⟨u, e1, q⟩ := R.slot i v e'
      exact ⟨u, e1, VRep.mono m0 (by simp) (Nat.le_refl _) (fun _ _ => rfl) (fun _ _ => rfl) q⟩
    · by_cases hi : i = k
      · subst hi
        have hlt : i < s.W.length := by
          rcases Nat.lt_or_ge i s.W.length with z | z
          · exact z
          · rw [List.getElem?_eq_none z] at e; cases e
        have : (s.W.set i (.frz xs))[i]? = some (.frz xs) := by simp [hlt]
        rw [this] at e'
        cases e'
        exact .frz dd
      · have : (s.W.set k (.frz xs))[i]? = s.W[i]? := by rw [List.getElem?_set_ne (Ne.symm hi)]
        rw [this] at e'
        exact (R.wld i r e').mono m0 (mo _ (by omega)) (Nat.le_refl _) fun _ _ => rfl
    · exact (R.bx i r e').mono m0 (mo _ (by omega)) (Nat.le_refl _) fun _ _ => rfl
    · show (if a = G.adr k then 0 else G.own a) = G.own a
      split
      · rename_i z
        rw [z, ho] at t
        omega
      · rfl
theorem s_frz {i : Nat} {x : Str} {pos : Pos} (hN : X.N[i]? = some x) (hv : Vis X.env.scope x) (hd : (x == ("__debug__" : Str)) = false) (hcd : (x == ("__classdict__" : Str)) = false) :
    PE X (.Name x pos) (tE T W fun s => match s.ρ[i]? with
      | some (some (.c k)) => match s.W[k]? with
        | some (.lst xs) => dat (.list xs) { s with W := s.W.set k (.frz xs) }
        | some (.frz xs) => dat (.list xs) s
        | _ => .stuck
      | some (some (.d x)) => dat x s
      | _ => .stuck) := by
  refine pe_imp (pe_var hN hv hd hcd) fun σ H Q ⟨s, G, R, h⟩ => ?_
  try dsimp only at h
  split at h
  · rename_i k e
    obtain ⟨u, e1, r⟩ := R.slot i _ e
    refine ⟨u, e1, ?_⟩
    try dsimp only at h
    split at h
    · rename_i xs hk
      obtain ⟨own', R', x', d⟩ := Rel.freeze hK R hk
      rw [r.2]
      obtain ⟨u', e', q⟩ := h _ H [.ref (G.adr k)] (by simpa using x') R' (.cons d .nil)
      cases e'
      exact q
    · rename_i xs hk
      have q := R.wld k _ hk
      cases q with
      | frz d =>
        rw [r.2]
        exact here (v := .d (.list xs)) R d h
    · exact h.elim
  · rename_i x e
    obtain ⟨u, e1, r⟩ := R.slot i _ e
    exact ⟨u, e1, here R r h⟩
  · exact h.elim
theorem s_int {i : Int} {j : Nat} {pos : Pos} : PE X (.Constant (.int i) j pos) (tE T W (dat (.int i))) := pe_imp pe_int fun σ H Q ⟨s, G, R, h⟩ => here (v := .d (.int i)) R (.int i) h
theorem s_bool {i : Bool} {j : Nat} {pos : Pos} : PE X (.Constant (.bool i) j pos) (tE T W (dat (.bool i))) := pe_imp pe_bl fun σ H Q ⟨s, G, R, h⟩ => here (v := .d (.bool i)) R (.bl i) h
theorem s_none {j : Nat} {pos : Pos} : PE X (.Constant .none j pos) (tE T W (dat .none)) := pe_imp pe_non fun σ H Q ⟨s, G, R, h⟩ => here (v := .d .none) R .non h
theorem s_str {i : Str} {j : Nat} {pos : Pos} : PE X (.Constant (.str i) j pos) (tE T W (dat (.str i))) := pe_imp pe_str fun σ H Q ⟨s, G, R, h⟩ => here (v := .d (.str i)) R (.str i) h
theorem s_glob {x : Str} {d : PyData} {pos : Pos} (hg : Gl X x) (hm : ∃ v u, X.mg x = some u ∧ RelV v u ∧ ∀ F, Dx T.K F v d) (hd : (x == ("__debug__" : Str)) = false) : PE X (.Name x pos) (tE T W (dat d)) := by
  obtain ⟨v, u, h1, h2, h3⟩ := hm
  exact pe_imp (pe_glob hg h1 h2 hd) fun σ H Q ⟨s, G, R, h⟩ => here (v := .d d) R (h3 _) h
theorem s_neg {a : Expr} {f : M (List Va)} {pos : Pos} (ha : PE X a (tE T W f)) : PE X (.UnaryOp .USub a pos) (tE T W fun s => one1 (f s) fun x s => match x with
    | .d (.int i) => dat (.int (-i)) s
    | _ => .stuck) := by
  refine pe_imp (pe_un un_neg ha) fun σ H Q ⟨s, G, R, h⟩ => ⟨s, G, R, h.one1.imp fun vs s1 G1 H1 us x R1 _ ⟨v, u, e1, e2, r1, h1⟩ => ⟨u, e2, ?_⟩⟩
  try dsimp only at h1
  split at h1
  · rename_i i
    cases r1
    exact ⟨i, rfl, here (v := .d (.int (-i))) R1 (.int _) h1⟩
  · exact h1.elim
theorem s_bin {o : Bo} {a b : Expr} {fa fb : M (List Va)} {pos : Pos} (ha : PE X a (tE T W fa)) (hb : PE X b (tE T W fb)) : PE X (.BinOp a (boOp o) b pos) (tE T W fun s => one1 (fa s) fun x s => one1 (fb s) fun y s => match peek s x, peek s y with
    | some u, some v => datO (binD o u v) s
    | _, _ => .stuck) := by
  refine pe_imp (pe_op (o_bin o) ha hb) fun σ H Q ⟨s, G, R, h⟩ => ⟨s, G, R, h.one1.imp fun vs s1 G1 H1 us x R1 _ ⟨v, u, e1, e2, r1, h1⟩ => ⟨u, e2, s1, G1, R1, h1.one1.imp fun vs2 s2 G2 H2 us2 x2 R2 _ ⟨v2, u2, e3, e4, r2, h2⟩ => ⟨u2, e4, ?_⟩⟩⟩
  try dsimp only at h2
  split at h2
  · rename_i p q hp hq
    cases hz : binD o p q with
    | none => rw [hz] at h2; exact h2.elim
    | some z =>
      rw [hz] at h2
      rw [hK]
      exact ⟨_, p, q, z, part_sub, vrep_peek R2 (r1.ext x2) hp, vrep_peek R2 r2 hq, hz, pst_end R2 h2⟩
  · exact h2.elim
/-- the reading of a comparison -/
theorem cmp_rd {o : Co} {fa fb : M (List Va)} {σ : St} {H : Hp} {α β : Type} {rep : α → Sg → Gh → Hp → β → Prop} {s : Sg} {G : Gh} {j : PyData → PyData → Bool → Sg → Rs α} {K : α → Sg → Gh → Hp → β → Prop} {Q : VK} (R : Rel T G s σ H)
    (h : Po T W G H s.W.length s.B.length σ rep (one1 (fa s) fun x s => one1 (fb s) fun y s => match peek s x, peek s y with
      | some u, some v => match cmpD o u v with
        | some k => j u v k s
        | none => .stuck
      | _, _ => .stuck) K)
    (hq : ∀ u v s' G' H' k, Rel T G' s' σ H' → Po T W G' H' s'.W.length s'.B.length σ rep (j u v k s') K → Q (.bl k) H') : tOp (rC X.K (cmpD o)) (tE T W fa) (tE T W fb) σ H Q := by
  refine ⟨s, G, R, h.one1.imp fun vs s1 G1 H1 us x R1 _ ⟨v, u, e1, e2, r1, h1⟩ => ⟨u, e2, s1, G1, R1, h1.one1.imp fun vs2 s2 G2 H2 us2 x2 R2 _ ⟨v2, u2, e3, e4, r2, h2⟩ => ⟨u2, e4, ?_⟩⟩⟩
  try dsimp only at h2
  split at h2
  · rename_i p q hp hq'
    try dsimp only at h2
    split at h2
    · rename_i k hz
      rw [hK]
      exact ⟨_, p, q, k, part_sub, vrep_peek R2 (r1.ext x2) hp, vrep_peek R2 r2 hq', hz, hq p q s2 G2 H2 k R2 h2⟩
    · exact h2.elim
  · exact h2.elim
theorem boolO_match (o : Option Bool) (s : Sg) : boolO o s = match o with
    | some k => dat (.bool k) s
    | none => .stuck := by cases o <;> rfl
theorem s_cmp (hu : X.A.units + 64 < cLine) {o : Co} {a b : Expr} {fa fb : M (List Va)} {pos : Pos} (ha : PE X a (tE T W fa)) (hb : PE X b (tE T W fb)) (hm : behindInMarks (coOp o) b = false) : PE X (.Compare a [coOp o] [b] pos) (tE T W fun s => one1 (fa s) fun x s => one1 (fb s) fun y s => match peek s x, peek s y with
    | some u, some v => boolO (cmpD o u v) s
    | _, _ => .stuck) := by
  refine pe_imp (pe_cmpR (o_cmp hu o) ha hb hm) fun σ H Q ⟨s, G, R, h⟩ => ?_
  simp only [boolO_match hK] at h
  exact cmp_rd hK R h fun _ _ s' G' H' k R' h' => here (v := .d (.bool k)) R' (.bl k) h'
theorem t_cmp (hu : X.A.units + 64 < cLine) {o : Co} {a b : Expr} {fa fb : M (List Va)} {pos : Pos} (ha : PE X a (tE T W fa)) (hb : PE X b (tE T W fb)) (hm : behindInMarks (coOp o) b = false) : PT X (.Compare a [coOp o] [b] pos) (tT T W fun s => one1 (one1 (fa s) fun x s => one1 (fb s) fun y s => match peek s x, peek s y with
    | some u, some v => boolO (cmpD o u v) s
    | _, _ => .stuck) tru) := by
  refine pt_imp (pt_cmpR (o_cmp hu o) ha hb hm) fun σ H Q ⟨s, G, R, h⟩ => ?_
  have e : (one1 (one1 (fa s) fun x s => one1 (fb s) fun y s => match peek s x, peek s y with
    | some u, some v => boolO (cmpD o u v) s
    | _, _ => .stuck) tru) = (one1 (fa s) fun x s => one1 (fb s) fun y s => match peek s x, peek s y with
      | some u, some v => match cmpD o u v with
        | some k => .ok k s
        | none => .stuck
      | _, _ => .stuck) := by
    rw [one1_assoc]
    congr 1
    funext x s
    rw [one1_assoc]
    congr 1
    funext y s
    split
    · rename_i u v _ _
      cases cmpD o u v <;> rfl
    · rfl
  dsimp only at h
  rw [e] at h
  show tOp (rC X.K (cmpD o)) (tE T W fa) (tE T W fb) σ H fun x H' => ∃ k, x = .bl k ∧ Q k H'
  exact cmp_rd (j := fun _ _ k s => .ok k s) hK R h fun _ _ s' G' H' k R' h' => ⟨k, rfl, hereB R' h'⟩
theorem s_isN {a : Expr} {f : M (List Va)} {pos pos' : Pos} {j : Nat} (ha : PE X a (tE T W f)) : PE X (.Compare a [.Is] [.Constant .none j pos'] pos) (tE T W fun s => one1 (f s) fun x s => dat (.bool (isNone x)) s) := by
  refine pe_imp (pe_cmp (pc_isN ha) rfl) fun σ H Q ⟨s, G, R, h⟩ => ⟨s, G, R, h.one1.imp fun vs s1 G1 H1 us x R1 _ ⟨v, u, e1, e2, r1, h1⟩ => ⟨u, e2, ?_⟩⟩
  have e : isNone v = decide (u = .non) := by
    cases v with
    | d y => cases r1 <;> rfl
    | c k => rw [r1.2]; rfl
    | b k => rw [r1.2]; rfl
    | x n => obtain ⟨a, e, _⟩ := r1; rw [e]; rfl
    | s n => obtain ⟨a, e, _⟩ := r1; rw [e]; rfl
  try dsimp only
  rw [← e]
  exact here (v := .d (.bool (isNone v))) R1 (.bl _) h1
theorem s_isNot {a : Expr} {f : M (List Va)} {pos pos' : Pos} {j : Nat} (ha : PE X a (tE T W f)) : PE X (.Compare a [.IsNot] [.Constant .none j pos'] pos) (tE T W fun s => one1 (f s) fun x s => dat (.bool (!isNone x)) s) := by
  refine pe_imp (pe_cmp (pc_notN ha) rfl) fun σ H Q ⟨s, G, R, h⟩ => ⟨s, G, R, h.one1.imp fun vs s1 G1 H1 us x R1 _ ⟨v, u, e1, e2, r1, h1⟩ => ⟨u, e2, ?_⟩⟩
  have e : isNone v = decide (u = .non) := by
    cases v with
    | d y => cases r1 <;> rfl
    | c k => rw [r1.2]; rfl
    | b k => rw [r1.2]; rfl
    | x n => obtain ⟨a, e, _⟩ := r1; rw [e]; rfl
    | s n => obtain ⟨a, e, _⟩ := r1; rw [e]; rfl
  try dsimp only
  rw [← e]
  exact here (v := .d (.bool (!isNone v))) R1 (.bl _) h1
/-- a comparison that gives a truth, as a test -/
theorem t_isN {a : Expr} {f : M (List Va)} {pos pos' : Pos} {j : Nat} (ha : PE X a (tE T W f)) : PT X (.Compare a [.Is] [.Constant .none j pos'] pos) (tT T W fun s => one1 (one1 (f s) fun x s => dat (.bool (isNone x)) s) tru) := by
  refine pt_imp (pt_cmp (pc_isN ha) rfl) fun σ H Q ⟨s, G, R, h⟩ => ?_
  dsimp only at h
  rw [one1_assoc] at h
  refine ⟨s, G, R, h.one1.imp fun vs s1 G1 H1 us x R1 _ ⟨v, u, e1, e2, r1, h1⟩ => ⟨u, e2, _, rfl, ?_⟩⟩
  have e : isNone v = decide (u = .non) := by
    cases v with
    | d y => cases r1 <;> rfl
    | c k => rw [r1.2]; rfl
    | b k => rw [r1.2]; rfl
    | x n => obtain ⟨a, e, _⟩ := r1; rw [e]; rfl
    | s n => obtain ⟨a, e, _⟩ := r1; rw [e]; rfl
  try dsimp only
  rw [← e]
  exact hereB R1 h1
theorem t_isNot {a : Expr} {f : M (List Va)} {pos pos' : Pos} {j : Nat} (ha : PE X a (tE T W f)) : PT X (.Compare a [.IsNot] [.Constant .none j pos'] pos) (tT T W fun s => one1 (one1 (f s) fun x s => dat (.bool (!isNone x)) s) tru) := by
  refine pt_imp (pt_cmp (pc_notN ha) rfl) fun σ H Q ⟨s, G, R, h⟩ => ?_
  dsimp only at h
  rw [one1_assoc] at h
  refine ⟨s, G, R, h.one1.imp fun vs s1 G1 H1 us x R1 _ ⟨v, u, e1, e2, r1, h1⟩ => ⟨u, e2, _, rfl, ?_⟩⟩
  have e : isNone v = decide (u = .non) := by
    cases v with
    | d y => cases r1 <;> rfl
    | c k => rw [r1.2]; rfl
    | b k => rw [r1.2]; rfl
    | x n => obtain ⟨a, e, _⟩ := r1; rw [e]; rfl
    | s n => obtain ⟨a, e, _⟩ := r1; rw [e]; rfl
  try dsimp only
  rw [← e]
  exact hereB R1 h1
/-- low <= x <= high: the reading -/
theorem chain_rd {o p : Co} {fa fb fc : M (List Va)} {σ : St} {H : Hp} {α β : Type} {rep : α → Sg → Gh → Hp → β → Prop} {s : Sg} {G : Gh} {j : Bool → Sg → Rs α} {K : α → Sg → Gh → Hp → β → Prop} {Q : VK} (R : Rel T G s σ H)
    (h : Po T W G H s.W.length s.B.length σ rep (one1 (fa s) fun x s => one1 (fb s) fun y s => match peek s x, peek s y with
      | some u, some v => match cmpD o u v with
        | some true => one1 (fc s) fun z s => match peek s y, peek s z with
          | some v, some w => match cmpD p v w with
            | some k => j k s
            | none => .stuck
          | _, _ => .stuck
        | some false => j false s
        | none => .stuck
      | _, _ => .stuck) K)
    (hq : ∀ s' G' H' k, Rel T G' s' σ H' → Po T W G' H' s'.W.length s'.B.length σ rep (j k s') K → Q (.bl k) H') : tChain (rC X.K (cmpD o)) (rC X.K (cmpD p)) (tE T W fa) (tE T W fb) (tE T W fc) σ H Q := by
  refine ⟨s, G, R, h.one1.imp fun vs s1 G1 H1 us x R1 _ ⟨v, u, e1, e2, r1, h1⟩ => ⟨u, e2, s1, G1, R1, h1.one1.imp fun vs2 s2 G2 H2 us2 x2 R2 _ ⟨v2, u2, e3, e4, r2, h2⟩ => ⟨u2, e4, ?_⟩⟩⟩
  try dsimp only at h2
  split at h2
  · rename_i pd qd hp hq'
    split at h2
    · rename_i hz
      rw [hK]
      refine ⟨_, pd, qd, true, part_sub, vrep_peek R2 (r1.ext x2) hp, vrep_peek R2 r2 hq', hz, true, rfl, ?_⟩
      rw [if_pos rfl]
      refine ⟨s2, G2, R2, h2.one1.imp fun vs3 s3 G3 H3 us3 x3 R3 _ ⟨v3, u3, e5, e6, r3, h3⟩ => ⟨u3, e6, ?_⟩⟩
      try dsimp only at h3
      split at h3
      · rename_i pd2 qd2 hp2 hq2
        split at h3
        · rename_i k hz2
          exact ⟨_, pd2, qd2, k, part_sub, vrep_peek R3 (r2.ext x3) hp2, vrep_peek R3 r3 hq2, hz2, hq s3 G3 H3 k R3 h3⟩
        · exact h3.elim
      · exact h3.elim
    · rename_i hz
      rw [hK]
      refine ⟨_, pd, qd, false, part_sub, vrep_peek R2 (r1.ext x2) hp, vrep_peek R2 r2 hq', hz, false, rfl, ?_⟩
      rw [if_neg Bool.false_ne_true]
      exact hq s2 G2 H2 false R2 h2
    · exact h2.elim
  · exact h2.elim
theorem s_chain (hu : X.A.units + 64 < cLine) {o p : Co} {a b c : Expr} {fa fb fc : M (List Va)} {pos : Pos} (ha : PE X a (tE T W fa)) (hb : PE X b (tE T W fb)) (hc : PE X c (tE T W fc)) (hm : lastMarks [coOp o, coOp p] [b, c] = false) : PE X (.Compare a [coOp o, coOp p] [b, c] pos) (tE T W fun s => one1 (fa s) fun x s => one1 (fb s) fun y s => match peek s x, peek s y with
    | some u, some v => match cmpD o u v with
      | some true => one1 (fc s) fun z s => match peek s y, peek s z with
        | some v, some w => boolO (cmpD p v w) s
        | _, _ => .stuck
      | some false => dat (.bool false) s
      | none => .stuck
    | _, _ => .stuck) := by
  refine pe_imp (pe_chain (o_cmp hu o) (o_cmp hu p) ha hb hc hm) fun σ H Q ⟨s, G, R, h⟩ => ?_
  simp only [boolO_match hK] at h
  exact chain_rd hK (j := fun k s => dat (.bool k) s) R h fun s' G' H' k R' h' => here (v := .d (.bool k)) R' (.bl k) h'
theorem t_chain (hu : X.A.units + 64 < cLine) {o p : Co} {a b c : Expr} {fa fb fc : M (List Va)} {pos : Pos} (ha : PE X a (tE T W fa)) (hb : PE X b (tE T W fb)) (hc : PE X c (tE T W fc)) (hm : lastMarks [coOp o, coOp p] [b, c] = false) : PT X (.Compare a [coOp o, coOp p] [b, c] pos) (tT T W fun s => one1 (one1 (fa s) fun x s => one1 (fb s) fun y s => match peek s x, peek s y with
    | some u, some v => match cmpD o u v with
      | some true => one1 (fc s) fun z s => match peek s y, peek s z with
        | some v, some w => boolO (cmpD p v w) s
        | _, _ => .stuck
      | some false => dat (.bool false) s
      | none => .stuck
    | _, _ => .stuck) tru) := by
  refine pt_imp (pt_chain (o_cmp hu o) (o_cmp hu p) ha hb hc hm) fun σ H Q ⟨s, G, R, h⟩ => ?_
  have e : (one1 (one1 (fa s) fun x s => one1 (fb s) fun y s => match peek s x, peek s y with
    | some u, some v => match cmpD o u v with
      | some true => one1 (fc s) fun z s => match peek s y, peek s z with
        | some v, some w => boolO (cmpD p v w) s
        | _, _ => .stuck
      | some false => dat (.bool false) s
      | none => .stuck
    | _, _ => .stuck) tru) = (one1 (fa s) fun x s => one1 (fb s) fun y s => match peek s x, peek s y with
      | some u, some v => match cmpD o u v with
        | some true => one1 (fc s) fun z s => match peek s y, peek s z with
          | some v, some w => match cmpD p v w with
            | some k => Rs.ok k s
            | none => .stuck
          | _, _ => .stuck
        | some false => .ok false s
        | none => .stuck
      | _, _ => .stuck) := by
    rw [one1_assoc]
    congr 1
    funext x s
    rw [one1_assoc]
    congr 1
    funext y s
    split
    · split
      · rw [one1_assoc]
        congr 1
        funext z s
        split
        · rename_i u v _ _
          cases cmpD p u v <;> rfl
        · rfl
      · rfl
      · rfl
    · rfl
  dsimp only at h
  rw [e] at h
  show tChain (rC X.K (cmpD o)) (rC X.K (cmpD p)) (tE T W fa) (tE T W fb) (tE T W fc) σ H fun x H' => ∃ k, x = .bl k ∧ Q k H'
  exact chain_rd hK (j := fun k s => .ok k s) R h fun s' G' H' k R' h' => ⟨k, rfl, hereB R' h'⟩

/-! ### and, or, not, if else -/
theorem s_and {a b : Expr} {rest : List Expr} {fa fb : M (List Va)} {pos : Pos} (ha : PE X a (tE T W fa)) (hb : PE X (.BoolOp .And (b :: rest) pos) (tE T W fb)) : PE X (.BoolOp .And (a :: b :: rest) pos) (tE T W fun s => one1 (fa s) fun x s => (tru x s).bind fun k s => if k then fb s else .ok [x] s) := by
  refine pe_imp (pe_andT ha hb) fun σ H Q ⟨s, G, R, h⟩ => ⟨s, G, R, h.one1.imp fun vs s1 G1 H1 us x R1 _ ⟨v, u, e1, e2, r1, h1⟩ => ⟨u, e2, ?_⟩⟩
  obtain ⟨k, tv, h2, _⟩ := tru_ok' R1 r1 h1
  rw [hK]
  refine ⟨k, tv, ?_⟩
  cases k with
  | true => exact ⟨s1, G1, R1, h2⟩
  | false => exact here R1 r1 h2
theorem s_or {a b : Expr} {rest : List Expr} {fa fb : M (List Va)} {pos : Pos} (ha : PE X a (tE T W fa)) (hb : PE X (.BoolOp .Or (b :: rest) pos) (tE T W fb)) : PE X (.BoolOp .Or (a :: b :: rest) pos) (tE T W fun s => one1 (fa s) fun x s => (tru x s).bind fun k s => if k then .ok [x] s else fb s) := by
  refine pe_imp (pe_orT ha hb) fun σ H Q ⟨s, G, R, h⟩ => ⟨s, G, R, h.one1.imp fun vs s1 G1 H1 us x R1 _ ⟨v, u, e1, e2, r1, h1⟩ => ⟨u, e2, ?_⟩⟩
  obtain ⟨k, tv, h2, _⟩ := tru_ok' R1 r1 h1
  rw [hK]
  refine ⟨k, tv, ?_⟩
  cases k with
  | false => exact ⟨s1, G1, R1, h2⟩
  | true => exact here R1 r1 h2
theorem s_one {op : BoolOp} {a : Expr} {fa : M (List Va)} {pos : Pos} (ha : PE X a (tE T W fa)) : PE X (.BoolOp op [a] pos) (tE T W fa) := pe_one ha
theorem s_not {a : Expr} {fa : M (List Va)} {pos : Pos} (ha : PE X a (tE T W fa)) : PE X (.UnaryOp .Not a pos) (tE T W fun s => one1 (fa s) fun x s => (tru x s).bind fun k s => dat (.bool (!k)) s) := by
  refine pe_imp (pe_notT ha) fun σ H Q ⟨s, G, R, h⟩ => ⟨s, G, R, h.one1.imp fun vs s1 G1 H1 us x R1 _ ⟨v, u, e1, e2, r1, h1⟩ => ⟨u, e2, ?_⟩⟩
  obtain ⟨k, tv, h2, _⟩ := tru_ok' R1 r1 h1
  rw [hK]
  exact ⟨k, tv, here (v := .d (.bool (!k))) R1 (.bl _) h2⟩
theorem tru_dat (k : Bool) (s : Sg) : one1 (dat (.bool k) s) tru = .ok k s := rfl
theorem bind_ok_right {α : Type} (r : Rs α) : (r.bind fun a s => .ok a s) = r := by cases r <;> rfl
theorem ite_bool (k : Bool) {α : Type} {r r' : Rs α} : (if k = true then r else r') = cond k r r' := by cases k <;> rfl
theorem tru_cases (v : Va) (s : Sg) : tru v s = .stuck ∨ ∃ k, tru v s = .ok k s := by
  unfold tru
  split
  · rename_i x _
    cases truthD x with
    | none => exact .inl rfl
    | some k => exact .inr ⟨k, rfl⟩
  · exact .inl rfl
/-- two tests in a row -/
theorem t_and_eq (fa fb : M (List Va)) (s : Sg) : one1 (one1 (fa s) fun x s => (tru x s).bind fun k s => if k then fb s else .ok [x] s) tru = (one1 (fa s) tru).bind fun k s => if k then one1 (fb s) tru else .ok false s := by
  rw [one1_assoc]
  cases fa s with
  | err c t => rfl
  | stuck => rfl
  | ok vs t =>
    match vs with
    | [] => rfl
    | _ :: _ :: _ => rfl
    | [v] =>
      show one1 ((tru v t).bind fun k s => if k then fb s else .ok [v] s) tru = (tru v t).bind fun k s => if k then one1 (fb s) tru else .ok false s
      rcases tru_cases hK v t with h | ⟨k, h⟩
      · rw [h]; rfl
      · rw [h]
        cases k with
        | true => rfl
        | false => exact h
theorem t_or_eq (fa fb : M (List Va)) (s : Sg) : one1 (one1 (fa s) fun x s => (tru x s).bind fun k s => if k then .ok [x] s else fb s) tru = (one1 (fa s) tru).bind fun k s => if k then .ok true s else one1 (fb s) tru := by
  rw [one1_assoc]
  cases fa s with
  | err c t => rfl
  | stuck => rfl
  | ok vs t =>
    match vs with
    | [] => rfl
    | _ :: _ :: _ => rfl
    | [v] =>
      show one1 ((tru v t).bind fun k s => if k then .ok [v] s else fb s) tru = (tru v t).bind fun k s => if k then .ok true s else one1 (fb s) tru
      rcases tru_cases hK v t with h | ⟨k, h⟩
      · rw [h]; rfl
      · rw [h]
        cases k with
        | false => rfl
        | true => exact h
theorem t_not_eq (fa : M (List Va)) (s : Sg) : one1 (one1 (fa s) fun x s => (tru x s).bind fun k s => dat (.bool (!k)) s) tru = (one1 (fa s) tru).bind fun k s => .ok (!k) s := by
  rw [one1_assoc]
  cases fa s with
  | err c t => rfl
  | stuck => rfl
  | ok vs t =>
    match vs with
    | [] => rfl
    | _ :: _ :: _ => rfl
    | [v] =>
      show one1 ((tru v t).bind fun k s => dat (.bool (!k)) s) tru = (tru v t).bind fun k s => .ok (!k) s
      rcases tru_cases hK v t with h | ⟨k, h⟩
      · rw [h]; rfl
      · rw [h]; rfl
theorem t_and {a b : Expr} {rest : List Expr} {fa fb : M (List Va)} {pos : Pos} (ha : PT X a (tT T W fun s => one1 (fa s) tru)) (hb : PW X (.BoolOp .And (b :: rest) pos) (tT T W fun s => one1 (fb s) tru)) : PW X (.BoolOp .And (a :: b :: rest) pos) (tT T W fun s => one1 (one1 (fa s) fun x s => (tru x s).bind fun k s => if k then fb s else .ok [x] s) tru) := by
  refine pw_imp (pw_and ha hb) fun σ H Q ⟨s, G, R, h⟩ => ?_
  dsimp only at h
  rw [t_and_eq hK] at h
  refine ⟨s, G, R, h.bind.imp fun k s1 G1 H1 _ x R1 _ h1 => ?_⟩
  have h1 := h1.2
  cases k with
  | true => exact ⟨s1, G1, R1, h1⟩
  | false => exact hereB R1 h1
theorem t_or {a b : Expr} {rest : List Expr} {fa fb : M (List Va)} {pos : Pos} (ha : PT X a (tT T W fun s => one1 (fa s) tru)) (hb : PW X (.BoolOp .Or (b :: rest) pos) (tT T W fun s => one1 (fb s) tru)) : PW X (.BoolOp .Or (a :: b :: rest) pos) (tT T W fun s => one1 (one1 (fa s) fun x s => (tru x s).bind fun k s => if k then .ok [x] s else fb s) tru) := by
  refine pw_imp (pw_or ha hb) fun σ H Q ⟨s, G, R, h⟩ => ?_
  dsimp only at h
  rw [t_or_eq hK] at h
  refine ⟨s, G, R, h.bind.imp fun k s1 G1 H1 _ x R1 _ h1 => ?_⟩
  have h1 := h1.2
  cases k with
  | false => exact ⟨s1, G1, R1, h1⟩
  | true => exact hereB R1 h1
theorem t_not {a : Expr} {fa : M (List Va)} {pos : Pos} (ha : PT X a (tT T W fun s => one1 (fa s) tru)) : PT X (.UnaryOp .Not a pos) (tT T W fun s => one1 (one1 (fa s) fun x s => (tru x s).bind fun k s => dat (.bool (!k)) s) tru) := by
  refine pt_imp (pt_not ha) fun σ H Q ⟨s, G, R, h⟩ => ?_
  dsimp only at h
  rw [t_not_eq hK] at h
  exact ⟨s, G, R, h.bind.imp fun k s1 G1 H1 _ x R1 _ h1 => hereB R1 h1.2⟩
/-- any expression by its truth -/
theorem t_truth {a : Expr} {fa : M (List Va)} (ha : PE X a (tE T W fa)) (he : ∀ whole, isTrue a X.env whole = (do let v ← whole; standAt a.pos; holding [v] (truthy v))) : PT X a (tT T W fun s => one1 (fa s) tru) := by
  refine pt_imp (pt_truth ha he) fun σ H Q ⟨s, G, R, h⟩ => ⟨s, G, R, h.one1.imp fun vs s1 G1 H1 us x R1 _ ⟨v, u, e1, e2, r1, h1⟩ => ⟨u, e2, ?_⟩⟩
  rw [← bind_ok_right (α := Bool) (hK := hK) (tru v s1)] at h1
  obtain ⟨k, tv, h2, _⟩ := tru_ok' R1 r1 h1
  rw [hK]
  exact ⟨k, tv, hereB R1 h2⟩
theorem s_if {t a b : Expr} {ft fa fb : M (List Va)} {pos : Pos} (ht : PT X t (tT T W fun s => one1 (ft s) tru)) (ha : PE X a (tE T W fa)) (hb : PE X b (tE T W fb)) : PE X (.IfExp t a b pos) (tE T W fun s => one1 (ft s) fun x s => (tru x s).bind fun k s => if k then fa s else fb s) := by
  refine pe_imp (pe_ifExp ht ha hb) fun σ H Q ⟨s, G, R, h⟩ => ?_
  have e : (one1 (ft s) fun x s => (tru x s).bind fun k s => if k then fa s else fb s) = (one1 (ft s) tru).bind fun k s => if k then fa s else fb s := by
    cases ft s with
    | ok vs t =>
      match vs with
      | [v] => rfl
      | [] => rfl
      | _ :: _ :: _ => rfl
    | err c t => rfl
    | stuck => rfl
  dsimp only at h
  rw [e] at h
  refine ⟨s, G, R, h.bind.imp fun k s1 G1 H1 _ x R1 _ h1 => ?_⟩
  have h1 := h1.2
  cases k with
  | false => exact ⟨s1, G1, R1, h1⟩
  | true => exact ⟨s1, G1, R1, h1⟩

/-! ### lists of expressions, displays -/
theorem l_nil : PA X [] (tL T W fun s => .ok [] s) := pa_imp pa_nil fun σ H Q ⟨s, G, R, h⟩ => h G H [] (Ext.refl _ _ _ _) R .nil
theorem l_cons {e : Expr} {es : List Expr} {fa fb : M (List Va)} (ha : PE X e (tE T W fa)) (hb : PA X es (tL T W fb)) (hs : starEach (e :: es) X.env = (false, eval e X.env) :: starEach es X.env) : PA X (e :: es) (tL T W fun s => one1 (fa s) fun x s => (fb s).bind fun xs s => .ok (x :: xs) s) := by
  refine pa_imp (pa_cons ha hb hs) fun σ H Q ⟨s, G, R, h⟩ => ⟨s, G, R, h.one1.imp fun vs s1 G1 H1 us x R1 _ ⟨v, u, e1, e2, r1, h1⟩ => ⟨u, e2, s1, G1, R1, (h1.bind (rep' := vreps T)).imp fun vs2 s2 G2 H2 us2 x2 R2 r2 h2 => ?_⟩⟩
  exact h2.2 G2 H2 (u :: us2) (Ext.refl _ _ _ _) R2 (.cons (r1.ext x2) r2)
theorem s_tup {es : List Expr} {f : M (List Va)} {k : Nat} {pos : Pos} (ha : PA X es (tL T W f)) : PE X (.Tuple es k pos) (tE T W fun s => (f s).bind fun vs s => match solids s vs with
    | some xs => if xs.length ≤ lim then dat (.tuple xs) s else .stuck
    | none => .stuck) := by
  refine pe_imp (pe_tup ha) fun σ H Q ⟨s, G, R, h⟩ => ⟨s, G, R, (h.bind (rep' := vreps T)).imp fun vs s1 G1 H1 us x R1 r1 h1 => ?_⟩
  have h1 := h1.2
  split at h1
  · rename_i xs e
    split at h1
    · rename_i hl
      have d := vreps_solids R1 r1 e
      exact ⟨by rw [dpAll_length d]; exact Nat.le_trans hl lim_line, (pst_end R1 h1).newT part_sub d⟩
    · exact h1.elim
  · exact h1.elim
theorem s_lst {es : List Expr} {f : M (List Va)} {pos : Pos} (ha : PA X es (tL T W f)) : PE X (.List es pos) (tE T W fun s => (f s).bind fun vs s => match solids s vs with
    | some xs => if xs.length ≤ lim then dat (.list xs) s else .stuck
    | none => .stuck) := by
  refine pe_imp (pe_lst ha) fun σ H Q ⟨s, G, R, h⟩ => ⟨s, G, R, (h.bind (rep' := vreps T)).imp fun vs s1 G1 H1 us x R1 r1 h1 => ?_⟩
  have h1 := h1.2
  split at h1
  · rename_i xs e
    split at h1
    · rename_i hl
      have d := vreps_solids R1 r1 e
      exact ⟨by rw [dpAll_length d]; exact Nat.le_trans hl lim_line, (pst_end R1 h1).newL part_sub d⟩
    · exact h1.elim
  · exact h1.elim
theorem s_idx {a b : Expr} {fa fb : M (List Va)} {pos : Pos} (ha : PE X a (tE T W fa)) (hb : PE X b (tE T W fb)) (hp : PlainIx b) : PE X (.Subscript a b pos) (tE T W fun s => one1 (fa s) fun x s => one1 (fb s) fun y s => match peekR s x, peek s y with
    | some u, some v => datO (idxD u v) s
    | _, _ => .stuck) := by
  refine pe_imp (pe_ix o_idx ha hb hp) fun σ H Q ⟨s, G, R, h⟩ => ⟨s, G, R, h.one1.imp fun vs s1 G1 H1 us x R1 _ ⟨v, u, e1, e2, r1, h1⟩ => ⟨u, e2, s1, G1, R1, h1.one1.imp fun vs2 s2 G2 H2 us2 x2 R2 _ ⟨v2, u2, e3, e4, r2, h2⟩ => ⟨u2, e4, ?_⟩⟩⟩
  try dsimp only at h2
  split at h2
  · rename_i p q hp hq
    cases hz : idxD p q with
    | none => rw [hz] at h2; exact h2.elim
    | some z =>
      rw [hz] at h2
      rw [hK]
      exact ⟨_, p, q, z, part_sub, vrep_peekR R2 (r1.ext x2) hp, vrep_peek R2 r2 hq, hz, pst_end R2 h2⟩
  · exact h2.elim
/-- a built-in function of data -/
theorem s_bf {f : List PyData → Option PyData} {id : String} {x : Str} {e : Expr} {es : List Expr} {fa : M (List Va)} {p pos : Pos} (hc : CallR X (.builtin id) (rBf X.K f)) (hg : Gl X x) (hm : X.mg x = none) (hv : bootBuiltins x = some (.builtin id)) (ha : PA X (e :: es) (tL T W fa)) (hn : x ≠ "__name__") (hdb : (x == ("__debug__" : Str)) = false)
    (hs : starEach (e :: es) X.env = (false, eval e X.env) :: starEach es X.env) (hpl : (backTo pos (starEach es X.env)).any (·.1) = false) : PE X (.Call (.Name x p) (e :: es) [] pos) (tE T W fun s => (fa s).bind fun vs s => match peeks s vs with
      | some xs => datO (f xs) s
      | none => .stuck) := by
  refine pe_imp (pe_callB hc hg hm hv ha hn hdb hs hpl) fun σ H Q ⟨s, G, R, h⟩ => ⟨s, G, R, (h.bind (rep' := vreps T)).imp fun vs s1 G1 H1 us x R1 r1 h1 => ?_⟩
  have h1 := h1.2
  split at h1
  · rename_i xs e
    cases hz : f xs with
    | none => rw [hz] at h1; exact h1.elim
    | some z =>
      rw [hz] at h1
      rw [hK]
      exact ⟨_, xs, z, part_sub, vreps_peeks R1 r1 e, hz, pst_end R1 h1⟩
  · exact h1.elim
theorem s_bfT {f : List PyData → Option PyData} {id : String} {x : Str} {e : Expr} {es : List Expr} {fa : M (List Va)} {p pos : Pos} (hc : CallR X (.type id) (rBf X.K f)) (hg : Gl X x) (hm : X.mg x = none) (hv : bootBuiltins x = some (.type id)) (ha : PA X (e :: es) (tL T W fa)) (hn : x ≠ "__name__") (hdb : (x == ("__debug__" : Str)) = false)
    (hs : starEach (e :: es) X.env = (false, eval e X.env) :: starEach es X.env) (hpl : (backTo pos (starEach es X.env)).any (·.1) = false) : PE X (.Call (.Name x p) (e :: es) [] pos) (tE T W fun s => (fa s).bind fun vs s => match peeks s vs with
      | some xs => datO (f xs) s
      | none => .stuck) := by
  refine pe_imp (pe_callTy hc hg hm hv ha hn hdb hs hpl) fun σ H Q ⟨s, G, R, h⟩ => ⟨s, G, R, (h.bind (rep' := vreps T)).imp fun vs s1 G1 H1 us x R1 r1 h1 => ?_⟩
  have h1 := h1.2
  split at h1
  · rename_i xs e
    cases hz : f xs with
    | none => rw [hz] at h1; exact h1.elim
    | some z =>
      rw [hz] at h1
      rw [hK]
      exact ⟨_, xs, z, part_sub, vreps_peeks R1 r1 e, hz, pst_end R1 h1⟩
  · exact h1.elim
end
end BC

/-! BLoop: slices, what is walked, targets, loops, comprehensions. -/
namespace BC
open PySem L2

theorem pi_imp {X : Cx} {tg e : Expr} {t t' : TI} (h : PI X tg e t) (i : ∀ σ H R, t' σ H R → t σ H R) : PI X tg e t' := ⟨fun pins s σ H R I q => h.run pins s σ H R I (i σ H R q)⟩
theorem po_imp {X : Cx} {e : Option Expr} {t t' : TO} (h : PO X e t) (i : ∀ σ H R, t' σ H R → t σ H R) : PO X e t' := ⟨fun pins s σ H R I q => h.run pins s σ H R I (i σ H R q)⟩
theorem ps_imp {X : Cx} {e : Stmt} {t t' : TS} (h : PS X e t) (i : ∀ D σ H, t' D σ H → t D σ H) : PS X e t' := ⟨fun pins s σ H D I q => h.run pins s σ H D I (i D σ H q)⟩
theorem pss_imp {X : Cx} {e : List Stmt} {t t' : TS} (h : PSs X e t) (i : ∀ D σ H, t' D σ H → t D σ H) : PSs X e t' := ⟨fun pins s σ H D I q => h.run pins s σ H D I (i D σ H q)⟩
theorem pg_imp {X : Cx} {e : Expr} {t t' : TG} (h : PG X e t) (i : ∀ v σ H Q, t' v σ H Q → t v σ H Q) : PG X e t' := ⟨fun pins s σ H v u Q I r q => h.run pins s σ H v u Q I r (i v σ H Q q)⟩

def tO (T : Tn) (W : WX) (f : M (Option Int)) : TO := fun σ H Q => ∃ s G, Rel T G s σ H ∧ Po T W G H s.W.length s.B.length σ urep (f s) (fun o _ _ H' _ => Q o H')
/-- what is walked: the items, as they stand -/
def tI (T : Tn) (W : WX) (f : M (List Va)) : TI := fun σ H R => ∃ s G, Rel T G s σ H ∧ Po T W G H s.W.length s.B.length σ (vreps T) (f s) (fun _ _ G' H' us => ∀ J, Walk J us.length (fun H2 => Same (part G'.own 0 H') H2) (YAt us) → R J H')
section
variable {X : Cx} {T : Tn} {W : WX} (hK : X.K = T.K)
include hK
theorem o_none : PO X none (tO T W fun t => .ok none t) := po_imp po_none fun σ H Q ⟨s, G, R, h⟩ => h G H () (Ext.refl _ _ _ _) R trivial
theorem o_some {e : Expr} {f : M (List Va)} (he : PE X e (tE T W f)) : PO X (some e) (tO T W fun t => one1 (f t) partI) := by
  refine po_imp (po_some he) fun σ H Q ⟨s, G, R, h⟩ => ⟨s, G, R, h.one1.imp fun vs s1 G1 H1 us x R1 _ ⟨v, u, e1, e2, r1, h1⟩ => ⟨u, e2, ?_⟩⟩
  unfold partI at h1
  split at h1
  · cases r1
    exact ⟨_, rfl, h1 G1 H1 () (Ext.refl _ _ _ _) R1 trivial⟩
  · exact h1.elim
theorem s_slice {a : Expr} {lo hi : Option Expr} {fa : M (List Va)} {fl fh : M (Option Int)} {p2 pos : Pos} (ha : PE X a (tE T W fa)) (hl : PO X lo (tO T W fl)) (hh : PO X hi (tO T W fh)) : PE X (.Subscript a (.Slice lo hi none p2) pos) (tE T W fun s => one1 (fa s) fun x s => (fl s).bind fun l s => (fh s).bind fun h s => match peek s x with
    | some u => datO (sliceD u l h) s
    | none => .stuck) := by
  refine pe_imp (pe_slice o_slice ha hl hh) fun σ H Q ⟨s, G, R, h⟩ => ⟨s, G, R, h.one1.imp fun vs s1 G1 H1 us x R1 _ ⟨v, u, e1, e2, r1, h1⟩ => ⟨u, e2, s1, G1, R1, (h1.bind (rep' := urep)).imp fun l s2 G2 H2 _ x2 R2 _ h2 => ⟨s2, G2, R2, (h2.2.bind (rep' := urep)).imp fun k s3 G3 H3 _ x3 R3 _ h3 => ?_⟩⟩⟩
  have h3 := h3.2
  split at h3
  · rename_i d e
    cases hz : sliceD d l k with
    | none => rw [hz] at h3; exact h3.elim
    | some z =>
      rw [hz] at h3
      rw [hK]
      exact ⟨_, d, z, part_sub, vrep_peek R3 ((r1.ext x2).ext x3) e, hz, pst_end R3 h3⟩
  · exact h3.elim

/-! ### what is walked -/
theorem rng_reps {i j : Int} {t : Sg} {G : Gh} {H : Hp} : vreps T (rangeL i j) t G H ((List.range (j - i).toNat).map fun (k : Nat) => V.int (i + (k : Int))) := by
  unfold rangeL
  generalize List.range (j - i).toNat = l
  induction l with
  | nil => exact .nil
  | cons b r ih => exact .cons (.int _) ih
theorem rng_walk {i j : Int} {G : Gh} {H : Hp} : Walk (Itr i (j - i).toNat) (((List.range (j - i).toNat).map fun (k : Nat) => V.int (i + (k : Int))) : List V).length (fun H2 => Same (part G.own 0 H) H2) (YAt ((List.range (j - i).toNat).map fun (k : Nat) => V.int (i + (k : Int)))) := by
  have e : (((List.range (j - i).toNat).map fun (k : Nat) => V.int (i + (k : Int))) : List V).length = (j - i).toNat := by simp
  rw [e]
  exact (walk_range (lo := i) (n := (j - i).toNat)).mono (fun _ _ => trivial) fun k H2 y H3 hi _ y' => ⟨y'.1, by rw [y'.2]; simp [hi]⟩
theorem i_rng1 (hm : X.mg "range" = none) {tg a : Expr} {fa : M (List Va)} {p pos : Pos} (hg : Gl X "range") (ha : PE X a (tE T W fa)) (hs : starEach [a] X.env = [(false, eval a X.env)]) : PI X tg (.Call (.Name "range" p) [a] [] pos) (tI T W fun s => one1 (fa s) fun x s => match x with
    | .d (.int j) => if rngOk 0 j then .ok (rangeL 0 j) s else .stuck
    | _ => .stuck) := by
  refine pi_imp (pi_range1 hg hm (pa_cons ha pa_nil hs) hs) fun σ H R' ⟨s, G, R, h⟩ => ⟨s, G, R, h.one1.imp fun vs s1 G1 H1 us x R1 _ ⟨v, u, e1, e2, r1, h1⟩ => ⟨u, e2, ?_⟩⟩
  try dsimp only at h1
  split at h1
  · rename_i j
    split at h1
    · rename_i hj
      cases r1
      have q := h1 G1 H1 _ (Ext.refl _ _ _ _) R1 (rng_reps hK) (Itr 0 (j - 0).toNat) (rng_walk hK)
      rw [Int.sub_zero] at q
      exact ⟨j, rfl, by have := hj.2.2.1; omega, by have := hj.2.2.2; omega, q⟩
    · exact h1.elim
  · exact h1.elim
theorem i_rng2 (hm : X.mg "range" = none) {tg a b : Expr} {fa fb : M (List Va)} {p pos : Pos} (hg : Gl X "range") (ha : PE X a (tE T W fa)) (hb : PE X b (tE T W fb)) (hs : starEach [a, b] X.env = [(false, eval a X.env), (false, eval b X.env)]) (hs2 : starEach [b] X.env = [(false, eval b X.env)]) : PI X tg (.Call (.Name "range" p) [a, b] [] pos) (tI T W fun s => one1 (fa s) fun x s => one1 (fb s) fun y s => match x, y with
    | .d (.int i), .d (.int j) => if rngOk i j then .ok (rangeL i j) s else .stuck
    | _, _ => .stuck) := by
  refine pi_imp (pi_range2 hg hm (pa_cons ha (pa_cons hb pa_nil hs2) (by rw [hs, hs2])) hs hs2) fun σ H R' ⟨s, G, R, h⟩ => ⟨s, G, R, h.one1.imp fun vs s1 G1 H1 us x R1 _ ⟨v, u, e1, e2, r1, h1⟩ => ⟨u, e2, s1, G1, R1, h1.one1.imp fun vs2 s2 G2 H2 us2 x2 R2 _ ⟨v2, u2, e3, e4, r2, h2⟩ => ⟨u2, e4, ?_⟩⟩⟩
  try dsimp only at h2
  split at h2
  · rename_i i j _
    split at h2
    · rename_i hj
      cases r1
      cases r2
      exact ⟨i, j, rfl, ⟨by have := hj.1; omega, by have := hj.2.1; omega, by have := hj.2.2.1; omega, by have := hj.2.2.2; omega⟩, h2 G2 H2 _ (Ext.refl _ _ _ _) R2 (rng_reps hK) (Itr i (j - i).toNat) (rng_walk hK)⟩
    · exact h2.elim
  · exact h2.elim
theorem dx_reps {s : Sg} {G : Gh} {H : Hp} : ∀ {us : List V} {xs : List PyData}, DxAll T.K (part G.own 0 H) us xs → vreps T (xs.map .d) s G H us
  | _, _, .nil => .nil
  | _, _, .cons a b => .cons a (dx_reps b)
/-- a list or a tuple of data -/
theorem i_seq {tg e : Expr} {f : M (List Va)} (he : PE X e (tE T W f)) : PI X tg e (tI T W fun s => one1 (f s) fun x s => match solid s x with
    | some (.list xs) => .ok (xs.map .d) s
    | some (.tuple xs) => .ok (xs.map .d) s
    | _ => .stuck) := by
  refine ⟨fun pins s0 σ H R' I ⟨s, G, R, h⟩ => ?_⟩
  have key : tE T W f σ H (fun x H1 => ∃ a, x = .ref a ∧ (((∃ xs, SqL X.K H1 a xs) ∧ R' (Itl X.K a) H1) ∨ ((∃ xs, SqT X.K H1 a xs) ∧ R' (Itt X.K a) H1))) := by
    refine ⟨s, G, R, h.one1.imp fun vs s1 G1 H1 us x R1 _ ⟨v, u, e1, e2, r1, h1⟩ => ⟨u, e2, ?_⟩⟩
    try dsimp only at h1
    split at h1
    · rename_i xs hx
      have d := vrep_solid R1 r1 hx
      cases d with
      | lst q da =>
        refine ⟨_, rfl, .inl ⟨⟨_, SqL.of (part_sub _ _ q)⟩, h1 G1 H1 _ (Ext.refl _ _ _ _) R1 (dx_reps hK da) _ (walk_list.mono (fun H2 m => SqL.of (m _ _ q)) fun _ _ _ _ _ _ y => y)⟩⟩
    · rename_i xs hx
      have d := vrep_solid R1 r1 hx
      cases d with
      | tup q da =>
        rw [hK]
        refine ⟨_, rfl, .inr ⟨⟨_, sqT_mono part_sub q⟩, h1 G1 H1 _ (Ext.refl _ _ _ _) R1 (dx_reps hK da) _ (walk_tup.mono (fun H2 m => sqT_mono m q) fun _ _ _ _ _ _ y => y)⟩⟩
    · exact h1.elim
  refine thn (he.run pins s0 σ H _ I key) fun v s1 hq => ?_
  obtain ⟨x, H1, I1, r1, a, ex, q⟩ := hq
  rw [ex] at r1
  have ev : v = Value.ref a := r1
  subst ev
  have fresh : ∀ b ∈ [s1.heap.objs.size], FpOk X pins H1 b := fun b hb => by
    rw [List.mem_singleton.mp hb]; exact I1.fpOk (Nat.le_refl _) (I1.hok.fresh (Nat.le_refl _))
  rcases q with ⟨⟨xs, hx⟩, q⟩ | ⟨⟨xs, hx⟩, q⟩
  · obtain ⟨its, rv, pl, hz⟩ := I1.list hx
    exact wpAny_pyIter_list pl.isList ⟨_, [_], _, Itl X.K a, H1, rfl, I1.kept (t' := s1.toks) (fun b o e => Heap.get?_push_of_some _ e), turn_list a _, ⟨_, Heap.get?_push_size _ rfl, rfl, rfl⟩, fresh, q⟩
  · obtain ⟨its, rv, pl, hz⟩ := I1.tuple hx
    exact wpAny_pyIter_tuple (show s1.heap.IsTuple a its.toArray from pl) ⟨_, [_], _, Itt X.K a, H1, rfl, I1.kept (t' := s1.toks) (fun b o e => Heap.get?_push_of_some _ e), turn_tuple a _, ⟨_, Heap.get?_push_size _ rfl, rfl, rfl⟩, fresh, q⟩
/-- a text, sign by sign -/
theorem i_str {tg e : Expr} {f : M (List Va)} (he : PE X e (tE T W f)) : PI X tg e (tI T W fun s => one1 (f s) fun x s => match x with
    | .d (.str z) => .ok (z.cps.toList.map fun c => .d (.str ⟨#[c]⟩)) s
    | _ => .stuck) := by
  refine pi_imp (pi_str he) fun σ H R' ⟨s, G, R, h⟩ => ⟨s, G, R, h.one1.imp fun vs s1 G1 H1 us x R1 _ ⟨v, u, e1, e2, r1, h1⟩ => ⟨u, e2, ?_⟩⟩
  try dsimp only at h1
  split at h1
  · rename_i z
    cases r1
    have hr : vreps T (z.cps.toList.map fun c => .d (.str ⟨#[c]⟩)) s1 G1 H1 (z.cps.toList.map fun c => V.str ⟨#[c]⟩) := by
      generalize z.cps.toList = l
      induction l with
      | nil => exact .nil
      | cons b r ih => exact .cons (.str _) ih
    refine ⟨z, rfl, h1 G1 H1 _ (Ext.refl _ _ _ _) R1 hr (Its z) ?_⟩
    have el : (z.cps.toList.map fun c => V.str ⟨#[c]⟩).length = z.cps.size := by simp
    rw [el]
    refine walk_str.mono (fun _ _ => trivial) fun i H2 y H3 hi _ ⟨y1, c, y2, y3⟩ => ⟨y1, ?_⟩
    have : z.cps.toList[i]? = some c := by rw [Array.getElem?_toList]; exact y2
    rw [y3]; simp only [List.getElem?_map, this, Option.map_some]
  · exact h1.elim

/-! ### targets -/
/-- a name that the block stores -/
structure Nm (X : Cx) (i : Nat) (x : Str) : Prop where
  ix : X.N[i]? = some x
  loc : Loc X.env.scope x
  fn : X.fn x = true ∨ X.env.scope.names.lookup x = some .local
theorem Rel.set {G : Gh} {s : Sg} {σ : St} {H : Hp} {i : Nat} {v : Va} {u : V} (R : Rel T G s σ H) (r : vrep T s G H v u) : Rel T G { s with ρ := s.ρ.set i (some v) } (σ.set i (some u)) H := by
  refine ⟨by simp [R.len], fun j w e => ?_, R.wld, R.bx⟩
  by_cases hj : i = j
  · subst hj
    have hlt : i < s.ρ.length := by
      rcases Nat.lt_or_ge i s.ρ.length with z | z
      · exact z
      · rw [List.getElem?_eq_none (by simpa using z)] at e; cases e
    have e1 : (s.ρ.set i (some v))[i]? = some (some v) := by simp [hlt]
    have e : (s.ρ.set i (some v))[i]? = some (some w) := e
    rw [e1] at e
    cases e
    have : i < σ.length := by rw [← R.len]; exact hlt
    exact ⟨u, by simp [this], r⟩
  · have e : (s.ρ.set i (some v))[j]? = some (some w) := e
    rw [List.getElem?_set_ne hj] at e
    obtain ⟨z, e1, q⟩ := R.slot j w e
    exact ⟨z, by rw [List.getElem?_set_ne hj]; exact e1, q⟩
/-- what a target stores, and what is wanted behind it -/
def gT (T : Tn) (t : Tg) : TG := fun v σ H Q => ∃ s G x, Rel T G s σ H ∧ vrep T s G H x v ∧ ∃ s', setTg t x s = some s' ∧ ∀ σ', Rel T G s' σ' H → Q σ' H
theorem g_name {i : Nat} {x : Str} {pos : Pos} (nd : X.N.Nodup) (n : Nm X i x) : PG X (.Name x pos) (gT T (.name i)) := by
  refine pg_imp (pg_name nd n.ix n.loc n.fn) fun v σ H Q ⟨s, G, y, R, r, s', e, q⟩ => ?_
  cases e
  exact q _ (Rel.set hK R r)
/-- names, one behind another -/
inductive Nms (X : Cx) : List Nat → List Expr → Prop where
  | nil : Nms X [] []
  | cons {i is x pos es} : Nm X i x → Nms X is es → Nms X (i :: is) (.Name x pos :: es)
theorem Nms.each {is : List Nat} {es : List Expr} (h : Nms X is es) : (assignEach es X.env).findIdx? (·.1) = none ∧ (assignEach es X.env).length = is.length := by
  induction h with
  | nil => exact ⟨rfl, rfl⟩
  | cons _ _ ih =>
    refine ⟨?_, by show (_ :: _).length = _; simp [ih.2]⟩
    show ((false, _) :: assignEach _ X.env).findIdx? (·.1) = none
    rw [List.findIdx?_cons]
    simp [ih.1]
def gSlots : List Nat → TGs
  | [] => gNil
  | i :: is => gCons (gName i) (gSlots is)
theorem Nms.pgs {is : List Nat} {es : List Expr} (nd : X.N.Nodup) (h : Nms X is es) : PGs X es (gSlots is) := by
  induction h with
  | nil => exact pgs_nil
  | cons n _ ih => exact pgs_cons (pg_name nd n.ix n.loc n.fn) ih (by rfl)
theorem slots_rd {G : Gh} {H : Hp} {Q : St → Hp → Prop} : ∀ {is : List Nat} {xs : List PyData} {us : List V} {s s' : Sg} {σ : St}, Rel T G s σ H → DxAll T.K (part G.own 0 H) us xs → setIs is xs s = some s' → (∀ σ', Rel T G s' σ' H → Q σ' H) → gSlots is us σ H Q
  | [], [], _, _, _, σ, R, d, e, q => by
    cases d
    cases e
    exact ⟨rfl, q σ R⟩
  | i :: is, x :: xs, _, s, s', σ, R, d, e, q => by
    cases d with
    | cons h t =>
      refine ⟨_, _, rfl, ?_⟩
      exact slots_rd (Rel.set (i := i) hK R (v := .d x) h) t e q
  | [], _ :: _, _, _, _, _, _, _, e, _ => by cases e
  | _ :: _, [], _, _, _, _, _, _, e, _ => by cases e
theorem setIs_len {is : List Nat} {xs : List PyData} {s s' : Sg} (e : setIs is xs s = some s') : xs.length = is.length := by
  induction is generalizing xs s with
  | nil => cases xs with
    | nil => rfl
    | cons _ _ => cases e
  | cons i is ih => cases xs with
    | nil => cases e
    | cons x xs =>
      have e' : setIs is xs { s with ρ := s.ρ.set i (some (.d x)) } = some s' := e
      simp [ih e']
theorem g_names {is : List Nat} {es : List Expr} {k : Nat} {pos : Pos} (hc : X.calm = true) (nd : X.N.Nodup) (h : Nms X is es) : PG X (.Tuple es k pos) (gT T (.names is)) := by
  refine pg_imp (pg_tup hc (h.pgs hK nd) (h.each hK).2 (h.each hK).1) fun v σ H Q ⟨s, G, y, R, r, s', e, q⟩ => ?_
  simp only [setTg] at e
  split at e
  · rename_i xs hx
    have d := vrep_solid R r hx
    cases d with
    | tup a da =>
      rw [hK]
      exact ⟨_, _, rfl, sqT_mono part_sub a, by rw [dpAll_length da]; exact setIs_len hK e, slots_rd hK R da e q⟩
  · cases e
theorem g_namesL {is : List Nat} {es : List Expr} {k : Nat} {pos : Pos} (hc : X.calm = true) (nd : X.N.Nodup) (h : Nms X is es) : PG X (.Tuple es k pos) (gT T (.namesL is)) := by
  refine pg_imp (pg_lst hc (h.pgs hK nd) (h.each hK).2 (h.each hK).1) fun v σ H Q ⟨s, G, y, R, r, s', e, q⟩ => ?_
  simp only [setTg] at e
  split at e
  · rename_i xs hx
    have d := vrep_solid R r hx
    cases d with
    | lst a da =>
      exact ⟨_, _, rfl, SqL.of (part_sub _ _ a), by rw [dpAll_length da]; exact setIs_len hK e, slots_rd hK R da e q⟩
  · cases e
theorem setTg_w {t : Tg} {v : Va} {s s' : Sg} (e : setTg t v s = some s') : s'.W = s.W ∧ s'.B = s.B := by
  have key : ∀ {is : List Nat} {xs : List PyData} {s s' : Sg}, setIs is xs s = some s' → s'.W = s.W ∧ s'.B = s.B := by
    intro is
    induction is with
    | nil => intro xs s s' e; cases xs <;> cases e; exact ⟨rfl, rfl⟩
    | cons i is ih => intro xs s s' e; cases xs with
      | nil => cases e
      | cons x xs =>
        have e' : setIs is xs { s with ρ := s.ρ.set i (some (.d x)) } = some s' := e
        have q := ih e'
        exact ⟨q.1, q.2⟩
  cases t with
  | name i => cases e; exact ⟨rfl, rfl⟩
  | names is => simp only [setTg] at e; split at e; exact key e; cases e
  | namesL is => simp only [setTg] at e; split at e; exact key e; cases e

/-! ### statements -/
theorem ss_nil : PSs X [] (tS T W fun s => .ok .next s) := pss_imp pss_nil fun D σ H ⟨s, G, R, h⟩ => h G H σ (Ext.refl _ _ _ _) R
theorem ss_cons {st : Stmt} {rest : List Stmt} {f g : M Fl} (h1 : PS X st (tS T W f)) (h2 : PSs X rest (tS T W g)) : PSs X (st :: rest) (tS T W fun s => (f s).bind fun k s => match k with
    | .next => g s
    | k => .ok k s) := by
  refine pss_imp (pss_cons h1 h2) fun D σ H ⟨s, G, R, h⟩ => ⟨s, G, R, h.bind.imp fun k s1 G1 H1 σ1 x R1 h1 => ?_⟩
  cases k with
  | next => exact ⟨s1, G1, R1, h1⟩
  | brk => exact h1 G1 H1 σ1 (Ext.refl _ _ _ _) R1
  | cont => exact h1 G1 H1 σ1 (Ext.refl _ _ _ _) R1
  | ret v => exact h1 G1 H1 σ1 (Ext.refl _ _ _ _) R1
theorem st_pass {pos : Pos} : PS X (.Pass pos) (tS T W fun s => .ok .next s) := ps_imp ps_pass fun D σ H ⟨s, G, R, h⟩ => h G H σ (Ext.refl _ _ _ _) R
theorem st_brk {pos : Pos} : PS X (.Break pos) (tS T W fun s => .ok .brk s) := ps_imp ps_break fun D σ H ⟨s, G, R, h⟩ => h G H σ (Ext.refl _ _ _ _) R
theorem st_cont {pos : Pos} : PS X (.Continue pos) (tS T W fun s => .ok .cont s) := ps_imp ps_continue fun D σ H ⟨s, G, R, h⟩ => h G H σ (Ext.refl _ _ _ _) R
theorem st_retN {pos : Pos} : PS X (.Return none pos) (tS T W fun s => .ok (.ret (.d .none)) s) := ps_imp ps_retN fun D σ H ⟨s, G, R, h⟩ => h G H σ (Ext.refl _ _ _ _) R .non .non
theorem st_ret {e : Expr} {f : M (List Va)} {pos : Pos} (he : PE X e (tE T W f)) : PS X (.Return (some e) pos) (tS T W fun s => one1 (f s) fun v s => .ok (.ret v) s) := by
  refine ps_imp (ps_ret he) fun D σ H ⟨s, G, R, h⟩ => ⟨s, G, R, (h.one1 (σ := σ)).imp fun vs s1 G1 H1 us x R1 _ ⟨v, u, e1, e2, r1, h1⟩ => ⟨u, e2, ?_⟩⟩
  exact h1 G1 H1 σ (Ext.refl _ _ _ _) R1 u r1
theorem st_drop {e : Expr} {f : M (List Va)} {pos : Pos} (he : PE X e (tE T W f)) (hs : swapsWith e none pos.line X.env = pure false) : PS X (.Expr e pos) (tS T W fun s => one1 (f s) fun _ s => .ok .next s) := by
  refine ps_imp (ps_expr he hs) fun D σ H ⟨s, G, R, h⟩ => ⟨s, G, R, (h.one1 (σ := σ)).imp fun vs s1 G1 H1 us x R1 _ ⟨v, u, e1, e2, r1, h1⟩ => ⟨u, e2, ?_⟩⟩
  exact h1 G1 H1 σ (Ext.refl _ _ _ _) R1
theorem st_if {c : Expr} {a b : List Stmt} {fc : M (List Va)} {fa fb : M Fl} {pos : Pos} (hc : PT X c (tT T W fun s => one1 (fc s) tru)) (ha : PSs X a (tS T W fa)) (hb : PSs X b (tS T W fb)) : PS X (.If c a b pos) (tS T W fun s => one1 (fc s) fun x s => (tru x s).bind fun k s => if k then fa s else fb s) := by
  refine ps_imp (ps_if hc ha hb) fun D σ H ⟨s, G, R, h⟩ => ?_
  have e : (one1 (fc s) fun x s => (tru x s).bind fun k s => if k then fa s else fb s) = (one1 (fc s) tru).bind fun k s => if k then fa s else fb s := by
    cases fc s with
    | ok vs t =>
      match vs with
      | [v] => rfl
      | [] => rfl
      | _ :: _ :: _ => rfl
    | err c t => rfl
    | stuck => rfl
  dsimp only at h
  rw [e] at h
  refine ⟨s, G, R, (h.bindP (σ := σ) (rep' := urep)).imp fun k s1 G1 H1 _ x R1 _ h1 => ?_⟩
  have h1 := h1.2
  cases k with
  | false => exact ⟨s1, G1, R1, h1⟩
  | true => exact ⟨s1, G1, R1, h1⟩
theorem st_asg {t : Tg} {tg e : Expr} {f : M (List Va)} {pos : Pos} (he : PE X e (tE T W f)) (hg : PG X tg (gT T t)) (hs : swapsWithSole [tg] e pos.line X.env = pure false) (hw : swappedStores [tg] e X.env = pure none)
    (h1 : (assignEach [tg] X.env).map (·.2) = [assign tg X.env]) : PS X (.Assign [tg] e pos) (tS T W fun s => one1 (f s) fun v s => match setTg t v s with
      | some s => .ok .next s
      | none => .stuck) := by
  refine ps_imp (ps_asg he hg hs hw h1) fun D σ H ⟨s, G, R, h⟩ => ⟨s, G, R, (h.one1 (σ := σ)).imp fun vs s1 G1 H1 us x R1 _ ⟨v, u, e1, e2, r1, h1⟩ => ⟨u, e2, s1, G1, v, R1, r1, ?_⟩⟩
  try dsimp only at h1
  split at h1
  · rename_i s2 e
    refine ⟨s2, e, fun σ' R2 => h1 G1 H1 σ' ?_ R2⟩
    obtain ⟨w1, w2⟩ := setTg_w hK e
    rw [w1, w2]
    exact Ext.refl _ _ _ _
  · exact h1.elim
theorem st_set {i : Nat} {x : Str} {e : Expr} {f : M (List Va)} {pos pos' : Pos} (nd : X.N.Nodup) (n : Nm X i x) (he : PE X e (tE T W f)) (hs : swapsWith e (some (.Name x pos')) pos.line X.env = pure false) : PS X (.Assign [.Name x pos'] e pos) (tS T W fun s => one1 (f s) fun v s => match setTg (.name i) v s with
      | some s => .ok .next s
      | none => .stuck) := by
  refine ps_imp (ps_set nd n.ix n.loc he hs n.fn) fun D σ H ⟨s, G, R, h⟩ => ⟨s, G, R, (h.one1 (σ := σ)).imp fun vs s1 G1 H1 us x R1 _ ⟨v, u, e1, e2, r1, h1⟩ => ⟨u, e2, ?_⟩⟩
  exact h1 G1 H1 _ (Ext.refl _ _ _ _) (Rel.set hK R1 r1)

/-! ### loops -/
/-- one turn of a loop -/
theorem turn_rd {f : M Fl} {s : Sg} {G : Gh} {H : Hp} {n m : Nat} {r : List Va} {step : Va → Sg → Rs Fl} {D : Ends} {N : St → Hp → Prop} {k : Sg → Rs Fl}
    (h : PoS T W G H n m (match f s with
      | .ok .next s' => k s'
      | .ok .cont s' => k s'
      | .ok .brk s' => .ok .next s'
      | .ok (.ret x) s' => .ok (.ret x) s'
      | .err c s' => .err c s'
      | .stuck => .stuck) (DK T D)) (hN : ∀ s' G' H' σ', Ext G H n m G' H' s'.W.length s'.B.length → Rel T G' s' σ' H' → PoS T W G H n m (k s') (DK T D) → N σ' H') :
    PoS T W G H n m (f s) (DK T { D with nx := N, ct := N, bk := D.nx }) := by
  cases q : f s with
  | ok fl s' =>
    rw [q] at h
    cases fl with
    | next => exact fun G' H' σ' x R => hN s' G' H' σ' x R h
    | cont => exact fun G' H' σ' x R => hN s' G' H' σ' x R h
    | brk => exact fun G' H' σ' x R => h G' H' σ' x R
    | ret v => exact fun G' H' σ' x R => h G' H' σ' x R
  | err c s' => rw [q] at h; exact h
  | stuck => rw [q] at h; exact h
theorem st_for {t : Tg} {tg iter : Expr} {body : List Stmt} {fs : M (List Va)} {fb : M Fl} {pos : Pos} (hp : PassesOwn (model X.prog X.w) X.A X.env X.xe) (hc : X.calm = true) (hi : PI X tg iter (tI T W fs)) (hg : PG X tg (gT T t)) (hb : PSs X body (tS T W fb))
    (hs : ∀ x, foldedSetIterable iter X.env x = pure x) : PS X (.For tg iter body [] pos) (tS T W fun s => (fs s).bind fun items s => loopL (fun v s => match setTg t v s with
      | some s => fb s
      | none => .stuck) items s) := by
  refine ps_imp (ps_for hp hc hi hg hb hs) fun D σ H ⟨s, G, R, h⟩ => ⟨s, G, R, (h.bindP (σ := σ) (rep' := vreps T)).imp fun items s1 G1 H1 us x R1 r1 h1 => ?_⟩
  have h1 := h1.2
  intro J wk
  have hl : items.length = us.length := r1.length
  refine for_it wk (fun i σ' H' => ∃ s' G', Rel T G' s' σ' H' ∧ Ext G1 H1 s1.W.length s1.B.length G' H' s'.W.length s'.B.length ∧ PoS T W G' H' s'.W.length s'.B.length (loopL (fun v s => match setTg t v s with
      | some s => fb s
      | none => .stuck) (items.drop i) s') (DK T D)) ⟨s1, G1, R1, Ext.refl _ _ _ _, by simpa using h1⟩ (fun i σ' H' _ ⟨s', G', R', x', _⟩ => x'.data.trans part_sub) ?_ ?_
  · rintro i v σ' H' H'' hlt ⟨s', G', R', x', p⟩ ⟨rfl, hv⟩
    have hlt' : i < items.length := by omega
    rw [List.drop_eq_getElem_cons hlt'] at p
    obtain ⟨u, e1, e2⟩ : ∃ u, us[i]? = some u ∧ vrep T s1 G1 H1 items[i] u := by
      have aux : ∀ {vs : List Va} {us : List V} (k : Nat) (hk : k < vs.length), vreps T vs s1 G1 H1 us → ∃ u, us[k]? = some u ∧ vrep T s1 G1 H1 vs[k] u := by
        intro vs us k hk q
        induction q generalizing k with
        | nil => simp at hk
        | cons a b ih =>
          cases k with
          | zero => exact ⟨_, rfl, a⟩
          | succ k =>
            obtain ⟨u, q1, q2⟩ := ih k (by simpa using hk)
            exact ⟨u, by simpa using q1, by simpa using q2⟩
      exact aux i hlt' r1
    rw [hv] at e1
    cases e1
    have e3 : vrep T s' G' H'' items[i] v := e2.ext x'
    simp only [loopL] at p
    cases e : setTg t items[i] s' with
    | none =>
      rw [e] at p
      exact p.elim
    | some s2 =>
      rw [e] at p
      dsimp only at p
      refine ⟨s', G', items[i], R', e3, s2, e, fun σ2 R2 => ?_⟩
      obtain ⟨w1, w2⟩ := setTg_w hK e
      have p := turn_rd hK (r := []) (step := fun _ _ => .stuck) (N := fun σ3 H3 => ∃ s3 G3, Rel T G3 s3 σ3 H3 ∧ Ext G1 H1 s1.W.length s1.B.length G3 H3 s3.W.length s3.B.length ∧ PoS T W G3 H3 s3.W.length s3.B.length (loopL (fun v s => match setTg t v s with
        | some s => fb s
        | none => .stuck) (items.drop (i + 1)) s3) (DK T D)) p fun s3 G3 H3 σ3 x3 R3 p3 => ⟨s3, G3, R3, x'.trans x3, p3.ext x3⟩
      refine ⟨s2, G', R2, ?_⟩
      rw [w1, w2]
      exact p
  · rintro σ' H' ⟨s', G', R', x', p⟩
    rw [← hl, List.drop_length] at p
    exact p G' H' σ' (Ext.refl _ _ _ _) R'
theorem st_while {k : Nat} {c : Expr} {body : List Stmt} {fc : M (List Va)} {fb : M Fl} {pos : Pos} (hp : PassesOwn (model X.prog X.w) X.A X.env X.xe) (hc : PT X c (tT T W fun s => one1 (fc s) tru)) (hb : PSs X body (tS T W fb)) : PS X (.While c body [] pos) (tS T W fun s => whileL (fun s => one1 (fc s) tru) fb k s) := by
  refine ps_imp (ps_while hp hc hb) fun D σ H ⟨s, G, R, h⟩ => ?_
  refine ⟨fun m σ' H' => ∃ s' G', Rel T G' s' σ' H' ∧ PoS T W G' H' s'.W.length s'.B.length (whileL (fun s => one1 (fc s) tru) fb m s') (DK T D), ⟨k, s, G, R, h⟩, ?_⟩
  rintro m σ' H' ⟨s', G', R', p⟩
  cases m with
  | zero => exact p.elim
  | succ m =>
    refine ⟨s', G', R', (PoS.bindP (σ := σ') (rep' := urep) p).imp fun b s1 G1 H1 _ x R1 _ h1 => ?_⟩
    have h1 := h1.2
    cases b with
    | false => exact h1 G1 H1 σ' (Ext.refl _ _ _ _) R1
    | true =>
      dsimp only at h1 ⊢
      rw [if_pos rfl]
      rw [if_pos rfl] at h1
      refine ⟨fun σ2 H2 => ∃ s2 G2, Rel T G2 s2 σ2 H2 ∧ PoS T W G2 H2 s2.W.length s2.B.length (whileL (fun s => one1 (fc s) tru) fb m s2) (DK T D), fun σ2 H2 q => ⟨m, Nat.lt_succ_self _, q⟩, s1, G1, R1, ?_⟩
      exact turn_rd hK (r := []) (step := fun _ _ => .stuck) h1 fun s3 G3 H3 σ3 x3 R3 p3 => ⟨s3, G3, R3, p3.ext x3⟩

/-! ### comprehensions -/
theorem wipeR_some {ρ : List (Option Va)} {i : Nat} {x : Va} : ∀ {vs : List Nat}, (wipeR ρ vs)[i]? = some (some x) → ρ[i]? = some (some x) ∧ i ∉ vs
  | [], h => ⟨h, by simp⟩
  | v :: vs, h => by
    have h : ((wipeR ρ vs).set v none)[i]? = some (some x) := h
    by_cases hi : v = i
    · subst hi
      by_cases hv : v < (wipeR ρ vs).length
      · rw [List.getElem?_set_self hv] at h; cases h
      · rw [List.getElem?_eq_none (by simpa using hv)] at h; cases h
    · rw [List.getElem?_set_ne hi] at h
      obtain ⟨h1, h2⟩ := wipeR_some h
      exact ⟨h1, by simp only [List.mem_cons, not_or]; exact ⟨fun e => hi e.symm, h2⟩⟩
theorem wipeR_len (ρ : List (Option Va)) : ∀ vs : List Nat, (wipeR ρ vs).length = ρ.length
  | [] => rfl
  | v :: vs => by show ((wipeR ρ vs).set v none).length = _; rw [List.length_set, wipeR_len ρ vs]
theorem Rel.wiped {G : Gh} {s : Sg} {σ : St} {H : Hp} (R : Rel T G s σ H) (own : List Nat) : Rel T G { s with ρ := wipeR s.ρ own } (wipe σ own) H := by
  refine ⟨by rw [wipe_length]; show (wipeR s.ρ own).length = _; rw [wipeR_len hK]; exact R.len, fun i v e => ?_, R.wld, R.bx⟩
  obtain ⟨e1, e2⟩ := wipeR_some hK e
  obtain ⟨u, q1, q2⟩ := R.slot i v e1
  exact ⟨u, by rw [wipe_out e2]; exact q1, q2⟩
theorem Rel.slots {G G' : Gh} {s t : Sg} {σ σ' : St} {H H' : Hp} (R : Rel T G s σ H) (R' : Rel T G' t σ' H') (x : Ext G H s.W.length s.B.length G' H' t.W.length t.B.length) : Rel T G' { t with ρ := s.ρ } σ H' := by
  refine ⟨R.len, fun i v e => ?_, R'.wld, R'.bx⟩
  obtain ⟨u, q1, q2⟩ := R.slot i v e
  exact ⟨u, q1, q2.ext x⟩
theorem Rel.retag {G : Gh} {s : Sg} {σ : St} {H : Hp} {D : Addr} (R : Rel T G s σ H) (h : G.own D = 1) : Rel T { G with own := fun a => if a = D then 0 else G.own a } s σ H := by
  have m : ∀ t, t ≠ 1 → Same (part G.own t H) (part (fun a => if a = D then 0 else G.own a) t H) := fun t ht a o q => by
    obtain ⟨q1, q2⟩ := part_iff.mp q
    refine part_iff.mpr ⟨?_, q2⟩
    have : a ≠ D := fun z => ht (by rw [← q1, z]; exact h)
    show (if a = D then 0 else G.own a) = t
    rw [if_neg this]; exact q1
  refine ⟨R.len, fun i v e => ?_, fun k r e => ?_, fun k r e => ?_⟩
  · obtain ⟨u, q1, q2⟩ := R.slot i v e
    exact ⟨u, q1, VRep.mono (m 0 (by decide)) (Nat.le_refl _) (Nat.le_refl _) (fun _ _ => rfl) (fun _ _ => rfl) q2⟩
  · exact (R.wld k r e).mono (m 0 (by decide)) (m _ (by omega)) (Nat.le_refl _) fun _ _ => rfl
  · exact (R.bx k r e).mono (m 0 (by decide)) (m _ (by omega)) (Nat.le_refl _) fun _ _ => rfl
/-- the list that a comprehension has made -/
def crep (T : Tn) (G : Gh) (H : Hp) : List Va → Sg → Gh → Hp → Addr × List V → Prop := fun vs s' G' H' b => H' b.1 = some (.lst b.2) ∧ G'.own b.1 = 1 ∧ (∀ o, H b.1 = some o → 2 ≤ G.own b.1) ∧ vreps T vs s' G' H' b.2
theorem wipeR_get (ρ : List (Option Va)) (k : Nat) : ∀ vs : List Nat, (wipeR ρ vs)[k]? = if k ∈ vs then (if k < ρ.length then some none else none) else ρ[k]?
  | [] => by simp [wipeR]
  | v :: vs => by
    show ((wipeR ρ vs).set v none)[k]? = _
    have l := wipeR_len hK ρ vs
    by_cases hv : v = k
    · subst hv
      rw [if_pos List.mem_cons_self]
      by_cases hlt : v < ρ.length
      · rw [List.getElem?_set_self (by omega), if_pos hlt]
      · rw [List.getElem?_eq_none (by simp; omega), if_neg hlt]
    · rw [List.getElem?_set_ne hv, wipeR_get ρ k vs]
      by_cases hm : k ∈ vs
      · rw [if_pos hm, if_pos (List.mem_cons_of_mem _ hm)]
      · rw [if_neg hm, if_neg (by simp only [List.mem_cons, not_or]; exact ⟨fun z => hv z.symm, hm⟩)]
theorem wipe_get (σ : St) (k : Nat) : ∀ vs : List Nat, (wipe σ vs)[k]? = if k ∈ vs then (if k < σ.length then some none else none) else σ[k]?
  | [] => by simp [wipe]
  | v :: vs => by
    show ((wipe σ vs).set v none)[k]? = _
    have l := wipe_length σ vs
    by_cases hv : v = k
    · subst hv
      rw [if_pos List.mem_cons_self]
      by_cases hlt : v < σ.length
      · rw [List.getElem?_set_self (by omega), if_pos hlt]
      · rw [List.getElem?_eq_none (by simp; omega), if_neg hlt]
    · rw [List.getElem?_set_ne hv, wipe_get σ k vs]
      by_cases hm : k ∈ vs
      · rw [if_pos hm, if_pos (List.mem_cons_of_mem _ hm)]
      · rw [if_neg hm, if_neg (by simp only [List.mem_cons, not_or]; exact ⟨fun z => hv z.symm, hm⟩)]
theorem wipeR_set {ρ : List (Option Va)} {i : Nat} {y : Option Va} {own : List Nat} (hi : i ∈ own) : wipeR (ρ.set i y) own = wipeR ρ own := by
  apply List.ext_getElem?
  intro k
  rw [wipeR_get hK, wipeR_get hK, List.length_set]
  by_cases hk : k ∈ own
  · rw [if_pos hk, if_pos hk]
  · have hne : i ≠ k := fun z => hk (by rw [← z]; exact hi)
    rw [if_neg hk, if_neg hk, List.getElem?_set_ne hne]
theorem wipe_set {ρ : St} {i : Nat} {y : Option V} {own : List Nat} (hi : i ∈ own) : wipe (ρ.set i y) own = wipe ρ own := by
  apply List.ext_getElem?
  intro k
  rw [wipe_get hK, wipe_get hK, List.length_set]
  by_cases hk : k ∈ own
  · rw [if_pos hk, if_pos hk]
  · have hne : i ≠ k := fun z => hk (by rw [← z]; exact hi)
    rw [if_neg hk, if_neg hk, List.getElem?_set_ne hne]
theorem slots_rd2 {G : Gh} {H : Hp} {own : List Nat} {Q : St → Hp → Prop} : ∀ {is : List Nat} {xs : List PyData} {us : List V} {s s' : Sg} {σ : St}, (∀ i ∈ is, i ∈ own) → Rel T G s σ H → DxAll T.K (part G.own 0 H) us xs → setIs is xs s = some s' → (∀ σ', Rel T G s' σ' H → wipe σ' own = wipe σ own → wipeR s'.ρ own = wipeR s.ρ own → Q σ' H) → gSlots is us σ H Q
  | [], [], _, _, _, σ, _, R, d, e, q => by
    cases d
    cases e
    exact ⟨rfl, q σ R rfl rfl⟩
  | i :: is, x :: xs, _, s, s', σ, sub, R, d, e, q => by
    cases d with
    | cons h t =>
      refine ⟨_, _, rfl, ?_⟩
      refine slots_rd2 (fun k hk => sub k (List.mem_cons_of_mem _ hk)) (Rel.set (i := i) hK R (v := .d x) h) t e fun σ' R' w1 w2 => q σ' R' ?_ ?_
      · rw [w1, wipe_set hK (sub i List.mem_cons_self)]
      · rw [w2, wipeR_set hK (sub i List.mem_cons_self)]
  | [], _ :: _, _, _, _, _, _, _, _, e, _ => by cases e
  | _ :: _, [], _, _, _, _, _, _, _, e, _ => by cases e
/-- the reading of a block's own target -/
def gOf (K : PySem.W.Frag) : List Nat → TG
  | [i] => gName i
  | is => gTup K is.length (gSlots is)
theorem gOf_rd {tg own : List Nat} (sub : ∀ i ∈ tg, i ∈ own) {G : Gh} {H : Hp} {Q : St → Hp → Prop} {v : Va} {u : V} {s s' : Sg} {σ : St} (R : Rel T G s σ H) (r : vrep T s G H v u) (e : setTg (tgOf tg) v s = some s')
    (q : ∀ σ', Rel T G s' σ' H → wipe σ' own = wipe σ own → wipeR s'.ρ own = wipeR s.ρ own → Q σ' H) : gOf X.K tg u σ H Q := by
  have many : ∀ is : List Nat, (∀ i ∈ is, i ∈ own) → (match solid s v with
    | some (.tuple xs) => setIs is xs s
    | _ => none) = some s' → gTup X.K is.length (gSlots is) u σ H Q := by
    intro is sub e
    split at e
    · rename_i xs hx
      have d := vrep_solid R r hx
      cases d with
      | tup a da =>
        rw [hK]
        exact ⟨_, _, rfl, sqT_mono part_sub a, by rw [dpAll_length da]; exact setIs_len hK e, slots_rd2 hK sub R da e q⟩
    · cases e
  match tg, e with
  | [i], e =>
    cases e
    exact q _ (Rel.set hK R r) (wipe_set hK (sub i List.mem_cons_self)) (wipeR_set hK (sub i List.mem_cons_self))
  | [], e => exact many [] sub e
  | i :: j :: r, e => exact many (i :: j :: r) sub e
theorem g_of {tg : List Nat} {e : Expr} (hc : X.calm = true) (nd : X.N.Nodup) (h : (∃ i x pos, tg = [i] ∧ e = .Name x pos ∧ Nm X i x) ∨ (∃ es k pos, tg.length ≠ 1 ∧ e = .Tuple es k pos ∧ Nms X tg es)) : PG X e (gOf X.K tg) := by
  rcases h with ⟨i, x, pos, rfl, rfl, n⟩ | ⟨es, k, pos, hl, rfl, n⟩
  · exact pg_name nd n.ix n.loc n.fn
  · have e : gOf X.K tg = gTup X.K tg.length (gSlots tg) := by
      match tg, hl with
      | [], _ => rfl
      | [i], hl => exact absurd rfl hl
      | _ :: _ :: _, _ => rfl
    rw [e]
    exact pg_tup hc (n.pgs hK nd) (n.each hK).2 (n.each hK).1
theorem vreps_at {s : Sg} {G : Gh} {H : Hp} {vs : List Va} {us : List V} : ∀ (k : Nat) (hk : k < vs.length), vreps T vs s G H us → ∃ u, us[k]? = some u ∧ vrep T s G H vs[k] u := by
  intro k hk q
  induction q generalizing k with
  | nil => simp at hk
  | cons a b ih =>
    cases k with
    | zero => exact ⟨_, rfl, a⟩
    | succ k =>
      obtain ⟨u, q1, q2⟩ := ih k (by simpa using hk)
      exact ⟨u, by simpa using q1, by simpa using q2⟩
theorem vreps_snoc {s : Sg} {G : Gh} {H : Hp} {vs : List Va} {us : List V} {v : Va} {u : V} (h : vreps T vs s G H us) (r : vrep T s G H v u) : vreps T (vs ++ [v]) s G H (us ++ [u]) := by
  induction h with
  | nil => exact .cons r .nil
  | cons a _ ih => exact .cons a ih
theorem wipe_twice (σ : St) (own : List Nat) : wipe (wipe σ own) own = wipe σ own := by
  apply List.ext_getElem?
  intro k
  rw [wipe_get hK, wipe_get hK, wipe_length]
  by_cases hk : k ∈ own
  · rw [if_pos hk, if_pos hk]
  · rw [if_neg hk, if_neg hk]
theorem Rel.upd1 {G : Gh} {s : Sg} {σ : St} {H : Hp} {D : Addr} {o : HO} (R : Rel T G s σ H) (h : G.own D = 1) : Rel T G s σ (upd H D o) := by
  have m : ∀ t, t ≠ 1 → Same (part G.own t H) (part G.own t (upd H D o)) := fun t ht a o' q => by
    obtain ⟨q1, q2⟩ := part_iff.mp q
    have : a ≠ D := fun z => ht (by rw [← q1, z]; exact h)
    exact part_iff.mpr ⟨q1, by rw [upd_ne this]; exact q2⟩
  refine ⟨R.len, fun i v e => ?_, fun k r e => ?_, fun k r e => ?_⟩
  · obtain ⟨u, q1, q2⟩ := R.slot i v e
    exact ⟨u, q1, VRep.mono (m 0 (by decide)) (Nat.le_refl _) (Nat.le_refl _) (fun _ _ => rfl) (fun _ _ => rfl) q2⟩
  · exact (R.wld k r e).mono (m 0 (by decide)) (m _ (by omega)) (Nat.le_refl _) fun _ _ => rfl
  · exact (R.bx k r e).mono (m 0 (by decide)) (m _ (by omega)) (Nat.le_refl _) fun _ _ => rfl
theorem vreps_upd1 {s : Sg} {G : Gh} {H : Hp} {D : Addr} {o : HO} (h : G.own D = 1) {vs : List Va} {us : List V} (r : vreps T vs s G H us) : vreps T vs s G (upd H D o) us := by
  have m : Same (part G.own 0 H) (part G.own 0 (upd H D o)) := fun a o' q => by
    obtain ⟨q1, q2⟩ := part_iff.mp q
    have : a ≠ D := fun z => by rw [z, h] at q1; cases q1
    exact part_iff.mpr ⟨q1, by rw [upd_ne this]; exact q2⟩
  exact Paired.mapP r fun _ _ => VRep.mono m (Nat.le_refl _) (Nat.le_refl _) (fun _ _ => rfl) (fun _ _ => rfl)
/-- a comprehension: the reading -/
theorem c_rd {fs : M (List Va)} {fc : M Bool} {fe : M (List Va)} {tg own : List Nat} (sub : ∀ i ∈ tg, i ∈ own) {σ : St} {H : Hp} {Q : VK} {s : Sg} {G : Gh} (R : Rel T G s σ H)
    (h : Po T W G H s.W.length s.B.length σ (crep T G H) (compM fs tg own fc fe s) (fun _ _ _ H' b => Q (.ref b.1) H')) : tLc (tI T W fs) (gOf X.K tg) (tT T (fun _ _ _ _ => False) fc) (tE T (fun _ _ _ _ => False) fe) own σ H Q := by
  refine ⟨s, G, R, ?_⟩
  unfold compM at h
  refine (h.bind (rep' := vreps T)).imp fun items s1 G1 H1 us x1 R1 r1 h1 => ?_
  have r1 := h1.1
  have h1 := h1.2
  intro J wk D hD
  have hl : items.length = us.length := r1.length
  have k0 : ∀ a o, H1 a = some o → (fun a => if a = D then 1 else G1.own a) a = G1.own a := fun a o e => by
    show (if a = D then 1 else G1.own a) = G1.own a
    rw [if_neg (ne_of_none e hD)]
  obtain ⟨R0, x0⟩ := R1.grow (own' := fun a => if a = D then 1 else G1.own a) (same_upd (o := .lst []) hD) k0
  have own0 : ∀ o, H D = some o → 2 ≤ G.own D := fun o e => by
    rcases Nat.lt_or_ge (G.own D) 2 with z | z
    · have := (x1.keep D o e (by omega)).1
      rw [hD] at this; cases this
    · exact z
  let turn : Va → Sg → Rs (Option Va) := fun v t => match setTg (tgOf tg) v { t with ρ := wipeR s1.ρ own } with
      | some t1 => (fc t1).bind fun b t2 => if b then one1 (fe t2) fun y t3 => .ok (some y) t3 else .ok none t2
      | none => .stuck
  refine lc_it wk (fun i H' => ∃ t G' σt acc ac, Rel T G' t σt H' ∧ Ext G1 H1 s1.W.length s1.B.length G' H' t.W.length t.B.length ∧ H' D = some (.lst acc) ∧ G'.own D = 1 ∧ vreps T ac t G' H' acc ∧
      Po T W G1 H1 s1.W.length s1.B.length σ (crep T G H) ((compL turn (items.drop i) ac t).bind fun vs t => .ok vs { t with ρ := s1.ρ }) (fun _ _ _ H' b => Q (.ref b.1) H'))
    ⟨s1, _, σ, [], [], R0, x0, upd_same, by simp, .nil, h1⟩ (fun i H' _ ⟨t, G', σt, acc, ac, R', x', _⟩ => x'.data.trans part_sub) ?_ ?_
  · rintro i v H' H'' hlt ⟨t, G', σt, acc, ac, R', x', hacc, hown, hr, p⟩ ⟨rfl, hv⟩
    have hlt' : i < items.length := by omega
    rw [List.drop_eq_getElem_cons hlt'] at p
    obtain ⟨u, e1, e2⟩ := vreps_at hK i hlt' r1
    rw [hv] at e1
    cases e1
    have e3 : vrep T t G' H'' items[i] v := e2.ext x'
    have Rw : Rel T G' { t with ρ := wipeR s1.ρ own } (wipe σ own) H'' := (Rel.slots hK R1 R' x').wiped hK own
    simp only [compL] at p
    cases e : setTg (tgOf tg) items[i] { t with ρ := wipeR s1.ρ own } with
    | none =>
      have et : turn items[i] t = .stuck := by show (match setTg (tgOf tg) items[i] { t with ρ := wipeR s1.ρ own } with | some t1 => _ | none => _) = _; rw [e]
      rw [et] at p
      exact p.elim
    | some t1 =>
      have et : turn items[i] t = (fc t1).bind fun b t2 => if b then one1 (fe t2) fun y t3 => .ok (some y) t3 else .ok none t2 := by show (match setTg (tgOf tg) items[i] { t with ρ := wipeR s1.ρ own } with | some t1 => _ | none => _) = _; rw [e]
      rw [et] at p
      obtain ⟨l1, l2⟩ := setTg_w hK e
      have l1 : t1.W = t.W := l1
      have l2 : t1.B = t.B := l2
      refine gOf_rd hK sub Rw e3 e fun σ2 R2 w1 w2 => ⟨w1.trans (wipe_twice hK σ own), t1, G', R2, ?_⟩
      cases ec : fc t1 with
      | err c t2 => rw [ec] at p; exact p.elim
      | stuck => rw [ec] at p; exact p.elim
      | ok b t2 =>
        rw [ec] at p
        intro G2 H2 _ x2 R2' _
        rw [l1, l2] at x2
        cases b with
        | false =>
          show ∃ t G' σt acc ac, _
          have hD2 := x2.keep D _ hacc (by omega)
          exact ⟨t2, G2, σ2, acc, ac, R2', x'.trans x2, hD2.1, hD2.2.trans hown, VReps.ext x2 hr, p⟩
        | true =>
          show tE T _ fe σ2 H2 _
          refine ⟨t2, G2, R2', ?_⟩
          have p : Po T W G1 H1 s1.W.length s1.B.length σ (crep T G H) ((match one1 (fe t2) fun y t3 => Rs.ok (some y) t3 with
            | .ok (some y) s' => if ac.length < lim then compL turn (items.drop (i + 1)) (ac ++ [y]) s' else .stuck
            | .ok none s' => compL turn (items.drop (i + 1)) ac s'
            | _ => .stuck).bind fun vs t => .ok vs { t with ρ := s1.ρ }) (fun _ _ _ H' b => Q (.ref b.1) H') := p
          cases ee : fe t2 with
          | err c t3 => rw [ee] at p; exact p.elim
          | stuck => rw [ee] at p; exact p.elim
          | ok ys t3 =>
            rw [ee] at p
            match ys, p with
            | [], p => exact p.elim
            | _ :: _ :: _, p => exact p.elim
            | [y], p =>
              intro G3 H3 us3 x3 R3 q3
              cases q3 with
              | cons q3 q4 =>
                cases q4
                rename_i w
                refine ⟨w, rfl, acc, ?_⟩
                have xx := x2.trans x3
                have hD3 := xx.keep D _ hacc (by omega)
                have p : Po T W G1 H1 s1.W.length s1.B.length σ (crep T G H) ((if ac.length < lim then compL turn (items.drop (i + 1)) (ac ++ [y]) t3 else .stuck).bind fun vs t => .ok vs { t with ρ := s1.ρ }) (fun _ _ _ H' b => Q (.ref b.1) H') := p
                by_cases hz : ac.length < lim
                · rw [if_pos hz] at p
                  refine ⟨hD3.1, by rw [← hr.length]; exact Nat.lt_of_lt_of_le hz lim_line, t3, G3, σ2, acc ++ [w], ac ++ [y], Rel.upd1 hK R3 (hD3.2.trans hown), ?_, upd_same, hD3.2.trans hown, vreps_upd1 hK (hD3.2.trans hown) (vreps_snoc hK (VReps.ext xx hr) q3), p⟩
                  have x4 := x'.trans xx
                  refine ⟨fun a o e t => ?_, x4.adr, x4.bdr, x4.nc, x4.nb⟩
                  rw [upd_ne (ne_of_none e hD)]
                  exact x4.keep a o e t
                · rw [if_neg hz] at p
                  exact p.elim
  · rintro H' ⟨t, G', σt, acc, ac, R', x', hacc, hown, hr, p⟩
    rw [← hl, List.drop_length] at p
    exact p G' H' (D, acc) x' (Rel.slots hK R1 R' x') ⟨hacc, hown, own0, hr⟩
/-- the list as data -/
theorem comp_data {f : M (List Va)} {σ : St} {H : Hp} {s : Sg} {G : Gh} {K : List Va → Sg → Gh → Hp → List V → Prop} (h : Po T W G H s.W.length s.B.length σ (vreps T) ((f s).bind fun vs s => match solids s vs with
      | some xs => dat (.list xs) s
      | none => .stuck) K) : Po T W G H s.W.length s.B.length σ (crep T G H) (f s) (fun vs s' G' H' b => ∃ G'' x, K [.d x] s' G'' H' [.ref b.1] ∧ Rel T G'' s' σ H' ∧ Ext G H s.W.length s.B.length G'' H' s'.W.length s'.B.length) := by
  cases q : f s with
  | err c t => rw [q] at h; exact h
  | stuck => rw [q] at h; exact h
  | ok vs t =>
    rw [q] at h
    rintro G' H' ⟨D, us⟩ x R' ⟨h1, h2, h3, h4⟩
    have h : Po T W G H s.W.length s.B.length σ (vreps T) (match solids t vs with
      | some xs => dat (.list xs) t
      | none => .stuck) K := h
    split at h
    · rename_i xs e
      have R2 := Rel.retag hK R' h2
      have x2 : Ext G H s.W.length s.B.length { G' with own := fun a => if a = D then 0 else G'.own a } H' t.W.length t.B.length := by
        refine ⟨fun a o e1 e2 => ?_, x.adr, x.bdr, x.nc, x.nb⟩
        have hne : a ≠ D := fun z => by
          rw [z] at e1 e2
          have q : 2 ≤ G.own D := h3 o e1
          omega
        obtain ⟨k1, k2⟩ := x.keep a o e1 e2
        refine ⟨k1, ?_⟩
        show (if a = D then 0 else G'.own a) = _
        rw [if_neg hne]; exact k2
      have m : Same (part G'.own 0 H') (part (fun a => if a = D then 0 else G'.own a) 0 H') := fun a o q => by
        obtain ⟨q1, q2⟩ := part_iff.mp q
        have hne : a ≠ D := fun z => by rw [z, h2] at q1; cases q1
        exact part_iff.mpr ⟨by show (if a = D then 0 else G'.own a) = 0; rw [if_neg hne]; exact q1, q2⟩
      have d : Dx T.K (part (fun a => if a = D then 0 else G'.own a) 0 H') (.ref D) (.list xs) := .lst (part_iff.mpr ⟨by simp, h1⟩) (dpAll_mono m _ _ (vreps_solids R' h4 e))
      exact ⟨_, .list xs, h _ H' [.ref D] x2 R2 (.cons d .nil), R2, x2⟩
    · exact h.elim
/-- [elt for tg in iter if ..] as data -/
theorem s_comp {elt tge iter : Expr} {ifs : List Expr} {scope : Scope} {ownp : List (Str × Nat)} {pos : Pos} {fs : M (List Va)} {fc : M Bool} {fe : M (List Va)} {tg : List Nat} (sub : ∀ i ∈ tg, i ∈ ownp.map (·.2)) (hc : X.calm = true) (hN : X.N.Nodup) (hi : PI X tge iter (tI T W fs)) (ok : BlkOk X.N X.env.scope scope ownp)
    (hg : ∀ (s : Shared) (H : Hp) (C : Addr) (cl : List (Str × Addr)) (fp : List Addr), PG (X.blk s H scope (compEnvC scope cl C X.env) fp) tge (gOf X.K tg)) (ht : ∀ (s : Shared) (H : Hp) (C : Addr) (cl : List (Str × Addr)) (fp : List Addr), PTs (X.blk s H scope (compEnvC scope cl C X.env) fp) ifs (tT T (fun _ _ _ _ => False) fc))
    (he : ∀ (s : Shared) (H : Hp) (C : Addr) (cl : List (Str × Addr)) (fp : List Addr), PE (X.blk s H scope (compEnvC scope cl C X.env) fp) elt (tE T (fun _ _ _ _ => False) fe)) (hs : ∀ x, foldedSetIterable iter X.env x = pure x) :
    PE X (.ListComp elt [⟨tge, iter, ifs, 0⟩] scope pos) (tE T W fun s => (compM fs tg (ownp.map (·.2)) fc fe s).bind fun vs s => match solids s vs with
      | some xs => dat (.list xs) s
      | none => .stuck) := by
  refine pe_imp (pe_lc hc hN hi ok hg ht he hs) fun σ H Q ⟨s, G, R, h⟩ => c_rd hK sub R ((comp_data hK h).imp fun vs s' G' H' b x R' r q => ?_)
  obtain ⟨G'', y, ⟨u, e, q⟩, _, _⟩ := q
  cases e
  exact q
/-- name = [..] on one line -/
theorem st_comp {i : Nat} {y : Str} {py : Pos} {elt tge iter : Expr} {ifs : List Expr} {scope : Scope} {ownp : List (Str × Nat)} {pos spos : Pos} {fs : M (List Va)} {fc : M Bool} {fe : M (List Va)} {tg : List Nat} (sub : ∀ i ∈ tg, i ∈ ownp.map (·.2)) (hc : X.calm = true) (hN : X.N.Nodup) (hy : X.N[i]? = some y) (hyl : X.env.scope.names.lookup y = some .local)
    (hsw : swapsWith (.ListComp elt [⟨tge, iter, ifs, 0⟩] scope pos) (some (.Name y py)) spos.line X.env = pure true) (hi : PI X tge iter (tI T W fs)) (ok : BlkOk X.N X.env.scope scope ownp)
    (hg : ∀ (s : Shared) (H : Hp) (C : Addr) (cl : List (Str × Addr)) (fp : List Addr), PG (X.blk s H scope (compEnvC scope cl C X.env) fp) tge (gOf X.K tg)) (ht : ∀ (s : Shared) (H : Hp) (C : Addr) (cl : List (Str × Addr)) (fp : List Addr), PTs (X.blk s H scope (compEnvC scope cl C X.env) fp) ifs (tT T (fun _ _ _ _ => False) fc))
    (he : ∀ (s : Shared) (H : Hp) (C : Addr) (cl : List (Str × Addr)) (fp : List Addr), PE (X.blk s H scope (compEnvC scope cl C X.env) fp) elt (tE T (fun _ _ _ _ => False) fe)) (hs : ∀ x, foldedSetIterable iter X.env x = pure x) :
    PS X (.Assign [.Name y py] (.ListComp elt [⟨tge, iter, ifs, 0⟩] scope pos) spos) (tS T W fun s => one1 ((compM fs tg (ownp.map (·.2)) fc fe s).bind fun vs s => match solids s vs with
      | some xs => dat (.list xs) s
      | none => .stuck) fun v s => match setTg (.name i) v s with
        | some s => .ok .next s
        | none => .stuck) := by
  refine ps_imp (ps_setLc hc hN hy hyl hsw hi ok hg ht he hs) fun D σ H ⟨s, G, R, h⟩ => ?_
  refine c_rd hK (Q := fun x H1 => gName i x σ H1 D.nx) sub R ((comp_data hK (h.one1 (σ := σ))).imp fun vs s' G' H' b x R' r q => ?_)
  obtain ⟨G'', y, ⟨v, u, e1, e2, r, q⟩, R2, x2⟩ := q
  cases e1
  cases e2
  exact q G'' H' _ (Ext.refl _ _ _ _) (Rel.set hK R2 r)
end
end BC

/-! BStm: lists that change, raise, isinstance. -/
namespace BC
open PySem L2
section
variable {X : Cx} {T : Tn} {W : WX} (hK : X.K = T.K)
include hK
/-- a new cell -/
theorem Rel.alloc {G : Gh} {s : Sg} {σ : St} {H H' : Hp} {p : Addr} {own' : Addr → Nat} {r : Re} (R : Rel T G s σ H) (m : Same H H') (k : ∀ a o, H a = some o → own' a = G.own a) (hr : ResAt T (part own' 0 H') z0 0 p r (part own' (2 * s.W.length + 2) H')) :
    Rel T { G with own := own', adr := fun j => if j = s.W.length then p else G.adr j } { s with W := s.W ++ [r] } σ H' ∧ Ext G H s.W.length s.B.length { G with own := own', adr := fun j => if j = s.W.length then p else G.adr j } H' (s.W ++ [r]).length s.B.length := by
  have pm : ∀ t, Same (part G.own t H) (part own' t H') := fun t a o h => by
    obtain ⟨e, q⟩ := part_iff.mp h
    exact part_iff.mpr ⟨(k a o q).trans e, m a o q⟩
  have ea : ∀ j, j < s.W.length → (if j = s.W.length then p else G.adr j) = G.adr j := fun j hj => if_neg (by omega)
  refine ⟨⟨R.len, fun i v e => ?_, fun i r' e => ?_, fun i r' e => ?_⟩, ⟨fun a o h _ => ⟨m a o h, k a o h⟩, ea, fun _ _ => rfl, by simp, Nat.le_refl _⟩⟩
  · obtain ⟨u, e1, q⟩ := R.slot i v e
    exact ⟨u, e1, VRep.mono (pm 0) (by simp) (Nat.le_refl _) ea (fun _ _ => rfl) q⟩
  · have e : (s.W ++ [r])[i]? = some r' := e
    by_cases hi : i < s.W.length
    · rw [List.getElem?_append_left hi] at e
      show ResAt T _ _ _ (if i = s.W.length then p else G.adr i) r' _
      rw [ea i hi]
      exact (R.wld i r' e).mono (pm 0) (pm _) (Nat.le_refl _) fun _ _ => rfl
    · have hi2 : i = s.W.length := by
        rcases Nat.lt_or_ge i (s.W ++ [r]).length with z | z
        · simp at z; omega
        · rw [List.getElem?_eq_none z] at e; cases e
      subst hi2
      rw [List.getElem?_append_right (Nat.le_refl _), Nat.sub_self] at e
      cases e
      show ResAt T _ _ _ (if s.W.length = s.W.length then p else G.adr s.W.length) r _
      rw [if_pos rfl]
      exact hr
  · exact (R.bx i r' e).mono (pm 0) (pm _) (Nat.le_refl _) fun _ _ => rfl
theorem Rel.allocL {G : Gh} {s : Sg} {σ : St} {H : Hp} {p : Addr} {us : List V} {xs : List PyData} (R : Rel T G s σ H) (hp : H p = none) (d : DxAll T.K (part G.own 0 H) us xs) :
    ∃ G', Rel T G' { s with W := s.W ++ [.lst xs] } σ (upd H p (.lst us)) ∧ Ext G H s.W.length s.B.length G' (upd H p (.lst us)) (s.W ++ [Re.lst xs]).length s.B.length ∧ G'.adr s.W.length = p := by
  have k0 : ∀ a o, H a = some o → (fun a => if a = p then 2 * s.W.length + 2 else G.own a) a = G.own a := fun a o e => by
    show (if a = p then _ else G.own a) = G.own a
    rw [if_neg (ne_of_none e hp)]
  have m : Same (part G.own 0 H) (part (fun a => if a = p then 2 * s.W.length + 2 else G.own a) 0 (upd H p (.lst us))) := fun a o h => by
    obtain ⟨e, q⟩ := part_iff.mp h
    exact part_iff.mpr ⟨(k0 a o q).trans e, same_upd hp a o q⟩
  obtain ⟨R', x⟩ := Rel.alloc hK R (same_upd (o := .lst us) hp) k0 (r := .lst xs) (p := p) (.lst (part_iff.mpr ⟨by simp, upd_same⟩) (dpAll_mono m _ _ d))
  exact ⟨_, R', x, by simp⟩
/-- a list that changes has other items -/
theorem Rel.setL {G : Gh} {s : Sg} {σ : St} {H : Hp} {k : Nat} {xs ys : List PyData} {us : List V} (R : Rel T G s σ H) (e : s.W[k]? = some (.lst xs)) (d : DxAll T.K (part G.own 0 H) us ys) :
    Rel T G { s with W := s.W.set k (.lst ys) } σ (upd H (G.adr k) (.lst us)) ∧ Ext G H s.W.length s.B.length G (upd H (G.adr k) (.lst us)) (s.W.set k (.lst ys)).length s.B.length := by
  have q := R.wld k _ e
  cases q with
  | lst h d0 =>
    obtain ⟨ho, hH⟩ := part_iff.mp h
    have m : ∀ t, t ≠ 2 * k + 2 → Same (part G.own t H) (part G.own t (upd H (G.adr k) (.lst us))) := fun t ht a o q => by
      obtain ⟨q1, q2⟩ := part_iff.mp q
      have hne : a ≠ G.adr k := fun z => ht (by rw [← q1, z]; exact ho)
      exact part_iff.mpr ⟨q1, by rw [upd_ne hne]; exact q2⟩
    refine ⟨⟨R.len, fun i v e' => ?_, fun i r e' => ?_, fun i r e' => ?_⟩, ⟨fun a o q t => ?_, fun _ _ => rfl, fun _ _ => rfl, by simp, Nat.le_refl _⟩⟩
    · obtain ⟨u, e1, q⟩ := R.slot i v e'
      exact ⟨u, e1, VRep.mono (m 0 (by omega)) (by simp) (Nat.le_refl _) (fun _ _ => rfl) (fun _ _ => rfl) q⟩
    · have e' : (s.W.set k (.lst ys))[i]? = some r := e'
      by_cases hi : i = k
      · subst hi
        have hlt : i < s.W.length := by
          rcases Nat.lt_or_ge i s.W.length with z | z
          · exact z
          · rw [List.getElem?_eq_none z] at e; cases e
        rw [List.getElem?_set_self hlt] at e'
        cases e'
        exact .lst (part_iff.mpr ⟨ho, upd_same⟩) (dpAll_mono (m 0 (by omega)) _ _ d)
      · rw [List.getElem?_set_ne (Ne.symm hi)] at e'
        exact (R.wld i r e').mono (m 0 (by omega)) (m _ (by omega)) (Nat.le_refl _) fun _ _ => rfl
    · exact (R.bx i r e').mono (m 0 (by omega)) (m _ (by omega)) (Nat.le_refl _) fun _ _ => rfl
    · have hne : a ≠ G.adr k := fun z => by rw [z, ho] at t; omega
      exact ⟨by rw [upd_ne hne]; exact q, rfl⟩
theorem cell_at {G : Gh} {s : Sg} {σ : St} {H : Hp} {k : Nat} {xs : List PyData} (R : Rel T G s σ H) (e : s.W[k]? = some (.lst xs)) : ∃ us, H (G.adr k) = some (.lst us) ∧ DxAll T.K (part G.own 0 H) us xs := by
  have q := R.wld k _ e
  cases q with
  | lst h d => exact ⟨_, (part_iff.mp h).2, d⟩
theorem st_newL {i : Nat} {x : Str} {es : List Expr} {f : M (List Va)} {pos pos' pos2 : Pos} (nd : X.N.Nodup) (n : Nm X i x) (ha : PA X es (tL T W f)) : PS X (.Assign [.Name x pos'] (.List es pos2) pos) (tS T W fun s => (f s).bind fun vs s => match solids s vs with
    | some xs => if xs.length ≤ lim then .ok .next { s with ρ := s.ρ.set i (some (.c s.W.length)), W := s.W ++ [.lst xs] } else .stuck
    | none => .stuck) := by
  refine ps_imp (ps_set nd n.ix n.loc (pe_lst ha) (by rfl) n.fn) fun D σ H ⟨s, G, R, h⟩ => ⟨s, G, R, (h.bindP (σ := σ) (rep' := vreps T)).imp fun vs s1 G1 H1 us x R1 r1 h1 => ?_⟩
  have h1 := h1.2
  split at h1
  · rename_i xs e
    split at h1
    · rename_i hl
      have d := vreps_solids R1 r1 e
      refine ⟨by rw [dpAll_length d]; exact Nat.le_trans hl lim_line, fun p hp => ?_⟩
      obtain ⟨G', R2, x2, ea⟩ := Rel.allocL hK R1 hp d
      exact h1 G' _ _ x2 (Rel.set (i := i) hK R2 (v := .c s1.W.length) ⟨by simp, by rw [ea]⟩)
    · exact h1.elim
  · exact h1.elim
theorem st_newR {i : Nat} {x : Str} {a b : Expr} {fa fb : M (List Va)} {pos pos' pos2 pos3 : Pos} (nd : X.N.Nodup) (n : Nm X i x) (ha : PE X a (tE T W fa)) (hb : PE X b (tE T W fb)) (hs : starEach [a] X.env = (false, eval a X.env) :: starEach [] X.env) : PS X (.Assign [.Name x pos'] (.BinOp (.List [a] pos2) .Mult b pos3) pos) (tS T W fun s => one1 (fa s) fun v s => match solid s v with
    | some x => one1 (fb s) fun w s => match w with
      | .d (.int k) => match mulD (.list [x]) (.int k) with
        | some (.list xs) => .ok .next { s with ρ := s.ρ.set i (some (.c s.W.length)), W := s.W ++ [.lst xs] }
        | _ => .stuck
      | _ => .stuck
    | none => .stuck) := by
  refine ps_imp (ps_set nd n.ix n.loc (pe_op op_rep (pe_lst (pa_cons ha pa_nil hs)) hb) (by rfl) n.fn) fun D σ H ⟨s, G, R, h⟩ => ⟨s, G, R, (h.one1 (σ := σ)).imp fun vs s1 G1 H1 us x R1 _ ⟨v, u, e1, e2, r1, h1⟩ => ⟨u, e2, ?_⟩⟩
  try dsimp only at h1
  split at h1
  · rename_i y ey
    refine ⟨by show 1 ≤ sizeLine; rw [sizeLine_eq]; decide, fun p hp => ?_⟩
    -- the short list is nobody's
    have k0 : ∀ a o, H1 a = some o → (fun a => if a = p then 1 else G1.own a) a = G1.own a := fun a o e => by
      show (if a = p then 1 else G1.own a) = G1.own a
      rw [if_neg (ne_of_none e hp)]
    obtain ⟨R0, x0⟩ := R1.grow (own' := fun a => if a = p then 1 else G1.own a) (same_upd (o := .lst [u]) hp) k0
    have dy := dp_mono x0.data _ _ (vrep_solid R1 r1 ey)
    refine ⟨s1, _, R0, ((h1.ext x0).one1 (σ := σ)).imp fun vs2 s2 G2 H2 us2 x2 R2 _ ⟨w, u2, e3, e4, r2, h2⟩ => ⟨u2, e4, ?_⟩⟩
    try dsimp only at h2
    split at h2
    · rename_i k
      cases r2
      simp only [mulD] at h2
      split at h2
      · rename_i xs em
        split at em
        · rename_i hl
          cases em
          obtain ⟨hp2, _⟩ := x2.keep p _ upd_same (by simp)
          have d : DxAll T.K (part G2.own 0 H2) [u] [y] := .cons (dp_mono x2.data _ _ dy) .nil
          refine ⟨p, k, [u], rfl, rfl, hp2, hl.1, hl.2.1, Nat.le_trans hl.2.2 lim_line, fun q hq => ?_⟩
          obtain ⟨G', R3, x3, ea⟩ := Rel.allocL hK R2 hq (dpAll_rep d _)
          exact h2 G' _ _ x3 (Rel.set (i := i) hK R3 (v := .c s2.W.length) ⟨by simp, by rw [ea]⟩)
        · cases em
      · exact h2.elim
    · exact h2.elim
  · exact h1.elim
/-- x = a + b, lists -/
theorem st_newC {i : Nat} {x : Str} {a b : Expr} {fa fb : M (List Va)} {pos pos' pos3 : Pos} (nd : X.N.Nodup) (n : Nm X i x) (ha : PE X a (tE T W fa)) (hb : PE X b (tE T W fb)) : PS X (.Assign [.Name x pos'] (.BinOp a .Add b pos3) pos) (tS T W fun s => one1 (fa s) fun v s => one1 (fb s) fun w s => match peek s v, peek s w with
    | some (.list x), some (.list y) => match addD (.list x) (.list y) with
      | some (.list xs) => .ok .next { s with ρ := s.ρ.set i (some (.c s.W.length)), W := s.W ++ [.lst xs] }
      | _ => .stuck
    | _, _ => .stuck) := by
  refine ps_imp (ps_set nd n.ix n.loc (pe_op op_cat ha hb) (by rfl) n.fn) fun D σ H ⟨s, G, R, h⟩ => ⟨s, G, R, (h.one1 (σ := σ)).imp fun vs s1 G1 H1 us x R1 _ ⟨v, u, e1, e2, r1, h1⟩ => ⟨u, e2, s1, G1, R1, (h1.one1 (σ := σ)).imp fun vs2 s2 G2 H2 us2 x2 R2 _ ⟨v2, u2, e3, e4, r2, h2⟩ => ⟨u2, e4, ?_⟩⟩⟩
  try dsimp only at h2
  split at h2
  · rename_i l1 l2 k1 k2
    obtain ⟨p, us1, eu1, hp1, d1⟩ := dq_lst part_sub (vrep_peek R2 (r1.ext x2) k1)
    obtain ⟨q, us2', eu2, hp2, d2⟩ := dq_lst part_sub (vrep_peek R2 r2 k2)
    simp only [addD] at h2
    split at h2
    · rename_i xs em
      split at em
      · rename_i hl
        cases em
        refine ⟨p, q, us1, us2', eu1, eu2, hp1, hp2, by rw [dpAll_length d1, dpAll_length d2]; exact Nat.le_trans hl lim_line, fun z hz => ?_⟩
        obtain ⟨G', R3, x3, ea⟩ := Rel.allocL hK R2 hz (dpAll_append d1 d2)
        exact h2 G' _ _ x3 (Rel.set (i := i) hK R3 (v := .c s2.W.length) ⟨by simp, by rw [ea]⟩)
      · cases em
    · exact h2.elim
  · exact h2.elim
theorem lstAt_some {s : Sg} {i k : Nat} (e : lstAt s i = some k) : s.ρ[i]? = some (some (.c k)) ∧ ∃ xs, s.W[k]? = some (.lst xs) := by
  unfold lstAt at e
  split at e
  · rename_i k' e1
    split at e
    · rename_i xs e2
      cases e
      exact ⟨e1, xs, e2⟩
    · cases e
  · cases e
/-- x.append(e) -/
theorem st_app {i : Nat} {x : Str} {e : Expr} {f : M (List Va)} {pos p1 p2 p3 : Pos} (hN : X.N[i]? = some x) (hv : Vis X.env.scope x) (hd : (x == ("__debug__" : Str)) = false) (hcd : (x == ("__classdict__" : Str)) = false) (he : PE X e (tE T W f)) (hline : (p2.endLine == p3.line) = true)
    (hs : starEach [e] X.env = (false, eval e X.env) :: starEach [] X.env) : PS X (.Expr (.Call (.Attribute (.Name x p1) "append" p2) [e] [] p3) pos) (tS T W fun s => match lstAt s i with
      | some k => one1 (f s) fun v s => match s.W[k]?, solid s v with
        | some (.lst xs), some x => if xs.length < lim then .ok .next { s with W := s.W.set k (.lst (xs ++ [x])) } else .stuck
        | _, _ => .stuck
      | none => .stuck) := by
  have ha : PA X [e] (tCons (tE T W f) tNil) := pa_cons he pa_nil hs
  refine ps_imp (ps_expr (pe_bm PySem.F.plainAttrs_list PySem.F.slot_list_append PySem.F.type_list_append mt_append (pe_var hN hv hd hcd) ha (by rfl) (by rw [hs]; rfl) hline hs (by rfl)) (by rfl)) fun D σ H ⟨s, G, R, h⟩ => ?_
  dsimp only at h
  split at h
  · rename_i k ek
    obtain ⟨e1, xs0, e2⟩ := lstAt_some hK ek
    obtain ⟨u, q1, q2⟩ := R.slot i _ e1
    obtain ⟨us0, c1, c2⟩ := cell_at hK R e2
    refine ⟨u, q1, ?_⟩
    rw [q2.2]
    refine ⟨.inl ⟨rfl, us0, SqL.of c1⟩, s, G, R, (h.one1 (σ := σ)).imp fun vs s1 G1 H1 us y R1 _ ⟨v, w, e3, e4, r1, h1⟩ => ⟨w, e4, ?_⟩⟩
    try dsimp only at h1
    split at h1
    · rename_i xs y' ew es
      split at h1
      · rename_i hl
        obtain ⟨us1, c3, c4⟩ := cell_at hK R1 ew
        have ea : G1.adr k = G.adr k := y.adr k q2.1
        obtain ⟨R2, x2⟩ := Rel.setL hK R1 ew (dpAll_append c4 (.cons (vrep_solid R1 r1 es) .nil))
        rw [← ea]
        exact ⟨_, us1, w, rfl, rfl, c3, by rw [dpAll_length c4]; exact Nat.lt_of_lt_of_le hl lim_line, h1 _ _ _ x2 R2⟩
      · exact h1.elim
    · exact h1.elim
  · exact h.elim
/-- x.extend(e) -/
theorem st_ext {i : Nat} {x : Str} {e : Expr} {f : M (List Va)} {pos p1 p2 p3 : Pos} (hN : X.N[i]? = some x) (hv : Vis X.env.scope x) (hd : (x == ("__debug__" : Str)) = false) (hcd : (x == ("__classdict__" : Str)) = false) (he : PE X e (tE T W f)) (hline : (p2.endLine == p3.line) = true)
    (hs : starEach [e] X.env = (false, eval e X.env) :: starEach [] X.env) : PS X (.Expr (.Call (.Attribute (.Name x p1) "extend" p2) [e] [] p3) pos) (tS T W fun s => match lstAt s i with
      | some k => one1 (f s) fun v s => match s.W[k]?, solid s v with
        | some (.lst xs), some (.list ys) => if xs.length + ys.length ≤ lim then .ok .next { s with W := s.W.set k (.lst (xs ++ ys)) } else .stuck
        | _, _ => .stuck
      | none => .stuck) := by
  have ha : PA X [e] (tCons (tE T W f) tNil) := pa_cons he pa_nil hs
  refine ps_imp (ps_expr (pe_bm PySem.F.plainAttrs_list PySem.F.slot_list_extend PySem.F.type_list_extend mt_extend (pe_var hN hv hd hcd) ha (by rfl) (by rw [hs]; rfl) hline hs (by rfl)) (by rfl)) fun D σ H ⟨s, G, R, h⟩ => ?_
  dsimp only at h
  split at h
  · rename_i k ek
    obtain ⟨e1, xs0, e2⟩ := lstAt_some hK ek
    obtain ⟨u, q1, q2⟩ := R.slot i _ e1
    obtain ⟨us0, c1, c2⟩ := cell_at hK R e2
    refine ⟨u, q1, ?_⟩
    rw [q2.2]
    refine ⟨.inl ⟨rfl, us0, SqL.of c1⟩, s, G, R, (h.one1 (σ := σ)).imp fun vs s1 G1 H1 us y R1 _ ⟨v, w, e3, e4, r1, h1⟩ => ⟨w, e4, ?_⟩⟩
    try dsimp only at h1
    split at h1
    · rename_i xs ys ew es
      split at h1
      · rename_i hl
        obtain ⟨us1, c3, c4⟩ := cell_at hK R1 ew
        have ea : G1.adr k = G.adr k := y.adr k q2.1
        have d := vrep_solid R1 r1 es
        cases d with
        | lst q da =>
          obtain ⟨R2, x2⟩ := Rel.setL hK R1 ew (dpAll_append c4 da)
          rw [← ea]
          exact ⟨_, _, us1, _, rfl, rfl, c3, part_sub _ _ q, by rw [dpAll_length c4, dpAll_length da]; exact Nat.le_trans hl lim_line, h1 _ _ _ x2 R2⟩
      · exact h1.elim
    · exact h1.elim
  · exact h.elim
theorem dpAll_last {K : PySem.W.Frag} {F : Hp} {us : List V} {xs : List PyData} (d : DxAll K F us xs) {x : PyData} (e : xs.getLast? = some x) : ∃ u, us[us.length - 1]? = some u ∧ Dx K F u x := by
  rw [List.getLast?_eq_getElem?] at e
  rw [dpAll_length d]
  exact dpAll_get d e
theorem dpAll_dropLast {K : PySem.W.Frag} {F : Hp} : ∀ {us : List V} {xs : List PyData}, DxAll K F us xs → DxAll K F us.dropLast xs.dropLast := by
  intro us xs d
  rw [List.dropLast_eq_take, List.dropLast_eq_take, dpAll_length d]
  exact dpAll_take _ d
/-- x.pop() -/
theorem s_pop {i : Nat} {x : Str} {p1 p2 p3 : Pos} (hN : X.N[i]? = some x) (hv : Vis X.env.scope x) (hd : (x == ("__debug__" : Str)) = false) (hcd : (x == ("__classdict__" : Str)) = false) (hline : (p2.endLine == p3.line) = true) :
    PE X (.Call (.Attribute (.Name x p1) "pop" p2) [] [] p3) (tE T W fun s => match s.ρ[i]? with
      | some (some (.c k)) => match s.W[k]? with
        | some (.lst xs) => match xs.getLast? with
          | some v => dat v { s with W := s.W.set k (.lst xs.dropLast) }
          | none => .stuck
        | _ => .stuck
      | _ => .stuck) := by
  refine pe_imp (pe_bm0 PySem.F.plainAttrs_list PySem.F.slot_list_pop PySem.F.type_list_pop mt_pop (pe_var hN hv hd hcd) (by rfl) hline) fun σ H Q ⟨s, G, R, h⟩ => ?_
  dsimp only at h
  split at h
  · rename_i k e
    obtain ⟨u, q1, q2⟩ := R.slot i _ e
    split at h
    · rename_i xs e2
      split at h
      · rename_i v e3
        obtain ⟨us, c1, c2⟩ := cell_at hK R e2
        obtain ⟨w, c3, c4⟩ := dpAll_last hK c2 e3
        refine ⟨u, q1, ?_⟩
        rw [q2.2]
        refine ⟨.inl ⟨rfl, us, SqL.of c1⟩, _, us, w, rfl, rfl, c1, c3, ?_⟩
        obtain ⟨R2, x2⟩ := Rel.setL hK R e2 (dpAll_dropLast hK c2)
        obtain ⟨u', e', q⟩ := h G _ [w] x2 R2 (.cons (VRep.ext (v := .d v) x2 c4) .nil)
        cases e'
        exact q
      · exact h.elim
    · exact h.elim
  · exact h.elim
/-- x[j] = e -/
theorem st_setI {i : Nat} {x y : Str} {e : Expr} {fj fe : M (List Va)} {pos p1 p2 pj : Pos} (hN : X.N[i]? = some x) (hv : Vis X.env.scope x) (hd : (x == ("__debug__" : Str)) = false) (hcd : (x == ("__classdict__" : Str)) = false) (he : PE X e (tE T W fe)) (hj : PE X (.Name y pj) (tE T W fj))
    (hs : swapsWithSole [.Subscript (.Name x p1) (.Name y pj) p2] e pos.line X.env = pure false) (hw : swappedStores [.Subscript (.Name x p1) (.Name y pj) p2] e X.env = pure none) : PS X (.Assign [.Subscript (.Name x p1) (.Name y pj) p2] e pos) (tS T W fun s => one1 (fe s) fun v s => match s.ρ[i]? with
    | some (some (.c k)) => one1 (fj s) fun w s => match s.W[k]?, w, solid s v with
      | some (.lst xs), .d (.int n), some x => match L2.ixN xs.length n with
        | some m => .ok .next { s with W := s.W.set k (.lst (xs.set m x)) }
        | none => .stuck
      | _, _, _ => .stuck
    | _ => .stuck) := by
  refine ps_imp (ps_asg he (pg_sub (pe_var hN hv hd hcd) hj set_list) hs hw (by rfl)) fun D σ H ⟨s, G, R, h⟩ => ⟨s, G, R, (h.one1 (σ := σ)).imp fun vs s1 G1 H1 us x1 R1 _ ⟨v, u, e1, e2, r1, h1⟩ => ⟨u, e2, ?_⟩⟩
  try dsimp only at h1
  split at h1
  · rename_i k ek
    obtain ⟨w, q1, q2⟩ := R1.slot i _ ek
    refine ⟨w, q1, s1, G1, R1, (h1.one1 (σ := σ)).imp fun vs2 s2 G2 H2 us2 x2 R2 _ ⟨v2, u2, e3, e4, r2, h2⟩ => ⟨u2, e4, ?_⟩⟩
    try dsimp only at h2
    split at h2
    · rename_i xs n y ew es
      split at h2
      · rename_i m em
        cases r2
        obtain ⟨us1, c3, c4⟩ := cell_at hK R2 ew
        have ea : G2.adr k = G1.adr k := x2.adr k q2.1
        obtain ⟨R3, x3⟩ := Rel.setL hK R2 ew (dpAll_set (vrep_solid R2 (r1.ext x2) es) m c4)
        rw [q2.2, ← ea]
        exact ⟨_, us1, n, m, rfl, rfl, c3, by rw [dpAll_length c4]; exact em, h2 _ _ _ x3 R3⟩
      · exact h2.elim
    · exact h2.elim
  · exact h1.elim
/-- a, b = e1, e2 -/
theorem st_par {i j : Nat} {x y : Str} {a b : Expr} {fa fb : M (List Va)} {px py pt pos : Pos} {kt k2 : Nat} {pt2 : Pos} (hc : X.calm = true) (hN : X.N.Nodup) (hi : X.N[i]? = some x) (hj : X.N[j]? = some y) (hij : i ≠ j)
    (hx : X.env.scope.names.lookup x = some .local) (hy : X.env.scope.names.lookup y = some .local) (ha : PE X a (tE T W fa)) (hb : PE X b (tE T W fb)) (h1 : starEach [a, b] X.env = (false, eval a X.env) :: starEach [b] X.env) (h2 : starEach [b] X.env = (false, eval b X.env) :: starEach [] X.env)
    (hw : swappedStores [.Tuple [.Name x px, .Name y py] kt pt] (.Tuple [a, b] k2 pt2) X.env = pure (some [x, y])) :
    PS X (.Assign [.Tuple [.Name x px, .Name y py] kt pt] (.Tuple [a, b] k2 pt2) pos) (tS T W fun s => one1 (fa s) fun v s => one1 (fb s) fun w s => match solid s v with
    | some x => .ok .next { s with ρ := (s.ρ.set i (some (.d x))).set j (some w) }
    | none => .stuck) := by
  refine ps_imp (ps_par hc hN hi hj hij hx hy (pa_cons ha (pa_cons hb pa_nil h2) h1) hw (by rfl)) fun D σ H ⟨s, G, R, h⟩ => ⟨s, G, R, (h.one1 (σ := σ)).imp fun vs s1 G1 H1 us x1 R1 _ ⟨v, u, e1, e2, r1, h1⟩ => ⟨u, e2, s1, G1, R1, (h1.one1 (σ := σ)).imp fun vs2 s2 G2 H2 us2 x2 R2 _ ⟨v2, u2, e3, e4, r2, h2⟩ => ⟨u2, e4, ?_⟩⟩⟩
  try dsimp only at h2
  split at h2
  · rename_i z ez
    exact ⟨u, u2, rfl, h2 _ _ _ (Ext.refl _ _ _ _) (Rel.set hK (Rel.set hK R2 (v := .d z) (vrep_solid R2 (r1.ext x2) ez)) r2)⟩
  · exact h2.elim

/-! ### raise -/
/-- an own error's class -/
structure XcOk (X : Cx) (T : Tn) (c : Nat) (x : Str) : Prop where
  mg : X.mg x = some (.ref (T.exc c))
  ex : PySem.W.excIn X.K (T.exc c) [.type "ValueError", .type "Exception", .type "BaseException", .type "object"] "ValueError.__new__" = true
  kp : PySem.W.keepIn X.K (.ref (T.exc c)) = true
  sub : PySem.W.subIn X.K (.ref (T.exc c)) (.type "BaseException") = some true
  ty : PySem.W.typeIn X.K (.ref (T.exc c)) = some (.type "type")
theorem st_raise {c : Nat} {x m : Str} {j : Nat} {p p2 p3 pos : Pos} (hc : X.calm = true) (tk : Takes X W) (F : XcOk X T c x) (hg : Gl X x) (hdb : (x == ("__debug__" : Str)) = false) :
    PS X (.Raise (some (.Call (.Name x p) [.Constant (.str m) j p2] [] p3)) none pos) (tS T W fun s => .err c s) := by
  refine ps_imp (ps_raise hc tk (pmk_own PySem.F.excBase_ValueError F.ex F.mg F.kp (raises_own F.sub F.ty) hg hdb)) fun D σ H ⟨s, G, R, h⟩ => ?_
  exact h G H σ (Ext.refl _ _ _ _) R

/-! ### isinstance -/
def tyName : Nat → String
  | 0 => "int" | 1 => "bool" | 2 => "str" | 3 => "tuple" | 4 => "list" | 5 => "dict" | _ => "ValueError"
def dName : PyData → String
  | .none => "NoneType" | .bool _ => "bool" | .int _ => "int" | .str _ => "str" | .list _ => "list" | .tuple _ => "tuple" | .dict _ => "dict"
theorem kit_of_isi {K : PySem.W.Frag} {d : PyData} {t : Nat} {b : Bool} (e : isiD d t = some b) : PySem.W.kitOne K (.type (dName d)) (.type (tyName t)) = some b := by
  have go : ∀ (n : String) (f : Nat → Bool), (∀ t, t < 6 → kitB n (tyName t) = some (f t)) → (if t < 6 then some (f t) else none) = some b → PySem.W.kitOne K (.type n) (.type (tyName t)) = some b := by
    intro n f h e
    split at e
    · rename_i ht
      exact kit_ty (by rw [h t ht]; exact e)
    · cases e
  cases d with
  | none => exact go "NoneType" (fun _ => false) (by decide +kernel) e
  | bool x => exact go "bool" (fun t => t == 0 || t == 1) (by decide +kernel) e
  | int i => exact go "int" (fun t => t == 0) (by decide +kernel) e
  | str z => exact go "str" (fun t => t == 2) (by decide +kernel) e
  | tuple l => exact go "tuple" (fun t => t == 3) (by decide +kernel) e
  | list l => exact go "list" (fun t => t == 4) (by decide +kernel) e
  | dict l => cases e
theorem tyX_of {H F : Hp} {u : V} {d : PyData} (m : Same F H) (h : Dq X.K H F true u d) : TyX X.K H u (.type (dName d)) := by
  cases d with
  | none => rw [dq_non h]; exact .base .non
  | bool b => rw [dq_bl h]; exact .base (.bl b)
  | int i => rw [dq_int h]; exact .base (.int i)
  | str z => rw [dq_str h]; exact .base (.str z)
  | list l =>
    obtain ⟨a, us, rfl, ha, _⟩ := dq_lst m h
    exact .base (.lst ha)
  | tuple l =>
    obtain ⟨a, us, rfl, ha, _⟩ := dq_tup m h
    rcases ha with (ha | ⟨o, ha⟩) | ⟨o, its, n, hk, hc, _⟩
    · exact .base (.tup ha)
    · exact .fTuple ha
    · exact .kTuple hk hc
  | dict l => exact (dq_dict h).elim
/-- isinstance(e, T), e data -/
theorem s_isi {t : Nat} {a : Expr} {f : M (List Va)} {p q pos : Pos} (hg : Gl X "isinstance") (hm : X.mg "isinstance" = none) (hgT : Gl X (Str.ofString (tyName t))) (hmT : X.mg (Str.ofString (tyName t)) = none) (ht : t < 6) (ha : PE X a (tE T W f)) (h1 : starEach [a, .Name (Str.ofString (tyName t)) q] X.env = (false, eval a X.env) :: starEach [.Name (Str.ofString (tyName t)) q] X.env) :
    PE X (.Call (.Name "isinstance" p) [a, .Name (Str.ofString (tyName t)) q] [] pos) (tE T W fun s => one1 (f s) fun x s => match peek s x with
      | some d => boolO (isiD d t) s
      | none => .stuck) := by
  have ht6 : t = 0 ∨ t = 1 ∨ t = 2 ∨ t = 3 ∨ t = 4 ∨ t = 5 := by omega
  have hT : PE X (.Name (Str.ofString (tyName t)) q) (tC (.ty (tyName t))) := by
    rcases ht6 with rfl | rfl | rfl | rfl | rfl | rfl <;> exact pe_bltn hgT hmT (by decide +kernel) (show _ = _ from rfl) (by decide) (by decide)
  refine pe_imp (pe_callB call_isi hg hm (by decide +kernel) (pa_cons ha (pa_cons hT pa_nil) h1) (by decide) (by decide) h1 (by rfl)) fun σ H Q ⟨s, G, R, h⟩ => ⟨s, G, R, h.one1.imp fun vs s1 G1 H1 us x R1 _ ⟨v, u, e1, e2, r1, h1⟩ => ⟨u, e2, ?_⟩⟩
  try dsimp only at h1
  split at h1
  · rename_i d ed
    cases hz : isiD d t with
    | none => rw [hz] at h1; exact h1.elim
    | some b =>
      rw [hz] at h1
      have dq := vrep_peek R1 r1 ed
      rw [← hK] at dq
      exact ⟨u, .ty (tyName t), _, _, b, rfl, .ty _, tyX_of hK part_sub dq, kit_of_isi hK hz, here (v := .d (.bool b)) R1 (.bl b) h1⟩
  · exact h1.elim
end
end BC

/-! BRun: calls by value and result. -/
namespace BC
open PySem L2

def Re.size : Re → Nat
  | .box rs => rs.length
  | _ => 1
inductive TopAt (T : Tn) (F : Hp) (pa : Nat → Addr) : Re → Hp → Prop where
  | box {rs Hm own} : (∀ i r, rs[i]? = some r → ResAt T F pa rs.length (pa i) r (part own i Hm)) → TopAt T F pa (.box rs) Hm
  | one {r Hm} : r.plain = true → ResAt T F z0 0 (pa 0) r Hm → TopAt T F pa r Hm
theorem TopAt.res {T : Tn} {F : Hp} {pa : Nat → Addr} {r : Re} {Hm : Hp} (h : TopAt T F pa r Hm) : ResAt T F z0 0 (pa 0) r Hm := by
  cases h with
  | box h => exact .box rfl h
  | one _ h => exact h
theorem ResAt.top {T : Tn} {F : Hp} {ba : Nat → Addr} {nb : Nat} {a : Addr} {r : Re} {Hm : Hp} (h : ResAt T F ba nb a r Hm) (c : r.closed = true) : ∃ pa, pa 0 = a ∧ TopAt T F pa r Hm := by
  cases h with
  | box e h => exact ⟨_, e, .box h⟩
  | lst h d => exact ⟨fun _ => a, rfl, .one rfl (.lst h d)⟩
  | frz h => exact ⟨fun _ => a, rfl, .one rfl (.frz h)⟩
  | ins h d =>
    refine ⟨fun _ => a, rfl, .one rfl (.ins h ?_)⟩
    have go : ∀ {fs : List (Nat × Fv)} {fu : List (Str × V)}, FsRep T F ba nb Hm fs fu → (fs.all fun p => p.2.closed) = true → FsRep T F z0 0 Hm fs fu := by
      intro fs fu q
      induction q with
      | nil => intro _; exact .nil
      | cons a _ ih =>
        intro hc
        rw [List.all_cons, Bool.and_eq_true] at hc
        refine .cons ⟨a.1, ?_⟩ (ih hc.2)
        rename_i p q _ _ _
        obtain ⟨n, fv⟩ := p
        have a2 := a.2
        cases fv with
        | v x => cases x with
          | d y => exact a2
          | c k => cases hc.1
          | b k => cases hc.1
          | x k => cases hc.1
          | s k => cases hc.1
        | ol xs => exact a2
        | fl xs => cases hc.1
    exact go d c
/-- without its own parts an instance may be read with any -/
theorem ResAt.weak {T : Tn} {F : Hp} {a : Addr} {r : Re} {Hm : Hp} {ba : Nat → Addr} {nb : Nat} (h : ResAt T F z0 0 a r Hm) : ResAt T F ba nb a r Hm :=
  h.mono (Same.refl _) (Same.refl _) (Nat.zero_le _) fun k hk => absurd hk (Nat.not_lt_zero _)
theorem TopAt.mono {T : Tn} {F F' : Hp} {pa : Nat → Addr} {r : Re} {Hm Hm' : Hp} (m : Same F F') (mm : Same Hm Hm') (h : TopAt T F pa r Hm) : TopAt T F' pa r Hm' := by
  cases h with
  | box h => exact .box fun i r hr => (h i r hr).mono m (part_mono mm) (Nat.le_refl _) fun _ _ => rfl
  | one p h => exact .one p (h.mono m mm (Nat.le_refl _) fun _ _ => rfl)

def resL : List Av → List Re
  | [] => []
  | .r r :: as => r :: resL as
  | _ :: as => resL as
/-- the arguments: j counts what may change -/
inductive ArgsRep (T : Tn) (F : Hp) (pa : Nat → Nat → Addr) : Nat → List Av → List V → Prop where
  | nil {n} : ArgsRep T F pa n [] []
  | d {n x u as us} : Dx T.K F u x → ArgsRep T F pa n as us → ArgsRep T F pa n (.d x :: as) (u :: us)
  | x {n k a as us} : F a = some (ExC (.ref (T.exc k)) a) → ArgsRep T F pa n as us → ArgsRep T F pa n (.x k :: as) (.ref a :: us)
  | s {n a ns as us} : SqL T.K F a (ns.map V.int) → ArgsRep T F pa n as us → ArgsRep T F pa n (.s ns :: as) (.ref a :: us)
  | r {n r as us} : ArgsRep T F pa (n + 1) as us → ArgsRep T F pa n (.r r :: as) (.ref (pa n 0) :: us)
def Ex (own : Addr → Nat) (H : Hp) (own' : Addr → Nat) (H' : Hp) : Prop := ∀ a o, H a = some o → own a ≤ 1 → H' a = some o ∧ own' a = own a
def OutV (T : Tn) (own : Addr → Nat) (pa : Nat → Nat → Addr) (H : Hp) (n : Nat) : Av → V → Prop
  | .d x, u => Dx T.K (part own 0 H) u x
  | .r r, u => u = .ref (pa n 0) ∧ TopAt T (part own 0 H) (pa n) r (part own (2 * n + 2) H)
  | _, _ => False
/-- the promise of a def that computes φ -/
def spF (T : Tn) (op : Bool) (φ : Fn) : Sp := fun vs H Q E => ∃ (own : Addr → Nat) (pa : Nat → Nat → Addr) (as : List Av), ArgsRep T (part own 0 H) pa 0 as vs ∧
  (∀ (j : Nat) (r : Re), (resL as)[j]? = some r → TopAt T (part own 0 H) (pa j) r (part own (2 * j + 2) H)) ∧
  match φ as with
  | .ok v outs => outs.length = (resL as).length ∧ ∀ own' pa' H' u, Ex own H own' H' → (∀ (j : Nat) (r : Re), (resL as)[j]? = some r → pa' j 0 = pa j 0 ∧ (op = true → j = 0 → ∀ i, i < r.size → pa' j i = pa j i)) →
      (∀ (j : Nat) (r : Re), outs[j]? = some r → TopAt T (part own' 0 H') (pa' j) r (part own' (2 * j + 2) H')) → OutV T own' pa' H' (resL as).length v u → Q u H'
  | .err c outs => outs.length = (resL as).length ∧ ∀ own' (pa' : Nat → Nat → Addr) H', Ex own H own' H' → (∀ (j : Nat) (r : Re), (resL as)[j]? = some r → pa' j 0 = pa j 0 ∧ (op = true → j = 0 → ∀ i, i < r.size → pa' j i = pa j i)) →
      (∀ (j : Nat) (r : Re), outs[j]? = some r → TopAt T (part own' 0 H') (pa' j) r (part own' (2 * j + 2) H')) → E (.ref (T.exc c)) none H'
  | .stuck => False

/-! ### tags across a call -/
def cover : Va → Nat → Bool
  | .c k, t => t == 2 * k + 2
  | .b 0, t => t % 2 == 1 && decide (3 ≤ t)
  | .b (k + 1), t => t == 2 * k + 5
  | _, _ => false
def mtc : List Va → Nat → Nat → Nat
  | [], _, _ => 1
  | v :: r, j, t => if cover v t then 2 * j + 2 else mtc r (j + 1) t
def mt (cs : List Va) (t : Nat) : Nat := if t = 0 then 0 else mtc cs 0 t
theorem mtc_vals (cs : List Va) : ∀ j t, mtc cs j t = 1 ∨ ∃ i v, cs[i]? = some v ∧ cover v t = true ∧ mtc cs j t = 2 * (j + i) + 2 := by
  induction cs with
  | nil => intro j t; exact .inl rfl
  | cons v r ih =>
    intro j t
    unfold mtc
    by_cases h : cover v t = true
    · rw [if_pos h]; exact .inr ⟨0, v, rfl, h, rfl⟩
    · rw [if_neg h]
      rcases ih (j + 1) t with q | ⟨i, w, h1, h2, h3⟩
      · exact .inl q
      · exact .inr ⟨i + 1, w, by simpa using h1, h2, by rw [h3]; omega⟩
theorem mtc_none {cs : List Va} : ∀ {j t}, (∀ v ∈ cs, cover v t = false) → mtc cs j t = 1 := by
  induction cs with
  | nil => intro j t _; rfl
  | cons v r ih =>
    intro j t h
    unfold mtc
    rw [if_neg (by rw [h v List.mem_cons_self]; exact Bool.false_ne_true)]
    exact ih fun w hw => h w (List.mem_cons_of_mem _ hw)
theorem cover_ne {v : Va} {t : Nat} (h : cover v t = true) : 2 ≤ t := by
  cases v with
  | c k => simp [cover] at h; omega
  | b k => cases k with
    | zero => simp [cover] at h; omega
    | succ k => simp [cover] at h; omega
  | _ => cases h
theorem apart_uniq {cs : List Va} (ap : apart cs = true) {i j : Nat} {v w : Va} {t : Nat} (hi : cs[i]? = some v) (hj : cs[j]? = some w) (hv : cover v t = true) (hw : cover w t = true) : i = j := by
  unfold apart at ap
  rw [Bool.and_eq_true, Bool.or_eq_true] at ap
  obtain ⟨nd, al⟩ := ap
  have nd := of_decide_eq_true nd
  have same : v.tag = w.tag := by
    have aux : ∀ {v w : Va}, v ∈ cs → w ∈ cs → cover v t = true → cover w t = true → v.tag = (1, 0) → w.tag = (1, 0) := by
      intro v w hv' hw' cv cw ev
      rcases al with al | al
      · have : (cs.any fun v => v.tag == (1, 0)) = true := List.any_eq_true.mpr ⟨v, hv', by rw [ev]; rfl⟩
        rw [this] at al; cases al
      · have h := List.all_eq_true.mp al w hw'
        rw [Bool.or_eq_true] at h
        rcases h with h | h
        · exact of_decide_eq_true (by simpa using h)
        · cases w with
          | c k =>
            cases v with
            | b n => cases n with
              | zero => simp [cover] at cv cw; omega
              | succ n => cases ev
            | c n => cases ev
            | _ => cases cv
          | b k => cases h
          | _ => cases cw
    have mv := List.mem_of_getElem? hi
    have mw := List.mem_of_getElem? hj
    cases v with
    | c k => cases w with
      | c n => simp [cover] at hv hw; have : k = n := by omega
               rw [this]
      | b n => cases n with
        | zero => have := aux mw mv hw hv rfl; cases this
        | succ n => simp [cover] at hv hw; omega
      | _ => cases hw
    | b k => cases k with
      | zero => rw [aux mv mw hv hw rfl]; rfl
      | succ k => cases w with
        | c n => simp [cover] at hv hw; omega
        | b n => cases n with
          | zero => have := aux mw mv hw hv rfl; cases this
          | succ n => simp [cover] at hv hw; have : k = n := by omega
                      rw [this]
        | _ => cases hw
    | _ => cases hv
  have e1 : (cs.map Va.tag)[i]? = some v.tag := by rw [List.getElem?_map, hi]; rfl
  have e2 : (cs.map Va.tag)[j]? = some v.tag := by rw [List.getElem?_map, hj, same]; rfl
  have hlt : i < (cs.map Va.tag).length := by
    rcases Nat.lt_or_ge i (cs.map Va.tag).length with z | z
    · exact z
    · rw [List.getElem?_eq_none z] at e1; cases e1
  exact (List.getElem?_inj hlt nd).mp (e1.trans e2.symm)
theorem mt_at {cs : List Va} (ap : apart cs = true) {j : Nat} {v : Va} {t : Nat} (hj : cs[j]? = some v) (hv : cover v t = true) : mt cs t = 2 * j + 2 := by
  have ht := cover_ne hv
  unfold mt
  rw [if_neg (by omega)]
  have h0 := mtc_vals cs 0 t
  rcases h0 with h | ⟨i, w, h1, h2, h3⟩
  · exfalso
    have gen : ∀ (cs : List Va) (j k : Nat), cs[j]? = some v → mtc cs k t ≠ 1 := by
      intro cs
      induction cs with
      | nil => intro j k h; simp at h
      | cons x r ih =>
        intro j k h
        unfold mtc
        by_cases hx : cover x t = true
        · rw [if_pos hx]; omega
        · rw [if_neg hx]
          cases j with
          | zero => simp at h; subst h; exact absurd hv hx
          | succ j => exact ih j (k + 1) (by simpa using h)
    exact gen cs j 0 hj h
  · have := apart_uniq ap h1 hj h2 hv
    subst this
    rw [h3]; omega
theorem mt_inv {cs : List Va} {j t : Nat} (h : mt cs t = 2 * j + 2) : ∃ v, cs[j]? = some v ∧ cover v t = true := by
  unfold mt at h
  split at h
  · omega
  · rcases mtc_vals cs 0 t with q | ⟨i, w, h1, h2, h3⟩
    · omega
    · have : i = j := by omega
      subst this
      exact ⟨w, h1, h2⟩
theorem mt_le {cs : List Va} {t : Nat} (h : t ≤ 1) : mt cs t = t := by
  unfold mt
  split
  · omega
  · rename_i h0
    have : t = 1 := by omega
    subst this
    exact mtc_none fun v _ => by
      cases q : cover v 1 with
      | false => rfl
      | true => have := cover_ne q; omega
theorem mt_zero {cs : List Va} {t : Nat} (h : mt cs t = 0) : t = 0 := by
  unfold mt at h
  split at h
  · assumption
  · rcases mtc_vals cs 0 t with q | ⟨i, w, h1, h2, h3⟩ <;> omega
theorem mt_one {cs : List Va} {t : Nat} (h : mt cs t = 1) : ∀ (j : Nat) (v : Va), cs[j]? = some v → apart cs = true → cover v t = false := by
  intro j v hj ap
  cases q : cover v t with
  | false => rfl
  | true => rw [mt_at ap hj q] at h; omega

/-! ### what comes back -/
theorem back_rho (cs : List Va) : ∀ (outs : List Re) (s : Sg), (backAll s cs outs).ρ = s.ρ ∧ (backAll s cs outs).W.length = s.W.length := by
  induction cs with
  | nil => intro outs s; cases outs <;> exact ⟨rfl, rfl⟩
  | cons v r ih =>
    intro outs s
    cases outs with
    | nil => exact ⟨rfl, rfl⟩
    | cons o os =>
      obtain ⟨h1, h2⟩ := ih os (setRes s v o)
      refine ⟨h1.trans ?_, h2.trans ?_⟩
      · cases v with
        | b k => cases k <;> rfl
        | _ => rfl
      · cases v with
        | c k => exact List.length_set
        | b k => cases k <;> rfl
        | _ => rfl
/-- the world behind: a cell that was handed in, one that was not -/
theorem back_W (cs : List Va) : ∀ (outs : List Re) (s : Sg), outs.length = cs.length → (cs.map Va.tag).Nodup → ∀ k, k < s.W.length →
    (∀ (j : Nat) (o : Re), cs[j]? = some (Va.c k) → outs[j]? = some o → (backAll s cs outs).W[k]? = some o) ∧ ((∀ j : Nat, cs[j]? ≠ some (Va.c k)) → (backAll s cs outs).W[k]? = s.W[k]?) := by
  induction cs with
  | nil => intro outs s _ _ k hk; exact ⟨fun j o h => by simp at h, fun _ => by cases outs <;> rfl⟩
  | cons v r ih =>
    intro outs s hl nd k hk
    cases outs with
    | nil => cases hl
    | cons o os =>
      rw [List.map_cons, List.nodup_cons] at nd
      have hk2 : k < (setRes s v o).W.length := by
        cases v with
        | c n => show k < (s.W.set n o).length; rw [List.length_set]; exact hk
        | b n => cases n <;> exact hk
        | _ => exact hk
      obtain ⟨i1, i2⟩ := ih os (setRes s v o) (by simpa using hl) nd.2 k hk2
      have notin : v = .c k → ∀ j : Nat, r[j]? ≠ some (Va.c k) := fun e j h => nd.1 (by rw [e]; exact List.mem_map.mpr ⟨_, List.mem_of_getElem? h, rfl⟩)
      refine ⟨fun j o' h1 h2 => ?_, fun h => ?_⟩
      · cases j with
        | zero =>
          have e : v = .c k := by simpa using h1
          have e2 : o = o' := by simpa using h2
          subst e e2
          rw [show backAll s (Va.c k :: r) (o :: os) = backAll (setRes s (.c k) o) r os from rfl, i2 (notin rfl)]
          show (s.W.set k o)[k]? = _
          rw [List.getElem?_set_self hk]
        | succ j => exact i1 j o' (by simpa using h1) (by simpa using h2)
      · have hv : v ≠ .c k := fun e => h 0 (by rw [e]; rfl)
        rw [show backAll s (v :: r) (o :: os) = backAll (setRes s v o) r os from rfl, i2 fun j hj => h (j + 1) (by simpa using hj)]
        cases v with
        | c n =>
          show (s.W.set n o)[k]? = _
          rw [List.getElem?_set_ne (fun e => hv (by rw [e]))]
        | b n => cases n <;> rfl
        | _ => rfl
/-- the box behind, where it was not handed in whole -/
theorem back_B (cs : List Va) : ∀ (outs : List Re) (s : Sg), outs.length = cs.length → (cs.map Va.tag).Nodup → (∀ j : Nat, cs[j]? ≠ some (Va.b 0)) → (backAll s cs outs).B.length = s.B.length ∧ ∀ k, k < s.B.length →
    (∀ (j : Nat) (o : Re), cs[j]? = some (Va.b k) → outs[j]? = some o → (backAll s cs outs).B[k]? = some o) ∧ ((∀ j : Nat, cs[j]? ≠ some (Va.b k)) → (backAll s cs outs).B[k]? = s.B[k]?) := by
  induction cs with
  | nil => intro outs s _ _ _; exact ⟨by cases outs <;> rfl, fun k hk => ⟨fun j o h => by simp at h, fun _ => by cases outs <;> rfl⟩⟩
  | cons v r ih =>
    intro outs s hl nd h0
    cases outs with
    | nil => cases hl
    | cons o os =>
      rw [List.map_cons, List.nodup_cons] at nd
      have hv0 : v ≠ .b 0 := fun e => h0 0 (by rw [e]; rfl)
      have hlen : (setRes s v o).B.length = s.B.length := by
        cases v with
        | b n => cases n with
          | zero => exact absurd rfl hv0
          | succ n => exact List.length_set
        | _ => rfl
      obtain ⟨l1, ih⟩ := ih os (setRes s v o) (by simpa using hl) nd.2 (fun j hj => h0 (j + 1) (by simpa using hj))
      refine ⟨l1.trans hlen, fun k hk => ?_⟩
      obtain ⟨i1, i2⟩ := ih k (by omega)
      have notin : v = .b k → ∀ j : Nat, r[j]? ≠ some (Va.b k) := fun e j h => nd.1 (by rw [e]; exact List.mem_map.mpr ⟨_, List.mem_of_getElem? h, rfl⟩)
      refine ⟨fun j o' h1 h2 => ?_, fun h => ?_⟩
      · cases j with
        | zero =>
          have e : v = .b k := by simpa using h1
          have e2 : o = o' := by simpa using h2
          subst e e2
          rw [show backAll s (Va.b k :: r) (o :: os) = backAll (setRes s (.b k) o) r os from rfl, i2 (notin rfl)]
          cases k with
          | zero => exact absurd rfl hv0
          | succ n =>
            show (s.B.set (n + 1) o)[n + 1]? = _
            rw [List.getElem?_set_self hk]
        | succ j => exact i1 j o' (by simpa using h1) (by simpa using h2)
      · have hv : v ≠ .b k := fun e => h 0 (by rw [e]; rfl)
        rw [show backAll s (v :: r) (o :: os) = backAll (setRes s v o) r os from rfl, i2 fun j hj => h (j + 1) (by simpa using hj)]
        cases v with
        | b n => cases n with
          | zero => exact absurd rfl hv0
          | succ n =>
            show (s.B.set (n + 1) o)[k]? = _
            rw [List.getElem?_set_ne (fun e => hv (by rw [e]))]
        | _ => rfl
/-- the box behind, where it was handed in whole -/
theorem back_B0 (cs : List Va) : ∀ (outs : List Re) (s : Sg), outs.length = cs.length → (cs.map Va.tag).Nodup → (∀ (j k : Nat), cs[j]? ≠ some (Va.b (k + 1))) → ∀ (j : Nat) (o : Re), cs[j]? = some (Va.b 0) → outs[j]? = some o → (backAll s cs outs).B = openB o := by
  have keep : ∀ (cs : List Va) (outs : List Re) (s : Sg), (∀ (j k : Nat), cs[j]? ≠ some (Va.b k)) → (backAll s cs outs).B = s.B := by
    intro cs
    induction cs with
    | nil => intro outs s _; cases outs <;> rfl
    | cons v r ih =>
      intro outs s h
      cases outs with
      | nil => rfl
      | cons o os =>
        rw [show backAll s (v :: r) (o :: os) = backAll (setRes s v o) r os from rfl, ih os _ fun j k hj => h (j + 1) k (by simpa using hj)]
        cases v with
        | b n => exact absurd rfl (h 0 n)
        | _ => rfl
  induction cs with
  | nil => intro outs s _ _ _ j o h; simp at h
  | cons v r ih =>
    intro outs s hl nd h0 j o h1 h2
    cases outs with
    | nil => cases hl
    | cons p os =>
      rw [List.map_cons, List.nodup_cons] at nd
      cases j with
      | zero =>
        have e : v = .b 0 := by simpa using h1
        have e2 : p = o := by simpa using h2
        subst e e2
        rw [show backAll s (Va.b 0 :: r) (p :: os) = backAll (setRes s (.b 0) p) r os from rfl, keep]
        · rfl
        · intro j k hj
          cases k with
          | zero => exact nd.1 (List.mem_map.mpr ⟨_, List.mem_of_getElem? hj, rfl⟩)
          | succ k => exact h0 (j + 1) k (by simpa using hj)
      | succ j => exact ih os (setRes s v p) (by simpa using hl) nd.2 (fun j k hj => h0 (j + 1) k (by simpa using hj)) j o (by simpa using h1) (by simpa using h2)
theorem backOk_len {s : Sg} : ∀ {cs : List Va} {outs : List Re}, backOk s cs outs = true → outs.length = cs.length ∧ ∀ (j : Nat) (o : Re), cs[j]? = some (Va.b 0) → outs[j]? = some o → s.B.length ≤ (openB o).length := by
  intro cs
  induction cs with
  | nil => intro outs h; cases outs with
    | nil => exact ⟨rfl, fun j o h => by simp at h⟩
    | cons _ _ => cases h
  | cons v r ih =>
    intro outs h
    cases outs with
    | nil => cases v with
      | b k => cases k <;> cases h
      | _ => cases h
    | cons o os =>
      have key : backOk s r os = true ∧ (v = .b 0 → s.B.length ≤ (openB o).length) := by
        cases v with
        | b k => cases k with
          | zero =>
            simp only [backOk, Bool.and_eq_true] at h
            exact ⟨h.2, fun _ => of_decide_eq_true h.1⟩
          | succ k => exact ⟨h, fun e => by cases e⟩
        | _ => exact ⟨h, fun e => by cases e⟩
      obtain ⟨k1, k2⟩ := ih key.1
      refine ⟨by simp [k1], fun j p h1 h2 => ?_⟩
      cases j with
      | zero =>
        have e : v = .b 0 := by simpa using h1
        have e2 : o = p := by simpa using h2
        rw [← e2]; exact key.2 e
      | succ j => exact k2 j p (by simpa using h1) (by simpa using h2)

/-! ### the call -/
def addrOf (G : Gh) : Va → Addr
  | .c k => G.adr k
  | .b k => G.bdr k
  | _ => 0
def ownIn (cs : List Va) (G : Gh) : Addr → Nat := fun a => mt cs (G.own a)
/-- may be handed over as it is -/
def mayGo (s : Sg) (v : Va) (r : Re) : Prop := r.closed = true ∨ (v = .b 0 ∧ s.B.length ≠ 1)
section
variable {T : Tn} {W : WX} {G : Gh} {H : Hp} {σ : St} {s : Sg}
theorem toAv_res {v : Va} {a : Av} {ds : List Va} (e : toAv s v = some (a, ds)) : (ds = [] ∧ ((∃ x, a = .d x ∧ solid s v = some x) ∨ (∃ n, a = .x n ∧ v = .x n) ∨ (∃ n, a = .s n ∧ v = .s n))) ∨ (∃ r, ds = [v] ∧ a = .r r ∧ resOf s v = some r ∧ mayGo s v r ∧ ((∃ k, v = .c k) ∨ ∃ k, v = .b k)) := by
  have go : ∀ v : Va, (∃ k, v = .c k) ∨ (∃ k, v = .b k) → (match solid s v with
    | some x => some (.d x, [])
    | none => match resOf s v with
      | some r => if goes s v r then some (.r r, [v]) else none
      | none => none) = some (a, ds) → (ds = [] ∧ ((∃ x, a = .d x ∧ solid s v = some x) ∨ (∃ n, a = .x n ∧ v = .x n) ∨ (∃ n, a = .s n ∧ v = .s n))) ∨ (∃ r, ds = [v] ∧ a = .r r ∧ resOf s v = some r ∧ mayGo s v r ∧ ((∃ k, v = .c k) ∨ ∃ k, v = .b k)) := by
    intro v hv e
    split at e
    · rename_i x hx
      cases e
      exact .inl ⟨rfl, .inl ⟨x, rfl, hx⟩⟩
    · split at e
      · rename_i r hr
        split at e
        · rename_i hc
          cases e
          refine .inr ⟨r, rfl, rfl, hr, ?_, hv⟩
          unfold goes at hc
          rw [Bool.or_eq_true, Bool.and_eq_true] at hc
          rcases hc with hc | ⟨hc, hl⟩
          · exact .inl hc
          · refine .inr ⟨?_, by simpa using hl⟩
            rcases hv with ⟨k, rfl⟩ | ⟨k, rfl⟩
            · cases hc
            · cases k with
              | zero => rfl
              | succ k => simp [Va.tag] at hc
        · cases e
      · cases e
  cases v with
  | d x => cases e; exact .inl ⟨rfl, .inl ⟨x, rfl, rfl⟩⟩
  | x n => cases e; exact .inl ⟨rfl, .inr (.inl ⟨n, rfl, rfl⟩)⟩
  | s n => cases e; exact .inl ⟨rfl, .inr (.inr ⟨n, rfl, rfl⟩)⟩
  | c k => exact go _ (.inl ⟨k, rfl⟩) e
  | b k => exact go _ (.inr ⟨k, rfl⟩) e
/-- the arguments as they are handed over -/
theorem toAvs_args (R : Rel T G s σ H) {pa : Nat → Nat → Addr} : ∀ {vs : List Va} {us : List V} {as : List Av} {cs : List Va} {j0 : Nat}, vreps T vs s G H us → toAvs s vs = some (as, cs) → (∀ (j : Nat) (v : Va), cs[j]? = some v → pa (j0 + j) 0 = addrOf G v) →
    ArgsRep T (part G.own 0 H) pa j0 as us ∧ (resL as).length = cs.length ∧ ∀ (j : Nat) (r : Re), (resL as)[j]? = some r → ∃ v, cs[j]? = some v ∧ resOf s v = some r ∧ mayGo s v r := by
  intro vs
  induction vs with
  | nil =>
    intro us as cs j0 r e _
    cases e
    cases r
    exact ⟨.nil, rfl, fun j r h => by simp [resL] at h⟩
  | cons v vs ih =>
    intro us as cs j0 r e hp
    cases r with
    | @cons _ u _ us' r1 r2 =>
      simp only [toAvs] at e
      split at e
      · rename_i a b as' bs' e1 e2
        cases e
        rcases toAv_res e1 with ⟨hb, hx⟩ | ⟨re, hb, rfl, hr, hm, hv⟩
        · subst hb
          obtain ⟨i1, i2, i3⟩ := ih (j0 := j0) r2 e2 (by simpa using hp)
          rcases hx with ⟨x, rfl, hs⟩ | ⟨n, rfl, rfl⟩ | ⟨n, rfl, rfl⟩
          · exact ⟨.d (vrep_solid R r1 hs) i1, i2, i3⟩
          · obtain ⟨ad, ea, h⟩ := r1
            rw [ea]
            exact ⟨.x h i1, i2, i3⟩
          · obtain ⟨ad, ea, h⟩ := r1
            rw [ea]
            exact ⟨.s h i1, i2, i3⟩
        · subst hb
          obtain ⟨i1, i2, i3⟩ := ih (j0 := j0 + 1) r2 e2 (fun j w hj => by
            have := hp (j + 1) w (by simpa using hj)
            rw [show j0 + 1 + j = j0 + (j + 1) by omega]; exact this)
          have h0 := hp 0 v rfl
          rw [Nat.add_zero] at h0
          have eu : u = V.ref (pa j0 0) := by
            rw [h0]
            rcases hv with ⟨k, rfl⟩ | ⟨k, rfl⟩
            · exact r1.2
            · exact r1.2
          rw [eu]
          refine ⟨.r i1, by simp [resL, i2], fun j r hj => ?_⟩
          cases j with
          | zero =>
            have : re = r := by simpa [resL] using hj
            subst this
            exact ⟨v, rfl, hr, hm⟩
          | succ j =>
            obtain ⟨w, q1, q2⟩ := i3 j r (by simpa [resL] using hj)
            exact ⟨w, by simpa using q1, q2⟩
      · cases e
theorem part_in0 (cs : List Va) : part (ownIn cs G) 0 H = part G.own 0 H := by
  funext a
  unfold part ownIn
  by_cases h : G.own a = 0
  · rw [if_pos h, if_pos (by rw [h]; rfl)]
  · rw [if_neg h, if_neg (fun z => h (mt_zero z))]
theorem bx_len {k : Nat} {r : Re} (e : s.B[k]? = some r) : k < s.B.length := by
  rcases Nat.lt_or_ge k s.B.length with z | z
  · exact z
  · rw [List.getElem?_eq_none z] at e; cases e
/-- what is handed over lies at its own addresses -/
theorem top_in (R : Rel T G s σ H) {cs : List Va} (ap : apart cs = true) {j : Nat} {v : Va} {r : Re} (hj : cs[j]? = some v) (hr : resOf s v = some r) (hm : mayGo s v r) :
    ∃ p, p 0 = addrOf G v ∧ (v = .b 0 → p = G.bdr) ∧ TopAt T (part (ownIn cs G) 0 H) p r (part (ownIn cs G) (2 * j + 2) H) := by
  rw [part_in0]
  have pm : ∀ t, cover v t = true → Same (part G.own t H) (part (ownIn cs G) (2 * j + 2) H) := fun t ht a o q => by
    obtain ⟨q1, q2⟩ := part_iff.mp q
    exact part_iff.mpr ⟨by show mt cs (G.own a) = _; rw [q1]; exact mt_at ap hj ht, q2⟩
  cases v with
  | c k =>
    have hc : r.closed = true := by
      rcases hm with hm | ⟨hm, _⟩
      · exact hm
      · cases hm
    obtain ⟨p, e, t⟩ := (R.wld k r hr).top hc
    exact ⟨p, e, fun z => (by cases z), t.mono (Same.refl _) (pm _ (by simp [cover]))⟩
  | b k =>
    cases k with
    | succ k =>
      have hc : r.closed = true := by
        rcases hm with hm | ⟨hm, _⟩
        · exact hm
        · cases hm
      obtain ⟨p, e, t⟩ := (R.bx (k + 1) r hr).top hc
      exact ⟨p, e, fun z => (by cases z), t.mono (Same.refl _) (pm _ (by simp [cover]; omega))⟩
    | zero =>
      simp only [resOf] at hr
      split at hr
      · rename_i c fs rs hB
        cases hr
        refine ⟨G.bdr, rfl, fun _ => rfl, ?_⟩
        cases rs with
        | nil =>
          have hc : (Re.ins c fs).closed = true := by
            rcases hm with hm | ⟨_, hm⟩
            · exact hm
            · rw [hB] at hm; exact absurd rfl hm
          obtain ⟨p, e, t⟩ := (R.bx 0 (.ins c fs) (by rw [hB]; rfl)).top hc
          have t2 := t.res
          rw [e] at t2
          exact .one rfl (t2.mono (Same.refl _) (pm _ (by simp [cover])) (Nat.le_refl _) fun _ _ => rfl)
        | cons r2 rs =>
          refine .box (own := fun a => (G.own a - 3) / 2) fun i r' hi => ?_
          have hi' : s.B[i]? = some r' := by rw [hB]; exact hi
          have q := R.bx i r' hi'
          rw [hB] at q
          refine q.mono (Same.refl _) (fun a o q => ?_) (Nat.le_refl _) fun _ _ => rfl
          obtain ⟨q1, q2⟩ := part_iff.mp q
          refine part_iff.mpr ⟨by show (G.own a - 3) / 2 = i; rw [q1]; omega, pm (2 * i + 3) (by simp [cover] <;> omega) a o (part_iff.mpr ⟨q1, q2⟩)⟩
      · cases hr
  | d x => cases hr
  | x n => cases hr
  | s n => cases hr
theorem top_open {F : Hp} {pa : Nat → Addr} {r : Re} {Hm : Hp} (h : TopAt T F pa r Hm) : ∃ sp : Addr → Nat, ∀ (i : Nat) (r' : Re), (openB r)[i]? = some r' → ResAt T F pa (openB r).length (pa i) r' (part sp i Hm) := by
  cases h with
  | box h => exact ⟨_, h⟩
  | one p h =>
    have e : openB r = [r] := by
      cases r with
      | box rs => cases p
      | _ => rfl
    rw [e]
    refine ⟨fun _ => 0, fun i r' hi => ?_⟩
    cases i with
    | zero =>
      have : r = r' := by simpa using hi
      subst this
      exact h.weak.mono (Same.refl _) (fun a o q => part_iff.mpr ⟨rfl, q⟩) (Nat.le_refl _) fun _ _ => rfl
    | succ i => simp at hi
/-- behind the call: the state with what came back -/
theorem back_rel (R : Rel T G s σ H) {cs : List Va} {outs : List Re} (ap : apart cs = true) (bo : backOk s cs outs = true) {own' : Addr → Nat} {pa pa' : Nat → Nat → Addr} {H' : Hp} (ex : Ex (ownIn cs G) H own' H')
    (h0 : ∀ (j : Nat) (v : Va), cs[j]? = some v → pa' j 0 = addrOf G v) (hb : ∀ j : Nat, cs[j]? = some (Va.b 0) → ∀ i, i < s.B.length → pa' j i = G.bdr i)
    (hn : ∀ (j : Nat) (v : Va), cs[j]? = some v → (∃ k, v = .c k ∧ k < s.W.length) ∨ ∃ k, v = .b k ∧ k < s.B.length)
    (ht : ∀ (j : Nat) (r : Re), outs[j]? = some r → TopAt T (part own' 0 H') (pa' j) r (part own' (2 * j + 2) H')) :
    ∃ G', Rel T G' (backAll s cs outs) σ H' ∧ Ext G H s.W.length s.B.length G' H' (backAll s cs outs).W.length (backAll s cs outs).B.length ∧ Same (part own' 0 H') (part G'.own 0 H') ∧ Same (part own' (2 * cs.length + 2) H') (part G'.own (2 * s.W.length + 2) H') := by
  obtain ⟨ol, ob⟩ := backOk_len bo
  have nd : (cs.map Va.tag).Nodup := by
    unfold apart at ap
    rw [Bool.and_eq_true] at ap
    exact of_decide_eq_true ap.1
  -- the box's parts apart
  obtain ⟨sp, hsp⟩ : ∃ sp : Addr → Nat, ∀ (j : Nat) (r : Re), cs[j]? = some (Va.b 0) → outs[j]? = some r → ∀ (i : Nat) (r' : Re), (openB r)[i]? = some r' → ResAt T (part own' 0 H') (pa' j) (openB r).length (pa' j i) r' (part sp i (part own' (2 * j + 2) H')) := by
    by_cases hx : ∃ (j : Nat) (r : Re), cs[j]? = some (Va.b 0) ∧ outs[j]? = some r
    · obtain ⟨j, r, h1, h2⟩ := hx
      obtain ⟨sp, h⟩ := top_open (ht j r h2)
      refine ⟨sp, fun j' r' h1' h2' => ?_⟩
      have : j = j' := apart_uniq ap (t := 3) h1 h1' (by simp [cover]) (by simp [cover])
      subst this
      rw [h2] at h2'
      cases h2'
      exact h
    · exact ⟨fun _ => 0, fun j r h1 h2 => absurd ⟨j, r, h1, h2⟩ hx⟩
  let ow : Addr → Nat := fun a => if own' a = 0 then 0 else if own' a = 1 then (if ownIn cs G a = 1 then G.own a else 1) else if own' a % 2 = 1 then 1 else
    match cs[own' a / 2 - 1]? with
    | some (.c k) => 2 * k + 2
    | some (.b 0) => 2 * sp a + 3
    | some (.b (k + 1)) => 2 * k + 5
    | some _ => 1
    | none => if own' a / 2 - 1 = cs.length then 2 * s.W.length + 2 else 1
  have ow0 : ∀ a, own' a = 0 → ow a = 0 := fun a e => by show (if own' a = 0 then 0 else _) = 0; rw [if_pos e]
  have owj : ∀ a j, own' a = 2 * j + 2 → ow a = match cs[j]? with
    | some (.c k) => 2 * k + 2
    | some (.b 0) => 2 * sp a + 3
    | some (.b (k + 1)) => 2 * k + 5
    | some _ => 1
    | none => if j = cs.length then 2 * s.W.length + 2 else 1 := fun a j e => by
    have ej : own' a / 2 - 1 = j := by omega
    show (if own' a = 0 then 0 else if own' a = 1 then (if ownIn cs G a = 1 then G.own a else 1) else if own' a % 2 = 1 then 1 else _) = _
    rw [if_neg (by omega), if_neg (by omega), if_neg (by omega), ej]
  have owk : ∀ a o, H a = some o → ownIn cs G a = 1 → H' a = some o ∧ ow a = G.own a := fun a o e1 e2 => by
    obtain ⟨q1, q2⟩ := ex a o e1 (by omega)
    refine ⟨q1, ?_⟩
    rw [e2] at q2
    show (if own' a = 0 then 0 else if own' a = 1 then (if ownIn cs G a = 1 then G.own a else 1) else _) = _
    rw [if_neg (by omega), if_pos q2, if_pos e2]
  have x : ∀ n' m', s.W.length ≤ n' → s.B.length ≤ m' → ∀ bd : Nat → Addr, (∀ k, k < s.B.length → bd k = G.bdr k) → Ext G H s.W.length s.B.length ⟨ow, G.adr, bd⟩ H' n' m' := fun n' m' hn' hm' bd hbd => by
    refine ⟨fun a o e1 e2 => ?_, fun _ _ => rfl, hbd, hn', hm'⟩
    have e3 : ownIn cs G a = G.own a := mt_le e2
    by_cases hz : G.own a = 0
    · obtain ⟨q1, q2⟩ := ex a o e1 (by omega)
      refine ⟨q1, ?_⟩
      show ow a = G.own a
      rw [hz, ow0 a (by omega)]
    · exact owk a o e1 (by omega)
  have dat0 : Same (part own' 0 H') (part ow 0 H') := fun a o q => by
    obtain ⟨q1, q2⟩ := part_iff.mp q
    exact part_iff.mpr ⟨ow0 a q1, q2⟩
  have newS : Same (part own' (2 * cs.length + 2) H') (part ow (2 * s.W.length + 2) H') := fun a o q => by
    obtain ⟨q1, q2⟩ := part_iff.mp q
    refine part_iff.mpr ⟨?_, q2⟩
    rw [owj a cs.length q1, List.getElem?_eq_none (Nat.le_refl _)]
    dsimp only
    rw [if_pos rfl]
  obtain ⟨brho, bWl⟩ := back_rho cs outs s
  -- the world's cells
  have wld : ∀ (k : Nat) (r : Re), (backAll s cs outs).W[k]? = some r → ResAt T (part ow 0 H') z0 0 (G.adr k) r (part ow (2 * k + 2) H') := by
    intro k r e
    have hk : k < s.W.length := by
      rcases Nat.lt_or_ge k s.W.length with z | z
      · exact z
      · rw [List.getElem?_eq_none (by omega)] at e; cases e
    obtain ⟨w1, w2⟩ := back_W cs outs s ol nd k hk
    by_cases hx : ∃ j : Nat, cs[j]? = some (Va.c k)
    · obtain ⟨j, hj⟩ := hx
      have hjl : j < outs.length := by
        rw [ol]
        rcases Nat.lt_or_ge j cs.length with z | z
        · exact z
        · rw [List.getElem?_eq_none z] at hj; cases hj
      have ho : outs[j]? = some outs[j] := List.getElem?_eq_getElem hjl
      have e' := w1 j _ hj ho
      rw [e'] at e
      cases e
      have q := (ht j _ ho).res
      rw [h0 j _ hj] at q
      refine q.mono dat0 (fun a o q => ?_) (Nat.le_refl _) fun _ _ => rfl
      obtain ⟨q1, q2⟩ := part_iff.mp q
      exact part_iff.mpr ⟨by rw [owj a j q1, hj], q2⟩
    · have e' := w2 fun j hj => hx ⟨j, hj⟩
      rw [e'] at e
      refine (R.wld k r e).mono ((x _ _ (Nat.le_refl _) (Nat.le_refl _) G.bdr fun _ _ => rfl).data) (fun a o q => ?_) (Nat.le_refl _) fun _ _ => rfl
      obtain ⟨q1, q2⟩ := part_iff.mp q
      have nc : ownIn cs G a = 1 := by
        show mt cs (G.own a) = 1
        rw [q1]
        unfold mt
        rw [if_neg (by omega)]
        refine mtc_none fun v hv => ?_
        cases q : cover v (2 * k + 2) with
        | false => rfl
        | true =>
          obtain ⟨j, hj⟩ := List.mem_iff_getElem?.mp hv
          cases v with
          | c n => simp [cover] at q; exact absurd ⟨j, by rw [hj]; congr 2; omega⟩ hx
          | b n => cases n with
            | zero => simp [cover] at q <;> omega
            | succ n => simp [cover] at q <;> omega
          | _ => cases q
      obtain ⟨z1, z2⟩ := owk a o q2 nc
      exact part_iff.mpr ⟨z2.trans q1, z1⟩
  by_cases hx0 : ∃ j : Nat, cs[j]? = some (Va.b 0)
  · -- the box went whole
    obtain ⟨j0, hj0⟩ := hx0
    have nob : ∀ (j k : Nat), cs[j]? ≠ some (Va.b (k + 1)) := fun j k hj => by
      have := apart_uniq ap (t := 2 * k + 5) hj hj0 (by simp [cover]) (by simp [cover] <;> omega)
      subst this
      rw [hj0] at hj
      cases hj
    have hjl : j0 < outs.length := by
      rw [ol]
      rcases Nat.lt_or_ge j0 cs.length with z | z
      · exact z
      · rw [List.getElem?_eq_none z] at hj0; cases hj0
    have ho : outs[j0]? = some outs[j0] := List.getElem?_eq_getElem hjl
    have eB := back_B0 cs outs s ol nd nob j0 _ hj0 ho
    have xB := x (backAll s cs outs).W.length (backAll s cs outs).B.length (by omega) (by rw [eB]; exact ob j0 _ hj0 ho) (pa' j0) (hb j0 hj0)
    refine ⟨⟨ow, G.adr, pa' j0⟩, ⟨by rw [brho]; exact R.len, fun i v e => ?_, wld, fun k r e => ?_⟩, xB, dat0, newS⟩
    · rw [brho] at e
      obtain ⟨u, q1, q2⟩ := R.slot i v e
      exact ⟨u, q1, q2.ext xB⟩
    · rw [eB] at e ⊢
      refine (hsp j0 _ hj0 ho k r e).mono dat0 (fun a o q => ?_) (Nat.le_refl _) fun _ _ => rfl
      obtain ⟨q1, q2⟩ := part_iff.mp q
      obtain ⟨q3, q4⟩ := part_iff.mp q2
      exact part_iff.mpr ⟨by show ow a = _; rw [owj a j0 q3, hj0]; dsimp only; rw [q1], q4⟩
  · -- parts of the box, one by one
    have no0 : ∀ j : Nat, cs[j]? ≠ some (Va.b 0) := fun j hj => hx0 ⟨j, hj⟩
    obtain ⟨bl, bB⟩ := back_B cs outs s ol nd no0
    have xB := x (backAll s cs outs).W.length (backAll s cs outs).B.length (by omega) (by omega) G.bdr fun _ _ => rfl
    refine ⟨⟨ow, G.adr, G.bdr⟩, ⟨by rw [brho]; exact R.len, fun i v e => ?_, wld, fun k r e => ?_⟩, xB, dat0, newS⟩
    · rw [brho] at e
      obtain ⟨u, q1, q2⟩ := R.slot i v e
      exact ⟨u, q1, q2.ext xB⟩
    · have hk : k < s.B.length := by
        rcases Nat.lt_or_ge k s.B.length with z | z
        · exact z
        · rw [List.getElem?_eq_none (by omega)] at e; cases e
      obtain ⟨w1, w2⟩ := bB k hk
      rw [bl]
      by_cases hx : ∃ j : Nat, cs[j]? = some (Va.b k)
      · obtain ⟨j, hj⟩ := hx
        have hjl : j < outs.length := by
          rw [ol]
          rcases Nat.lt_or_ge j cs.length with z | z
          · exact z
          · rw [List.getElem?_eq_none z] at hj; cases hj
        have ho : outs[j]? = some outs[j] := List.getElem?_eq_getElem hjl
        have e' := w1 j _ hj ho
        rw [e'] at e
        cases e
        have q := (ht j _ ho).res
        rw [h0 j _ hj] at q
        refine q.weak.mono dat0 (fun a o q => ?_) (Nat.le_refl _) fun _ _ => rfl
        obtain ⟨q1, q2⟩ := part_iff.mp q
        refine part_iff.mpr ⟨?_, q2⟩
        show ow a = _
        rw [owj a j q1, hj]
        cases k with
        | zero => exact absurd hj (no0 j)
        | succ k => show 2 * k + 5 = 2 * (k + 1) + 3; omega
      · have e' := w2 fun j hj => hx ⟨j, hj⟩
        rw [e'] at e
        refine (R.bx k r e).mono xB.data (fun a o q => ?_) (Nat.le_refl _) fun _ _ => rfl
        obtain ⟨q1, q2⟩ := part_iff.mp q
        have nc : ownIn cs G a = 1 := by
          show mt cs (G.own a) = 1
          rw [q1]
          unfold mt
          rw [if_neg (by omega)]
          refine mtc_none fun v hv => ?_
          cases q : cover v (2 * k + 3) with
          | false => rfl
          | true =>
            obtain ⟨j, hj⟩ := List.mem_iff_getElem?.mp hv
            cases v with
            | c n => simp [cover] at q; omega
            | b n => cases n with
              | zero => exact absurd hj (no0 j)
              | succ n => simp [cover] at q; exact absurd ⟨j, by rw [hj]; congr 2; omega⟩ hx
            | _ => cases q
        obtain ⟨z1, z2⟩ := owk a o q2 nc
        exact part_iff.mpr ⟨z2.trans q1, z1⟩
end
section
variable {T : Tn} {G : Gh} {H : Hp} {σ : St} {s : Sg}
/-- a new element of the box -/
theorem Rel.allocB {H' : Hp} {p : Addr} {own' : Addr → Nat} {r : Re} (R : Rel T G s σ H) (m : Same H H') (k : ∀ a o, H a = some o → own' a = G.own a) (hr : ResAt T (part own' 0 H') z0 0 p r (part own' (2 * s.B.length + 3) H')) :
    Rel T { G with own := own', bdr := fun j => if j = s.B.length then p else G.bdr j } { s with B := s.B ++ [r] } σ H' ∧ Ext G H s.W.length s.B.length { G with own := own', bdr := fun j => if j = s.B.length then p else G.bdr j } H' s.W.length (s.B ++ [r]).length := by
  have pm : ∀ t, Same (part G.own t H) (part own' t H') := fun t a o h => by
    obtain ⟨e, q⟩ := part_iff.mp h
    exact part_iff.mpr ⟨(k a o q).trans e, m a o q⟩
  have ea : ∀ j, j < s.B.length → (if j = s.B.length then p else G.bdr j) = G.bdr j := fun j hj => if_neg (by omega)
  have hl : (s.B ++ [r]).length = s.B.length + 1 := by simp
  refine ⟨⟨R.len, fun i v e => ?_, fun i r' e => ?_, fun i r' e => ?_⟩, ⟨fun a o h _ => ⟨m a o h, k a o h⟩, fun _ _ => rfl, ea, Nat.le_refl _, by simp⟩⟩
  · obtain ⟨u, e1, q⟩ := R.slot i v e
    exact ⟨u, e1, VRep.mono (pm 0) (Nat.le_refl _) (by simp) (fun _ _ => rfl) ea q⟩
  · exact (R.wld i r' e).mono (pm 0) (pm _) (Nat.le_refl _) fun _ _ => rfl
  · have e : (s.B ++ [r])[i]? = some r' := e
    by_cases hi : i < s.B.length
    · rw [List.getElem?_append_left hi] at e
      show ResAt T _ _ _ (if i = s.B.length then p else G.bdr i) r' _
      rw [ea i hi]
      exact (R.bx i r' e).mono (pm 0) (pm _) (by simp) ea
    · have hi2 : i = s.B.length := by
        rcases Nat.lt_or_ge i (s.B ++ [r]).length with z | z
        · simp at z; omega
        · rw [List.getElem?_eq_none z] at e; cases e
      subst hi2
      rw [List.getElem?_append_right (Nat.le_refl _), Nat.sub_self] at e
      cases e
      show ResAt T _ _ _ (if s.B.length = s.B.length then p else G.bdr s.B.length) r _
      rw [if_pos rfl]
      exact hr.weak
/-- a tag becomes another one -/
theorem Rel.move {t0 t1 : Nat} (R : Rel T G s σ H) (h0 : t0 ≠ 0) (hW : ∀ k, k < s.W.length → t0 ≠ 2 * k + 2) (hB : ∀ k, k < s.B.length → t0 ≠ 2 * k + 3) : Rel T { G with own := fun a => if G.own a = t0 then t1 else G.own a } s σ H := by
  have m : ∀ t, t ≠ t0 → Same (part G.own t H) (part (fun a => if G.own a = t0 then t1 else G.own a) t H) := fun t ht a o q => by
    obtain ⟨q1, q2⟩ := part_iff.mp q
    refine part_iff.mpr ⟨?_, q2⟩
    show (if G.own a = t0 then t1 else G.own a) = t
    rw [if_neg (by omega)]; exact q1
  refine ⟨R.len, fun i v e => ?_, fun k r e => ?_, fun k r e => ?_⟩
  · obtain ⟨u, q1, q2⟩ := R.slot i v e
    exact ⟨u, q1, VRep.mono (m 0 (Ne.symm h0)) (Nat.le_refl _) (Nat.le_refl _) (fun _ _ => rfl) (fun _ _ => rfl) q2⟩
  · have hk : k < s.W.length := by
      rcases Nat.lt_or_ge k s.W.length with z | z
      · exact z
      · rw [List.getElem?_eq_none z] at e; cases e
    exact (R.wld k r e).mono (m 0 (Ne.symm h0)) (m _ (Ne.symm (hW k hk))) (Nat.le_refl _) fun _ _ => rfl
  · exact (R.bx k r e).mono (m 0 (Ne.symm h0)) (m _ (Ne.symm (hB k (bx_len e)))) (Nat.le_refl _) fun _ _ => rfl
end
section
variable {X : Cx} {T : Tn} {W : WX} (hK : X.K = T.K)
include hK
theorem resOf_lt {s : Sg} {v : Va} {r : Re} (e : resOf s v = some r) : (∃ k, v = .c k ∧ k < s.W.length) ∨ ∃ k, v = .b k ∧ k < s.B.length := by
  cases v with
  | c k =>
    refine .inl ⟨k, rfl, ?_⟩
    rcases Nat.lt_or_ge k s.W.length with z | z
    · exact z
    · have e : s.W[k]? = some r := e
      rw [List.getElem?_eq_none z] at e; cases e
  | b k =>
    refine .inr ⟨k, rfl, ?_⟩
    cases k with
    | zero =>
      simp only [resOf] at e
      split at e
      · rename_i c fs rs hB
        rw [hB]; simp
      · cases e
    | succ k => exact bx_len (r := r) e
  | d x => cases e
  | x n => cases e
  | s n => cases e
theorem resOf_size {s : Sg} {r : Re} (e : resOf s (.b 0) = some r) : r.size = s.B.length := by
  simp only [resOf] at e
  split at e
  · rename_i c fs rs hB
    cases e
    rw [hB]
    cases rs <;> rfl
  · cases e
/-- a call by value and result keeps the callee's promise -/
theorem run_rd {G : Gh} {H : Hp} {σ : St} {s : Sg} {φ : Fn} {op : Bool} {m : Nat} {vs : List Va} {us : List V} {Q : VK} (R : Rel T G s σ H) (r : vreps T vs s G H us)
    (h : Po T W G H s.W.length s.B.length σ (fun v s G H u => vrep T s G H v u) (run φ op m vs s) (fun _ _ _ H' u => Q u H')) : spF T op φ us H Q (fun cls d H' => W cls d σ H') := by
  unfold run at h
  split at h
  · exact h.elim
  · rename_i as cs e
    split at h
    · rename_i ap
      rw [Bool.and_eq_true] at ap
      obtain ⟨ap, b0⟩ := ap
      obtain ⟨_, rl, rg⟩ := toAvs_args R (pa := fun j _ => match cs[j]? with
        | some v => addrOf G v
        | none => 0) (j0 := 0) r e (fun j v hj => by simp [hj])
      obtain ⟨pa, hpa⟩ := Classical.axiomOfChoice (r := fun (j : Nat) (p : Nat → Addr) => ∀ v r, cs[j]? = some v → (resL as)[j]? = some r → p 0 = addrOf G v ∧ (v = .b 0 → p = G.bdr) ∧ TopAt T (part (ownIn cs G) 0 H) p r (part (ownIn cs G) (2 * j + 2) H)) (fun j => by
          by_cases hx : ∃ v r, cs[j]? = some v ∧ (resL as)[j]? = some r
          · obtain ⟨v, r, h1, h2⟩ := hx
            obtain ⟨v', q1, q2, q3⟩ := rg j r h2
            rw [h1] at q1
            cases q1
            obtain ⟨p, p1, p2, p3⟩ := top_in R ap h1 q2 q3
            refine ⟨p, fun v' r' h1' h2' => ?_⟩
            rw [h1] at h1'
            rw [h2] at h2'
            cases h1'
            cases h2'
            exact ⟨p1, p2, p3⟩
          · exact ⟨z0, fun v r h1 h2 => absurd ⟨v, r, h1, h2⟩ hx⟩)
      have hres : ∀ (j : Nat) (v : Va), cs[j]? = some v → ∃ r, (resL as)[j]? = some r := fun j v hj => by
        have : j < (resL as).length := by
          rw [rl]
          rcases Nat.lt_or_ge j cs.length with z | z
          · exact z
          · rw [List.getElem?_eq_none z] at hj; cases hj
        exact ⟨_, List.getElem?_eq_getElem this⟩
      have h0 : ∀ (j : Nat) (v : Va), cs[j]? = some v → pa j 0 = addrOf G v := fun j v hj => by
        obtain ⟨r, hr⟩ := hres j v hj
        exact (hpa j v r hj hr).1
      obtain ⟨ar, _, _⟩ := toAvs_args R (pa := pa) (j0 := 0) r e (fun j v hj => by rw [Nat.zero_add]; exact h0 j v hj)
      refine ⟨ownIn cs G, pa, as, by rw [part_in0]; exact ar, fun j r hr => ?_, ?_⟩
      · obtain ⟨v, q1, _, _⟩ := rg j r hr
        exact (hpa j v r q1 hr).2.2
      -- what is the same behind, ahead of the cases
      have back : ∀ {outs : List Re} {own' : Addr → Nat} {pa' : Nat → Nat → Addr} {H' : Hp}, backOk s cs outs = true → Ex (ownIn cs G) H own' H' → (∀ (j : Nat) (r : Re), (resL as)[j]? = some r → pa' j 0 = pa j 0 ∧ (op = true → j = 0 → ∀ i, i < r.size → pa' j i = pa j i)) →
          (∀ (j : Nat) (r : Re), outs[j]? = some r → TopAt T (part own' 0 H') (pa' j) r (part own' (2 * j + 2) H')) →
          ∃ G', Rel T G' (backAll s cs outs) σ H' ∧ Ext G H s.W.length s.B.length G' H' (backAll s cs outs).W.length (backAll s cs outs).B.length ∧ Same (part own' 0 H') (part G'.own 0 H') ∧ Same (part own' (2 * cs.length + 2) H') (part G'.own (2 * s.W.length + 2) H') := by
        intro outs own' pa' H' bo ex hp ht
        refine back_rel (pa := pa) R ap bo ex (fun j v hj => ?_) (fun j hj i hi => ?_) (fun j v hj => ?_) ht
        · obtain ⟨r, hr⟩ := hres j v hj
          rw [(hp j r hr).1]; exact h0 j v hj
        · obtain ⟨r, hr⟩ := hres j _ hj
          obtain ⟨v, q1, q2, _⟩ := rg j r hr
          rw [hj] at q1
          cases q1
          have hz : op = true ∧ j = 0 := by
            cases cs with
            | nil => simp at hj
            | cons w ws =>
              simp only [b0ok, Bool.and_eq_true, Bool.or_eq_true] at b0
              cases j with
              | zero =>
                have : w = .b 0 := by simpa using hj
                subst this
                rcases b0.1 with z | z
                · simp [Va.tag] at z
                · exact ⟨z, rfl⟩
              | succ j =>
                have := List.all_eq_true.mp b0.2 _ (List.mem_of_getElem? (i := j) (by simpa using hj))
                simp [Va.tag] at this
          rw [(hp j r hr).2 hz.1 hz.2 i (by rw [resOf_size hK q2]; exact hi), (hpa j _ r hj hr).2.1 rfl]
        · obtain ⟨r, hr⟩ := hres j v hj
          obtain ⟨v', q1, q2, _⟩ := rg j r hr
          rw [hj] at q1
          cases q1
          exact resOf_lt hK q2
      cases hφ : φ as with
      | stuck => rw [hφ] at h; exact h.elim
      | err c outs =>
        rw [hφ] at h
        dsimp only at h ⊢
        split at h
        · rename_i bo
          refine ⟨(backOk_len bo).1.trans rl.symm, fun own' pa' H' ex hp ht => ?_⟩
          obtain ⟨G', R', x', _, _⟩ := back bo ex hp ht
          exact h G' H' x' R'
        · exact h.elim
      | ok v outs =>
        rw [hφ] at h
        dsimp only at h ⊢
        split at h
        · rename_i bo
          refine ⟨(backOk_len bo).1.trans rl.symm, fun own' pa' H' u ex hp ht ov => ?_⟩
          obtain ⟨G', R', x', m0, mn⟩ := back bo ex hp ht
          cases v with
          | d y => exact h G' H' u x' R' (dp_mono m0 _ _ ov)
          | x n => exact h.elim
          | s n => exact h.elim
          | r re =>
            rw [rl] at ov
            obtain ⟨eu, tp⟩ := ov
            obtain ⟨_, bWl⟩ := back_rho cs outs s
            have hr : ResAt T (part G'.own 0 H') z0 0 (pa' cs.length 0) re (part G'.own (2 * (backAll s cs outs).W.length + 2) H') := by
              rw [bWl]
              exact tp.res.mono m0 mn (Nat.le_refl _) fun _ _ => rfl
            dsimp only at h
            split at h
            · obtain ⟨R2, x2⟩ := Rel.alloc hK R' (Same.refl _) (fun _ _ _ => rfl) hr
              rw [eu]
              exact h _ H' _ (x'.trans x2) R2 ⟨by simp, by simp⟩
            · split at h
              · have R1 := Rel.move (t0 := 2 * (backAll s cs outs).W.length + 2) (t1 := 2 * (backAll s cs outs).B.length + 3) R' (by omega) (fun k hk => by omega) (fun k hk => by omega)
                have m0' : Same (part G'.own 0 H') (part (fun a => if G'.own a = 2 * (backAll s cs outs).W.length + 2 then 2 * (backAll s cs outs).B.length + 3 else G'.own a) 0 H') := fun a o q => by
                  obtain ⟨q1, q2⟩ := part_iff.mp q
                  exact part_iff.mpr ⟨by rw [if_neg (by omega)]; exact q1, q2⟩
                have mn' : Same (part G'.own (2 * (backAll s cs outs).W.length + 2) H') (part (fun a => if G'.own a = 2 * (backAll s cs outs).W.length + 2 then 2 * (backAll s cs outs).B.length + 3 else G'.own a) (2 * (backAll s cs outs).B.length + 3) H') := fun a o q => by
                  obtain ⟨q1, q2⟩ := part_iff.mp q
                  exact part_iff.mpr ⟨by rw [if_pos q1], q2⟩
                have x1 : Ext G H s.W.length s.B.length { G' with own := fun a => if G'.own a = 2 * (backAll s cs outs).W.length + 2 then 2 * (backAll s cs outs).B.length + 3 else G'.own a } H' (backAll s cs outs).W.length (backAll s cs outs).B.length := by
                  refine ⟨fun a o e t => ?_, x'.adr, x'.bdr, x'.nc, x'.nb⟩
                  obtain ⟨k1, k2⟩ := x'.keep a o e t
                  refine ⟨k1, ?_⟩
                  dsimp only
                  rw [if_neg (by omega)]; exact k2
                obtain ⟨R2, x2⟩ := Rel.allocB (p := pa' cs.length 0) (r := re) R1 (Same.refl _) (fun _ _ _ => rfl) (hr.mono m0' mn' (Nat.le_refl _) fun _ _ => rfl)
                rw [eu]
                exact h _ H' _ (x1.trans x2) R2 ⟨by simp, by simp⟩
              · exact h.elim
        · exact h.elim
    · exact h.elim
/-- f(..) of a def that computes φ -/
theorem s_call {k : Nat} {f : Addr} {fd : FuncData} {ps : List Str} {φ : Fn} {x : Str} {e : Expr} {es : List Expr} {fa : M (List Va)} {p pos : Pos} (F : FnOk X.prog X.w X.K X.mg X.base (L2.CX X.prog X.w) k f fd ps (spF T false φ)) (hr : Room k X.A) (hg : Gl X x) (hm : X.mg x = some (.ref f)) (hk : PySem.W.keepIn X.K (.ref f) = true) (hb : Binds X.K fd ps []) (tk : Takes X W)
    (ha : PA X (e :: es) (tL T W fa)) (hdb : (x == ("__debug__" : Str)) = false) (he : starEach (e :: es) X.env = (false, eval e X.env) :: starEach es X.env) (hpl : (backTo pos (starEach es X.env)).any (·.1) = false) :
    PE X (.Call (.Name x p) (e :: es) [] pos) (tE T W fun s => (fa s).bind fun vs s => (run φ false 0 vs s).bind fun v s => .ok [v] s) := by
  refine pe_imp (pe_callS F hr hg hm hk hb (fun σ => passAt tk σ) ha hdb he hpl) fun σ H Q ⟨s, G, R, h⟩ => ⟨s, G, R, (h.bind (rep' := vreps T)).imp fun vs s1 G1 H1 us x1 R1 r1 h1 => ?_⟩
  have h1 := h1.2
  refine run_rd hK (m := 0) R1 r1 ?_
  cases q : run φ false 0 vs s1 with
  | stuck => rw [q] at h1; exact h1.elim
  | err c s2 => rw [q] at h1; exact h1
  | ok v s2 =>
    rw [q] at h1
    intro G' H' u x2 R2 r2
    obtain ⟨u', e1, q2⟩ := h1 G' H' [u] x2 R2 (.cons r2 .nil)
    cases e1
    exact q2
end
end BC

/-! BDef: a def whose body is checked keeps its promise. -/
namespace BC
open PySem L2
section
variable {T : Tn}
theorem ResAt.top0 {F : Hp} {a : Addr} {r : Re} {Hm : Hp} (h : ResAt T F z0 0 a r Hm) : ∃ pa, pa 0 = a ∧ TopAt T F pa r Hm := by
  cases r with
  | box rs => cases h with | box e h => exact ⟨_, e, .box h⟩
  | _ => exact ⟨fun _ => a, rfl, .one rfl h⟩
theorem enterW_res : ∀ (as : List Av) (k : Nat), (enter.enterW k as).2 = resL as
  | [], _ => rfl
  | .r r :: as, k => by show r :: (enter.enterW (k + 1) as).2 = _; rw [enterW_res as]; rfl
  | .d _ :: as, k => enterW_res as k
  | .x _ :: as, k => enterW_res as k
  | .s _ :: as, k => enterW_res as k
def SlotRep (T : Tn) (F : Hp) (ca ba : Nat → Addr) (nc nb : Nat) (o : Option Va) (u : V) : Prop := ∃ v, o = some v ∧ VRep T F ca ba nc nb v u
theorem enterW_rep {F : Hp} {pa : Nat → Nat → Addr} {ca ba : Nat → Addr} {nc nb : Nat} {j : Nat} {as : List Av} {us : List V} (h : ArgsRep T F pa j as us) :
    ∀ k, (∀ i, i < (resL as).length → ca (k + i) = pa (j + i) 0) → k + (resL as).length ≤ nc → Paired (SlotRep T F ca ba nc nb) (enter.enterW k as).1 us := by
  induction h with
  | nil => intro k _ _; exact .nil
  | d hx _ ih => intro k h1 h2; exact .cons ⟨_, rfl, hx⟩ (ih k h1 h2)
  | x hx _ ih => intro k h1 h2; exact .cons ⟨.x _, rfl, _, rfl, hx⟩ (ih k h1 h2)
  | s hx _ ih => intro k h1 h2; exact .cons ⟨.s _, rfl, _, rfl, hx⟩ (ih k h1 h2)
  | r _ ih =>
    intro k h1 h2
    have l : ∀ (r : Re) (as : List Av), (resL (.r r :: as)).length = (resL as).length + 1 := fun _ _ => rfl
    rw [l] at h1 h2
    have h10 : ca k = pa _ 0 := h1 0 (by omega)
    refine .cons ⟨.c k, rfl, by omega, by rw [h10]; rfl⟩ (ih (k + 1) (fun i hi => ?_) (by omega))
    have := h1 (i + 1) (by omega)
    rw [show k + 1 + i = k + (i + 1) by omega, this]
    congr 1
    omega
theorem start_slots {F : Hp} {ca ba : Nat → Addr} {nc nb n : Nat} {os : List (Option Va)} {us : List V} (h : Paired (SlotRep T F ca ba nc nb) os us) : ∀ (i : Nat) (v : Va), (os ++ List.replicate n none)[i]? = some (some v) → ∃ u, (us.map some ++ List.replicate n (none : Option V))[i]? = some (some u) ∧ VRep T F ca ba nc nb v u := by
  induction h with
  | nil =>
    intro i v e
    rw [List.nil_append, List.getElem?_replicate] at e
    split at e <;> cases e
  | cons a _ ih =>
    intro i v e
    cases i with
    | zero =>
      obtain ⟨w, e1, e2⟩ := a
      subst e1
      have : w = v := by simpa using e
      subst this
      exact ⟨_, rfl, e2⟩
    | succ i => exact ih i v (by simpa using e)
theorem argsRep_len {F : Hp} {pa : Nat → Nat → Addr} {j : Nat} {as : List Av} {us : List V} (h : ArgsRep T F pa j as us) : as.length = us.length := by
  induction h with
  | nil => rfl
  | _ => simp_all
/-- the end of a def, towards its caller -/
theorem exit_rd {G G' : Gh} {H H' : Hp} {n0 m0 : Nat} {s' : Sg} {σ' : St} (R' : Rel T G' s' σ' H') (x : Ext G H n0 m0 G' H' s'.W.length s'.B.length) {op : Bool} {n kr : Nat} {os : List Re} (eo : outs op n s' = some os)
    {own : Addr → Nat} {pa : Nat → Nat → Addr} (ho : ∀ a, own a ≤ 1 → G.own a = own a) (hn : n ≤ n0) (hW : ∀ k, k < n → G.adr k = pa (k + (if op then 1 else 0)) 0) (hB : op = true → G.bdr = pa 0 ∧ 1 ≤ m0) :
    ∃ (own' : Addr → Nat) (pa' : Nat → Nat → Addr), Ex own H own' H' ∧ os.length = n + (if op then 1 else 0) ∧ (∀ j, j < os.length → pa' j 0 = pa j 0) ∧ (op = true → ∀ i, i < m0 → pa' 0 i = pa 0 i) ∧
      (∀ (j : Nat) (r : Re), os[j]? = some r → TopAt T (part own' 0 H') (pa' j) r (part own' (2 * j + 2) H')) ∧ Same (part G'.own 0 H') (part own' 0 H') ∧
      (n ≤ kr → ∀ r, s'.W[kr]? = some r → pa' os.length 0 = G'.adr kr ∧ TopAt T (part own' 0 H') (pa' os.length) r (part own' (2 * os.length + 2) H')) := by
  let off : Nat := if op then 1 else 0
  let ow : Addr → Nat := fun a => if G'.own a = 0 then 0 else if G'.own a % 2 = 1 then (if op = true ∧ 3 ≤ G'.own a then 2 else 1) else
    if G'.own a / 2 - 1 < n then 2 * (G'.own a / 2 - 1 + off) + 2 else if G'.own a / 2 - 1 = kr then 2 * (n + off) + 2 else 1
  have d0 : Same (part G'.own 0 H') (part ow 0 H') := fun a o q => by
    obtain ⟨q1, q2⟩ := part_iff.mp q
    exact part_iff.mpr ⟨by show (if G'.own a = 0 then 0 else _) = 0; rw [if_pos q1], q2⟩
  have dk : ∀ k, k < n → Same (part G'.own (2 * k + 2) H') (part ow (2 * (k + off) + 2) H') := fun k hk a o q => by
    obtain ⟨q1, q2⟩ := part_iff.mp q
    refine part_iff.mpr ⟨?_, q2⟩
    show (if G'.own a = 0 then 0 else if G'.own a % 2 = 1 then _ else if G'.own a / 2 - 1 < n then 2 * (G'.own a / 2 - 1 + off) + 2 else _) = _
    rw [if_neg (by omega), if_neg (by omega), if_pos (by omega)]
    omega
  have dr : n ≤ kr → Same (part G'.own (2 * kr + 2) H') (part ow (2 * (n + off) + 2) H') := fun hk a o q => by
    obtain ⟨q1, q2⟩ := part_iff.mp q
    refine part_iff.mpr ⟨?_, q2⟩
    show (if G'.own a = 0 then 0 else if G'.own a % 2 = 1 then _ else if G'.own a / 2 - 1 < n then _ else if G'.own a / 2 - 1 = kr then 2 * (n + off) + 2 else 1) = _
    rw [if_neg (by omega), if_neg (by omega), if_neg (by omega), if_pos (by omega)]
  have db : op = true → ∀ i, Same (part G'.own (2 * i + 3) H') (part ow 2 H') := fun hop i a o q => by
    obtain ⟨q1, q2⟩ := part_iff.mp q
    refine part_iff.mpr ⟨?_, q2⟩
    show (if G'.own a = 0 then 0 else if G'.own a % 2 = 1 then (if op = true ∧ 3 ≤ G'.own a then 2 else 1) else _) = _
    rw [if_neg (by omega), if_pos (by omega), if_pos ⟨hop, by omega⟩]
  have ex : Ex own H ow H' := fun a o e t => by
    have e1 := ho a t
    obtain ⟨q1, q2⟩ := x.keep a o e (by omega)
    refine ⟨q1, ?_⟩
    rw [e1] at q2
    show (if G'.own a = 0 then 0 else if G'.own a % 2 = 1 then (if op = true ∧ 3 ≤ G'.own a then 2 else 1) else _) = own a
    by_cases hz : own a = 0
    · rw [if_pos (by omega)]; omega
    · rw [if_neg (by omega), if_pos (by omega), if_neg (by omega)]; omega
  -- addresses of the world's cells
  obtain ⟨wa, hwa⟩ := Classical.axiomOfChoice (r := fun (k : Nat) (p : Nat → Addr) => ∀ r, s'.W[k]? = some r → p 0 = G'.adr k ∧ TopAt T (part G'.own 0 H') p r (part G'.own (2 * k + 2) H')) (fun k => by
    cases q : s'.W[k]? with
    | none => exact ⟨z0, fun r e => by cases e⟩
    | some r =>
      obtain ⟨p, e, t⟩ := (R'.wld k r q).top0
      exact ⟨p, fun r' e' => by cases e'; exact ⟨e, t⟩⟩)
  have eoff : (if op = true then 1 else 0) = off := rfl
  unfold outs at eo
  split at eo
  · rename_i hle
    cases op with
    | false =>
      simp only [Bool.false_eq_true, if_false] at eo
      cases eo
      have ol : (s'.W.take n).length = n := by rw [List.length_take]; omega
      refine ⟨ow, fun j => if j < n then wa j else wa kr, ex, by simp [ol], fun j hj => ?_, (fun h => by cases h), fun j r hr => ?_, d0, fun hk r hr => ?_⟩
      · have hj : j < n := by omega
        dsimp only
        rw [if_pos hj]
        have hr : s'.W[j]? = some s'.W[j] := List.getElem?_eq_getElem (by omega)
        rw [(hwa j _ hr).1, x.adr j (by omega), hW j hj]
        rfl
      · have hj : j < n := by
          rcases Nat.lt_or_ge j n with z | z
          · exact z
          · rw [List.getElem?_eq_none (by omega)] at hr; cases hr
        rw [List.getElem?_take_of_lt hj] at hr
        dsimp only
        rw [if_pos hj]
        exact (hwa j r hr).2.mono d0 (dk j hj)
      · rw [ol]
        dsimp only
        rw [if_neg (Nat.lt_irrefl _)]
        exact ⟨(hwa kr r hr).1, (hwa kr r hr).2.mono d0 (dr hk)⟩
    | true =>
      obtain ⟨hb1, hb2⟩ := hB rfl
      simp only [if_true] at eo
      have hbl : m0 ≤ s'.B.length := x.nb
      have fin : ∀ rb : Re, os = rb :: s'.W.take n → TopAt T (part ow 0 H') G'.bdr rb (part ow 2 H') →
          ∃ (own' : Addr → Nat) (pa' : Nat → Nat → Addr), Ex own H own' H' ∧ os.length = n + 1 ∧ (∀ j, j < os.length → pa' j 0 = pa j 0) ∧ (∀ i, i < m0 → pa' 0 i = pa 0 i) ∧
          (∀ (j : Nat) (r : Re), os[j]? = some r → TopAt T (part own' 0 H') (pa' j) r (part own' (2 * j + 2) H')) ∧ Same (part G'.own 0 H') (part own' 0 H') ∧
          (n ≤ kr → ∀ r, s'.W[kr]? = some r → pa' os.length 0 = G'.adr kr ∧ TopAt T (part own' 0 H') (pa' os.length) r (part own' (2 * os.length + 2) H')) := by
        intro rb eos tb
        subst eos
        have ol : (rb :: s'.W.take n).length = n + 1 := by rw [List.length_cons, List.length_take]; omega
        refine ⟨ow, fun j => if j = 0 then G'.bdr else if j < n + 1 then wa (j - 1) else wa kr, ex, ol, fun j hj => ?_, fun i hi => ?_, fun j r hr => ?_, d0, fun hk r hr => ?_⟩
        · cases j with
          | zero =>
            dsimp only
            rw [if_pos rfl, x.bdr 0 (by omega), hb1]
          | succ j =>
            have hj : j < n := by omega
            dsimp only
            rw [if_neg (by omega), if_pos (by omega), Nat.add_sub_cancel]
            have hr : s'.W[j]? = some s'.W[j] := List.getElem?_eq_getElem (by omega)
            rw [(hwa j _ hr).1, x.adr j (by omega), hW j hj]
            rfl
        · dsimp only
          rw [if_pos rfl, x.bdr i hi, hb1]
        · cases j with
          | zero =>
            have : rb = r := by simpa using hr
            subst this
            dsimp only
            rw [if_pos rfl]
            exact tb
          | succ j =>
            have hr : (s'.W.take n)[j]? = some r := by simpa using hr
            have hj : j < n := by
              rcases Nat.lt_or_ge j n with z | z
              · exact z
              · rw [List.getElem?_eq_none (by rw [List.length_take]; omega)] at hr; cases hr
            rw [List.getElem?_take_of_lt hj] at hr
            dsimp only
            rw [if_neg (by omega), if_pos (by omega), Nat.add_sub_cancel]
            exact (hwa j r hr).2.mono d0 (dk j hj)
        · rw [ol]
          dsimp only
          rw [if_neg (by omega), if_neg (Nat.lt_irrefl _)]
          exact ⟨(hwa kr r hr).1, (hwa kr r hr).2.mono d0 (dr hk)⟩
      have fin' : ∀ rb : Re, os = rb :: s'.W.take n → TopAt T (part ow 0 H') G'.bdr rb (part ow 2 H') →
          ∃ (own' : Addr → Nat) (pa' : Nat → Nat → Addr), Ex own H own' H' ∧ os.length = n + (if true = true then 1 else 0) ∧ (∀ j, j < os.length → pa' j 0 = pa j 0) ∧ (true = true → ∀ i, i < m0 → pa' 0 i = pa 0 i) ∧
          (∀ (j : Nat) (r : Re), os[j]? = some r → TopAt T (part own' 0 H') (pa' j) r (part own' (2 * j + 2) H')) ∧ Same (part G'.own 0 H') (part own' 0 H') ∧
          (n ≤ kr → ∀ r, s'.W[kr]? = some r → pa' os.length 0 = G'.adr kr ∧ TopAt T (part own' 0 H') (pa' os.length) r (part own' (2 * os.length + 2) H')) := fun rb e t => by
        obtain ⟨o, p, q1, q2, q3, q4, q5⟩ := fin rb e t
        exact ⟨o, p, q1, q2, q3, fun _ => q4, q5⟩
      split at eo
      · cases eo
      · rename_i r hBr
        split at eo
        · rename_i hc
          cases eo
          rw [Bool.and_eq_true] at hc
          have q := R'.bx 0 r (by rw [hBr]; rfl)
          obtain ⟨p, e, t⟩ := q.top hc.1
          have t2 := t.res
          rw [e] at t2
          exact fin' r rfl (.one hc.2 (t2.mono d0 (db rfl 0) (Nat.le_refl _) fun _ _ => rfl))
        · cases eo
      · rename_i rs hne1 hne2
        cases eo
        refine fin' (.box s'.B) rfl (.box (own := fun a => (G'.own a - 3) / 2) fun i r' hi => ?_)
        refine (R'.bx i r' hi).mono d0 (fun a o q => ?_) (Nat.le_refl _) fun _ _ => rfl
        obtain ⟨q1, q2⟩ := part_iff.mp q
        exact part_iff.mpr ⟨by show (G'.own a - 3) / 2 = i; rw [q1]; omega, db rfl i a o q⟩
  · cases eo
theorem enter_false (as : List Av) : enter false as = ((enter.enterW 0 as).1, [], (enter.enterW 0 as).2) := by
  cases as with
  | nil => rfl
  | cons a as => cases a <;> rfl
theorem enterW_len : ∀ (as : List Av) (k : Nat), (enter.enterW k as).1.length = as.length
  | [], _ => rfl
  | .r r :: as, k => by show ((some (Va.c k)) :: (enter.enterW (k + 1) as).1).length = _; simp [enterW_len as]
  | .d x :: as, k => by show ((some (Va.d x)) :: (enter.enterW k as).1).length = _; simp [enterW_len as]
  | .x x :: as, k => by show ((some (Va.x x)) :: (enter.enterW k as).1).length = _; simp [enterW_len as]
  | .s x :: as, k => by show ((some (Va.s x)) :: (enter.enterW k as).1).length = _; simp [enterW_len as]
/-- a def's entry -/
theorem entry_rd {own : Addr → Nat} {pa : Nat → Nat → Addr} {as : List Av} {us : List V} {H : Hp} {op : Bool} {n : Nat} (ar : ArgsRep T (part own 0 H) pa 0 as us)
    (ht : ∀ (j : Nat) (r : Re), (resL as)[j]? = some r → TopAt T (part own 0 H) (pa j) r (part own (2 * j + 2) H)) (hop : op = true → boxed true as = true) :
    ∃ G, Rel T G ⟨(enter op as).1 ++ List.replicate n none, (enter op as).2.1, (enter op as).2.2⟩ (us.map some ++ List.replicate n none) H ∧ (∀ a, own a ≤ 1 → G.own a = own a) ∧
      (∀ k, k < (enter op as).2.2.length → G.adr k = pa (k + (if op then 1 else 0)) 0) ∧ (op = true → G.bdr = pa 0) ∧
      (enter op as).2.2.length + (if op then 1 else 0) = (resL as).length ∧ (∀ r, op = true → (resL as)[0]? = some r → r.size = (enter op as).2.1.length) := by
  cases op with
  | false =>
    rw [enter_false]
    refine ⟨⟨fun a => if own a % 2 = 1 then 1 else own a, fun k => pa k 0, z0⟩, ⟨?_, ?_, ?_, ?_⟩, fun a h => ?_, fun k _ => rfl, (fun h => by cases h), by simp [enterW_res], (fun r h => by cases h)⟩
    · show ((enter.enterW 0 as).1 ++ List.replicate n none).length = _
      simp [enterW_len, argsRep_len ar]
    · have e0 : part (fun a => if own a % 2 = 1 then 1 else own a) 0 H = part own 0 H := by
        funext a
        unfold part
        by_cases h : own a = 0
        · rw [if_pos h, if_pos (by show (if own a % 2 = 1 then 1 else own a) = 0; rw [if_neg (by omega)]; exact h)]
        · rw [if_neg h, if_neg (by intro z; apply h; revert z; show (if own a % 2 = 1 then 1 else own a) = 0 → _; split <;> omega)]
      show ∀ (i : Nat) (v : Va), ((enter.enterW 0 as).1 ++ List.replicate n none)[i]? = some (some v) → _
      rw [e0]
      refine start_slots (enterW_rep ar 0 (fun i _ => by rw [Nat.zero_add]) ?_)
      show 0 + _ ≤ (enter.enterW 0 as).2.length
      rw [enterW_res]; omega
    · intro k r e
      have e : (enter.enterW 0 as).2[k]? = some r := e
      rw [enterW_res] at e
      refine (ht k r e).res.mono (fun a o q => ?_) (fun a o q => ?_) (Nat.le_refl _) fun _ _ => rfl
      · obtain ⟨q1, q2⟩ := part_iff.mp q
        exact part_iff.mpr ⟨by show (if own a % 2 = 1 then 1 else own a) = 0; rw [if_neg (by omega)]; exact q1, q2⟩
      · obtain ⟨q1, q2⟩ := part_iff.mp q
        exact part_iff.mpr ⟨by show (if own a % 2 = 1 then 1 else own a) = _; rw [if_neg (by omega)]; exact q1, q2⟩
    · intro k r e
      have e : ([] : List Re)[k]? = some r := e
      simp at e
    · show (if own a % 2 = 1 then 1 else own a) = own a
      split <;> omega
  | true =>
    have hb := hop rfl
    cases as with
    | nil => cases hb
    | cons a as =>
      cases a with
      | d x => cases hb
      | x k => cases hb
      | s k => cases hb
      | r r =>
        cases ar with
        | r ar =>
          rename_i us
          obtain ⟨sp, hsp⟩ := top_open (ht 0 r rfl)
          have e0 : part (fun a => if own a = 0 then 0 else if own a % 2 = 1 then 1 else if own a = 2 then 2 * sp a + 3 else own a - 2) 0 H = part own 0 H := by
            funext a
            unfold part
            by_cases h : own a = 0
            · rw [if_pos h, if_pos (by dsimp only; rw [if_pos h])]
            · rw [if_neg h, if_neg (by dsimp only; rw [if_neg h]; split; decide; split <;> omega)]
          have hlb : 1 ≤ (openB r).length ∨ (openB r) = [] := by
            cases h : openB r with
            | nil => exact .inr rfl
            | cons _ _ => exact .inl (by simp)
          refine ⟨⟨fun a => if own a = 0 then 0 else if own a % 2 = 1 then 1 else if own a = 2 then 2 * sp a + 3 else own a - 2, fun k => pa (k + 1) 0, pa 0⟩, ⟨?_, ?_, ?_, ?_⟩, fun a h => ?_, fun k _ => rfl, fun _ => rfl, ?_, fun r' _ hr => ?_⟩
          · show (((some (Va.b 0)) :: (enter.enterW 0 as).1) ++ List.replicate n none).length = _
            simp [enterW_len, argsRep_len ar]
          · show ∀ (i : Nat) (v : Va), (((some (Va.b 0)) :: (enter.enterW 0 as).1) ++ List.replicate n none)[i]? = some (some v) → _
            rw [e0]
            have h1 : 0 < (openB r).length := by
              rcases hlb with z | z
              · exact z
              · rw [show boxed true (Av.r r :: as) = !(openB r).isEmpty from rfl, z] at hb; cases hb
            have q := enterW_rep (ca := fun k => pa (k + 1) 0) (ba := pa 0) (nc := (enter.enterW 0 as).2.length) (nb := (openB r).length) ar 0 (fun i _ => by (try dsimp only); congr 1; omega) (by rw [enterW_res]; omega)
            exact start_slots (.cons ⟨.b 0, rfl, h1, rfl⟩ q)
          · intro k r' e
            have e : (enter.enterW 0 as).2[k]? = some r' := e
            rw [enterW_res] at e
            refine (ht (k + 1) r' e).res.mono (by rw [e0]; exact Same.refl _) (fun a o q => ?_) (Nat.le_refl _) fun _ _ => rfl
            obtain ⟨q1, q2⟩ := part_iff.mp q
            refine part_iff.mpr ⟨?_, q2⟩
            dsimp only
            rw [if_neg (by omega), if_neg (by omega), if_neg (by omega)]
            omega
          · intro k r' e
            have e : (openB r)[k]? = some r' := e
            refine (hsp k r' e).mono (by rw [e0]; exact Same.refl _) (fun a o q => ?_) (Nat.le_refl _) fun _ _ => rfl
            obtain ⟨q1, q2⟩ := part_iff.mp q
            obtain ⟨q3, q4⟩ := part_iff.mp q2
            refine part_iff.mpr ⟨?_, q4⟩
            dsimp only
            rw [if_neg (by omega), if_neg (by omega), if_pos (by omega), q1]
          · dsimp only
            by_cases hz : own a = 0
            · rw [if_pos hz]; omega
            · rw [if_neg hz, if_pos (by omega)]; omega
          · show (enter.enterW 0 as).2.length + 1 = (resL as).length + 1
            rw [enterW_res]
          · have : r = r' := by simpa [resL] using hr
            subst this
            show r.size = (openB r).length
            cases r <;> rfl
/-- THE RULE: a def whose body is the code's keeps the code's promise -/
theorem def_ok {P : Program} {w : World} {mg : Str → Option Value} {base : Heap} {x qual : Str} {st : Stmt} {f : Addr} {fd : FuncData} {N ps : List Str} {k : Nat} {Φ : Tbl} {gl : Nat → PyData} {code : Cd} {op : Bool} (F : Fun T.K x qual st f fd) (S : FnScope N ps (defScope st)) (hpn : ps.length ≤ N.length)
    (hb : ∀ (cdv : Value) (A : Around) (outer : List Env) (s : Shared) (H : Hp) (E : XK), Room k (A.deeper (PyProof.Rows.envOfC qual (defScope st) s.heap.objs.size f cdv)) →
      PSs (cxOf (L2.CX P w) P w T.K mg base N qual (defScope st) f cdv A outer s H E) (defBody st) (tS T (fun cls d _ H' => E cls d H') (semS Φ gl code))) :
    FnOk P w T.K mg base (L2.CX P w) (k + 1) f fd ps (spF T op (defF Φ gl ps.length N.length op code)) := by
  refine F.okX S (fun vs H Q E h => ?_) fun cdv A outer s H vs Q E hr h => ?_
  · obtain ⟨own, pa, as, ar, _, h⟩ := h
    by_cases hc : as.length = ps.length ∧ ps.length ≤ N.length ∧ (op = true → boxed true as = true)
    · rw [← argsRep_len ar]; exact hc.1
    · rw [show defF Φ gl ps.length N.length op code as = .stuck from if_neg hc] at h
      exact h.elim
  · refine ⟨_, hb cdv A outer s H E hr, ?_⟩
    obtain ⟨own, pa, as, ar, ht, h⟩ := h
    by_cases hc : as.length = ps.length ∧ ps.length ≤ N.length ∧ (op = true → boxed true as = true)
    · rw [show defF Φ gl ps.length N.length op code as = _ from if_pos hc] at h
      obtain ⟨h1, h2, h3⟩ := hc
      have hl := argsRep_len ar
      obtain ⟨G, R, g1, g2, g3, g4, g5⟩ := entry_rd (n := N.length - as.length) ar ht h3
      have est : L2.start N vs = vs.map some ++ List.replicate (N.length - as.length) none := by unfold L2.start; rw [hl]
      rw [est]
      refine ⟨_, G, R, ?_⟩
      have hm0 : op = true → 1 ≤ (enter op as).2.1.length := fun e => by
        have hb := h3 e
        subst e
        cases as with
        | nil => cases hb
        | cons a as => cases a with
          | r r =>
            show 1 ≤ (openB r).length
            cases q : openB r with
            | nil => rw [show boxed true (Av.r r :: as) = !(openB r).isEmpty from rfl, q] at hb; cases hb
            | cons _ _ => simp
          | d _ => cases hb
          | x _ => cases hb
          | s _ => cases hb
      -- the end with a value
      have fin : ∀ (s' : Sg) (v : Va) (G' : Gh) (H' : Hp) (σ' : St) (u : V), Ext G H (enter op as).2.2.length (enter op as).2.1.length G' H' s'.W.length s'.B.length → Rel T G' s' σ' H' → vrep T s' G' H' v u →
          (match leave op (enter op as).2.2.length v s' with
            | .ok v outs => outs.length = (resL as).length ∧ ∀ own' pa' H' u, Ex own H own' H' → (∀ (j : Nat) (r : Re), (resL as)[j]? = some r → pa' j 0 = pa j 0 ∧ (op = true → j = 0 → ∀ i, i < r.size → pa' j i = pa j i)) →
                (∀ (j : Nat) (r : Re), outs[j]? = some r → TopAt T (part own' 0 H') (pa' j) r (part own' (2 * j + 2) H')) → OutV T own' pa' H' (resL as).length v u → Q u H'
            | .err c outs => outs.length = (resL as).length ∧ ∀ own' (pa' : Nat → Nat → Addr) H', Ex own H own' H' → (∀ (j : Nat) (r : Re), (resL as)[j]? = some r → pa' j 0 = pa j 0 ∧ (op = true → j = 0 → ∀ i, i < r.size → pa' j i = pa j i)) →
                (∀ (j : Nat) (r : Re), outs[j]? = some r → TopAt T (part own' 0 H') (pa' j) r (part own' (2 * j + 2) H')) → E (.ref (T.exc c)) none H'
            | .stuck => False) → Q u H' := by
        intro s' v G' H' σ' u x R' rv hq
        cases eo : outs op (enter op as).2.2.length s' with
        | none =>
          have el : leave op (enter op as).2.2.length v s' = .stuck := by unfold leave; rw [eo]
          rw [el] at hq
          exact hq.elim
        | some os =>
          have agree : ∀ {pa' : Nat → Nat → Addr}, (∀ j, j < os.length → pa' j 0 = pa j 0) → (op = true → ∀ i, i < (enter op as).2.1.length → pa' 0 i = pa 0 i) → os.length = (enter op as).2.2.length + (if op then 1 else 0) → (∀ (j : Nat) (r : Re), (resL as)[j]? = some r → pa' j 0 = pa j 0 ∧ (op = true → j = 0 → ∀ i, i < r.size → pa' j i = pa j i)) := by
            intro pa' a1 a2 a3 j r hr
            have hj : j < os.length := by
              rw [a3, g4]
              rcases Nat.lt_or_ge j (resL as).length with z | z
              · exact z
              · rw [List.getElem?_eq_none z] at hr; cases hr
            refine ⟨a1 j hj, fun ho hj0 i hi => ?_⟩
            subst hj0
            exact a2 ho i (by rw [← g5 r ho hr]; exact hi)
          cases ey : solid s' v with
          | some y =>
            have el : leave op (enter op as).2.2.length v s' = .ok (.d y) os := by unfold leave; rw [eo]; dsimp only; rw [ey]
            rw [el] at hq
            obtain ⟨hq1, hq2⟩ := hq
            obtain ⟨ow, pa', x1, x2, x3, x4, x5, x6, _⟩ := exit_rd (kr := 0) R' x eo g1 (Nat.le_refl _) g2 fun ho => ⟨g3 ho, hm0 ho⟩
            exact hq2 ow pa' H' u x1 (agree x3 x4 x2) x5 (dp_mono x6 _ _ (vrep_solid R' rv ey))
          | none =>
            have no : ∀ {v : Va}, (∀ k, v ≠ .c k) → solid s' v = none → leave op (enter op as).2.2.length v s' = .stuck := fun {v} hv ey => by
              unfold leave; rw [eo]; dsimp only; rw [ey]
              cases v with
              | c k => exact absurd rfl (hv k)
              | _ => rfl
            cases v with
            | c k =>
              by_cases hk : (enter op as).2.2.length ≤ k
              · cases er : s'.W[k]? with
                | none =>
                  have el : leave op (enter op as).2.2.length (.c k) s' = .stuck := by unfold leave; rw [eo]; dsimp only; rw [ey]; dsimp only; rw [if_pos hk, er]
                  rw [el] at hq
                  exact hq.elim
                | some r =>
                  have el : leave op (enter op as).2.2.length (.c k) s' = .ok (.r r) os := by unfold leave; rw [eo]; dsimp only; rw [ey]; dsimp only; rw [if_pos hk, er]
                  rw [el] at hq
                  obtain ⟨hq1, hq2⟩ := hq
                  obtain ⟨ow, pa', x1, x2, x3, x4, x5, x6, x7⟩ := exit_rd (kr := k) R' x eo g1 (Nat.le_refl _) g2 fun ho => ⟨g3 ho, hm0 ho⟩
                  obtain ⟨y1, y2⟩ := x7 hk r er
                  rw [hq1] at y1 y2
                  exact hq2 ow pa' H' u x1 (agree x3 x4 x2) x5 ⟨by rw [rv.2, y1], y2⟩
              · have el : leave op (enter op as).2.2.length (.c k) s' = .stuck := by unfold leave; rw [eo]; dsimp only; rw [ey]; dsimp only; rw [if_neg hk]
                rw [el] at hq
                exact hq.elim
            | d y => cases ey
            | b j => rw [no (fun _ h => by cases h) ey] at hq; exact hq.elim
            | x j => rw [no (fun _ h => by cases h) ey] at hq; exact hq.elim
            | s j => rw [no (fun _ h => by cases h) ey] at hq; exact hq.elim
      dsimp only
      generalize hs : semS Φ gl code _ = rs at h
      cases rs with
      | stuck => exact h.elim
      | err c s' =>
        intro G' H' σ' x R'
        cases eo : outs op (enter op as).2.2.length s' with
        | none => dsimp only at h; rw [eo] at h; exact h.elim
        | some os =>
          dsimp only at h
          rw [eo] at h
          obtain ⟨hq1, hq2⟩ := h
          obtain ⟨ow, pa', x1, x2, x3, x4, x5, x6, _⟩ := exit_rd (kr := 0) R' x eo g1 (Nat.le_refl _) g2 fun ho => ⟨g3 ho, hm0 ho⟩
          refine hq2 ow pa' H' x1 (fun j r hr => ?_) x5
          have hj : j < os.length := by
            rw [x2, g4]
            rcases Nat.lt_or_ge j (resL as).length with z | z
            · exact z
            · rw [List.getElem?_eq_none z] at hr; cases hr
          refine ⟨x3 j hj, fun ho hj0 i hi => ?_⟩
          subst hj0
          exact x4 ho i (by rw [← g5 r ho hr]; exact hi)
      | ok fl s' =>
        cases fl with
        | next => exact fun G' H' σ' x R' => fin s' (.d .none) G' H' σ' .non x R' .non h
        | ret v => exact fun G' H' σ' x R' u ru => fin s' v G' H' σ' u x R' ru h
        | brk => exact h.elim
        | cont => exact h.elim
    · rw [show defF Φ gl ps.length N.length op code as = .stuck from if_neg hc] at h
      exact h.elim
end
end BC

/-! BObj: instances of the opened box. -/
namespace BC
open PySem L2
/-- what the classes of the text say -/
structure Ob (X : Cx) (T : Tn) : Prop where
  cls : ∀ c, Cls X.K (T.cls c)
  na : ∀ (c f : Nat) (y : Str), T.fnm[f]? = some y → NoAttr X.K (T.cls c) y
  nd : T.fnm.Nodup
section
variable {T : Tn} {G : Gh} {H : Hp} {σ : St} {s : Sg}
theorem ins_at (R : Rel T G s σ H) {k c : Nat} {fs : List (Nat × Fv)} (e : s.B[k]? = some (.ins c fs)) :
    ∃ dx fu, G.own (G.bdr k) = 2 * k + 3 ∧ H (G.bdr k) = some (.ins (T.cls c) dx fu) ∧ FsRep T (part G.own 0 H) G.bdr s.B.length (part G.own (2 * k + 3) H) fs fu := by
  have q := R.bx k _ e
  cases q with
  | ins h d => exact ⟨_, _, (part_iff.mp h).1, (part_iff.mp h).2, d⟩
theorem lst_at (R : Rel T G s σ H) {k : Nat} {xs : List PyData} (e : s.B[k]? = some (.lst xs)) :
    ∃ us, G.own (G.bdr k) = 2 * k + 3 ∧ H (G.bdr k) = some (.lst us) ∧ DxAll T.K (part G.own 0 H) us xs := by
  have q := R.bx k _ e
  cases q with
  | lst h d => exact ⟨_, (part_iff.mp h).1, (part_iff.mp h).2, d⟩
theorem insOf_some {x : Va} {c : Nat} {fs : List (Nat × Fv)} (e : insOf s x = some (c, fs)) : ∃ k, x = .b k ∧ s.B[k]? = some (.ins c fs) ∧ fs.length < 100 := by
  cases x with
  | b k =>
    simp only [insOf] at e
    split at e
    · rename_i c' fs' h
      split at e
      · rename_i hl
        cases e
        exact ⟨k, rfl, h, hl⟩
      · cases e
    · cases e
  | _ => cases e
theorem nm_inj {l : List Str} (nd : l.Nodup) {i j : Nat} {x : Str} (h1 : l[i]? = some x) (h2 : l[j]? = some x) : i = j := by
  have hi : i < l.length := by
    rcases Nat.lt_or_ge i l.length with z | z
    · exact z
    · rw [List.getElem?_eq_none z] at h1; cases h1
  exact (List.getElem?_inj hi nd).mp (h1.trans h2.symm)
theorem fs_get {F : Hp} {ba : Nat → Addr} {nb : Nat} {Hm : Hp} (nd : T.fnm.Nodup) {f : Nat} {y : Str} {v : Fv} (hy : T.fnm[f]? = some y) :
    ∀ {fs : List (Nat × Fv)} {fu : List (Str × V)}, FsRep T F ba nb Hm fs fu → getN f fs = some v → ∃ u, fu.lookup y = some u ∧ FRep T F ba nb Hm v u := by
  intro fs fu d
  induction d with
  | nil => intro e; cases e
  | cons a b ih =>
    rename_i p q _ _
    obtain ⟨g, w⟩ := p
    obtain ⟨n, u⟩ := q
    intro e
    simp only [getN] at e
    split at e
    · rename_i hg
      subst hg
      cases e
      have : n = y := by
        have := a.1.symm.trans hy
        simpa using this
      subst this
      exact ⟨u, by simp, a.2⟩
    · rename_i hg
      obtain ⟨u', e1, e2⟩ := ih e
      have : y ≠ n := fun z => hg (nm_inj nd a.1 (by rw [hy, z]))
      exact ⟨u', by simp only [List.lookup, beq_false_of_ne this]; exact e1, e2⟩
theorem fs_put {F : Hp} {ba : Nat → Addr} {nb : Nat} {Hm : Hp} (nd : T.fnm.Nodup) {f : Nat} {y : Str} {v : Fv} {u : V} (hy : T.fnm[f]? = some y) (r : FRep T F ba nb Hm v u) :
    ∀ {fs : List (Nat × Fv)} {fu : List (Str × V)}, FsRep T F ba nb Hm fs fu → FsRep T F ba nb Hm (putN f v fs) (putF y u fu) := by
  intro fs fu d
  induction d with
  | nil => exact .cons ⟨hy, r⟩ .nil
  | cons a b ih =>
    rename_i p q _ _
    obtain ⟨g, w⟩ := p
    obtain ⟨n, u'⟩ := q
    by_cases hg : g = f
    · subst hg
      have : n = y := by
        have := a.1.symm.trans hy
        simpa using this
      subst this
      rw [show putN g v ((g, w) :: _) = (g, v) :: _ from if_pos rfl, show putF n u ((n, u') :: _) = (n, u) :: _ from if_pos rfl]
      exact .cons ⟨hy, r⟩ b
    · have : n ≠ y := fun z => hg (nm_inj nd a.1 (by rw [hy, z]))
      rw [show putN f v ((g, w) :: _) = (g, w) :: putN f v _ from if_neg hg, show putF y u ((n, u') :: _) = (n, u') :: putF y u _ from if_neg this]
      exact .cons a ih
theorem frep_no {F F' Hm Hm' : Hp} {ba : Nat → Addr} {nb : Nat} (m : Same F F') : ∀ {v : Fv} {u : V}, v.notO = true → FRep T F ba nb Hm v u → FRep T F' ba nb Hm' v u
  | .v _, _, _, h => VRep.mono m (Nat.le_refl _) (Nat.le_refl _) (fun _ _ => rfl) (fun _ _ => rfl) h
  | .ol _, _, c, _ => by cases c
  | .fl _, _, _, ⟨p, us, e, h, d⟩ => ⟨p, us, e, m _ _ h, Paired.mapP d fun _ _ => VRep.mono m (Nat.le_refl _) (Nat.le_refl _) (fun _ _ => rfl) (fun _ _ => rfl)⟩
theorem fs_no {F F' Hm Hm' : Hp} {ba : Nat → Addr} {nb : Nat} (m : Same F F') : ∀ {fs : List (Nat × Fv)} {fu : List (Str × V)}, (fs.all fun p => p.2.notO) = true → FsRep T F ba nb Hm fs fu → FsRep T F' ba nb Hm' fs fu := by
  intro fs fu c d
  induction d with
  | nil => exact .nil
  | cons a b ih =>
    rw [List.all_cons, Bool.and_eq_true] at c
    exact .cons ⟨a.1, frep_no m c.1 a.2⟩ (ih c.2)
theorem fs_set {F : Hp} {ba : Nat → Addr} {nb : Nat} {Hm : Hp} (nd : T.fnm.Nodup) {f : Nat} {y : Str} {xs : List PyData} (hy : T.fnm[f]? = some y) :
    ∀ {fs : List (Nat × Fv)} {fu : List (Str × V)}, FsRep T F ba nb Hm fs fu → getN f fs = some (.ol xs) → onlyO f fs = true → ∃ p us, fu.lookup y = some (.ref p) ∧ Hm p = some (.lst us) ∧ DxAll T.K F us xs ∧
      ∀ F' Hm' ys us', Same F F' → Hm' p = some (.lst us') → DxAll T.K F' us' ys → FsRep T F' ba nb Hm' (putN f (.ol ys) fs) fu := by
  intro fs fu d
  induction d with
  | nil => intro e; cases e
  | cons a b ih =>
    rename_i p q _ _
    obtain ⟨g, w⟩ := p
    obtain ⟨n, u⟩ := q
    intro e c
    simp only [getN] at e
    simp only [onlyO] at c
    split at e
    · rename_i hg
      subst hg
      rw [if_pos rfl] at c
      cases e
      have : n = y := by
        have := a.1.symm.trans hy
        simpa using this
      subst this
      obtain ⟨p, us, eu, hp, dd⟩ := a.2
      have eu : u = .ref p := eu
      subst eu
      refine ⟨p, us, by simp, hp, dd, fun F' Hm' ys us' m h' d' => ?_⟩
      rw [show putN g (.ol ys) ((g, .ol xs) :: _) = (g, .ol ys) :: _ from if_pos rfl]
      exact .cons ⟨hy, p, us', rfl, h', d'⟩ (fs_no m c b)
    · rename_i hg
      rw [if_neg hg, Bool.and_eq_true] at c
      obtain ⟨p, us, e1, hp, dd, k⟩ := ih e c.2
      have : y ≠ n := fun z => hg (nm_inj nd a.1 (by rw [hy, z]))
      refine ⟨p, us, by simp only [List.lookup, beq_false_of_ne this]; exact e1, hp, dd, fun F' Hm' ys us' m h' d' => ?_⟩
      rw [show putN f (.ol ys) ((g, w) :: _) = (g, w) :: putN f (.ol ys) _ from if_neg hg]
      exact .cons ⟨a.1, frep_no m c.1 a.2⟩ (k F' Hm' ys us' m h' d')
theorem fs_none {F : Hp} {ba : Nat → Addr} {nb : Nat} {Hm : Hp} {m : Str} (hm : m ∉ T.fnm) : ∀ {fs : List (Nat × Fv)} {fu : List (Str × V)}, FsRep T F ba nb Hm fs fu → fu.lookup m = none := by
  intro fs fu d
  induction d with
  | nil => rfl
  | cons a b ih =>
    rename_i p q _ _
    obtain ⟨n, u'⟩ := q
    have : m ≠ n := fun z => hm (by rw [z]; exact List.mem_of_getElem? a.1)
    simp only [List.lookup, beq_false_of_ne this]; exact ih
theorem FRep.to {F F' Hm Hm' : Hp} {ba ba' : Nat → Addr} {nb nb' : Nat} (m : Same F F') (mm : ∀ p us, Hm p = some (.lst us) → Hm' p = some (.lst us)) (h2 : nb ≤ nb') (e2 : ∀ k, k < nb → ba' k = ba k) :
    ∀ {v : Fv} {u : V}, FRep T F ba nb Hm v u → FRep T F' ba' nb' Hm' v u
  | .v _, _, h => VRep.mono m (Nat.le_refl _) h2 (fun _ _ => rfl) e2 h
  | .ol _, _, ⟨p, us, e, h, d⟩ => ⟨p, us, e, mm _ _ h, dpAll_mono m _ _ d⟩
  | .fl _, _, ⟨p, us, e, h, d⟩ => ⟨p, us, e, m _ _ h, Paired.mapP d fun _ _ => VRep.mono m (Nat.le_refl _) h2 (fun _ _ => rfl) e2⟩
theorem FsRep.to {F F' Hm Hm' : Hp} {ba ba' : Nat → Addr} {nb nb' : Nat} (m : Same F F') (mm : ∀ p us, Hm p = some (.lst us) → Hm' p = some (.lst us)) (h2 : nb ≤ nb') (e2 : ∀ k, k < nb → ba' k = ba k) {fs : List (Nat × Fv)} {fu : List (Str × V)}
    (d : FsRep T F ba nb Hm fs fu) : FsRep T F' ba' nb' Hm' fs fu := Paired.mapP d fun _ _ q => ⟨q.1, FRep.to m mm h2 e2 q.2⟩
/-- an element of the box becomes another one -/
theorem Rel.setB (R : Rel T G s σ H) {k : Nat} {r : Re} {own' : Addr → Nat} {H' : Hp} (hk : k < s.B.length) (keep : ∀ a o, H a = some o → G.own a ≠ 2 * k + 3 → H' a = some o ∧ own' a = G.own a)
    (hr : ResAt T (part own' 0 H') G.bdr s.B.length (G.bdr k) r (part own' (2 * k + 3) H')) :
    Rel T { G with own := own' } { s with B := s.B.set k r } σ H' ∧ Ext G H s.W.length s.B.length { G with own := own' } H' s.W.length (s.B.set k r).length := by
  have m : ∀ t, t ≠ 2 * k + 3 → Same (part G.own t H) (part own' t H') := fun t ht a o q => by
    obtain ⟨q1, q2⟩ := part_iff.mp q
    obtain ⟨k1, k2⟩ := keep a o q2 (by rw [q1]; exact ht)
    exact part_iff.mpr ⟨k2.trans q1, k1⟩
  have hl : (s.B.set k r).length = s.B.length := by simp
  refine ⟨⟨R.len, fun i v e => ?_, fun i r' e => ?_, fun i r' e => ?_⟩, ⟨fun a o h t => keep a o h (by omega), fun _ _ => rfl, fun _ _ => rfl, Nat.le_refl _, by rw [hl]; exact Nat.le_refl _⟩⟩
  · obtain ⟨u, e1, q⟩ := R.slot i v e
    refine ⟨u, e1, ?_⟩
    show VRep T _ _ _ _ (s.B.set k r).length v u
    rw [hl]
    exact VRep.mono (m 0 (by omega)) (Nat.le_refl _) (Nat.le_refl _) (fun _ _ => rfl) (fun _ _ => rfl) q
  · exact (R.wld i r' e).mono (m 0 (by omega)) (m _ (by omega)) (Nat.le_refl _) fun _ _ => rfl
  · have e : (s.B.set k r)[i]? = some r' := e
    show ResAt T _ _ (s.B.set k r).length _ r' _
    rw [hl]
    by_cases hi : i = k
    · subst hi
      rw [List.getElem?_set_self hk] at e
      cases e
      exact hr
    · rw [List.getElem?_set_ne (Ne.symm hi)] at e
      exact (R.bx i r' e).mono (m 0 (by omega)) (m _ (by omega)) (Nat.le_refl _) fun _ _ => rfl
/-- .. an instance with other attributes -/
theorem Rel.setI (R : Rel T G s σ H) {k c : Nat} {fs fs' : List (Nat × Fv)} {dx : Addr} {fu fu' : List (Str × V)} (e : s.B[k]? = some (.ins c fs)) (hH : H (G.bdr k) = some (.ins (T.cls c) dx fu)) (ho : G.own (G.bdr k) = 2 * k + 3)
    (d : FsRep T (part G.own 0 H) G.bdr s.B.length (part G.own (2 * k + 3) H) fs' fu') :
    Rel T G { s with B := s.B.set k (.ins c fs') } σ (upd H (G.bdr k) (.ins (T.cls c) dx fu')) ∧ Ext G H s.W.length s.B.length G (upd H (G.bdr k) (.ins (T.cls c) dx fu')) s.W.length (s.B.set k (.ins c fs')).length := by
  have hk : k < s.B.length := bx_len e
  refine Rel.setB R hk (own' := G.own) (fun a o h hn => ⟨?_, rfl⟩) (.ins (part_iff.mpr ⟨ho, upd_same⟩) (d.to (fun a o q => ?_) (fun p us q => ?_) (Nat.le_refl _) fun _ _ => rfl))
  · rw [upd_ne (fun z => hn (by rw [z]; exact ho))]; exact h
  · obtain ⟨q1, q2⟩ := part_iff.mp q
    exact part_iff.mpr ⟨q1, by rw [upd_ne (fun z => by rw [z, ho] at q1; omega)]; exact q2⟩
  · obtain ⟨q1, q2⟩ := part_iff.mp q
    exact part_iff.mpr ⟨q1, by rw [upd_ne (fun z => by rw [z, hH] at q2; cases q2)]; exact q2⟩
/-- .. a list with other items -/
theorem Rel.setBL (R : Rel T G s σ H) {k : Nat} {xs ys : List PyData} {us : List V} (e : s.B[k]? = some (.lst xs)) (d : DxAll T.K (part G.own 0 H) us ys) :
    Rel T G { s with B := s.B.set k (.lst ys) } σ (upd H (G.bdr k) (.lst us)) ∧ Ext G H s.W.length s.B.length G (upd H (G.bdr k) (.lst us)) s.W.length (s.B.set k (.lst ys)).length := by
  obtain ⟨us0, ho, hH, _⟩ := lst_at R e
  refine Rel.setB R (bx_len e) (own' := G.own) (fun a o h hn => ⟨?_, rfl⟩) (.lst (part_iff.mpr ⟨ho, upd_same⟩) (dpAll_mono (fun a o q => ?_) _ _ d))
  · rw [upd_ne (fun z => hn (by rw [z]; exact ho))]; exact h
  · obtain ⟨q1, q2⟩ := part_iff.mp q
    exact part_iff.mpr ⟨q1, by rw [upd_ne (fun z => by rw [z, ho] at q1; omega)]; exact q2⟩
theorem held_rep {v w : Va} {u : V} (R : Rel T G s σ H) (r : vrep T s G H v u) (e : heldV s v = some w) : VRep T (part G.own 0 H) z0 G.bdr 0 s.B.length w u := by
  unfold heldV at e
  split at e
  · rename_i x hx
    cases e
    exact vrep_solid R r hx
  · split at e
    · rename_i k
      cases e
      exact r
    · cases e
theorem frep_v {F : Hp} {ca ba : Nat → Addr} {nc nb : Nat} {v : Va} {u : V} (h : VRep T F z0 ba 0 nb v u) : VRep T F ca ba nc nb v u :=
  VRep.mono (Same.refl _) (Nat.zero_le _) (Nat.le_refl _) (fun k hk => absurd hk (Nat.not_lt_zero _)) (fun _ _ => rfl) h
end

section
variable {X : Cx} {T : Tn} {W : WX} (hK : X.K = T.K) (ob : Ob X T)
include hK ob
/-- o.f -/
theorem s_fld {f : Nat} {y : Str} {a : Expr} {fa : M (List Va)} {pos : Pos} (hy : T.fnm[f]? = some y) (ha : PE X a (tE T W fa)) (hb : attributeBase a y X.env (eval a X.env) = eval a X.env) : PE X (.Attribute a y pos) (tE T W fun s => one1 (fa s) fun x s => match insOf s x with
    | some (_, fs) => match getN f fs with
      | some (.v v) => .ok [v] s
      | _ => .stuck
    | none => .stuck) := by
  refine pe_imp (pe_fld ha hb) fun σ H Q ⟨s, G, R, h⟩ => ⟨s, G, R, h.one1.imp fun vs s1 G1 H1 us x R1 _ ⟨v, u, e1, e2, r1, h1⟩ => ⟨u, e2, ?_⟩⟩
  try dsimp only at h1
  split at h1
  · rename_i c fs e
    obtain ⟨k, rfl, ek, hl⟩ := insOf_some e
    obtain ⟨dx, fu, ho, hH, d⟩ := ins_at R1 ek
    split at h1
    · rename_i w ew
      obtain ⟨u', l, r⟩ := fs_get ob.nd hy d ew
      exact ⟨_, _, dx, fu, u', r1.2, hH, ob.cls c, ob.na c f y hy, l, here (v := w) R1 (frep_v r) h1⟩
    · exact h1.elim
  · exact h1.elim
theorem fl_at {F : Hp} {ca ba : Nat → Addr} {nc nb : Nat} {vs : List Va} {us : List V} {i : Int} {v : Va} (d : VReps T F ca ba nc nb vs us) (e : atI vs i = some v) : ∃ u, atI us i = some u ∧ VRep T F ca ba nc nb v u := by
  have aux : ∀ {vs : List Va} {us : List V} (k : Nat) {v : Va}, VReps T F ca ba nc nb vs us → vs[k]? = some v → ∃ u, us[k]? = some u ∧ VRep T F ca ba nc nb v u := by
    intro vs us k v q
    induction q generalizing k with
    | nil => intro e; simp at e
    | cons a b ih =>
      intro e
      cases k with
      | zero => simp at e; subst e; exact ⟨_, rfl, a⟩
      | succ k =>
        obtain ⟨u, q1, q2⟩ := ih k (by simpa using e)
        exact ⟨u, by simpa using q1, q2⟩
  unfold atI at e ⊢
  obtain ⟨k, hk, e⟩ := Option.bind_eq_some_iff.mp e
  obtain ⟨u, q1, q2⟩ := aux k d e
  exact ⟨u, Option.bind_eq_some_iff.mpr ⟨k, by rw [← d.length]; exact hk, q1⟩, q2⟩
/-- o.f[i], parts -/
theorem s_fidx {f : Nat} {y : Str} {a b : Expr} {fa fb : M (List Va)} {pos p2 : Pos} (hy : T.fnm[f]? = some y) (ha : PE X a (tE T W fa)) (hb : attributeBase a y X.env (eval a X.env) = eval a X.env) (hi : PE X b (tE T W fb)) (hp : PlainIx b) : PE X (.Subscript (.Attribute a y pos) b p2) (tE T W fun s => one1 (fa s) fun x s => match insOf s x with
    | some (_, fs) => match getN f fs with
      | some (.fl xs) => one1 (fb s) fun y s => match y with
        | .d (.int j) => match L2.atI xs j with
          | some v => .ok [v] s
          | none => .stuck
        | _ => .stuck
      | _ => .stuck
    | none => .stuck) := by
  refine pe_imp (pe_ix ix_list (pe_fld ha hb) hi hp) fun σ H Q ⟨s, G, R, h⟩ => ⟨s, G, R, h.one1.imp fun vs s1 G1 H1 us x R1 _ ⟨v, u, e1, e2, r1, h1⟩ => ⟨u, e2, ?_⟩⟩
  try dsimp only at h1
  split at h1
  · rename_i c fs e
    obtain ⟨k, rfl, ek, hl⟩ := insOf_some e
    obtain ⟨dx, fu, ho, hH, d⟩ := ins_at R1 ek
    split at h1
    · rename_i xs ew
      obtain ⟨u', l, p, us', eu, hp, dd⟩ := fs_get ob.nd hy d ew
      refine ⟨_, _, dx, fu, u', r1.2, hH, ob.cls c, ob.na c f y hy, l, s1, G1, R1, h1.one1.imp fun vs2 s2 G2 H2 us2 x2 R2 _ ⟨v2, u2, e3, e4, r2, h2⟩ => ⟨u2, e4, ?_⟩⟩
      try dsimp only at h2
      split at h2
      · rename_i j
        split at h2
        · rename_i w ew2
          cases r2
          obtain ⟨u3, q1, q2⟩ := fl_at hK ob dd ew2
          exact ⟨p, us', j, u3, eu, rfl, SqL.of (part_sub _ _ (x2.data _ _ hp)), q1, here R2 (VRep.ext x2 (frep_v q2)) h2⟩
        · exact h2.elim
      · exact h2.elim
    · exact h1.elim
  · exact h1.elim
/-- a simple index -/
def tV (T : Tn) (f : Sg → Option PyData) : TE := fun σ H Q => ∃ s G, Rel T G s σ H ∧ ∃ d, f s = some d ∧ ∀ u, Dx T.K (part G.own 0 H) u d → Q u H
theorem v_var {i : Nat} {x : Str} {pos : Pos} (hN : X.N[i]? = some x) (hv : Vis X.env.scope x) (hd : (x == ("__debug__" : Str)) = false) (hcd : (x == ("__classdict__" : Str)) = false) : PE X (.Name x pos) (tV T fun s => match s.ρ[i]? with
    | some (some (.d x)) => some x
    | _ => none) := by
  refine pe_imp (pe_var hN hv hd hcd) fun σ H Q ⟨s, G, R, d, e, h⟩ => ?_
  try dsimp only at e
  split at e
  · rename_i w ew
    cases e
    obtain ⟨u, e1, r⟩ := R.slot i _ ew
    exact ⟨u, e1, h u r⟩
  · cases e
theorem v_int {j : Int} {n : Nat} {pos : Pos} : PE X (.Constant (.int j) n pos) (tV T fun _ => some (.int j)) := pe_imp pe_int fun σ H Q ⟨s, G, R, d, e, h⟩ => by cases e; exact h _ (.int j)
theorem v_idx {i : Nat} {x : Str} {j : Int} {n : Nat} {p1 p2 pos : Pos} (hN : X.N[i]? = some x) (hv : Vis X.env.scope x) (hd : (x == ("__debug__" : Str)) = false) (hcd : (x == ("__classdict__" : Str)) = false) : PE X (.Subscript (.Name x p1) (.Constant (.int j) n p2) pos) (tV T fun s => match s.ρ[i]? with
    | some (some (.d (.tuple xs))) => atI xs j
    | _ => none) := by
  refine pe_imp (pe_ix ix_tup (pe_var hN hv hd hcd) pe_int (fun _ _ => rfl)) fun σ H Q ⟨s, G, R, d, e, h⟩ => ?_
  try dsimp only at e
  split at e
  · rename_i xs ew
    obtain ⟨u, e1, r⟩ := R.slot i _ ew
    cases r with
    | tup hs ha =>
      obtain ⟨w, q1, q2⟩ := atI_dx ha e
      rw [hK]
      exact ⟨_, e1, _, _, j, w, rfl, rfl, sqT_mono part_sub hs, q1, h w q2⟩
  · cases e
/-- o.f[i], a list of its own -/
theorem s_oidx {f : Nat} {y : Str} {a b : Expr} {fa : M (List Va)} {fv : Sg → Option PyData} {pos p2 : Pos} (hy : T.fnm[f]? = some y) (ha : PE X a (tE T W fa)) (hb : attributeBase a y X.env (eval a X.env) = eval a X.env) (hi : PE X b (tV T fv)) (hp : PlainIx b) : PE X (.Subscript (.Attribute a y pos) b p2) (tE T W fun s => one1 (fa s) fun x s => match insOf s x with
    | some (_, fs) => match getN f fs with
      | some (.ol xs) => match fv s with
        | some (.int j) => datO (L2.atI xs j) s
        | _ => .stuck
      | _ => .stuck
    | none => .stuck) := by
  refine pe_imp (pe_ix ix_list (pe_fld ha hb) hi hp) fun σ H Q ⟨s, G, R, h⟩ => ⟨s, G, R, h.one1.imp fun vs s1 G1 H1 us x R1 _ ⟨v, u, e1, e2, r1, h1⟩ => ⟨u, e2, ?_⟩⟩
  try dsimp only at h1
  split at h1
  · rename_i c fs e
    obtain ⟨k, rfl, ek, hl⟩ := insOf_some e
    obtain ⟨dx, fu, ho, hH, d⟩ := ins_at R1 ek
    split at h1
    · rename_i xs ew
      obtain ⟨u', l, p, us', eu, hp, dd⟩ := fs_get ob.nd hy d ew
      split at h1
      · rename_i j ej
        refine ⟨_, _, dx, fu, u', r1.2, hH, ob.cls c, ob.na c f y hy, l, s1, G1, R1, _, ej, fun w rw' => ?_⟩
        cases rw'
        cases ez : atI xs j with
        | none => rw [ez] at h1; exact h1.elim
        | some z =>
          rw [ez] at h1
          obtain ⟨w, q1, q2⟩ := atI_dx dd ez
          exact ⟨p, us', j, w, eu, rfl, SqL.of (part_sub _ _ hp), q1, here (v := .d z) R1 q2 h1⟩
      · exact h1.elim
    · exact h1.elim
  · exact h1.elim
/-- len(o.f), parts -/
theorem s_flen (hm : X.mg "len" = none) (hg : Gl X "len") {f : Nat} {y : Str} {a : Expr} {fa : M (List Va)} {pos p1 p2 : Pos} (hy : T.fnm[f]? = some y) (ha : PE X a (tE T W fa)) (hb : attributeBase a y X.env (eval a X.env) = eval a X.env) : PE X (.Call (.Name "len" p1) [.Attribute a y pos] [] p2) (tE T W fun s => one1 (fa s) fun x s => match insOf s x with
    | some (_, fs) => match getN f fs with
      | some (.fl xs) => dat (.int xs.length) s
      | _ => .stuck
    | none => .stuck) := by
  refine pe_imp (pe_callB call_len_seq hg hm PySem.boot_len (pa_cons (pe_fld ha hb) pa_nil) (by decide) (by decide)) fun σ H Q ⟨s, G, R, h⟩ => ⟨s, G, R, h.one1.imp fun vs s1 G1 H1 us x R1 _ ⟨v, u, e1, e2, r1, h1⟩ => ⟨u, e2, ?_⟩⟩
  try dsimp only at h1
  split at h1
  · rename_i c fs e
    obtain ⟨k, rfl, ek, hl⟩ := insOf_some e
    obtain ⟨dx, fu, ho, hH, d⟩ := ins_at R1 ek
    split at h1
    · rename_i xs ew
      obtain ⟨u', l, p, us', eu, hp, dd⟩ := fs_get ob.nd hy d ew
      refine ⟨_, _, dx, fu, u', r1.2, hH, ob.cls c, ob.na c f y hy, l, p, us', by rw [eu], .inl (SqL.of (part_sub _ _ hp)), ?_⟩
      rw [← dd.length]
      exact here (v := .d (.int xs.length)) R1 (.int _) h1
    · exact h1.elim
  · exact h1.elim
/-- list(o.f) -/
theorem s_fcopy (hm : X.mg "list" = none) (hg : Gl X "list") {f : Nat} {y : Str} {a : Expr} {fa : M (List Va)} {pos p1 p2 : Pos} (hy : T.fnm[f]? = some y) (ha : PE X a (tE T W fa)) (hb : attributeBase a y X.env (eval a X.env) = eval a X.env) : PE X (.Call (.Name "list" p1) [.Attribute a y pos] [] p2) (tE T W fun s => one1 (fa s) fun x s => match insOf s x with
    | some (_, fs) => match getN f fs with
      | some (.ol xs) => dat (.list xs) s
      | _ => .stuck
    | none => .stuck) := by
  refine pe_imp (pe_callTy call_list_of hg hm (by decide +kernel) (pa_cons (pe_fld ha hb) pa_nil) (by decide) (by decide)) fun σ H Q ⟨s, G, R, h⟩ => ⟨s, G, R, h.one1.imp fun vs s1 G1 H1 us x R1 _ ⟨v, u, e1, e2, r1, h1⟩ => ⟨u, e2, ?_⟩⟩
  try dsimp only at h1
  split at h1
  · rename_i c fs e
    obtain ⟨k, rfl, ek, hl⟩ := insOf_some e
    obtain ⟨dx, fu, ho, hH, d⟩ := ins_at R1 ek
    split at h1
    · rename_i xs ew
      obtain ⟨u', l, p, us', eu, hp, dd⟩ := fs_get ob.nd hy d ew
      exact ⟨_, _, dx, fu, u', r1.2, hH, ob.cls c, ob.na c f y hy, l, p, us', by rw [eu], .inl (SqL.of (part_sub _ _ hp)), (pst_end R1 h1).newL part_sub dd⟩
    · exact h1.elim
  · exact h1.elim
/-- for .. in o.f, parts -/
theorem i_sfl {f : Nat} {y : Str} {a tg : Expr} {fa : M (List Va)} {pos : Pos} (hy : T.fnm[f]? = some y) (ha : PE X a (tE T W fa)) (hb : attributeBase a y X.env (eval a X.env) = eval a X.env) : PI X tg (.Attribute a y pos) (tI T W fun s => one1 (fa s) fun x s => match insOf s x with
    | some (_, fs) => match getN f fs with
      | some (.fl xs) => .ok xs s
      | _ => .stuck
    | none => .stuck) := by
  refine pi_imp (pi_list (pe_fld ha hb)) fun σ H R' ⟨s, G, R, h⟩ => ⟨s, G, R, h.one1.imp fun vs s1 G1 H1 us x R1 _ ⟨v, u, e1, e2, r1, h1⟩ => ⟨u, e2, ?_⟩⟩
  try dsimp only at h1
  split at h1
  · rename_i c fs e
    obtain ⟨k, rfl, ek, hl⟩ := insOf_some e
    obtain ⟨dx, fu, ho, hH, d⟩ := ins_at R1 ek
    split at h1
    · rename_i xs ew
      obtain ⟨u', l, p, us', eu, hp, dd⟩ := fs_get ob.nd hy d ew
      refine ⟨_, _, dx, fu, u', r1.2, hH, ob.cls c, ob.na c f y hy, l, p, eu, ⟨us', SqL.of (part_sub _ _ hp)⟩, ?_⟩
      have rr : vreps T xs s1 G1 H1 us' := Paired.mapP dd fun _ _ => frep_v
      exact h1 G1 H1 _ (Ext.refl _ _ _ _) R1 rr _ (walk_list.mono (fun H2 m => SqL.of (m _ _ hp)) fun _ _ _ _ _ _ y => y)
    · exact h1.elim
  · exact h1.elim
omit ob in
/-- o.f.pop() -/
theorem s_popE {a : Expr} {fa : M (List Va)} {p2 p3 : Pos} (ha : PE X a (tE T W fa)) (hb : attributeBase a "pop" X.env (eval a X.env) = eval a X.env) (hline : (p2.endLine == p3.line) = true) :
    PE X (.Call (.Attribute a "pop" p2) [] [] p3) (tE T W fun s => one1 (fa s) fun x s => match x with
      | .b k => match s.B[k]? with
        | some (.lst xs) => match xs.getLast? with
          | some v => dat v { s with B := s.B.set k (.lst xs.dropLast) }
          | none => .stuck
        | _ => .stuck
      | _ => .stuck) := by
  refine pe_imp (pe_bm0 PySem.F.plainAttrs_list PySem.F.slot_list_pop PySem.F.type_list_pop mt_pop ha hb hline) fun σ H Q ⟨s, G, R, h⟩ => ⟨s, G, R, h.one1.imp fun vs s1 G1 H1 us x R1 _ ⟨v, u, e1, e2, r1, h1⟩ => ⟨u, e2, ?_⟩⟩
  try dsimp only at h1
  split at h1
  · rename_i k
    split at h1
    · rename_i xs e2'
      split at h1
      · rename_i v e3
        obtain ⟨us', ho, c1, c2⟩ := lst_at R1 e2'
        obtain ⟨w, c3, c4⟩ := dpAll_last hK c2 e3
        rw [r1.2]
        refine ⟨.inl ⟨rfl, us', SqL.of c1⟩, _, us', w, rfl, rfl, c1, c3, ?_⟩
        obtain ⟨R2, x2⟩ := Rel.setBL R1 e2' (dpAll_dropLast hK c2)
        obtain ⟨u', e', q⟩ := h1 G1 _ [w] x2 R2 (.cons (VRep.ext (v := .d v) x2 c4) .nil)
        cases e'
        exact q
      · exact h1.elim
    · exact h1.elim
  · exact h1.elim

/-! ### statements -/
/-- o.f = e -/
theorem st_setf {f : Nat} {y : Str} {a e : Expr} {fa fe : M (List Va)} {pos pos' : Pos} (hy : T.fnm[f]? = some y) (ha : PE X a (tE T W fa)) (he : PE X e (tE T W fe)) (hs : swapsWith e (some (.Attribute a y pos')) pos.line X.env = pure false) : PS X (.Assign [.Attribute a y pos'] e pos) (tS T W fun s => one1 (fe s) fun v s => one1 (fa s) fun x s => match heldV s v, insOf s x with
    | some w, some (c, m) => .ok .next (setIns s x c (putN f (.v w) m))
    | _, _ => .stuck) := by
  refine ps_imp (ps_fld ha he hs) fun D σ H ⟨s, G, R, h⟩ => ⟨s, G, R, (h.one1 (σ := σ)).imp fun vs s1 G1 H1 us x R1 _ ⟨v, u, e1, e2, r1, h1⟩ => ⟨u, e2, s1, G1, R1, (h1.one1 (σ := σ)).imp fun vs2 s2 G2 H2 us2 x2 R2 _ ⟨v2, u2, e3, e4, r2, h2⟩ => ⟨u2, e4, ?_⟩⟩⟩
  try dsimp only at h2
  split at h2
  · rename_i w c m ew e
    obtain ⟨k, rfl, ek, hl⟩ := insOf_some e
    obtain ⟨dx, fu, ho, hH, d⟩ := ins_at R2 ek
    have rw' := held_rep R2 (r1.ext x2) ew
    obtain ⟨R3, x3⟩ := Rel.setI R2 ek hH ho (fs_put ob.nd hy (v := .v w) rw' d)
    refine ⟨_, _, dx, fu, r2.2, hH, ob.cls c, ob.na c f y hy, ?_, h2 _ _ _ x3 R3⟩
    have := d.length
    omega
  · exact h2.elim
omit ob hK in
/-- what was nobody's is somebody's -/
theorem Rel.tag {T : Tn} {G : Gh} {s : Sg} {σ : St} {H : Hp} {p : Addr} (t : Nat) (R : Rel T G s σ H) (h : G.own p = 1) : Rel T { G with own := fun a => if a = p then t else G.own a } s σ H := by
  have m : ∀ t', t' ≠ 1 → Same (part G.own t' H) (part (fun a => if a = p then t else G.own a) t' H) := fun t' ht a o q => by
    obtain ⟨q1, q2⟩ := part_iff.mp q
    refine part_iff.mpr ⟨?_, q2⟩
    have : a ≠ p := fun z => ht (by rw [← q1, z]; exact h)
    show (if a = p then t else G.own a) = t'
    rw [if_neg this]; exact q1
  refine ⟨R.len, fun i v e => ?_, fun k r e => ?_, fun k r e => ?_⟩
  · obtain ⟨u, q1, q2⟩ := R.slot i v e
    exact ⟨u, q1, VRep.mono (m 0 (by decide)) (Nat.le_refl _) (Nat.le_refl _) (fun _ _ => rfl) (fun _ _ => rfl) q2⟩
  · exact (R.wld k r e).mono (m 0 (by decide)) (m _ (by omega)) (Nat.le_refl _) fun _ _ => rfl
  · exact (R.bx k r e).mono (m 0 (by decide)) (m _ (by omega)) (Nat.le_refl _) fun _ _ => rfl
omit ob hK in
theorem Ext.tag {G0 G : Gh} {H0 H : Hp} {a b c d : Nat} {p : Addr} (t : Nat) (x : Ext G0 H0 a b G H c d) (hp : ∀ o, H0 p = some o → 2 ≤ G0.own p) : Ext G0 H0 a b { G with own := fun a => if a = p then t else G.own a } H c d := by
  refine ⟨fun q o h l => ?_, x.adr, x.bdr, x.nc, x.nb⟩
  obtain ⟨k1, k2⟩ := x.keep q o h l
  refine ⟨k1, ?_⟩
  show (if q = p then t else G.own q) = _
  rw [if_neg (fun z => by rw [z] at h l; have := hp o h; omega)]; exact k2
omit ob hK in
theorem none_or {H0 : Hp} {p : Addr} {n : Nat} (h : H0 p = none) : ∀ o, H0 p = some o → 2 ≤ n := fun o e => by rw [h] at e; cases e
omit ob hK in
theorem tag_data {G : Gh} {H : Hp} {p : Addr} {t : Nat} (h : G.own p = 1) : Same (part G.own 0 H) (part (fun a => if a = p then t else G.own a) 0 H) := fun a o q => by
  obtain ⟨q1, q2⟩ := part_iff.mp q
  refine part_iff.mpr ⟨?_, q2⟩
  have : a ≠ p := fun z => by rw [z, h] at q1; cases q1
  show (if a = p then t else G.own a) = 0
  rw [if_neg this]; exact q1
omit ob hK in
/-- a value, then a statement, from where it began -/
theorem PoS.one1K {α : Type} {T : Tn} {W : WX} {G : Gh} {H : Hp} {n m : Nat} {σ : St} {ra : Rs (List Va)} {k : Va → Sg → Rs α} {K : α → Sg → Gh → Hp → St → Prop} (h : PoS T W G H n m (BC.one1 ra k) K) :
    Po T W G H n m σ (vreps T) ra (fun vs s' G' H' us => ∃ v u, vs = [v] ∧ us = [u] ∧ vrep T s' G' H' v u ∧ PoS T W G H n m (k v s') K) := by
  cases ra with
  | ok vs s' =>
    match vs, h with
    | [v], h =>
      intro G' H' us x R q
      cases q with
      | cons a b =>
        cases b
        exact ⟨v, _, rfl, rfl, a, h⟩
    | [], h => exact False.elim h
    | _ :: _ :: _, h => exact False.elim h
  | err c s' => exact fun G' H' x R => h G' H' σ x R
  | stuck => exact h
omit ob hK in
/-- a fresh list that is nobody's -/
theorem Rel.free {T : Tn} {G : Gh} {s : Sg} {σ : St} {H : Hp} {p : Addr} {o : HO} (R : Rel T G s σ H) (hp : H p = none) :
    Rel T { G with own := fun a => if a = p then 1 else G.own a } s σ (upd H p o) ∧ Ext G H s.W.length s.B.length { G with own := fun a => if a = p then 1 else G.own a } (upd H p o) s.W.length s.B.length :=
  R.grow (same_upd hp) fun a o e => by
    show (if a = p then 1 else G.own a) = G.own a
    rw [if_neg (ne_of_none e hp)]
/-- the end of o.f = a list of its own: p, made ahead, then the object -/
theorem newF_end {f : Nat} {y : Str} {σ : St} {D : Ends} {s1 s2 : Sg} {G1 G2 : Gh} {H1 H2 : Hp} {p : Addr} {us : List V} {xs : List PyData} {x : Va} {u : V} (hy : T.fnm[f]? = some y) (hp : ∀ o, H1 p = some o → 2 ≤ G1.own p) (x1 : Ext G1 H1 s1.W.length s1.B.length G2 H2 s2.W.length s2.B.length) (R2 : Rel T G2 s2 σ H2) (hp2 : H2 p = some (.lst us)) (ho : G2.own p = 1)
    (d : DxAll T.K (part G2.own 0 H2) us xs) (r2 : vrep T s2 G2 H2 x u) (h : PoS T W G1 H1 s1.W.length s1.B.length (match insOf s2 x with
      | some (c, m) => .ok .next (setIns s2 x c (putN f (.ol xs) m))
      | none => .stuck) (DK T D)) :
    ∃ a C dx fs, u = .ref a ∧ H2 a = some (.ins C dx fs) ∧ Cls X.K C ∧ NoAttr X.K C y ∧ fs.length < 1000 ∧ D.nx σ (upd H2 a (.ins C dx (putF y (.ref p) fs))) := by
  split at h
  · rename_i c m e
    obtain ⟨k, rfl, ek, hl⟩ := insOf_some e
    obtain ⟨dx, fu, hk, hH, dd⟩ := ins_at R2 ek
    have R3 := Rel.tag (2 * k + 3) R2 ho
    have x3 := Ext.tag (2 * k + 3) x1 hp
    obtain ⟨dx', fu', hk', hH', dd'⟩ := ins_at R3 ek
    rw [hH] at hH'
    cases hH'
    obtain ⟨R4, x4⟩ := Rel.setI R3 ek hH hk' (fs_put ob.nd hy (v := .ol xs) (u := .ref p) ⟨p, us, rfl, part_iff.mpr ⟨by show (if p = p then _ else _) = _; rw [if_pos rfl], hp2⟩, dpAll_mono (tag_data ho) _ _ d⟩ dd')
    refine ⟨_, _, dx, fu, r2.2, hH, ob.cls c, ob.na c f y hy, ?_, h _ _ _ (x3.trans x4) R4⟩
    have := dd.length
    omega
  · exact h.elim
/-- o.f = [], an element of the box -/
theorem st_newB {f : Nat} {y : Str} {a : Expr} {fa : M (List Va)} {pos pos' p2 : Pos} (hy : T.fnm[f]? = some y) (ha : PE X a (tE T W fa)) : PS X (.Assign [.Attribute a y pos'] (.List [] p2) pos) (tS T W fun s => one1 (fa s) fun x s => match insOf { s with B := s.B ++ [.lst []] } x with
    | some (c, m) => .ok .next (setIns { s with B := s.B ++ [.lst []] } x c (putN f (.v (.b s.B.length)) m))
    | none => .stuck) := by
  refine ps_imp (ps_fld ha (pe_lst pa_nil) (by rfl)) fun D σ H ⟨s, G, R, h⟩ => ⟨by show 0 ≤ sizeLine; omega, fun p hp => ?_⟩
  obtain ⟨R0, x0⟩ := Rel.free (o := .lst []) R hp
  refine ⟨s, _, R0, ((h.one1K (σ := σ)).ext x0).imp fun vs s2 G2 H2 us x2 R2 _ ⟨v, u, e1, e2, r2, h2⟩ => ⟨u, e2, ?_⟩⟩
  obtain ⟨hp2, ho2⟩ := x2.keep p _ upd_same (by simp)
  have ho : G2.own p = 1 := by rw [ho2]; simp
  have R3 := Rel.tag (2 * s2.B.length + 3) R2 ho
  have x3 := Ext.tag (2 * s2.B.length + 3) (x0.trans x2) (none_or hp)
  obtain ⟨R4, x4⟩ := Rel.allocB (p := p) (r := .lst []) R3 (Same.refl _) (fun _ _ _ => rfl) (.lst (part_iff.mpr ⟨by show (if p = p then _ else _) = _; rw [if_pos rfl], hp2⟩) .nil)
  try dsimp only at h2
  split at h2
  · rename_i c m e
    obtain ⟨k, rfl, ek, hl⟩ := insOf_some e
    obtain ⟨dx, fu, hk, hH, dd⟩ := ins_at R4 ek
    have hlen : s2.B.length < (s2.B ++ [Re.lst []]).length := by simp
    obtain ⟨R5, x5⟩ := Rel.setI R4 ek hH hk (fs_put ob.nd hy (v := .v (.b s2.B.length)) (u := .ref p) ⟨hlen, by simp⟩ dd)
    have r3 : u = .ref (if k = s2.B.length then p else G2.bdr k) := by
      rw [r2.2, if_neg (by have := r2.1; omega)]
    refine ⟨_, _, dx, fu, r3, hH, ob.cls c, ob.na c f y hy, ?_, h2 _ _ _ ((x3.trans x4).trans x5) R5⟩
    have := dd.length
    omega
  · exact h2.elim
/-- o.f = [a] * n -/
theorem st_newFR {f : Nat} {y : Str} {o a b : Expr} {fo fa fb : M (List Va)} {pos pos' pos2 pos3 : Pos} (hy : T.fnm[f]? = some y) (ho : PE X o (tE T W fo)) (ha : PE X a (tE T W fa)) (hb : PE X b (tE T W fb)) (hs : starEach [a] X.env = (false, eval a X.env) :: starEach [] X.env) : PS X (.Assign [.Attribute o y pos'] (.BinOp (.List [a] pos2) .Mult b pos3) pos) (tS T W fun s => one1 (fa s) fun v s => match solid s v with
    | some z => one1 (fb s) fun w s => match w with
      | .d (.int k) => match mulD (.list [z]) (.int k) with
        | some (.list xs) => one1 (fo s) fun x s => match insOf s x with
          | some (c, m) => .ok .next (setIns s x c (putN f (.ol xs) m))
          | none => .stuck
        | _ => .stuck
      | _ => .stuck
    | none => .stuck) := by
  refine ps_imp (ps_fld ho (pe_op op_rep (pe_lst (pa_cons ha pa_nil hs)) hb) (by rfl)) fun D σ H ⟨s, G, R, h⟩ => ⟨s, G, R, (h.one1 (σ := σ)).imp fun vs s1 G1 H1 us x R1 _ ⟨v, u, e1, e2, r1, h1⟩ => ⟨u, e2, ?_⟩⟩
  try dsimp only at h1
  split at h1
  · rename_i z ez
    refine ⟨by show 1 ≤ sizeLine; rw [sizeLine_eq]; decide, fun p hp => ?_⟩
    obtain ⟨R0, x0⟩ := Rel.free (o := .lst [u]) R1 hp
    have dy := dp_mono x0.data _ _ (vrep_solid R1 r1 ez)
    refine ⟨s1, _, R0, ((h1.ext x0).one1 (σ := σ)).imp fun vs2 s2 G2 H2 us2 x2 R2 _ ⟨w, u2, e3, e4, r2, h2⟩ => ⟨u2, e4, ?_⟩⟩
    try dsimp only at h2
    split at h2
    · rename_i k
      cases r2
      simp only [mulD] at h2
      split at h2
      · rename_i xs em
        split at em
        · rename_i hl
          cases em
          obtain ⟨hp2, _⟩ := x2.keep p _ upd_same (by simp)
          have d : DxAll T.K (part G2.own 0 H2) [u] [z] := .cons (dp_mono x2.data _ _ dy) .nil
          refine ⟨p, k, [u], rfl, rfl, hp2, hl.1, hl.2.1, Nat.le_trans hl.2.2 lim_line, fun q hq => ?_⟩
          obtain ⟨R3, x3⟩ := Rel.free (o := .lst (List.replicate k.toNat [u]).flatten) R2 hq
          refine ⟨s2, _, R3, ((h2.one1K (σ := σ)).ext x3).imp fun vs3 s3 G3 H3 us3 x3' R3 _ ⟨v3, u3, e5, e6, r3, h3⟩ => ⟨u3, e6, ?_⟩⟩
          obtain ⟨hq3, ho3⟩ := x3'.keep q _ upd_same (by simp)
          exact newF_end hK ob hy (none_or hq) (x3.trans x3') R3 hq3 (by rw [ho3]; simp) (dpAll_mono (x3.trans x3').data _ _ (dpAll_rep d _)) r3 h3
        · cases em
      · exact h2.elim
    · exact h2.elim
  · exact h1.elim
/-- o.f = list(e) -/
theorem st_newFO (hm : X.mg "list" = none) (hg : Gl X "list") {f : Nat} {y : Str} {o e : Expr} {fo fe : M (List Va)} {pos pos' p1 p2 : Pos} (hy : T.fnm[f]? = some y) (ho : PE X o (tE T W fo)) (he : PE X e (tE T W fe)) (hs : starEach [e] X.env = (false, eval e X.env) :: starEach [] X.env) : PS X (.Assign [.Attribute o y pos'] (.Call (.Name "list" p1) [e] [] p2) pos) (tS T W fun s => one1 (fe s) fun v s => match solid s v with
    | some z => match listOf z with
      | some xs => one1 (fo s) fun x s => match insOf s x with
        | some (c, m) => .ok .next (setIns s x c (putN f (.ol xs) m))
        | none => .stuck
      | none => .stuck
    | none => .stuck) := by
  refine ps_imp (ps_fld ho (pe_callTy call_list_of hg hm (by decide +kernel) (pa_cons he pa_nil hs) (by decide) (by decide) hs (by rfl)) (by rfl)) fun D σ H ⟨s, G, R, h⟩ => ⟨s, G, R, (h.one1 (σ := σ)).imp fun vs s1 G1 H1 us x R1 _ ⟨v, u, e1, e2, r1, h1⟩ => ⟨u, e2, ?_⟩⟩
  try dsimp only at h1
  split at h1
  · rename_i z ez
    split at h1
    · rename_i xs exs
      have dz := vrep_solid R1 r1 ez
      have key : ∃ p ys, u = .ref p ∧ (SqL X.K H1 p ys ∨ SqT X.K H1 p ys) ∧ DxAll T.K (part G1.own 0 H1) ys xs := by
        cases z with
        | list l => cases exs; cases dz with
          | lst q da => exact ⟨_, _, rfl, .inl (SqL.of (part_sub _ _ q)), da⟩
        | tuple l => cases exs; cases dz with
          | tup q da => exact ⟨_, _, rfl, .inr (by rw [hK]; exact sqT_mono part_sub q), da⟩
        | _ => cases exs
      obtain ⟨p, ys, eu, hp, da⟩ := key
      refine ⟨p, ys, by rw [eu], hp, fun q hq => ?_⟩
      obtain ⟨R3, x3⟩ := Rel.free (o := .lst ys) R1 hq
      refine ⟨s1, _, R3, ((h1.one1K (σ := σ)).ext x3).imp fun vs3 s3 G3 H3 us3 x3' R3 _ ⟨v3, u3, e5, e6, r3, h3⟩ => ⟨u3, e6, ?_⟩⟩
      obtain ⟨hq3, ho3⟩ := x3'.keep q _ upd_same (by simp)
      exact newF_end hK ob hy (none_or hq) (x3.trans x3') R3 hq3 (by rw [ho3]; simp) (dpAll_mono (x3.trans x3').data _ _ da) r3 h3
    · exact h1.elim
  · exact h1.elim
omit ob in
/-- o.append(e), o a list of the box -/
theorem st_appE {a e : Expr} {fa fe : M (List Va)} {pos p2 p3 : Pos} (ha : PE X a (tE T W fa)) (he : PE X e (tE T W fe)) (hb : attributeBase a "append" X.env (eval a X.env) = eval a X.env) (hline : (p2.endLine == p3.line) = true)
    (hs : starEach [e] X.env = (false, eval e X.env) :: starEach [] X.env) : PS X (.Expr (.Call (.Attribute a "append" p2) [e] [] p3) pos) (tS T W fun s => one1 (fa s) fun x s => match x with
    | .b k => match s.B[k]? with
      | some (.lst _) => one1 (fe s) fun v s => match s.B[k]?, solid s v with
        | some (.lst xs), some y => if xs.length < lim then .ok .next { s with B := s.B.set k (.lst (xs ++ [y])) } else .stuck
        | _, _ => .stuck
      | _ => .stuck
    | _ => .stuck) := by
  refine ps_imp (ps_expr (pe_bm PySem.F.plainAttrs_list PySem.F.slot_list_append PySem.F.type_list_append mt_append ha (pa_cons he pa_nil hs) hb (by rw [hs]; rfl) hline hs (by rfl)) (by rfl)) fun D σ H ⟨s, G, R, h⟩ => ⟨s, G, R, (h.one1 (σ := σ)).imp fun vs s1 G1 H1 us x R1 _ ⟨v, u, e1, e2, r1, h1⟩ => ⟨u, e2, ?_⟩⟩
  try dsimp only at h1
  split at h1
  · rename_i k
    split at h1
    · rename_i xs0 ek
      obtain ⟨us0, ho0, c1, c2⟩ := lst_at R1 ek
      rw [r1.2]
      refine ⟨.inl ⟨rfl, us0, SqL.of c1⟩, s1, G1, R1, (h1.one1 (σ := σ)).imp fun vs2 s2 G2 H2 us2 x2 R2 _ ⟨v2, w, e3, e4, r2, h2⟩ => ⟨w, e4, ?_⟩⟩
      try dsimp only at h2
      split at h2
      · rename_i xs y' ew es
        split at h2
        · rename_i hl
          obtain ⟨us1, ho1, c3, c4⟩ := lst_at R2 ew
          have ea : G2.bdr k = G1.bdr k := x2.bdr k r1.1
          obtain ⟨R3, x3⟩ := Rel.setBL R2 ew (dpAll_append c4 (.cons (vrep_solid R2 r2 es) .nil))
          rw [← ea]
          exact ⟨_, us1, w, rfl, rfl, c3, by rw [dpAll_length c4]; exact Nat.lt_of_lt_of_le hl lim_line, h2 _ _ _ x3 R3⟩
        · exact h2.elim
      · exact h2.elim
    · exact h1.elim
  · exact h1.elim
/-- o.f[i] = e, a list of its own -/
theorem st_fset {f : Nat} {y : Str} {o b e : Expr} {fo fe : M (List Va)} {fv : Sg → Option PyData} {pos p1 p2 : Pos} (hy : T.fnm[f]? = some y) (ho : PE X o (tE T W fo)) (hb : attributeBase o y X.env (eval o X.env) = eval o X.env) (hi : PE X b (tV T fv)) (he : PE X e (tE T W fe))
    (hs : swapsWithSole [.Subscript (.Attribute o y p1) b p2] e pos.line X.env = pure false) (hw : swappedStores [.Subscript (.Attribute o y p1) b p2] e X.env = pure none)
    (ha : ∀ v, assign (.Subscript (.Attribute o y p1) b p2) X.env v = (do
      let ov ← holding [v] (eval (.Attribute o y p1) X.env)
      let iv ← holding [v, ov] (eval b X.env)
      standAt p2
      holding [v, ov, iv] (setItem ov iv v)
      release [v, ov, iv] [])) : PS X (.Assign [.Subscript (.Attribute o y p1) b p2] e pos) (tS T W fun s => one1 (fe s) fun v s => one1 (fo s) fun x s => match insOf s x, solid s v with
    | some (c, m), some y => match getN f m with
      | some (.ol xs) => match fv s with
        | some (.int n) => match L2.ixN xs.length n with
          | some j => if onlyO f m then .ok .next (setIns s x c (putN f (.ol (xs.set j y)) m)) else .stuck
          | none => .stuck
        | _ => .stuck
      | _ => .stuck
    | _, _ => .stuck) := by
  refine ps_imp (ps_asg he (pg_sub (pe_fld ho hb) hi set_list ha) hs hw (by rfl)) fun D σ H ⟨s, G, R, h⟩ => ⟨s, G, R, (h.one1 (σ := σ)).imp fun vs s1 G1 H1 us x1 R1 _ ⟨v, u, e1, e2, r1, h1⟩ => ⟨u, e2, s1, G1, R1, (h1.one1 (σ := σ)).imp fun vs2 s2 G2 H2 us2 x2 R2 _ ⟨v2, u2, e3, e4, r2, h2⟩ => ⟨u2, e4, ?_⟩⟩⟩
  try dsimp only at h2
  split at h2
  · rename_i c m z e ez
    obtain ⟨k, rfl, ek, hl⟩ := insOf_some e
    obtain ⟨dx, fu, hk, hH, d⟩ := ins_at R2 ek
    split at h2
    · rename_i xs ew
      split at h2
      · rename_i n en
        split at h2
        · rename_i j ej
          split at h2
          · rename_i hO
            obtain ⟨p, us', l, hp, dd, kk⟩ := fs_set ob.nd hy d ew hO
            obtain ⟨hp1, hp2⟩ := part_iff.mp hp
            refine ⟨_, _, dx, fu, .ref p, r2.2, hH, ob.cls c, ob.na c f y hy, l, s2, G2, R2, _, en, fun w rw' => ?_⟩
            cases rw'
            refine ⟨p, us', n, j, rfl, rfl, hp2, by rw [dpAll_length dd]; exact ej, ?_⟩
            have sm : Same (part G2.own 0 H2) (part G2.own 0 (upd H2 p (.lst (us'.set j u)))) := fun a o q => by
              obtain ⟨q1, q2⟩ := part_iff.mp q
              exact part_iff.mpr ⟨q1, by rw [upd_ne (fun z => by rw [z, hp1] at q1; omega)]; exact q2⟩
            have dz := dpAll_set (vrep_solid R2 (r1.ext x2) ez) j dd
            have hne : G2.bdr k ≠ p := fun z => by rw [z, hp2] at hH; cases hH
            obtain ⟨R3, x3⟩ := Rel.setB (k := k) (r := .ins c (putN f (.ol (xs.set j z)) m)) R2 (bx_len ek) (own' := G2.own) (H' := upd H2 p (.lst (us'.set j u))) (fun a o h hn => ⟨by rw [upd_ne (fun q => hn (by rw [q]; exact hp1))]; exact h, rfl⟩)
              (.ins (dx := dx) (fu := fu) (part_iff.mpr ⟨hk, by rw [upd_ne hne]; exact hH⟩) (kk _ _ _ _ sm (part_iff.mpr ⟨hp1, upd_same⟩) (dpAll_mono sm _ _ dz)))
            exact h2 _ _ _ x3 R3
          · exact h2.elim
        · exact h2.elim
      · exact h2.elim
    · exact h2.elim
  · exact h2.elim
omit ob hK in
theorem isB_reps {F : Hp} {ca ba : Nat → Addr} {nc nb : Nat} {vs : List Va} {us : List V} (h : vs.all Va.isB = true) (d : VReps T F ca ba nc nb vs us) : VReps T F z0 ba 0 nb vs us := by
  induction d with
  | nil => exact .nil
  | cons a b ih =>
    rw [List.all_cons, Bool.and_eq_true] at h
    refine .cons ?_ (ih h.2)
    rename_i v _ _ _
    cases v with
    | b k => exact a
    | _ => cases h.1
/-- o.f = [.. for ..], parts -/
theorem st_newFC {f : Nat} {y : Str} {o : Expr} {fo : M (List Va)} {elt tge iter : Expr} {scope : Scope} {ownp : List (Str × Nat)} {pos pos' spos : Pos} {fs fe : M (List Va)} {tg : List Nat} (hy : T.fnm[f]? = some y) (ho : PE X o (tE T W fo)) (sub : ∀ i ∈ tg, i ∈ ownp.map (·.2)) (hc : X.calm = true) (hN : X.N.Nodup) (hi : PI X tge iter (tI T W fs)) (ok : BlkOk X.N X.env.scope scope ownp)
    (hg : ∀ (s : Shared) (H : Hp) (C : Addr) (cl : List (Str × Addr)) (fp : List Addr), PG (X.blk s H scope (compEnvC scope cl C X.env) fp) tge (gOf X.K tg)) (ht : ∀ (s : Shared) (H : Hp) (C : Addr) (cl : List (Str × Addr)) (fp : List Addr), PTs (X.blk s H scope (compEnvC scope cl C X.env) fp) [] (tT T (fun _ _ _ _ => False) fun t => .ok true t))
    (he : ∀ (s : Shared) (H : Hp) (C : Addr) (cl : List (Str × Addr)) (fp : List Addr), PE (X.blk s H scope (compEnvC scope cl C X.env) fp) elt (tE T (fun _ _ _ _ => False) fe)) (hs : ∀ x, foldedSetIterable iter X.env x = pure x) :
    PS X (.Assign [.Attribute o y pos'] (.ListComp elt [⟨tge, iter, [], 0⟩] scope pos) spos) (tS T W fun s => (compM fs tg (ownp.map (·.2)) (fun t => .ok true t) fe s).bind fun vs s => if vs.all Va.isB then one1 (fo s) fun x s => match insOf s x with
      | some (c, m) => .ok .next (setIns s x c (putN f (.fl vs) m))
      | _ => .stuck else .stuck) := by
  refine ps_imp (ps_fld ho (pe_lc hc hN hi ok hg ht he hs) (by rfl)) fun D σ H ⟨s, G, R, h⟩ => ?_
  refine c_rd hK sub R ?_
  dsimp only at h
  cases q : compM fs tg (ownp.map (·.2)) (fun t => .ok true t) fe s with
  | err c t => rw [q] at h; exact fun G' H' x R => h G' H' σ x R
  | stuck => rw [q] at h; exact h
  | ok vs t =>
    rw [q] at h
    rintro G1 H1 ⟨D', us⟩ x1 R1 ⟨h1, h2, h3, h4⟩
    have h : PoS T W G H s.W.length s.B.length (if vs.all Va.isB then one1 (fo t) fun x s => match insOf s x with
      | some (c, m) => .ok .next (setIns s x c (putN f (.fl vs) m))
      | _ => .stuck else .stuck) (DK T D) := h
    split at h
    · rename_i hB
      refine ⟨t, G1, R1, ((h.one1K (σ := σ)).ext x1).imp fun vs2 s2 G2 H2 us2 x2 R2 _ ⟨v, u, e1, e2, r2, h5⟩ => ⟨u, e2, ?_⟩⟩
      obtain ⟨k1, k2⟩ := x2.keep D' _ h1 (by rw [show G1.own D' = 1 from h2]; decide)
      have ho2 : G2.own D' = 1 := k2.trans h2
      try dsimp only at h5
      split at h5
      · rename_i c m e
        obtain ⟨k, rfl, ek, hl⟩ := insOf_some e
        obtain ⟨dx, fu, hk, hH, dd⟩ := ins_at R2 ek
        have R3 := Rel.tag 0 R2 ho2
        have x3 := Ext.tag 0 (x1.trans x2) h3
        obtain ⟨dx', fu', hk', hH', dd'⟩ := ins_at R3 ek
        rw [hH] at hH'
        cases hH'
        have rr : VReps T (part G2.own 0 H2) z0 G2.bdr 0 s2.B.length vs us := isB_reps hB (VReps.ext x2 h4)
        have rr' : VReps T (part (fun a => if a = D' then 0 else G2.own a) 0 H2) z0 G2.bdr 0 s2.B.length vs us := Paired.mapP rr fun _ _ => VRep.mono (tag_data ho2) (Nat.le_refl _) (Nat.le_refl _) (fun _ _ => rfl) (fun _ _ => rfl)
        obtain ⟨R4, x4⟩ := Rel.setI R3 ek hH hk' (fs_put ob.nd hy (v := .fl vs) (u := .ref D') ⟨D', us, rfl, part_iff.mpr ⟨by show (if D' = D' then _ else _) = _; rw [if_pos rfl], k1⟩, rr'⟩ dd')
        refine ⟨_, _, dx, fu, r2.2, hH, ob.cls c, ob.na c f y hy, ?_, h5 _ _ _ (x3.trans x4) R4⟩
        have := dd.length
        omega
      · exact h5.elim
    · exact h.elim
omit ob hK in
/-- a target o.f -/
theorem pg_fld {o : Expr} {y : Str} {pos : Pos} {to : TE} (ho : PE X o to) : PG X (.Attribute o y pos) (fun v σ H Q => to σ H fun x H1 => ∃ a C dx fs, x = .ref a ∧ H1 a = some (.ins C dx fs) ∧ Cls X.K C ∧ NoAttr X.K C y ∧ fs.length < 1000 ∧ Q σ (upd H1 a (.ins C dx (putF y v fs)))) := by
  refine ⟨fun pins s σ H v u Q I r h => ?_⟩
  show wpAny _ _ (do
      let ov ← holding [u] (eval o X.env)
      standAt pos.atName
      holding [u, ov] (setAttr ov y u)
      release [u, ov] []) _ _ _
  refine wpAny_bind (wpAny_holding (thn (ho.run pins s σ H _ I h) fun ov s1 ⟨x, H1, I1, r1, a, C, dx, fs, ex, ea, c, n, l, q⟩ => ?_))
  subst ex
  obtain rfl : ov = Value.ref a := r1
  refine wpAny_bind (wpAny_standAt (wpAny_bind (wpAny_holding (setattr_ok I1 ea c n l r fun s3 I3 => ?_))))
  exact wpAny_release ⟨σ, _, I3, q⟩
/-- x.f, x.g, .. -/
inductive Ats (X : Cx) (T : Tn) (i : Nat) (x : Str) : List Nat → List Expr → Prop where
  | nil : Ats X T i x [] []
  | cons {f fs y p pos es} : T.fnm[f]? = some y → Ats X T i x fs es → Ats X T i x (f :: fs) (.Attribute (.Name x p) y pos :: es)
def gAts (X : Cx) (T : Tn) (i : Nat) : List Nat → TGs
  | [] => gNil
  | f :: fs => gCons (fun v σ H Q => ∃ w, σ[i]? = some (some w) ∧ ∃ a C dx m, w = .ref a ∧ H a = some (.ins C dx m) ∧ Cls X.K C ∧ NoAttr X.K C ((T.fnm[f]?).getD "") ∧ m.length < 1000 ∧ Q σ (upd H a (.ins C dx (putF ((T.fnm[f]?).getD "") v m)))) (gAts X T i fs)
omit ob hK in
theorem Ats.each {i : Nat} {x : Str} {is : List Nat} {es : List Expr} (h : Ats X T i x is es) : (assignEach es X.env).findIdx? (·.1) = none ∧ (assignEach es X.env).length = is.length := by
  induction h with
  | nil => exact ⟨rfl, rfl⟩
  | cons _ _ ih =>
    refine ⟨?_, by show (_ :: _).length = _; simp [ih.2]⟩
    show ((false, _) :: assignEach _ X.env).findIdx? (·.1) = none
    rw [List.findIdx?_cons]
    simp [ih.1]
omit ob hK in
theorem Ats.pgs {i : Nat} {x : Str} {is : List Nat} {es : List Expr} (hN : X.N[i]? = some x) (hv : Vis X.env.scope x) (hd : (x == ("__debug__" : Str)) = false) (hcd : (x == ("__classdict__" : Str)) = false) (h : Ats X T i x is es) : PGs X es (gAts X T i is) := by
  induction h with
  | nil => exact pgs_nil
  | cons hy _ ih =>
    rename_i f fs y p pos es _
    refine pgs_cons ?_ ih (by rfl)
    have e : (T.fnm[f]?).getD "" = y := by rw [hy]; rfl
    rw [e]
    exact pg_fld (pe_var hN hv hd hcd)
theorem ats_rd {i : Nat} {x : Va} {D : St → Hp → Prop} {σ : St} {G0 : Gh} {H0 : Hp} {n m : Nat} : ∀ {fs : List Nat} {xs : List PyData} {us : List V} {s s' : Sg} {G : Gh} {H : Hp}, (∀ f ∈ fs, ∃ y, T.fnm[f]? = some y) → Rel T G s σ H → s.ρ[i]? = some (some x) → Ext G0 H0 n m G H s.W.length s.B.length → DxAll T.K (part G.own 0 H) us xs → setFs fs xs x s = some s' →
    (∀ G' H', Ext G0 H0 n m G' H' s'.W.length s'.B.length → Rel T G' s' σ H' → D σ H') → gAts X T i fs us σ H D
  | [], [], _, _, _, _, _, _, R, _, x0, d, e, q => by
    cases d
    cases e
    exact ⟨rfl, q _ _ x0 R⟩
  | f :: fs, z :: xs, _, s, s', G, H, hf, R, hx, x0, d, e, q => by
    cases d with
    | cons hz t =>
      obtain ⟨y, hy⟩ := hf f List.mem_cons_self
      simp only [setFs] at e
      split at e
      · rename_i c mm em
        obtain ⟨k, rfl, ek, hl⟩ := insOf_some em
        obtain ⟨dx, fu, hk, hH, dd⟩ := ins_at R ek
        obtain ⟨w, w1, w2⟩ := R.slot i _ hx
        obtain ⟨R3, x3⟩ := Rel.setI R ek hH hk (fs_put ob.nd hy (v := .v (.d z)) hz dd)
        refine ⟨_, _, rfl, w, w1, _, _, dx, fu, w2.2, hH, ob.cls c, ?_, ?_, ?_⟩
        · rw [hy]; exact ob.na c f y hy
        · have := dd.length; omega
        · rw [show (T.fnm[f]?).getD "" = y by rw [hy]; rfl]
          exact ats_rd (fun g hg => hf g (List.mem_cons_of_mem _ hg)) R3 hx (x0.trans x3) (dpAll_mono x3.data _ _ t) e q
      · cases e
  | [], _ :: _, _, _, _, _, _, _, _, _, _, _, e, _ => by cases e
  | _ :: _, [], _, _, _, _, _, _, _, _, _, _, e, _ => by cases e
omit ob hK in
theorem setFs_len {x : Va} : ∀ {fs : List Nat} {xs : List PyData} {s s' : Sg}, setFs fs xs x s = some s' → xs.length = fs.length
  | [], [], _, _, _ => rfl
  | f :: fs, z :: xs, s, s', e => by
    simp only [setFs] at e
    split at e
    · simp [setFs_len e]
    · cases e
  | [], _ :: _, _, _, e => by cases e
  | _ :: _, [], _, _, e => by cases e
/-- x.f, x.g, .. = e -/
theorem st_setfs {i : Nat} {x : Str} {fs : List Nat} {es : List Expr} {e : Expr} {fe : M (List Va)} {k : Nat} {pt pos : Pos} (hc : X.calm = true) (hN : X.N[i]? = some x) (hv : Vis X.env.scope x) (hd : (x == ("__debug__" : Str)) = false) (hcd : (x == ("__classdict__" : Str)) = false) (ha : Ats X T i x fs es) (hf : ∀ f ∈ fs, ∃ y, T.fnm[f]? = some y) (he : PE X e (tE T W fe))
    (hs : swapsWithSole [.Tuple es k pt] e pos.line X.env = pure false) (hw : swappedStores [.Tuple es k pt] e X.env = pure none) : PS X (.Assign [.Tuple es k pt] e pos) (tS T W fun s => one1 (fe s) fun v s => match solid s v, s.ρ[i]? with
    | some (.tuple xs), some (some x) => match setFs fs xs x s with
      | some s => .ok .next s
      | none => .stuck
    | _, _ => .stuck) := by
  refine ps_imp (ps_asg he (pg_tup hc (ha.pgs hN hv hd hcd) ha.each.2 ha.each.1) hs hw (by rfl)) fun D σ H ⟨s, G, R, h⟩ => ⟨s, G, R, (h.one1 (σ := σ)).imp fun vs s1 G1 H1 us x1 R1 _ ⟨v, u, e1, e2, r1, h1⟩ => ⟨u, e2, ?_⟩⟩
  try dsimp only at h1
  split at h1
  · rename_i xs w ez ew
    split at h1
    · rename_i s2 es2
      have d := vrep_solid R1 r1 ez
      cases d with
      | tup a da =>
        rw [hK]
        refine ⟨_, _, rfl, sqT_mono part_sub a, by rw [dpAll_length da]; exact setFs_len es2, ats_rd hK ob hf R1 ew (Ext.refl _ _ _ _) da es2 fun G' H' x' R' => h1 G' H' σ x' R'⟩
    · exact h1.elim
  · exact h1.elim
end
end BC

/-! BMet: methods, and objects that are made. -/
namespace BC
open PySem L2 PySem.Spec
section
variable {X : Cx} {CX : CXT} {k : Nat} {f C : Addr} {fd : FuncData} {ps : List Str} {sp : Sp} {E : St → XK} {x m : Str} {p pos apos : Pos} {e o : Expr} {es : List Expr} {ta : TE} {t : TA}
def tMethS (C : Addr) (m : Str) (sp : Sp) (E : St → XK) (ta : TE) (t : TA) : TE := fun σ H Q => ta σ H fun x H1 => ∃ a dx fs, x = .ref a ∧ H1 a = some (.ins C dx fs) ∧ fs.lookup m = none ∧ t σ H1 fun vs H2 => sp (x :: vs) H2 Q (E σ)
theorem pe_methS' {pl : Sem Bool} (he : PE X o ta) (c : Cls X.K C) (hm : Meth X.K C m f) (F : FnOk X.prog X.w X.K X.mg X.base CX k f fd ps sp) (hr : Room k X.A) (hb : Binds X.K fd ps []) (hx : ∀ σ, PassesAt CX X σ (E σ)) (ha : PA X (e :: es) t)
    (hst : starEach (e :: es) X.env = (false, eval e X.env) :: starEach es X.env) (hpl : (backTo pos (starEach es X.env)).any (·.1) = false)
    (ht : eval (.Call (.Attribute o m apos) (e :: es) [] pos) X.env = (do
      let ov ← eval o X.env
      standAt apos.atName
      let (f, first) ← holding [ov] (getMethod ov m pl)
      callWith pos f first (backTo pos (starEach (e :: es) X.env)) (backToKw pos (keywordEach [] X.env)))) :
    PE X (.Call (.Attribute o m apos) (e :: es) [] pos) (tMethS C m sp E ta t) := by
  refine ⟨fun pins s σ H Q I h => ?_⟩
  refine PySem.W.methodCall_KW (pl := pl) (thn (he.run pins s σ H _ I h) fun u s1 ⟨x, H1, I1, rx, a, dx, fs, ex, ea, l, q⟩ => ?_) ht
  subst ex
  obtain rfl : u = Value.ref a := rx
  refine getmeth_ok I1 ea c hm l ?_
  refine PySem.W.callWith_K (first := [.ref a]) (h₀ := X.base) I.ok.mod.kin hm.kp (thn (ha.run pos pins s1 σ H1 _ I1 q) fun us s2 ⟨vs, H2, I2, r, q2⟩ => ⟨I2.kIn, ?_⟩) hst hpl
  exact run_fnS (us := .ref a :: us) (vs := .ref a :: vs) F hr hb (hx σ) I2 (.cons rfl r) q2
theorem pe_methS0' {pl : Sem Bool} (he : PE X o ta) (c : Cls X.K C) (hm : Meth X.K C m f) (F : FnOk X.prog X.w X.K X.mg X.base CX k f fd ps sp) (hr : Room k X.A) (hb : Binds X.K fd ps []) (hx : ∀ σ, PassesAt CX X σ (E σ))
    (ht : eval (.Call (.Attribute o m apos) [] [] pos) X.env = (do
      let ov ← eval o X.env
      standAt apos.atName
      let (f, first) ← holding [ov] (getMethod ov m pl)
      callWith pos f first (backTo pos (starEach [] X.env)) (backToKw pos (keywordEach [] X.env)))) :
    PE X (.Call (.Attribute o m apos) [] [] pos) (tMethS C m sp E ta tNil) := by
  refine ⟨fun pins s σ H Q I h => ?_⟩
  refine PySem.W.methodCall_KW (pl := pl) (thn (he.run pins s σ H _ I h) fun u s1 ⟨x, H1, I1, rx, a, dx, fs, ex, ea, l, q⟩ => ?_) ht
  subst ex
  obtain rfl : u = Value.ref a := rx
  refine getmeth_ok I1 ea c hm l ?_
  exact PySem.W.callWith_K0 (first := [.ref a]) I1.kIn hm.kp (run_fnS (us := [.ref a]) (vs := [.ref a]) F hr hb (hx σ) I1 (.cons rfl .nil) q)
/-- what a method is called on -/
def objE : Expr → Bool
  | .Name .. | .Attribute .. | .Subscript .. => true
  | .Call _ (_ :: _) _ _ => true
  | _ => false
theorem base_of {y : Str} (h : objE o = true) : attributeBase o y X.env (eval o X.env) = eval o X.env := by
  cases o <;> first | (cases h; done) | rfl | skip
  rename_i f as ks p
  cases as with
  | nil => cases h
  | cons a r => cases f <;> rfl
theorem meth_ht (h : objE o = true) (hfew : methodCallForm (es.length + ([] : List Keyword).length) (backTo pos (starEach es X.env)) (backToKw pos (keywordEach [] X.env)) = true) (hline : (apos.endLine == pos.line) = true) : ∃ pl : Sem Bool, eval (.Call (.Attribute o m apos) es [] pos) X.env = (do
      let ov ← eval o X.env
      standAt apos.atName
      let (f, first) ← holding [ov] (getMethod ov m pl)
      callWith pos f first (backTo pos (starEach es X.env)) (backToKw pos (keywordEach [] X.env))) := by
  refine ⟨do return (← importBound o X.env).getD true, ?_⟩
  have e0 : eval (.Call (.Attribute o m apos) es [] pos) X.env = (do
      let ov ← attributeBase o m X.env (eval o X.env)
      standAt apos.atName
      methodCall o m apos pos X.env ov (es.length + ([] : List Keyword).length) (backTo pos (starEach es X.env)) (backToKw pos (keywordEach [] X.env))) := by
    cases o <;> first | (cases h; done) | rfl
  rw [e0, base_of h]
  unfold methodCall methodCallPos calleeOf
  rw [hfew, hline]
  rfl
def tMakeS (C : Addr) (sp : Sp) (E : St → XK) (t : TA) : TE := fun σ H Q => t σ H fun vs H1 => ∀ x dx, H1 x = none → H1 dx = none → dx ≠ x → sp (.ref x :: vs) (upd (upd H1 dx (.own x)) x (.ins C dx [])) (fun v H2 => v = .non ∧ Q (.ref x) H2) (E σ)
theorem run_makeS {pins : List (Addr × Obj)} {σ : St} {H : Hp} {s : Shared} {Q : VK} {us : List Value} {vs : List V} (M : Mk X.K C f) (F : FnOk X.prog X.w X.K X.mg X.base CX k f fd ps sp) (hr : Room (k + 1) X.A) (hb : Binds X.K fd ps [])
    (hx : PassesAt CX X σ (E σ)) (I : Inv X pins σ H s) (r : Vals vs us)
    (h : ∀ x dx, H x = none → H dx = none → dx ≠ x → sp (.ref x :: vs) (upd (upd H dx (.own x)) x (.ins C dx [])) (fun v H2 => v = .non ∧ Q (.ref x) H2) (E σ)) :
    wpAny (model X.prog X.w) X.A (call (.ref C) us) (EP X pins σ Q) X.xe s := by
  have hq := h (s.heap.objs.size + 1) s.heap.objs.size (I.hok.fresh (Nat.le_succ _)) (I.hok.fresh (Nat.le_refl _)) (Nat.ne_of_lt (Nat.lt_succ_self _))
  have I2 := Inv.made (C := C) I
  have r2 : Vals (V.ref (s.heap.objs.size + 1) :: vs) (Value.ref (s.heap.objs.size + 1) :: us) := .cons rfl r
  have hl : (Value.ref (s.heap.objs.size + 1) :: us ++ []).length = ps.length := by
    have e := r2.length
    rw [F.len _ _ _ _ hq] at e
    rw [List.append_nil]
    exact e.symm
  have b := hb _ (Value.ref (s.heap.objs.size + 1) :: us) I2.kIn hl
  rw [List.append_nil] at b
  refine wpAny_call (make_map (f := f) I.kIn M.makes M.init (beq_iff_eq.mp M.fn) (codeAny_mono (F.run _ X.stack _ _ ⟨Value.ref (s.heap.objs.size + 1) :: us, []⟩ (Value.ref (s.heap.objs.size + 1) :: us) _ _ (E σ) (hr.make C us [])
    (I2.env0.make C us []) b r2 hq) fun r s' hq' => ?_))
  cases r with
  | error e => exact hx pins _ _ e s' I2 hq'
  | ok fl =>
    cases fl with
    | ret u =>
      obtain ⟨v, H', I3, rv, ev, q3⟩ := I2.after hq'
      subst ev
      exact ⟨rv, ⟨V.ref (s.heap.objs.size + 1), H', I3, rfl, q3⟩⟩
    | next => exact False.elim hq'
    | brk => exact False.elim hq'
    | cont => exact False.elim hq'
theorem pe_makeS (M : Mk X.K C f) (F : FnOk X.prog X.w X.K X.mg X.base CX k f fd ps sp) (hr : Room (k + 1) X.A) (hg : Gl X x) (hm : X.mg x = some (.ref C)) (hb : Binds X.K fd ps []) (hx : ∀ σ, PassesAt CX X σ (E σ))
    (ha : PA X (e :: es) t) (hdb : (x == ("__debug__" : Str)) = false) (he : starEach (e :: es) X.env = (false, eval e X.env) :: starEach es X.env) (hpl : (backTo pos (starEach es X.env)).any (·.1) = false) :
    PE X (.Call (.Name x p) (e :: es) [] pos) (tMakeS C sp E t) := by
  refine ⟨fun pins s σ H Q I h => ?_⟩
  refine wpAny_Call_Name_kw (ld_glob I hg hm ?_ hdb)
  refine PySem.W.callWith_K (h₀ := X.base) I.ok.mod.kin M.kp (thn (ha.run pos pins s σ H _ I h) fun us s1 ⟨vs, H1, I1, r, q⟩ => ⟨I1.kIn, ?_⟩) he hpl
  exact run_makeS M F hr hb (hx σ) I1 r q
theorem pe_call0S (F : FnOk X.prog X.w X.K X.mg X.base CX k f fd ps sp) (hr : Room k X.A) (hg : Gl X x) (hm : X.mg x = some (.ref f)) (hk : PySem.W.keepIn X.K (.ref f) = true) (hb : Binds X.K fd ps []) (hx : ∀ σ, PassesAt CX X σ (E σ)) (hdb : (x == ("__debug__" : Str)) = false) :
    PE X (.Call (.Name x p) [] [] pos) (tCallS sp E tNil) := by
  refine ⟨fun pins s σ H Q I h => ?_⟩
  refine wpAny_Call_Name_kw (ld_glob I hg hm ?_ hdb)
  exact PySem.W.callWith_K0 I.kIn hk (run_fnS (us := []) F hr hb (hx σ) I .nil h)
end

theorem argsRep_shift {T : Tn} {F F1 : Hp} {pa pa1 : Nat → Nat → Addr} (m : Same F F1) (hp : ∀ j, pa1 (j + 1) = pa j) {n : Nat} {as : List Av} {vs : List V} (h : ArgsRep T F pa n as vs) : ArgsRep T F1 pa1 (n + 1) as vs := by
  induction h with
  | nil => exact .nil
  | d hx _ ih => exact .d (dp_mono m _ _ hx) ih
  | x hx _ ih => exact .x (m _ _ hx) ih
  | s hx _ ih => exact .s (sqL_mono m hx) ih
  | r _ ih =>
    rename_i n r as us _
    rw [← hp n]
    exact .r ih
/-- C(..): from the promise of the making to __init__'s -/
theorem make_sp {T : Tn} {c : Nat} {φ : Fn} {vs : List V} {H : Hp} {Q : VK} {E : XK} (h : spF T false (makeF c φ) vs H Q E) (x dx : Addr) (hx : H x = none) (hdx : H dx = none) (ne : dx ≠ x) :
    spF T true φ (.ref x :: vs) (upd (upd H dx (.own x)) x (.ins (T.cls c) dx [])) (fun v H2 => v = .non ∧ Q (.ref x) H2) E := by
  obtain ⟨own, pa, as, ar, ht, h⟩ := h
  have hup : ∀ a o, H a = some o → (upd (upd H dx (.own x)) x (.ins (T.cls c) dx [])) a = some o ∧ a ≠ x ∧ a ≠ dx := fun a o e => by
    have h1 := ne_of_none e hx
    have h2 := ne_of_none e hdx
    exact ⟨by rw [upd_ne h1, upd_ne h2]; exact e, h1, h2⟩
  have ow : ∀ a o, H a = some o → (if a = x then 2 else if a = dx then 1 else if own a ≤ 1 then own a else own a + 2) = (if own a ≤ 1 then own a else own a + 2) := fun a o e => by
    obtain ⟨_, h1, h2⟩ := hup a o e
    rw [if_neg h1, if_neg h2]
  have d0 : Same (part own 0 H) (part (fun a => if a = x then 2 else if a = dx then 1 else if own a ≤ 1 then own a else own a + 2) 0 (upd (upd H dx (.own x)) x (.ins (T.cls c) dx []))) := fun a o q => by
    obtain ⟨q1, q2⟩ := part_iff.mp q
    refine part_iff.mpr ⟨?_, (hup a o q2).1⟩
    show (if a = x then 2 else if a = dx then 1 else if own a ≤ 1 then own a else own a + 2) = 0
    rw [ow a o q2, if_pos (by omega)]; exact q1
  refine ⟨fun a => if a = x then 2 else if a = dx then 1 else if own a ≤ 1 then own a else own a + 2, fun j => match j with
    | 0 => fun _ => x
    | j + 1 => pa j, .r (.ins c []) :: as, .r (argsRep_shift d0 (fun _ => rfl) ar), fun j r hr => ?_, ?_⟩
  · cases j with
    | zero =>
      have : r = .ins c [] := by simpa [resL] using hr.symm
      subst this
      exact .one rfl (.ins (part_iff.mpr ⟨by show (if x = x then _ else _) = _; rw [if_pos rfl], upd_same⟩) .nil)
    | succ j =>
      have hr : (resL as)[j]? = some r := by simpa [resL] using hr
      refine (ht j r hr).mono d0 fun a o q => ?_
      obtain ⟨q1, q2⟩ := part_iff.mp q
      refine part_iff.mpr ⟨?_, (hup a o q2).1⟩
      show (if a = x then 2 else if a = dx then 1 else if own a ≤ 1 then own a else own a + 2) = 2 * (j + 1) + 2
      rw [ow a o q2, if_neg (by omega)]; omega
  · have ex2 : ∀ {own' : Addr → Nat} {H' : Hp}, Ex (fun a => if a = x then 2 else if a = dx then 1 else if own a ≤ 1 then own a else own a + 2) (upd (upd H dx (.own x)) x (.ins (T.cls c) dx [])) own' H' →
        Ex own H (fun a => if own' a ≤ 1 then own' a else if own' a = 2 then 2 * (resL as).length + 2 else own' a - 2) H' := by
      intro own' H' ex a o e t
      obtain ⟨e1, _, _⟩ := hup a o e
      have e2 : (if a = x then 2 else if a = dx then 1 else if own a ≤ 1 then own a else own a + 2) = own a := (ow a o e).trans (if_pos t)
      obtain ⟨k1, k2⟩ := ex a o e1 (by show (if a = x then 2 else if a = dx then 1 else if own a ≤ 1 then own a else own a + 2) ≤ 1; rw [e2]; exact t)
      have k2 : own' a = own a := k2.trans e2
      refine ⟨k1, ?_⟩
      show (if own' a ≤ 1 then own' a else _) = own a
      rw [if_pos (by omega)]; exact k2
    have dd : ∀ {own' : Addr → Nat} {H' : Hp}, Same (part own' 0 H') (part (fun a => if own' a ≤ 1 then own' a else if own' a = 2 then 2 * (resL as).length + 2 else own' a - 2) 0 H') := by
      intro own' H' a o q
      obtain ⟨q1, q2⟩ := part_iff.mp q
      exact part_iff.mpr ⟨by rw [if_pos (by omega)]; exact q1, q2⟩
    have tops : ∀ {own' : Addr → Nat} {pa' : Nat → Nat → Addr} {H' : Hp} {r0 : Re} {os : List Re}, os.length = (resL as).length → (∀ (j : Nat) (r : Re), (r0 :: os)[j]? = some r → TopAt T (part own' 0 H') (pa' j) r (part own' (2 * j + 2) H')) →
        ∀ (j : Nat) (r : Re), os[j]? = some r → TopAt T (part (fun a => if own' a ≤ 1 then own' a else if own' a = 2 then 2 * (resL as).length + 2 else own' a - 2) 0 H') (if j = (resL as).length then pa' 0 else pa' (j + 1)) r (part (fun a => if own' a ≤ 1 then own' a else if own' a = 2 then 2 * (resL as).length + 2 else own' a - 2) (2 * j + 2) H') := by
      intro own' pa' H' r0 os hl ht j r hr
      have hj : j < (resL as).length := by
        rw [← hl]
        rcases Nat.lt_or_ge j os.length with z | z
        · exact z
        · rw [List.getElem?_eq_none z] at hr; cases hr
      rw [if_neg (by omega)]
      refine (ht (j + 1) r (by simpa using hr)).mono dd fun a o q => ?_
      obtain ⟨q1, q2⟩ := part_iff.mp q
      exact part_iff.mpr ⟨by rw [if_neg (by omega), if_neg (by omega), q1]; omega, q2⟩
    have agree : ∀ {pa' : Nat → Nat → Addr}, (∀ (j : Nat) (r : Re), (resL (Av.r (.ins c []) :: as))[j]? = some r → pa' j 0 = (match j with
        | 0 => fun _ => x
        | j + 1 => pa j : Nat → Addr) 0 ∧ (true = true → j = 0 → ∀ i, i < r.size → pa' j i = (match j with
        | 0 => fun _ => x
        | j + 1 => pa j : Nat → Addr) i)) → ∀ (j : Nat) (r : Re), (resL as)[j]? = some r → (if j = (resL as).length then pa' 0 else pa' (j + 1)) 0 = pa j 0 ∧ (false = true → j = 0 → ∀ i, i < r.size → (if j = (resL as).length then pa' 0 else pa' (j + 1)) i = pa j i) := by
      intro pa' hp j r hr
      have hj : j < (resL as).length := by
        rcases Nat.lt_or_ge j (resL as).length with z | z
        · exact z
        · rw [List.getElem?_eq_none z] at hr; cases hr
      rw [if_neg (by omega)]
      exact ⟨(hp (j + 1) r (by simpa [resL] using hr)).1, fun z => by cases z⟩
    cases hφ : φ (.r (.ins c []) :: as) with
    | stuck =>
      have e : makeF c φ as = .stuck := by unfold makeF; rw [hφ]
      rw [e] at h
      exact h.elim
    | err cc outs =>
      cases outs with
      | nil =>
        have e : makeF c φ as = .stuck := by unfold makeF; rw [hφ]
        rw [e] at h
        exact h.elim
      | cons r0 os =>
        have e : makeF c φ as = .err cc os := by unfold makeF; rw [hφ]
        rw [e] at h
        obtain ⟨hl, hh⟩ := h
        refine ⟨by simp [resL, hl], fun own' pa' H' ex hp ht' => ?_⟩
        exact hh _ (fun j => if j = (resL as).length then pa' 0 else pa' (j + 1)) H' (ex2 ex) (agree hp) (tops hl ht')
    | ok v outs =>
      have st : ∀ z, makeF c φ as = z → z = .stuck → False := fun z e1 e2 => by rw [e1, e2] at h; exact h
      cases v with
      | d y =>
        cases y with
        | none =>
          cases outs with
          | nil => exact (st _ rfl (by unfold makeF; rw [hφ])).elim
          | cons r0 os =>
            have e : makeF c φ as = .ok (.r r0) os := by unfold makeF; rw [hφ]
            rw [e] at h
            obtain ⟨hl, hh⟩ := h
            refine ⟨by simp [resL, hl], fun own' pa' H' u ex hp ht' ov => ?_⟩
            cases ov
            refine ⟨rfl, hh _ (fun j => if j = (resL as).length then pa' 0 else pa' (j + 1)) H' (.ref x) (ex2 ex) (agree hp) (tops hl ht') ⟨?_, ?_⟩⟩
            · dsimp only
              rw [if_pos rfl]
              rw [(hp 0 (.ins c []) rfl).1]
            · dsimp only
              rw [if_pos rfl]
              refine (ht' 0 r0 rfl).mono dd fun a o q => ?_
              obtain ⟨q1, q2⟩ := part_iff.mp q
              exact part_iff.mpr ⟨by rw [if_neg (by omega), if_pos (by omega)], q2⟩
        | _ => exact (st _ rfl (by unfold makeF; rw [hφ])).elim
      | _ => exact (st _ rfl (by unfold makeF; rw [hφ])).elim
section
variable {T : Tn} {G : Gh} {H : Hp} {σ : St} {s : Sg}
/-- an object with a class, at its address -/
theorem cls_at (R : Rel T G s σ H) {v : Va} {u : V} {r : Re} {c : Nat} {m : Str} (hm : m ∉ T.fnm) (rv : vrep T s G H v u) (e : resOf s v = some r) (ec : r.cls = some c) :
    ∃ a dx fu, u = .ref a ∧ H a = some (.ins (T.cls c) dx fu) ∧ fu.lookup m = none := by
  have key : ∀ {F : Hp} {ba : Nat → Addr} {nb : Nat} {a : Addr} {r : Re} {Hm : Hp}, Same Hm H → ResAt T F ba nb a r Hm → r.cls = some c → ∃ dx fu, H a = some (.ins (T.cls c) dx fu) ∧ fu.lookup m = none := by
    intro F ba nb a r Hm sm h ec
    cases h with
    | lst h d => cases ec
    | frz h => cases ec
    | ins h d =>
      cases ec
      exact ⟨_, _, sm _ _ h, fs_none hm d⟩
    | box e h =>
      rename_i rs own ba'
      cases rs with
      | nil => cases ec
      | cons r0 rs =>
        have q := h 0 r0 rfl
        cases r0 with
        | ins c' fs =>
          cases ec
          cases q with
          | ins h' d =>
            rw [← e]
            exact ⟨_, _, sm _ _ (part_iff.mp h').2, fs_none hm d⟩
        | lst _ => cases ec
        | frz _ => cases ec
        | box _ => cases ec
  cases v with
  | c k =>
    have e : s.W[k]? = some r := e
    obtain ⟨dx, fu, h1, h2⟩ := key part_sub (R.wld k r e) ec
    exact ⟨_, dx, fu, rv.2, h1, h2⟩
  | b k =>
    cases k with
    | zero =>
      simp only [resOf] at e
      split at e
      · rename_i c' fs rs hB
        have hc : c' = c := by
          cases e
          cases rs <;> (cases ec; rfl)
        subst hc
        obtain ⟨dx, fu, _, h1, d⟩ := ins_at (k := 0) (c := c') (fs := fs) R (by rw [hB]; rfl)
        exact ⟨_, dx, fu, rv.2, h1, fs_none hm d⟩
      · cases e
    | succ k =>
      have e : s.B[k + 1]? = some r := e
      obtain ⟨dx, fu, h1, h2⟩ := key part_sub (R.bx (k + 1) r e) ec
      exact ⟨_, dx, fu, rv.2, h1, h2⟩
  | d x => cases e
  | x n => cases e
  | s n => cases e
end
section
variable {X : Cx} {T : Tn} {W : WX} (hK : X.K = T.K)
include hK
/-- what stands at a call's end -/
theorem run_end {φ : Fn} {op : Bool} {m : Nat} {vs : List Va} {s1 : Sg} {G1 : Gh} {H1 : Hp} {σ : St} {Q : VK} (h1 : Po T W G1 H1 s1.W.length s1.B.length σ (vreps T) ((run φ op m vs s1).bind fun v s => .ok [v] s) (fun _ _ _ H' us => ∃ u, us = [u] ∧ Q u H')) :
    Po T W G1 H1 s1.W.length s1.B.length σ (fun v s G H u => vrep T s G H v u) (run φ op m vs s1) (fun _ _ _ H' u => Q u H') := by
  cases q : run φ op m vs s1 with
  | stuck => rw [q] at h1; exact h1.elim
  | err c s2 => rw [q] at h1; exact h1
  | ok v s2 =>
    rw [q] at h1
    intro G' H' u x2 R2 r2
    obtain ⟨u', e1, q2⟩ := h1 G' H' [u] x2 R2 (.cons r2 .nil)
    cases e1
    exact q2
/-- f(..), the result to the box or to the world -/
theorem s_callM {k m : Nat} {f : Addr} {fd : FuncData} {ps : List Str} {φ : Fn} {x : Str} {e : Expr} {es : List Expr} {fa : M (List Va)} {p pos : Pos} (F : FnOk X.prog X.w X.K X.mg X.base (L2.CX X.prog X.w) k f fd ps (spF T false φ)) (hr : Room k X.A) (hg : Gl X x) (hm : X.mg x = some (.ref f)) (hk : PySem.W.keepIn X.K (.ref f) = true) (hb : Binds X.K fd ps []) (tk : Takes X W)
    (ha : PA X (e :: es) (tL T W fa)) (hdb : (x == ("__debug__" : Str)) = false) (he : starEach (e :: es) X.env = (false, eval e X.env) :: starEach es X.env) (hpl : (backTo pos (starEach es X.env)).any (·.1) = false) :
    PE X (.Call (.Name x p) (e :: es) [] pos) (tE T W fun s => (fa s).bind fun vs s => (run φ false m vs s).bind fun v s => .ok [v] s) :=
  pe_imp (pe_callS F hr hg hm hk hb (fun σ => passAt tk σ) ha hdb he hpl) fun σ H Q ⟨s, G, R, h⟩ => ⟨s, G, R, (h.bind (rep' := vreps T)).imp fun vs s1 G1 H1 us x1 R1 r1 h1 => run_rd hK (m := m) R1 r1 (run_end hK h1.2)⟩
/-- f() -/
theorem s_call0 {k m : Nat} {f : Addr} {fd : FuncData} {ps : List Str} {φ : Fn} {x : Str} {p pos : Pos} (F : FnOk X.prog X.w X.K X.mg X.base (L2.CX X.prog X.w) k f fd ps (spF T false φ)) (hr : Room k X.A) (hg : Gl X x) (hm : X.mg x = some (.ref f)) (hk : PySem.W.keepIn X.K (.ref f) = true) (hb : Binds X.K fd ps []) (tk : Takes X W)
    (hdb : (x == ("__debug__" : Str)) = false) : PE X (.Call (.Name x p) [] [] pos) (tE T W fun s => (run φ false m [] s).bind fun v s => .ok [v] s) :=
  pe_imp (pe_call0S F hr hg hm hk hb (fun σ => passAt tk σ) hdb) fun σ H Q ⟨s, G, R, h⟩ => run_rd hK (m := m) R .nil (run_end hK h)
/-- C(..) -/
theorem s_make {k m c : Nat} {f : Addr} {fd : FuncData} {ps : List Str} {φ : Fn} {x : Str} {e : Expr} {es : List Expr} {fa : M (List Va)} {p pos : Pos} (Mk' : Mk X.K (T.cls c) f) (F : FnOk X.prog X.w X.K X.mg X.base (L2.CX X.prog X.w) k f fd ps (spF T true φ)) (hr : Room (k + 1) X.A) (hg : Gl X x) (hm : X.mg x = some (.ref (T.cls c))) (hb : Binds X.K fd ps []) (tk : Takes X W)
    (ha : PA X (e :: es) (tL T W fa)) (hdb : (x == ("__debug__" : Str)) = false) (he : starEach (e :: es) X.env = (false, eval e X.env) :: starEach es X.env) (hpl : (backTo pos (starEach es X.env)).any (·.1) = false) :
    PE X (.Call (.Name x p) (e :: es) [] pos) (tE T W fun s => (fa s).bind fun vs s => (run (makeF c φ) false m vs s).bind fun v s => .ok [v] s) :=
  pe_imp (pe_makeS Mk' F hr hg hm hb (fun σ => passAt tk σ) ha hdb he hpl) fun σ H Q ⟨s, G, R, h⟩ => ⟨s, G, R, (h.bind (rep' := vreps T)).imp fun vs s1 G1 H1 us x1 R1 r1 h1 => fun x dx hx hdx ne => make_sp (run_rd hK (m := m) R1 r1 (run_end hK h1.2)) x dx hx hdx ne⟩
/-- o.m(..) -/
theorem s_meth (ob : Ob X T) {k c : Nat} {f : Addr} {fd : FuncData} {ps : List Str} {φ : Fn} {y : Str} {o e : Expr} {es : List Expr} {fo fa : M (List Va)} {apos pos : Pos} (hy : y ∉ T.fnm) (hm : Meth X.K (T.cls c) y f) (F : FnOk X.prog X.w X.K X.mg X.base (L2.CX X.prog X.w) k f fd ps (spF T true φ)) (hr : Room k X.A) (hb : Binds X.K fd ps []) (tk : Takes X W)
    (ho : PE X o (tE T W fo)) (ha : PA X (e :: es) (tL T W fa)) (hob : objE o = true) (hfew : methodCallForm ((e :: es).length + ([] : List Keyword).length) (backTo pos (starEach (e :: es) X.env)) (backToKw pos (keywordEach [] X.env)) = true) (hline : (apos.endLine == pos.line) = true)
    (he : starEach (e :: es) X.env = (false, eval e X.env) :: starEach es X.env) (hpl : (backTo pos (starEach es X.env)).any (·.1) = false) :
    PE X (.Call (.Attribute o y apos) (e :: es) [] pos) (tE T W fun s => one1 (fo s) fun x s => match resOf s x with
      | some r => if r.cls = some c then (fa s).bind fun vs s => (run φ true 0 (x :: vs) s).bind fun v s => .ok [v] s else .stuck
      | none => .stuck) := by
  obtain ⟨pl, ht⟩ := meth_ht (X := X) (m := y) (es := e :: es) hob hfew hline
  refine pe_imp (pe_methS' ho (ob.cls c) hm F hr hb (fun σ => passAt tk σ) ha he hpl ht) fun σ H Q ⟨s, G, R, h⟩ => ⟨s, G, R, h.one1.imp fun vs s1 G1 H1 us x R1 _ ⟨v, u, e1, e2, r1, h1⟩ => ⟨u, e2, ?_⟩⟩
  try dsimp only at h1
  split at h1
  · rename_i r er
    split at h1
    · rename_i ec
      obtain ⟨a, dx, fu, eu, hH, hl⟩ := cls_at R1 hy r1 er ec
      refine ⟨a, dx, fu, eu, hH, hl, s1, G1, R1, (h1.bind (rep' := vreps T)).imp fun vs2 s2 G2 H2 us2 x2 R2 r2 h2 => run_rd hK (m := 0) R2 (.cons (VRep.ext x2 r1) r2) (run_end hK h2.2)⟩
    · exact h1.elim
  · exact h1.elim
/-- o.m() -/
theorem s_meth0 (ob : Ob X T) {k c : Nat} {f : Addr} {fd : FuncData} {ps : List Str} {φ : Fn} {y : Str} {o : Expr} {fo : M (List Va)} {apos pos : Pos} (hy : y ∉ T.fnm) (hm : Meth X.K (T.cls c) y f) (F : FnOk X.prog X.w X.K X.mg X.base (L2.CX X.prog X.w) k f fd ps (spF T true φ)) (hr : Room k X.A) (hb : Binds X.K fd ps []) (tk : Takes X W)
    (ho : PE X o (tE T W fo)) (hob : objE o = true) (hline : (apos.endLine == pos.line) = true) :
    PE X (.Call (.Attribute o y apos) [] [] pos) (tE T W fun s => one1 (fo s) fun x s => match resOf s x with
      | some r => if r.cls = some c then (run φ true 0 [x] s).bind fun v s => .ok [v] s else .stuck
      | none => .stuck) := by
  obtain ⟨pl, ht⟩ := meth_ht (X := X) (m := y) (es := []) hob rfl hline
  refine pe_imp (pe_methS0' ho (ob.cls c) hm F hr hb (fun σ => passAt tk σ) ht) fun σ H Q ⟨s, G, R, h⟩ => ⟨s, G, R, h.one1.imp fun vs s1 G1 H1 us x R1 _ ⟨v, u, e1, e2, r1, h1⟩ => ⟨u, e2, ?_⟩⟩
  try dsimp only at h1
  split at h1
  · rename_i r er
    split at h1
    · rename_i ec
      obtain ⟨a, dx, fu, eu, hH, hl⟩ := cls_at R1 hy r1 er ec
      exact ⟨a, dx, fu, eu, hH, hl, run_rd hK (m := 0) R1 (.cons r1 .nil) (run_end hK h1)⟩
    · exact h1.elim
  · exact h1.elim
end
end BC

/-! BTry: try, and what was caught as a value. -/
namespace BC
open PySem L2 PySem.Spec
/-- an object that stands, new since the entry, is tracked from now on -/
theorem track {X : Cx} {pins : List (Addr × Obj)} {σ : L2.St} {H : Hp} {s : Shared} {a : Addr} {o : HO} (I : Inv X pins σ H s) (na : H a = none) (n0 : X.s_0.heap.get? a = none) (nL : a ≠ X.env.locals) (nC : ∀ x c, X.env.cells.lookup x = some c → c ≠ a)
    (np : ∀ p ∈ X.pn ++ pins, p.1 ≠ a) (new : ObjOk X.prog X.w (upd H a o) s.heap a o) : Inv X pins σ (upd H a o) s := by
  have ne0 : ∀ b u, X.s_0.heap.get? b = some u → b ≠ a := fun b u e z => by rw [z, n0] at e; cases e
  have up : ∀ {b : Addr} {u : HO}, H b = some u → upd H a o b = some u := fun {b u} e => by rw [upd_ne (ne_of_none e na)]; exact e
  refine ⟨I.ok, I.os, I.bare, ⟨I.base.keep, I.base.slot, fun b u e n x => ?_, I.base.there, fun b xs e => ?_, fun b u v e => ?_, fun b ps e => ?_⟩, I.loc, I.cell, ?_, fun x c e => ?_, fun p hp => ?_, I.hok.laidN (fun _ _ e => e) na new, I.len⟩
  · rw [upd_ne (ne0 b u e)]; exact I.base.free b u e n x
  · exact up (I.base.tups b xs e)
  · exact up (I.base.frzs b u v e)
  · obtain ⟨more, e'⟩ := I.base.tbls b ps e
    exact ⟨more, up e'⟩
  · rw [upd_ne (Ne.symm nL)]; exact I.free
  · rw [upd_ne (nC x c e)]; exact I.freeC x c e
  · obtain ⟨h1, h2, h3⟩ := I.pin p hp
    exact ⟨h1, by rw [upd_ne (np p hp)]; exact h2, h3⟩
theorem exC_ok {P : Program} {w : World} {H : Hp} {h : Heap} {a : Addr} {cl : Value} {oe : Obj} {vs : Array Value} (e : h.get? a = some oe) (z : Zc cl none oe) (d : oe.data = .fields vs) : ObjOk P w H h a (ExC cl a) :=
  ⟨⟨oe, vs, e, z, d⟩, ⟨oe, e⟩, fun _ _ ⟨o, v, q, r⟩ k => ⟨o, v, k o q, r⟩⟩
/-- what 'except x as n: y = n' wishes: slot i is n's, slot j is y's -/
def wAsT (K : PySem.W.Frag) (c : Value) (i j : Nat) (Wout : WX) (D : Ends) : WX := fun cls d σ H =>
  ∃ b, PySem.W.exmOne K cls c = some b ∧ (b = true → d = none ∧ ∀ a, H a = none → D.nx (((σ.set i (some (.ref a))).set j (some (.ref a))).set i none) (upd H a (ExC cls a))) ∧ (b = false → Wout cls d σ H)
section
variable {X : Cx} {x n y : Str} {c : Value} {i j : Nat} {body : List Stmt} {np pos pos' p1 p2 p3 : Pos} {tb : WX → TS} {Wout : WX}
set_option maxHeartbeats 8000000 in
theorem ps_try_asT (hs : X.stack = X.env :: X.outer) (hf : X.env.frame = some X.env.locals) (hex : X.ex = []) (hN : X.N.Nodup) (hi : X.N[i]? = some n) (hln : X.env.kindOf n = some .local) (hj : X.N[j]? = some y) (hly : X.env.kindOf y = some .local) (hij : i ≠ j)
    (hd : (n == ("__debug__" : Str)) = false) (hcd : (n == ("__classdict__" : Str)) = false) (hc : Names X x c) (tk : Takes X Wout)
    (hb : ∀ (W : WX) (pn : List (Addr × Obj)) (xe : Value → Shared → Prop), Takes (X.tr pn xe) W → PassesOwn (model X.prog X.w) X.A X.env xe → PSs (X.tr pn xe) body (tb W)) :
    PS X (.Try body [.ExceptHandler (some (.Name x np)) (some n) [.Assign [.Name y p1] (.Name n p2) p3] pos'] [] [] pos) (fun D σ H => tb (wAsT X.K c i j Wout D) D σ H) := by
  refine ⟨fun pins s σ H D I h => ?_⟩
  have ok := I.ok
  have hfr : X.A.frames = some (X.env :: X.outer) := by rw [ok.frames, hs]
  refine wpAny_Try_except ?_
  let ctch : Value → Shared → Prop := fun e s₁ => wpAny (model X.prog X.w) X.A (noteFrame e X.env) (fun _ s₂ => wpAny (model X.prog X.w) X.A (setFlight e none) (fun _ s₃ =>
    wpAny (model X.prog X.w) X.A (handleBy e X.env [.ExceptHandler (some (.Name x np)) (some n) [.Assign [.Name y p1] (.Name n p2) p3] pos']) (SP X pins D) X.xe s₃) X.xe s₂) X.xe s₁
  have tkc : Takes (X.tr (X.pn ++ pins) ctch) (wAsT X.K c i j Wout D) := by
    rintro u s' ⟨a, B, sI, pins', σ', H', cls, d, rfl, J', nb, up, sky, na, os, ag, b, hb1, hyes, hno⟩
    have J : Inv X pins σ' H' sI := J'.ofTry ok
    have sky' : Sky B (X.env :: X.outer) a (Zc cls d) X.env.locals s'.heap := by rw [← hs]; exact sky
    show wpAny (model X.prog X.w) X.A (noteFrame (.ref a) X.env) _ _ _
    refine Sky.land Zc.steady hfr hf sky' fun h3 fl3 up3 => ?_
    have J3 : Inv X pins σ' H' { s' with heap := h3 } := J.landed nb fl3.1 (up.trans up3) os ag
    obtain ⟨oe3, vs3, he3, hz3, hd3⟩ := fl3.there
    have nfr : a ∉ frs (X.env :: X.outer) := fun hm => by
      obtain ⟨_, o', e', hnf⟩ := fl3.2.2.1.mem hm
      rw [he3] at e'; cases e'
      exact hnf _ hd3
    have nL : a ≠ X.env.locals := fun z => nfr (List.mem_filterMap.mpr ⟨X.env, List.mem_cons_self, by rw [hf, z]⟩)
    have nF : a ∉ X.fs := fun hm => by
      obtain ⟨e, he, q⟩ := List.mem_filterMap.mp hm
      exact nfr (List.mem_filterMap.mpr ⟨e, List.mem_cons_of_mem _ he, q⟩)
    -- nothing that stood ahead of it is it
    have apart : ∀ b u, sI.heap.get? b = some u → b ≠ a := fun b u e z => by
      subst z
      have q := nb b u e (by rw [hs]; exact nfr)
      rw [fl3.2.1] at q
      cases q
    have n0 : X.s_0.heap.get? a = none := by
      cases e : X.s_0.heap.get? a with
      | none => rfl
      | some u =>
        obtain ⟨o', q⟩ := J.base.there a u e (by rw [hex]; exact fun z => nomatch z)
        exact absurd rfl (apart a o' q)
    have nC : ∀ x c, X.env.cells.lookup x = some c → c ≠ a := fun x c e => by
      obtain ⟨v, o, q, _⟩ := J.cell x c e
      exact apart c o q
    have npn : ∀ p ∈ X.pn ++ pins, p.1 ≠ a := fun p hp => apart p.1 p.2 (J.pin p hp).1
    have S3 := J3.suite he3 hd3 na nL nF
    refine wpAny_handleBy_cons (codeAny_handlers_test ?_) (by intro q; cases q)
    have LT : PySem.W.Looks (model X.prog X.w) h3 (typeOf (.ref a)) cls := fun A Q E s k q => wpAny_typeOf_ref (k _ _ he3) (by rw [hz3.1]; exact q)
    have LM := PySem.W.exm_one (M := model X.prog X.w) (J3.kIn) LT hb1
    have test : ∀ {Q : Value → Shared → Prop} {E : Value → Shared → Prop}, Q c { s' with heap := h3 } → wpAny (model X.prog X.w) (X.A.mark (some (.ref a))) (eval (.Name x np) X.env) Q E { s' with heap := h3 } := fun {Q E} q => by
      obtain ⟨hg, hdbg, hm⟩ := hc
      rcases hm with hm | ⟨hm, hv, hnn⟩
      · exact ld_glob (X := X.suite a ((a, oe3) :: (X.pn ++ pins))) S3 hg hm q hdbg
      · exact ld_blt (X := X.suite a ((a, oe3) :: (X.pn ++ pins))) S3 hg hm hv q hnn hdbg
    refine test (LM.here ?_)
    cases b with
    | true =>
      refine codeAny_handlers_suite_as ?_
      refine HandSPX.lands_againZ fl3 fun h4 fl4 up4 => ?_
      have J4 : Inv X pins σ' H' { s' with heap := h4 } := J.landed nb fl4.1 ((up.trans up3).trans up4) os ag
      obtain ⟨oe4, vs4, he4, hz4, hd4⟩ := fl4.there
      obtain ⟨dn, yes2⟩ := hyes rfl
      subst dn
      have S4 := J4.suite he4 hd4 na nL nF
      refine store_ok (X := X.suite a ((a, oe4) :: (X.pn ++ pins))) (v := .ref a) S4 hN hi (.inl hln) rfl (fun s5 S5 => ?_) (.inr hln)
      have hlen : i < σ'.length := by rw [J.len]; exact (List.getElem?_eq_some_iff.mp hi).1
      have suite : PSs (X.suite a ((a, oe4) :: (X.pn ++ pins))) [.Assign [.Name y p1] (.Name n p2) p3] (fun D σ H => ∃ v, σ[i]? = some (some v) ∧ D.nx (σ.set j (some v)) H) :=
        pss_imp (pss_one (ps_set (X := X.suite a ((a, oe4) :: (X.pn ++ pins))) hN hj (.inl hly) (pe_var (X := X.suite a ((a, oe4) :: (X.pn ++ pins))) hi (.inl hln) hd hcd) (by rfl) (.inr hly))) fun D σ H ⟨v, q1, q2⟩ => ⟨v, q1, q2⟩
      refine wpAny_mono (suite.run [] s5 _ H' { nx := fun σ6 H6 => σ6 = (σ'.set i (some (.ref a))).set j (some (.ref a)) ∧ H6 = H', rt := fun _ _ => False, bk := fun _ _ => False, ct := fun _ _ => False } S5 ⟨.ref a, by simp [hlen], rfl, rfl⟩) (fun f s6 hsp => ?_) (fun _ _ z => False.elim z)
      cases f with
      | next =>
        obtain ⟨σ6, H6, S6, e6, e7⟩ := hsp
        subst e6
        subst e7
        obtain ⟨g1, _⟩ := S6.pin (a, oe4) (by simp)
        have T6 := track (S6.unsuite ok) na n0 nL nC npn (exC_ok g1 hz4 hd4)
        refine gone_ok T6 hN hi hln fun s7 J7 => ⟨_, _, J7, yes2 a na⟩
      | brk =>
        obtain ⟨_, _, _, q⟩ := hsp
        exact q.elim
      | cont =>
        obtain ⟨_, _, _, q⟩ := hsp
        exact q.elim
      | ret u =>
        obtain ⟨_, _, _, _, _, q⟩ := hsp
        exact q.elim
    | false =>
      show wpAny _ X.A (handleBy (.ref a) X.env []) _ _ _
      refine wpAny_handleBy_nil ?_
      obtain ⟨k1, k2, k3, oe, vs, T, oT, ts', he, hz, hd, h1, hr⟩ := id fl3
      unfold PySem.passOn
      refine wpAny_bind (wpAny_field he hd h1 ?_)
      rw [if_neg (show ¬ ((Value.ref T == Value.none) = true) from by simp)]
      have fin : wpAny (model X.prog X.w) X.A (setFlight (.ref a) X.env.frame) (fun _ s4 => wpAny (model X.prog X.w) X.A (throw (.ref a) : Sem Flow) (SP X pins D) X.xe s4) X.xe { s' with heap := h3 } := by
        rw [hf]
        refine HandSPX.setFlight_upZ fl3 fun h4 hh4 up4 => wpAny_throw (tk _ _ ?_)
        exact ⟨a, B, sI, pins, σ', H', cls, d, rfl, J, nb, (up.trans up3).trans up4, .inr (.inr (by rw [hs]; exact hh4)), na, os, ag, hno rfl⟩
      first
        | exact wpAny_bind (wpAny_pure (wpAny_bind fin))
        | exact wpAny_bind fin
  refine wpAny_mono ((hb (wAsT X.K c i j Wout D) (X.pn ++ pins) ctch tkc PassesOwn.looking).run [] s σ H D (I.toTry _) h) (fun f s1 hsp => ?_) (fun e s1 he => he)
  cases f with
  | next =>
    obtain ⟨σ', H', J', q⟩ := hsp
    exact wpAny_execs_nil ⟨σ', H', J'.ofTry ok, q⟩
  | brk =>
    obtain ⟨σ', H', J', q⟩ := hsp
    exact ⟨σ', H', J'.ofTry ok, q⟩
  | cont =>
    obtain ⟨σ', H', J', q⟩ := hsp
    exact ⟨σ', H', J'.ofTry ok, q⟩
  | ret u =>
    obtain ⟨v, σ', H', J', r, q⟩ := hsp
    exact ⟨v, σ', H', J'.ofTry ok, r, q⟩
end
end BC

/-! BExc: isinstance of a caught error; try over the evaluator. -/
namespace BC
open PySem L2
theorem call_isX {X : Cx} : CallR X (.builtin "isinstance") (fun xs H Q => ∃ (a D : Addr) (c : V) (cv : Value) (b : Bool), xs = [.ref a, c] ∧ H a = some (ExC (.ref D) a) ∧ ExcC X.K D ∧ ClsV c cv ∧ PySem.W.kitOne X.K (.ref D) cv = some b ∧ Q (.bl b) H) := by
  intro pins s σ H xs us Q I r h
  obtain ⟨a, D, c, cv, b, rfl, ha, C, hc, e, q⟩ := h
  obtain ⟨u1, u2, rfl, r1, r2⟩ := vals2 r
  have e2 := hc.eq r2
  subst e2
  cases r1
  obtain ⟨⟨oe, vs, ho, hz, hv⟩, _, _⟩ := (show ObjOk X.prog X.w H s.heap a (ExC (.ref D) a) from I.hok a _ ha)
  have J : PySem.W.InstAt s.heap a oe D none := by
    obtain ⟨oc, od, oda, osl⟩ := oe
    obtain ⟨h1, h2⟩ := hz
    dsimp only at h1 h2 hv
    subst h1 h2 hv
    exact ⟨ho, rfl, rfl, trivial⟩
  exact PySem.W.kia_one (PySem.W.handS_kitx_exc C.hg C.hk C.hs C.hd C.ha C.hn C.ht C.hm) I.kIn J e (fun z => nomatch z) fun tk => ⟨.bl b, H, I.tok tk, rfl, q⟩
/-- what the own errors' classes say -/
structure Xs (X : Cx) (T : Tn) : Prop where
  exc : ∀ e, ExcC X.K (T.exc e)
  val : ∀ e, PySem.W.kitOne X.K (.ref (T.exc e)) (.type "ValueError") = some true
/-- the class c against all -/
structure Xc (X : Cx) (T : Tn) (c : Nat) (x : Str) : Prop where
  mg : X.mg x = some (.ref (T.exc c))
  kit : ∀ e, PySem.W.kitOne X.K (.ref (T.exc e)) (.ref (T.exc c)) = some (subX e c)
  exm : ∀ e, PySem.W.exmOne X.K (.ref (T.exc e)) (.ref (T.exc c)) = some (subX e c)
section
variable {X : Cx} {T : Tn} {W : WX} (hK : X.K = T.K)
include hK
theorem isx_rd (xs : Xs X T) {t : Nat} {b : Expr} {v : V} {cv : Value} {p pos : Pos} {a : Expr} {f : M (List Va)} (hg : Gl X "isinstance") (hm : X.mg "isinstance" = none) (hb : PE X b (tC v)) (hv : ClsV v cv) (hk : ∀ n k, isiX n t = some k → PySem.W.kitOne X.K (.ref (T.exc n)) cv = some k) (ht : 6 ≤ t)
    (ha : PE X a (tE T W f)) (h1 : starEach [a, b] X.env = (false, eval a X.env) :: starEach [b] X.env) (h2 : starEach [b] X.env = (false, eval b X.env) :: starEach [] X.env) : PE X (.Call (.Name "isinstance" p) [a, b] [] pos) (tE T W fun s => one1 (f s) fun x s => boolO (isiV x t s) s) := by
  refine pe_imp (pe_callB call_isX hg hm (by decide +kernel) (pa_cons ha (pa_cons hb pa_nil h2) h1) (by decide) (by decide) h1 (by rw [h2]; rfl)) fun σ H Q ⟨s, G, R, h⟩ => ⟨s, G, R, h.one1.imp fun vs s1 G1 H1 us x R1 _ ⟨w, u, e1, e2, r1, h1⟩ => ⟨u, e2, ?_⟩⟩
  have no : ∀ d : PyData, isiD d t = none := fun d => by
    cases d <;> first | rfl | (simp only [isiD]; rw [if_neg (by omega)])
  have nope : ∀ {o : Option PyData} {s : Sg}, (match o with
      | some x => isiD x t
      | none => none) = none := fun {o s} => by cases o <;> simp [no]
  cases w with
  | x n =>
    obtain ⟨a', eu, ha'⟩ := r1
    have h1 : Po T W G1 H1 s1.W.length s1.B.length σ (vreps T) (boolO (isiX n t) s1) (fun _ _ _ H' us => ∃ u, us = [u] ∧ Q u H') := h1
    cases hz : isiX n t with
    | none => rw [hz] at h1; exact h1.elim
    | some k =>
      rw [hz] at h1
      exact ⟨a', T.exc n, v, cv, k, by rw [eu], part_sub _ _ ha', xs.exc n, hv, hk n k hz, here (v := .d (.bool k)) R1 (.bl k) h1⟩
  | d y => rw [show isiV (.d y) t s1 = none from no y] at h1; exact h1.elim
  | c k => rw [show isiV (.c k) t s1 = none from nope (s := s1)] at h1; exact h1.elim
  | b k => rw [show isiV (.b k) t s1 = none from nope (s := s1)] at h1; exact h1.elim
  | s ns => rw [show isiV (.s ns) t s1 = none from rfl] at h1; exact h1.elim
/-- the caught error in its slots -/
theorem caught_rel {G : Gh} {s : Sg} {σ : St} {H : Hp} {a : Addr} {e i j : Nat} (R : Rel T G s σ H) (na : H a = none) (hij : i ≠ j) :
    Rel T { G with own := fun b => if b = a then 0 else G.own b } { s with ρ := (s.ρ.set j (some (.x e))).set i none } (((σ.set i (some (.ref a))).set j (some (.ref a))).set i none) (upd H a (ExC (.ref (T.exc e)) a)) ∧
    Ext G H s.W.length s.B.length { G with own := fun b => if b = a then 0 else G.own b } (upd H a (ExC (.ref (T.exc e)) a)) s.W.length s.B.length := by
  obtain ⟨R', x'⟩ := R.grow (own' := fun b => if b = a then 0 else G.own b) (same_upd (o := ExC (.ref (T.exc e)) a) na) fun b o q => by
    show (if b = a then 0 else G.own b) = G.own b
    rw [if_neg (ne_of_none q na)]
  refine ⟨⟨by simp [R.len], fun k v q => ?_, R'.wld, R'.bx⟩, x'⟩
  have q : ((s.ρ.set j (some (.x e))).set i none)[k]? = some (some v) := q
  by_cases hk : i = k
  · subst hk
    by_cases hl : i < (s.ρ.set j (some (.x e))).length
    · rw [List.getElem?_set_self hl] at q; cases q
    · rw [List.getElem?_eq_none (by simpa using hl)] at q; cases q
  · rw [List.getElem?_set_ne hk] at q ⊢
    by_cases hj : j = k
    · subst hj
      by_cases hl : j < s.ρ.length
      · rw [List.getElem?_set_self hl] at q
        cases q
        refine ⟨.ref a, ?_, a, rfl, part_iff.mpr ⟨by show (if a = a then 0 else _) = 0; rw [if_pos rfl], upd_same⟩⟩
        rw [List.getElem?_set_self (by simp; rw [← R.len]; exact hl)]
      · rw [List.getElem?_eq_none (by simpa using hl)] at q; cases q
    · rw [List.getElem?_set_ne hj] at q ⊢
      rw [List.getElem?_set_ne hk]
      exact R'.slot k v q
/-- try: body, except x as n: y = n -/
theorem st_tryA {c i j : Nat} {x n y : Str} {body : List Stmt} {np pos pos' p1 p2 p3 : Pos} {f : M Fl} (hs : X.stack = X.env :: X.outer) (hf : X.env.frame = some X.env.locals) (hex : X.ex = []) (hN : X.N.Nodup) (hi : X.N[i]? = some n) (hln : X.env.kindOf n = some .local) (hj : X.N[j]? = some y) (hly : X.env.kindOf y = some .local) (hij : i ≠ j)
    (hd : (n == ("__debug__" : Str)) = false) (hcd : (n == ("__classdict__" : Str)) = false) (hg : Gl X x) (hdx : (x == ("__debug__" : Str)) = false) (xc : Xc X T c x) (tk : Takes X W)
    (hb : ∀ (W' : WX) (pn : List (Addr × Obj)) (xe : Value → Shared → Prop), Takes (X.tr pn xe) W' → PassesOwn (model X.prog X.w) X.A X.env xe → PSs (X.tr pn xe) body (tS T W' f)) :
    PS X (.Try body [.ExceptHandler (some (.Name x np)) (some n) [.Assign [.Name y p1] (.Name n p2) p3] pos'] [] [] pos) (tS T W fun s => match f s with
      | .err e s => if subX e c then .ok .next { s with ρ := (s.ρ.set j (some (.x e))).set i none } else .err e s
      | r => r) := by
  refine ps_imp (ps_try_asT hs hf hex hN hi hln hj hly hij hd hcd ⟨hg, hdx, .inl xc.mg⟩ tk hb) fun D σ H ⟨s, G, R, h⟩ => ⟨s, G, R, ?_⟩
  dsimp only at h
  cases q : f s with
  | ok fl s' => rw [q] at h; exact h
  | stuck => rw [q] at h; exact h
  | err e s' =>
    rw [q] at h
    intro G' H' σ' x' R'
    refine ⟨subX e c, xc.exm e, fun hb => ⟨rfl, fun a na => ?_⟩, fun hb => ?_⟩
    · obtain ⟨R2, x2⟩ := caught_rel hK (e := e) (i := i) (j := j) R' na hij
      have h : PoS T W G H s.W.length s.B.length (if subX e c then .ok .next { s' with ρ := (s'.ρ.set j (some (.x e))).set i none } else .err e s') (DK T D) := h
      rw [if_pos hb] at h
      exact h _ _ _ (x'.trans x2) R2
    · have h : PoS T W G H s.W.length s.B.length (if subX e c then .ok .next { s' with ρ := (s'.ρ.set j (some (.x e))).set i none } else .err e s') (DK T D) := h
      rw [if_neg (by rw [hb]; exact Bool.false_ne_true)] at h
      exact h G' H' σ' x' R'
/-- try: body, except x: return a constant -/
theorem st_tryR {c : Nat} {x : Str} {v : V} {d : PyData} {body : List Stmt} {e0 : Expr} {np pos pos' p1 : Pos} {f : M Fl} (hs : X.stack = X.env :: X.outer) (hf : X.env.frame = some X.env.locals)
    (hg : Gl X x) (hdx : (x == ("__debug__" : Str)) = false) (xc : Xc X T c x) (tk : Takes X W) (he : ∀ (a : Addr) (pn : List (Addr × Obj)), PE (X.suite a pn) e0 (tC v)) (hv : ∀ F, Dx T.K F v d)
    (hb : ∀ (W' : WX) (pn : List (Addr × Obj)) (xe : Value → Shared → Prop), Takes (X.tr pn xe) W' → PassesOwn (model X.prog X.w) X.A X.env xe → PSs (X.tr pn xe) body (tS T W' f)) :
    PS X (.Try body [.ExceptHandler (some (.Name x np)) none [.Return (some e0) p1] pos'] [] [] pos) (tS T W fun s => match f s with
      | .err e s => if subX e c then .ok (.ret (.d d)) s else .err e s
      | r => r) := by
  refine ps_imp (ps_try_only hs hf ⟨hg, hdx, .inl xc.mg⟩ tk hb fun a oe cls d' pn _ _ => pss_one (ps_ret (he a _))) fun D σ H ⟨s, G, R, h⟩ => ⟨s, G, R, ?_⟩
  dsimp only at h
  cases q : f s with
  | ok fl s' => rw [q] at h; exact h
  | stuck => rw [q] at h; exact h
  | err e s' =>
    rw [q] at h
    intro G' H' σ' x' R'
    have h : PoS T W G H s.W.length s.B.length (if subX e c then .ok (.ret (.d d)) s' else .err e s') (DK T D) := h
    refine ⟨subX e c, xc.exm e, fun hb a na => ?_, fun hb => ?_⟩
    · rw [if_pos hb] at h
      exact h _ _ _ x' R' v (hv _)
    · rw [if_neg (by rw [hb]; exact Bool.false_ne_true)] at h
      exact h G' H' σ' x' R'
/-- try: body, except x: y = a constant -/
theorem st_tryS {c i : Nat} {x y : Str} {v : V} {d : PyData} {body : List Stmt} {e0 : Expr} {np pos pos' p1 p2 : Pos} {f : M Fl} (hs : X.stack = X.env :: X.outer) (hf : X.env.frame = some X.env.locals) (hN : X.N.Nodup) (hi : X.N[i]? = some y) (hly : X.env.kindOf y = some .local)
    (hg : Gl X x) (hdx : (x == ("__debug__" : Str)) = false) (xc : Xc X T c x) (tk : Takes X W) (he : ∀ (a : Addr) (pn : List (Addr × Obj)), PE (X.suite a pn) e0 (tC v)) (hsw : ∀ (a : Addr) (pn : List (Addr × Obj)), swapsWith e0 (some (.Name y p1)) p2.line (X.suite a pn).env = pure false) (hv : ∀ F, Dx T.K F v d)
    (hb : ∀ (W' : WX) (pn : List (Addr × Obj)) (xe : Value → Shared → Prop), Takes (X.tr pn xe) W' → PassesOwn (model X.prog X.w) X.A X.env xe → PSs (X.tr pn xe) body (tS T W' f)) :
    PS X (.Try body [.ExceptHandler (some (.Name x np)) none [.Assign [.Name y p1] e0 p2] pos'] [] [] pos) (tS T W fun s => match f s with
      | .err e s => if subX e c then .ok .next { s with ρ := s.ρ.set i (some (.d d)) } else .err e s
      | r => r) := by
  refine ps_imp (ps_try_only hs hf ⟨hg, hdx, .inl xc.mg⟩ tk hb fun a oe cls d' pn _ _ => pss_one (ps_set (X := X.suite a ((a, oe) :: pn)) hN hi (.inl hly) (he a _) (hsw a _) (.inr hly))) fun D σ H ⟨s, G, R, h⟩ => ⟨s, G, R, ?_⟩
  dsimp only at h
  cases q : f s with
  | ok fl s' => rw [q] at h; exact h
  | stuck => rw [q] at h; exact h
  | err e s' =>
    rw [q] at h
    intro G' H' σ' x' R'
    have h : PoS T W G H s.W.length s.B.length (if subX e c then .ok .next { s' with ρ := s'.ρ.set i (some (.d d)) } else .err e s') (DK T D) := h
    refine ⟨subX e c, xc.exm e, fun hb a na => ?_, fun hb => ?_⟩
    · rw [if_pos hb] at h
      exact h _ _ _ x' (Rel.set hK R' (v := .d d) (hv _))
    · rw [if_neg (by rw [hb]; exact Bool.false_ne_true)] at h
      exact h G' H' σ' x' R'
end
end BC

/-! BSet: sorted(set(..)) of whole numbers, as data. -/
namespace BC
open PySem L2 PySem.Spec PyProof.Rows
abbrev set0 (w : World) : Obj := { cls := .type "set", dict := none, data := .set #[] 0 (.fresh 0 0 (!w.params.followText "set-order")) }
section
variable {P : Program} {w : World} {A : Around} {E : Value → Shared → Prop} {s : Shared}
/-- set(l) of a list of whole numbers -/
theorem set_of_list {l : Addr} {items : Array Value} (ns : List Int) {Q : Value → Shared → Prop} (hh : A.handled = none) (hl : s.heap.IsList l items) (hit : IntsAre items.toList ns) (hb : ns.length + 1 < scanBound)
    (h : ∀ (h' : Heap) (tk c : Nat), SetR w h' s.heap.objs.size (fun j => decide (j ∈ ns)) c → c ≤ ns.length → (∀ b o, s.heap.get? b = some o → h'.get? b = some o) → Q (.ref s.heap.objs.size) { s with heap := h', toks := tk }) :
    wpAny (model P w) A (call (.type "set") [.ref l]) Q E s := by
  have n1 : items.size = ns.length := by have q := IntsAre.length hit; rwa [Array.length_toList] at q
  have lS : l < s.heap.objs.size := by obtain ⟨o, ho, _⟩ := hl; exact Heap.lt_size ho
  have S0 : (s.heap.push (set0 w)).get? s.heap.objs.size = some (set0 w) := Heap.get?_push_size _ rfl
  obtain ⟨c, tl, hmro⟩ := F.called_set.mro
  have hmade := F.called_set.made
  have hsub := F.called_set.sub
  have t1 := F.called_set.notType
  have t2 := F.called_set.canCreate
  have t3 := F.typeCall_set_1 (.ref l)
  refine wpAny_call (codeAny_of_tree ?_)
  show wpAny _ _ (callAny (.type "set") _) _ _ _
  refine wpAny_pure ⟨Code.quiet_builtin _ (by decide +kernel), codeAny_builtin F.entry_type_call ?_⟩
  rw [Around.under_plain (weight_type_call_type "set" [.ref l] []) rfl]
  repeat (any_goals (first | assumption | wp_step))
  refine codeAny_mono (code_set_led1 (.ref l) (E := E) (Q₁ := fun obj s₁ => obj = .ref s.heap.objs.size ∧ s₁ = { s with heap := s.heap.push (set0 w) }) ⟨rfl, rfl⟩) fun r s₁ hr => ?_
  match r, hr with
  | .error e, hr => exact hr
  | .ok .next, hr => exact hr.elim
  | .ok .brk, hr => exact hr.elim
  | .ok .cont, hr => exact hr.elim
  | .ok (.ret obj), hr =>
    obtain ⟨rfl, rfl⟩ := hr
    have hT : Shared.TypeIs { s with heap := s.heap.push (set0 w) } (.ref s.heap.objs.size) "set" := ⟨_, S0, rfl⟩
    have hli := F.called_set.init.lookup
    have hbi := F.called_set.init.bind (.ref s.heap.objs.size)
    repeat (any_goals (first | assumption | wp_step))
    let Good : Value → Shared → Prop := fun r s₂ => r = .none ∧ ∃ h' tk c, s₂ = { s with heap := h', toks := tk } ∧ SetR w h' s.heap.objs.size (fun j => decide (j ∈ ns)) c ∧ c ≤ ns.length ∧ (∀ b o, s.heap.get? b = some o → h'.get? b = some o)
    refine codeAny_mono (codeAny_call_builtin (R := wants Good E) F.called_set.init.plain F.entry_set_init (check_set_init_1 hT ?_)) fun r₂ s₂ hr₂ => ?_
    · obtain ⟨⟨oc, od, odata, osl⟩, hol, hcl, nl, hdl⟩ := id hl
      simp only at hcl hdl
      subst hcl hdl
      have hol' : (s.heap.push (set0 w)).get? l = some { cls := .type "list", dict := od, data := .seq items nl, slots := osl } := Heap.get?_push_of_some _ hol
      have hsls := F.sub_list_set
      have hslf := F.sub_list_frozenset
      have hne : (Value.type "list" == Value.type "dict") = false := by decide
      have hl1 : (s.heap.push (set0 w)).IsList l items := ⟨_, hol', rfl, nl, rfl⟩
      unfold Builtin.«set.__init__» noKeywords Builtin.Frozenset.updateFrom
      generalize hPI : pyIter = PI
      wp_walk
      subst hPI
      refine wpAny_pyIter_list hl1 ?_
      refine wpAny_bind (wpAny_runValue ?_)
      have ha : A.in1.in1.in1.handled = none := by simp [hh]
      have zs : (s.heap.push (set0 w)).objs.size = s.heap.objs.size + 1 := Heap.size_push ..
      have hv : ∀ (i : Nat) (v : Value), items[i]? = some v → ∃ k t, ns[i]? = some k ∧ v = .int k t := fun i v q => by
        have hi : i < ns.length := by rw [← n1]; exact (Array.getElem?_eq_some_iff.mp q).1
        obtain ⟨t, e⟩ := IntsAre.int_at hit i v (by rw [Array.getElem?_toList]; exact q)
        refine ⟨ns[i], t, List.getElem?_eq_getElem hi, ?_⟩
        rw [e, List.getD_eq_getElem?_getD, List.getElem?_eq_getElem hi] <;> rfl
      refine set_update_ints ((Walks.list ha _ l (by rw [zs]; exact Nat.ne_of_lt (Nat.lt_succ_of_lt lS)) items).toS) s.heap.objs.size (by rw [zs]; simp only [List.mem_cons, List.not_mem_nil, or_false, not_or]; exact ⟨Nat.ne_of_lt (Nat.lt_succ_self _), Nat.ne_of_gt lS⟩) ns n1 hb hv (items.size - 0) 0 _ (by omega) (Nat.zero_le _) ⟨⟨_, Heap.get?_push_size _ rfl, rfl, rfl⟩, (hl1.push _)⟩ ?beg0 ?fin0
      case beg0 => exact ⟨0, Nat.le_refl 0, setR_new_at (Heap.get?_push_of_some _ S0)⟩
      case fin0 =>
        rintro ⟨h', g2, d', tk', os'⟩ c' hm hc' hS'
        have eg : g2 = s.gens := hm.gens
        have ed : d' = s.drawn := hm.drawn
        have eo : os' = s.os := hm.os
        subst eg ed eo
        rw [n1] at hc'
        show wpAny _ _ _ _ _ _
        refine wpAny_pure ?_
        show wpAny _ _ (ret Value.none) _ _ _
        refine wpAny_pure ⟨rfl, h', tk', c', rfl, hS', hc', fun b o e => ?_⟩
        have b0 : b < s.heap.objs.size := Heap.lt_size e
        exact hm.heap b o (by rw [zs]; simp only [List.mem_cons, List.not_mem_nil, or_false, not_or]; exact ⟨Nat.ne_of_lt b0, Nat.ne_of_lt (Nat.lt_succ_of_lt b0)⟩) (Heap.get?_push_of_some _ (Heap.get?_push_of_some _ e))
    · match r₂, hr₂ with
      | .error e, hr₂ => exact hr₂
      | .ok .next, hr₂ => exact hr₂.elim
      | .ok .brk, hr₂ => exact hr₂.elim
      | .ok .cont, hr₂ => exact hr₂.elim
      | .ok (.ret r), hr₂ =>
        obtain ⟨rfl, h', tk, c', rfl, hS', hc', hk'⟩ := hr₂
        repeat (any_goals (first | assumption | wp_step))
        exact h _ _ _ hS' hc' hk'
end
section
variable {X : Cx}
def rSetI (K : PySem.W.Frag) (w : World) : List V → Hp → VK → Prop := fun xs H Q => ∃ (l : Addr) (ns : List Int), xs = [.ref l] ∧ (SqL K H l (ns.map V.int) ∨ SqT K H l (ns.map V.int)) ∧ ns.length < 64 ∧
  ∀ a n, H a = none → n ≤ ns.length → Q (.ref a) (upd H a (SetO w a (fun j => decide (j ∈ ns)) n))
theorem cr_setI (hc : X.calm = true) : CallR X (.type "set") (rSetI X.K X.w) := by
  intro pins s σ H xs us Q I r h
  obtain ⟨l, ns, rfl, hl, hf, q⟩ := h
  rw [Vals.ref1 r]
  have hn : H s.heap.objs.size = none := I.hok.fresh (Nat.le_refl _)
  have hb : ns.length + 1 < scanBound := by unfold scanBound; omega
  rcases hl with hl | hl
  · obtain ⟨its, rv, pl, hz⟩ := I.list hl
    refine set_of_list (P := X.prog) (w := X.w) ns (I.ok.hd hc) pl.isList (by simpa using ints_of_vals rv) hb fun h' tk c R hcn k => ?_
    exact ⟨.ref s.heap.objs.size, _, I.laid (t' := tk) k (Nat.le_refl _) (setO_new R), rfl, q _ c hn hcn⟩
  · obtain ⟨its, rv, pt, hz⟩ := I.tuple hl
    refine call_set_tupI (P := X.prog) (w := X.w) ns (I.ok.hd hc) (show s.heap.IsTuple l its.toArray from pt) (by simpa using ints_of_vals rv) hb fun h' tk c R hcn k => ?_
    exact ⟨.ref s.heap.objs.size, _, I.laid (t' := tk) k (Nat.le_refl _) (setO_new R), rfl, q _ c hn hcn⟩
end
end BC

/-! BMt: methods of texts and lists, ranges and sets as data. -/
namespace BC
open PySem L2
section
variable {X : Cx}
theorem count_eqU {x : V} : ∀ {ys : List V} {us : List Value}, Vals ys us → ys.all flatV = true → us.countP (eqU x) = ys.countP fun y => eqV y x
  | _, _, .nil, _ => rfl
  | y :: ys, u :: us, .cons r t, f => by
    rw [List.all_cons, Bool.and_eq_true] at f
    rw [List.countP_cons, List.countP_cons, count_eqU t f.2, eqU_of r f.1]
/-- xs.count(y), flat things -/
theorem mt_countF : MtR X "list.count" (fun x xs H Q => ∃ (a : Addr) (ys : List V) (y : V), x = .ref a ∧ xs = [y] ∧ SqL X.K H a ys ∧ flatV y = true ∧ ys.all flatV = true ∧ Q (.int (ys.countP fun z => eqV z y : Nat)) H) := by
  intro pins s σ H x xs v us Q I rx rxs h
  obtain ⟨a, ys, y, rfl, rfl, hs, fy, fys, q⟩ := h
  cases rx
  obtain ⟨u, rfl, ru⟩ := rxs.one
  obtain ⟨its, rv, ⟨⟨cls, dd, data, sl⟩, n, ho, hc, hdn, hd⟩, hlen⟩ := I.list hs
  simp only at hc hd
  subst hc hd
  refine call_meets PySem.F.slot_list_count ⟨_, ho, rfl⟩ PySem.F.entry_list_count (PySem.F.args_list_count_2 _ _)
    (SeqAt.list_countAt a its.toArray n dd sl u (eqU y)) ⟨ho, fun w hw => mem_eqAt ru fy rv fys w (by simpa using hw), ?_⟩
  have e : its.toArray.toList.countP (eqU y) = ys.countP fun z => eqV z y := count_eqU rv fys
  rw [e]
  exact ⟨.int (ys.countP fun z => eqV z y : Nat), H, I.tok _, ⟨_, rfl⟩, q⟩
end
theorem dpAll_strs {K : PySem.W.Frag} {F : Hp} : ∀ {ds : List PyData} {vs : List V} {ns : List Str}, DxAll K F vs ds → strsD ds = some ns → vs = ns.map V.str
  | [], _, _, h, e => by cases h; simp [strsD] at e; subst e; rfl
  | .str i :: r, _, _, h, e => by
    cases h with
    | cons h1 h2 =>
      cases h1
      simp only [strsD, Option.map_eq_some_iff] at e
      obtain ⟨m, e1, rfl⟩ := e
      rw [dpAll_strs h2 e1]; rfl
  | .none :: _, _, _, _, e => by simp [strsD] at e
  | .bool _ :: _, _, _, _, e => by simp [strsD] at e
  | .int _ :: _, _, _, _, e => by simp [strsD] at e
  | .list _ :: _, _, _, _, e => by simp [strsD] at e
  | .tuple _ :: _, _, _, _, e => by simp [strsD] at e
  | .dict _ :: _, _, _, _, e => by simp [strsD] at e
theorem dpAll_of_strs {K : PySem.W.Frag} {F : Hp} : ∀ ns : List Str, DxAll K F (ns.map V.str) (ns.map PyData.str)
  | [] => .nil
  | n :: r => .cons (.str n) (dpAll_of_strs r)
theorem mem_dedup {k : Int} : ∀ {l : List Int}, k ∈ dedup l ↔ k ∈ l
  | [] => Iff.rfl
  | a :: r => by
    unfold dedup
    split
    · rename_i h
      rw [mem_dedup (l := r), List.mem_cons]
      exact ⟨.inr, fun q => q.elim (fun e => e ▸ h) id⟩
    · rw [List.mem_cons, List.mem_cons, mem_dedup (l := r)]
theorem nodup_dedup : ∀ l : List Int, (dedup l).Nodup
  | [] => .nil
  | a :: r => by
    unfold dedup
    split
    · exact nodup_dedup r
    · rename_i h
      exact List.nodup_cons.mpr ⟨fun q => h (mem_dedup.mp q), nodup_dedup r⟩
theorem usort_spec {ns ms : List Int} (h : ∀ k : Int, k ∈ ms ↔ k ∈ ns) (q : ms.Pairwise (· < ·)) : ms = usort ns := by
  unfold usort
  refine isort_spec ?_ (q.imp fun h => Int.le_of_lt h)
  have nd : ms.Nodup := q.imp fun h => by omega
  refine (List.perm_ext_iff_of_nodup nd (nodup_dedup ns)).mpr fun k => ?_
  rw [mem_dedup]
  exact h k
section
variable {X : Cx} {T : Tn} {W : WX} (hK : X.K = T.K)
include hK
/-- sorted(set(e)) -/
theorem s_sset (hc : X.calm = true) (hg : Gl X "sorted") (hm : X.mg "sorted" = none) (hg2 : Gl X "set") (hm2 : X.mg "set" = none) {a : Expr} {f : M (List Va)} {p1 p2 p3 p4 : Pos} (ha : PE X a (tE T W f)) (hs : starEach [a] X.env = (false, eval a X.env) :: starEach [] X.env) :
    PE X (.Call (.Name "sorted" p1) [.Call (.Name "set" p2) [a] [] p3] [] p4) (tE T W fun s => one1 (f s) fun x s => match peekR s x with
      | some d => datO (sortSetD d) s
      | none => .stuck) := by
  refine pe_imp (pe_callB (cr_sortedSet hc) hg hm (by decide +kernel) (pa_cons (pe_callTy (cr_setI hc) hg2 hm2 (by decide +kernel) (pa_cons ha pa_nil hs) (by decide) (by decide) hs (by rfl)) pa_nil) (by decide) (by decide)) fun σ H Q ⟨s, G, R, h⟩ => ⟨s, G, R, h.one1.imp fun vs s1 G1 H1 us x R1 _ ⟨v, u, e1, e2, r1, h1⟩ => ⟨u, e2, ?_⟩⟩
  try dsimp only at h1
  split at h1
  · rename_i d ed
    have dq := vrep_peekR R1 r1 ed
    unfold sortSetD at h1
    split at h1
    · rename_i l el
      split at h1
      · rename_i ns en
        split at h1
        · rename_i hl
          have key : ∃ a us', u = .ref a ∧ (SqL X.K H1 a us' ∨ SqT X.K H1 a us') ∧ DxAll T.K (part G1.own 0 H1) us' l := by
            rw [hK]
            cases d with
            | list l' => cases el; obtain ⟨a, us', e, h1, h2⟩ := dq_lstR part_sub dq; exact ⟨a, us', e, .inl h1, h2⟩
            | tuple l' => cases el; obtain ⟨a, us', e, h1, h2⟩ := dq_tup part_sub dq; exact ⟨a, us', e, .inr h1, h2⟩
            | _ => cases el
          obtain ⟨a', us', eu, hsq, dx⟩ := key
          have e := dpAll_ints dx en
          subst e
          refine ⟨a', ns, by rw [eu], hsq, hl, fun p n hp hn => ⟨p, _, n, rfl, upd_same, Nat.lt_of_le_of_lt hn hl, fun ms q hr hm' hlen hq => ?_⟩⟩
          have em : ms = usort ns := usort_spec (fun k => by rw [hm' k]; simp) hr
          subst em
          obtain ⟨R2, x2⟩ := Rel.free (o := SetO X.w p (fun j => decide (j ∈ ns)) n) R1 hp
          have h2 : Po T W G1 H1 s1.W.length s1.B.length σ (vreps T) (dat (.list ((usort ns).map .int)) s1) (fun _ _ _ H' us => ∃ u, us = [u] ∧ Q u H') := h1
          exact (pst_end R2 (h2.ext x2)).newL part_sub (dpAll_of_ints _) q hq
        · exact h1.elim
      · exact h1.elim
    · exact h1.elim
  · exact h1.elim
theorem rngD_some {t : Bool} {i j : Int} {z : PyData} (e : rngD t i j = some z) : RgOk i j ∧ (if t then z = .tuple ((List.range (j - i).toNat).map fun (k : Nat) => .int (i + (k : Int))) else z = .list ((List.range (j - i).toNat).map fun (k : Nat) => .int (i + (k : Int)))) := by
  unfold rngD at e
  split at e
  · rename_i h
    obtain ⟨h1, h2, h3, h4, h5⟩ := h
    have : (j - i).toNat ≤ 1000000 := h5
    refine ⟨⟨by omega, by omega, by omega, by omega, by omega⟩, ?_⟩
    cases t <;> (cases e; rfl)
  · cases e
theorem rng_dx {F : Hp} (i j : Int) : DxAll T.K F (rgV i j) ((List.range (j - i).toNat).map fun (k : Nat) => PyData.int (i + (k : Int))) := by
  unfold rgV
  generalize List.range (j - i).toNat = l
  induction l with
  | nil => exact .nil
  | cons b r ih => exact .cons (.int _) ih
theorem rng_end {t : Bool} {i j : Int} {σ : St} {H1 : Hp} {G1 : Gh} {s1 : Sg} {Q : VK} (R1 : Rel T G1 s1 σ H1) (h : Po T W G1 H1 s1.W.length s1.B.length σ (vreps T) (datO (rngD t i j) s1) (fun _ _ _ H' us => ∃ u, us = [u] ∧ Q u H')) :
    RgOk i j ∧ ∀ q, H1 q = none → Q (.ref q) (upd H1 q (if t then .tup (rgV i j) else .lst (rgV i j))) := by
  cases hz : rngD t i j with
  | none => rw [hz] at h; exact h.elim
  | some z =>
    rw [hz] at h
    obtain ⟨h1, h2⟩ := rngD_some hK hz
    refine ⟨h1, ?_⟩
    cases t with
    | true =>
      rw [if_pos rfl] at h2
      subst h2
      exact (pst_end R1 h).newT part_sub (rng_dx hK i j)
    | false =>
      rw [if_neg Bool.false_ne_true] at h2
      subst h2
      exact (pst_end R1 h).newL part_sub (rng_dx hK i j)
theorem s_rng {t : Bool} {x : Str} {e : Expr} {fr : M Fl} {te : St → Hp → (Int → Int → Hp → Prop) → Prop} {t' : TE} {p pos : Pos} (hc : X.calm = true) (hx : x = (if t then "tuple" else "list")) (hg : Gl X x) (hm : X.mg x = none) (he : PRg X e te) (hs : starEach [e] X.env = (false, eval e X.env) :: starEach [] X.env)
    (ht : ∀ σ H Q, t' σ H Q → te σ H fun a b H1 => RgOk a b ∧ ∀ q, H1 q = none → Q (.ref q) (upd H1 q (if t then .tup (rgV a b) else .lst (rgV a b)))) : PE X (.Call (.Name x p) [e] [] pos) t' := by
  subst hx
  cases t with
  | true => exact pe_imp (pe_tupRg hc hg hm he hs) ht
  | false => exact pe_imp (pe_listRg hc hg hm he hs) ht
theorem s_rng1 {t : Bool} {x : Str} {a : Expr} {f : M (List Va)} {p pr pos posr : Pos} (hc : X.calm = true) (hx : x = (if t then "tuple" else "list")) (hg : Gl X x) (hm : X.mg x = none) (hgr : Gl X "range") (hmr : X.mg "range" = none) (ha : PE X a (tE T W f)) (hs : starEach [a] X.env = (false, eval a X.env) :: starEach [] X.env) :
    PE X (.Call (.Name x p) [.Call (.Name "range" pr) [a] [] posr] [] pos) (tE T W fun s => one1 (f s) fun x s => match x with
      | .d (.int j) => datO (rngD t 0 j) s
      | _ => .stuck) := by
  refine s_rng hK (fr := fun s => .stuck) hc hx hg hm (prg_1 hgr hmr ha hs) (by rfl) fun σ H Q ⟨s, G, R, h⟩ => ⟨s, G, R, h.one1.imp fun vs s1 G1 H1 us x R1 _ ⟨v, u, e1, e2, r1, h1⟩ => ⟨u, e2, ?_⟩⟩
  try dsimp only at h1
  split at h1
  · rename_i j
    cases r1
    exact ⟨j, rfl, rng_end hK R1 h1⟩
  · exact h1.elim
theorem s_rng2 {t : Bool} {x : Str} {a b : Expr} {fa fb : M (List Va)} {p pr pos posr : Pos} (hc : X.calm = true) (hx : x = (if t then "tuple" else "list")) (hg : Gl X x) (hm : X.mg x = none) (hgr : Gl X "range") (hmr : X.mg "range" = none) (ha : PE X a (tE T W fa)) (hb : PE X b (tE T W fb))
    (hs : starEach [a, b] X.env = (false, eval a X.env) :: starEach [b] X.env) (hs2 : starEach [b] X.env = (false, eval b X.env) :: starEach [] X.env) :
    PE X (.Call (.Name x p) [.Call (.Name "range" pr) [a, b] [] posr] [] pos) (tE T W fun s => one1 (fa s) fun x s => one1 (fb s) fun y s => match x, y with
      | .d (.int i), .d (.int j) => datO (rngD t i j) s
      | _, _ => .stuck) := by
  refine s_rng hK (fr := fun s => .stuck) hc hx hg hm (prg_2 hgr hmr ha hb hs hs2 (by rw [hs2]; rfl)) (by rfl) fun σ H Q ⟨s, G, R, h⟩ => ⟨s, G, R, h.one1.imp fun vs s1 G1 H1 us x R1 _ ⟨v, u, e1, e2, r1, h1⟩ => ⟨u, e2, s1, G1, R1, h1.one1.imp fun vs2 s2 G2 H2 us2 x2 R2 _ ⟨v2, u2, e3, e4, r2, h2⟩ => ⟨u2, e4, ?_⟩⟩⟩
  try dsimp only at h2
  split at h2
  · rename_i i j _
    cases r1
    cases r2
    exact ⟨i, j, rfl, rfl, rng_end hK R2 h2⟩
  · exact h2.elim
def mtName : Mt → Str
  | .count => "count" | .index => "index" | .join => "join" | .split => "split"
theorem flat_of {H F : Hp} {u : V} {d : PyData} (h : Dq T.K H F false u d) (f : flatD d = true) : flatV u = true := flatV_of (dq_flat h f) f
theorem countP_dx {F : Hp} {x : PyData} {v : V} (h : Dx T.K F v x) (fx : flatD x = true) : ∀ {ds : List PyData} {us : List V}, DxAll T.K F us ds → ds.all flatD = true → (us.countP fun y => eqV y v) = ds.countP fun z => PyData.eqv z x
  | _, _, .nil, _ => rfl
  | d :: ds, u :: us, .cons a b, f => by
    rw [List.all_cons, Bool.and_eq_true] at f
    rw [List.countP_cons, List.countP_cons, countP_dx h fx b f.2, eqV_of a h f.1 fx]
/-- a.count(x), a.index(x), a.join(x), a.split(x) -/
theorem s_mt {k : Mt} {m : Str} {a e : Expr} {fa fe : M (List Va)} {p2 p3 : Pos} (hm : m = mtName k) (ha : PE X a (tE T W fa)) (he : PA X [e] (tL T W fe)) (hb : attributeBase a m X.env (eval a X.env) = eval a X.env) (hline : (p2.endLine == p3.line) = true)
    (hs : starEach [e] X.env = (false, eval e X.env) :: starEach [] X.env) : PE X (.Call (.Attribute a m p2) [e] [] p3) (tE T W fun s => one1 (fa s) fun x s => match x with
      | .d d => if mtTy k d then (fe s).bind fun vs s => match peeks s vs with
        | some ds => datO (mtD k d ds) s
        | none => .stuck else .stuck
      | _ => .stuck) := by
  subst hm
  have gen : ∀ (Ty : String) (r : V → List V → Hp → VK → Prop), PE X (.Call (.Attribute a (mtName k) p2) [e] [] p3) (tBM X.K Ty r (tE T W fa) (tL T W fe)) → (∀ d v H F, Same F H → Dx T.K F v d → mtTy k d = true → tyV X.K Ty v H) →
      (∀ d v ds us z H F Q, Same F H → Dx T.K F v d → DqAll T.K H F us ds → mtTy k d = true → mtD k d ds = some z → Pst T.K H F z Q → r v us H Q) → PE X (.Call (.Attribute a (mtName k) p2) [e] [] p3) (tE T W fun s => one1 (fa s) fun x s => match x with
      | .d d => if mtTy k d then (fe s).bind fun vs s => match peeks s vs with
        | some ds => datO (mtD k d ds) s
        | none => .stuck else .stuck
      | _ => .stuck) := fun Ty r h0 h1 h2 => by
    refine pe_imp h0 fun σ H Q ⟨s, G, R, h⟩ => ⟨s, G, R, h.one1.imp fun vs s1 G1 H1 us x R1 _ ⟨v, u, e1, e2, r1, h3⟩ => ⟨u, e2, ?_⟩⟩
    try dsimp only at h3
    split at h3
    · rename_i d
      split at h3
      · rename_i ht
        refine ⟨h1 d u H1 _ part_sub r1 ht, s1, G1, R1, (h3.bind (rep' := vreps T)).imp fun vs2 s2 G2 H2 us2 x2 R2 r2 h4 => ?_⟩
        have h4 := h4.2
        split at h4
        · rename_i ds eds
          cases hz : mtD k d ds with
          | none => rw [hz] at h4; exact h4.elim
          | some z =>
            rw [hz] at h4
            exact h2 d u ds us2 z H2 _ Q part_sub (dp_mono x2.data _ _ r1) (vreps_peeks R2 r2 eds) ht hz (pst_end R2 h4)
        · exact h4.elim
      · exact h3.elim
    · exact h3.elim
  have hfew : ((backTo p3 (starEach [e] X.env)).all (fun x => !x.1) && (backToKw p3 (keywordEach [] X.env)).all (fun x => x.1.isSome)
      && decide (([e] : List Expr).length + ([] : List Keyword).length + (if ([] : List Keyword).isEmpty then 0 else 1) < 30)) = true := by rw [hs]; rfl
  have oneArg : ∀ {H F : Hp} {us : List V} {d : PyData}, DqAll T.K H F us [d] → ∃ u, us = [u] ∧ Dq T.K H F false u d := fun h => all1 h
  cases k with
  | count =>
    refine gen "list" _ (pe_bm PySem.F.plainAttrs_list PySem.F.slot_list_count PySem.F.type_list_count mt_countF ha he hb hfew hline hs (by rfl)) (fun d v H F m h ht => ?_) fun d v ds us z H F Q m h hd ht hz p => ?_
    · cases d <;> first | (cases ht; done) | skip
      cases h with
      | lst q da => exact .inl ⟨rfl, _, SqL.of (m _ _ q)⟩
    · cases d <;> first | (cases ht; done) | skip
      cases h with
      | lst q da =>
        rename_i l us0 a0
        match ds, hd, hz with
        | [], _, hz => cases hz
        | _ :: _ :: _, _, hz => cases hz
        | [x], hd, hz =>
          have hz : (if flatD x && l.all flatD then some (.int (l.countP fun z => PyData.eqv z x)) else none) = some z := hz
          split at hz
          · rename_i hf
            rw [Bool.and_eq_true] at hf
            cases hz
            obtain ⟨u, rfl, du⟩ := oneArg hd
            refine ⟨_, _, u, rfl, rfl, SqL.of (m _ _ q), flat_of hK du hf.1, flatAll_of da hf.2, ?_⟩
            rw [countP_dx hK (dq_flat du hf.1) hf.1 da hf.2]
            exact p.same m (.int _)
          · cases hz
  | index =>
    refine gen "list" _ (pe_bm PySem.F.plainAttrs_list PySem.F.slot_list_index PySem.F.type_list_index mt_index ha he hb hfew hline hs (by rfl)) (fun d v H F m h ht => ?_) fun d v ds us z H F Q m h hd ht hz p => ?_
    · cases d <;> first | (cases ht; done) | skip
      cases h with
      | lst q da => exact .inl ⟨rfl, _, SqL.of (m _ _ q)⟩
    · cases d <;> first | (cases ht; done) | skip
      cases h with
      | lst q da =>
        rename_i l us0 a0
        match ds, hd, hz with
        | [], _, hz => cases hz
        | _ :: _ :: _, _, hz => cases hz
        | [x], hd, hz =>
          have hz : (if flatD x && l.all flatD then (l.findIdx? fun z => PyData.eqv z x).map fun (i : Nat) => PyData.int (i : Int) else none) = some z := hz
          split at hz
          · rename_i hf
            rw [Bool.and_eq_true] at hf
            obtain ⟨i, hi, rfl⟩ := Option.map_eq_some_iff.mp hz
            obtain ⟨hl, hp, hno⟩ := List.findIdx?_eq_some_iff_getElem.mp hi
            obtain ⟨u, rfl, du⟩ := oneArg hd
            have dxu := dq_flat du hf.1
            obtain ⟨w, w1, w2⟩ := dpAll_get da (List.getElem?_eq_getElem hl)
            have fl : ∀ (n : Nat) (hn : n < l.length), flatD l[n] = true := fun n hn => List.all_eq_true.mp hf.2 _ (List.getElem_mem hn)
            refine ⟨_, _, u, i, w, rfl, rfl, SqL.of (m _ _ q), flat_of hK du hf.1, flatAll_of da hf.2, w1, by rw [eqV_of w2 dxu (fl i hl) hf.1]; exact hp, fun n z' hn hz' => ?_, p.same m (.int _)⟩
            obtain ⟨d', d1, d2⟩ := dpAll_get' da hz'
            have hnl : n < l.length := Nat.lt_trans hn hl
            rw [List.getElem?_eq_getElem hnl] at d1
            cases d1
            rw [eqV_of d2 dxu (fl n hnl) hf.1]
            have := hno n hn
            simpa using this
          · cases hz
  | join =>
    refine gen "str" _ (pe_bm PySem.F.plainAttrs_str PySem.F.slot_str_join PySem.F.type_str_join mt_join ha he hb hfew hline hs (by rfl)) (fun d v H F m h ht => ?_) fun d v ds us z H F Q m h hd ht hz p => ?_
    · cases d <;> first | (cases ht; done) | skip
      cases h
      rfl
    · cases d <;> first | (cases ht; done) | skip
      cases h
      rename_i z0
      match ds, hd, hz with
      | [], _, hz => cases hz
      | _ :: _ :: _, _, hz => simp [mtD, joinD, splitD] at hz
      | [x], hd, hz =>
        cases x <;> first | (cases hz; done) | skip
        rename_i l
        have hz : (match strsD l with
          | some ys => if (ys.map (·.length)).sum + ys.length * z0.length ≤ lim then some (.str (Txt.join z0 ys)) else none
          | none => none) = some z := hz
        split at hz
        · rename_i ys ey
          split at hz
          · rename_i hl
            cases hz
            obtain ⟨u, rfl, du⟩ := oneArg hd
            obtain ⟨a', us', rfl, h1, h2⟩ := dq_lstR m du
            have e := dpAll_strs h2 ey
            subst e
            rw [hK]
            exact ⟨_, a', ys, rfl, rfl, .inl h1, Nat.le_trans hl (by decide), p.same m (.str _)⟩
          · cases hz
        · cases hz
  | split =>
    refine gen "str" _ (pe_bm PySem.F.plainAttrs_str PySem.F.slot_str_split PySem.F.type_str_split mt_split ha he hb hfew hline hs (by rfl)) (fun d v H F m h ht => ?_) fun d v ds us z H F Q m h hd ht hz p => ?_
    · cases d <;> first | (cases ht; done) | skip
      cases h
      rfl
    · cases d <;> first | (cases ht; done) | skip
      cases h
      rename_i z0
      match ds, hd, hz with
      | [], _, hz => cases hz
      | _ :: _ :: _, _, hz => simp [mtD, joinD, splitD] at hz
      | [x], hd, hz =>
        cases x <;> first | (cases hz; done) | skip
        rename_i w
        have hz : (if w.length ≠ 0 ∧ z0.length + 2 ≤ lim then some (.list ((Txt.split z0 w).map .str)) else none) = some z := hz
        split at hz
        · rename_i hl
          cases hz
          obtain ⟨u, rfl, du⟩ := oneArg hd
          exact ⟨_, _, rfl, by rw [dq_str du], by simpa using hl.1, Nat.le_trans hl.2 lim_line, p.newL m (dpAll_of_strs _)⟩
        · cases hz
/-- dict(pairs).get(k, d) -/
theorem pairs_dx {F H : Hp} (m : Same F H) : ∀ {l : List PyData} {us : List V} {kv : List (Str × Int)}, DxAll T.K F us l → pairsD l = some kv → ∃ ps : List Addr, us = ps.map V.ref ∧ Paired (fun (p : Addr) (q : Key × V) => SqT T.K H p [kV q.1, q.2]) ps (kv.map fun p => (Sum.inr p.1, V.int p.2))
  | [], _, _, h, e => by cases h; cases e; exact ⟨[], rfl, .nil⟩
  | .tuple [.str s, .int i] :: r, _, _, h, e => by
    cases h with
    | cons h1 h2 =>
      simp only [pairsD, Option.map_eq_some_iff] at e
      obtain ⟨kv', e1, rfl⟩ := e
      obtain ⟨ps, rfl, h3⟩ := pairs_dx m h2 e1
      cases h1 with
      | tup hs ha =>
        cases ha with
        | cons a1 a2 =>
          cases a1
          cases a2 with
          | cons b1 b2 =>
            cases b1
            cases b2
            exact ⟨_ :: ps, rfl, .cons (sqT_mono m hs) h3⟩
  | .none :: _, _, _, _, e => by simp [pairsD] at e
  | .bool _ :: _, _, _, _, e => by simp [pairsD] at e
  | .int _ :: _, _, _, _, e => by simp [pairsD] at e
  | .str _ :: _, _, _, _, e => by simp [pairsD] at e
  | .list _ :: _, _, _, _, e => by simp [pairsD] at e
  | .dict _ :: _, _, _, _, e => by simp [pairsD] at e
  | .tuple [] :: _, _, _, _, e => by simp [pairsD] at e
  | .tuple [_] :: _, _, _, _, e => by simp [pairsD] at e
  | .tuple (_ :: _ :: _ :: _) :: _, _, _, _, e => by simp [pairsD] at e
  | .tuple [.none, _] :: _, _, _, _, e => by simp [pairsD] at e
  | .tuple [.bool _, _] :: _, _, _, _, e => by simp [pairsD] at e
  | .tuple [.int _, _] :: _, _, _, _, e => by simp [pairsD] at e
  | .tuple [.list _, _] :: _, _, _, _, e => by simp [pairsD] at e
  | .tuple [.tuple _, _] :: _, _, _, _, e => by simp [pairsD] at e
  | .tuple [.dict _, _] :: _, _, _, _, e => by simp [pairsD] at e
  | .tuple [.str _, .none] :: _, _, _, _, e => by simp [pairsD] at e
  | .tuple [.str _, .bool _] :: _, _, _, _, e => by simp [pairsD] at e
  | .tuple [.str _, .str _] :: _, _, _, _, e => by simp [pairsD] at e
  | .tuple [.str _, .list _] :: _, _, _, _, e => by simp [pairsD] at e
  | .tuple [.str _, .tuple _] :: _, _, _, _, e => by simp [pairsD] at e
  | .tuple [.str _, .dict _] :: _, _, _, _, e => by simp [pairsD] at e
omit hK in
theorem merge_nodup : ∀ (kvs acc : List (Key × V)), ((acc ++ kvs).map (·.1)).Nodup → mergeK acc kvs = acc ++ kvs
  | [], acc, _ => by simp [mergeK]
  | p :: r, acc, h => by
    have hn : (acc.any fun kv => decide (kv.1 = p.1)) = false := by
      rw [List.any_eq_false]
      intro q hq hd
      have hd : q.1 = p.1 := by simpa using hd
      rw [List.map_append, List.nodup_append] at h
      exact h.2.2 q.1 (List.mem_map_of_mem hq) p.1 (by simp) hd
    have e1 : putK acc p.1 p.2 = acc ++ [p] := by unfold putK; rw [hn]; simp
    have h' : ((acc ++ [p] ++ r).map (·.1)).Nodup := by simpa using h
    have ih := merge_nodup r (acc ++ [p]) h'
    show mergeK (putK acc p.1 p.2) r = _
    rw [e1, ih]; simp
theorem s_dget (hu : X.A.units + 1 < cLine) (hc : X.calm = true) (hg : Gl X "dict") (hm : X.mg "dict" = none) {a k d : Expr} {fa fk fd : M (List Va)} {p1 p2 p3 p4 : Pos} (ha : PE X a (tE T W fa)) (hk : PE X k (tE T W fk)) (hd : PE X d (tE T W fd)) (hs : starEach [a] X.env = (false, eval a X.env) :: starEach [] X.env)
    (hs1 : starEach [k, d] X.env = [(false, eval k X.env), (false, eval d X.env)]) (hline : (p3.endLine == p4.line) = true) : PE X (.Call (.Attribute (.Call (.Name "dict" p1) [a] [] p2) "get" p3) [k, d] [] p4) (tE T W fun s => one1 (fa s) fun x s => match x with
      | .d ps => if (dgetD ps (.str "") .none).isSome then one1 (fk s) fun y s => one1 (fd s) fun z s => match y, z with
        | .d u, .d w => datO (dgetD ps u w) s
        | _, _ => .stuck else .stuck
      | _ => .stuck) := by
  have M : M2 X (.Call (.Name "dict" p1) [a] [] p2) "get" p3 k d p4 := ⟨by rfl, by rw [hs1]; rfl, hline, by rw [hs1]; rfl⟩
  refine pe_imp (pe_dget2 hu (pe_callTy (call_dictP hc) hg hm (by decide +kernel) (pa_cons ha pa_nil hs) (by decide) (by decide) hs (by rfl)) hk hd M) fun σ H Q ⟨s, G, R, h⟩ => ⟨s, G, R, h.one1.imp fun vs s1 G1 H1 us x R1 _ ⟨v, u, e1, e2, r1, h1⟩ => ⟨u, e2, ?_⟩⟩
  try dsimp only at h1
  split at h1
  · rename_i ps
    split at h1
    · rename_i hsome
      have key : ∃ l kv, ps = .list l ∧ pairsD l = some kv ∧ (kv.map (·.1)).Nodup := by
        unfold dgetD at hsome
        split at hsome
        · rename_i l z e
          split at hsome
          · rename_i kv ek
            split at hsome
            · rename_i hn
              exact ⟨l, kv, rfl, ek, hn⟩
            · cases hsome
          · cases hsome
        · cases hsome
      obtain ⟨l, kv, rfl, ek, hn⟩ := key
      cases r1 with
      | lst q da =>
        obtain ⟨ads, rfl, hp⟩ := pairs_dx hK (part_sub (own := G1.own) (t := 0)) da ek
        refine ⟨_, ads, kv.map fun p => (Sum.inr p.1, V.int p.2), rfl, SqL.of (part_sub _ _ q), by rw [hK]; exact hp, fun p hp0 => ?_⟩
        have e0 : mergeK [] (kv.map fun p => ((Sum.inr p.1 : Key), V.int p.2)) = kv.map fun p => (Sum.inr p.1, V.int p.2) := by
          rw [merge_nodup]
          · rfl
          · rw [List.nil_append, List.map_map]
            have : (kv.map ((fun x : Key × V => x.1) ∘ fun p : Str × Int => ((Sum.inr p.1 : Key), V.int p.2))) = (kv.map (·.1)).map Sum.inr := by rw [List.map_map]; rfl
            rw [this]
            exact List.Pairwise.map _ (fun a b h z => h (Sum.inr.inj z)) hn
        rw [e0]
        obtain ⟨R2, x2⟩ := Rel.free (o := .dK (kv.map fun p => (Sum.inr p.1, V.int p.2))) R1 hp0
        refine ⟨p, rfl, .inl ⟨_, .inl upd_same⟩, s1, _, R2, (h1.ext x2).one1.imp fun vs3 s3 G3 H3 us3 x3 R3 _ ⟨v3, u3, e3, e4, r3, h3⟩ => ⟨u3, e4, s3, G3, R3, h3.one1.imp fun vs4 s4 G4 H4 us4 x4 R4 _ ⟨v4, u4, e5, e6, r4, h4⟩ => ⟨u4, e6, ?_⟩⟩⟩
        try dsimp only at h4
        split at h4
        · rename_i uk w _
          obtain ⟨k1, _⟩ := (x3.trans x4).keep p _ upd_same (by simp)
          cases hz : dgetD (.list l) uk w with
          | none => rw [hz] at h4; exact h4.elim
          | some z =>
            rw [hz] at h4
            cases uk with
            | str z' =>
              have hz : (match pairsD l with
                | some kv => if (kv.map (·.1)).Nodup then some (match kv.find? fun p => decide (p.1 = z') with
                  | some p => .int p.2
                  | none => w) else none
                | none => none) = some z := hz
              rw [ek] at hz
              dsimp only at hz
              rw [if_pos hn] at hz
              cases r3
              refine ⟨_, DGet.k (k := Sum.inr z') k1, ?_⟩
              have ev : valV (kv.map fun p => ((Sum.inr p.1 : Key), V.int p.2)) (Sum.inr z') = (kv.find? fun p => decide (p.1 = z')).map fun p => V.int p.2 := by
                unfold valV
                rw [List.find?_map]
                have : ((fun x : Key × V => decide (x.1 = Sum.inr z')) ∘ fun p : Str × Int => ((Sum.inr p.1 : Key), V.int p.2)) = fun p => decide (p.1 = z') := by
                  funext p; simp
                rw [this, Option.map_map]; rfl
              rw [ev]
              cases hf : kv.find? fun p => decide (p.1 = z') with
              | none =>
                rw [hf] at hz
                cases hz
                exact here (v := .d _) R4 r4 h4
              | some p =>
                rw [hf] at hz
                cases hz
                exact here (v := .d (.int p.2)) R4 (.int _) h4
            | _ => cases hz
        · exact h4.elim
    · exact h1.elim
  · exact h1.elim
end
end BC

/-! BChk: a code stands for a text: a check, and what it is worth. -/
namespace BC
open PySem L2
/-- what may be called: nothing; a def; a method m of the class c; the making of the class c, named x -/
inductive Ent where
  | off | fn (x : Str) | me (c : Nat) (m : Str) | mk (c : Nat) (x : Str)
  deriving DecidableEq
/-- names: slots, what may be called, constants, own errors; attributes -/
structure Tb where
  N : List Str
  fn : List Ent
  gl : List (Option Str)
  xc : List (Option Str)
  ob : Bool
  fnm : List Str
def notStar : Expr → Bool
  | .Starred .. => false
  | _ => true
def isPlain : Expr → Bool
  | .Slice .. => false
  | _ => true
def isGen : Expr → Bool
  | .UnaryOp .Not .. => false
  | .BoolOp .. => false
  | .Compare .. => false
  | .IfExp .. => false
  | _ => true
def notSet : Expr → Bool
  | .Set .. => false
  | _ => true
def notComp : Expr → Bool
  | .ListComp .. => false
  | .SetComp .. => false
  | .DictComp .. => false
  | _ => true
def notTup : Expr → Bool
  | .Tuple .. => false
  | _ => true
def isVar (B : Tb) (sc : Scope) (i : Nat) (x : Str) : Bool :=
  decide (B.N[i]? = some x) && (match sc.names.lookup x with
    | some .local => true
    | some .cell => true
    | some .free => true
    | _ => false) && !(x == ("__debug__" : Str)) && !(x == ("__classdict__" : Str))
def isGl (sc : Scope) (x : Str) : Bool := decide (sc.names.lookup x = some .globalImplicit) && !(x == ("__debug__" : Str))
def isTg (B : Tb) (sc : Scope) (own : Str → Bool) (i : Nat) (x : Str) : Bool :=
  decide (B.N[i]? = some x) && (decide (sc.names.lookup x = some .local) || (decide (sc.names.lookup x = some .cell) && own x))
def isTgs (B : Tb) (sc : Scope) (own : Str → Bool) : List Nat → List Expr → Bool
  | [], [] => true
  | i :: is, .Name x _ :: es => isTg B sc own i x && isTgs B sc own is es
  | _, _ => false
def isTgt (B : Tb) (sc : Scope) (own : Str → Bool) (is : List Nat) (e : Expr) : Bool := match is, e with
  | [i], .Name x _ => isTg B sc own i x
  | [_], _ => false
  | is, .Tuple es _ _ => isTgs B sc own is es
  | _, _ => false
def cstOk : PyData → Const → Bool
  | .int i, .int j => decide (i = j)
  | .bool i, .bool j => decide (i = j)
  | .none, .none => true
  | .str i, .str j => decide (i = j)
  | _, _ => false
def bfName : Bf → Str
  | .len => "len" | .abs => "abs" | .min2 => "min" | .max2 => "max" | .min1 => "min" | .max1 => "max" | .sum => "sum" | .sorted => "sorted"
  | .tuple => "tuple" | .list => "list" | .int => "int" | .str => "str" | .all => "all"
def bnames : List Str := ["len", "abs", "min", "max", "sum", "sorted", "tuple", "list", "int", "str", "all", "range", "isinstance", "bool", "dict", "ValueError", "set"]
def Xe.isL : Xe → Bool
  | .nil | .cons .. => true
  | _ => false
def Xe.isS : Xe → Bool
  | .sseq .. | .sfl .. | .srng1 .. | .srng2 .. | .sstr .. => true
  | _ => false
def Xe.isV (c : Xe) : Bool := !c.isL && !c.isS
def ownp (B : Tb) (own : List Nat) : List (Str × Nat) := own.map fun i => ((B.N[i]?).getD "", i)
theorem ownp_ix (B : Tb) (own : List Nat) : (ownp B own).map (·.2) = own := by
  unfold ownp; rw [List.map_map]; exact List.map_id' _
def isOp (o : Co) (op : CmpOp) : Bool := decide (op = coOp o)
def objC : Expr → Bool
  | .Name .. | .Attribute .. | .Subscript .. | .Constant .. => true
  | _ => false
/-- a simple index -/
def chkV (B : Tb) (sc : Scope) : Xe → Expr → Bool
  | .var i, .Name x _ => isVar B sc i x
  | .cst (.int j), .Constant (.int k) _ _ => decide (j = k)
  | .idx (.var i) (.cst (.int j)), .Subscript (.Name x _) (.Constant (.int k) _ _) _ => isVar B sc i x && decide (j = k)
  | _, _ => false
def isAt (B : Tb) (f : Nat) (o : Expr) (y : Str) : Bool := B.ob && objE o && decide (B.fnm[f]? = some y)
def optE : Option Expr → List Expr
  | none => []
  | some e => [e]
def chk (B : Tb) : Xe → Scope → List Expr → Bool
  | .nil, _, es => match es with
    | [] => true
    | _ => false
  | .cons a r, sc, es => match es with
    | e :: es => notStar e && a.isV && r.isL && chk B a sc [e] && chk B r sc es
    | _ => false
  | .var i, sc, es => match es with
    | [.Name x _] => isVar B sc i x
    | _ => false
  | .frz i, sc, es => match es with
    | [.Name x _] => isVar B sc i x
    | _ => false
  | .cst d, _, es => match es with
    | [.Constant c _ _] => cstOk d c
    | _ => false
  | .glob g, sc, es => match es with
    | [.Name x _] => isGl sc x && decide (B.gl[g]? = some (some x))
    | _ => false
  | .neg a, sc, es => match es with
    | [.UnaryOp .USub e _] => a.isV && chk B a sc [e]
    | _ => false
  | .bin o a b, sc, es => match es with
    | [.BinOp x op y _] => decide (op = boOp o) && a.isV && b.isV && chk B a sc [x] && chk B b sc [y]
    | _ => false
  | .cmp o a b, sc, es => match es with
    | [.Compare x [op] [y] _] => isOp o op && a.isV && b.isV && !behindInMarks op y && chk B a sc [x] && chk B b sc [y]
    | _ => false
  | .chain o p a b c, sc, es => match es with
    | [.Compare x [op, op2] [y, z] _] => isOp o op && isOp p op2 && a.isV && b.isV && c.isV && !lastMarks [op, op2] [y, z] && chk B a sc [x] && chk B b sc [y] && chk B c sc [z]
    | _ => false
  | .isN a, sc, es => match es with
    | [.Compare x [.Is] [.Constant .none _ _] _] => a.isV && chk B a sc [x]
    | _ => false
  | .isNot a, sc, es => match es with
    | [.Compare x [.IsNot] [.Constant .none _ _] _] => a.isV && chk B a sc [x]
    | _ => false
  | .and a b, sc, es => match es with
    | [.BoolOp .And (x :: y :: r) p] => a.isV && b.isV && chk B a sc [x] && chk B b sc [.BoolOp .And (y :: r) p]
    | _ => false
  | .or a b, sc, es => match es with
    | [.BoolOp .Or (x :: y :: r) p] => a.isV && b.isV && chk B a sc [x] && chk B b sc [.BoolOp .Or (y :: r) p]
    | _ => false
  | .one a, sc, es => match es with
    | [.BoolOp _ [x] _] => a.isV && chk B a sc [x]
    | _ => false
  | .not a, sc, es => match es with
    | [.UnaryOp .Not x _] => a.isV && chk B a sc [x]
    | _ => false
  | .ifx t a b, sc, es => match es with
    | [.IfExp x y z _] => t.isV && a.isV && b.isV && chk B t sc [x] && chk B a sc [y] && chk B b sc [z]
    | _ => false
  | .tup as, sc, es => match es with
    | [.Tuple xs _ _] => as.isL && chk B as sc xs
    | _ => false
  | .lst as, sc, es => match es with
    | [.List xs _] => as.isL && chk B as sc xs
    | _ => false
  | .idx a i, sc, es => match es with
    | [.Subscript x y _] => a.isV && i.isV && isPlain y && chk B a sc [x] && chk B i sc [y]
    | _ => false
  | .slice a lo hi, sc, es => match es with
    | [.Subscript x (.Slice l h none _) _] => a.isV && chk B a sc [x] && (match l with
        | none => lo.isNil
        | some _ => lo.isV) && (match h with
        | none => hi.isNil
        | some _ => hi.isV) && chk B lo sc (optE l) && chk B hi sc (optE h)
    | _ => false
  | .fld o f, sc, es => match es with
    | [.Attribute x y _] => isAt B f x y && o.isV && chk B o sc [x]
    | _ => false
  | .fidx o f i, sc, es => match es with
    | [.Subscript (.Attribute x y _) z _] => isAt B f x y && isPlain z && o.isV && i.isV && chk B o sc [x] && chk B i sc [z]
    | _ => false
  | .oidx o f i, sc, es => match es with
    | [.Subscript (.Attribute x y _) z _] => isAt B f x y && isPlain z && o.isV && chkV B sc i z && chk B o sc [x]
    | _ => false
  | .flen o f, sc, es => match es with
    | [.Call (.Name n _) [.Attribute x y _] [] _] => decide (n = ("len" : Str)) && isGl sc n && isAt B f x y && o.isV && chk B o sc [x]
    | _ => false
  | .fcopy o f, sc, es => match es with
    | [.Call (.Name n _) [.Attribute x y _] [] _] => decide (n = ("list" : Str)) && isGl sc n && isAt B f x y && o.isV && chk B o sc [x]
    | _ => false
  | .popE a, sc, es => match es with
    | [.Call (.Attribute x m p2) [] [] p3] => decide (m = ("pop" : Str)) && objE x && (p2.endLine == p3.line) && a.isV && chk B a sc [x]
    | _ => false
  | .call f m as, sc, es => match es with
    | [.Call (.Name x _) [] [] _] => as.isNil && isGl sc x && decide (B.fn[f]? = some (.fn x))
    | [.Call (.Name x _) (e :: es) [] _] => as.isL && isGl sc x && (match B.fn[f]? with
        | some (.fn y) => decide (x = y)
        | some (.mk _ y) => decide (x = y)
        | _ => false) && (e :: es).all notStar && chk B as sc (e :: es)
    | _ => false
  | .meth f c o as, sc, es => match es with
    | [.Call (.Attribute x y p2) es [] p3] => B.ob && objE x && decide (B.fn[f]? = some (.me c y)) && decide (y ∉ B.fnm) && (p2.endLine == p3.line) && decide (es.length < 20) && es.all notStar && o.isV && as.isL && chk B o sc [x] && chk B as sc es
    | _ => false
  | .bf f as, sc, es => match es with
    | [.Call (.Name x _) (e :: es) [] _] => as.isL && isGl sc x && decide (x = bfName f) && (e :: es).all notStar && chk B as sc (e :: es)
    | _ => false
  | .isi a t, sc, es => match es with
    | [.Call (.Name x _) [e, .Name y _] [] _] => decide (x = ("isinstance" : Str)) && isGl sc x && isGl sc y && ((decide (t < 6) && decide (y = Str.ofString (tyName t))) || (decide (t = 6) && decide (y = ("ValueError" : Str))) || (decide (10 ≤ t) && decide (B.xc[t - 10]? = some (some y)))) && notStar e && a.isV && chk B a sc [e]
    | _ => false
  | .sset a, sc, es => match es with
    | [.Call (.Name x _) [.Call (.Name y _) [e] [] _] [] _] => decide (x = ("sorted" : Str)) && isGl sc x && decide (y = ("set" : Str)) && isGl sc y && notStar e && a.isV && chk B a sc [e]
    | _ => false
  | .rng1 t a, sc, es => match es with
    | [.Call (.Name x _) [.Call (.Name y _) [e] [] _] [] _] => decide (x = if t then ("tuple" : Str) else "list") && isGl sc x && decide (y = ("range" : Str)) && isGl sc y && notStar e && a.isV && chk B a sc [e]
    | _ => false
  | .rng2 t a b, sc, es => match es with
    | [.Call (.Name x _) [.Call (.Name y _) [e, e2] [] _] [] _] => decide (x = if t then ("tuple" : Str) else "list") && isGl sc x && decide (y = ("range" : Str)) && isGl sc y && notStar e && notStar e2 && a.isV && b.isV && chk B a sc [e] && chk B b sc [e2]
    | _ => false
  | .mt k a as, sc, es => match es with
    | [.Call (.Attribute x m p2) [e] [] p3] => decide (m = mtName k) && objC x && (p2.endLine == p3.line) && notStar e && a.isV && as.isL && chk B a sc [x] && chk B as sc [e]
    | _ => false
  | .dget a k d, sc, es => match es with
    | [.Call (.Attribute (.Call (.Name x _) [e] [] _) m p3) [e1, e2] [] p4] => decide (x = ("dict" : Str)) && isGl sc x && decide (m = ("get" : Str)) && (p3.endLine == p4.line) && notStar e && notStar e1 && notStar e2 && a.isV && k.isV && d.isV && chk B a sc [e] && chk B k sc [e1] && chk B d sc [e2]
    | _ => false
  | .pop i, sc, es => match es with
    | [.Call (.Attribute (.Name x _) m p2) [] [] p3] => decide (m = ("pop" : Str)) && isVar B sc i x && (p2.endLine == p3.line)
    | _ => false
  | .sseq a, sc, es => match es with
    | [e] => a.isV && chk B a sc [e]
    | _ => false
  | .sstr a, sc, es => match es with
    | [e] => a.isV && chk B a sc [e]
    | _ => false
  | .sfl o f, sc, es => match es with
    | [.Attribute x y _] => isAt B f x y && o.isV && chk B o sc [x]
    | _ => false
  | .srng1 a, sc, es => match es with
    | [.Call (.Name x _) [e] [] _] => decide (x = ("range" : Str)) && isGl sc x && notStar e && a.isV && chk B a sc [e]
    | _ => false
  | .srng2 a b, sc, es => match es with
    | [.Call (.Name x _) [e, e2] [] _] => decide (x = ("range" : Str)) && isGl sc x && notStar e && notStar e2 && a.isV && b.isV && chk B a sc [e] && chk B b sc [e2]
    | _ => false
  | .comp src tg own cond elt, sc, es => match es with
    | [.ListComp x [⟨tge, it, ifs, n⟩] scope _] => decide (n = 0) && notSet it && src.isS && chk B src sc [it] && (tg.all fun i => decide (i ∈ own)) && blkC B.N sc scope (ownp B own) &&
        isTgt B (relS scope sc) (fun y => scope.names.lookup y == some .cell) tg tge &&
        (match ifs with
          | [] => cond.isNil
          | [_] => cond.isV
          | _ => false) && chk B cond (relS scope sc) ifs && elt.isV && chk B elt (relS scope sc) [x]
    | _ => false
structure Has (X : Cx) (T : Tn) (W : WX) (Φ : Tbl) (gl : Nat → PyData) (B : Tb) (sc : Scope) : Prop where
  K : X.K = T.K
  N : X.N = B.N
  nd : B.N.Nodup
  sc : X.env.scope = sc
  calm : X.calm = true
  un : X.A.units + 64 < cLine
  tk : Takes X W
  fn : ∀ f x, B.fn[f]? = some (.fn x) → ∃ k a fd ps, FnOk X.prog X.w X.K X.mg X.base (L2.CX X.prog X.w) k a fd ps (spF T false (Φ f)) ∧ Room k X.A ∧ X.mg x = some (.ref a) ∧ PySem.W.keepIn X.K (.ref a) = true ∧ Binds X.K fd ps []
  me : ∀ f c m, B.fn[f]? = some (.me c m) → ∃ k a fd ps, FnOk X.prog X.w X.K X.mg X.base (L2.CX X.prog X.w) k a fd ps (spF T true (Φ f)) ∧ Room k X.A ∧ Meth X.K (T.cls c) m a ∧ Binds X.K fd ps []
  mks : ∀ f c x, B.fn[f]? = some (.mk c x) → ∃ k a fd ps φ, Φ f = makeF c φ ∧ FnOk X.prog X.w X.K X.mg X.base (L2.CX X.prog X.w) k a fd ps (spF T true φ) ∧ Room (k + 1) X.A ∧ Mk X.K (T.cls c) a ∧ X.mg x = some (.ref (T.cls c)) ∧ Binds X.K fd ps []
  gl : ∀ g x, B.gl[g]? = some (some x) → ∃ v u, X.mg x = some u ∧ RelV v u ∧ ∀ F, Dx T.K F v (gl g)
  xc : ∀ c x, B.xc[c]? = some (some x) → XcOk X T c x ∧ Xc X T c x
  xs : Xs X T
  ob : B.ob = true → Ob X T ∧ T.fnm = B.fnm
  bt : ∀ x ∈ bnames, X.mg x = none
structure SV (X : Cx) (T : Tn) (W : WX) (f : M (List Va)) (e : Expr) : Prop where
  pe : PE X e (tE T W f)
  pt : PT X e (tT T W fun s => one1 (f s) tru)
section
variable {X : Cx} {T : Tn} {W : WX} {Φ : Tbl} {gl : Nat → PyData} {B : Tb} {sc : Scope}
theorem star1 {e : Expr} {es : List Expr} {env : Env} (h : notStar e = true) : starEach (e :: es) env = (false, eval e env) :: starEach es env := by
  cases e <;> first | rfl | cases h
theorem starP {pos : Pos} {env : Env} : ∀ {es : List Expr}, es.all notStar = true → (backTo pos (starEach es env)).any (·.1) = false
  | [], _ => rfl
  | e :: es, h => by
    simp only [List.all_cons, Bool.and_eq_true] at h
    rw [star1 h.1]
    show (false || (backTo pos (starEach es env)).any (·.1)) = false
    rw [starP h.2]; rfl
theorem plain_ix {e : Expr} (h : isPlain e = true) : PlainIx e := by
  intro o i
  cases e <;> first | rfl | cases h
theorem gen_true {e : Expr} {env : Env} (h : isGen e = true) : ∀ whole, isTrue e env whole = (do let v ← whole; standAt e.pos; holding [v] (truthy v)) := by
  intro whole
  cases e with
  | UnaryOp op x p => cases op <;> first | rfl | cases h
  | _ => first | rfl | cases h
theorem set_not {e : Expr} {env : Env} (h : notSet e = true) : ∀ x, foldedSetIterable e env x = pure x := by
  intro x
  cases e <;> first | rfl | cases h
theorem SV.gen {f : M (List Va)} {e : Expr} (hK : X.K = T.K) (pe : PE X e (tE T W f)) (h : isGen e = true) : SV X T W f e := ⟨pe, t_truth hK pe (gen_true h)⟩
theorem isVar_vis {i : Nat} {x : Str} (H : Has X T W Φ gl B sc) (h : isVar B sc i x = true) : X.N[i]? = some x ∧ Vis X.env.scope x ∧ (x == ("__debug__" : Str)) = false ∧ (x == ("__classdict__" : Str)) = false := by
  unfold isVar at h
  simp only [Bool.and_eq_true, decide_eq_true_eq, Bool.not_eq_true'] at h
  obtain ⟨⟨⟨h1, h2⟩, h3⟩, h4⟩ := h
  refine ⟨by rw [H.N]; exact h1, ?_, h3, h4⟩
  rw [H.sc]
  unfold Vis
  split at h2 <;> simp_all
theorem isGl_gl {x : Str} (H : Has X T W Φ gl B sc) (h : isGl sc x = true) : Gl X x ∧ (x == ("__debug__" : Str)) = false := by
  unfold isGl at h
  simp only [Bool.and_eq_true, decide_eq_true_eq, Bool.not_eq_true'] at h
  exact ⟨by show X.env.scope.names.lookup x = _; rw [H.sc]; exact h.1, h.2⟩
theorem isTg_nm {i : Nat} {x : Str} {own : Str → Bool} (hN : X.N = B.N) (hs : X.env.scope = sc) (ho : ∀ x, own x = true → X.fn x = true) (h : isTg B sc own i x = true) : Nm X i x := by
  unfold isTg at h
  simp only [Bool.and_eq_true, Bool.or_eq_true, decide_eq_true_eq] at h
  obtain ⟨h1, h2⟩ := h
  refine ⟨by rw [hN]; exact h1, ?_, ?_⟩
  · rw [hs]
    rcases h2 with h | h
    · exact .inl h
    · exact .inr h.1
  · rw [hs]
    rcases h2 with h | h
    · exact .inr h
    · exact .inl (ho _ h.2)
theorem isTgs_nms {own : Str → Bool} (hN : X.N = B.N) (hs : X.env.scope = sc) (ho : ∀ x, own x = true → X.fn x = true) : ∀ {is : List Nat} {es : List Expr}, isTgs B sc own is es = true → Nms X is es
  | [], [], _ => .nil
  | [], _ :: _, h => by cases h
  | _ :: _, [], h => by cases h
  | i :: is, e :: es, h => by
    cases e with
    | Name x p =>
      unfold isTgs at h
      rw [Bool.and_eq_true] at h
      exact .cons (isTg_nm hN hs ho h.1) (isTgs_nms hN hs ho h.2)
    | _ => cases h
theorem isTgt_of {own : Str → Bool} {is : List Nat} {e : Expr} (hN : X.N = B.N) (hs : X.env.scope = sc) (ho : ∀ x, own x = true → X.fn x = true) (h : isTgt B sc own is e = true) :
    (∃ i x pos, is = [i] ∧ e = .Name x pos ∧ Nm X i x) ∨ (∃ es k pos, is.length ≠ 1 ∧ e = .Tuple es k pos ∧ Nms X is es) := by
  unfold isTgt at h
  split at h
  · exact .inl ⟨_, _, _, rfl, rfl, isTg_nm hN hs ho h⟩
  · cases h
  · rename_i hn
    refine .inr ⟨_, _, _, ?_, rfl, isTgs_nms hN hs ho h⟩
    intro hl
    match is, hl with
    | [i], _ => exact hn i rfl
  · cases h
theorem isi_eq (t : Nat) (ht : t < 6) (x : Va) (s : Sg) : (match peek s x with
      | some d => boolO (isiD d t) s
      | none => .stuck) = boolO (isiV x t s) s := by
  cases x with
  | x n =>
    show Rs.stuck = boolO (isiX n t) s
    unfold isiX
    rw [if_neg (by omega), if_neg (by omega)]; rfl
  | d y => rfl
  | c k => show _ = boolO (match peek s (.c k) with | some x => isiD x t | none => none) s; cases peek s (.c k) <;> rfl
  | b k => show _ = boolO (match peek s (.b k) with | some x => isiD x t | none => none) s; cases peek s (.b k) <;> rfl
  | s ns => rfl
theorem base_c {o : Expr} {y : Str} {env : Env} (h : objC o = true) : attributeBase o y env (eval o env) = eval o env := by
  cases o <;> first | (cases h; done) | rfl
theorem isAt_of {f : Nat} {o : Expr} {y : Str} (H : Has X T W Φ gl B sc) (h : isAt B f o y = true) : Ob X T ∧ objE o = true ∧ T.fnm[f]? = some y := by
  unfold isAt at h
  simp only [Bool.and_eq_true, decide_eq_true_eq] at h
  obtain ⟨⟨h1, h2⟩, h3⟩ := h
  obtain ⟨o1, o2⟩ := H.ob h1
  exact ⟨o1, h2, by rw [o2]; exact h3⟩
theorem chkV_of {i : Xe} {e : Expr} (ob : Ob X T) (H : Has X T W Φ gl B sc) (h : chkV B sc i e = true) : PE X e (tV T (simV i)) := by
  unfold chkV at h
  split at h
  · obtain ⟨h1, h2, h3, h4⟩ := isVar_vis H h
    exact v_var H.K ob h1 h2 h3 h4
  · cases of_decide_eq_true h
    exact v_int H.K ob
  · rw [Bool.and_eq_true] at h
    cases of_decide_eq_true h.2
    obtain ⟨h1, h2, h3, h4⟩ := isVar_vis H h.1
    exact v_idx H.K ob h1 h2 h3 h4
  · cases h
theorem meth_few {env : Env} {pos : Pos} {es : List Expr} (h1 : es.length < 20) (h2 : es.all notStar = true) : methodCallForm (es.length + ([] : List Keyword).length) (backTo pos (starEach es env)) (backToKw pos (keywordEach [] env)) = true := by
  have e : (backTo pos (starEach es env)).all (fun x => !x.1) = true := by
    have q := starP (pos := pos) (env := env) h2
    rw [List.any_eq_false] at q
    rw [List.all_eq_true]
    intro x hx
    have := q x hx
    simpa using this
  unfold methodCallForm
  rw [e]
  simp [keywordEach, backToKw]
  omega

def Xe.isB : Xe → Bool
  | .and .. | .or .. | .one .. => true
  | _ => false
structure COk (X : Cx) (T : Tn) (W : WX) (Φ : Tbl) (gl : Nat → PyData) (c : Xe) (es : List Expr) : Prop where
  v : c.isV = true → ∃ e, es = [e] ∧ SV X T W (sem Φ gl c) e
  l : c.isL = true → PA X es (tL T W (sem Φ gl c))
  s : c.isS = true → ∀ tg, ∃ e, es = [e] ∧ PI X tg e (tI T W (sem Φ gl c))
  w : c.isB = true → ∃ e, es = [e] ∧ PW X e (tT T W fun s => one1 (sem Φ gl c s) tru)
theorem noB {b : Bool} {p : Prop} (h : b = false) (h' : b = true) : p := by rw [h] at h'; cases h'
theorem COk.val {c : Xe} {e : Expr} (h : SV X T W (sem Φ gl c) e) (hl : c.isL = false) (hs : c.isS = false) (hb : c.isB = false) : COk X T W Φ gl c [e] :=
  ⟨fun _ => ⟨e, rfl, h⟩, noB hl, noB hs, noB hb⟩
theorem COk.boo {c : Xe} {e : Expr} (h : PE X e (tE T W (sem Φ gl c))) (w : PW X e (tT T W fun s => one1 (sem Φ gl c s) tru)) (hl : c.isL = false) (hs : c.isS = false) : COk X T W Φ gl c [e] :=
  ⟨fun _ => ⟨e, rfl, h, w.pt⟩, noB hl, noB hs, fun _ => ⟨e, rfl, w⟩⟩
theorem COk.lis {c : Xe} {es : List Expr} (h : PA X es (tL T W (sem Φ gl c))) (hv : c.isV = false) (hs : c.isS = false) (hb : c.isB = false) : COk X T W Φ gl c es :=
  ⟨noB hv, fun _ => h, noB hs, noB hb⟩
theorem COk.src {c : Xe} {e : Expr} (h : ∀ tg, PI X tg e (tI T W (sem Φ gl c))) (hv : c.isV = false) (hl : c.isL = false) (hb : c.isB = false) : COk X T W Φ gl c [e] :=
  ⟨noB hv, noB hl, fun _ tg => ⟨e, rfl, h tg⟩, noB hb⟩
theorem COk.one {c : Xe} {e : Expr} (h : COk X T W Φ gl c [e]) (hv : c.isV = true) : SV X T W (sem Φ gl c) e := by
  obtain ⟨e', q, h⟩ := h.v hv
  cases q
  exact h
theorem bf_ok (H : Has X T W Φ gl B sc) {f : Bf} {e : Expr} {es : List Expr} {fa : M (List Va)} {p pos : Pos} (hg : Gl X (bfName f)) (hd : (bfName f == ("__debug__" : Str)) = false) (ha : PA X (e :: es) (tL T W fa)) (hs : starEach (e :: es) X.env = (false, eval e X.env) :: starEach es X.env) (hpl : (backTo pos (starEach es X.env)).any (·.1) = false) :
    PE X (.Call (.Name (bfName f) p) (e :: es) [] pos) (tE T W fun s => (fa s).bind fun vs s => match peeks s vs with
      | some xs => datO (bfD f xs) s
      | none => .stuck) := by
  have bt : X.mg (bfName f) = none := H.bt _ (by cases f <;> decide)
  cases f <;> first
    | exact s_bf H.K b_len hg bt (by decide +kernel) ha (by decide) hd hs hpl
    | exact s_bf H.K b_abs hg bt (by decide +kernel) ha (by decide) hd hs hpl
    | exact s_bf H.K (b_min2 H.calm) hg bt (by decide +kernel) ha (by decide) hd hs hpl
    | exact s_bf H.K (b_max2 H.calm) hg bt (by decide +kernel) ha (by decide) hd hs hpl
    | exact s_bf H.K (b_min1 H.calm) hg bt (by decide +kernel) ha (by decide) hd hs hpl
    | exact s_bf H.K (b_max1 H.calm) hg bt (by decide +kernel) ha (by decide) hd hs hpl
    | exact s_bf H.K (b_sum H.calm) hg bt (by decide +kernel) ha (by decide) hd hs hpl
    | exact s_bf H.K b_sorted hg bt (by decide +kernel) ha (by decide) hd hs hpl
    | exact s_bf H.K (b_all H.calm) hg bt (by decide +kernel) ha (by decide) hd hs hpl
    | exact s_bfT H.K b_tuple hg bt (by decide +kernel) ha (by decide) hd hs hpl
    | exact s_bfT H.K b_list hg bt (by decide +kernel) ha (by decide) hd hs hpl
    | exact s_bfT H.K b_int hg bt (by decide +kernel) ha (by decide) hd hs hpl
    | exact s_bfT H.K b_str hg bt (by decide +kernel) ha (by decide) hd hs hpl

theorem COk.pw {c : Xe} {e : Expr} (h : COk X T W Φ gl c [e]) (hb : c.isB = true) : PW X e (tT T W fun s => one1 (sem Φ gl c s) tru) := by
  obtain ⟨e', q, h⟩ := h.w hb
  cases q
  exact h
theorem COk.sr {c : Xe} {e : Expr} (h : COk X T W Φ gl c [e]) (hs : c.isS = true) (tg : Expr) : PI X tg e (tI T W (sem Φ gl c)) := by
  obtain ⟨e', q, h⟩ := h.s hs tg
  cases q
  exact h
/-- the check of a boolean's rest gives a boolean -/
theorem rest_bo {b : Xe} {op : BoolOp} {xs : List Expr} {p : Pos} {sc : Scope} (hv : b.isV = true) (h : chk B b sc [.BoolOp op xs p] = true) : b.isB = true := by
  cases b <;> first | rfl | (cases hv; done) | (unfold chk at h; cases h; done)
theorem t_ifx {t a b : Expr} {ft fa fb : M (List Va)} {pos : Pos} (ht : PT X t (tT T W fun s => one1 (ft s) tru)) (ha : PT X a (tT T W fun s => one1 (fa s) tru)) (hb : PT X b (tT T W fun s => one1 (fb s) tru)) :
    PT X (.IfExp t a b pos) (tT T W fun s => one1 (one1 (ft s) fun x s => (tru x s).bind fun k s => if k then fa s else fb s) tru) := by
  refine ⟨fun pins s σ H Q I ⟨s0, G, R, h⟩ => ?_⟩
  have e : one1 (one1 (ft s0) fun x s => (tru x s).bind fun k s => if k then fa s else fb s) tru = (one1 (ft s0) tru).bind fun k s => if k then one1 (fa s) tru else one1 (fb s) tru := by
    cases ft s0 with
    | ok vs t =>
      match vs with
      | [v] =>
        show one1 ((tru v t).bind fun k s => if k then fa s else fb s) tru = (tru v t).bind fun k s => if k then one1 (fa s) tru else one1 (fb s) tru
        cases tru v t with
        | ok k s => cases k <;> rfl
        | err c s => rfl
        | stuck => rfl
      | [] => rfl
      | _ :: _ :: _ => rfl
    | err c t => rfl
    | stuck => rfl
  dsimp only at h
  rw [e] at h
  show wpAny _ _ (bind (isTrue t X.env (eval t X.env)) fun k => if k = true then isTrue a X.env (eval a X.env) else isTrue b X.env (eval b X.env)) _ _ _
  refine wpAny_bind (thn (ht.run pins s σ H (fun k H1 => cond k (tT T W (fun s => one1 (fa s) tru) σ H1 Q) (tT T W (fun s => one1 (fb s) tru) σ H1 Q)) I ⟨s0, G, R, h.bind.imp fun k s1 G1 H1 _ x R1 _ h1 => ?_⟩) fun d s1 ⟨H1, I1, q1⟩ => ?_)
  · have h1 := h1.2
    cases k with
    | true => exact ⟨s1, G1, R1, h1⟩
    | false => exact ⟨s1, G1, R1, h1⟩
  · cases d with
    | true => exact ha.run pins s1 σ H1 Q I1 q1
    | false => exact hb.run pins s1 σ H1 Q I1 q1
variable (T Φ gl B)
theorem blk_has {X : Cx} {W : WX} {sc : Scope} (H : Has X T W Φ gl B sc) (s : Shared) (Hh : Hp) (scope : Scope) (C : Addr) (cl : List (Str × Addr)) (fp : List Addr) :
    Has (X.blk s Hh scope (compEnvC scope cl C X.env) fp) T (fun _ _ _ _ => False) Φ gl B (relS scope sc) where
  K := H.K
  N := H.N
  nd := H.nd
  sc := by rw [← H.sc]; rfl
  calm := H.calm
  un := H.un
  tk := takes0
  fn := H.fn
  me := H.me
  mks := H.mks
  gl := H.gl
  xc := fun c x h => let q := H.xc c x h; ⟨⟨q.1.mg, q.1.ex, q.1.kp, q.1.sub, q.1.ty⟩, ⟨q.2.mg, q.2.kit, q.2.exm⟩⟩
  xs := ⟨H.xs.exc, H.xs.val⟩
  ob := fun h => let q := H.ob h; ⟨⟨q.1.cls, q.1.na, q.1.nd⟩, q.2⟩
  bt := H.bt
/-- what a comprehension's rule asks -/
structure CPt (X : Cx) (T : Tn) (W : WX) (Φ : Tbl) (gl : Nat → PyData) (src : Xe) (tg : List Nat) (op : List (Str × Nat)) (cond elt0 : Xe) (elt tge it : Expr) (ifs : List Expr) (scope : Scope) : Prop where
  sub : ∀ i ∈ tg, i ∈ op.map (·.2)
  nd : X.N.Nodup
  hi : PI X tge it (tI T W (sem Φ gl src))
  ok : BlkOk X.N X.env.scope scope op
  hg : ∀ (s : Shared) (H : Hp) (C : Addr) (cl : List (Str × Addr)) (fp : List Addr), PG (X.blk s H scope (compEnvC scope cl C X.env) fp) tge (gOf X.K tg)
  ht : ∀ (s : Shared) (H : Hp) (C : Addr) (cl : List (Str × Addr)) (fp : List Addr), PTs (X.blk s H scope (compEnvC scope cl C X.env) fp) ifs (tT T (fun _ _ _ _ => False) (condM cond.isNil (sem Φ gl cond)))
  he : ∀ (s : Shared) (H : Hp) (C : Addr) (cl : List (Str × Addr)) (fp : List Addr), PE (X.blk s H scope (compEnvC scope cl C X.env) fp) elt (tE T (fun _ _ _ _ => False) (sem Φ gl elt0))
  hs : ∀ x, foldedSetIterable it X.env x = pure x
theorem comp_parts {src cond elt : Xe} {tg own : List Nat} {x tge it : Expr} {ifs : List Expr} {n : Int} {scope : Scope} {pos : Pos} {X : Cx} {W : WX} {sc : Scope} (ihs : ∀ {X : Cx} {W : WX} {sc : Scope} {es : List Expr}, Has X T W Φ gl B sc → chk B src sc es = true → COk X T W Φ gl src es)
    (ihc : ∀ {X : Cx} {W : WX} {sc : Scope} {es : List Expr}, Has X T W Φ gl B sc → chk B cond sc es = true → COk X T W Φ gl cond es) (ihe : ∀ {X : Cx} {W : WX} {sc : Scope} {es : List Expr}, Has X T W Φ gl B sc → chk B elt sc es = true → COk X T W Φ gl elt es)
    (H : Has X T W Φ gl B sc) (h : chk B (.comp src tg own cond elt) sc [.ListComp x [⟨tge, it, ifs, n⟩] scope pos] = true) : n = 0 ∧ CPt X T W Φ gl src tg (ownp B own) cond elt x tge it ifs scope := by
  unfold chk at h
  simp only [Bool.and_eq_true, decide_eq_true_eq] at h
  obtain ⟨⟨⟨⟨⟨⟨⟨⟨⟨⟨h0, h1⟩, h2⟩, h3⟩, h4⟩, h5⟩, h6⟩, h7⟩, h8⟩, h9⟩, h10⟩ := h
  refine ⟨h0, ⟨?_, by rw [H.N]; exact H.nd, (ihs H h3).sr h2 tge, ?_, fun s Hh C cl fp => g_of (X := X.blk s Hh scope (compEnvC scope cl C X.env) fp) H.K H.calm (by show X.N.Nodup; rw [H.N]; exact H.nd) (isTgt_of (B := B) H.N (by show relS scope X.env.scope = _; rw [H.sc]) (fun y hy => hy) h6), fun s Hh C cl fp => ?_, fun s Hh C cl fp => ((ihe (blk_has T Φ gl B H s Hh scope C cl fp) h10).one h9).pe, set_not h1⟩⟩
  · rw [ownp_ix]
    intro i hi
    exact of_decide_eq_true (List.all_eq_true.mp h4 i hi)
  · rw [H.N, H.sc]
    exact blkOk_by h5
  · have HB := blk_has T Φ gl B H s Hh scope C cl fp
    match ifs, h7, h8 with
    | [], h7, h8 =>
      have e : condM cond.isNil (sem Φ gl cond) = fun t => .ok true t := by funext t; unfold condM; rw [if_pos h7]
      rw [e]
      exact ⟨fun pins s σ Hh Q I q => pts_nil.run pins s σ Hh Q I (by
        obtain ⟨s, G, R, q⟩ := q
        exact hereB R q)⟩
    | [c], h7, h8 =>
      have e : condM cond.isNil (sem Φ gl cond) = fun t => one1 (sem Φ gl cond t) tru := by
        funext t
        unfold condM
        rw [if_neg]
        intro z
        cases cond <;> first | cases z; done | cases h7
      rw [e]
      exact pts_one ((ihc HB h8).one h7).pt
    | _ :: _ :: _, h7, h8 => cases h7
theorem chk_ok : ∀ (c : Xe) {X : Cx} {W : WX} {sc : Scope} {es : List Expr}, Has X T W Φ gl B sc → chk B c sc es = true → COk X T W Φ gl c es := by
  intro c
  induction c with
  | nil =>
    intro X W sc es H h
    unfold chk at h
    split at h
    · exact .lis (l_nil H.K) rfl rfl rfl
    · cases h
  | cons a r iha ihr =>
    intro X W sc es H h
    unfold chk at h
    split at h
    · simp only [Bool.and_eq_true] at h
      obtain ⟨⟨⟨⟨h1, h2⟩, h3⟩, h4⟩, h5⟩ := h
      exact .lis (l_cons H.K ((iha H h4).one h2).pe ((ihr H h5).l h3) (star1 h1)) rfl rfl rfl
    · cases h
  | var i =>
    intro X W sc es H h
    unfold chk at h
    split at h
    · obtain ⟨h1, h2, h3, h4⟩ := isVar_vis H h
      exact .val (.gen H.K (s_var H.K h1 h2 h3 h4) rfl) rfl rfl rfl
    · cases h
  | frz i =>
    intro X W sc es H h
    unfold chk at h
    split at h
    · obtain ⟨h1, h2, h3, h4⟩ := isVar_vis H h
      exact .val (.gen H.K (s_frz H.K h1 h2 h3 h4) rfl) rfl rfl rfl
    · cases h
  | cst d =>
    intro X W sc es H h
    unfold chk at h
    split at h
    · unfold cstOk at h
      split at h
      · cases of_decide_eq_true h; exact .val (.gen H.K (s_int H.K) rfl) rfl rfl rfl
      · cases of_decide_eq_true h; exact .val (.gen H.K (s_bool H.K) rfl) rfl rfl rfl
      · exact .val (.gen H.K (s_none H.K) rfl) rfl rfl rfl
      · cases of_decide_eq_true h; exact .val (.gen H.K (s_str H.K) rfl) rfl rfl rfl
      · cases h
    · cases h
  | glob g =>
    intro X W sc es H h
    unfold chk at h
    split at h
    · simp only [Bool.and_eq_true, decide_eq_true_eq] at h
      obtain ⟨h1, h2⟩ := h
      obtain ⟨h3, h4⟩ := isGl_gl H h1
      exact .val (.gen H.K (s_glob H.K h3 (H.gl _ _ h2) h4) rfl) rfl rfl rfl
    · cases h
  | neg a iha =>
    intro X W sc es H h
    unfold chk at h
    split at h
    · simp only [Bool.and_eq_true] at h
      obtain ⟨h1, h2⟩ := h
      exact .val (.gen H.K (s_neg H.K ((iha H h2).one h1).pe) rfl) rfl rfl rfl
    · cases h
  | bin o a b iha ihb =>
    intro X W sc es H h
    unfold chk at h
    split at h
    · simp only [Bool.and_eq_true, decide_eq_true_eq] at h
      obtain ⟨⟨⟨⟨h1, h2⟩, h3⟩, h4⟩, h5⟩ := h
      subst h1
      exact .val (.gen H.K (s_bin H.K ((iha H h4).one h2).pe ((ihb H h5).one h3).pe) rfl) rfl rfl rfl
    · cases h
  | cmp o a b iha ihb =>
    intro X W sc es H h
    unfold chk at h
    split at h
    · simp only [Bool.and_eq_true, isOp, decide_eq_true_eq, Bool.not_eq_true'] at h
      obtain ⟨⟨⟨⟨⟨h1, h2⟩, h3⟩, hm⟩, h4⟩, h5⟩ := h
      subst h1
      exact .val ⟨s_cmp H.K H.un ((iha H h4).one h2).pe ((ihb H h5).one h3).pe hm, t_cmp H.K H.un ((iha H h4).one h2).pe ((ihb H h5).one h3).pe hm⟩ rfl rfl rfl
    · cases h
  | chain o p a b c iha ihb ihc =>
    intro X W sc es H h
    unfold chk at h
    split at h
    · simp only [Bool.and_eq_true, isOp, decide_eq_true_eq, Bool.not_eq_true'] at h
      obtain ⟨⟨⟨⟨⟨⟨⟨⟨h1, h2⟩, h3⟩, h4⟩, h5⟩, hm⟩, h6⟩, h7⟩, h8⟩ := h
      subst h1
      subst h2
      have q1 := ((iha H h6).one h3).pe
      have q2 := ((ihb H h7).one h4).pe
      have q3 := ((ihc H h8).one h5).pe
      exact .val ⟨s_chain H.K H.un q1 q2 q3 hm, t_chain H.K H.un q1 q2 q3 hm⟩ rfl rfl rfl
    · cases h
  | isN a iha =>
    intro X W sc es H h
    unfold chk at h
    split at h
    · simp only [Bool.and_eq_true] at h
      obtain ⟨h1, h2⟩ := h
      have q := ((iha H h2).one h1).pe
      exact .val ⟨s_isN H.K q, t_isN H.K q⟩ rfl rfl rfl
    · cases h
  | isNot a iha =>
    intro X W sc es H h
    unfold chk at h
    split at h
    · simp only [Bool.and_eq_true] at h
      obtain ⟨h1, h2⟩ := h
      have q := ((iha H h2).one h1).pe
      exact .val ⟨s_isNot H.K q, t_isNot H.K q⟩ rfl rfl rfl
    · cases h
  | and a b iha ihb =>
    intro X W sc es H h
    unfold chk at h
    split at h
    · simp only [Bool.and_eq_true] at h
      obtain ⟨⟨⟨h1, h2⟩, h3⟩, h4⟩ := h
      have q1 := (iha H h3).one h1
      have q2 := ihb H h4
      exact .boo (s_and H.K q1.pe (q2.one h2).pe) (t_and H.K q1.pt (q2.pw (rest_bo h2 h4))) rfl rfl
    · cases h
  | or a b iha ihb =>
    intro X W sc es H h
    unfold chk at h
    split at h
    · simp only [Bool.and_eq_true] at h
      obtain ⟨⟨⟨h1, h2⟩, h3⟩, h4⟩ := h
      have q1 := (iha H h3).one h1
      have q2 := ihb H h4
      exact .boo (s_or H.K q1.pe (q2.one h2).pe) (t_or H.K q1.pt (q2.pw (rest_bo h2 h4))) rfl rfl
    · cases h
  | one a iha =>
    intro X W sc es H h
    unfold chk at h
    split at h
    · rename_i op x p
      simp only [Bool.and_eq_true] at h
      obtain ⟨h1, h2⟩ := h
      have q := (iha H h2).one h1
      cases op with
      | And => exact .boo (s_one H.K q.pe) (pw_and1 q.pt) rfl rfl
      | Or => exact .boo (s_one H.K q.pe) (pw_or1 q.pt) rfl rfl
    · cases h
  | not a iha =>
    intro X W sc es H h
    unfold chk at h
    split at h
    · simp only [Bool.and_eq_true] at h
      obtain ⟨h1, h2⟩ := h
      have q := (iha H h2).one h1
      exact .val ⟨s_not H.K q.pe, t_not H.K q.pt⟩ rfl rfl rfl
    · cases h
  | ifx t a b iht iha ihb =>
    intro X W sc es H h
    unfold chk at h
    split at h
    · simp only [Bool.and_eq_true] at h
      obtain ⟨⟨⟨⟨⟨h1, h2⟩, h3⟩, h4⟩, h5⟩, h6⟩ := h
      have q := (iht H h4).one h1
      have q2 := (iha H h5).one h2
      have q3 := (ihb H h6).one h3
      exact .val ⟨s_if H.K q.pt q2.pe q3.pe, t_ifx q.pt q2.pt q3.pt⟩ rfl rfl rfl
    · cases h
  | tup as ih =>
    intro X W sc es H h
    unfold chk at h
    split at h
    · simp only [Bool.and_eq_true] at h
      obtain ⟨h1, h2⟩ := h
      exact .val (.gen H.K (s_tup H.K ((ih H h2).l h1)) rfl) rfl rfl rfl
    · cases h
  | lst as ih =>
    intro X W sc es H h
    unfold chk at h
    split at h
    · simp only [Bool.and_eq_true] at h
      obtain ⟨h1, h2⟩ := h
      exact .val (.gen H.K (s_lst H.K ((ih H h2).l h1)) rfl) rfl rfl rfl
    · cases h
  | idx a i iha ihi =>
    intro X W sc es H h
    unfold chk at h
    split at h
    · simp only [Bool.and_eq_true] at h
      obtain ⟨⟨⟨⟨h1, h2⟩, h3⟩, h4⟩, h5⟩ := h
      exact .val (.gen H.K (s_idx H.K ((iha H h4).one h1).pe ((ihi H h5).one h2).pe (plain_ix h3)) rfl) rfl rfl rfl
    · cases h
  | slice a lo hi iha ihl ihh =>
    intro X W sc es H h
    unfold chk at h
    split at h
    · rename_i x l hh _ _
      simp only [Bool.and_eq_true] at h
      obtain ⟨⟨⟨⟨⟨h1, h2⟩, h3⟩, h4⟩, h5⟩, h6⟩ := h
      have po : ∀ {c : Xe} {o : Option Expr}, (match o with
          | none => c.isNil
          | some _ => c.isV) = true → chk B c sc (optE o) = true → (∀ {X : Cx} {W : WX} {sc : Scope} {es : List Expr}, Has X T W Φ gl B sc → chk B c sc es = true → COk X T W Φ gl c es) → PO X o (tO T W (partM c.isNil (sem Φ gl c))) := by
        intro c o k1 k2 ih
        cases o with
        | none =>
          have e : partM c.isNil (sem Φ gl c) = fun t => .ok none t := by funext t; unfold partM; rw [if_pos k1]
          rw [e]
          exact o_none H.K
        | some e =>
          have q := (ih H k2).one k1
          have e : partM c.isNil (sem Φ gl c) = fun t => one1 (sem Φ gl c t) partI := by
            funext t
            unfold partM
            rw [if_neg]
            intro z
            cases c <;> first | cases z; done | cases k1
          rw [e]
          exact o_some H.K q.pe
      exact .val (.gen H.K (s_slice H.K ((iha H h2).one h1).pe (po h3 h5 ihl) (po h4 h6 ihh)) rfl) rfl rfl rfl
    · cases h
  | fld o f iho =>
    intro X W sc es H h
    unfold chk at h
    split at h
    · simp only [Bool.and_eq_true] at h
      obtain ⟨⟨h1, h2⟩, h3⟩ := h
      obtain ⟨ob, h4, h5⟩ := isAt_of H h1
      exact .val (.gen H.K (s_fld H.K ob h5 ((iho H h3).one h2).pe (base_of h4)) rfl) rfl rfl rfl
    · cases h
  | fidx o f i iho ihi =>
    intro X W sc es H h
    unfold chk at h
    split at h
    · simp only [Bool.and_eq_true] at h
      obtain ⟨⟨⟨⟨⟨h1, h2⟩, h3⟩, h4⟩, h5⟩, h6⟩ := h
      obtain ⟨ob, h7, h8⟩ := isAt_of H h1
      exact .val (.gen H.K (s_fidx H.K ob h8 ((iho H h5).one h3).pe (base_of h7) ((ihi H h6).one h4).pe (plain_ix h2)) rfl) rfl rfl rfl
    · cases h
  | oidx o f i iho ihi =>
    intro X W sc es H h
    unfold chk at h
    split at h
    · simp only [Bool.and_eq_true] at h
      obtain ⟨⟨⟨⟨h1, h2⟩, h3⟩, h4⟩, h5⟩ := h
      obtain ⟨ob, h7, h8⟩ := isAt_of H h1
      exact .val (.gen H.K (s_oidx H.K ob h8 ((iho H h5).one h3).pe (base_of h7) (chkV_of ob H h4) (plain_ix h2)) rfl) rfl rfl rfl
    · cases h
  | flen o f iho =>
    intro X W sc es H h
    unfold chk at h
    split at h
    · simp only [Bool.and_eq_true, decide_eq_true_eq] at h
      obtain ⟨⟨⟨⟨h1, h2⟩, h3⟩, h4⟩, h5⟩ := h
      subst h1
      obtain ⟨ob, h7, h8⟩ := isAt_of H h3
      exact .val (.gen H.K (s_flen H.K ob (H.bt _ (by decide +kernel)) (isGl_gl H h2).1 h8 ((iho H h5).one h4).pe (base_of h7)) rfl) rfl rfl rfl
    · cases h
  | fcopy o f iho =>
    intro X W sc es H h
    unfold chk at h
    split at h
    · simp only [Bool.and_eq_true, decide_eq_true_eq] at h
      obtain ⟨⟨⟨⟨h1, h2⟩, h3⟩, h4⟩, h5⟩ := h
      subst h1
      obtain ⟨ob, h7, h8⟩ := isAt_of H h3
      exact .val (.gen H.K (s_fcopy H.K ob (H.bt _ (by decide +kernel)) (isGl_gl H h2).1 h8 ((iho H h5).one h4).pe (base_of h7)) rfl) rfl rfl rfl
    · cases h
  | popE a iha =>
    intro X W sc es H h
    unfold chk at h
    split at h
    · simp only [Bool.and_eq_true, decide_eq_true_eq] at h
      obtain ⟨⟨⟨⟨h1, h2⟩, h3⟩, h4⟩, h5⟩ := h
      subst h1
      exact .val (.gen H.K (s_popE H.K ((iha H h5).one h4).pe (base_of h2) h3) rfl) rfl rfl rfl
    · cases h
  | sfl o f iho =>
    intro X W sc es H h
    unfold chk at h
    split at h
    · simp only [Bool.and_eq_true] at h
      obtain ⟨⟨h1, h2⟩, h3⟩ := h
      obtain ⟨ob, h4, h5⟩ := isAt_of H h1
      exact .src (fun tg => i_sfl H.K ob h5 ((iho H h3).one h2).pe (base_of h4)) rfl rfl rfl
    · cases h
  | call f m as ih =>
    intro X W sc es H h
    unfold chk at h
    split at h
    · simp only [Bool.and_eq_true, decide_eq_true_eq] at h
      obtain ⟨⟨h1, h2⟩, h3⟩ := h
      obtain ⟨g1, g2⟩ := isGl_gl H h2
      obtain ⟨k, a, fd, ps, F, hr, hm, hk, hb⟩ := H.fn _ _ h3
      cases as <;> first | (cases h1; done) | skip
      exact .val (.gen H.K (s_call0 H.K (m := m) F hr g1 hm hk hb H.tk g2) rfl) rfl rfl rfl
    · simp only [Bool.and_eq_true] at h
      obtain ⟨⟨⟨⟨h2, h3⟩, h4⟩, h5⟩, h6⟩ := h
      obtain ⟨g1, g2⟩ := isGl_gl H h3
      rw [List.all_cons, Bool.and_eq_true] at h5
      split at h4
      · rename_i y hy
        cases of_decide_eq_true h4
        obtain ⟨k, a, fd, ps, F, hr, hm, hk, hb⟩ := H.fn _ _ hy
        exact .val (.gen H.K (s_callM H.K (m := m) F hr g1 hm hk hb H.tk ((ih H h6).l h2) g2 (star1 h5.1) (starP h5.2)) rfl) rfl rfl rfl
      · rename_i c y hy
        cases of_decide_eq_true h4
        obtain ⟨k, a, fd, ps, φ, eφ, F, hr, M, hm, hb⟩ := H.mks _ _ _ hy
        have q := fun p pos => s_make H.K (m := m) (p := p) (pos := pos) M F hr g1 hm hb H.tk ((ih H h6).l h2) g2 (star1 h5.1) (starP h5.2)
        rw [← eφ] at q
        exact .val (.gen H.K (q _ _) rfl) rfl rfl rfl
      · cases h4
    · cases h
  | meth f c o as iho ih =>
    intro X W sc es H h
    unfold chk at h
    split at h
    · rename_i x y p2 es' p3
      simp only [Bool.and_eq_true, decide_eq_true_eq] at h
      obtain ⟨⟨⟨⟨⟨⟨⟨⟨⟨⟨h1, h2⟩, h3⟩, h4⟩, h5⟩, h6⟩, h7⟩, h8⟩, h9⟩, h10⟩, h11⟩ := h
      obtain ⟨ob, ef⟩ := H.ob h1
      obtain ⟨k, a, fd, ps, F, hr, hm, hb⟩ := H.me _ _ _ h3
      have hy : y ∉ T.fnm := by rw [ef]; exact h4
      cases es' with
      | nil =>
        have e : sem Φ gl (.meth f c o as) = fun s => one1 (sem Φ gl o s) fun x s => match resOf s x with
            | some r => if r.cls = some c then (run (Φ f) true 0 [x] s).bind fun v s => .ok [v] s else .stuck
            | none => .stuck := by
          cases as with
          | nil => rfl
          | cons a r => unfold chk at h11; cases h11
          | _ => cases h9
        refine .val (.gen H.K ?_ rfl) rfl rfl rfl
        rw [e]
        exact s_meth0 H.K ob hy hm F hr hb H.tk ((iho H h10).one h8).pe h2 h5
      | cons e es =>
        have h7' := h7
        rw [List.all_cons, Bool.and_eq_true] at h7
        exact .val (.gen H.K (s_meth H.K ob hy hm F hr hb H.tk ((iho H h10).one h8).pe ((ih H h11).l h9) h2 (meth_few h6 h7') h5 (star1 h7.1) (starP h7.2)) rfl) rfl rfl rfl
    · cases h
  | bf f as ih =>
    intro X W sc es H h
    unfold chk at h
    split at h
    · simp only [Bool.and_eq_true, decide_eq_true_eq] at h
      obtain ⟨⟨⟨⟨h2, h3⟩, h4⟩, h5⟩, h6⟩ := h
      subst h4
      obtain ⟨g1, g2⟩ := isGl_gl H h3
      rw [List.all_cons, Bool.and_eq_true] at h5
      exact .val (.gen H.K (bf_ok H g1 g2 ((ih H h6).l h2) (star1 h5.1) (starP h5.2)) rfl) rfl rfl rfl
    · cases h
  | isi a t ih =>
    intro X W sc es H h
    unfold chk at h
    split at h
    · rename_i x px e y py pos
      simp only [Bool.and_eq_true, Bool.or_eq_true, decide_eq_true_eq] at h
      obtain ⟨⟨⟨⟨⟨⟨h1, h2⟩, h3⟩, h45⟩, h6⟩, h7⟩, h8⟩ := h
      subst h1
      obtain ⟨g1, g2⟩ := isGl_gl H h3
      rcases h45 with (⟨h4, h5⟩ | ⟨h4, h5⟩) | ⟨h4, h5⟩
      · subst h5
        have bt : X.mg (Str.ofString (tyName t)) = none := by
          have ht6 : t = 0 ∨ t = 1 ∨ t = 2 ∨ t = 3 ∨ t = 4 ∨ t = 5 := by omega
          rcases ht6 with rfl | rfl | rfl | rfl | rfl | rfl <;> exact H.bt _ (by decide +kernel)
        refine .val (.gen H.K ?_ rfl) rfl rfl rfl
        refine pe_imp (s_isi H.K (isGl_gl H h2).1 (H.bt _ (by decide +kernel)) g1 bt h4 ((ih H h8).one h7).pe (star1 h6)) fun σ Hh Q hq => ?_
        have e : sem Φ gl (.isi a t) = fun s => one1 (sem Φ gl a s) fun x s => match peek s x with
            | some d => boolO (isiD d t) s
            | none => .stuck := by
          funext s
          show one1 (sem Φ gl a s) (fun x s => boolO (isiV x t s) s) = _
          congr 1
          funext x s
          exact (isi_eq t h4 x s).symm
        rw [e] at hq
        exact hq
      · subst h4
        subst h5
        exact .val (.gen H.K (isx_rd H.K H.xs (isGl_gl H h2).1 (H.bt _ (by decide +kernel)) (pe_bltn g1 (H.bt _ (by decide +kernel)) (by decide +kernel) (show RelV (.ty "ValueError") _ from rfl) (by decide) g2) (.ty "ValueError") (fun n k q => by
          have : k = true := by simpa [isiX] using q.symm
          subst this
          exact H.xs.val n) (by decide) ((ih H h8).one h7).pe (star1 h6) (by rfl)) rfl) rfl rfl rfl
      · obtain ⟨_, xc⟩ := H.xc _ _ h5
        exact .val (.gen H.K (isx_rd H.K H.xs (isGl_gl H h2).1 (H.bt _ (by decide +kernel)) (pe_glob g1 xc.mg (show RelV (.ref _) _ from rfl) g2) (.own _) (fun n k q => by
          have e : k = subX n (t - 10) := by
            unfold isiX at q
            rw [if_neg (by omega), if_pos h4] at q
            cases q
            unfold subX
            congr 1 <;> (rw [Bool.eq_iff_iff]; simp; omega)
          rw [e]
          exact xc.kit n) (by omega) ((ih H h8).one h7).pe (star1 h6) (by rfl)) rfl) rfl rfl rfl
    · cases h
  | sset a ih =>
    intro X W sc es H h
    unfold chk at h
    split at h
    · simp only [Bool.and_eq_true, decide_eq_true_eq] at h
      obtain ⟨⟨⟨⟨⟨⟨h1, h2⟩, h3⟩, h4⟩, h5⟩, h6⟩, h7⟩ := h
      subst h1
      subst h3
      exact .val (.gen H.K (s_sset H.K H.calm (isGl_gl H h2).1 (H.bt _ (by decide +kernel)) (isGl_gl H h4).1 (H.bt _ (by decide +kernel)) ((ih H h7).one h6).pe (star1 h5)) rfl) rfl rfl rfl
    · cases h
  | rng1 t a ih =>
    intro X W sc es H h
    unfold chk at h
    split at h
    · simp only [Bool.and_eq_true, decide_eq_true_eq] at h
      obtain ⟨⟨⟨⟨⟨⟨h1, h2⟩, h3⟩, h4⟩, h5⟩, h6⟩, h7⟩ := h
      subst h1
      subst h3
      exact .val (.gen H.K (s_rng1 H.K H.calm (by cases t <;> rfl) (isGl_gl H h2).1 (H.bt _ (by cases t <;> decide +kernel)) (isGl_gl H h4).1 (H.bt _ (by decide +kernel)) ((ih H h7).one h6).pe (star1 h5)) rfl) rfl rfl rfl
    · cases h
  | rng2 t a b iha ihb =>
    intro X W sc es H h
    unfold chk at h
    split at h
    · simp only [Bool.and_eq_true, decide_eq_true_eq] at h
      obtain ⟨⟨⟨⟨⟨⟨⟨⟨⟨h1, h2⟩, h3⟩, h4⟩, h5⟩, h5'⟩, h6⟩, h6'⟩, h7⟩, h7'⟩ := h
      subst h1
      subst h3
      exact .val (.gen H.K (s_rng2 H.K H.calm (by cases t <;> rfl) (isGl_gl H h2).1 (H.bt _ (by cases t <;> decide +kernel)) (isGl_gl H h4).1 (H.bt _ (by decide +kernel)) ((iha H h7).one h6).pe ((ihb H h7').one h6').pe (star1 h5) (star1 h5')) rfl) rfl rfl rfl
    · cases h
  | mt k a as iha ih =>
    intro X W sc es H h
    unfold chk at h
    split at h
    · simp only [Bool.and_eq_true, decide_eq_true_eq] at h
      obtain ⟨⟨⟨⟨⟨⟨⟨h1, h2⟩, h3⟩, h4⟩, h5⟩, h6⟩, h7⟩, h8⟩ := h
      exact .val (.gen H.K (s_mt H.K h1 ((iha H h7).one h5).pe ((ih H h8).l h6) (base_c h2) h3 (star1 h4)) rfl) rfl rfl rfl
    · cases h
  | dget a k d iha ihk ihd =>
    intro X W sc es H h
    unfold chk at h
    split at h
    · simp only [Bool.and_eq_true, decide_eq_true_eq] at h
      obtain ⟨⟨⟨⟨⟨⟨⟨⟨⟨⟨⟨⟨h1, h2⟩, h3⟩, h4⟩, h5⟩, h6⟩, h7⟩, h8⟩, h9⟩, h10⟩, h11⟩, h12⟩, h13⟩ := h
      subst h1
      subst h3
      have e2 : starEach [_] X.env = _ := star1 (es := []) (env := X.env) h7
      exact .val (.gen H.K (s_dget H.K (by have := H.un; omega) H.calm (isGl_gl H h2).1 (H.bt _ (by decide +kernel)) ((iha H h11).one h8).pe ((ihk H h12).one h9).pe ((ihd H h13).one h10).pe (star1 h5) (by rw [star1 h6, e2]; rfl) h4) rfl) rfl rfl rfl
    · cases h
  | pop i =>
    intro X W sc es H h
    unfold chk at h
    split at h
    · simp only [Bool.and_eq_true, decide_eq_true_eq] at h
      obtain ⟨⟨h1, h2⟩, h5⟩ := h
      subst h1
      obtain ⟨h1, h2, h3, h4⟩ := isVar_vis H h2
      exact .val (.gen H.K (s_pop H.K h1 h2 h3 h4 h5) rfl) rfl rfl rfl
    · cases h
  | sseq a ih =>
    intro X W sc es H h
    unfold chk at h
    split at h
    · simp only [Bool.and_eq_true] at h
      exact .src (fun tg => i_seq H.K ((ih H h.2).one h.1).pe) rfl rfl rfl
    · cases h
  | sstr a ih =>
    intro X W sc es H h
    unfold chk at h
    split at h
    · simp only [Bool.and_eq_true] at h
      exact .src (fun tg => i_str H.K ((ih H h.2).one h.1).pe) rfl rfl rfl
    · cases h
  | srng1 a ih =>
    intro X W sc es H h
    unfold chk at h
    split at h
    · simp only [Bool.and_eq_true, decide_eq_true_eq] at h
      obtain ⟨⟨⟨⟨h1, h2⟩, h3⟩, h4⟩, h5⟩ := h
      subst h1
      exact .src (fun tg => i_rng1 H.K (H.bt _ (by decide +kernel)) (isGl_gl H h2).1 ((ih H h5).one h4).pe (star1 h3)) rfl rfl rfl
    · cases h
  | srng2 a b iha ihb =>
    intro X W sc es H h
    unfold chk at h
    split at h
    · simp only [Bool.and_eq_true, decide_eq_true_eq] at h
      obtain ⟨⟨⟨⟨⟨⟨⟨h1, h2⟩, h3⟩, h3'⟩, h4⟩, h4'⟩, h5⟩, h5'⟩ := h
      subst h1
      have e2 := star1 (es := []) (env := X.env) h3'
      exact .src (fun tg => i_rng2 H.K (H.bt _ (by decide +kernel)) (isGl_gl H h2).1 ((iha H h5).one h4).pe ((ihb H h5').one h4').pe (by rw [star1 h3, e2]; rfl) e2) rfl rfl rfl
    · cases h
  | comp src tg own cond elt ihs ihc ihe =>
    intro X W sc es H h
    unfold chk at h
    split at h
    · rename_i x tge it ifs n scope pos
      have h' : chk B (.comp src tg own cond elt) sc [.ListComp x [⟨tge, it, ifs, n⟩] scope pos] = true := by unfold chk; exact h
      obtain ⟨h0, q⟩ := comp_parts T Φ gl B ihs ihc ihe H h'
      subst h0
      refine .val (.gen H.K ?_ rfl) rfl rfl rfl
      have r := s_comp (W := W) (pos := pos) H.K q.sub H.calm q.nd q.hi q.ok q.hg q.ht q.he q.hs
      rw [ownp_ix] at r
      exact r
    · cases h
end
end BC

/-! BChs: the check of statements. -/
namespace BC
open PySem L2
def isTgK (B : Tb) (sc : Scope) : Tg → Expr → Bool
  | .name i, .Name x _ => isTg B sc (fun _ => true) i x
  | .names is, .Tuple es _ _ => isTgs B sc (fun _ => true) is es
  | .namesL is, .Tuple es _ _ => isTgs B sc (fun _ => true) is es
  | _, _ => false
def isComp : Xe → Bool
  | .comp .. => true
  | _ => false
def compSw (B : Tb) (sc : Scope) (i : Nat) (tg e : Expr) : Bool := match tg, e with
  | .Name y py, .ListComp _ _ scope pos => decide (B.N[i]? = some y) && decide (sc.names.lookup y = some .local) && (py.line == pos.line) && !(scope.names.any fun (n, k) => n == y && (k == .local || k == .cell))
  | _, _ => false
def cellSw (sc : Scope) (tg e : Expr) : Bool := match tg, e with
  | .Name y _, .ListComp .. => decide (sc.names.lookup y = some .cell)
  | _, _ => false
def isAts (B : Tb) (sc : Scope) (i : Nat) : List Nat → List Expr → Bool
  | [], [] => true
  | f :: fs, .Attribute (.Name x _) y _ :: es => isVar B sc i x && decide (B.fnm[f]? = some y) && isAts B sc i fs es
  | _, _ => false
/-- a written constant, and what it is -/
def cstV : PyData → Option V
  | .none => some .non
  | .bool b => some (.bl b)
  | .int i => some (.int i)
  | .str z => some (.str z)
  | _ => none
def isCst (d : PyData) : Expr → Bool
  | .Constant c _ _ => cstOk d c
  | _ => false
def isLoc (sc : Scope) (x : Str) : Bool := decide (sc.names.lookup x = some .local) && !(x == ("__debug__" : Str)) && !(x == ("__classdict__" : Str))
def Cd.isQ : Cd → Bool
  | .nil | .seq .. | .unk => true
  | _ => false
def chkS (B : Tb) (sc : Scope) : Cd → List Stmt → Bool
  | .unk, _ => true
  | .nil, ss => match ss with
    | [] => true
    | _ => false
  | .seq a b, ss => match ss with
    | s :: ss => !a.isQ && b.isQ && chkS B sc a [s] && chkS B sc b ss
    | _ => false
  | .pass, ss => match ss with
    | [.Pass _] => true
    | _ => false
  | .brk, ss => match ss with
    | [.Break _] => true
    | _ => false
  | .cont, ss => match ss with
    | [.Continue _] => true
    | _ => false
  | .retN, ss => match ss with
    | [.Return none _] => true
    | _ => false
  | .ret e, ss => match ss with
    | [.Return (some x) _] => e.isV && chk B e sc [x]
    | _ => false
  | .drop e, ss => match ss with
    | [.Expr x _] => e.isV && notComp x && chk B e sc [x]
    | _ => false
  | .asg t e, ss => match ss with
    | [.Assign [tg] x _] => e.isV && chk B e sc [x] && (match t with
        | .name i => (isTgK B sc t tg && (notComp x || cellSw sc tg x)) || (compSw B sc i tg x && isComp e)
        | _ => isTgK B sc t tg && notComp x && notTup x)
    | _ => false
  | .newL i as, ss => match ss with
    | [.Assign [.Name x _] (.List es _) _] => isTg B sc (fun _ => true) i x && as.isL && chk B as sc es
    | _ => false
  | .newR i a n, ss => match ss with
    | [.Assign [.Name x _] (.BinOp (.List [e1] _) .Mult e2 _) _] => isTg B sc (fun _ => true) i x && a.isV && n.isV && notStar e1 && chk B a sc [e1] && chk B n sc [e2]
    | _ => false
  | .app i e, ss => match ss with
    | [.Expr (.Call (.Attribute (.Name x _) m p2) [y] [] p3) _] => decide (m = ("append" : Str)) && isVar B sc i x && (p2.endLine == p3.line) && notStar y && e.isV && chk B e sc [y]
    | _ => false
  | .ext i e, ss => match ss with
    | [.Expr (.Call (.Attribute (.Name x _) m p2) [y] [] p3) _] => decide (m = ("extend" : Str)) && isVar B sc i x && (p2.endLine == p3.line) && notStar y && e.isV && chk B e sc [y]
    | _ => false
  | .set i j e, ss => match ss with
    | [.Assign [.Subscript (.Name x _) (.Name y pj) _] z _] => isVar B sc i x && j.isV && e.isV && notComp z && notTup z && chk B j sc [.Name y pj] && chk B e sc [z]
    | _ => false
  | .ite c a b, ss => match ss with
    | [.If x s t _] => c.isV && a.isQ && b.isQ && chk B c sc [x] && chkS B sc a s && chkS B sc b t
    | _ => false
  | .for_ t src body, ss => match ss with
    | [.For tg it s [] _] => src.isS && body.isQ && notSet it && isTgK B sc t tg && chk B src sc [it] && chkS B sc body s
    | _ => false
  | .whl n c body, ss => match ss with
    | [.While x s [] _] => c.isV && body.isQ && chk B c sc [x] && chkS B sc body s
    | _ => false
  | .raise c, ss => match ss with
    | [.Raise (some (.Call (.Name x _) [.Constant (.str _) _ _] [] _)) none _] => isGl sc x && decide (B.xc[c]? = some (some x))
    | _ => false
  | .par i j a b, ss => match ss with
    | [.Assign [.Tuple [.Name x px, .Name y py] _ _] (.Tuple [e1, e2] _ _) _] => decide (B.N[i]? = some x) && decide (B.N[j]? = some y) && isLoc sc x && isLoc sc y && decide (i ≠ j) && decide (x ≠ y) && (py.line == px.line) && notStar e1 && notStar e2 && !(foldedForSure 8 e1 && foldedForSure 8 e2) && !(constantsAlone 8 e1 && constantsAlone 8 e2) && a.isV && b.isV && chk B a sc [e1] && chk B b sc [e2]
    | _ => false
  | .newC i a b, ss => match ss with
    | [.Assign [.Name x _] (.BinOp e1 .Add e2 _) _] => isTg B sc (fun _ => true) i x && a.isV && b.isV && chk B a sc [e1] && chk B b sc [e2]
    | _ => false
  | .setf o f e, ss => match ss with
    | [.Assign [.Attribute x y _] z _] => isAt B f x y && o.isV && e.isV && chk B o sc [x] && chk B e sc [z]
    | _ => false
  | .setfs i fs e, ss => match ss with
    | [.Assign [.Tuple es _ _] z _] => B.ob && isAts B sc i fs es && !es.isEmpty && notComp z && (match es with
        | .Attribute (.Name x _) _ _ :: _ => isVar B sc i x
        | _ => false) && e.isV && chk B e sc [z]
    | _ => false
  | .newB o f, ss => match ss with
    | [.Assign [.Attribute x y _] (.List [] _) _] => isAt B f x y && o.isV && chk B o sc [x]
    | _ => false
  | .newFR o f a n, ss => match ss with
    | [.Assign [.Attribute x y _] (.BinOp (.List [e1] _) .Mult e2 _) _] => isAt B f x y && notStar e1 && o.isV && a.isV && n.isV && chk B o sc [x] && chk B a sc [e1] && chk B n sc [e2]
    | _ => false
  | .newFC o f src tg own elt, ss => match ss with
    | [.Assign [.Attribute x y _] (.ListComp z [⟨tge, it, [], n⟩] scope pos) _] => isAt B f x y && o.isV && chk B o sc [x] && chk B (.comp src tg own .nil elt) sc [.ListComp z [⟨tge, it, [], n⟩] scope pos]
    | _ => false
  | .newFO o f e, ss => match ss with
    | [.Assign [.Attribute x y _] (.Call (.Name n _) [z] [] _) _] => isAt B f x y && decide (n = ("list" : Str)) && isGl sc n && notStar z && o.isV && e.isV && chk B o sc [x] && chk B e sc [z]
    | _ => false
  | .appE a e, ss => match ss with
    | [.Expr (.Call (.Attribute x m p2) [y] [] p3) _] => decide (m = ("append" : Str)) && objE x && (p2.endLine == p3.line) && notStar y && a.isV && e.isV && chk B a sc [x] && chk B e sc [y]
    | _ => false
  | .fset o f i e, ss => match ss with
    | [.Assign [.Subscript (.Attribute x y _) z _] v _] => isAt B f x y && isPlain z && notComp v && notTup v && o.isV && e.isV && chkV B sc i z && chk B o sc [x] && chk B e sc [v]
    | _ => false
  | .tryA c i j body, ss => match ss with
    | [.Try s [.ExceptHandler (some (.Name x _)) (some n) [.Assign [.Name y _] (.Name n' _) _] _] [] [] _] => decide (B.xc[c]? = some (some x)) && isGl sc x && decide (B.N[i]? = some n) && decide (B.N[j]? = some y) && isLoc sc n && isLoc sc y && decide (i ≠ j) && decide (n' = n) && body.isQ && chkS B sc body s
    | _ => false
  | .tryR c body d, ss => match ss with
    | [.Try s [.ExceptHandler (some (.Name x _)) none [.Return (some e) _] _] [] [] _] => decide (B.xc[c]? = some (some x)) && isGl sc x && isCst d e && body.isQ && chkS B sc body s
    | _ => false
  | .tryS c body i d, ss => match ss with
    | [.Try s [.ExceptHandler (some (.Name x _)) none [.Assign [.Name y _] e _] _] [] [] _] => decide (B.xc[c]? = some (some x)) && isGl sc x && decide (B.N[i]? = some y) && isLoc sc y && isCst d e && body.isQ && chkS B sc body s
    | _ => false
structure HasS (X : Cx) (T : Tn) (W : WX) (Φ : Tbl) (gl : Nat → PyData) (B : Tb) (sc : Scope) : Prop extends Has X T W Φ gl B sc where
  po : PassesOwn (model X.prog X.w) X.A X.env X.xe
  fnc : ∀ x, X.fn x = true
  kind : X.env.scope.kind = ScopeKind.function
  stk : X.stack = X.env :: X.outer
  frm : X.env.frame = some X.env.locals
  nex : X.ex = []
section
variable {X : Cx} {T : Tn} {W : WX} {Φ : Tbl} {gl : Nat → PyData} {B : Tb} {sc : Scope}
theorem isTgK_pg {t : Tg} {e : Expr} (H : HasS X T W Φ gl B sc) (h : isTgK B sc t e = true) : PG X e (gT T t) := by
  have nd : X.N.Nodup := by rw [H.N]; exact H.nd
  unfold isTgK at h
  split at h
  · exact g_name H.K nd (isTg_nm H.N H.sc (fun x _ => H.fnc x) h)
  · exact g_names H.K H.calm nd (isTgs_nms H.N H.sc (fun x _ => H.fnc x) h)
  · exact g_namesL H.K H.calm nd (isTgs_nms H.N H.sc (fun x _ => H.fnc x) h)
  · cases h
theorem sw_false {e : Expr} {t : Option Expr} {l : Nat} {env : Env} (h : notComp e = true) : swapsWith e t l env = pure false := by
  cases e <;> first | rfl | cases h
theorem sw_cell {y : Str} {py : Pos} {e : Expr} {l : Nat} {env : Env} (h : cellSw env.scope (.Name y py) e = true) : swapsWith e (some (.Name y py)) l env = pure false := by
  cases e <;> first | (cases h; done) | skip
  have ky : env.kindOf y = some .cell := of_decide_eq_true h
  unfold swapsWith
  simp only [ky, Expr.pos]
  simp [show (NameKind.cell == NameKind.local) = false from rfl]
theorem sole_false {tg e : Expr} {l : Nat} {env : Env} (h : notComp e = true) : swapsWithSole [tg] e l env = pure false := by
  unfold swapsWithSole
  exact sw_false h
theorem store_none {tg e : Expr} {env : Env} (h : notTup e = true) : swappedStores [tg] e env = pure none := by
  cases e <;> first | (cases h; done) | (cases tg <;> rfl)
structure SOk (X : Cx) (T : Tn) (W : WX) (Φ : Tbl) (gl : Nat → PyData) (c : Cd) (ss : List Stmt) : Prop where
  q : c.isQ = true → PSs X ss (tS T W (semS Φ gl c))
  s : c.isQ = false → ∃ s, ss = [s] ∧ PS X s (tS T W (semS Φ gl c))
theorem SOk.one {c : Cd} {s : Stmt} (h : SOk X T W Φ gl c [s]) (hq : c.isQ = false) : PS X s (tS T W (semS Φ gl c)) := by
  obtain ⟨s', q, h⟩ := h.s hq
  cases q
  exact h
theorem SOk.st {c : Cd} {s : Stmt} (h : PS X s (tS T W (semS Φ gl c))) (hq : c.isQ = false) : SOk X T W Φ gl c [s] := ⟨noB hq, fun _ => ⟨s, rfl, h⟩⟩
theorem SOk.qs {c : Cd} {s : List Stmt} (h : PSs X s (tS T W (semS Φ gl c))) (hq : c.isQ = true) : SOk X T W Φ gl c s := ⟨fun _ => h, fun z => by rw [hq] at z; cases z⟩
theorem star_no {a : Expr} (h : notStar a = true) : (match a with
    | .Starred .. => true
    | _ => false) = false := by cases a <;> first | rfl | cases h
theorem swap2 {x y : Str} {px py pt pt2 : Pos} {a b : Expr} {kt k2 : Nat} {env : Env} (hk : env.blockKind = .function) (hx : env.kindOf x = some .local) (hy : env.kindOf y = some .local) (hl : (py.line == px.line) = true) (hxy : x ≠ y) (ha : notStar a = true) (hb : notStar b = true)
    (hf : (foldedForSure 8 a && foldedForSure 8 b) = false) (hc : (constantsAlone 8 a && constantsAlone 8 b) = false) : swappedStores [.Tuple [.Name x px, .Name y py] kt pt] (.Tuple [a, b] k2 pt2) env = pure (some [x, y]) := by
  unfold swappedStores
  dsimp only
  generalize hfm : List.filterMap _ [Expr.Name x px, Expr.Name y py] = nm
  have e1 : nm = [x, y] := by
    rw [← hfm]
    have l1 : (py.line == (Expr.Name x px).pos.line) = true := hl
    have l0 : (px.line == (Expr.Name x px).pos.line) = true := by show (px.line == px.line) = true; simp
    simp [List.filterMap, hx, hy, l1, l0]
  have e2 : ([x, y] : List Str).eraseDups.length = 2 := by
    simp [List.eraseDups, List.eraseDupsBy, List.eraseDupsBy.loop, beq_false_of_ne (Ne.symm hxy)]
  rw [e1, if_neg (by simp [hk]), if_neg (by cases a <;> first | (cases ha; done) | (cases b <;> first | (cases hb; done) | simp)), if_neg (by rw [e2]; simp), if_neg (by simp only [List.all_cons, List.all_nil, Bool.and_true]; rw [hf]; simp), if_neg (by simp only [List.all_cons, List.all_nil, Bool.and_true]; rw [hc]; simp)]
theorem ats_store {es : List Expr} {e : Expr} {k : Nat} {pt : Pos} {env : Env} (h : ∀ t ∈ es, ∃ o y p, t = .Attribute o y p) (h0 : es ≠ []) : swappedStores [.Tuple es k pt] e env = pure none := by
  cases e <;> first | rfl | skip
  unfold swappedStores
  dsimp only
  split
  · rfl
  · split
    · rfl
    · rw [if_pos]
      rw [Bool.or_eq_true]
      refine .inl ?_
      generalize hfm : List.filterMap _ es = nm
      have e1 : nm = [] := by
        rw [← hfm, List.filterMap_eq_nil_iff]
        intro t ht
        obtain ⟨o, y, p, rfl⟩ := h t ht
        rfl
      rw [e1]
      cases es with
      | nil => exact absurd rfl h0
      | cons _ _ => rfl

theorem isLoc_of {x : Str} (hs : X.env.scope = sc) (h : isLoc sc x = true) : X.env.kindOf x = some .local ∧ (x == ("__debug__" : Str)) = false ∧ (x == ("__classdict__" : Str)) = false := by
  unfold isLoc at h
  simp only [Bool.and_eq_true, decide_eq_true_eq, Bool.not_eq_true'] at h
  exact ⟨by show X.env.scope.names.lookup x = _; rw [hs]; exact h.1.1, h.1.2, h.2⟩
theorem isAts_of {i : Nat} {x : Str} (H : Has X T W Φ gl B sc) (hB : T.fnm = B.fnm) (hx : X.N[i]? = some x) : ∀ {fs : List Nat} {es : List Expr}, isAts B sc i fs es = true → Ats X T i x fs es ∧ (∀ f ∈ fs, ∃ y, T.fnm[f]? = some y) ∧ ∀ t ∈ es, ∃ o y p, t = .Attribute o y p
  | [], [], _ => ⟨.nil, fun _ h => (by cases h), fun _ h => (by cases h)⟩
  | f :: fs, .Attribute (.Name z p) y q :: es, h => by
    unfold isAts at h
    simp only [Bool.and_eq_true, decide_eq_true_eq] at h
    obtain ⟨⟨h1, h2⟩, h3⟩ := h
    obtain ⟨g1, _⟩ := isVar_vis H h1
    rw [hx] at g1
    cases g1
    obtain ⟨k1, k2, k3⟩ := isAts_of H hB hx h3
    have e : T.fnm[f]? = some y := by rw [hB]; exact h2
    refine ⟨.cons e k1, fun g hg => ?_, fun t ht => ?_⟩
    · rcases List.mem_cons.mp hg with rfl | hg
      · exact ⟨y, e⟩
      · exact k2 g hg
    · rcases List.mem_cons.mp ht with rfl | ht
      · exact ⟨_, _, _, rfl⟩
      · exact k3 t ht
theorem isCst_of {d : PyData} {e : Expr} (h : isCst d e = true) : ∃ v, (∀ F, Dx T.K F v d) ∧ (∀ Y : Cx, PE Y e (tC v)) ∧ ∀ (t : Option Expr) (l : Nat) (env : Env), swapsWith e t l env = pure false := by
  unfold isCst at h
  split at h
  · unfold cstOk at h
    split at h
    · cases of_decide_eq_true h; exact ⟨_, fun F => .int _, fun Y => pe_int, fun _ _ _ => rfl⟩
    · cases of_decide_eq_true h; exact ⟨_, fun F => .bl _, fun Y => pe_bl, fun _ _ _ => rfl⟩
    · exact ⟨_, fun F => .non, fun Y => pe_non, fun _ _ _ => rfl⟩
    · cases of_decide_eq_true h; exact ⟨_, fun F => .str _, fun Y => pe_str, fun _ _ _ => rfl⟩
    · cases h
  · cases h
theorem try_has (H : HasS X T W Φ gl B sc) {W' : WX} {pn : List (Addr × Obj)} {xe : Value → Shared → Prop} (tk : Takes (X.tr pn xe) W') (po : PassesOwn (model X.prog X.w) X.A X.env xe) : HasS (X.tr pn xe) T W' Φ gl B sc where
  K := H.K
  N := H.N
  nd := H.nd
  sc := H.sc
  calm := H.calm
  un := H.un
  tk := tk
  fn := H.fn
  me := H.me
  mks := H.mks
  gl := H.gl
  xc := fun c x h => let q := H.xc c x h; ⟨⟨q.1.mg, q.1.ex, q.1.kp, q.1.sub, q.1.ty⟩, ⟨q.2.mg, q.2.kit, q.2.exm⟩⟩
  xs := ⟨H.xs.exc, H.xs.val⟩
  ob := fun h => let q := H.ob h; ⟨⟨q.1.cls, q.1.na, q.1.nd⟩, q.2⟩
  bt := H.bt
  po := po
  fnc := H.fnc
  kind := H.kind
  stk := H.stk
  frm := H.frm
  nex := H.nex
variable (T Φ gl B)
theorem chkS_ok : ∀ (c : Cd) {X : Cx} {W : WX} {sc : Scope} {ss : List Stmt}, HasS X T W Φ gl B sc → chkS B sc c ss = true → SOk X T W Φ gl c ss := by
  intro c
  induction c with
  | unk =>
    intro X W sc ss H h
    exact .qs ⟨fun _ _ _ _ _ _ ⟨_, _, _, z⟩ => z.elim⟩ rfl
  | nil =>
    intro X W sc ss H h
    unfold chkS at h
    split at h
    · exact .qs (ss_nil H.K) rfl
    · cases h
  | seq a b iha ihb =>
    intro X W sc ss H h
    unfold chkS at h
    split at h
    · simp only [Bool.and_eq_true, Bool.not_eq_true'] at h
      obtain ⟨⟨⟨h1, h2⟩, h3⟩, h4⟩ := h
      exact .qs (ss_cons H.K ((iha H h3).one h1) ((ihb H h4).q h2)) rfl
    · cases h
  | pass =>
    intro X W sc ss H h
    unfold chkS at h
    split at h
    · exact .st (st_pass H.K) rfl
    · cases h
  | brk =>
    intro X W sc ss H h
    unfold chkS at h
    split at h
    · exact .st (st_brk H.K) rfl
    · cases h
  | cont =>
    intro X W sc ss H h
    unfold chkS at h
    split at h
    · exact .st (st_cont H.K) rfl
    · cases h
  | retN =>
    intro X W sc ss H h
    unfold chkS at h
    split at h
    · exact .st (st_retN H.K) rfl
    · cases h
  | ret e =>
    intro X W sc ss H h
    unfold chkS at h
    split at h
    · simp only [Bool.and_eq_true] at h
      obtain ⟨h1, h2⟩ := h
      exact .st (st_ret H.K ((chk_ok T Φ gl B e H.toHas h2).one h1).pe) rfl
    · cases h
  | drop e =>
    intro X W sc ss H h
    unfold chkS at h
    split at h
    · simp only [Bool.and_eq_true] at h
      obtain ⟨⟨h1, h3⟩, h2⟩ := h
      exact .st (st_drop H.K ((chk_ok T Φ gl B e H.toHas h2).one h1).pe (sw_false h3)) rfl
    · cases h
  | asg t e =>
    intro X W sc ss H h
    unfold chkS at h
    split at h
    · rename_i tg x pos
      simp only [Bool.and_eq_true] at h
      obtain ⟨⟨h1, h2⟩, h3⟩ := h
      have he := ((chk_ok T Φ gl B e H.toHas h2).one h1).pe
      have h1t : isTgK B sc t tg = true → (assignEach [tg] X.env).map (·.2) = [assign tg X.env] := fun z => by
        unfold isTgK at z
        split at z <;> first | rfl | cases z
      split at h3
      · rename_i i
        rw [Bool.or_eq_true] at h3
        rcases h3 with h3 | h3
        · rw [Bool.and_eq_true] at h3
          obtain ⟨h3, h4⟩ := h3
          rw [Bool.or_eq_true] at h4
          cases tg with
          | Name y py => exact .st (st_set H.K (by rw [H.N]; exact H.nd) (isTg_nm H.N H.sc (fun x _ => H.fnc x) (show isTg B sc (fun _ => true) i y = true from h3)) he (h4.elim sw_false fun h4 => sw_cell (py := py) (by rw [H.sc]; exact h4))) rfl
          | _ => cases h3
        · rw [Bool.and_eq_true] at h3
          obtain ⟨h3, h4⟩ := h3
          cases e with
          | comp src tgs own cond elt =>
            unfold compSw at h3
            split at h3
            · rename_i y py elt' gs scope cpos
              simp only [Bool.and_eq_true, decide_eq_true_eq, Bool.not_eq_true'] at h3
              obtain ⟨⟨⟨c1, c2⟩, c3⟩, c4⟩ := h3
              have hg : ∃ tge it ifs n, gs = [⟨tge, it, ifs, n⟩] := by
                unfold chk at h2
                split at h2
                · rename_i e'; cases e'; exact ⟨_, _, _, _, rfl⟩
                · cases h2
              obtain ⟨tge, it, ifs, n, rfl⟩ := hg
              obtain ⟨h0, q⟩ := comp_parts T Φ gl B (fun {X W sc es} => chk_ok T Φ gl B src) (fun {X W sc es} => chk_ok T Φ gl B cond) (fun {X W sc es} => chk_ok T Φ gl B elt) H.toHas h2
              subst h0
              have hy : X.env.scope.names.lookup y = some .local := by rw [H.sc]; exact c2
              have r := st_comp (W := W) (spos := pos) (py := py) (pos := cpos) H.K q.sub H.calm q.nd (by rw [H.N]; exact c1) hy (sw_true H.kind hy c3 c4) q.hi q.ok q.hg q.ht q.he q.hs
              rw [ownp_ix] at r
              exact .st r rfl
            · cases h3
          | _ => cases h4
      · simp only [Bool.and_eq_true] at h3
        obtain ⟨⟨h3, h4⟩, h5⟩ := h3
        exact .st (st_asg H.K he (isTgK_pg H h3) (sw_false h4) (store_none h5) (h1t h3)) rfl
    · cases h
  | newL i as =>
    intro X W sc ss H h
    unfold chkS at h
    split at h
    · simp only [Bool.and_eq_true] at h
      obtain ⟨⟨h1, h2⟩, h3⟩ := h
      exact .st (st_newL H.K (by rw [H.N]; exact H.nd) (isTg_nm H.N H.sc (fun x _ => H.fnc x) h1) ((chk_ok T Φ gl B as H.toHas h3).l h2)) rfl
    · cases h
  | newR i a n =>
    intro X W sc ss H h
    unfold chkS at h
    split at h
    · simp only [Bool.and_eq_true] at h
      obtain ⟨⟨⟨⟨⟨h1, h2⟩, h3⟩, h4⟩, h5⟩, h6⟩ := h
      refine .st (ps_imp (st_newR H.K (by rw [H.N]; exact H.nd) (isTg_nm H.N H.sc (fun x _ => H.fnc x) h1) ((chk_ok T Φ gl B a H.toHas h5).one h2).pe ((chk_ok T Φ gl B n H.toHas h6).one h3).pe (star1 h4)) fun D σ Hh q => ?_) rfl
      exact q
    · cases h
  | app i e =>
    intro X W sc ss H h
    unfold chkS at h
    split at h
    · simp only [Bool.and_eq_true, decide_eq_true_eq] at h
      obtain ⟨⟨⟨⟨⟨h1, h2⟩, h3⟩, h4⟩, h5⟩, h6⟩ := h
      subst h1
      obtain ⟨k1, k2, k3, k4⟩ := isVar_vis H.toHas h2
      exact .st (st_app H.K k1 k2 k3 k4 ((chk_ok T Φ gl B e H.toHas h6).one h5).pe h3 (star1 h4)) rfl
    · cases h
  | ext i e =>
    intro X W sc ss H h
    unfold chkS at h
    split at h
    · simp only [Bool.and_eq_true, decide_eq_true_eq] at h
      obtain ⟨⟨⟨⟨⟨h1, h2⟩, h3⟩, h4⟩, h5⟩, h6⟩ := h
      subst h1
      obtain ⟨k1, k2, k3, k4⟩ := isVar_vis H.toHas h2
      exact .st (st_ext H.K k1 k2 k3 k4 ((chk_ok T Φ gl B e H.toHas h6).one h5).pe h3 (star1 h4)) rfl
    · cases h
  | set i j e =>
    intro X W sc ss H h
    unfold chkS at h
    split at h
    · simp only [Bool.and_eq_true, decide_eq_true_eq] at h
      obtain ⟨⟨⟨⟨⟨⟨h1, h2⟩, h3⟩, h4⟩, h5⟩, h6⟩, h7⟩ := h
      obtain ⟨k1, k2, k3, k4⟩ := isVar_vis H.toHas h1
      exact .st (st_setI H.K k1 k2 k3 k4 ((chk_ok T Φ gl B e H.toHas h7).one h3).pe ((chk_ok T Φ gl B j H.toHas h6).one h2).pe (sole_false h4) (store_none h5)) rfl
    · cases h
  | ite c a b iha ihb =>
    intro X W sc ss H h
    unfold chkS at h
    split at h
    · simp only [Bool.and_eq_true] at h
      obtain ⟨⟨⟨⟨⟨h1, h2⟩, h3⟩, h4⟩, h5⟩, h6⟩ := h
      exact .st (st_if H.K ((chk_ok T Φ gl B c H.toHas h4).one h1).pt ((iha H h5).q h2) ((ihb H h6).q h3)) rfl
    · cases h
  | for_ t src body ih =>
    intro X W sc ss H h
    unfold chkS at h
    split at h
    · simp only [Bool.and_eq_true] at h
      obtain ⟨⟨⟨⟨⟨h1, h2⟩, h3⟩, h4⟩, h5⟩, h6⟩ := h
      exact .st (st_for H.K H.po H.calm ((chk_ok T Φ gl B src H.toHas h5).sr h1 _) (isTgK_pg H h4) ((ih H h6).q h2) (set_not h3)) rfl
    · cases h
  | whl n c body ih =>
    intro X W sc ss H h
    unfold chkS at h
    split at h
    · simp only [Bool.and_eq_true] at h
      obtain ⟨⟨⟨h1, h2⟩, h3⟩, h4⟩ := h
      exact .st (st_while H.K H.po ((chk_ok T Φ gl B c H.toHas h3).one h1).pt ((ih H h4).q h2)) rfl
    · cases h
  | raise c =>
    intro X W sc ss H h
    unfold chkS at h
    split at h
    · simp only [Bool.and_eq_true, decide_eq_true_eq] at h
      obtain ⟨h1, h2⟩ := h
      obtain ⟨g1, g2⟩ := isGl_gl H.toHas h1
      exact .st (st_raise H.K H.calm H.tk (H.xc _ _ h2).1 g1 g2) rfl
    · cases h
  | par i j a b =>
    intro X W sc ss H h
    unfold chkS at h
    split at h
    · simp only [Bool.and_eq_true, decide_eq_true_eq, Bool.not_eq_true'] at h
      obtain ⟨⟨⟨⟨⟨⟨⟨⟨⟨⟨⟨⟨⟨⟨h1, h2⟩, h3⟩, h4⟩, h5⟩, h6⟩, h7⟩, h8⟩, h9⟩, h10⟩, h11⟩, h12⟩, h13⟩, h14⟩, h15⟩ := h
      obtain ⟨l1, _, _⟩ := isLoc_of H.sc h3
      obtain ⟨l2, _, _⟩ := isLoc_of H.sc h4
      have hk : X.env.blockKind = .function := by unfold Env.blockKind; rw [H.kind]; rfl
      exact .st (st_par H.K H.calm (by rw [H.N]; exact H.nd) (by rw [H.N]; exact h1) (by rw [H.N]; exact h2) h5 l1 l2 ((chk_ok T Φ gl B a H.toHas h14).one h12).pe ((chk_ok T Φ gl B b H.toHas h15).one h13).pe (star1 h8) (star1 h9) (swap2 hk l1 l2 h7 h6 h8 h9 h10 h11)) rfl
    · cases h
  | newC i a b =>
    intro X W sc ss H h
    unfold chkS at h
    split at h
    · simp only [Bool.and_eq_true] at h
      obtain ⟨⟨⟨⟨h1, h2⟩, h3⟩, h4⟩, h5⟩ := h
      exact .st (st_newC H.K (by rw [H.N]; exact H.nd) (isTg_nm H.N H.sc (fun x _ => H.fnc x) h1) ((chk_ok T Φ gl B a H.toHas h4).one h2).pe ((chk_ok T Φ gl B b H.toHas h5).one h3).pe) rfl
    · cases h
  | setf o f e =>
    intro X W sc ss H h
    unfold chkS at h
    split at h
    · rename_i x y p z pos
      simp only [Bool.and_eq_true] at h
      obtain ⟨⟨⟨⟨h1, h2⟩, h3⟩, h4⟩, h5⟩ := h
      obtain ⟨ob, k1, k2⟩ := isAt_of H.toHas h1
      refine .st (st_setf H.K ob k2 ((chk_ok T Φ gl B o H.toHas h4).one h2).pe ((chk_ok T Φ gl B e H.toHas h5).one h3).pe ?_) rfl
      cases z <;> rfl
    · cases h
  | setfs i fs e =>
    intro X W sc ss H h
    unfold chkS at h
    split at h
    · rename_i es k pt z pos
      simp only [Bool.and_eq_true, Bool.not_eq_true'] at h
      obtain ⟨⟨⟨⟨⟨⟨h1, h2⟩, h3⟩, h4⟩, h5⟩, h6⟩, h7⟩ := h
      obtain ⟨ob, ef⟩ := H.ob h1
      split at h5
      · rename_i x p y q es'
        obtain ⟨g1, g2, g3, g4⟩ := isVar_vis H.toHas h5
        obtain ⟨k1, k2, k3⟩ := isAts_of H.toHas ef g1 h2
        exact .st (st_setfs H.K ob H.calm g1 g2 g3 g4 k1 k2 ((chk_ok T Φ gl B e H.toHas h7).one h6).pe (sole_false h4) (ats_store k3 (fun z => by cases z))) rfl
      · cases h5
    · cases h
  | newB o f =>
    intro X W sc ss H h
    unfold chkS at h
    split at h
    · simp only [Bool.and_eq_true] at h
      obtain ⟨⟨h1, h2⟩, h3⟩ := h
      obtain ⟨ob, k1, k2⟩ := isAt_of H.toHas h1
      exact .st (st_newB H.K ob k2 ((chk_ok T Φ gl B o H.toHas h3).one h2).pe) rfl
    · cases h
  | newFR o f a n =>
    intro X W sc ss H h
    unfold chkS at h
    split at h
    · simp only [Bool.and_eq_true] at h
      obtain ⟨⟨⟨⟨⟨⟨⟨h1, h2⟩, h3⟩, h4⟩, h5⟩, h6⟩, h7⟩, h8⟩ := h
      obtain ⟨ob, k1, k2⟩ := isAt_of H.toHas h1
      exact .st (st_newFR H.K ob k2 ((chk_ok T Φ gl B o H.toHas h6).one h3).pe ((chk_ok T Φ gl B a H.toHas h7).one h4).pe ((chk_ok T Φ gl B n H.toHas h8).one h5).pe (star1 h2)) rfl
    · cases h
  | newFC o f src tg own elt =>
    intro X W sc ss H h
    unfold chkS at h
    split at h
    · simp only [Bool.and_eq_true] at h
      obtain ⟨⟨⟨h1, h2⟩, h3⟩, h4⟩ := h
      obtain ⟨ob, k1, k2⟩ := isAt_of H.toHas h1
      obtain ⟨h0, q⟩ := comp_parts T Φ gl B (fun {X W sc es} => chk_ok T Φ gl B src) (fun {X W sc es} => chk_ok T Φ gl B .nil) (fun {X W sc es} => chk_ok T Φ gl B elt) H.toHas h4
      subst h0
      have r := fun p1 p2 p3 => st_newFC (W := W) (pos := p1) (pos' := p2) (spos := p3) H.K ob k2 ((chk_ok T Φ gl B o H.toHas h3).one h2).pe q.sub H.calm q.nd q.hi q.ok q.hg q.ht q.he q.hs
      rw [ownp_ix] at r
      exact .st (r _ _ _) rfl
    · cases h
  | newFO o f e =>
    intro X W sc ss H h
    unfold chkS at h
    split at h
    · simp only [Bool.and_eq_true, decide_eq_true_eq] at h
      obtain ⟨⟨⟨⟨⟨⟨⟨h1, h2⟩, h3⟩, h4⟩, h5⟩, h6⟩, h7⟩, h8⟩ := h
      subst h2
      obtain ⟨ob, k1, k2⟩ := isAt_of H.toHas h1
      exact .st (st_newFO H.K ob (H.bt _ (by decide +kernel)) (isGl_gl H.toHas h3).1 k2 ((chk_ok T Φ gl B o H.toHas h7).one h5).pe ((chk_ok T Φ gl B e H.toHas h8).one h6).pe (star1 h4)) rfl
    · cases h
  | appE a e =>
    intro X W sc ss H h
    unfold chkS at h
    split at h
    · simp only [Bool.and_eq_true, decide_eq_true_eq] at h
      obtain ⟨⟨⟨⟨⟨⟨⟨h1, h2⟩, h3⟩, h4⟩, h5⟩, h6⟩, h7⟩, h8⟩ := h
      subst h1
      exact .st (st_appE H.K ((chk_ok T Φ gl B a H.toHas h7).one h5).pe ((chk_ok T Φ gl B e H.toHas h8).one h6).pe (base_of h2) h3 (star1 h4)) rfl
    · cases h
  | fset o f i e =>
    intro X W sc ss H h
    unfold chkS at h
    split at h
    · rename_i x y p1 z p2 v pos
      simp only [Bool.and_eq_true] at h
      obtain ⟨⟨⟨⟨⟨⟨⟨⟨h1, h2⟩, h3⟩, h4⟩, h5⟩, h6⟩, h7⟩, h8⟩, h9⟩ := h
      obtain ⟨ob, k1, k2⟩ := isAt_of H.toHas h1
      refine .st (st_fset H.K ob k2 ((chk_ok T Φ gl B o H.toHas h8).one h5).pe (base_of k1) (chkV_of ob H.toHas h7) ((chk_ok T Φ gl B e H.toHas h9).one h6).pe (sole_false h3) (store_none h4) ?_) rfl
      intro w
      cases z <;> first | rfl | (cases h2; done)
    · cases h
  | tryA c i j body ih =>
    intro X W sc ss H h
    unfold chkS at h
    split at h
    · simp only [Bool.and_eq_true, decide_eq_true_eq] at h
      obtain ⟨⟨⟨⟨⟨⟨⟨⟨⟨h1, h2⟩, h3⟩, h4⟩, h5⟩, h6⟩, h7⟩, h8⟩, h9⟩, h10⟩ := h
      subst h8
      obtain ⟨_, xc⟩ := H.xc _ _ h1
      obtain ⟨g1, g2⟩ := isGl_gl H.toHas h2
      obtain ⟨l1, l2, l3⟩ := isLoc_of H.sc h5
      obtain ⟨m1, _, _⟩ := isLoc_of H.sc h6
      exact .st (st_tryA H.K H.stk H.frm H.nex (by rw [H.N]; exact H.nd) (by rw [H.N]; exact h3) l1 (by rw [H.N]; exact h4) m1 h7 l2 l3 g1 g2 xc H.tk fun W' pn xe tk po => (ih (try_has H tk po) h10).q h9) rfl
    · cases h
  | tryR c body d ih =>
    intro X W sc ss H h
    unfold chkS at h
    split at h
    · simp only [Bool.and_eq_true, decide_eq_true_eq] at h
      obtain ⟨⟨⟨⟨h1, h2⟩, h3⟩, h4⟩, h5⟩ := h
      obtain ⟨_, xc⟩ := H.xc _ _ h1
      obtain ⟨g1, g2⟩ := isGl_gl H.toHas h2
      obtain ⟨v, v1, v2, v3⟩ := isCst_of (T := T) h3
      exact .st (st_tryR H.K H.stk H.frm g1 g2 xc H.tk (fun _ _ => v2 _) v1 fun W' pn xe tk po => (ih (try_has H tk po) h5).q h4) rfl
    · cases h
  | tryS c body i d ih =>
    intro X W sc ss H h
    unfold chkS at h
    split at h
    · simp only [Bool.and_eq_true, decide_eq_true_eq] at h
      obtain ⟨⟨⟨⟨⟨⟨h1, h2⟩, h3⟩, h3'⟩, h3''⟩, h4⟩, h5⟩ := h
      obtain ⟨_, xc⟩ := H.xc _ _ h1
      obtain ⟨g1, g2⟩ := isGl_gl H.toHas h2
      obtain ⟨l1, _, _⟩ := isLoc_of H.sc h3'
      obtain ⟨v, v1, v2, v3⟩ := isCst_of (T := T) h3''
      exact .st (st_tryS H.K H.stk H.frm (by rw [H.N]; exact H.nd) (by rw [H.N]; exact h3) l1 g1 g2 xc H.tk (fun _ _ => v2 _) (fun _ _ => v3 _ _ _) v1 fun W' pn xe tk po => (ih (try_has H tk po) h5).q h4) rfl
    · cases h
end
end BC

/-! BEnd: from def to def, then the law. -/
namespace BC
open PySem L2
/-- a code of the table: kind 0 a def, 1 a method, 2 the making of the class cls by the entry init -/
structure Dc where
  kind : Nat
  cls : Nat
  np : Nat
  nn : Nat
  init : Nat
  code : Cd
/-- what they compute, n calls deep -/
def phi (D : List Dc) (gl : Nat → PyData) : Nat → Tbl
  | 0 => fun f => match D[f]? with
    | some d => if d.kind = 2 then makeF d.cls fun _ => .stuck else fun _ => .stuck
    | none => fun _ => .stuck
  | n + 1 => fun f => match D[f]? with
    | some d => if d.kind = 2 then makeF d.cls (phi D gl n d.init) else defF (phi D gl n) gl d.np d.nn (d.kind == 1) d.code
    | none => fun _ => .stuck
/-- what a def may name -/
structure Env1 (T : Tn) (mg : Str → Option Value) (gl : Nat → PyData) (gls xcs : List (Option Str)) (ob : Bool) (fnm : List Str) : Prop where
  gl : ∀ g x, gls[g]? = some (some x) → ∃ v u, mg x = some u ∧ RelV v u ∧ ∀ F, Dx T.K F v (gl g)
  mgx : ∀ c x, xcs[c]? = some (some x) → mg x = some (.ref (T.exc c))
  ex : ∀ c x, xcs[c]? = some (some x) → PySem.W.excIn T.K (T.exc c) [.type "ValueError", .type "Exception", .type "BaseException", .type "object"] "ValueError.__new__" = true
  kp : ∀ c x, xcs[c]? = some (some x) → PySem.W.keepIn T.K (.ref (T.exc c)) = true
  sub : ∀ c x, xcs[c]? = some (some x) → PySem.W.subIn T.K (.ref (T.exc c)) (.type "BaseException") = some true
  ty : ∀ c x, xcs[c]? = some (some x) → PySem.W.typeIn T.K (.ref (T.exc c)) = some (.type "type")
  exc : ∀ e, ExcC T.K (T.exc e)
  val : ∀ e, PySem.W.kitOne T.K (.ref (T.exc e)) (.type "ValueError") = some true
  kit : ∀ c x, xcs[c]? = some (some x) → ∀ e, PySem.W.kitOne T.K (.ref (T.exc e)) (.ref (T.exc c)) = some (subX e c)
  exm : ∀ c x, xcs[c]? = some (some x) → ∀ e, PySem.W.exmOne T.K (.ref (T.exc e)) (.ref (T.exc c)) = some (subX e c)
  ob : ob = true → ((∀ c, Cls T.K (T.cls c)) ∧ (∀ (c f : Nat) (y : Str), T.fnm[f]? = some y → NoAttr T.K (T.cls c) y) ∧ T.fnm.Nodup) ∧ T.fnm = fnm
  bt : ∀ x ∈ bnames, mg x = none
def scopeOk (N ps : List Str) (sc : Scope) : Bool :=
  decide (sc.kind = .function) && !sc.isCoroutine && !sc.isGenerator && decide N.Nodup && decide (N.take ps.length = ps) && (ps.all fun x => decide (sc.names.lookup x = some .local) || decide (sc.names.lookup x = some .cell)) && (sc.names.all fun y => decide (y.2 ≠ .free)) && decide (ps.length ≤ N.length)
theorem scopeOk_fn {N ps : List Str} {sc : Scope} (h : scopeOk N ps sc = true) : FnScope N ps sc ∧ ps.length ≤ N.length := by
  unfold scopeOk at h
  simp only [Bool.and_eq_true, decide_eq_true_eq, Bool.not_eq_true', List.all_eq_true, Bool.or_eq_true] at h
  obtain ⟨⟨⟨⟨⟨⟨⟨h1, h2⟩, h3⟩, h4⟩, h5⟩, h6⟩, h7⟩, h8⟩ := h
  exact ⟨⟨h1, h2, h3, h4, h5, h6, h7⟩, h8⟩
/-- a def of the text, with its code checked -/
def DefAt (T : Tn) (gls xcs : List (Option Str)) (ob : Bool) (fnm : List Str) (E : List Ent) (d : Dc) (a : Addr) (fd : FuncData) (ps : List Str) : Prop :=
  ∃ (x qual : Str) (st : Stmt) (N : List Str), Fun T.K x qual st a fd ∧ Binds T.K fd ps [] ∧ scopeOk N ps (defScope st) = true ∧ d.np = ps.length ∧ d.nn = N.length ∧ d.code.isQ = true ∧ chkS ⟨N, E, gls, xcs, ob, fnm⟩ (defScope st) d.code (defBody st) = true
/-- what the text says of an entry -/
def Fact (T : Tn) (mg : Str → Option Value) (gls xcs : List (Option Str)) (ob : Bool) (fnm : List Str) (E : List Ent) (D : List Dc) (d : Dc) : Ent → Prop
  | .off => True
  | .fn x => d.kind = 0 ∧ ∃ a fd ps, DefAt T gls xcs ob fnm E d a fd ps ∧ mg x = some (.ref a)
  | .me c m => d.kind = 1 ∧ ∃ a fd ps, DefAt T gls xcs ob fnm E d a fd ps ∧ Meth T.K (T.cls c) m a
  | .mk c x => d.kind = 2 ∧ d.cls = c ∧ ∃ a d', Mk T.K (T.cls c) a ∧ mg x = some (.ref (T.cls c)) ∧ D[d.init]? = some d' ∧ E[d.init]? = some (.me c "__init__")
/-- all entries -/
def AllF (F : Dc → Ent → Prop) : List Ent → List Dc → Prop
  | [], [] => True
  | e :: es, d :: ds => F d e ∧ AllF F es ds
  | _, _ => False
theorem AllF.at_ {F : Dc → Ent → Prop} : ∀ {es : List Ent} {ds : List Dc}, AllF F es ds → ∀ (f : Nat) (e : Ent), es[f]? = some e → ∃ d, ds[f]? = some d ∧ F d e
  | [], _, _, _, _, h => by simp at h
  | e :: es, [], h, _, _, _ => h.elim
  | e :: es, d :: ds, h, 0, _, q => by
    cases q
    exact ⟨d, rfl, h.1⟩
  | e :: es, d :: ds, h, f + 1, x, q => h.2.at_ f x (by simpa using q)
theorem AllF.append {F : Dc → Ent → Prop} : ∀ {es es' : List Ent} {ds ds' : List Dc}, AllF F es ds → AllF F es' ds' → AllF F (es ++ es') (ds ++ ds')
  | [], _, [], _, _, h => h
  | [], _, _ :: _, _, h, _ => h.elim
  | _ :: _, _, [], _, h, _ => h.elim
  | _ :: _, _, _ :: _, _, h, h' => ⟨h.1, h.2.append h'⟩
def Knows (P : Program) (w : World) (T : Tn) (mg : Str → Option Value) (base : Heap) (D : List Dc) (gl : Nat → PyData) (n f : Nat) : Ent → Prop
  | .off => True
  | .fn x => ∃ a fd ps, FnOk P w T.K mg base (L2.CX P w) (n + 1) a fd ps (spF T false (phi D gl n f)) ∧ mg x = some (.ref a) ∧ PySem.W.keepIn T.K (.ref a) = true ∧ Binds T.K fd ps []
  | .me c m => ∃ a fd ps, FnOk P w T.K mg base (L2.CX P w) (n + 1) a fd ps (spF T true (phi D gl n f)) ∧ Meth T.K (T.cls c) m a ∧ Binds T.K fd ps []
  | .mk c x => ∃ a fd ps φ, phi D gl n f = makeF c φ ∧ FnOk P w T.K mg base (L2.CX P w) n a fd ps (spF T true φ) ∧ Mk T.K (T.cls c) a ∧ mg x = some (.ref (T.cls c)) ∧ Binds T.K fd ps []
theorem stuck_ok {P : Program} {w : World} {T : Tn} {mg : Str → Option Value} {base : Heap} {k : Nat} {a : Addr} {fd : FuncData} {ps : List Str} {op : Bool} : FnOk P w T.K mg base (L2.CX P w) k a fd ps (spF T op fun _ => .stuck) :=
  ⟨fun vs H Q E ⟨_, _, _, _, _, h⟩ => h.elim, fun A outer s H args us vs Q E _ _ _ _ ⟨_, _, _, _, _, h⟩ => h.elim⟩
section
variable {P : Program} {w : World} {T : Tn} {mg : Str → Option Value} {base : Heap} {gl : Nat → PyData} {gls xcs : List (Option Str)} {ob : Bool} {fnm : List Str} {E : List Ent} {D : List Dc}
/-- a def of the text keeps its code's promise -/
theorem DefAt.ok (e : Env1 T mg gl gls xcs ob fnm) {d : Dc} {a : Addr} {fd : FuncData} {ps : List Str} (h : DefAt T gls xcs ob fnm E d a fd ps) {n : Nat} {op : Bool} (kn : ∀ f y, E[f]? = some y → Knows P w T mg base D gl n f y) :
    FnOk P w T.K mg base (L2.CX P w) (n + 2) a fd ps (spF T op (defF (phi D gl n) gl d.np d.nn op d.code)) := by
  obtain ⟨x, qual, st, N, F, hb, hs, h1, h2, hq, hc⟩ := h
  obtain ⟨S, hpn⟩ := scopeOk_fn hs
  rw [h1, h2]
  refine def_ok (k := n + 1) F S hpn fun cdv A outer s H E' hr => (chkS_ok T (phi D gl n) gl ⟨N, E, gls, xcs, ob, fnm⟩ d.code ?_ hc).q hq
  refine { K := rfl, N := rfl, nd := S.nd, sc := rfl, calm := rfl, un := ?_, tk := takes_of rfl rfl rfl rfl, fn := fun f y hy => ?_, me := fun f c m hy => ?_, mks := fun f c y hy => ?_, gl := e.gl, xc := fun c y hy => ⟨⟨e.mgx c y hy, e.ex c y hy, e.kp c y hy, e.sub c y hy, e.ty c y hy⟩, ⟨e.mgx c y hy, e.kit c y hy, e.exm c y hy⟩⟩, xs := ⟨e.exc, e.val⟩, ob := fun ho => ?_, bt := e.bt, po := passes_of rfl, fnc := fun _ => rfl, kind := S.kind, stk := rfl, frm := rfl, nex := rfl }
  · have := hr.un
    show (A.deeper _).units + 64 < cLine
    omega
  · obtain ⟨a, fd', ps', G, h1, h2, h3⟩ := kn f _ hy
    exact ⟨n + 1, a, fd', ps', G, hr, h1, h2, h3⟩
  · obtain ⟨a, fd', ps', G, h1, h2⟩ := kn f _ hy
    exact ⟨n + 1, a, fd', ps', G, hr, h1, h2⟩
  · obtain ⟨a, fd', ps', φ, h0, G, h1, h2, h3⟩ := kn f _ hy
    exact ⟨n, a, fd', ps', φ, h0, G, hr, h1, h2, h3⟩
  · obtain ⟨⟨q1, q2, q3⟩, q4⟩ := e.ob ho
    exact ⟨⟨q1, q2, q3⟩, q4⟩
theorem all_known (e : Env1 T mg gl gls xcs ob fnm) (hf : AllF (Fact T mg gls xcs ob fnm E D) E D) : ∀ (n f : Nat) (y : Ent), E[f]? = some y → Knows P w T mg base D gl n f y := by
  intro n
  induction n with
  | zero =>
    intro f y hy
    obtain ⟨d, hd, q⟩ := hf.at_ f y hy
    have ep : phi D gl 0 f = if d.kind = 2 then makeF d.cls fun _ => .stuck else fun _ => .stuck := by simp only [phi, hd]
    cases y with
    | off => trivial
    | fn x =>
      obtain ⟨hk, a, fd, ps, ⟨_, _, _, _, F, hb, _⟩, hm⟩ := q
      rw [if_neg (by omega)] at ep
      exact ⟨a, fd, ps, by rw [ep]; exact stuck_ok, hm, F.kp, hb⟩
    | me c m =>
      obtain ⟨hk, a, fd, ps, ⟨_, _, _, _, F, hb, _⟩, hm⟩ := q
      rw [if_neg (by omega)] at ep
      exact ⟨a, fd, ps, by rw [ep]; exact stuck_ok, hm, hb⟩
    | mk c x =>
      obtain ⟨hk, hc, a, d', M, hm, hi, hi2⟩ := q
      rw [if_pos hk, hc] at ep
      obtain ⟨d2, hd2, q'⟩ := hf.at_ _ _ hi2
      obtain ⟨_, a', fd, ps, ⟨_, _, _, _, F, hb, _⟩, hM⟩ := q'
      have ea : a' = a := by
        have := hM.at_.symm.trans M.init
        simpa using this
      subst ea
      exact ⟨a', fd, ps, _, ep, stuck_ok, M, hm, hb⟩
  | succ n ih =>
    intro f y hy
    obtain ⟨d, hd, q⟩ := hf.at_ f y hy
    have ep : phi D gl (n + 1) f = if d.kind = 2 then makeF d.cls (phi D gl n d.init) else defF (phi D gl n) gl d.np d.nn (d.kind == 1) d.code := by simp only [phi, hd]
    cases y with
    | off => trivial
    | fn x =>
      obtain ⟨hk, a, fd, ps, hD, hm⟩ := q
      rw [if_neg (by omega), show (d.kind == 1) = false from by rw [hk]; rfl] at ep
      have F := hD.ok (P := P) (w := w) (base := base) (op := false) e ih
      obtain ⟨_, _, _, _, F0, hb, _⟩ := hD
      exact ⟨a, fd, ps, by rw [ep]; exact F, hm, F0.kp, hb⟩
    | me c m =>
      obtain ⟨hk, a, fd, ps, hD, hm⟩ := q
      rw [if_neg (by omega), show (d.kind == 1) = true from by rw [hk]; rfl] at ep
      have F := hD.ok (P := P) (w := w) (base := base) (op := true) e ih
      obtain ⟨_, _, _, _, F0, hb, _⟩ := hD
      exact ⟨a, fd, ps, by rw [ep]; exact F, hm, hb⟩
    | mk c x =>
      obtain ⟨hk, hc, a, d', M, hm, hi, hi2⟩ := q
      rw [if_pos hk, hc] at ep
      obtain ⟨a', fd, ps, G, hM, hb⟩ := ih d.init _ hi2
      have ea : a' = a := by
        have := hM.at_.symm.trans M.init
        simpa using this
      subst ea
      exact ⟨a', fd, ps, _, ep, G, M, hm, hb⟩
/-- the law's def -/
theorem law_known (e : Env1 T mg gl gls xcs ob fnm) (hf : AllF (Fact T mg gls xcs ob fnm E D) E D) {n f : Nat} {d : Dc} {a : Addr} {fd : FuncData} {ps : List Str} (hd : D[f]? = some d) (hk : d.kind = 0) (hD : DefAt T gls xcs ob fnm E d a fd ps) :
    FnOk P w T.K mg base (L2.CX P w) (n + 2) a fd ps (spF T false (phi D gl (n + 1) f)) := by
  have ep : phi D gl (n + 1) f = if d.kind = 2 then makeF d.cls (phi D gl n d.init) else defF (phi D gl n) gl d.np d.nn (d.kind == 1) d.code := by simp only [phi, hd]
  rw [if_neg (by omega), show (d.kind == 1) = false from by rw [hk]; rfl] at ep
  rw [ep]
  exact hD.ok e (all_known e hf n)
end
/-! ### own errors, by their classes above -/
theorem mro_sub {K : PySem.W.Frag} {C : Addr} {l : List Value} {b : Value} (h : (PySem.W.clsIn K C).map (fun cd => cd.mro) = some l) (hn : l ≠ []) : PySem.W.subIn K (.ref C) b = some (l.contains b) := by
  obtain ⟨cd, h1, h2⟩ := Option.map_eq_some_iff.mp h
  show PySem.W.mroIn K C b = _
  unfold PySem.W.mroIn
  rw [h1]
  show (if cd.mro.isEmpty then none else some (cd.mro.contains b)) = _
  rw [h2, if_neg]
  intro z
  exact hn (List.isEmpty_iff.mp z)
/-- one class: first itself, then the one above all if it is below it, then the built-in ones -/
structure XF (K : PySem.W.Frag) (e0 a : Addr) (first : Bool) : Prop where
  mro : (PySem.W.clsIn K a).map (fun cd => cd.mro) = some (if first then [.ref a, .type "ValueError", .type "Exception", .type "BaseException", .type "object"] else [.ref a, .ref e0, .type "ValueError", .type "Exception", .type "BaseException", .type "object"])
  ty : PySem.W.typeIn K (.ref a) = some (.type "type")
  ga : PySem.W.findIn K (.ref a) "__getattribute__" = some (some (.builtin "BaseException.__getattribute__"))
  gt : PySem.W.findIn K (.ref a) "__getattr__" = some none
  hd : PySem.W.hasDictIn K a = true
  cl : PySem.W.findIn K (.ref a) "__class__" = some (some (.builtin "object.__class__"))
theorem XF.sub {K : PySem.W.Frag} {e0 a : Addr} {f : Bool} (x : XF K e0 a f) (b : Value) : PySem.W.subIn K (.ref a) b = some (b == .ref a || (!f && b == .ref e0) || b == .type "ValueError" || b == .type "Exception" || b == .type "BaseException" || b == .type "object") := by
  rw [mro_sub x.mro (by cases f <;> simp)]
  congr 1
  rw [Bool.eq_iff_iff]
  cases f <;> simp [List.contains_cons, or_assoc]
theorem XF.excC {K : PySem.W.Frag} {e0 a : Addr} {f : Bool} (x : XF K e0 a f) (hn : PySem.W.specialIn K (.builtin "object.__class__") "__get__" = some (some (.builtin "getset_descriptor.__get__"))) (ht : PySem.W.takesIn K (.builtin "object.__class__") = some true) : ExcC K a where
  hg := x.ga
  hk := x.gt
  hs := by rw [x.sub]; simp
  hd := x.hd
  ha := x.cl
  hn := hn
  ht := ht
  hm := by
    have := x.sub (.type "object")
    rw [show PySem.W.subIn K (.ref a) (.type "object") = PySem.W.mroIn K a (.type "object") from rfl] at this
    rw [this]; simp
theorem XF.val {K : PySem.W.Frag} {e0 a : Addr} {f : Bool} (x : XF K e0 a f) : PySem.W.kitOne K (.ref a) (.type "ValueError") = some true := by
  have e : PySem.W.kitMeta "ValueError" = true := by decide +kernel
  show (if (Value.ref a == Value.type "ValueError") = true then some true else if PySem.W.kitMeta "ValueError" = true then PySem.W.subIn K (.ref a) (.type "ValueError") else none) = some true
  rw [if_neg (by intro z; cases (beq_iff_eq.mp z)), if_pos e, x.sub]
  simp
theorem XF.kitc {K : PySem.W.Frag} {e0 a c : Addr} {f g : Bool} (x : XF K e0 a f) (y : XF K e0 c g) (b : Bool) (hb : b = (c == a || (!f && c == e0))) : PySem.W.kitCls K (.ref a) (.ref c) = some b := by
  have hc : (PySem.W.clsIn K c).isSome = true := by
    obtain ⟨cd, h, _⟩ := Option.map_eq_some_iff.mp y.mro
    rw [h]; rfl
  show (if ((PySem.W.clsIn K c).isSome && PySem.W.typeIn K (.ref c) == some (.type "type")) = true then PySem.W.subIn K (.ref a) (.ref c) else none) = some b
  rw [if_pos (by rw [hc, y.ty]; rfl), x.sub, hb]
  congr 1
  rw [show (Value.ref c == Value.ref a) = (c == a) from by rw [Bool.eq_iff_iff]; simp, show (Value.ref c == Value.ref e0) = (c == e0) from by rw [Bool.eq_iff_iff]; simp]
  rw [show (Value.ref c == Value.type "ValueError") = false from rfl, show (Value.ref c == Value.type "Exception") = false from rfl, show (Value.ref c == Value.type "BaseException") = false from rfl, show (Value.ref c == Value.type "object") = false from rfl]
  simp
theorem XF.kit {K : PySem.W.Frag} {e0 a c : Addr} {f g : Bool} (x : XF K e0 a f) (y : XF K e0 c g) (b : Bool) (hb : b = (c == a || (!f && c == e0))) : PySem.W.kitOne K (.ref a) (.ref c) = some b := by
  show (if (Value.ref a == Value.ref c) = true then some true else PySem.W.kitCls K (.ref a) (.ref c)) = some b
  split
  · rename_i h
    have : a = c := by simpa using h
    subst this
    rw [hb]; simp
  · exact x.kitc y b hb
theorem XF.exm {K : PySem.W.Frag} {e0 a c : Addr} {f g : Bool} (x : XF K e0 a f) (y : XF K e0 c g) (b : Bool) (hb : b = (c == a || (!f && c == e0))) : PySem.W.exmOne K (.ref a) (.ref c) = some b := by
  show (if (PySem.W.subIn K (.ref c) (.type "BaseException") == some true) = true then PySem.W.kitCls K (.ref a) (.ref c) else none) = some b
  rw [if_pos (by rw [y.sub]; simp)]
  exact x.kitc y b hb
/-- all of them: at each place a class or none, the first one above all -/
structure XL (K : PySem.W.Frag) (e0 : Addr) (xs : List (Option Addr)) : Prop where
  first : xs[0]? = some (some e0)
  inj : ∀ (i j : Nat) (a : Addr), xs[i]? = some (some a) → xs[j]? = some (some a) → i = j
  all : ∀ (i : Nat) (a : Addr), xs[i]? = some (some a) → XF K e0 a (i == 0)
  sp : PySem.W.specialIn K (.builtin "object.__class__") "__get__" = some (some (.builtin "getset_descriptor.__get__"))
  tk : PySem.W.takesIn K (.builtin "object.__class__") = some true
def excOf (e0 : Addr) (xs : List (Option Addr)) : Nat → Addr := fun c => (xs.getD c none).getD e0
theorem XL.at_ {K : PySem.W.Frag} {e0 : Addr} {xs : List (Option Addr)} (x : XL K e0 xs) (e : Nat) : (xs[e]? = some (some (excOf e0 xs e)) ∨ (excOf e0 xs e = e0 ∧ ∀ a, xs[e]? ≠ some (some a))) ∧ ∃ f, XF K e0 (excOf e0 xs e) f ∧ (f = (excOf e0 xs e == e0)) := by
  have h0 := x.all 0 e0 x.first
  unfold excOf
  rw [List.getD_eq_getElem?_getD]
  cases he : xs[e]? with
  | none => exact ⟨.inr ⟨rfl, fun a z => by cases z⟩, true, h0, by simp⟩
  | some o =>
    cases o with
    | none => exact ⟨.inr ⟨rfl, fun a z => by cases z⟩, true, h0, by simp⟩
    | some a =>
      refine ⟨.inl rfl, e == 0, x.all e a he, ?_⟩
      rw [Bool.eq_iff_iff]
      simp only [beq_iff_eq, Option.getD_some]
      constructor
      · intro z; subst z
        have := x.first.symm.trans he
        simpa using this.symm
      · intro z; subst z
        exact x.inj e 0 a he x.first
theorem XL.subx {K : PySem.W.Frag} {e0 : Addr} {xs : List (Option Addr)} (x : XL K e0 xs) {c : Nat} {a : Addr} (hc : xs[c]? = some (some a)) (e : Nat) : excOf e0 xs c = a ∧ ∃ f g, XF K e0 (excOf e0 xs e) f ∧ XF K e0 a g ∧ subX e c = (a == excOf e0 xs e || (!f && a == e0)) := by
  have ec : excOf e0 xs c = a := by unfold excOf; rw [List.getD_eq_getElem?_getD, hc]; rfl
  obtain ⟨h1, f, h2, h3⟩ := x.at_ e
  refine ⟨ec, f, c == 0, h2, x.all c a hc, ?_⟩
  rw [h3]
  unfold subX
  rw [Bool.eq_iff_iff]
  simp only [Bool.or_eq_true, beq_iff_eq, Bool.and_eq_true, Bool.not_eq_true', beq_eq_false_iff_ne]
  constructor
  · rintro (z | z)
    · subst z
      have : a = e0 := by have := x.first.symm.trans hc; simpa using this.symm
      subst this
      by_cases q : excOf a xs e = a
      · exact .inl q.symm
      · exact .inr ⟨q, rfl⟩
    · subst z; exact .inl ec.symm
  · rintro (z | ⟨z1, z2⟩)
    · rcases h1 with h1 | ⟨h1, h1'⟩
      · rw [← z] at h1
        exact .inr (x.inj e c a h1 hc)
      · rw [h1] at z
        subst z
        exact .inl (x.inj c 0 a hc x.first)
    · subst z2
      exact .inl (x.inj c 0 a hc x.first)
/-- the promise of a law -/
def spLaw (K : PySem.W.Frag) : Sp := fun vs H Q _ => ∃ (a : Addr) (ns : List Int), vs = [.ref a] ∧ SqL K H a (ns.map V.int) ∧ ns.length ≤ 63 ∧ ∀ H', Q (.bl true) H'
theorem law_sp {T : Tn} {φ : Fn} (h : ∀ ns : List Int, ns.length ≤ 63 → φ [.s ns] = .ok (.d (.bool true)) []) :
    ∀ (vs : List V) (H : Hp) (Q : VK) (E : XK), spLaw T.K vs H Q E → spF T false φ vs H Q E := by
  rintro vs H Q E ⟨a, ns, rfl, hS, hl, hq⟩
  refine ⟨fun _ => 0, fun _ _ => 0, [.s ns], ?_, fun j r hj => by simp [resL] at hj, ?_⟩
  · have e : part (fun _ => 0) 0 H = H := by
      funext b
      unfold part
      rw [if_pos rfl]
    rw [e]
    exact .s hS .nil
  · rw [h ns hl]
    exact ⟨rfl, fun own' pa' H' u _ _ _ o => by cases o; exact hq H'⟩
theorem law_walk {l : PySem.W.OpenLaw} {q : Program} {loose : List Str} {XP : (Str → Option Value) → Heap → Prop} {YP : World → Heap → Prop} {d : DefRec} {K : Params → PySem.W.Frag} {k : Nat} {x : Str} (hn : l.most = some 63) (hdf : d.params.defaults = []) (hr : Room k callerA)
    (hY : ∀ (w : World) (h : Heap), YP w h → (K w.params).In h)
    (F : ∀ (w : World) (mg : Str → Option Value) (fa : Addr) (h : Heap), (K w.params).In h → h.Ns mainGlobals mg → mg d.name = some (.ref fa) →
      ∃ fd : FuncData, (∀ (s : Shared) (u : Value), BindsTo s fd ⟨[u], []⟩ [(x, u)]) ∧ ∀ base : Heap, (K w.params).In base → base.Ns mainGlobals mg → FnOk l.prog w (K w.params) mg base (L2.CX l.prog w) k fa fd [x] (spLaw (K w.params))) :
    PySem.W.WalkO q loose XP YP l.row.toRowW d [] (fun f vs => PySem.call f vs) :=
  L2.walk_of (n := 63) (k := k) (x := x) (CX := fun w => L2.CX l.prog w) (sp := fun w => spLaw (K w.params)) hn (by decide) hdf hr hY F (fun _ _ a ns hl _ hS => ⟨a, ns, rfl, hS, hl, fun _ => rfl⟩) fun _ _ _ _ _ ⟨_, _, _, _, _, _, _, _, _, _, _, _, z⟩ => z
theorem bt_of {mg : Str → Option Value} (h : (bnames.map mg).all Option.isNone = true) : ∀ x ∈ bnames, mg x = none := fun x hx => by
  have q := List.all_eq_true.mp h _ (List.mem_map_of_mem hx)
  cases e : mg x with
  | none => rfl
  | some v => rw [e] at q; cases q
/-! ### what a law's head brings, in bundles -/
theorem XF.top {K : PySem.W.Frag} {a : Addr} (mro : (PySem.W.clsIn K a).map (fun cd => cd.mro) = some [.ref a, .type "ValueError", .type "Exception", .type "BaseException", .type "object"]) (ty : PySem.W.typeIn K (.ref a) = some (.type "type"))
    (ga : PySem.W.findIn K (.ref a) "__getattribute__" = some (some (.builtin "BaseException.__getattribute__"))) (gt : PySem.W.findIn K (.ref a) "__getattr__" = some none) (hd : PySem.W.hasDictIn K a = true) (cl : PySem.W.findIn K (.ref a) "__class__" = some (some (.builtin "object.__class__"))) : XF K a a true :=
  ⟨mro, ty, ga, gt, hd, cl⟩
theorem XF.low {K : PySem.W.Frag} {e0 a : Addr} (mro : (PySem.W.clsIn K a).map (fun cd => cd.mro) = some [.ref a, .ref e0, .type "ValueError", .type "Exception", .type "BaseException", .type "object"]) (ty : PySem.W.typeIn K (.ref a) = some (.type "type"))
    (ga : PySem.W.findIn K (.ref a) "__getattribute__" = some (some (.builtin "BaseException.__getattribute__"))) (gt : PySem.W.findIn K (.ref a) "__getattr__" = some none) (hd : PySem.W.hasDictIn K a = true) (cl : PySem.W.findIn K (.ref a) "__class__" = some (some (.builtin "object.__class__"))) : XF K e0 a false :=
  ⟨mro, ty, ga, gt, hd, cl⟩
/-- an own error -/
structure ErIn (K : PySem.W.Frag) (e0 : Addr) (x : Str) (a : Addr) (first : Bool) : Prop where
  ns : PySem.W.nsIn K mainGlobals x = some (some (.ref a))
  ex : PySem.W.excIn K a [.type "ValueError", .type "Exception", .type "BaseException", .type "object"] "ValueError.__new__" = true
  kp : PySem.W.keepIn K (.ref a) = true
  xf : XF K e0 a first
def ErAll (K : PySem.W.Frag) (e0 : Addr) : List (Option Str) → List (Option Addr) → Bool → Prop
  | [], [], _ => True
  | some x :: xs, some a :: as, f => ErIn K e0 x a f ∧ ErAll K e0 xs as false
  | none :: xs, none :: as, _ => ErAll K e0 xs as false
  | _, _, _ => False
theorem ErAll.at_ {K : PySem.W.Frag} {e0 : Addr} : ∀ {xs : List (Option Str)} {as : List (Option Addr)} {f : Bool}, ErAll K e0 xs as f → ∀ (i : Nat),
    (∀ x, xs[i]? = some (some x) → ∃ a, as[i]? = some (some a) ∧ ErIn K e0 x a (f && i == 0)) ∧ (∀ a, as[i]? = some (some a) → ∃ x, xs[i]? = some (some x) ∧ ErIn K e0 x a (f && i == 0))
  | [], [], _, _, i => ⟨fun _ z => by simp at z, fun _ z => by simp at z⟩
  | some x :: xs, some a :: as, f, h, 0 => ⟨fun y z => by
      obtain rfl : x = y := by simpa using z
      exact ⟨a, rfl, by simpa using h.1⟩, fun y z => by
      obtain rfl : a = y := by simpa using z
      exact ⟨x, rfl, by simpa using h.1⟩⟩
  | some x :: xs, some a :: as, f, h, i + 1 => by
      have q := ErAll.at_ h.2 i
      simpa using q
  | none :: xs, none :: as, _, h, 0 => ⟨fun _ z => by simp at z, fun _ z => by simp at z⟩
  | none :: xs, none :: as, f, h, i + 1 => by
      have q := ErAll.at_ (f := false) h i
      simpa using q
  | none :: _, some _ :: _, _, h, _ => h.elim
  | some _ :: _, none :: _, _, h, _ => h.elim
  | [], _ :: _, _, h, _ => by cases ‹Option Addr› <;> exact h.elim
  | none :: _, [], _, h, _ => h.elim
  | some _ :: _, [], _, h, _ => h.elim
theorem inj_of {xs : List (Option Addr)} (h : (xs.filterMap id).Nodup) : ∀ (i j : Nat) (a : Addr), xs[i]? = some (some a) → xs[j]? = some (some a) → i = j := by
  induction xs with
  | nil => intro i j a z; simp at z
  | cons o r ih =>
    have hr : (r.filterMap id).Nodup := by
      cases o with
      | none => simpa using h
      | some b => exact (List.nodup_cons.mp (by simpa using h)).2
    have hn : ∀ (k : Nat) (a : Addr), o = some a → r[k]? = some (some a) → False := by
      intro k a e z
      subst e
      refine (List.nodup_cons.mp (by simpa using h : (a :: r.filterMap id).Nodup)).1 ?_
      exact List.mem_filterMap.mpr ⟨some a, List.mem_of_getElem? z, rfl⟩
    intro i j a hi hj
    cases i with
    | zero =>
      cases j with
      | zero => rfl
      | succ j => exact (hn j a (by simpa using hi) (by simpa using hj)).elim
    | succ i =>
      cases j with
      | zero => exact (hn i a (by simpa using hj) (by simpa using hi)).elim
      | succ j => rw [ih hr i j a (by simpa using hi) (by simpa using hj)]
theorem XL.mk' {K : PySem.W.Frag} {e0 : Addr} {xs : List (Option Str)} {as : List (Option Addr)} (h : ErAll K e0 xs as true) (hn : (as.filterMap id).Nodup) (h0 : as[0]? = some (some e0)) (sp : PySem.W.specialIn K (.builtin "object.__class__") "__get__" = some (some (.builtin "getset_descriptor.__get__")))
    (tk : PySem.W.takesIn K (.builtin "object.__class__") = some true) : XL K e0 as where
  first := h0
  inj := inj_of hn
  all := fun i a z => by
    obtain ⟨x, _, q⟩ := (h.at_ i).2 a z
    simpa using q.xf
  sp := sp
  tk := tk
/-- a def of the module -/
structure FnIn (K : PySem.W.Frag) (x : Str) (st : Stmt) (f : Addr) (fd : FuncData) : Prop where
  ns : PySem.W.nsIn K mainGlobals x = some (some (.ref f))
  fn : Fun K x x st f fd
/-- a method of a class -/
structure MeIn (K : PySem.W.Frag) (C : Addr) (m qual : Str) (st : Stmt) (f : Addr) (fd : FuncData) : Prop where
  me : Meth K C m f
  fn : Fun K m qual st f fd
/-- a class -/
structure ClIn (K : PySem.W.Frag) (x : Str) (C : Addr) : Prop where
  ns : PySem.W.nsIn K mainGlobals x = some (some (.ref C))
  cls : Cls K C
  makes : PySem.W.makesIn K C = true
  kp : PySem.W.keepIn K (.ref C) = true
/-- a constant of the module -/
structure GiIn (K : PySem.W.Frag) (x : Str) (i : Int) (t : Tok) : Prop where
  ns : PySem.W.nsIn K mainGlobals x = some (some (.int i t))
structure GsIn (K : PySem.W.Frag) (x s : Str) (t : Tok) : Prop where
  ns : PySem.W.nsIn K mainGlobals x = some (some (.str s t))
structure GtIn (K : PySem.W.Frag) (x : Str) (vs : List V) (m : Addr) (dt : Option Addr) (its : Array Value) (n : Nat) (sl : Array (Option Value)) : Prop where
  ns : PySem.W.nsIn K mainGlobals x = some (some (.ref m))
  lk : K.lookup m = some ⟨.type "tuple", dt, .seq its n, sl⟩
  sz : its.size ≤ sizeLine
  vals : Vals vs its.toList
def GlIn (K : PySem.W.Frag) (gl : Nat → PyData) (x : Str) (g : Nat) : Prop := ∃ v u, PySem.W.nsIn K mainGlobals x = some (some u) ∧ RelV v u ∧ ∀ F, Dx K F v (gl g)
theorem gi_gl {K : PySem.W.Frag} {gl : Nat → PyData} {x : Str} {g : Nat} {i : Int} {t : Tok} (h : GiIn K x i t) (e : gl g = .int i) : GlIn K gl x g := ⟨.int i, _, h.ns, ⟨_, rfl⟩, fun F => by rw [e]; exact .int _⟩
theorem gs_gl {K : PySem.W.Frag} {gl : Nat → PyData} {x s : Str} {g : Nat} {t : Tok} (h : GsIn K x s t) (e : gl g = .str s) : GlIn K gl x g := ⟨.str s, _, h.ns, ⟨_, rfl⟩, fun F => by rw [e]; exact .str _⟩
theorem dx_strs {K : PySem.W.Frag} {F : Hp} : ∀ l : List Str, DxAll K F (l.map V.str) (l.map PyData.str)
  | [] => .nil
  | _ :: r => .cons (.str _) (dx_strs r)
theorem gt_gl {K : PySem.W.Frag} {gl : Nat → PyData} {x : Str} {g : Nat} {l : List Str} {m : Addr} {dt : Option Addr} {its : Array Value} {n : Nat} {sl : Array (Option Value)} (h : GtIn K x (l.map V.str) m dt its n sl) (e : gl g = .tuple (l.map .str)) : GlIn K gl x g :=
  ⟨.ref m, _, h.ns, rfl, fun F => by rw [e]; exact .tup (.inr ⟨_, its, n, h.lk, rfl, rfl, h.sz, h.vals⟩) (dx_strs l)⟩
/-- constants -/
def GlAll (K : PySem.W.Frag) (gl : Nat → PyData) : List (Option Str) → Nat → Prop
  | [], _ => True
  | some x :: r, g => GlIn K gl x g ∧ GlAll K gl r (g + 1)
  | none :: r, g => GlAll K gl r (g + 1)
theorem GlAll.at_ {K : PySem.W.Frag} {gl : Nat → PyData} : ∀ {xs : List (Option Str)} {g : Nat}, GlAll K gl xs g → ∀ (i : Nat) (x : Str), xs[i]? = some (some x) → GlIn K gl x (g + i)
  | [], _, _, _, _, z => by simp at z
  | some y :: r, g, h, 0, x, z => by
    obtain rfl : y = x := by simpa using z
    exact h.1
  | none :: r, g, h, 0, x, z => by simp at z
  | some y :: r, g, h, i + 1, x, z => by
    have := h.2.at_ i x (by simpa using z)
    rwa [Nat.add_right_comm] at this
  | none :: r, g, h, i + 1, x, z => by
    have := GlAll.at_ (g := g + 1) h i x (by simpa using z)
    rwa [Nat.add_right_comm] at this
theorem env_of {K : PySem.W.Frag} {h : Heap} {mg : Str → Option Value} {gl : Nat → PyData} {gls xcs : List (Option Str)} {ob : Bool} {fnm : List Str} {e0 : Addr} {as : List (Option Addr)} {cls : Nat → Addr}
    (X : K.In h) (G : h.Ns mainGlobals mg) (hg : GlAll K gl gls 0) (hx : ErAll K e0 xcs as true) (hl : XL K e0 as)
    (hc : ob = true → (∀ c, Cls K (cls c)) ∧ (∀ c, ∀ y ∈ fnm, NoAttr K (cls c) y) ∧ fnm.Nodup) (hb : ∀ x ∈ bnames, PySem.W.nsIn K mainGlobals x = some none) : Env1 ⟨K, cls, excOf e0 as, fnm⟩ mg gl gls xcs ob fnm where
  gl := fun g x hx => by
    obtain ⟨v, u, h1, h2, h3⟩ := hg.at_ g x hx
    refine ⟨v, u, PySem.W.mg_of X G h1, h2, ?_⟩
    rwa [Nat.zero_add] at h3
  mgx := fun c x hc => by
    obtain ⟨a, ha, q⟩ := (hx.at_ c).1 x hc
    dsimp only
    rw [show excOf e0 as c = a from (hl.subx ha 0).1]
    exact PySem.W.mg_of X G q.ns
  ex := fun c x hc => by
    obtain ⟨a, ha, q⟩ := (hx.at_ c).1 x hc
    dsimp only
    rw [show excOf e0 as c = a from (hl.subx ha 0).1]
    exact q.ex
  kp := fun c x hc => by
    obtain ⟨a, ha, q⟩ := (hx.at_ c).1 x hc
    dsimp only
    rw [show excOf e0 as c = a from (hl.subx ha 0).1]
    exact q.kp
  sub := fun c x hc => by
    obtain ⟨a, ha, q⟩ := (hx.at_ c).1 x hc
    dsimp only
    rw [show excOf e0 as c = a from (hl.subx ha 0).1, q.xf.sub]
    simp
  ty := fun c x hc => by
    obtain ⟨a, ha, q⟩ := (hx.at_ c).1 x hc
    dsimp only
    rw [show excOf e0 as c = a from (hl.subx ha 0).1]
    exact q.xf.ty
  exc := fun e => by
    obtain ⟨_, f, h2, _⟩ := hl.at_ e
    exact h2.excC hl.sp hl.tk
  val := fun e => by
    obtain ⟨_, f, h2, _⟩ := hl.at_ e
    exact h2.val
  kit := fun c x hc e => by
    obtain ⟨a, ha, q⟩ := (hx.at_ c).1 x hc
    obtain ⟨h1, f, g, h2, h3, h4⟩ := hl.subx ha e
    dsimp only
    rw [h1]
    exact h2.kit h3 _ h4
  exm := fun c x hc e => by
    obtain ⟨a, ha, q⟩ := (hx.at_ c).1 x hc
    obtain ⟨h1, f, g, h2, h3, h4⟩ := hl.subx ha e
    dsimp only
    rw [h1]
    exact h2.exm h3 _ h4
  ob := fun ho => by
    obtain ⟨h1, h2, h3⟩ := hc ho
    exact ⟨⟨h1, fun c f y hy => h2 c y (List.mem_of_getElem? hy), h3⟩, rfl⟩
  bt := fun x hx => PySem.W.mg_none_of X G (hb x hx)
/-- a def: its facts and its check -/
theorem fact_fn {T : Tn} {h : Heap} {mg : Str → Option Value} {gls xcs : List (Option Str)} {ob : Bool} {fnm : List Str} {E : List Ent} {D : List Dc} {d : Dc} {x : Str} {st : Stmt} {f : Addr} {fd : FuncData} {N ps : List Str} (X : T.K.In h) (G : h.Ns mainGlobals mg) (F : FnIn T.K x st f fd)
    (hb : ∀ (kV doc pm : Value) (an : Option Addr) (cdv ct : Value) (us : List Value), us.length = ps.length → bindArgs (PySem.W.fnOf x x (defArgs st) (defBody st) (defScope st) .none kV doc pm an cdv ct) ⟨us, []⟩ = pure (ps.zip us))
    (hs : scopeOk N ps (defScope st) = true) (hk : d.kind = 0) (h1 : d.np = ps.length) (h2 : d.nn = N.length) (hq : d.code.isQ = true) (hc : chkS ⟨N, E, gls, xcs, ob, fnm⟩ (defScope st) d.code (defBody st) = true) : Fact T mg gls xcs ob fnm E D d (.fn x) :=
  ⟨hk, f, fd, ps, ⟨x, x, st, N, F.fn, F.fn.binds hb, hs, h1, h2, hq, hc⟩, PySem.W.mg_of X G F.ns⟩
theorem fact_me {T : Tn} {mg : Str → Option Value} {gls xcs : List (Option Str)} {ob : Bool} {fnm : List Str} {E : List Ent} {D : List Dc} {d : Dc} {m qual : Str} {st : Stmt} {f : Addr} {fd : FuncData} {N ps : List Str} {c : Nat} {C : Addr} (F : MeIn T.K C m qual st f fd) (hC : T.cls c = C)
    (hb : ∀ (kV doc pm : Value) (an : Option Addr) (cdv ct : Value) (us : List Value), us.length = ps.length → bindArgs (PySem.W.fnOf m qual (defArgs st) (defBody st) (defScope st) .none kV doc pm an cdv ct) ⟨us, []⟩ = pure (ps.zip us))
    (hs : scopeOk N ps (defScope st) = true) (hk : d.kind = 1) (h1 : d.np = ps.length) (h2 : d.nn = N.length) (hq : d.code.isQ = true) (hc : chkS ⟨N, E, gls, xcs, ob, fnm⟩ (defScope st) d.code (defBody st) = true) : Fact T mg gls xcs ob fnm E D d (.me c m) := by
  subst hC
  exact ⟨hk, f, fd, ps, ⟨m, qual, st, N, F.fn, F.fn.binds hb, hs, h1, h2, hq, hc⟩, F.me⟩
theorem fact_mk {T : Tn} {h : Heap} {mg : Str → Option Value} {gls xcs : List (Option Str)} {ob : Bool} {fnm : List Str} {E : List Ent} {D : List Dc} {d d' : Dc} {x qual : Str} {st : Stmt} {f : Addr} {fd : FuncData} {c : Nat} {C : Addr} (X : T.K.In h) (G : h.Ns mainGlobals mg) (F : ClIn T.K x C) (I : MeIn T.K C "__init__" qual st f fd) (hC : T.cls c = C)
    (hk : d.kind = 2) (hd : d.cls = c) (h1 : D[d.init]? = some d') (h2 : E[d.init]? = some (.me c "__init__")) : Fact T mg gls xcs ob fnm E D d (.mk c x) := by
  subst hC
  exact ⟨hk, hd, f, d', ⟨F.makes, I.me.at_, I.me.fn, F.kp⟩, PySem.W.mg_of X G F.ns, h1, h2⟩
end BC

namespace BC
open PySem L2
def gls : List PyData := [(.int 4), (.int 4), (.int 256), (.int 65535), (.int 2), (.tuple [(.str "up"), (.str "down"), (.str "both")]), (.int 1000000000000000), (.int 300), (.int 60), (.str "-"), (.int 20), (.tuple [(.str "match"), (.str "turn")]), (.int 256), (.int 1000), (.int 20), (.int 1000000000), (.int 100), (.int 200), (.int 1000000), (.str "0123456789")]
def gl : Nat → PyData := fun g => gls.getD g .none
@[simp] theorem gl_0 : gl 0 = (.int 4) := rfl
@[simp] theorem gl_1 : gl 1 = (.int 4) := rfl
@[simp] theorem gl_2 : gl 2 = (.int 256) := rfl
@[simp] theorem gl_3 : gl 3 = (.int 65535) := rfl
@[simp] theorem gl_4 : gl 4 = (.int 2) := rfl
@[simp] theorem gl_5 : gl 5 = (.tuple [(.str "up"), (.str "down"), (.str "both")]) := rfl
@[simp] theorem gl_6 : gl 6 = (.int 1000000000000000) := rfl
@[simp] theorem gl_7 : gl 7 = (.int 300) := rfl
@[simp] theorem gl_8 : gl 8 = (.int 60) := rfl
@[simp] theorem gl_9 : gl 9 = (.str "-") := rfl
@[simp] theorem gl_10 : gl 10 = (.int 20) := rfl
@[simp] theorem gl_11 : gl 11 = (.tuple [(.str "match"), (.str "turn")]) := rfl
@[simp] theorem gl_12 : gl 12 = (.int 256) := rfl
@[simp] theorem gl_13 : gl 13 = (.int 1000) := rfl
@[simp] theorem gl_14 : gl 14 = (.int 20) := rfl
@[simp] theorem gl_15 : gl 15 = (.int 1000000000) := rfl
@[simp] theorem gl_16 : gl 16 = (.int 100) := rfl
@[simp] theorem gl_17 : gl 17 = (.int 200) := rfl
@[simp] theorem gl_18 : gl 18 = (.int 1000000) := rfl
@[simp] theorem gl_19 : gl 19 = (.str "0123456789") := rfl
def fnames : List Str := ["plan", "size", "place", "part", "turns", "caught", "stands", "timers", "lines", "beats", "past", "chip", "rules", "rows"]
def C_is_whole : Cd := (.seq (.ret (.and (.isi (.var 0) 0) (.and (.not (.isi (.var 0) 1)) (.one (.chain .le .le (.var 1) (.var 0) (.var 2)))))) (
.nil))
def C_is_truth : Cd := (.seq (.ret (.isi (.var 0) 1)) (
.nil))
def C_is_edge : Cd := (.seq (.ite (.isN (.var 0))
(.seq (.ret (.cst (.bool true))) (
.nil))
(.nil)) (
.seq (.ret (.and (.isi (.var 0) 3) (.and (.cmp .eq (.bf .len (.cons (.var 0) .nil)) (.cst (.int 2))) (.and (.call 0 0 (.cons (.idx (.var 0) (.cst (.int 0))) (.cons (.cst (.int 0)) (.cons (.bin .sub (.glob 1) (.cst (.int 1))) .nil)))) (.one (.call 1 0 (.cons (.idx (.var 0) (.cst (.int 1))) .nil))))))) (
.nil)))
def E_are_matches_0 : Xe := .comp (.sseq (.var 1)) [2] [2] .nil (.call 0 0 (.cons (.var 2) (.cons (.cst (.int 0)) (.cons (.var 0) .nil))))
def C_are_matches : Cd := (.seq (.ite (.or (.not (.isi (.var 1) 3)) (.or (.cmp .gt (.bf .len (.cons (.var 1) .nil)) (.glob 4)) (.one (.not (.bf .all (.cons E_are_matches_0 .nil))))))
(.seq (.ret (.cst (.bool false))) (
.nil))
(.nil)) (
.seq (.ret (.cmp .eq (.sset (.var 1)) (.bf .list (.cons (.var 1) .nil)))) (
.nil)))
def C_is_timer : Cd := (.seq (.ite (.or (.not (.isi (.var 1) 3)) (.one (.cmp .ne (.bf .len (.cons (.var 1) .nil)) (.cst (.int 8)))))
(.seq (.ret (.cst (.bool false))) (
.nil))
(.nil)) (
.seq (.asg (.names [2, 3, 4, 5, 6, 7, 8, 9]) (.var 1)) (
.seq (.ite (.and (.not (.and (.isi (.var 2) 2) (.one (.cmp .eq (.var 2) (.cst (.str "beat")))))) (.one (.not (.call 0 0 (.cons (.var 2) (.cons (.cst (.int 0)) (.cons (.bin .sub (.var 0) (.cst (.int 1))) .nil)))))))
(.seq (.ret (.cst (.bool false))) (
.nil))
(.nil)) (
.seq (.ite (.or (.not (.call 0 0 (.cons (.var 3) (.cons (.cst (.int 1)) (.cons (.glob 2) .nil))))) (.or (.not (.isi (.var 4) 2)) (.one (.cmp .notIn (.var 4) (.glob 5)))))
(.seq (.ret (.cst (.bool false))) (
.nil))
(.nil)) (
.seq (.ite (.or (.not (.call 0 0 (.cons (.var 5) (.cons (.cst (.int 1)) (.cons (.glob 3) .nil))))) (.or (.not (.call 2 0 (.cons (.var 6) .nil))) (.or (.not (.call 2 0 (.cons (.var 8) .nil))) (.one (.not (.call 1 0 (.cons (.var 9) .nil)))))))
(.seq (.ret (.cst (.bool false))) (
.nil))
(.nil)) (
.seq (.ret (.call 3 0 (.cons (.var 5) (.cons (.var 7) .nil)))) (
.nil)))))))
def E_look_plan_0 : Xe := .comp (.srng1 (.bf .len (.cons (.var 0) .nil))) [1] [1] .nil (.call 4 0 (.cons (.var 1) (.cons (.idx (.var 0) (.var 1)) .nil)))
def C_look_plan : Cd := (.seq (.ite (.or (.not (.isi (.var 0) 3)) (.one (.not (.chain .le .le (.cst (.int 1)) (.bf .len (.cons (.var 0) .nil)) (.glob 0)))))
(.seq (.raise 1) (
.nil))
(.nil)) (
.seq (.ite (.not (.bf .all (.cons E_look_plan_0 .nil)))
(.seq (.raise 1) (
.nil))
(.nil)) (
.nil)))
def C_round_of : Cd := (.seq (.ret (.ifx (.cmp .eq (.idx (.var 0) (.cst (.int 2))) (.cst (.str "both"))) (.bin .mul (.cst (.int 2)) (.idx (.var 0) (.cst (.int 3)))) (.bin .add (.idx (.var 0) (.cst (.int 3))) (.cst (.int 1))))) (
.nil))
def B_rounds_0 : Cd := (.seq (.asg (.name 10) (.ifx (.cmp .eq (.var 2) (.cst (.str "beat"))) (.cst (.int 1)) (.idx (.var 1) (.var 2)))) (
.seq (.asg (.name 11) (.bin .mul (.var 3) (.ifx (.cmp .eq (.var 4) (.cst (.str "both"))) (.bin .mul (.cst (.int 2)) (.var 5)) (.bin .add (.var 5) (.cst (.int 1)))))) (
.seq (.app 1 (.ifx (.or (.isN (.var 10)) (.one (.and (.cmp .ne (.var 2) (.cst (.str "beat"))) (.one (.idx (.idx (.var 0) (.var 2)) (.cst (.int 7))))))) (.cst .none) (.bin .mul (.var 10) (.var 11)))) (
.nil))))
def R_rounds_0 : Cd := .for_ (.names [2, 3, 4, 5, 6, 7, 8, 9]) (.sseq (.var 0)) B_rounds_0
def C_rounds : Cd := (.seq (.drop (.call 5 0 (.cons (.var 0) .nil))) (
.seq (.newL 1 .nil) (
.seq R_rounds_0 (
.seq (.ret (.frz 1)) (
.nil)))))
def C_begun : Cd := (.seq (.ret (.ifx (.cmp .eq (.idx (.var 0) (.cst (.int 2))) (.cst (.str "down"))) (.tup (.cons (.idx (.var 0) (.cst (.int 3))) (.cons (.cst (.bool true)) .nil))) (.tup (.cons (.cst (.int 0)) (.cons (.cst (.bool false)) .nil))))) (
.nil))
def C_place_of : Cd := (.seq (.asg (.names [3, 4]) (.slice (.var 0) (.cst (.int 2)) (.cst (.int 4)))) (
.seq (.ite (.cmp .eq (.var 3) (.cst (.str "up")))
(.seq (.ret (.var 1)) (
.nil))
(.nil)) (
.seq (.ite (.cmp .eq (.var 3) (.cst (.str "down")))
(.seq (.ret (.bin .sub (.var 4) (.var 1))) (
.nil))
(.nil)) (
.seq (.ret (.ifx (.var 2) (.bin .sub (.bin .mul (.cst (.int 2)) (.var 4)) (.var 1)) (.var 1))) (
.nil)))))
def C_at_place : Cd := (.seq (.asg (.names [2, 3]) (.slice (.var 0) (.cst (.int 2)) (.cst (.int 4)))) (
.seq (.ite (.cmp .eq (.var 2) (.cst (.str "up")))
(.seq (.ret (.tup (.cons (.var 1) (.cons (.cst (.bool false)) .nil)))) (
.nil))
(.nil)) (
.seq (.ite (.cmp .eq (.var 2) (.cst (.str "down")))
(.seq (.ret (.tup (.cons (.bin .sub (.var 3) (.var 1)) (.cons (.cst (.bool true)) .nil)))) (
.nil))
(.nil)) (
.seq (.ret (.ifx (.cmp .lt (.var 1) (.var 3)) (.tup (.cons (.var 1) (.cons (.cst (.bool false)) .nil))) (.tup (.cons (.bin .sub (.bin .mul (.cst (.int 2)) (.var 3)) (.var 1)) (.cons (.cst (.bool true)) .nil))))) (
.nil)))))
def B_match_places_0 : Cd := (.seq (.ite (.cmp .eq (.var 4) (.cst (.str "up")))
(.seq (.app 1 (.var 2)) (
.nil))
(.seq (.ite (.cmp .eq (.var 4) (.cst (.str "down")))
(.seq (.app 1 (.bin .sub (.var 5) (.var 2))) (
.nil))
(.seq (.ext 1 (.lst (.cons (.var 2) (.cons (.bin .sub (.bin .mul (.cst (.int 2)) (.var 5)) (.var 2)) .nil)))) (
.nil))) (
.nil))) (
.nil))
def R_match_places_0 : Cd := .for_ (.name 2) (.sseq (.var 7)) B_match_places_0
def E_match_places_0 : Xe := .comp (.sseq (.frz 1)) [2] [2] .nil (.bin .mod (.var 2) (.var 3))
def C_match_places : Cd := (.seq (.asg (.names [4, 5, 6, 7]) (.slice (.var 0) (.cst (.int 2)) (.cst (.int 6)))) (
.seq (.newL 1 .nil) (
.seq R_match_places_0 (
.seq (.asg (.name 3) (.ifx (.cmp .eq (.var 4) (.cst (.str "both"))) (.bin .mul (.cst (.int 2)) (.var 5)) (.bin .add (.var 5) (.cst (.int 1))))) (
.seq (.ret (.sset E_match_places_0)) (
.nil))))))
def E_to_match_0 : Xe := .comp (.sseq (.call 11 0 (.cons (.var 0) .nil))) [4] [4] .nil (.bin .add (.bin .mod (.bin .sub (.bin .sub (.var 4) (.var 1)) (.cst (.int 1))) (.var 2)) (.cst (.int 1)))
def C_to_match : Cd := (.seq (.asg (.name 3) E_to_match_0) (
.seq (.ret (.ifx (.var 3) (.bf .min1 (.cons (.var 3) .nil)) (.cst .none))) (
.nil)))
def C_Timer_init : Cd := (.seq (.setf (.var 0) 0 (.var 1)) (
.seq (.setf (.var 0) 1 (.call 6 0 (.cons (.var 1) .nil))) (
.seq (.asg (.names [2, 3]) (.call 8 0 (.cons (.var 1) .nil))) (
.seq (.setf (.var 0) 2 (.call 9 0 (.cons (.var 1) (.cons (.var 2) (.cons (.var 3) .nil))))) (
.seq (.setf (.var 0) 3 (.cst (.int 0))) (
.seq (.setf (.var 0) 4 (.cst (.int 0))) (
.seq (.setf (.var 0) 5 (.cst .none)) (
.seq (.setf (.var 0) 6 (.cst (.bool false))) (
.nil)))))))))
def C_Timer_held : Cd := (.seq (.ret (.tup (.cons (.fld (.var 0) 2) (.cons (.fld (.var 0) 3) (.cons (.fld (.var 0) 4) (.cons (.fld (.var 0) 5) (.cons (.fld (.var 0) 6) .nil))))))) (
.nil))
def C_Timer_restore : Cd := (.seq (.setfs 0 [2, 3, 4, 5, 6] (.var 1)) (
.nil))
def C_Timer_ticks_to : Cd := (.seq (.ret (.bin .sub (.bin .mul (.var 1) (.idx (.fld (.var 0) 0) (.cst (.int 1)))) (.fld (.var 0) 3))) (
.nil))
def C_Timer_tick : Cd := (.seq (.ite (.fld (.var 0) 6)
(.seq (.ret (.cst (.int 0))) (
.nil))
(.nil)) (
.seq (.asg (.name 2) (.bin .div (.bin .add (.fld (.var 0) 3) (.var 1)) (.idx (.fld (.var 0) 0) (.cst (.int 1))))) (
.seq (.asg (.name 3) (.bin .sub (.fld (.var 0) 1) (.fld (.var 0) 2))) (
.seq (.ite (.and (.idx (.fld (.var 0) 0) (.cst (.int 7))) (.one (.cmp .ge (.var 2) (.var 3))))
(.seq (.setfs 0 [3, 2, 6] (.tup (.cons (.cst (.int 0)) (.cons (.cst (.int 0)) (.cons (.cst (.bool true)) .nil))))) (
.seq (.setf (.var 0) 4 (.bin .add (.fld (.var 0) 4) (.cst (.int 1)))) (
.seq (.ret (.cst (.int 1))) (
.nil))))
(.nil)) (
.seq (.setf (.var 0) 3 (.bin .mod (.bin .add (.fld (.var 0) 3) (.var 1)) (.idx (.fld (.var 0) 0) (.cst (.int 1))))) (
.seq (.asg (.name 4) (.bin .div (.bin .add (.fld (.var 0) 2) (.var 2)) (.fld (.var 0) 1))) (
.seq (.setf (.var 0) 2 (.bin .mod (.bin .add (.fld (.var 0) 2) (.var 2)) (.fld (.var 0) 1))) (
.seq (.setf (.var 0) 4 (.bin .add (.fld (.var 0) 4) (.var 4))) (
.seq (.ret (.var 4)) (
.nil))))))))))
def C_Chip_init : Cd := (.seq (.drop (.call 5 0 (.cons (.var 1) .nil))) (
.seq (.setf (.var 0) 0 (.var 1)) (
.seq (.newFC (.var 0) 7 (.sseq (.var 1)) [2] [2] (.call 18 1 (.cons (.var 2) .nil))) (
.seq (.newFR (.var 0) 8 (.cst (.bool false)) (.glob 1)) (
.seq (.setf (.var 0) 9 (.cst (.int 0))) (
.seq (.newB (.var 0) 10) (
.nil)))))))
def C_Chip_look_timer : Cd := (.seq (.ite (.not (.call 0 0 (.cons (.var 1) (.cons (.cst (.int 0)) (.cons (.bin .sub (.bf .len (.cons (.fld (.var 0) 0) .nil)) (.cst (.int 1))) .nil)))))
(.seq (.raise 2) (
.nil))
(.nil)) (
.nil))
def C_Chip_keep : Cd := (.seq (.appE (.fld (.var 0) 10) (.meth 22 1 (.var 0) .nil)) (
.nil))
def E_Chip_now_0 : Xe := .comp (.sfl (.var 0) 7) [1] [1] .nil (.meth 14 0 (.var 1) .nil)
def C_Chip_now : Cd := (.seq (.ret (.tup (.cons E_Chip_now_0 (.cons (.fcopy (.var 0) 8) (.cons (.fld (.var 0) 9) .nil))))) (
.nil))
def B_Chip_restore_0 : Cd := (.seq (.drop (.meth 15 0 (.fidx (.var 0) 7 (.var 2)) (.cons (.idx (.idx (.var 1) (.cst (.int 0))) (.var 2)) .nil))) (
.nil))
def R_Chip_restore_0 : Cd := .for_ (.name 2) (.srng1 (.flen (.var 0) 7)) B_Chip_restore_0
def C_Chip_restore : Cd := (.seq R_Chip_restore_0 (
.seq (.newFO (.var 0) 8 (.idx (.var 1) (.cst (.int 1)))) (
.seq (.setf (.var 0) 9 (.idx (.var 1) (.cst (.int 2)))) (
.nil))))
def C_Chip_back : Cd := (.seq (.ite (.not (.fld (.var 0) 10))
(.seq (.raise 7) (
.nil))
(.nil)) (
.seq (.drop (.meth 23 1 (.var 0) (.cons (.popE (.fld (.var 0) 10)) .nil))) (
.nil)))
def C_Chip_beat : Cd := (.seq (.ret (.fld (.var 0) 9)) (
.nil))
def C_Chip_count : Cd := (.seq (.drop (.meth 20 1 (.var 0) (.cons (.var 1) .nil))) (
.seq (.ret (.idx (.call 10 0 (.cons (.idx (.fld (.var 0) 0) (.var 1)) (.cons (.fld (.fidx (.var 0) 7 (.var 1)) 2) .nil))) (.cst (.int 0)))) (
.nil)))
def C_Chip_state : Cd := (.seq (.drop (.meth 20 1 (.var 0) (.cons (.var 1) .nil))) (
.seq (.asg (.name 2) (.fidx (.var 0) 7 (.var 1))) (
.seq (.ret (.bin .add (.call 10 0 (.cons (.fld (.var 2) 0) (.cons (.fld (.var 2) 2) .nil))) (.tup (.cons (.fld (.var 2) 3) (.cons (.fld (.var 2) 4) (.cons (.fld (.var 2) 5) (.cons (.fld (.var 2) 6) .nil))))))) (
.nil))))
def C_Chip_is_open : Cd := (.seq (.asg (.name 2) (.idx (.idx (.fld (.var 0) 0) (.var 1)) (.cst (.int 4)))) (
.seq (.ret (.and (.not (.fld (.fidx (.var 0) 7 (.var 1)) 6)) (.one (.or (.isN (.var 2)) (.one (.cmp .eq (.oidx (.var 0) 8 (.idx (.var 2) (.cst (.int 0)))) (.idx (.var 2) (.cst (.int 1))))))))) (
.nil)))
def B_Chip_pass_by_0 : Cd := (.seq (.asg (.name 4) (.idx (.idx (.fld (.var 0) 0) (.var 3)) (.cst (.int 0)))) (
.seq (.asg (.name 5) (.ifx (.cmp .eq (.var 4) (.cst (.str "beat"))) (.var 1) (.idx (.var 2) (.var 4)))) (
.seq (.app 2 (.ifx (.meth 28 1 (.var 0) (.cons (.var 3) .nil)) (.meth 17 0 (.fidx (.var 0) 7 (.var 3)) (.cons (.var 5) .nil)) (.cst (.int 0)))) (
.nil))))
def R_Chip_pass_by_0 : Cd := .for_ (.name 3) (.srng1 (.flen (.var 0) 7)) B_Chip_pass_by_0
def C_Chip_pass_by : Cd := (.seq (.newL 2 .nil) (
.seq R_Chip_pass_by_0 (
.seq (.setf (.var 0) 9 (.bin .add (.fld (.var 0) 9) (.var 1))) (
.nil))))
def C_Chip_go : Cd := (.seq (.ite (.not (.call 0 0 (.cons (.var 1) (.cons (.cst (.int 0)) (.cons (.glob 6) .nil)))))
(.seq (.raise 4) (
.nil))
(.nil)) (
.seq (.drop (.meth 21 1 (.var 0) .nil)) (
.seq (.drop (.meth 29 1 (.var 0) (.cons (.var 1) .nil))) (
.nil))))
def B_Chip_put_0 : Cd := (.seq (.ite (.cmp .eq (.idx (.idx (.fld (.var 0) 0) (.var 4)) (.cst (.int 6))) (.tup (.cons (.var 1) (.cons (.var 2) .nil))))
(.seq (.setf (.fidx (.var 0) 7 (.var 4)) 5 (.meth 26 1 (.var 0) (.cons (.var 4) .nil))) (
.seq (.app 3 (.var 4)) (
.nil)))
(.nil)) (
.nil))
def R_Chip_put_0 : Cd := .for_ (.name 4) (.srng1 (.bf .len (.cons (.fld (.var 0) 0) .nil))) B_Chip_put_0
def C_Chip_put : Cd := (.seq (.ite (.or (.not (.call 0 0 (.cons (.var 1) (.cons (.cst (.int 0)) (.cons (.bin .sub (.glob 1) (.cst (.int 1))) .nil))))) (.one (.not (.call 1 0 (.cons (.var 2) .nil)))))
(.seq (.raise 3) (
.nil))
(.nil)) (
.seq (.drop (.meth 21 1 (.var 0) .nil)) (
.seq (.newL 3 .nil) (
.seq (.ite (.cmp .ne (.oidx (.var 0) 8 (.var 1)) (.var 2))
(.seq (.fset (.var 0) 8 (.var 1) (.var 2)) (
.seq R_Chip_put_0 (
.nil)))
(.nil)) (
.seq (.ret (.frz 3)) (
.nil))))))
def C_Chip_write : Cd := (.seq (.drop (.meth 20 1 (.var 0) (.cons (.var 1) .nil))) (
.seq (.asg (.name 3) (.idx (.fld (.var 0) 0) (.var 1))) (
.seq (.ite (.not (.call 0 0 (.cons (.var 2) (.cons (.cst (.int 0)) (.cons (.idx (.var 3) (.cst (.int 3))) .nil)))))
(.seq (.raise 4) (
.nil))
(.nil)) (
.seq (.drop (.meth 21 1 (.var 0) .nil)) (
.seq (.asg (.name 4) (.fidx (.var 0) 7 (.var 1))) (
.seq (.setf (.var 4) 2 (.call 9 0 (.cons (.var 3) (.cons (.var 2) (.cons (.cst (.bool false)) .nil))))) (
.seq (.setf (.var 4) 3 (.cst (.int 0))) (
.seq (.setf (.var 4) 6 (.cst (.bool false))) (
.nil)))))))))
def C_Chip_beats_to_turns : Cd := (.seq (.asg (.name 3) (.fidx (.var 0) 7 (.var 1))) (
.seq (.ite (.or (.not (.meth 28 1 (.var 0) (.cons (.var 1) .nil))) (.one (.and (.idx (.fld (.var 3) 0) (.cst (.int 7))) (.one (.cmp .gt (.var 2) (.cst (.int 1)))))))
(.seq (.ret (.cst .none)) (
.nil))
(.nil)) (
.seq (.asg (.name 4) (.bin .add (.bin .sub (.fld (.var 3) 1) (.fld (.var 3) 2)) (.bin .mul (.bin .sub (.var 2) (.cst (.int 1))) (.fld (.var 3) 1)))) (
.seq (.ret (.meth 34 1 (.var 0) (.cons (.var 1) (.cons (.meth 16 0 (.var 3) (.cons (.var 4) .nil)) .nil)))) (
.nil)))))
def C_Chip_beats_to_ticks : Cd := (.seq (.asg (.name 3) (.idx (.idx (.fld (.var 0) 0) (.var 1)) (.cst (.int 0)))) (
.seq (.ret (.ifx (.cmp .eq (.var 3) (.cst (.str "beat"))) (.var 2) (.meth 33 1 (.var 0) (.cons (.var 3) (.cons (.var 2) .nil))))) (
.nil)))
def E_Chip_waking_0 : Xe := .comp (.sseq (.var 3)) [5] [5] (.isNot (.var 5)) (.var 5)
def C_Chip_waking : Cd := (.seq (.asg (.name 2) (.fidx (.var 0) 7 (.var 1))) (
.seq (.ite (.not (.meth 28 1 (.var 0) (.cons (.var 1) .nil)))
(.seq (.ret (.cst .none)) (
.nil))
(.nil)) (
.seq (.asg (.name 3) (.lst (.cons (.bin .sub (.fld (.var 2) 1) (.fld (.var 2) 2)) (.cons (.call 12 0 (.cons (.fld (.var 2) 0) (.cons (.fld (.var 2) 2) (.cons (.fld (.var 2) 1) .nil)))) .nil)))) (
.seq (.asg (.name 4) (.bf .min1 (.cons E_Chip_waking_0 .nil))) (
.seq (.ret (.meth 34 1 (.var 0) (.cons (.var 1) (.cons (.meth 16 0 (.var 2) (.cons (.var 4) .nil)) .nil)))) (
.nil))))))
def E_Chip_next_waking_0 : Xe := .comp (.srng1 (.bf .len (.cons (.fld (.var 0) 0) .nil))) [2] [2] .nil (.meth 35 1 (.var 0) (.cons (.var 2) .nil))
def E_Chip_next_waking_1 : Xe := .comp (.sseq (.var 1)) [3] [3] (.isNot (.var 3)) (.var 3)
def C_Chip_next_waking : Cd := (.seq (.asg (.name 1) E_Chip_next_waking_0) (
.seq (.asg (.name 1) E_Chip_next_waking_1) (
.seq (.ret (.ifx (.var 1) (.bf .min1 (.cons (.var 1) .nil)) (.cst .none))) (
.nil))))
def B_Chip_events_now_0 : Cd := (.seq (.asg (.name 4) (.fidx (.var 0) 7 (.var 3))) (
.seq (.asg (.name 5) (.idx (.call 10 0 (.cons (.fld (.var 4) 0) (.cons (.fld (.var 4) 2) .nil))) (.cst (.int 0)))) (
.seq (.asg (.names [6, 7, 8]) (.slice (.idx (.var 1) (.var 3)) .nil (.cst (.int 3)))) (
.seq (.ite (.cmp .ne (.tup (.cons (.fld (.var 4) 2) (.cons (.fld (.var 4) 4) .nil))) (.tup (.cons (.var 6) (.cons (.var 8) .nil))))
(.seq (.ext 2 (.ifx (.cmp .isIn (.var 5) (.idx (.fld (.var 4) 0) (.cst (.int 5)))) (.lst (.cons (.tup (.cons (.fld (.var 0) 9) (.cons (.var 3) (.cons (.cst (.str "match")) (.cons (.var 5) .nil))))) .nil)) (.lst .nil))) (
.seq (.ext 2 (.ifx (.cmp .gt (.fld (.var 4) 4) (.var 8)) (.lst (.cons (.tup (.cons (.fld (.var 0) 9) (.cons (.var 3) (.cons (.cst (.str "turn")) (.cons (.var 5) .nil))))) .nil)) (.lst .nil))) (
.nil)))
(.nil)) (
.nil)))))
def R_Chip_events_now_0 : Cd := .for_ (.name 3) (.srng1 (.bf .len (.cons (.fld (.var 0) 0) .nil))) B_Chip_events_now_0
def C_Chip_events_now : Cd := (.seq (.newL 2 .nil) (
.seq R_Chip_events_now_0 (
.seq (.ret (.frz 2)) (
.nil))))
def E_Chip_ahead_0 : Xe := .comp (.sfl (.var 0) 7) [7] [7] .nil (.meth 14 0 (.var 7) .nil)
def B_Chip_ahead_0 : Cd := (.seq (.asg (.name 5) (.meth 36 1 (.var 0) .nil)) (
.seq (.ite (.or (.isN (.var 5)) (.or (.cmp .gt (.bin .add (.fld (.var 0) 9) (.var 5)) (.var 3)) (.one (.cmp .gt (.bf .len (.cons (.var 4) .nil)) (.glob 7)))))
(.seq .brk (
.nil))
(.nil)) (
.seq (.drop (.meth 29 1 (.var 0) (.cons (.bin .sub (.var 5) (.cst (.int 1))) .nil))) (
.seq (.asg (.name 6) E_Chip_ahead_0) (
.seq (.drop (.meth 29 1 (.var 0) (.cons (.cst (.int 1)) .nil))) (
.seq (.ext 4 (.meth 37 1 (.var 0) (.cons (.var 6) .nil))) (
.nil)))))))
def R_Chip_ahead_0 : Cd := .whl 1000000 (.cst (.bool true)) B_Chip_ahead_0
def C_Chip_ahead : Cd := (.seq (.ite (.not (.call 0 0 (.cons (.var 1) (.cons (.cst (.int 0)) (.cons (.glob 6) .nil)))))
(.seq (.raise 4) (
.nil))
(.nil)) (
.seq (.asg (.name 2) (.meth 22 1 (.var 0) .nil)) (
.seq (.asg (.name 3) (.bin .add (.fld (.var 0) 9) (.var 1))) (
.seq (.newL 4 .nil) (
.seq R_Chip_ahead_0 (
.seq (.drop (.meth 23 1 (.var 0) (.cons (.var 2) .nil))) (
.seq (.ite (.cmp .gt (.bf .len (.cons (.var 4) .nil)) (.glob 7))
(.seq (.raise 5) (
.nil))
(.nil)) (
.seq (.ret (.frz 4)) (
.nil)))))))))
def C_is_deed : Cd := (.seq (.ite (.or (.not (.isi (.var 0) 3)) (.or (.cmp .lt (.bf .len (.cons (.var 0) .nil)) (.cst (.int 2))) (.one (.not (.isi (.idx (.var 0) (.cst (.int 0))) 2)))))
(.seq (.ret (.cst (.bool false))) (
.nil))
(.nil)) (
.seq (.ret (.cmp .eq (.bf .len (.cons (.var 0) .nil)) (.dget (.lst (.cons (.tup (.cons (.cst (.str "go")) (.cons (.cst (.int 2)) .nil))) (.cons (.tup (.cons (.cst (.str "put")) (.cons (.cst (.int 3)) .nil))) (.cons (.tup (.cons (.cst (.str "write")) (.cons (.cst (.int 3)) .nil))) .nil)))) (.idx (.var 0) (.cst (.int 0))) (.cst (.int 0))))) (
.nil)))
def E_look_deeds_0 : Xe := .comp (.sseq (.var 0)) [1] [1] .nil (.call 40 0 (.cons (.var 1) .nil))
def C_look_deeds : Cd := (.seq (.ite (.or (.not (.isi (.var 0) 4)) (.or (.cmp .gt (.bf .len (.cons (.var 0) .nil)) (.glob 8)) (.one (.not (.bf .all (.cons E_look_deeds_0 .nil))))))
(.seq (.raise 4) (
.nil))
(.nil)) (
.nil))
def E_done_0 : Xe := .comp (.sseq (.meth 31 1 (.var 0) (.cons (.idx (.var 1) (.cst (.int 1))) (.cons (.idx (.var 1) (.cst (.int 2))) .nil)))) [3] [3] .nil (.tup (.cons (.meth 25 1 (.var 0) .nil) (.cons (.var 3) (.cons (.cst (.str "catch")) (.cons (.meth 26 1 (.var 0) (.cons (.var 3) .nil)) .nil)))))
def C_done : Cd := (.seq (.ite (.cmp .eq (.idx (.var 1) (.cst (.int 0))) (.cst (.str "go")))
(.seq (.asg (.name 2) (.meth 38 1 (.var 0) (.cons (.idx (.var 1) (.cst (.int 1))) .nil))) (
.seq (.drop (.meth 30 1 (.var 0) (.cons (.idx (.var 1) (.cst (.int 1))) .nil))) (
.seq (.ret (.var 2)) (
.nil))))
(.nil)) (
.seq (.ite (.cmp .eq (.idx (.var 1) (.cst (.int 0))) (.cst (.str "put")))
(.seq (.ret E_done_0) (
.nil))
(.nil)) (
.seq (.drop (.meth 32 1 (.var 0) (.cons (.idx (.var 1) (.cst (.int 1))) (.cons (.idx (.var 1) (.cst (.int 2))) .nil)))) (
.seq (.ret (.lst .nil)) (
.nil)))))
def B_events_0 : Cd := (.seq (.ext 3 (.call 42 0 (.cons (.var 2) (.cons (.var 4) .nil)))) (
.seq (.ite (.cmp .gt (.bf .len (.cons (.var 3) .nil)) (.glob 7))
(.seq (.raise 5) (
.nil))
(.nil)) (
.nil)))
def R_events_0 : Cd := .for_ (.name 4) (.sseq (.var 1)) B_events_0
def C_events : Cd := (.seq (.asg (.name 2) (.call 39 0 (.cons (.var 0) .nil))) (
.seq (.drop (.call 41 0 (.cons (.var 1) .nil))) (
.seq (.newL 3 .nil) (
.seq R_events_0 (
.seq (.ret (.frz 3)) (
.nil))))))
def B_behind_0 : Cd := (.seq (.ite (.cmp .eq (.idx (.var 3) (.cst (.int 0))) (.cst (.str "go")))
(.seq (.drop (.meth 30 1 (.var 2) (.cons (.idx (.var 3) (.cst (.int 1))) .nil))) (
.nil))
(.seq (.drop (.call 42 0 (.cons (.var 2) (.cons (.var 3) .nil)))) (
.nil))) (
.nil))
def R_behind_0 : Cd := .for_ (.name 3) (.sseq (.var 1)) B_behind_0
def E_behind_0 : Xe := .comp (.srng1 (.bf .len (.cons (.var 0) .nil))) [4] [4] .nil (.meth 27 1 (.var 2) (.cons (.var 4) .nil))
def C_behind : Cd := (.seq (.asg (.name 2) (.call 39 0 (.cons (.var 0) .nil))) (
.seq (.drop (.call 41 0 (.cons (.var 1) .nil))) (
.seq R_behind_0 (
.seq (.ret E_behind_0) (
.nil)))))
def E_first_time_0 : Xe := .comp (.sseq (.call 43 0 (.cons (.var 0) (.cons (.var 1) .nil)))) [6] [6] (.cmp .eq (.slice (.var 6) (.cst (.int 1)) (.cst (.int 3))) (.tup (.cons (.var 2) (.cons (.var 3) .nil)))) (.idx (.var 6) (.cst (.int 0)))
def C_first_time : Cd := (.seq (.asg (.name 4) (.call 39 0 (.cons (.var 0) .nil))) (
.seq (.drop (.meth 20 1 (.var 4) (.cons (.var 2) .nil))) (
.seq (.drop (.call 41 0 (.cons (.var 1) .nil))) (
.seq (.ite (.or (.not (.isi (.var 3) 2)) (.one (.cmp .notIn (.var 3) (.tup (.cons (.cst (.str "match")) (.cons (.cst (.str "turn")) (.cons (.cst (.str "catch")) .nil)))))))
(.seq (.raise 4) (
.nil))
(.nil)) (
.seq (.asg (.name 5) E_first_time_0) (
.seq (.ret (.ifx (.var 5) (.idx (.var 5) (.cst (.int 0))) (.cst .none))) (
.nil)))))))
def C_edge_text : Cd := (.seq (.ret (.ifx (.isN (.var 0)) (.glob 9) (.bin .add (.bf .str (.cons (.idx (.var 0) (.cst (.int 0))) .nil)) (.ifx (.idx (.var 0) (.cst (.int 1))) (.cst (.str "+")) (.cst (.str "=")))))) (
.nil))
def E_timer_text_0 : Xe := .comp (.sseq (.var 7)) [10] [10] .nil (.bf .str (.cons (.var 10) .nil))
def C_timer_text : Cd := (.seq (.asg (.names [2, 3, 4, 5, 6, 7, 8, 9]) (.var 0)) (
.seq (.newL 1 (.cons (.bf .str (.cons (.var 2) .nil)) (.cons (.bf .str (.cons (.var 3) .nil)) (.cons (.var 4) (.cons (.bf .str (.cons (.var 5) .nil)) (.cons (.call 46 0 (.cons (.var 6) .nil)) .nil)))))) (
.seq (.app 1 (.ifx (.var 7) (.mt .join (.cst (.str ",")) (.cons E_timer_text_0 .nil)) (.glob 9))) (
.seq (.ret (.mt .join (.cst (.str " ")) (.cons (.bin .add (.var 1) (.lst (.cons (.call 46 0 (.cons (.var 8) .nil)) (.cons (.ifx (.var 9) (.cst (.str "once")) (.cst (.str "on"))) .nil)))) .nil))) (
.nil)))))
def E_written_0 : Xe := .comp (.sseq (.var 0)) [1] [1] .nil (.call 47 0 (.cons (.var 1) .nil))
def C_written : Cd := (.seq (.drop (.call 5 0 (.cons (.var 0) .nil))) (
.seq (.ret (.mt .join (.cst (.str "|")) (.cons E_written_0 .nil))) (
.nil)))
def C_is_act : Cd := (.seq (.ite (.or (.not (.isi (.var 1) 3)) (.or (.cmp .ne (.bf .len (.cons (.var 1) .nil)) (.cst (.int 3))) (.one (.not (.isi (.idx (.var 1) (.cst (.int 0))) 2)))))
(.seq (.ret (.cst (.bool false))) (
.nil))
(.nil)) (
.seq (.ite (.cmp .eq (.idx (.var 1) (.cst (.int 0))) (.cst (.str "put")))
(.seq (.ret (.and (.call 0 0 (.cons (.idx (.var 1) (.cst (.int 1))) (.cons (.cst (.int 0)) (.cons (.bin .sub (.glob 1) (.cst (.int 1))) .nil)))) (.one (.call 1 0 (.cons (.idx (.var 1) (.cst (.int 2))) .nil))))) (
.nil))
(.nil)) (
.seq (.ite (.or (.cmp .ne (.idx (.var 1) (.cst (.int 0))) (.cst (.str "write"))) (.one (.not (.call 0 0 (.cons (.idx (.var 1) (.cst (.int 1))) (.cons (.cst (.int 0)) (.cons (.bin .sub (.bf .len (.cons (.var 0) .nil)) (.cst (.int 1))) .nil)))))))
(.seq (.ret (.cst (.bool false))) (
.nil))
(.nil)) (
.seq (.ret (.call 0 0 (.cons (.idx (.var 1) (.cst (.int 2))) (.cons (.cst (.int 0)) (.cons (.idx (.idx (.var 0) (.idx (.var 1) (.cst (.int 1)))) (.cst (.int 3))) .nil))))) (
.nil)))))
def C_is_rule : Cd := (.seq (.ite (.or (.not (.isi (.var 1) 3)) (.or (.cmp .ne (.bf .len (.cons (.var 1) .nil)) (.cst (.int 3))) (.one (.not (.call 0 0 (.cons (.idx (.var 1) (.cst (.int 0))) (.cons (.cst (.int 0)) (.cons (.bin .sub (.bf .len (.cons (.var 0) .nil)) (.cst (.int 1))) .nil))))))))
(.seq (.ret (.cst (.bool false))) (
.nil))
(.nil)) (
.seq (.ret (.and (.isi (.idx (.var 1) (.cst (.int 1))) 2) (.and (.cmp .isIn (.idx (.var 1) (.cst (.int 1))) (.glob 11)) (.one (.call 49 0 (.cons (.var 0) (.cons (.idx (.var 1) (.cst (.int 2))) .nil))))))) (
.nil)))
def E_look_rules_0 : Xe := .comp (.sseq (.var 1)) [2] [2] .nil (.call 50 0 (.cons (.var 0) (.cons (.var 2) .nil)))
def C_look_rules : Cd := (.seq (.ite (.or (.not (.isi (.var 1) 4)) (.or (.cmp .gt (.bf .len (.cons (.var 1) .nil)) (.glob 10)) (.one (.not (.bf .all (.cons E_look_rules_0 .nil))))))
(.seq (.raise 9) (
.nil))
(.nil)) (
.nil))
def C_Ruled_init : Cd := (.seq (.setf (.var 0) 11 (.call 39 1 (.cons (.var 1) .nil))) (
.seq (.drop (.call 51 0 (.cons (.var 1) (.cons (.var 2) .nil)))) (
.seq (.setf (.var 0) 12 (.var 2)) (
.seq (.newB (.var 0) 13) (
.nil)))))
def C_Ruled_tell : Cd := (.seq (.appE (.fld (.var 0) 13) (.tup (.cons (.meth 25 1 (.fld (.var 0) 11) .nil) (.cons (.var 1) (.cons (.var 2) (.cons (.meth 26 1 (.fld (.var 0) 11) (.cons (.var 1) .nil)) .nil)))))) (
.seq (.ite (.cmp .gt (.bf .len (.cons (.fld (.var 0) 13) .nil)) (.glob 7))
(.seq (.raise 5) (
.nil))
(.nil)) (
.nil)))
def B_Ruled_note_0 : Cd := (.seq (.ite (.cmp .eq (.tup (.cons (.var 3) (.cons (.var 4) .nil))) (.tup (.cons (.var 1) (.cons (.var 2) .nil))))
(.seq (.drop (.meth 55 2 (.var 0) (.cons (.var 5) .nil))) (
.nil))
(.nil)) (
.nil))
def R_Ruled_note_0 : Cd := .for_ (.names [3, 4, 5]) (.sseq (.fld (.var 0) 12)) B_Ruled_note_0
def C_Ruled_note : Cd := (.seq (.drop (.meth 53 2 (.var 0) (.cons (.var 1) (.cons (.var 2) .nil)))) (
.seq R_Ruled_note_0 (
.nil)))
def B_Ruled_do_0 : Cd := (.seq (.drop (.meth 53 2 (.var 0) (.cons (.var 2) (.cons (.cst (.str "catch")) .nil)))) (
.nil))
def R_Ruled_do_0 : Cd := .for_ (.name 2) (.sseq (.meth 31 1 (.fld (.var 0) 11) (.cons (.idx (.var 1) (.cst (.int 1))) (.cons (.idx (.var 1) (.cst (.int 2))) .nil)))) B_Ruled_do_0
def C_Ruled_do : Cd := (.seq (.ite (.cmp .eq (.idx (.var 1) (.cst (.int 0))) (.cst (.str "write")))
(.seq (.drop (.meth 32 1 (.fld (.var 0) 11) (.cons (.idx (.var 1) (.cst (.int 1))) (.cons (.idx (.var 1) (.cst (.int 2))) .nil)))) (
.nil))
(.seq R_Ruled_do_0 (
.nil))) (
.nil))
def B_Ruled_go_1 : Cd := (.seq (.drop (.meth 54 2 (.var 0) (.cons (.var 6) (.cons (.var 7) .nil)))) (
.nil))
def R_Ruled_go_1 : Cd := .for_ (.names [5, 6, 7, 8]) (.sseq (.var 4)) B_Ruled_go_1
def B_Ruled_go_0 : Cd := (.seq (.asg (.name 3) (.meth 36 1 (.fld (.var 0) 11) .nil)) (
.seq (.ite (.or (.isN (.var 3)) (.one (.cmp .gt (.bin .add (.meth 25 1 (.fld (.var 0) 11) .nil) (.var 3)) (.var 2))))
(.seq .brk (
.nil))
(.nil)) (
.seq (.drop (.meth 30 1 (.fld (.var 0) 11) (.cons (.bin .sub (.var 3) (.cst (.int 1))) .nil))) (
.seq (.asg (.name 4) (.meth 38 1 (.fld (.var 0) 11) (.cons (.cst (.int 1)) .nil))) (
.seq (.drop (.meth 30 1 (.fld (.var 0) 11) (.cons (.cst (.int 1)) .nil))) (
.seq R_Ruled_go_1 (
.nil)))))))
def R_Ruled_go_0 : Cd := .whl 1000000 (.cst (.bool true)) B_Ruled_go_0
def C_Ruled_go : Cd := (.seq (.asg (.name 2) (.bin .add (.meth 25 1 (.fld (.var 0) 11) .nil) (.var 1))) (
.seq R_Ruled_go_0 (
.seq (.drop (.meth 30 1 (.fld (.var 0) 11) (.cons (.bin .sub (.var 2) (.meth 25 1 (.fld (.var 0) 11) .nil)) .nil))) (
.nil))))
def C_ruled : Cd := (.seq (.asg (.name 3) (.call 57 0 (.cons (.var 0) (.cons (.var 1) .nil)))) (
.seq (.ite (.not (.call 0 0 (.cons (.var 2) (.cons (.cst (.int 0)) (.cons (.glob 6) .nil)))))
(.seq (.raise 4) (
.nil))
(.nil)) (
.seq (.drop (.meth 56 2 (.var 3) (.cons (.var 2) .nil))) (
.seq (.ret (.fld (.var 3) 13)) (
.nil)))))
def E_ruled_to_0 : Xe := .comp (.srng1 (.bf .len (.cons (.var 0) .nil))) [4] [4] .nil (.meth 27 1 (.fld (.var 3) 11) (.cons (.var 4) .nil))
def C_ruled_to : Cd := (.seq (.asg (.name 3) (.call 57 0 (.cons (.var 0) (.cons (.var 1) .nil)))) (
.seq (.ite (.not (.call 0 0 (.cons (.var 2) (.cons (.cst (.int 0)) (.cons (.glob 6) .nil)))))
(.seq (.raise 4) (
.nil))
(.nil)) (
.seq (.drop (.meth 56 2 (.var 3) (.cons (.var 2) .nil))) (
.seq (.ret E_ruled_to_0) (
.nil)))))
def C_look_wave : Cd := (.seq (.asg (.name 3) (.call 39 0 (.cons (.var 0) .nil))) (
.seq (.drop (.meth 20 1 (.var 3) (.cons (.var 1) .nil))) (
.seq (.ite (.not (.call 0 0 (.cons (.var 2) (.cons (.cst (.int 0)) (.cons (.glob 6) .nil)))))
(.seq (.raise 4) (
.nil))
(.nil)) (
.seq (.ret (.var 3)) (
.nil)))))
def B_wave_0 : Cd := (.seq (.ite (.cmp .eq (.var 7) (.var 1))
(.seq (.asg (.name 10) (.ifx (.cmp .eq (.var 8) (.cst (.str "match"))) (.not (.var 5)) (.cst (.bool false)))) (
.seq (.ite (.and (.var 4) (.one (.cmp .eq (.idx (.idx (.var 4) (.neg (.cst (.int 1)))) (.cst (.int 0))) (.var 6))))
(.seq (.drop (.pop 4)) (
.nil))
(.nil)) (
.seq (.ite (.cmp .ne (.var 10) (.ifx (.var 4) (.idx (.idx (.var 4) (.neg (.cst (.int 1)))) (.cst (.int 1))) (.cst (.bool false))))
(.seq (.app 4 (.tup (.cons (.var 6) (.cons (.var 10) .nil)))) (
.nil))
(.nil)) (
.seq (.asg (.name 5) (.var 10)) (
.nil)))))
(.nil)) (
.nil))
def R_wave_0 : Cd := .for_ (.names [6, 7, 8, 9]) (.sseq (.meth 38 1 (.var 3) (.cons (.var 2) .nil))) B_wave_0
def C_wave : Cd := (.seq (.asg (.name 3) (.call 60 0 (.cons (.var 0) (.cons (.var 1) (.cons (.var 2) .nil))))) (
.seq (.newL 4 .nil) (
.seq (.asg (.name 5) (.cst (.bool false))) (
.seq R_wave_0 (
.seq (.ret (.frz 4)) (
.nil))))))
def B_lit_0 : Cd := (.seq (.ite (.idx (.idx (.var 3) (.var 5)) (.cst (.int 1)))
(.seq (.asg (.name 4) (.bin .sub (.bin .add (.var 4) (.ifx (.cmp .lt (.bin .add (.var 5) (.cst (.int 1))) (.bf .len (.cons (.var 3) .nil))) (.idx (.idx (.var 3) (.bin .add (.var 5) (.cst (.int 1)))) (.cst (.int 0))) (.bin .add (.var 2) (.cst (.int 1))))) (.idx (.idx (.var 3) (.var 5)) (.cst (.int 0))))) (
.nil))
(.nil)) (
.nil))
def R_lit_0 : Cd := .for_ (.name 5) (.srng1 (.bf .len (.cons (.var 3) .nil))) B_lit_0
def C_lit : Cd := (.seq (.asg (.name 3) (.call 61 0 (.cons (.var 0) (.cons (.var 1) (.cons (.var 2) .nil))))) (
.seq (.asg (.name 4) (.cst (.int 0))) (
.seq R_lit_0 (
.seq (.ret (.var 4)) (
.nil)))))
def B_together_0 : Cd := (.seq (.ite (.not (.call 0 0 (.cons (.var 4) (.cons (.cst (.int 0)) (.cons (.bin .sub (.bf .len (.cons (.var 0) .nil)) (.cst (.int 1))) .nil)))))
(.seq (.raise 2) (
.nil))
(.nil)) (
.nil))
def R_together_0 : Cd := .for_ (.name 4) (.sseq (.tup (.cons (.var 1) (.cons (.var 2) .nil)))) B_together_0
def B_together_1 : Cd := (.seq (.par 5 6 (.var 6) (.bin .mod (.var 5) (.var 6))) (
.nil))
def R_together_1 : Cd := .whl 1000000 (.var 6) B_together_1
def C_together : Cd := (.seq (.asg (.name 3) (.call 7 0 (.cons (.var 0) .nil))) (
.seq R_together_0 (
.seq (.ite (.or (.isN (.idx (.var 3) (.var 1))) (.one (.isN (.idx (.var 3) (.var 2)))))
(.seq (.ret (.cst .none)) (
.nil))
(.nil)) (
.seq (.par 5 6 (.idx (.var 3) (.var 1)) (.idx (.var 3) (.var 2))) (
.seq R_together_1 (
.seq (.ret (.bin .mul (.bin .div (.idx (.var 3) (.var 1)) (.var 5)) (.idx (.var 3) (.var 2)))) (
.nil)))))))
def C_look_gap : Cd := (.seq (.ite (.not (.call 0 0 (.cons (.var 0) (.cons (.cst (.int 0)) (.cons (.glob 13) .nil)))))
(.seq (.raise 4) (
.nil))
(.nil)) (
.nil))
def C_high_half : Cd := (.seq (.ret (.bin .div (.meth 26 1 (.var 0) (.cons (.var 1) .nil)) (.glob 12))) (
.nil))
def C_low_half : Cd := (.seq (.ret (.bin .mod (.meth 26 1 (.var 0) (.cons (.var 1) .nil)) (.glob 12))) (
.nil))
def C_torn : Cd := (.seq (.asg (.name 3) (.call 65 0 (.cons (.var 0) (.cons (.var 1) .nil)))) (
.seq (.drop (.call 64 0 (.cons (.var 2) .nil))) (
.seq (.drop (.meth 30 1 (.var 0) (.cons (.var 2) .nil))) (
.seq (.ret (.bin .add (.bin .mul (.var 3) (.glob 12)) (.call 66 0 (.cons (.var 0) (.cons (.var 1) .nil))))) (
.nil)))))
def B_safe_0 : Cd := (.seq (.drop (.meth 30 1 (.var 0) (.cons (.var 2) .nil))) (
.seq (.asg (.name 6) (.call 66 0 (.cons (.var 0) (.cons (.var 1) .nil)))) (
.seq (.drop (.meth 30 1 (.var 0) (.cons (.var 2) .nil))) (
.seq (.asg (.name 7) (.call 65 0 (.cons (.var 0) (.cons (.var 1) .nil)))) (
.seq (.ite (.cmp .eq (.var 7) (.var 4))
(.seq (.ret (.tup (.cons (.bin .add (.bin .mul (.var 4) (.glob 12)) (.var 6)) (.cons (.var 5) .nil)))) (
.nil))
(.nil)) (
.seq (.asg (.name 4) (.var 7)) (
.nil)))))))
def R_safe_0 : Cd := .for_ (.name 5) (.srng2 (.cst (.int 1)) (.bin .add (.var 3) (.cst (.int 1)))) B_safe_0
def C_safe : Cd := (.seq (.asg (.name 4) (.call 65 0 (.cons (.var 0) (.cons (.var 1) .nil)))) (
.seq (.drop (.call 64 0 (.cons (.var 2) .nil))) (
.seq (.ite (.not (.call 0 0 (.cons (.var 3) (.cons (.cst (.int 1)) (.cons (.glob 14) .nil)))))
(.seq (.raise 4) (
.nil))
(.nil)) (
.seq R_safe_0 (
.seq (.ret (.cst .none)) (
.nil))))))
def E_look_span_0 : Xe := .comp (.sseq (.var 1)) [2] [2] .nil (.call 0 0 (.cons (.var 2) (.cons (.cst (.int 1)) (.cons (.glob 2) .nil))))
def C_look_span : Cd := (.seq (.ite (.not (.call 0 0 (.cons (.var 0) (.cons (.cst (.int 1)) (.cons (.glob 15) .nil)))))
(.seq (.raise 4) (
.nil))
(.nil)) (
.seq (.ite (.or (.not (.isi (.var 1) 3)) (.one (.not (.chain .le .le (.cst (.int 1)) (.bf .len (.cons (.var 1) .nil)) (.cst (.int 10))))))
(.seq (.raise 4) (
.nil))
(.nil)) (
.seq (.ite (.or (.not (.bf .all (.cons E_look_span_0 .nil))) (.one (.cmp .ne (.sset (.var 1)) (.bf .list (.cons (.var 1) .nil)))))
(.seq (.raise 4) (
.nil))
(.nil)) (
.nil))))
def B_nearest_1 : Cd := (.seq (.asg (.name 4) (.bf .min2 (.cons (.bf .max2 (.cons (.var 4) (.cons (.cst (.int 2)) .nil))) (.cons (.bin .add (.glob 3) (.cst (.int 1))) .nil)))) (
.seq (.asg (.name 5) (.bin .sub (.bin .mul (.var 3) (.var 4)) (.var 0))) (
.seq (.asg (.name 6) (.tup (.cons (.bf .abs (.cons (.var 5) .nil)) (.cons (.var 3) (.cons (.var 4) .nil))))) (
.seq (.ite (.or (.isN (.var 2)) (.one (.cmp .lt (.var 6) (.idx (.var 2) (.cst (.int 0))))))
(.seq (.asg (.name 2) (.tup (.cons (.var 6) (.cons (.tup (.cons (.var 3) (.cons (.bin .sub (.var 4) (.cst (.int 1))) (.cons (.var 5) .nil)))) .nil)))) (
.nil))
(.nil)) (
.nil)))))
def R_nearest_1 : Cd := .for_ (.name 4) (.sseq (.tup (.cons (.bin .div (.var 0) (.var 3)) (.cons (.bin .add (.bin .div (.var 0) (.var 3)) (.cst (.int 1))) .nil)))) B_nearest_1
def B_nearest_0 : Cd := (.seq R_nearest_1 (
.nil))
def R_nearest_0 : Cd := .for_ (.name 3) (.sseq (.var 1)) B_nearest_0
def C_nearest : Cd := (.seq (.drop (.call 69 0 (.cons (.var 0) (.cons (.var 1) .nil)))) (
.seq (.asg (.name 2) (.cst .none)) (
.seq R_nearest_0 (
.seq (.ret (.idx (.var 2) (.cst (.int 1)))) (
.nil)))))
def E_exact_0 : Xe := .comp (.sseq (.call 72 0 (.cons (.bin .div (.var 0) (.var 3)) .nil))) [4, 5] [4, 5] .nil (.tup (.cons (.var 3) (.cons (.bin .sub (.var 4) (.cst (.int 1))) (.cons (.bin .sub (.var 5) (.cst (.int 1))) .nil))))
def B_exact_0 : Cd := (.seq (.ite (.cmp .eq (.bin .mod (.var 0) (.var 3)) (.cst (.int 0)))
(.seq (.ext 2 E_exact_0) (
.nil))
(.nil)) (
.nil))
def R_exact_0 : Cd := .for_ (.name 3) (.sseq (.var 1)) B_exact_0
def C_exact : Cd := (.seq (.drop (.call 69 0 (.cons (.var 0) (.cons (.var 1) .nil)))) (
.seq (.newL 2 .nil) (
.seq R_exact_0 (
.seq (.ret (.frz 2)) (
.nil)))))
def B_pairs_of_0 : Cd := (.seq (.ite (.cmp .eq (.bin .mod (.var 0) (.var 2)) (.cst (.int 0)))
(.seq (.ext 1 (.lst (.cons (.tup (.cons (.var 2) (.cons (.bin .div (.var 0) (.var 2)) .nil))) (.cons (.tup (.cons (.bin .div (.var 0) (.var 2)) (.cons (.var 2) .nil))) .nil)))) (
.nil))
(.nil)) (
.seq (.asg (.name 2) (.bin .add (.var 2) (.cst (.int 1)))) (
.nil)))
def R_pairs_of_0 : Cd := .whl 1000000 (.cmp .le (.bin .mul (.var 2) (.var 2)) (.var 0)) B_pairs_of_0
def E_pairs_of_0 : Xe := .comp (.sseq (.frz 1)) [3] [3] (.cmp .le (.bf .max1 (.cons (.var 3) .nil)) (.bin .add (.glob 3) (.cst (.int 1)))) (.var 3)
def C_pairs_of : Cd := (.seq (.newL 1 .nil) (
.seq (.asg (.name 2) (.cst (.int 2))) (
.seq R_pairs_of_0 (
.seq (.ret (.sset E_pairs_of_0)) (
.nil)))))
def E_look_reads_0 : Xe := .comp (.sseq (.var 1)) [2] [2] .nil (.call 0 0 (.cons (.var 2) (.cons (.cst (.int 0)) (.cons (.var 0) .nil))))
def C_look_reads : Cd := (.seq (.ite (.not (.call 0 0 (.cons (.var 0) (.cons (.cst (.int 1)) (.cons (.glob 3) .nil)))))
(.seq (.raise 4) (
.nil))
(.nil)) (
.seq (.ite (.or (.not (.isi (.var 1) 4)) (.or (.cmp .gt (.bf .len (.cons (.var 1) .nil)) (.glob 16)) (.one (.not (.bf .all (.cons E_look_reads_0 .nil))))))
(.seq (.raise 6) (
.nil))
(.nil)) (
.nil)))
def B_totals_0 : Cd := (.seq (.app 2 (.ifx (.cmp .gt (.var 3) (.cst (.int 0))) (.bin .add (.idx (.var 2) (.neg (.cst (.int 1)))) (.bin .mod (.bin .sub (.idx (.var 1) (.var 3)) (.idx (.var 1) (.bin .sub (.var 3) (.cst (.int 1))))) (.bin .add (.var 0) (.cst (.int 1))))) (.cst (.int 0)))) (
.nil))
def R_totals_0 : Cd := .for_ (.name 3) (.srng1 (.bf .len (.cons (.var 1) .nil))) B_totals_0
def C_totals : Cd := (.seq (.drop (.call 73 0 (.cons (.var 0) (.cons (.var 1) .nil)))) (
.seq (.newL 2 .nil) (
.seq R_totals_0 (
.seq (.ret (.frz 2)) (
.nil)))))
def E_sure_totals_0 : Xe := .comp (.sseq (.var 2)) [8] [8] .nil (.call 0 0 (.cons (.var 8) (.cons (.cst (.int 0)) (.cons (.glob 15) .nil))))
def B_sure_totals_0 : Cd := (.seq (.ite (.cmp .eq (.var 5) (.cst (.int 0)))
(.seq (.app 4 (.cst (.int 0))) (
.nil))
(.seq (.asg (.name 6) (.call 76 0 (.cons (.bin .add (.var 0) (.cst (.int 1))) (.cons (.bin .sub (.idx (.var 1) (.var 5)) (.idx (.var 1) (.bin .sub (.var 5) (.cst (.int 1))))) (.cons (.bin .sub (.idx (.var 2) (.var 5)) (.idx (.var 2) (.bin .sub (.var 5) (.cst (.int 1))))) (.cons (.var 3) .nil)))))) (
.seq (.asg (.name 7) (.and (.cmp .eq (.bf .len (.cons (.var 6) .nil)) (.cst (.int 1))) (.one (.isNot (.idx (.var 4) (.neg (.cst (.int 1)))))))) (
.seq (.app 4 (.ifx (.var 7) (.bin .add (.idx (.var 4) (.neg (.cst (.int 1)))) (.idx (.var 6) (.cst (.int 0)))) (.cst .none))) (
.nil))))) (
.nil))
def R_sure_totals_0 : Cd := .for_ (.name 5) (.srng1 (.bf .len (.cons (.var 1) .nil))) B_sure_totals_0
def C_sure_totals : Cd := (.seq (.drop (.call 73 0 (.cons (.var 0) (.cons (.var 1) .nil)))) (
.seq (.ite (.or (.not (.isi (.var 2) 4)) (.one (.cmp .ne (.bf .len (.cons (.var 2) .nil)) (.bf .len (.cons (.var 1) .nil)))))
(.seq (.raise 6) (
.nil))
(.nil)) (
.seq (.ite (.or (.not (.bf .all (.cons E_sure_totals_0 .nil))) (.one (.cmp .ne (.bf .sorted (.cons (.var 2) .nil)) (.var 2))))
(.seq (.raise 6) (
.nil))
(.nil)) (
.seq (.ite (.not (.call 0 0 (.cons (.var 3) (.cons (.cst (.int 0)) (.cons (.glob 18) .nil)))))
(.seq (.raise 4) (
.nil))
(.nil)) (
.seq (.newL 4 .nil) (
.seq R_sure_totals_0 (
.seq (.ret (.frz 4)) (
.nil))))))))
def E_fitting_0 : Xe := .comp (.sseq (.tup (.cons (.var 5) (.cons (.bin .add (.var 5) (.var 0)) .nil)))) [6] [6] (.cmp .le (.var 6) (.bin .add (.var 2) (.var 3))) (.var 6)
def C_fitting : Cd := (.seq (.asg (.name 4) (.bf .max2 (.cons (.cst (.int 0)) (.cons (.bin .sub (.var 2) (.var 3)) .nil)))) (
.seq (.asg (.name 5) (.bin .add (.var 4) (.bin .mod (.bin .sub (.var 1) (.var 4)) (.var 0)))) (
.seq (.ret E_fitting_0) (
.nil))))
def E_evened_0 : Xe := .comp (.srng1 (.var 2)) [3] [3] .nil (.bin .sub (.bin .div (.bin .mul (.bin .add (.var 3) (.cst (.int 1))) (.var 0)) (.var 1)) (.bin .div (.bin .mul (.var 3) (.var 0)) (.var 1)))
def C_evened : Cd := (.seq (.ite (.or (.not (.call 0 0 (.cons (.var 0) (.cons (.cst (.int 1)) (.cons (.glob 15) .nil))))) (.or (.not (.call 0 0 (.cons (.var 1) (.cons (.cst (.int 1)) (.cons (.glob 15) .nil))))) (.one (.cmp .lt (.var 0) (.var 1)))))
(.seq (.raise 4) (
.nil))
(.nil)) (
.seq (.ite (.not (.call 0 0 (.cons (.var 2) (.cons (.cst (.int 0)) (.cons (.glob 17) .nil)))))
(.seq (.raise 4) (
.nil))
(.nil)) (
.seq (.ret E_evened_0) (
.nil))))
def E_drift_0 : Xe := .comp (.sseq (.var 0)) [6] [6] .nil (.call 0 0 (.cons (.var 6) (.cons (.cst (.int 0)) (.cons (.glob 15) .nil))))
def B_drift_0 : Cd := (.seq (.asg (.name 4) (.bin .add (.var 4) (.idx (.var 0) (.var 5)))) (
.seq (.app 3 (.bin .sub (.bin .mul (.var 4) (.var 2)) (.bin .mul (.bin .add (.var 5) (.cst (.int 1))) (.var 1)))) (
.nil)))
def R_drift_0 : Cd := .for_ (.name 5) (.srng1 (.bf .len (.cons (.var 0) .nil))) B_drift_0
def C_drift : Cd := (.seq (.ite (.or (.not (.isi (.var 0) 4)) (.one (.cmp .gt (.bf .len (.cons (.var 0) .nil)) (.glob 17))))
(.seq (.raise 6) (
.nil))
(.nil)) (
.seq (.ite (.not (.bf .all (.cons E_drift_0 .nil)))
(.seq (.raise 6) (
.nil))
(.nil)) (
.seq (.drop (.call 77 0 (.cons (.var 1) (.cons (.var 2) (.cons (.cst (.int 0)) .nil))))) (
.seq (.newL 3 (.cons (.cst (.int 0)) .nil)) (
.seq (.asg (.name 4) (.cst (.int 0))) (
.seq R_drift_0 (
.seq (.ret (.tup (.cons (.bf .min1 (.cons (.var 3) .nil)) (.cons (.bf .max1 (.cons (.var 3) .nil)) .nil)))) (
.nil))))))))
def B_ratio_0 : Cd := (.seq (.par 2 3 (.var 3) (.bin .mod (.var 2) (.var 3))) (
.nil))
def R_ratio_0 : Cd := .whl 1000000 (.var 3) B_ratio_0
def C_ratio : Cd := (.seq (.ite (.or (.not (.call 0 0 (.cons (.var 0) (.cons (.cst (.int 1)) (.cons (.glob 15) .nil))))) (.one (.not (.call 0 0 (.cons (.var 1) (.cons (.cst (.int 1)) (.cons (.glob 15) .nil)))))))
(.seq (.raise 4) (
.nil))
(.nil)) (
.seq (.par 2 3 (.var 0) (.var 1)) (
.seq R_ratio_0 (
.seq (.ret (.tup (.cons (.bin .div (.var 0) (.var 2)) (.cons (.bin .div (.var 1) (.var 2)) .nil)))) (
.nil)))))
def E_number_in_0 : Xe := .comp (.sseq (.var 0)) [1] [1] .nil (.cmp .isIn (.var 1) (.glob 19))
def C_number_in : Cd := (.seq (.ite (.or (.cmp .eq (.var 0) (.cst (.str ""))) (.or (.cmp .gt (.bf .len (.cons (.var 0) .nil)) (.cst (.int 6))) (.one (.not (.bf .all (.cons E_number_in_0 .nil))))))
(.seq (.raise 8) (
.nil))
(.nil)) (
.seq (.ret (.bf .int (.cons (.var 0) .nil))) (
.nil)))
def C_edge_in : Cd := (.seq (.ite (.cmp .eq (.var 0) (.glob 9))
(.seq (.ret (.cst .none)) (
.nil))
(.nil)) (
.seq (.ite (.cmp .notIn (.slice (.var 0) (.neg (.cst (.int 1))) .nil) (.tup (.cons (.cst (.str "+")) (.cons (.cst (.str "=")) .nil))))
(.seq (.raise 8) (
.nil))
(.nil)) (
.seq (.ret (.tup (.cons (.call 80 0 (.cons (.slice (.var 0) .nil (.neg (.cst (.int 1)))) .nil)) (.cons (.cmp .eq (.idx (.var 0) (.neg (.cst (.int 1)))) (.cst (.str "+"))) .nil)))) (
.nil))))
def E_timer_in_0 : Xe := .comp (.sseq (.mt .split (.idx (.var 1) (.cst (.int 5))) (.cons (.cst (.str ",")) .nil))) [5] [5] .nil (.call 80 0 (.cons (.var 5) .nil))
def C_timer_in : Cd := (.seq (.asg (.name 1) (.mt .split (.var 0) (.cons (.cst (.str " ")) .nil))) (
.seq (.ite (.or (.cmp .ne (.bf .len (.cons (.var 1) .nil)) (.cst (.int 8))) (.one (.cmp .notIn (.idx (.var 1) (.cst (.int 7))) (.tup (.cons (.cst (.str "once")) (.cons (.cst (.str "on")) .nil))))))
(.seq (.raise 8) (
.nil))
(.nil)) (
.seq (.asg (.name 2) (.ifx (.cmp .eq (.idx (.var 1) (.cst (.int 0))) (.cst (.str "beat"))) (.idx (.var 1) (.cst (.int 0))) (.call 80 0 (.cons (.idx (.var 1) (.cst (.int 0))) .nil)))) (
.seq (.asg (.name 3) (.ifx (.cmp .eq (.idx (.var 1) (.cst (.int 5))) (.glob 9)) (.tup .nil) (.bf .tuple (.cons E_timer_in_0 .nil)))) (
.seq (.asg (.name 4) (.tup (.cons (.var 2) (.cons (.call 80 0 (.cons (.idx (.var 1) (.cst (.int 1))) .nil)) (.cons (.idx (.var 1) (.cst (.int 2))) (.cons (.call 80 0 (.cons (.idx (.var 1) (.cst (.int 3))) .nil)) (.cons (.call 81 0 (.cons (.idx (.var 1) (.cst (.int 4))) .nil)) .nil))))))) (
.seq (.ret (.bin .add (.var 4) (.tup (.cons (.var 3) (.cons (.call 81 0 (.cons (.idx (.var 1) (.cst (.int 6))) .nil)) (.cons (.cmp .eq (.idx (.var 1) (.cst (.int 7))) (.cst (.str "once"))) .nil)))))) (
.nil)))))))
def E_read_0 : Xe := .comp (.sseq (.mt .split (.var 0) (.cons (.cst (.str "|")) .nil))) [3] [3] .nil (.call 82 0 (.cons (.var 3) .nil))
def Y_read : Cd := (.seq (.asg (.name 2) (.cmp .eq (.call 48 0 (.cons (.var 1) .nil)) (.var 0))) (
.nil))
def C_read : Cd := (.seq (.asg (.name 1) (.bf .tuple (.cons E_read_0 .nil))) (
.seq (.asg (.name 2) (.cst (.bool true))) (
.seq (.tryS 1 Y_read 2 (.bool false)) (
.seq (.ite (.not (.var 2))
(.seq (.raise 8) (
.nil))
(.nil)) (
.seq (.ret (.var 1)) (
.nil))))))
def C_law_cell : Cd := (.seq (.ite (.var 0)
(.seq (.ret (.idx (.var 0) (.bin .mod (.var 1) (.bf .len (.cons (.var 0) .nil))))) (
.nil))
(.nil)) (
.seq (.ret (.cst (.int 0))) (
.nil)))
def C_law_mix : Cd := (.seq (.asg (.name 2) (.bin .mod (.bin .add (.call 84 0 (.cons (.var 0) (.cons (.var 1) .nil))) (.bin .mul (.cst (.int 104729)) (.bin .add (.var 1) (.cst (.int 1))))) (.cst (.int 4294967291)))) (
.seq (.asg (.name 2) (.bin .mod (.bin .pow (.var 2) (.cst (.int 5))) (.cst (.int 4294967279)))) (
.seq (.ret (.bin .mod (.bin .add (.bin .mul (.bin .div (.var 2) (.cst (.int 64))) (.cst (.int 69621))) (.var 2)) (.cst (.int 4294967231)))) (
.nil))))
def C_law_draw : Cd := (.seq (.app 1 (.cst (.int 0))) (
.seq (.ret (.bin .mod (.bin .div (.call 85 0 (.cons (.var 0) (.cons (.bf .len (.cons (.var 1) .nil)) .nil))) (.cst (.int 8))) (.var 2))) (
.nil)))
def C_law_pick : Cd := (.seq (.ret (.idx (.var 2) (.call 86 0 (.cons (.var 0) (.cons (.var 1) (.cons (.bf .len (.cons (.var 2) .nil)) .nil)))))) (
.nil))
def C_law_refusalA : Cd := (.seq (.ite (.isN (.var 0))
(.seq (.ret (.tup (.cons (.cst (.str "ok")) .nil))) (
.nil))
(.nil)) (
.seq (.asg (.name 1) (.lst (.cons (.isi (.var 0) 11) (.cons (.isi (.var 0) 12) (.cons (.isi (.var 0) 13) .nil))))) (
.seq (.asg (.name 1) (.bin .add (.var 1) (.lst (.cons (.isi (.var 0) 14) (.cons (.isi (.var 0) 15) (.cons (.isi (.var 0) 16) .nil)))))) (
.seq (.asg (.name 1) (.bin .add (.var 1) (.lst (.cons (.isi (.var 0) 17) (.cons (.isi (.var 0) 18) .nil))))) (
.seq (.ite (.or (.cmp .ne (.mt .count (.var 1) (.cons (.cst (.bool true)) .nil)) (.cst (.int 1))) (.one (.not (.isi (.var 0) 6))))
(.seq (.ret (.tup (.cons (.cst (.str "wrong")) .nil))) (
.nil))
(.nil)) (
.seq (.ret (.tup (.cons (.cst (.str "refused")) (.cons (.idx (.lst (.cons (.cst (.str "plan")) (.cons (.cst (.str "timer")) (.cons (.cst (.str "line")) (.cons (.cst (.str "number")) (.cons (.cst (.str "many")) (.cons (.cst (.str "reads")) (.cons (.cst (.str "nothing")) (.cons (.cst (.str "text")) .nil))))))))) (.mt .index (.var 1) (.cons (.cst (.bool true)) .nil))) .nil)))) (
.nil)))))))
def C_law_edge : Cd := (.seq (.ite (.cmp .eq (.call 86 0 (.cons (.var 0) (.cons (.var 1) (.cons (.cst (.int 2)) .nil)))) (.cst (.int 0)))
(.seq (.ret (.cst .none)) (
.nil))
(.nil)) (
.seq (.ret (.tup (.cons (.call 86 0 (.cons (.var 0) (.cons (.var 1) (.cons (.cst (.int 4)) .nil)))) (.cons (.cmp .eq (.call 86 0 (.cons (.var 0) (.cons (.var 1) (.cons (.cst (.int 2)) .nil)))) (.cst (.int 0))) .nil)))) (
.nil)))
def E_law_timer_0 : Xe := .comp (.srng1 (.call 86 0 (.cons (.var 0) (.cons (.var 1) (.cons (.cst (.int 3)) .nil))))) [11] [11] .nil (.call 86 0 (.cons (.var 0) (.cons (.var 1) (.cons (.bin .add (.var 7) (.cst (.int 1))) .nil))))
def C_law_timer : Cd := (.seq (.asg (.name 4) (.call 87 0 (.cons (.var 0) (.cons (.var 1) (.cons (.bin .add (.lst (.cons (.cst (.str "beat")) .nil)) (.bin .mul (.rng1 false (.var 2)) (.cst (.int 2)))) .nil))))) (
.seq (.asg (.name 5) (.call 87 0 (.cons (.var 0) (.cons (.var 1) (.cons (.lst (.cons (.cst (.int 1)) (.cons (.cst (.int 1)) (.cons (.cst (.int 1)) (.cons (.cst (.int 2)) (.cons (.cst (.int 3)) (.cons (.cst (.int 256)) .nil))))))) .nil))))) (
.seq (.asg (.name 6) (.call 87 0 (.cons (.var 0) (.cons (.var 1) (.cons (.lst (.cons (.cst (.str "up")) (.cons (.cst (.str "down")) (.cons (.cst (.str "both")) .nil)))) .nil))))) (
.seq (.asg (.name 7) (.call 87 0 (.cons (.var 0) (.cons (.var 1) (.cons (.lst (.cons (.cst (.int 1)) (.cons (.cst (.int 2)) (.cons (.cst (.int 3)) (.cons (.cst (.int 5)) (.cons (.cst (.int 9)) (.cons (.var 3) .nil))))))) .nil))))) (
.seq (.asg (.name 8) E_law_timer_0) (
.seq (.asg (.name 9) (.cmp .eq (.call 86 0 (.cons (.var 0) (.cons (.var 1) (.cons (.cst (.int 5)) .nil)))) (.cst (.int 0)))) (
.seq (.asg (.name 10) (.tup (.cons (.call 89 0 (.cons (.var 0) (.cons (.var 1) .nil))) (.cons (.bf .tuple (.cons (.sset (.var 8)) .nil)) (.cons (.call 89 0 (.cons (.var 0) (.cons (.var 1) .nil))) .nil))))) (
.seq (.ret (.bin .add (.bin .add (.tup (.cons (.var 4) (.cons (.var 5) (.cons (.var 6) (.cons (.var 7) .nil))))) (.var 10)) (.tup (.cons (.var 9) .nil)))) (
.nil)))))))))
def E_law_plan_0 : Xe := .comp (.srng1 (.bin .add (.cst (.int 1)) (.call 86 0 (.cons (.var 0) (.cons (.var 1) (.cons (.cst (.int 4)) .nil)))))) [3] [3] .nil (.call 90 0 (.cons (.var 0) (.cons (.var 1) (.cons (.var 3) (.cons (.var 2) .nil)))))
def C_law_plan : Cd := (.seq (.ret (.bf .tuple (.cons E_law_plan_0 .nil))) (
.nil))
def C_law_refusalB : Cd := (.seq (.ite (.isN (.var 0))
(.seq (.ret (.tup (.cons (.cst (.str "ok")) .nil))) (
.nil))
(.nil)) (
.seq (.asg (.name 1) (.lst (.cons (.isi (.var 0) 11) (.cons (.isi (.var 0) 12) (.cons (.isi (.var 0) 13) .nil))))) (
.seq (.asg (.name 1) (.bin .add (.var 1) (.lst (.cons (.isi (.var 0) 14) (.cons (.isi (.var 0) 15) (.cons (.isi (.var 0) 16) .nil)))))) (
.seq (.asg (.name 1) (.bin .add (.var 1) (.lst (.cons (.isi (.var 0) 17) (.cons (.isi (.var 0) 18) (.cons (.isi (.var 0) 19) .nil)))))) (
.seq (.ite (.or (.cmp .ne (.mt .count (.var 1) (.cons (.cst (.bool true)) .nil)) (.cst (.int 1))) (.one (.not (.isi (.var 0) 6))))
(.seq (.ret (.tup (.cons (.cst (.str "wrong")) .nil))) (
.nil))
(.nil)) (
.seq (.asg (.name 2) (.lst (.cons (.cst (.str "plan")) (.cons (.cst (.str "timer")) (.cons (.cst (.str "line")) (.cons (.cst (.str "number")) (.cons (.cst (.str "many")) (.cons (.cst (.str "reads")) (.cons (.cst (.str "nothing")) (.cons (.cst (.str "text")) (.cons (.cst (.str "rules")) .nil))))))))))) (
.seq (.ret (.tup (.cons (.cst (.str "refused")) (.cons (.idx (.var 2) (.mt .index (.var 1) (.cons (.cst (.bool true)) .nil))) .nil)))) (
.nil))))))))
def E_law_begun_0 : Xe := .comp (.sseq (.var 0)) [2] [2] .nil (.tup (.cons (.ifx (.cmp .eq (.idx (.var 2) (.cst (.int 2))) (.cst (.str "down"))) (.idx (.var 2) (.cst (.int 3))) (.cst (.int 0))) (.cons (.cmp .eq (.idx (.var 2) (.cst (.int 2))) (.cst (.str "down"))) (.cons (.cst (.int 0)) (.cons (.cst (.int 0)) (.cons (.cst .none) (.cons (.cst (.bool false)) .nil)))))))
def C_law_begun : Cd := (.seq (.asg (.name 1) E_law_begun_0) (
.seq (.ret (.tup (.cons (.var 1) (.cons (.bin .mul (.lst (.cons (.cst (.bool false)) .nil)) (.cst (.int 4))) (.cons (.cst (.int 0)) .nil))))) (
.nil)))
def C_law_step : Cd := (.seq (.asg (.names [3, 4]) (.slice (.var 0) (.cst (.int 2)) (.cst (.int 4)))) (
.seq (.ite (.cmp .eq (.var 3) (.cst (.str "up")))
(.seq (.ret (.ifx (.cmp .eq (.var 1) (.var 4)) (.tup (.cons (.cst (.int 0)) (.cons (.cst (.bool false)) (.cons (.cst (.bool true)) .nil)))) (.tup (.cons (.bin .add (.var 1) (.cst (.int 1))) (.cons (.cst (.bool false)) (.cons (.cst (.bool false)) .nil)))))) (
.nil))
(.nil)) (
.seq (.ite (.cmp .eq (.var 3) (.cst (.str "down")))
(.seq (.ret (.ifx (.cmp .eq (.var 1) (.cst (.int 0))) (.tup (.cons (.var 4) (.cons (.cst (.bool true)) (.cons (.cst (.bool true)) .nil)))) (.tup (.cons (.bin .sub (.var 1) (.cst (.int 1))) (.cons (.cst (.bool true)) (.cons (.cst (.bool false)) .nil)))))) (
.nil))
(.nil)) (
.seq (.ite (.var 2)
(.seq (.ret (.tup (.cons (.bin .sub (.var 1) (.cst (.int 1))) (.cons (.cmp .gt (.bin .sub (.var 1) (.cst (.int 1))) (.cst (.int 0))) (.cons (.cmp .eq (.var 1) (.cst (.int 1))) .nil))))) (
.nil))
(.nil)) (
.seq (.ret (.tup (.cons (.bin .add (.var 1) (.cst (.int 1))) (.cons (.cmp .eq (.bin .add (.var 1) (.cst (.int 1))) (.var 4)) (.cons (.cst (.bool false)) .nil))))) (
.nil))))))
def B_law_beat_0 : Cd := (.seq (.asg (.names [12, 13, 14, 15, 16, 17]) (.idx (.var 6) (.var 5))) (
.seq (.asg (.name 9) (.idx (.idx (.var 0) (.var 5)) (.cst (.int 4)))) (
.seq (.asg (.name 10) (.and (.not (.var 17)) (.one (.or (.isN (.var 9)) (.one (.cmp .eq (.idx (.var 7) (.idx (.var 9) (.cst (.int 0)))) (.idx (.var 9) (.cst (.int 1))))))))) (
.seq (.asg (.name 11) (.cst (.bool false))) (
.seq (.ite (.and (.var 10) (.one (.or (.cmp .eq (.idx (.idx (.var 0) (.var 5)) (.cst (.int 0))) (.cst (.str "beat"))) (.one (.idx (.var 4) (.idx (.idx (.var 0) (.var 5)) (.cst (.int 0))))))))
(.seq (.asg (.name 14) (.bin .mod (.bin .add (.var 14) (.cst (.int 1))) (.idx (.idx (.var 0) (.var 5)) (.cst (.int 1))))) (
.seq (.ite (.cmp .eq (.var 14) (.cst (.int 0)))
(.seq (.asg (.names [12, 13, 11]) (.call 94 0 (.cons (.idx (.var 0) (.var 5)) (.cons (.var 12) (.cons (.var 13) .nil))))) (
.seq (.asg (.name 3) (.bin .add (.var 3) (.bin .mul (.lst (.cons (.tup (.cons (.bin .add (.var 8) (.cst (.int 1))) (.cons (.var 5) (.cons (.cst (.str "match")) (.cons (.var 12) .nil))))) .nil)) (.bf .int (.cons (.cmp .isIn (.var 12) (.idx (.idx (.var 0) (.var 5)) (.cst (.int 5)))) .nil))))) (
.seq (.asg (.name 3) (.bin .add (.var 3) (.bin .mul (.lst (.cons (.tup (.cons (.bin .add (.var 8) (.cst (.int 1))) (.cons (.var 5) (.cons (.cst (.str "turn")) (.cons (.var 12) .nil))))) .nil)) (.bf .int (.cons (.var 11) .nil))))) (
.nil))))
(.nil)) (
.nil)))
(.nil)) (
.seq (.app 4 (.var 11)) (
.seq (.app 2 (.tup (.cons (.var 12) (.cons (.var 13) (.cons (.var 14) (.cons (.bin .add (.var 15) (.bf .int (.cons (.var 11) .nil))) (.cons (.var 16) (.cons (.or (.var 17) (.one (.and (.var 11) (.one (.idx (.idx (.var 0) (.var 5)) (.cst (.int 7))))))) .nil)))))))) (
.nil))))))))
def R_law_beat_0 : Cd := .for_ (.name 5) (.srng1 (.bf .len (.cons (.var 0) .nil))) B_law_beat_0
def C_law_beat : Cd := (.seq (.asg (.names [6, 7, 8]) (.var 1)) (
.seq (.newL 2 .nil) (
.seq (.asg (.name 3) (.lst .nil)) (
.seq (.newL 4 .nil) (
.seq R_law_beat_0 (
.seq (.ret (.tup (.cons (.tup (.cons (.frz 2) (.cons (.var 7) (.cons (.bin .add (.var 8) (.cst (.int 1))) .nil)))) (.cons (.var 3) .nil)))) (
.nil)))))))
def B_law_gone_0 : Cd := (.seq (.asg (.names [1, 5]) (.call 95 0 (.cons (.var 0) (.cons (.var 1) .nil)))) (
.seq (.asg (.name 3) (.bin .add (.var 3) (.var 5))) (
.nil)))
def R_law_gone_0 : Cd := .for_ (.name 4) (.srng1 (.var 2)) B_law_gone_0
def C_law_gone : Cd := (.seq (.asg (.name 3) (.lst .nil)) (
.seq R_law_gone_0 (
.seq (.ret (.tup (.cons (.var 1) (.cons (.var 3) .nil)))) (
.nil))))
def E_law_put_0 : Xe := .comp (.srng1 (.bf .len (.cons (.var 0) .nil))) [6] [6] (.cmp .eq (.idx (.idx (.var 0) (.var 6)) (.cst (.int 6))) (.tup (.cons (.var 2) (.cons (.var 3) .nil)))) (.var 6)
def B_law_put_0 : Cd := (.seq (.asg (.name 10) (.idx (.var 7) (.var 6))) (
.seq (.app 5 (.ifx (.cmp .isIn (.var 6) (.var 4)) (.bin .add (.slice (.var 10) .nil (.cst (.int 4))) (.tup (.cons (.idx (.var 10) (.cst (.int 0))) (.cons (.idx (.var 10) (.cst (.int 5))) .nil)))) (.var 10))) (
.nil)))
def R_law_put_0 : Cd := .for_ (.name 6) (.srng1 (.bf .len (.cons (.var 0) .nil))) B_law_put_0
def C_law_put : Cd := (.seq (.asg (.names [7, 8, 9]) (.var 1)) (
.seq (.ite (.cmp .eq (.idx (.var 8) (.var 2)) (.var 3))
(.seq (.ret (.tup (.cons (.var 1) (.cons (.lst .nil) .nil)))) (
.nil))
(.nil)) (
.seq (.asg (.name 4) E_law_put_0) (
.seq (.newL 5 .nil) (
.seq R_law_put_0 (
.seq (.ret (.tup (.cons (.tup (.cons (.frz 5) (.cons (.bin .add (.bin .add (.slice (.var 8) .nil (.var 2)) (.lst (.cons (.var 3) .nil))) (.slice (.var 8) (.bin .add (.var 2) (.cst (.int 1))) .nil)) (.cons (.var 9) .nil)))) (.cons (.var 4) .nil)))) (
.nil)))))))
def C_law_write : Cd := (.seq (.asg (.names [6, 7, 8]) (.var 1)) (
.seq (.asg (.name 4) (.idx (.var 6) (.var 2))) (
.seq (.asg (.name 5) (.or (.cmp .eq (.idx (.idx (.var 0) (.var 2)) (.cst (.int 2))) (.cst (.str "down"))) (.one (.and (.cmp .eq (.idx (.idx (.var 0) (.var 2)) (.cst (.int 2))) (.cst (.str "both"))) (.one (.cmp .eq (.var 3) (.idx (.idx (.var 0) (.var 2)) (.cst (.int 3))))))))) (
.seq (.ret (.tup (.cons (.bin .add (.bin .add (.slice (.var 6) .nil (.var 2)) (.lst (.cons (.tup (.cons (.var 3) (.cons (.var 5) (.cons (.cst (.int 0)) (.cons (.idx (.var 4) (.cst (.int 3))) (.cons (.idx (.var 4) (.cst (.int 4))) (.cons (.cst (.bool false)) .nil))))))) .nil))) (.slice (.var 6) (.bin .add (.var 2) (.cst (.int 1))) .nil)) (.cons (.var 7) (.cons (.var 8) .nil))))) (
.nil)))))
def B_law_rules_0 : Cd := (.seq (.asg (.name 5) (.call 86 0 (.cons (.var 0) (.cons (.var 1) (.cons (.bf .len (.cons (.var 2) .nil)) .nil))))) (
.seq (.asg (.name 6) (.call 87 0 (.cons (.var 0) (.cons (.var 1) (.cons (.lst (.cons (.cst (.str "match")) (.cons (.cst (.str "turn")) .nil))) .nil))))) (
.seq (.ite (.cmp .eq (.call 86 0 (.cons (.var 0) (.cons (.var 1) (.cons (.cst (.int 2)) .nil)))) (.cst (.int 0)))
(.seq (.asg (.name 7) (.tup (.cons (.cst (.str "put")) (.cons (.call 86 0 (.cons (.var 0) (.cons (.var 1) (.cons (.cst (.int 4)) .nil)))) (.cons (.cmp .eq (.call 86 0 (.cons (.var 0) (.cons (.var 1) (.cons (.cst (.int 2)) .nil)))) (.cst (.int 0))) .nil))))) (
.nil))
(.seq (.asg (.name 8) (.call 86 0 (.cons (.var 0) (.cons (.var 1) (.cons (.bf .len (.cons (.var 2) .nil)) .nil))))) (
.seq (.asg (.name 7) (.tup (.cons (.cst (.str "write")) (.cons (.var 8) (.cons (.call 86 0 (.cons (.var 0) (.cons (.var 1) (.cons (.bin .add (.idx (.idx (.var 2) (.var 8)) (.cst (.int 3))) (.cst (.int 1))) .nil)))) .nil))))) (
.nil)))) (
.seq (.app 3 (.tup (.cons (.var 5) (.cons (.var 6) (.cons (.var 7) .nil))))) (
.nil)))))
def R_law_rules_0 : Cd := .for_ (.name 4) (.srng1 (.call 86 0 (.cons (.var 0) (.cons (.var 1) (.cons (.cst (.int 6)) .nil))))) B_law_rules_0
def C_law_rules : Cd := (.seq (.newL 3 .nil) (
.seq R_law_rules_0 (
.seq (.ret (.frz 3)) (
.nil))))
def C_law_one : Cd := (.seq (.ret (.ifx (.cmp .eq (.var 0) (.cst (.int 0))) (.call 58 0 (.cons (.idx (.var 1) (.cst (.int 0))) (.cons (.idx (.var 1) (.cst (.int 1))) (.cons (.idx (.var 1) (.cst (.int 2))) .nil)))) (.call 59 0 (.cons (.idx (.var 1) (.cst (.int 0))) (.cons (.idx (.var 1) (.cst (.int 1))) (.cons (.idx (.var 1) (.cst (.int 2))) .nil)))))) (
.nil))
def Y_law_told : Cd := (.seq (.asg (.name 3) (.call 100 0 (.cons (.var 0) (.cons (.var 1) .nil)))) (
.nil))
def C_law_told : Cd := (.seq (.asg (.name 2) (.cst .none)) (
.seq (.asg (.name 3) (.cst .none)) (
.seq (.tryA 0 4 2 Y_law_told) (
.seq (.ret (.ifx (.isN (.var 2)) (.tup (.cons (.cst (.str "found")) (.cons (.var 3) .nil))) (.call 92 0 (.cons (.var 2) .nil)))) (
.nil)))))
/- _law_copy: not coded: _law_copy(_law_one_here); _law_copy(_law_one_here); dict([(_law_name, _law_copy(_law_thing[_law_name])) for _law_name in list(_law_thing.keys())]) -/
def C_law_copy : Cd := (.seq (.ite (.isi (.var 0) 4)
(.unk)
(.nil)) (
.seq (.ite (.isi (.var 0) 3)
(.unk)
(.nil)) (
.seq (.ite (.isi (.var 0) 5)
(.unk)
(.nil)) (
.seq (.ret (.var 0)) (
.nil)))))
/- _law_spoil: not coded: _law_spoil(_law_one_here); _law_thing.keys() -/
def B_law_spoil_0 : Cd := (.unk)
def R_law_spoil_0 : Cd := .for_ (.name 1) (.sseq (.bf .list (.cons (.var 0) .nil))) B_law_spoil_0
def C_law_spoil : Cd := (.seq (.ite (.or (.isi (.var 0) 4) (.one (.isi (.var 0) 3)))
(.seq R_law_spoil_0 (
.nil))
(.nil)) (
.seq (.ite (.isi (.var 0) 4)
(.seq (.app 0 (.cst (.str "late"))) (
.nil))
(.nil)) (
.seq (.ite (.isi (.var 0) 5)
(.unk)
(.nil)) (
.nil))))
/- _law_again: not coded: _law_told(_law_kind, _law_some) -/
def C_law_again : Cd := (.seq (.asg (.name 2) (.call 102 0 (.cons (.var 1) .nil))) (
.unk))
def pool0 : List Dc := [⟨0, 0, 3, 3, 0, C_is_whole⟩,
⟨0, 0, 1, 1, 0, C_is_truth⟩,
⟨0, 0, 1, 1, 0, C_is_edge⟩,
⟨0, 0, 2, 3, 0, C_are_matches⟩,
⟨0, 0, 2, 10, 0, C_is_timer⟩,
⟨0, 0, 1, 2, 0, C_look_plan⟩,
⟨0, 0, 1, 1, 0, C_round_of⟩,
⟨0, 0, 1, 12, 0, C_rounds⟩,
⟨0, 0, 1, 1, 0, C_begun⟩,
⟨0, 0, 3, 5, 0, C_place_of⟩,
⟨0, 0, 2, 4, 0, C_at_place⟩,
⟨0, 0, 1, 8, 0, C_match_places⟩,
⟨0, 0, 3, 5, 0, C_to_match⟩,
⟨1, 0, 2, 4, 0, C_Timer_init⟩,
⟨1, 0, 1, 1, 0, C_Timer_held⟩,
⟨1, 0, 2, 2, 0, C_Timer_restore⟩,
⟨1, 0, 2, 2, 0, C_Timer_ticks_to⟩,
⟨1, 0, 2, 5, 0, C_Timer_tick⟩,
⟨2, 0, 0, 0, 13, .nil⟩,
⟨1, 0, 2, 3, 0, C_Chip_init⟩]
def pool1 : List Dc := [⟨1, 0, 2, 2, 0, C_Chip_look_timer⟩,
⟨1, 0, 1, 1, 0, C_Chip_keep⟩,
⟨1, 0, 1, 2, 0, C_Chip_now⟩,
⟨1, 0, 2, 3, 0, C_Chip_restore⟩,
⟨1, 0, 1, 1, 0, C_Chip_back⟩,
⟨1, 0, 1, 1, 0, C_Chip_beat⟩,
⟨1, 0, 2, 2, 0, C_Chip_count⟩,
⟨1, 0, 2, 3, 0, C_Chip_state⟩,
⟨1, 0, 2, 3, 0, C_Chip_is_open⟩,
⟨1, 0, 2, 6, 0, C_Chip_pass_by⟩,
⟨1, 0, 2, 2, 0, C_Chip_go⟩,
⟨1, 0, 3, 5, 0, C_Chip_put⟩,
⟨1, 0, 3, 5, 0, C_Chip_write⟩,
⟨1, 0, 3, 5, 0, C_Chip_beats_to_turns⟩,
⟨1, 0, 3, 4, 0, C_Chip_beats_to_ticks⟩,
⟨1, 0, 2, 6, 0, C_Chip_waking⟩,
⟨1, 0, 1, 4, 0, C_Chip_next_waking⟩,
⟨1, 0, 2, 9, 0, C_Chip_events_now⟩,
⟨1, 0, 2, 8, 0, C_Chip_ahead⟩,
⟨2, 1, 0, 0, 19, .nil⟩]
def pool2 : List Dc := [⟨0, 0, 1, 1, 0, C_is_deed⟩,
⟨0, 0, 1, 2, 0, C_look_deeds⟩,
⟨0, 0, 2, 4, 0, C_done⟩,
⟨0, 0, 2, 5, 0, C_events⟩,
⟨0, 0, 2, 5, 0, C_behind⟩,
⟨0, 0, 4, 7, 0, C_first_time⟩,
⟨0, 0, 1, 1, 0, C_edge_text⟩,
⟨0, 0, 1, 11, 0, C_timer_text⟩,
⟨0, 0, 1, 2, 0, C_written⟩,
⟨0, 0, 2, 2, 0, C_is_act⟩,
⟨0, 0, 2, 2, 0, C_is_rule⟩,
⟨0, 0, 2, 3, 0, C_look_rules⟩,
⟨1, 0, 3, 3, 0, C_Ruled_init⟩,
⟨1, 0, 3, 3, 0, C_Ruled_tell⟩,
⟨1, 0, 3, 6, 0, C_Ruled_note⟩,
⟨1, 0, 2, 3, 0, C_Ruled_do⟩,
⟨1, 0, 2, 9, 0, C_Ruled_go⟩,
⟨2, 2, 0, 0, 52, .nil⟩,
⟨0, 0, 3, 4, 0, C_ruled⟩,
⟨0, 0, 3, 5, 0, C_ruled_to⟩]
def pool3 : List Dc := [⟨0, 0, 3, 4, 0, C_look_wave⟩,
⟨0, 0, 3, 11, 0, C_wave⟩,
⟨0, 0, 3, 6, 0, C_lit⟩,
⟨0, 0, 3, 7, 0, C_together⟩,
⟨0, 0, 1, 1, 0, C_look_gap⟩,
⟨0, 0, 2, 2, 0, C_high_half⟩,
⟨0, 0, 2, 2, 0, C_low_half⟩,
⟨0, 0, 3, 4, 0, C_torn⟩,
⟨0, 0, 4, 8, 0, C_safe⟩,
⟨0, 0, 2, 3, 0, C_look_span⟩,
⟨0, 0, 2, 7, 0, C_nearest⟩,
⟨0, 0, 2, 6, 0, C_exact⟩,
⟨0, 0, 1, 4, 0, C_pairs_of⟩,
⟨0, 0, 2, 3, 0, C_look_reads⟩,
⟨0, 0, 2, 4, 0, C_totals⟩,
⟨0, 0, 4, 9, 0, C_sure_totals⟩,
⟨0, 0, 4, 7, 0, C_fitting⟩,
⟨0, 0, 3, 4, 0, C_evened⟩,
⟨0, 0, 3, 7, 0, C_drift⟩,
⟨0, 0, 2, 4, 0, C_ratio⟩]
def pool4 : List Dc := [⟨0, 0, 1, 2, 0, C_number_in⟩,
⟨0, 0, 1, 1, 0, C_edge_in⟩,
⟨0, 0, 1, 6, 0, C_timer_in⟩,
⟨0, 0, 1, 4, 0, C_read⟩,
⟨0, 0, 2, 2, 0, C_law_cell⟩,
⟨0, 0, 2, 3, 0, C_law_mix⟩,
⟨0, 0, 3, 3, 0, C_law_draw⟩,
⟨0, 0, 3, 3, 0, C_law_pick⟩,
⟨0, 0, 1, 2, 0, C_law_refusalA⟩,
⟨0, 0, 2, 2, 0, C_law_edge⟩,
⟨0, 0, 4, 12, 0, C_law_timer⟩,
⟨0, 0, 3, 4, 0, C_law_plan⟩,
⟨0, 0, 1, 3, 0, C_law_refusalB⟩,
⟨0, 0, 1, 3, 0, C_law_begun⟩,
⟨0, 0, 3, 5, 0, C_law_step⟩,
⟨0, 0, 2, 18, 0, C_law_beat⟩,
⟨0, 0, 3, 6, 0, C_law_gone⟩,
⟨0, 0, 4, 11, 0, C_law_put⟩,
⟨0, 0, 4, 9, 0, C_law_write⟩,
⟨0, 0, 3, 9, 0, C_law_rules⟩]
def pool5 : List Dc := [⟨0, 0, 2, 2, 0, C_law_one⟩,
⟨0, 0, 2, 5, 0, C_law_told⟩,
⟨0, 0, 1, 3, 0, C_law_copy⟩,
⟨0, 0, 1, 3, 0, C_law_spoil⟩,
⟨0, 0, 2, 5, 0, C_law_again⟩]
def pool : List Dc := pool0 ++ (pool1 ++ (pool2 ++ (pool3 ++ (pool4 ++ (pool5)))))
abbrev Ph (X : List Dc) (n : Nat) : Tbl := phi (pool ++ X) gl n
section
variable (X : List Dc) (n : Nat)
theorem eq_is_whole : Ph X (n + 1) 0 = defF (Ph X n) gl 3 3 false C_is_whole := rfl
theorem eq_is_truth : Ph X (n + 1) 1 = defF (Ph X n) gl 1 1 false C_is_truth := rfl
theorem eq_is_edge : Ph X (n + 1) 2 = defF (Ph X n) gl 1 1 false C_is_edge := rfl
theorem eq_are_matches : Ph X (n + 1) 3 = defF (Ph X n) gl 2 3 false C_are_matches := rfl
theorem eq_is_timer : Ph X (n + 1) 4 = defF (Ph X n) gl 2 10 false C_is_timer := rfl
theorem eq_look_plan : Ph X (n + 1) 5 = defF (Ph X n) gl 1 2 false C_look_plan := rfl
theorem eq_round_of : Ph X (n + 1) 6 = defF (Ph X n) gl 1 1 false C_round_of := rfl
theorem eq_rounds : Ph X (n + 1) 7 = defF (Ph X n) gl 1 12 false C_rounds := rfl
theorem eq_begun : Ph X (n + 1) 8 = defF (Ph X n) gl 1 1 false C_begun := rfl
theorem eq_place_of : Ph X (n + 1) 9 = defF (Ph X n) gl 3 5 false C_place_of := rfl
theorem eq_at_place : Ph X (n + 1) 10 = defF (Ph X n) gl 2 4 false C_at_place := rfl
theorem eq_match_places : Ph X (n + 1) 11 = defF (Ph X n) gl 1 8 false C_match_places := rfl
theorem eq_to_match : Ph X (n + 1) 12 = defF (Ph X n) gl 3 5 false C_to_match := rfl
theorem eq_Timer_init : Ph X (n + 1) 13 = defF (Ph X n) gl 2 4 true C_Timer_init := rfl
theorem eq_Timer_held : Ph X (n + 1) 14 = defF (Ph X n) gl 1 1 true C_Timer_held := rfl
theorem eq_Timer_restore : Ph X (n + 1) 15 = defF (Ph X n) gl 2 2 true C_Timer_restore := rfl
theorem eq_Timer_ticks_to : Ph X (n + 1) 16 = defF (Ph X n) gl 2 2 true C_Timer_ticks_to := rfl
theorem eq_Timer_tick : Ph X (n + 1) 17 = defF (Ph X n) gl 2 5 true C_Timer_tick := rfl
theorem eq_Timer : Ph X (n + 1) 18 = makeF 0 (Ph X n 13) := rfl
theorem eq_Chip_init : Ph X (n + 1) 19 = defF (Ph X n) gl 2 3 true C_Chip_init := rfl
theorem eq_Chip_look_timer : Ph X (n + 1) 20 = defF (Ph X n) gl 2 2 true C_Chip_look_timer := rfl
theorem eq_Chip_keep : Ph X (n + 1) 21 = defF (Ph X n) gl 1 1 true C_Chip_keep := rfl
theorem eq_Chip_now : Ph X (n + 1) 22 = defF (Ph X n) gl 1 2 true C_Chip_now := rfl
theorem eq_Chip_restore : Ph X (n + 1) 23 = defF (Ph X n) gl 2 3 true C_Chip_restore := rfl
theorem eq_Chip_back : Ph X (n + 1) 24 = defF (Ph X n) gl 1 1 true C_Chip_back := rfl
theorem eq_Chip_beat : Ph X (n + 1) 25 = defF (Ph X n) gl 1 1 true C_Chip_beat := rfl
theorem eq_Chip_count : Ph X (n + 1) 26 = defF (Ph X n) gl 2 2 true C_Chip_count := rfl
theorem eq_Chip_state : Ph X (n + 1) 27 = defF (Ph X n) gl 2 3 true C_Chip_state := rfl
theorem eq_Chip_is_open : Ph X (n + 1) 28 = defF (Ph X n) gl 2 3 true C_Chip_is_open := rfl
theorem eq_Chip_pass_by : Ph X (n + 1) 29 = defF (Ph X n) gl 2 6 true C_Chip_pass_by := rfl
theorem eq_Chip_go : Ph X (n + 1) 30 = defF (Ph X n) gl 2 2 true C_Chip_go := rfl
theorem eq_Chip_put : Ph X (n + 1) 31 = defF (Ph X n) gl 3 5 true C_Chip_put := rfl
theorem eq_Chip_write : Ph X (n + 1) 32 = defF (Ph X n) gl 3 5 true C_Chip_write := rfl
theorem eq_Chip_beats_to_turns : Ph X (n + 1) 33 = defF (Ph X n) gl 3 5 true C_Chip_beats_to_turns := rfl
theorem eq_Chip_beats_to_ticks : Ph X (n + 1) 34 = defF (Ph X n) gl 3 4 true C_Chip_beats_to_ticks := rfl
theorem eq_Chip_waking : Ph X (n + 1) 35 = defF (Ph X n) gl 2 6 true C_Chip_waking := rfl
theorem eq_Chip_next_waking : Ph X (n + 1) 36 = defF (Ph X n) gl 1 4 true C_Chip_next_waking := rfl
theorem eq_Chip_events_now : Ph X (n + 1) 37 = defF (Ph X n) gl 2 9 true C_Chip_events_now := rfl
theorem eq_Chip_ahead : Ph X (n + 1) 38 = defF (Ph X n) gl 2 8 true C_Chip_ahead := rfl
theorem eq_Chip : Ph X (n + 1) 39 = makeF 1 (Ph X n 19) := rfl
theorem eq_is_deed : Ph X (n + 1) 40 = defF (Ph X n) gl 1 1 false C_is_deed := rfl
theorem eq_look_deeds : Ph X (n + 1) 41 = defF (Ph X n) gl 1 2 false C_look_deeds := rfl
theorem eq_done : Ph X (n + 1) 42 = defF (Ph X n) gl 2 4 false C_done := rfl
theorem eq_events : Ph X (n + 1) 43 = defF (Ph X n) gl 2 5 false C_events := rfl
theorem eq_behind : Ph X (n + 1) 44 = defF (Ph X n) gl 2 5 false C_behind := rfl
theorem eq_first_time : Ph X (n + 1) 45 = defF (Ph X n) gl 4 7 false C_first_time := rfl
theorem eq_edge_text : Ph X (n + 1) 46 = defF (Ph X n) gl 1 1 false C_edge_text := rfl
theorem eq_timer_text : Ph X (n + 1) 47 = defF (Ph X n) gl 1 11 false C_timer_text := rfl
theorem eq_written : Ph X (n + 1) 48 = defF (Ph X n) gl 1 2 false C_written := rfl
theorem eq_is_act : Ph X (n + 1) 49 = defF (Ph X n) gl 2 2 false C_is_act := rfl
theorem eq_is_rule : Ph X (n + 1) 50 = defF (Ph X n) gl 2 2 false C_is_rule := rfl
theorem eq_look_rules : Ph X (n + 1) 51 = defF (Ph X n) gl 2 3 false C_look_rules := rfl
theorem eq_Ruled_init : Ph X (n + 1) 52 = defF (Ph X n) gl 3 3 true C_Ruled_init := rfl
theorem eq_Ruled_tell : Ph X (n + 1) 53 = defF (Ph X n) gl 3 3 true C_Ruled_tell := rfl
theorem eq_Ruled_note : Ph X (n + 1) 54 = defF (Ph X n) gl 3 6 true C_Ruled_note := rfl
theorem eq_Ruled_do : Ph X (n + 1) 55 = defF (Ph X n) gl 2 3 true C_Ruled_do := rfl
theorem eq_Ruled_go : Ph X (n + 1) 56 = defF (Ph X n) gl 2 9 true C_Ruled_go := rfl
theorem eq_Ruled : Ph X (n + 1) 57 = makeF 2 (Ph X n 52) := rfl
theorem eq_ruled : Ph X (n + 1) 58 = defF (Ph X n) gl 3 4 false C_ruled := rfl
theorem eq_ruled_to : Ph X (n + 1) 59 = defF (Ph X n) gl 3 5 false C_ruled_to := rfl
theorem eq_look_wave : Ph X (n + 1) 60 = defF (Ph X n) gl 3 4 false C_look_wave := rfl
theorem eq_wave : Ph X (n + 1) 61 = defF (Ph X n) gl 3 11 false C_wave := rfl
theorem eq_lit : Ph X (n + 1) 62 = defF (Ph X n) gl 3 6 false C_lit := rfl
theorem eq_together : Ph X (n + 1) 63 = defF (Ph X n) gl 3 7 false C_together := rfl
theorem eq_look_gap : Ph X (n + 1) 64 = defF (Ph X n) gl 1 1 false C_look_gap := rfl
theorem eq_high_half : Ph X (n + 1) 65 = defF (Ph X n) gl 2 2 false C_high_half := rfl
theorem eq_low_half : Ph X (n + 1) 66 = defF (Ph X n) gl 2 2 false C_low_half := rfl
theorem eq_torn : Ph X (n + 1) 67 = defF (Ph X n) gl 3 4 false C_torn := rfl
theorem eq_safe : Ph X (n + 1) 68 = defF (Ph X n) gl 4 8 false C_safe := rfl
theorem eq_look_span : Ph X (n + 1) 69 = defF (Ph X n) gl 2 3 false C_look_span := rfl
theorem eq_nearest : Ph X (n + 1) 70 = defF (Ph X n) gl 2 7 false C_nearest := rfl
theorem eq_exact : Ph X (n + 1) 71 = defF (Ph X n) gl 2 6 false C_exact := rfl
theorem eq_pairs_of : Ph X (n + 1) 72 = defF (Ph X n) gl 1 4 false C_pairs_of := rfl
theorem eq_look_reads : Ph X (n + 1) 73 = defF (Ph X n) gl 2 3 false C_look_reads := rfl
theorem eq_totals : Ph X (n + 1) 74 = defF (Ph X n) gl 2 4 false C_totals := rfl
theorem eq_sure_totals : Ph X (n + 1) 75 = defF (Ph X n) gl 4 9 false C_sure_totals := rfl
theorem eq_fitting : Ph X (n + 1) 76 = defF (Ph X n) gl 4 7 false C_fitting := rfl
theorem eq_evened : Ph X (n + 1) 77 = defF (Ph X n) gl 3 4 false C_evened := rfl
theorem eq_drift : Ph X (n + 1) 78 = defF (Ph X n) gl 3 7 false C_drift := rfl
theorem eq_ratio : Ph X (n + 1) 79 = defF (Ph X n) gl 2 4 false C_ratio := rfl
theorem eq_number_in : Ph X (n + 1) 80 = defF (Ph X n) gl 1 2 false C_number_in := rfl
theorem eq_edge_in : Ph X (n + 1) 81 = defF (Ph X n) gl 1 1 false C_edge_in := rfl
theorem eq_timer_in : Ph X (n + 1) 82 = defF (Ph X n) gl 1 6 false C_timer_in := rfl
theorem eq_read : Ph X (n + 1) 83 = defF (Ph X n) gl 1 4 false C_read := rfl
theorem eq_law_cell : Ph X (n + 1) 84 = defF (Ph X n) gl 2 2 false C_law_cell := rfl
theorem eq_law_mix : Ph X (n + 1) 85 = defF (Ph X n) gl 2 3 false C_law_mix := rfl
theorem eq_law_draw : Ph X (n + 1) 86 = defF (Ph X n) gl 3 3 false C_law_draw := rfl
theorem eq_law_pick : Ph X (n + 1) 87 = defF (Ph X n) gl 3 3 false C_law_pick := rfl
theorem eq_law_refusalA : Ph X (n + 1) 88 = defF (Ph X n) gl 1 2 false C_law_refusalA := rfl
theorem eq_law_edge : Ph X (n + 1) 89 = defF (Ph X n) gl 2 2 false C_law_edge := rfl
theorem eq_law_timer : Ph X (n + 1) 90 = defF (Ph X n) gl 4 12 false C_law_timer := rfl
theorem eq_law_plan : Ph X (n + 1) 91 = defF (Ph X n) gl 3 4 false C_law_plan := rfl
theorem eq_law_refusalB : Ph X (n + 1) 92 = defF (Ph X n) gl 1 3 false C_law_refusalB := rfl
theorem eq_law_begun : Ph X (n + 1) 93 = defF (Ph X n) gl 1 3 false C_law_begun := rfl
theorem eq_law_step : Ph X (n + 1) 94 = defF (Ph X n) gl 3 5 false C_law_step := rfl
theorem eq_law_beat : Ph X (n + 1) 95 = defF (Ph X n) gl 2 18 false C_law_beat := rfl
theorem eq_law_gone : Ph X (n + 1) 96 = defF (Ph X n) gl 3 6 false C_law_gone := rfl
theorem eq_law_put : Ph X (n + 1) 97 = defF (Ph X n) gl 4 11 false C_law_put := rfl
theorem eq_law_write : Ph X (n + 1) 98 = defF (Ph X n) gl 4 9 false C_law_write := rfl
theorem eq_law_rules : Ph X (n + 1) 99 = defF (Ph X n) gl 3 9 false C_law_rules := rfl
theorem eq_law_one : Ph X (n + 1) 100 = defF (Ph X n) gl 2 2 false C_law_one := rfl
theorem eq_law_told : Ph X (n + 1) 101 = defF (Ph X n) gl 2 5 false C_law_told := rfl
theorem eq_law_copy : Ph X (n + 1) 102 = defF (Ph X n) gl 1 3 false C_law_copy := rfl
theorem eq_law_spoil : Ph X (n + 1) 103 = defF (Ph X n) gl 1 3 false C_law_spoil := rfl
theorem eq_law_again : Ph X (n + 1) 104 = defF (Ph X n) gl 2 5 false C_law_again := rfl
end
end BC

/-! BMath: reckoning with codes. -/
namespace BC
open PySem
/-! what follows a value, by name: so that simp does not look under it -/
section
variable (Φ : Tbl) (gl : Nat → PyData)
def kCons2 (x : Va) (xs : List Va) (s : Sg) : Rs (List Va) := .ok (x :: xs) s
def kCons (r : Xe) (x : Va) (s : Sg) : Rs (List Va) := (sem Φ gl r s).bind (kCons2 x)
@[simp] theorem sem_nil (s : Sg) : sem Φ gl .nil s = .ok [] s := rfl
@[simp] theorem sem_cons (a r : Xe) (s : Sg) : sem Φ gl (.cons a r) s = one1 (sem Φ gl a s) (kCons Φ gl r) := rfl
@[simp] theorem kCons_eq (r : Xe) (x : Va) (s : Sg) : kCons Φ gl r x s = (sem Φ gl r s).bind (kCons2 x) := rfl
@[simp] theorem kCons2_eq (x : Va) (xs : List Va) (s : Sg) : kCons2 x xs s = .ok (x :: xs) s := rfl
def kVar (s : Sg) : Option (Option Va) → Rs (List Va)
  | some (some v) => .ok [v] s
  | _ => .stuck
@[simp] theorem sem_var (i : Nat) (s : Sg) : sem Φ gl (.var i) s = kVar s s.ρ[i]? := rfl
@[simp] theorem kVar_eq (s : Sg) (v : Va) : kVar s (some (some v)) = .ok [v] s := rfl
def kFrz2 (s : Sg) (k : Nat) : Option Re → Rs (List Va)
  | some (.lst xs) => dat (.list xs) { s with W := s.W.set k (.frz xs) }
  | some (.frz xs) => dat (.list xs) s
  | _ => .stuck
def kFrz (s : Sg) : Option (Option Va) → Rs (List Va)
  | some (some (.c k)) => kFrz2 s k s.W[k]?
  | some (some (.d x)) => dat x s
  | _ => .stuck
@[simp] theorem sem_frz (i : Nat) (s : Sg) : sem Φ gl (.frz i) s = kFrz s s.ρ[i]? := by
  show (match s.ρ[i]? with
    | some (some (.c k)) => match s.W[k]? with
      | some (.lst xs) => dat (.list xs) { s with W := s.W.set k (.frz xs) }
      | some (.frz xs) => dat (.list xs) s
      | _ => .stuck
    | some (some (.d x)) => dat x s
    | _ => .stuck) = _
  unfold kFrz
  split
  · unfold kFrz2
    split <;> rfl
  · rfl
  · rfl
@[simp] theorem kFrz_c (s : Sg) (k : Nat) : kFrz s (some (some (.c k))) = kFrz2 s k s.W[k]? := rfl
@[simp] theorem kFrz_d (s : Sg) (x : PyData) : kFrz s (some (some (.d x))) = .ok [.d x] s := rfl
@[simp] theorem kFrz2_l (s : Sg) (k : Nat) (xs : List PyData) : kFrz2 s k (some (.lst xs)) = .ok [.d (.list xs)] { s with W := s.W.set k (.frz xs) } := rfl
@[simp] theorem kFrz2_f (s : Sg) (k : Nat) (xs : List PyData) : kFrz2 s k (some (.frz xs)) = .ok [.d (.list xs)] s := rfl
@[simp] theorem sem_cst (x : PyData) (s : Sg) : sem Φ gl (.cst x) s = .ok [.d x] s := rfl
@[simp] theorem sem_glob (g : Nat) (s : Sg) : sem Φ gl (.glob g) s = .ok [.d (gl g)] s := rfl
def kNeg (x : Va) (s : Sg) : Rs (List Va) := match x with
  | .d (.int i) => dat (.int (-i)) s
  | _ => .stuck
@[simp] theorem sem_neg (a : Xe) (s : Sg) : sem Φ gl (.neg a) s = one1 (sem Φ gl a s) kNeg := rfl
@[simp] theorem kNeg_eq (i : Int) (s : Sg) : kNeg (.d (.int i)) s = .ok [.d (.int (-i))] s := rfl
def kO1 (f : PyData → PyData → Option PyData) (s : Sg) : Option PyData → Option PyData → Rs (List Va)
  | some u, some v => datO (f u v) s
  | _, _ => .stuck
@[simp] theorem kO1_eq (f : PyData → PyData → Option PyData) (s : Sg) (u v : PyData) : kO1 f s (some u) (some v) = datO (f u v) s := rfl
def kB1 (f : PyData → PyData → Option Bool) (s : Sg) : Option PyData → Option PyData → Rs (List Va)
  | some u, some v => boolO (f u v) s
  | _, _ => .stuck
@[simp] theorem kB1_eq (f : PyData → PyData → Option Bool) (s : Sg) (u v : PyData) : kB1 f s (some u) (some v) = boolO (f u v) s := rfl
def kBin2 (o : Bo) (x y : Va) (s : Sg) : Rs (List Va) := kO1 (binD o) s (peek s x) (peek s y)
def kBin (o : Bo) (b : Xe) (x : Va) (s : Sg) : Rs (List Va) := one1 (sem Φ gl b s) (kBin2 o x)
theorem kO1_m (f : PyData → PyData → Option PyData) (s : Sg) (a b : Option PyData) : (match a, b with
    | some u, some v => datO (f u v) s
    | _, _ => .stuck) = kO1 f s a b := by cases a <;> cases b <;> rfl
theorem kB1_m (f : PyData → PyData → Option Bool) (s : Sg) (a b : Option PyData) : (match a, b with
    | some u, some v => boolO (f u v) s
    | _, _ => .stuck) = kB1 f s a b := by cases a <;> cases b <;> rfl
@[simp] theorem sem_bin (o : Bo) (a b : Xe) (s : Sg) : sem Φ gl (.bin o a b) s = one1 (sem Φ gl a s) (kBin Φ gl o b) := by
  show one1 _ _ = one1 _ _
  congr 1
@[simp] theorem kBin_eq (o : Bo) (b : Xe) (x : Va) (s : Sg) : kBin Φ gl o b x s = one1 (sem Φ gl b s) (kBin2 o x) := rfl
@[simp] theorem kBin2_eq (o : Bo) (x y : Va) (s : Sg) : kBin2 o x y s = kO1 (binD o) s (peek s x) (peek s y) := rfl
def kCmp2 (o : Co) (x y : Va) (s : Sg) : Rs (List Va) := kB1 (cmpD o) s (peek s x) (peek s y)
def kCmp (o : Co) (b : Xe) (x : Va) (s : Sg) : Rs (List Va) := one1 (sem Φ gl b s) (kCmp2 o x)
@[simp] theorem sem_cmp (o : Co) (a b : Xe) (s : Sg) : sem Φ gl (.cmp o a b) s = one1 (sem Φ gl a s) (kCmp Φ gl o b) := by
  show one1 _ _ = one1 _ _
  congr 1
@[simp] theorem kCmp_eq (o : Co) (b : Xe) (x : Va) (s : Sg) : kCmp Φ gl o b x s = one1 (sem Φ gl b s) (kCmp2 o x) := rfl
@[simp] theorem kCmp2_eq (o : Co) (x y : Va) (s : Sg) : kCmp2 o x y s = kB1 (cmpD o) s (peek s x) (peek s y) := rfl
def kChn4 (p : Co) (y z : Va) (s : Sg) : Rs (List Va) := kB1 (cmpD p) s (peek s y) (peek s z)
def kChn3 (p : Co) (c : Xe) (y : Va) (s : Sg) : Option Bool → Rs (List Va)
  | some true => one1 (sem Φ gl c s) (kChn4 p y)
  | some false => dat (.bool false) s
  | none => .stuck
def kChn2m (o p : Co) (c : Xe) (y : Va) (s : Sg) : Option PyData → Option PyData → Rs (List Va)
  | some u, some v => kChn3 Φ gl p c y s (cmpD o u v)
  | _, _ => .stuck
def kChn2 (o p : Co) (c : Xe) (x y : Va) (s : Sg) : Rs (List Va) := kChn2m Φ gl o p c y s (peek s x) (peek s y)
def kChn (o p : Co) (b c : Xe) (x : Va) (s : Sg) : Rs (List Va) := one1 (sem Φ gl b s) (kChn2 Φ gl o p c x)
@[simp] theorem sem_chain (o p : Co) (a b c : Xe) (s : Sg) : sem Φ gl (.chain o p a b c) s = one1 (sem Φ gl a s) (kChn Φ gl o p b c) := by
  show one1 _ _ = one1 _ _
  congr 1
@[simp] theorem kChn_eq (o p : Co) (b c : Xe) (x : Va) (s : Sg) : kChn Φ gl o p b c x s = one1 (sem Φ gl b s) (kChn2 Φ gl o p c x) := rfl
@[simp] theorem kChn2_eq (o p : Co) (c : Xe) (x y : Va) (s : Sg) : kChn2 Φ gl o p c x y s = kChn2m Φ gl o p c y s (peek s x) (peek s y) := rfl
@[simp] theorem kChn2m_eq (o p : Co) (c : Xe) (y : Va) (s : Sg) (u v : PyData) : kChn2m Φ gl o p c y s (some u) (some v) = kChn3 Φ gl p c y s (cmpD o u v) := rfl
@[simp] theorem kChn3_t (p : Co) (c : Xe) (y : Va) (s : Sg) : kChn3 Φ gl p c y s (some true) = one1 (sem Φ gl c s) (kChn4 p y) := rfl
@[simp] theorem kChn3_f (p : Co) (c : Xe) (y : Va) (s : Sg) : kChn3 Φ gl p c y s (some false) = .ok [.d (.bool false)] s := rfl
@[simp] theorem kChn4_eq (p : Co) (y z : Va) (s : Sg) : kChn4 p y z s = kB1 (cmpD p) s (peek s y) (peek s z) := rfl
def kIsN (x : Va) (s : Sg) : Rs (List Va) := .ok [.d (.bool (isNone x))] s
def kIsNot (x : Va) (s : Sg) : Rs (List Va) := .ok [.d (.bool (!isNone x))] s
@[simp] theorem sem_isN (a : Xe) (s : Sg) : sem Φ gl (.isN a) s = one1 (sem Φ gl a s) kIsN := rfl
@[simp] theorem sem_isNot (a : Xe) (s : Sg) : sem Φ gl (.isNot a) s = one1 (sem Φ gl a s) kIsNot := rfl
@[simp] theorem kIsN_eq (x : Va) (s : Sg) : kIsN x s = .ok [.d (.bool (isNone x))] s := rfl
@[simp] theorem kIsNot_eq (x : Va) (s : Sg) : kIsNot x s = .ok [.d (.bool (!isNone x))] s := rfl
def kAnd2 (b : Xe) (x : Va) (k : Bool) (s : Sg) : Rs (List Va) := if k then sem Φ gl b s else .ok [x] s
def kAnd (b : Xe) (x : Va) (s : Sg) : Rs (List Va) := (tru x s).bind (kAnd2 Φ gl b x)
@[simp] theorem sem_and (a b : Xe) (s : Sg) : sem Φ gl (.and a b) s = one1 (sem Φ gl a s) (kAnd Φ gl b) := rfl
@[simp] theorem kAnd_eq (b : Xe) (x : Va) (s : Sg) : kAnd Φ gl b x s = (tru x s).bind (kAnd2 Φ gl b x) := rfl
@[simp] theorem kAnd2_t (b : Xe) (x : Va) (s : Sg) : kAnd2 Φ gl b x true s = sem Φ gl b s := rfl
@[simp] theorem kAnd2_f (b : Xe) (x : Va) (s : Sg) : kAnd2 Φ gl b x false s = .ok [x] s := rfl
def kOr2 (b : Xe) (x : Va) (k : Bool) (s : Sg) : Rs (List Va) := if k then .ok [x] s else sem Φ gl b s
def kOr (b : Xe) (x : Va) (s : Sg) : Rs (List Va) := (tru x s).bind (kOr2 Φ gl b x)
@[simp] theorem sem_or (a b : Xe) (s : Sg) : sem Φ gl (.or a b) s = one1 (sem Φ gl a s) (kOr Φ gl b) := rfl
@[simp] theorem kOr_eq (b : Xe) (x : Va) (s : Sg) : kOr Φ gl b x s = (tru x s).bind (kOr2 Φ gl b x) := rfl
@[simp] theorem kOr2_t (b : Xe) (x : Va) (s : Sg) : kOr2 Φ gl b x true s = .ok [x] s := rfl
@[simp] theorem kOr2_f (b : Xe) (x : Va) (s : Sg) : kOr2 Φ gl b x false s = sem Φ gl b s := rfl
@[simp] theorem sem_one (a : Xe) (s : Sg) : sem Φ gl (.one a) s = sem Φ gl a s := rfl
def kNot2 (k : Bool) (s : Sg) : Rs (List Va) := .ok [.d (.bool (!k))] s
def kNot (x : Va) (s : Sg) : Rs (List Va) := (tru x s).bind kNot2
@[simp] theorem sem_not (a : Xe) (s : Sg) : sem Φ gl (.not a) s = one1 (sem Φ gl a s) kNot := rfl
@[simp] theorem kNot_eq (x : Va) (s : Sg) : kNot x s = (tru x s).bind kNot2 := rfl
@[simp] theorem kNot2_eq (k : Bool) (s : Sg) : kNot2 k s = .ok [.d (.bool (!k))] s := rfl
def kIf2 (a b : Xe) (k : Bool) (s : Sg) : Rs (List Va) := if k then sem Φ gl a s else sem Φ gl b s
def kIf (a b : Xe) (x : Va) (s : Sg) : Rs (List Va) := (tru x s).bind (kIf2 Φ gl a b)
@[simp] theorem sem_ifx (t a b : Xe) (s : Sg) : sem Φ gl (.ifx t a b) s = one1 (sem Φ gl t s) (kIf Φ gl a b) := rfl
@[simp] theorem kIf_eq (a b : Xe) (x : Va) (s : Sg) : kIf Φ gl a b x s = (tru x s).bind (kIf2 Φ gl a b) := rfl
@[simp] theorem kIf2_t (a b : Xe) (s : Sg) : kIf2 Φ gl a b true s = sem Φ gl a s := rfl
@[simp] theorem kIf2_f (a b : Xe) (s : Sg) : kIf2 Φ gl a b false s = sem Φ gl b s := rfl
def kTup2 (s : Sg) : Option (List PyData) → Rs (List Va)
  | some xs => if xs.length ≤ lim then dat (.tuple xs) s else .stuck
  | none => .stuck
def kTup (vs : List Va) (s : Sg) : Rs (List Va) := kTup2 s (solids s vs)
@[simp] theorem sem_tup (as : Xe) (s : Sg) : sem Φ gl (.tup as) s = (sem Φ gl as s).bind kTup := by
  show Rs.bind _ _ = Rs.bind _ _
  congr 1
@[simp] theorem kTup_eq (vs : List Va) (s : Sg) : kTup vs s = kTup2 s (solids s vs) := rfl
@[simp] theorem kTup2_eq (xs : List PyData) (s : Sg) : kTup2 s (some xs) = if xs.length ≤ lim then .ok [.d (.tuple xs)] s else .stuck := rfl
def kLst2 (s : Sg) : Option (List PyData) → Rs (List Va)
  | some xs => if xs.length ≤ lim then dat (.list xs) s else .stuck
  | none => .stuck
def kLst (vs : List Va) (s : Sg) : Rs (List Va) := kLst2 s (solids s vs)
@[simp] theorem sem_lst (as : Xe) (s : Sg) : sem Φ gl (.lst as) s = (sem Φ gl as s).bind kLst := by
  show Rs.bind _ _ = Rs.bind _ _
  congr 1
@[simp] theorem kLst_eq (vs : List Va) (s : Sg) : kLst vs s = kLst2 s (solids s vs) := rfl
@[simp] theorem kLst2_eq (xs : List PyData) (s : Sg) : kLst2 s (some xs) = if xs.length ≤ lim then .ok [.d (.list xs)] s else .stuck := rfl
def kIdx2 (x y : Va) (s : Sg) : Rs (List Va) := kO1 idxD s (peekR s x) (peek s y)
def kIdx (i : Xe) (x : Va) (s : Sg) : Rs (List Va) := one1 (sem Φ gl i s) (kIdx2 x)
@[simp] theorem sem_idx (a i : Xe) (s : Sg) : sem Φ gl (.idx a i) s = one1 (sem Φ gl a s) (kIdx Φ gl i) := by
  show one1 _ _ = one1 _ _
  congr 1
@[simp] theorem kIdx_eq (i : Xe) (x : Va) (s : Sg) : kIdx Φ gl i x s = one1 (sem Φ gl i s) (kIdx2 x) := rfl
@[simp] theorem kIdx2_eq (x y : Va) (s : Sg) : kIdx2 x y s = kO1 idxD s (peekR s x) (peek s y) := rfl
def kSl3m (l h : Option Int) (s : Sg) : Option PyData → Rs (List Va)
  | some u => datO (sliceD u l h) s
  | none => .stuck
def kSl3 (x : Va) (l h : Option Int) (s : Sg) : Rs (List Va) := kSl3m l h s (peek s x)
def kSl2 (hi : Xe) (x : Va) (l : Option Int) (s : Sg) : Rs (List Va) := (partM hi.isNil (sem Φ gl hi) s).bind (kSl3 x l)
def kSl (lo hi : Xe) (x : Va) (s : Sg) : Rs (List Va) := (partM lo.isNil (sem Φ gl lo) s).bind (kSl2 Φ gl hi x)
@[simp] theorem sem_slice (a lo hi : Xe) (s : Sg) : sem Φ gl (.slice a lo hi) s = one1 (sem Φ gl a s) (kSl Φ gl lo hi) := by
  show one1 _ _ = one1 _ _
  congr 1
@[simp] theorem kSl_eq (lo hi : Xe) (x : Va) (s : Sg) : kSl Φ gl lo hi x s = (partM lo.isNil (sem Φ gl lo) s).bind (kSl2 Φ gl hi x) := rfl
@[simp] theorem kSl2_eq (hi : Xe) (x : Va) (l : Option Int) (s : Sg) : kSl2 Φ gl hi x l s = (partM hi.isNil (sem Φ gl hi) s).bind (kSl3 x l) := rfl
@[simp] theorem kSl3_eq (x : Va) (l h : Option Int) (s : Sg) : kSl3 x l h s = kSl3m l h s (peek s x) := rfl
@[simp] theorem kSl3m_eq (l h : Option Int) (s : Sg) (u : PyData) : kSl3m l h s (some u) = datO (sliceD u l h) s := rfl
@[simp] theorem partI_eq (i : Int) (s : Sg) : partI (.d (.int i)) s = .ok (some i) s := rfl
@[simp] theorem partM_t (f : M (List Va)) (s : Sg) : partM true f s = .ok none s := rfl
@[simp] theorem partM_f (f : M (List Va)) (s : Sg) : partM false f s = one1 (f s) partI := rfl
def kV1 (v : Va) (s : Sg) : Rs (List Va) := .ok [v] s
def kCall (f m : Nat) (vs : List Va) (s : Sg) : Rs (List Va) := (BC.run (Φ f) false m vs s).bind kV1
@[simp] theorem kV1_eq (v : Va) (s : Sg) : kV1 v s = .ok [v] s := rfl
@[simp] theorem sem_call (f m : Nat) (as : Xe) (s : Sg) : sem Φ gl (.call f m as) s = (sem Φ gl as s).bind (kCall Φ f m) := rfl
@[simp] theorem kCall_eq (f m : Nat) (vs : List Va) (s : Sg) : kCall Φ f m vs s = (BC.run (Φ f) false m vs s).bind kV1 := rfl
def kBf2 (f : Bf) (s : Sg) : Option (List PyData) → Rs (List Va)
  | some xs => datO (bfD f xs) s
  | none => .stuck
def kBf (f : Bf) (vs : List Va) (s : Sg) : Rs (List Va) := kBf2 f s (peeks s vs)
@[simp] theorem sem_bf (f : Bf) (as : Xe) (s : Sg) : sem Φ gl (.bf f as) s = (sem Φ gl as s).bind (kBf f) := by
  show Rs.bind _ _ = Rs.bind _ _
  congr 1
@[simp] theorem kBf_eq (f : Bf) (vs : List Va) (s : Sg) : kBf f vs s = kBf2 f s (peeks s vs) := rfl
@[simp] theorem kBf2_eq (f : Bf) (xs : List PyData) (s : Sg) : kBf2 f s (some xs) = datO (bfD f xs) s := rfl
def kIsi (t : Nat) (x : Va) (s : Sg) : Rs (List Va) := boolO (isiV x t s) s
@[simp] theorem sem_isi (a : Xe) (t : Nat) (s : Sg) : sem Φ gl (.isi a t) s = one1 (sem Φ gl a s) (kIsi t) := rfl
@[simp] theorem kIsi_eq (t : Nat) (x : Va) (s : Sg) : kIsi t x s = boolO (isiV x t s) s := rfl
def kSeq2 (s : Sg) : Option PyData → Rs (List Va)
  | some (.list xs) => .ok (xs.map .d) s
  | some (.tuple xs) => .ok (xs.map .d) s
  | _ => .stuck
def kSseq (x : Va) (s : Sg) : Rs (List Va) := kSeq2 s (solid s x)
@[simp] theorem sem_sseq (e : Xe) (s : Sg) : sem Φ gl (.sseq e) s = one1 (sem Φ gl e s) kSseq := rfl
@[simp] theorem kSseq_eq (x : Va) (s : Sg) : kSseq x s = kSeq2 s (solid s x) := rfl
@[simp] theorem kSeq2_l (s : Sg) (xs : List PyData) : kSeq2 s (some (.list xs)) = .ok (xs.map .d) s := rfl
@[simp] theorem kSeq2_t (s : Sg) (xs : List PyData) : kSeq2 s (some (.tuple xs)) = .ok (xs.map .d) s := rfl
/-! statements -/
def kSq (b : Cd) (f : Fl) (s : Sg) : Rs Fl := match f with
  | .next => semS Φ gl b s
  | f => .ok f s
@[simp] theorem semS_nil (s : Sg) : semS Φ gl .nil s = .ok .next s := rfl
@[simp] theorem semS_seq (a b : Cd) (s : Sg) : semS Φ gl (.seq a b) s = (semS Φ gl a s).bind (kSq Φ gl b) := rfl
@[simp] theorem kSq_n (b : Cd) (s : Sg) : kSq Φ gl b .next s = semS Φ gl b s := rfl
@[simp] theorem kSq_r (b : Cd) (v : Va) (s : Sg) : kSq Φ gl b (.ret v) s = .ok (.ret v) s := rfl
@[simp] theorem kSq_b (b : Cd) (s : Sg) : kSq Φ gl b .brk s = .ok .brk s := rfl
@[simp] theorem kSq_c (b : Cd) (s : Sg) : kSq Φ gl b .cont s = .ok .cont s := rfl
@[simp] theorem semS_pass (s : Sg) : semS Φ gl .pass s = .ok .next s := rfl
@[simp] theorem semS_brk (s : Sg) : semS Φ gl .brk s = .ok .brk s := rfl
@[simp] theorem semS_cont (s : Sg) : semS Φ gl .cont s = .ok .cont s := rfl
@[simp] theorem semS_retN (s : Sg) : semS Φ gl .retN s = .ok (.ret (.d .none)) s := rfl
@[simp] theorem semS_raise (c : Nat) (s : Sg) : semS Φ gl (.raise c) s = .err c s := rfl
def kAsg2 : Option Sg → Rs Fl
  | some s => .ok Fl.next s
  | none => .stuck
def kAsg (t : Tg) (v : Va) (s : Sg) : Rs Fl := kAsg2 (setTg t v s)
@[simp] theorem semS_asg (t : Tg) (e : Xe) (s : Sg) : semS Φ gl (.asg t e) s = one1 (sem Φ gl e s) (kAsg t) := rfl
@[simp] theorem kAsg_n (i : Nat) (v : Va) (s : Sg) : kAsg (.name i) v s = .ok .next { s with ρ := s.ρ.set i (some v) } := rfl
@[simp] theorem kAsg_t (is : List Nat) (xs : List PyData) (s : Sg) : kAsg (.names is) (.d (.tuple xs)) s = kAsg2 (setIs is xs s) := rfl
@[simp] theorem kAsg_l (is : List Nat) (xs : List PyData) (s : Sg) : kAsg (.namesL is) (.d (.list xs)) s = kAsg2 (setIs is xs s) := rfl
@[simp] theorem kAsg2_eq (s : Sg) : kAsg2 (some s) = .ok .next s := rfl
def kRet (v : Va) (s : Sg) : Rs Fl := .ok (.ret v) s
@[simp] theorem semS_ret (e : Xe) (s : Sg) : semS Φ gl (.ret e) s = one1 (sem Φ gl e s) kRet := rfl
@[simp] theorem kRet_eq (v : Va) (s : Sg) : kRet v s = .ok (.ret v) s := rfl
def kDrop (v : Va) (s : Sg) : Rs Fl := .ok Fl.next s
@[simp] theorem semS_drop (e : Xe) (s : Sg) : semS Φ gl (.drop e) s = one1 (sem Φ gl e s) kDrop := rfl
@[simp] theorem kDrop_eq (v : Va) (s : Sg) : kDrop v s = .ok .next s := rfl
def kIte2 (a b : Cd) (k : Bool) (s : Sg) : Rs Fl := if k then semS Φ gl a s else semS Φ gl b s
def kIte (a b : Cd) (x : Va) (s : Sg) : Rs Fl := (tru x s).bind (kIte2 Φ gl a b)
@[simp] theorem semS_ite (c : Xe) (a b : Cd) (s : Sg) : semS Φ gl (.ite c a b) s = one1 (sem Φ gl c s) (kIte Φ gl a b) := rfl
@[simp] theorem kIte_eq (a b : Cd) (x : Va) (s : Sg) : kIte Φ gl a b x s = (tru x s).bind (kIte2 Φ gl a b) := rfl
@[simp] theorem kIte2_t (a b : Cd) (s : Sg) : kIte2 Φ gl a b true s = semS Φ gl a s := rfl
@[simp] theorem kIte2_f (a b : Cd) (s : Sg) : kIte2 Φ gl a b false s = semS Φ gl b s := rfl
def kNewL2 (i : Nat) (s : Sg) : Option (List PyData) → Rs Fl
  | some xs => if xs.length ≤ lim then .ok .next { s with ρ := s.ρ.set i (some (.c s.W.length)), W := s.W ++ [.lst xs] } else .stuck
  | none => .stuck
def kNewL (i : Nat) (vs : List Va) (s : Sg) : Rs Fl := kNewL2 i s (solids s vs)
@[simp] theorem semS_newL (i : Nat) (as : Xe) (s : Sg) : semS Φ gl (.newL i as) s = (sem Φ gl as s).bind (kNewL i) := by
  show Rs.bind _ _ = Rs.bind _ _
  congr 1
@[simp] theorem kNewL_eq (i : Nat) (vs : List Va) (s : Sg) : kNewL i vs s = kNewL2 i s (solids s vs) := rfl
@[simp] theorem kNewL2_eq (i : Nat) (xs : List PyData) (s : Sg) : kNewL2 i s (some xs) = if xs.length ≤ lim then .ok .next { s with ρ := s.ρ.set i (some (.c s.W.length)), W := s.W ++ [.lst xs] } else .stuck := rfl
def kApp3 (k : Nat) (s : Sg) : Option Re → Option PyData → Rs Fl
  | some (.lst xs), some x => if xs.length < lim then .ok .next { s with W := s.W.set k (.lst (xs ++ [x])) } else .stuck
  | _, _ => .stuck
def kApp2 (k : Nat) (v : Va) (s : Sg) : Rs Fl := kApp3 k s s.W[k]? (solid s v)
def kApp (e : Xe) (s : Sg) : Option Nat → Rs Fl
  | some k => one1 (sem Φ gl e s) (kApp2 k)
  | none => .stuck
@[simp] theorem semS_app (i : Nat) (e : Xe) (s : Sg) : semS Φ gl (.app i e) s = kApp Φ gl e s (lstAt s i) := by
  show (match lstAt s i with
    | some k => one1 (sem Φ gl e s) fun v s => match s.W[k]?, solid s v with
      | some (.lst xs), some x => if xs.length < lim then Rs.ok Fl.next { s with W := s.W.set k (.lst (xs ++ [x])) } else .stuck
      | _, _ => .stuck
    | none => .stuck) = _
  cases lstAt s i with
  | none => rfl
  | some k =>
    show one1 _ _ = one1 _ _
    congr 1
@[simp] theorem kApp_eq (e : Xe) (s : Sg) (k : Nat) : kApp Φ gl e s (some k) = one1 (sem Φ gl e s) (kApp2 k) := rfl
@[simp] theorem kApp2_eq (k : Nat) (v : Va) (s : Sg) : kApp2 k v s = kApp3 k s s.W[k]? (solid s v) := rfl
@[simp] theorem kApp3_eq (k : Nat) (s : Sg) (xs : List PyData) (x : PyData) : kApp3 k s (some (.lst xs)) (some x) = if xs.length < lim then .ok .next { s with W := s.W.set k (.lst (xs ++ [x])) } else .stuck := rfl
end
section
variable (Φ : Tbl) (gl : Nat → PyData)
theorem seq_next {a b : Cd} {s t : Sg} (h : semS Φ gl a s = .ok .next t) : semS Φ gl (.seq a b) s = semS Φ gl b t := by
  show (semS Φ gl a s).bind _ = _
  rw [h]; rfl
theorem seq_ret {a b : Cd} {s t : Sg} {v : Va} (h : semS Φ gl a s = .ok (.ret v) t) : semS Φ gl (.seq a b) s = .ok (.ret v) t := by
  show (semS Φ gl a s).bind _ = _
  rw [h]; rfl
theorem seq_err {a b : Cd} {s t : Sg} {c : Nat} (h : semS Φ gl a s = .err c t) : semS Φ gl (.seq a b) s = .err c t := by
  show (semS Φ gl a s).bind _ = _
  rw [h]; rfl
end
theorem loop_ind {f : Va → Sg → Rs Fl} (I : Nat → Sg → Prop) : ∀ (items : List Va) (k : Nat) (s : Sg), I k s → (∀ i s, (h : i < items.length) → I (k + i) s → ∃ s', (f items[i] s = .ok .next s' ∨ f items[i] s = .ok .cont s') ∧ I (k + i + 1) s') → ∃ s', loopL f items s = .ok .next s' ∧ I (k + items.length) s'
  | [], k, s, h, _ => ⟨s, rfl, h⟩
  | v :: r, k, s, h, st => by
    obtain ⟨s1, e, h1⟩ := st 0 s (by simp) h
    obtain ⟨s2, e2, h2⟩ := loop_ind I r (k + 1) s1 h1 fun i s hi hI => by
      obtain ⟨s', e', h'⟩ := st (i + 1) s (by simpa using hi) (by rw [show k + (i + 1) = k + 1 + i by omega]; exact hI)
      refine ⟨s', by simpa using e', ?_⟩
      rw [show k + 1 + i + 1 = k + (i + 1) + 1 by omega]; exact h'
    refine ⟨s2, ?_, by rw [show k + (v :: r).length = k + 1 + r.length by simp; omega]; exact h2⟩
    show (match f v s with
      | .ok .next s' => loopL f r s'
      | .ok .cont s' => loopL f r s'
      | .ok .brk s' => .ok .next s'
      | .ok (.ret x) s' => .ok (.ret x) s'
      | .err c s' => .err c s'
      | .stuck => .stuck) = _
    have e' : f v s = .ok .next s1 ∨ f v s = .ok .cont s1 := e
    rcases e' with e' | e' <;> (rw [e']; exact e2)
/-- a comprehension, turn by turn: the items made, the box and the world behind -/
theorem compL_ind {f : Va → Sg → Rs (Option Va)} (I : Nat → List Va → Sg → Prop) : ∀ (items : List Va) (k : Nat) (acc : List Va) (s : Sg), I k acc s → (∀ i acc s, (h : i < items.length) → I (k + i) acc s → acc.length < lim ∧ ∃ o s', f items[i] s = .ok o s' ∧ I (k + i + 1) (acc ++ o.toList) s') → ∃ vs s', compL f items acc s = .ok vs s' ∧ I (k + items.length) vs s'
  | [], k, acc, s, h, _ => ⟨acc, s, rfl, h⟩
  | v :: r, k, acc, s, h, st => by
    obtain ⟨hl, o, s1, e, h1⟩ := st 0 acc s (by simp) h
    have e' : f v s = .ok o s1 := e
    obtain ⟨vs, s2, e2, h2⟩ := compL_ind I r (k + 1) (acc ++ o.toList) s1 h1 fun i acc s hi hI => by
      obtain ⟨hl, o, s', e', h'⟩ := st (i + 1) acc s (by simpa using hi) (by rw [show k + (i + 1) = k + 1 + i by omega]; exact hI)
      refine ⟨hl, o, s', by simpa using e', ?_⟩
      rw [show k + 1 + i + 1 = k + (i + 1) + 1 by omega]; exact h'
    refine ⟨vs, s2, ?_, by rw [show k + (v :: r).length = k + 1 + r.length by simp; omega]; exact h2⟩
    show (match f v s with
      | .ok (some y) s' => if acc.length < lim then compL f r (acc ++ [y]) s' else .stuck
      | .ok none s' => compL f r acc s'
      | _ => .stuck) = _
    rw [e']
    cases o with
    | none => simpa using e2
    | some y => dsimp only; rw [if_pos hl]; exact e2
def stepC (tg own : List Nat) (cond : M Bool) (elt : M (List Va)) (ρ : List (Option Va)) (v : Va) (t : Sg) : Rs (Option Va) := match setTg (tgOf tg) v { t with ρ := wipeR ρ own } with
  | some t1 => (cond t1).bind fun b t2 => if b then one1 (elt t2) fun y t3 => .ok (some y) t3 else .ok none t2
  | none => .stuck
theorem compM_eq (src : M (List Va)) (tg own : List Nat) (cond : M Bool) (elt : M (List Va)) (s : Sg) : compM src tg own cond elt s = (src s).bind fun items s1 => (compL (stepC tg own cond elt s1.ρ) items [] s1).bind fun vs t => .ok vs { t with ρ := s1.ρ } := rfl
theorem stepC_eq {tg own : List Nat} {cond : M Bool} {elt : M (List Va)} {ρ : List (Option Va)} {v : Va} {t t1 t2 : Sg} {b : Bool} (h1 : setTg (tgOf tg) v { t with ρ := wipeR ρ own } = some t1) (h2 : cond t1 = .ok b t2) : stepC tg own cond elt ρ v t = if b then one1 (elt t2) fun y t3 => .ok (some y) t3 else .ok none t2 := by
  unfold stepC
  rw [h1]
  dsimp only
  rw [h2]
  rfl
/-- .. that neither draws nor calls: a filter, a map -/
theorem compM_pure {src : M (List Va)} {tg own : List Nat} {cond : M Bool} {elt : M (List Va)} {s : Sg} {α : Type} {xs : List α} (φ : α → PyData) (p : α → Bool) (g : α → PyData) (hs : src s = .ok (xs.map fun a => .d (φ a)) s) (hl : xs.length ≤ lim)
    (ht : ∀ x ∈ xs, ∃ t : Sg, setTg (tgOf tg) (.d (φ x)) { s with ρ := wipeR s.ρ own } = some t ∧ ∃ u : Sg, u.B = s.B ∧ u.W = s.W ∧ cond t = .ok (p x) u ∧ (p x = true → ∃ v : Sg, v.B = s.B ∧ v.W = s.W ∧ elt u = .ok [.d (g x)] v)) :
    compM src tg own cond elt s = .ok (((xs.filter p).map g).map .d) s := by
  rw [compM_eq, hs, bind_ok]
  obtain ⟨vs, s', e, hI⟩ := compL_ind (fun k acc t => acc = (((xs.take k).filter p).map g).map .d ∧ t.B = s.B ∧ t.W = s.W) (f := stepC tg own cond elt s.ρ) (xs.map fun a => .d (φ a)) 0 [] s ⟨by simp, rfl, rfl⟩ (fun i acc t hi ⟨h1, h2, h3⟩ => by
    rw [Nat.zero_add] at h1 ⊢
    have hi' : i < xs.length := by simpa using hi
    obtain ⟨t1, e1, u, b2, w2, e2, h⟩ := ht xs[i] (List.getElem_mem hi')
    have et : ({ t with ρ := wipeR s.ρ own } : Sg) = { s with ρ := wipeR s.ρ own } := by
      obtain ⟨r, b, w⟩ := t
      obtain ⟨r', b', w'⟩ := s
      cases h2
      cases h3
      rfl
    have el : (xs.take i).length = i := by rw [List.length_take]; omega
    have hacc : acc.length < lim := by
      rw [h1, List.length_map, List.length_map]
      have := List.length_filter_le p (xs.take i)
      omega
    have ei : (xs.map fun a => Va.d (φ a))[i] = .d (φ xs[i]) := by simp
    have tk : xs.take (i + 1) = xs.take i ++ [xs[i]] := by rw [List.take_succ, List.getElem?_eq_getElem hi']; rfl
    refine ⟨hacc, ?_⟩
    rw [ei, stepC_eq (by rw [et]; exact e1) e2]
    cases hp : p xs[i] with
    | false =>
      refine ⟨none, u, by simp, ?_, b2, w2⟩
      rw [tk, h1, List.filter_append]
      simp [hp, List.filter_cons]
    | true =>
      obtain ⟨v, b3, w3, e3⟩ := h hp
      refine ⟨some (.d (g xs[i])), v, by simp [e3], ?_, b3, w3⟩
      rw [tk, h1, List.filter_append]
      simp [hp, List.filter_cons])
  rw [e, bind_ok]
  obtain ⟨h1, h2, h3⟩ := hI
  obtain ⟨r, b, w⟩ := s'
  obtain ⟨r', b', w'⟩ := s
  cases h2
  cases h3
  rw [h1]
  simp
theorem solids_d (s : Sg) : ∀ xs : List PyData, solids s (xs.map .d) = some xs
  | [] => rfl
  | x :: r => by
    show (match solid s (.d x), solids s (r.map .d) with
      | some x, some xs => some (x :: xs)
      | _, _ => none) = _
    rw [solids_d s r]; rfl
theorem peeks_d (s : Sg) : ∀ xs : List PyData, peeks s (xs.map .d) = some xs
  | [] => rfl
  | x :: r => by
    show (match peekR s (.d x), peeks s (r.map .d) with
      | some x, some xs => some (x :: xs)
      | _, _ => none) = _
    rw [peeks_d s r]; rfl
theorem intsD_map : ∀ ns : List Int, intsD (ns.map .int) = some ns
  | [] => rfl
  | n :: r => by show (intsD (r.map .int)).map (n :: ·) = _; rw [intsD_map r]; rfl
theorem boolsD_map : ∀ ns : List Bool, boolsD (ns.map .bool) = some ns
  | [] => rfl
  | n :: r => by show (boolsD (r.map .bool)).map (n :: ·) = _; rw [boolsD_map r]; rfl

section
variable {Φ : Tbl} {gl : Nat → PyData}
theorem set_set_none (ρ : List (Option Va)) (i : Nat) (v : Option Va) : (wipeR ρ [i]).set i v = ρ.set i v := by
  show (ρ.set i none).set i v = _
  rw [List.set_set]
/-- [elt for x in src] -/
theorem comp_map1 {src elt : Xe} {i : Nat} {s : Sg} {α : Type} {xs : List α} (φ : α → PyData) (g : α → PyData) (hs : sem Φ gl src s = .ok (xs.map fun a => .d (φ a)) s) (hl : xs.length ≤ lim) (ht : ∀ x ∈ xs, sem Φ gl elt { s with ρ := s.ρ.set i (some (.d (φ x))) } = dat (g x) { s with ρ := s.ρ.set i (some (.d (φ x))) }) :
    sem Φ gl (.comp src [i] [i] .nil elt) s = dat (.list (xs.map g)) s := by
  have e := compM_pure (tg := [i]) (own := [i]) (cond := condM Xe.nil.isNil (sem Φ gl .nil)) (elt := sem Φ gl elt) φ (fun _ => true) g hs hl fun x hx =>
    ⟨{ s with ρ := s.ρ.set i (some (.d (φ x))) }, by show some _ = some _; rw [set_set_none], { s with ρ := s.ρ.set i (some (.d (φ x))) }, rfl, rfl, rfl, fun _ => ⟨{ s with ρ := s.ρ.set i (some (.d (φ x))) }, rfl, rfl, ht x hx⟩⟩
  show (compM _ _ _ _ _ s).bind _ = _
  have ef : xs.filter (fun _ => true) = xs := List.filter_eq_self.mpr fun _ _ => rfl
  rw [e, bind_ok, solids_d, ef]
/-- [elt for x in src if cond] -/
theorem comp_filter1 {src cond elt : Xe} {i : Nat} {s : Sg} {α : Type} {xs : List α} (φ : α → PyData) (p : α → Bool) (g : α → PyData) (hn : cond.isNil = false) (hs : sem Φ gl src s = .ok (xs.map fun a => .d (φ a)) s) (hl : xs.length ≤ lim) (hc : ∀ x ∈ xs, sem Φ gl cond { s with ρ := s.ρ.set i (some (.d (φ x))) } = dat (.bool (p x)) { s with ρ := s.ρ.set i (some (.d (φ x))) })
    (ht : ∀ x ∈ xs, p x = true → sem Φ gl elt { s with ρ := s.ρ.set i (some (.d (φ x))) } = dat (g x) { s with ρ := s.ρ.set i (some (.d (φ x))) }) :
    sem Φ gl (.comp src [i] [i] cond elt) s = dat (.list ((xs.filter p).map g)) s := by
  have e := compM_pure (tg := [i]) (own := [i]) (cond := condM cond.isNil (sem Φ gl cond)) (elt := sem Φ gl elt) φ p g hs hl fun x hx =>
    ⟨{ s with ρ := s.ρ.set i (some (.d (φ x))) }, by show some _ = some _; rw [set_set_none], { s with ρ := s.ρ.set i (some (.d (φ x))) }, rfl, rfl, by
      show (if cond.isNil = true then _ else _) = _
      rw [hn, if_neg (by decide), hc x hx]
      rfl, fun hp => ⟨{ s with ρ := s.ρ.set i (some (.d (φ x))) }, rfl, rfl, ht x hx hp⟩⟩
  show (compM _ _ _ _ _ s).bind _ = _
  rw [e, bind_ok, solids_d]
/-- .. that changes the world -/
theorem comp_st1 {src elt : Xe} {i : Nat} {s : Sg} {α : Type} {xs : List α} (φ : α → PyData) (I : Nat → List PyData → List Re → Prop) (hs : sem Φ gl src s = .ok (xs.map fun a => .d (φ a)) s) (hl : xs.length ≤ lim) (h0 : I 0 [] s.W)
    (ht : ∀ k (hk : k < xs.length) ys W, ys.length = k → I k ys W → ∃ y ρ' W', sem Φ gl elt ⟨s.ρ.set i (some (.d (φ xs[k]))), s.B, W⟩ = .ok [.d y] ⟨ρ', s.B, W'⟩ ∧ I (k + 1) (ys ++ [y]) W') :
    ∃ ys W', sem Φ gl (.comp src [i] [i] .nil elt) s = dat (.list ys) { s with W := W' } ∧ ys.length = xs.length ∧ I xs.length ys W' := by
  obtain ⟨vs, s', e, ys, h1, h2, h3, h4⟩ := compL_ind (fun k acc t => ∃ ys : List PyData, acc = ys.map .d ∧ t.B = s.B ∧ ys.length = k ∧ I k ys t.W) (f := stepC [i] [i] (condM Xe.nil.isNil (sem Φ gl .nil)) (sem Φ gl elt) s.ρ) (xs.map fun a => .d (φ a)) 0 [] s ⟨[], rfl, rfl, rfl, h0⟩ (fun k acc t hk ⟨ys, h1, h2, h3, h4⟩ => by
    rw [Nat.zero_add] at h3 h4 ⊢
    have hk' : k < xs.length := by simpa using hk
    obtain ⟨y, ρ', W', e, hI⟩ := ht k hk' ys t.W h3 h4
    refine ⟨by rw [h1, List.length_map]; omega, some (.d y), ⟨ρ', s.B, W'⟩, ?_, ys ++ [y], by rw [h1]; simp, rfl, by simp [h3], hI⟩
    have ei : (xs.map fun a => Va.d (φ a))[k] = .d (φ xs[k]) := by simp
    rw [ei, stepC_eq (t1 := ⟨s.ρ.set i (some (.d (φ xs[k]))), s.B, t.W⟩) (t2 := ⟨s.ρ.set i (some (.d (φ xs[k]))), s.B, t.W⟩) (b := true) (by show some _ = some _; rw [set_set_none, h2]) (show condM Xe.nil.isNil (sem Φ gl .nil) _ = .ok true _ from rfl)]
    rw [if_pos rfl, e]
    rfl)
  refine ⟨ys, s'.W, ?_, by simpa using h3, by simpa using h4⟩
  show (compM _ _ _ _ _ s).bind _ = _
  rw [compM_eq, hs, bind_ok, e, bind_ok, bind_ok]
  rw [h1, solids_d]
  obtain ⟨r, b, w⟩ := s'
  cases h2
  rfl
/-- for x in data: an invariant over what stands -/
theorem for_ind {t : Tg} {src : Xe} {body : Cd} {s : Sg} {α : Type} {xs : List α} (φ : α → PyData) (I : Nat → Sg → Prop) (hs : sem Φ gl src s = .ok (xs.map fun a => .d (φ a)) s) (h0 : I 0 s)
    (ht : ∀ k (hk : k < xs.length) s, I k s → ∃ s1 s2, setTg t (.d (φ xs[k])) s = some s1 ∧ (semS Φ gl body s1 = .ok .next s2 ∨ semS Φ gl body s1 = .ok .cont s2) ∧ I (k + 1) s2) :
    ∃ s', semS Φ gl (.for_ t src body) s = .ok .next s' ∧ I xs.length s' := by
  let f : Va → Sg → Rs Fl := fun v s => match setTg t v s with
      | some s => semS Φ gl body s
      | none => .stuck
  obtain ⟨s', e, h⟩ := loop_ind (f := f) I (xs.map fun a => .d (φ a)) 0 s h0 fun k s hk hI => by
    rw [Nat.zero_add] at hI ⊢
    have hk' : k < xs.length := by simpa using hk
    obtain ⟨s1, s2, e1, e2, hI'⟩ := ht k hk' s hI
    refine ⟨s2, ?_, hI'⟩
    have ei : (xs.map fun a => Va.d (φ a))[k] = .d (φ xs[k]) := by simp
    have ef : f (.d (φ xs[k])) s = semS Φ gl body s1 := by
      show (match setTg t (.d (φ xs[k])) s with
      | some s => semS Φ gl body s
      | none => .stuck) = _
      rw [e1]
    rw [ei, ef]
    exact e2
  refine ⟨s', ?_, by simpa using h⟩
  show (sem Φ gl src s).bind _ = _
  rw [hs, bind_ok]
  exact e
theorem rng1_src {a : Xe} {s t : Sg} {n : Nat} (h : sem Φ gl a s = dat (.int n) t) (hn : n < 2 ^ 60) : sem Φ gl (.srng1 a) s = .ok ((List.range n).map fun (i : Nat) => .d (.int (i : Int))) t := by
  show one1 (sem Φ gl a s) _ = _
  rw [h, one1_dat]
  dsimp only
  rw [if_pos (by unfold rngOk; omega)]
  unfold rangeL
  simp
theorem rng2_src {a b : Xe} {s t u : Sg} {i j : Int} (h : sem Φ gl a s = dat (.int i) t) (h2 : sem Φ gl b t = dat (.int j) u) (hn : rngOk i j) : sem Φ gl (.srng2 a b) s = .ok ((List.range (j - i).toNat).map fun (k : Nat) => .d (.int (i + (k : Int)))) u := by
  show one1 (sem Φ gl a s) _ = _
  rw [h, one1_dat]
  show one1 (sem Φ gl b t) _ = _
  rw [h2, one1_dat]
  dsimp only
  rw [if_pos hn]
  rfl
end

theorem mul_l {a b : Int} (h1 : -1000000000000000000 < a) (h2 : a < 1000000000000000000) : mulD (.int a) (.int b) = some (.int (a * b)) := by
  show (if _ then _ else _) = _
  rw [if_pos (Or.inl (by unfold big; omega))]
theorem mul_r {a b : Int} (h1 : -1000000000000000000 < b) (h2 : b < 1000000000000000000) : mulD (.int a) (.int b) = some (.int (a * b)) := by
  show (if _ then _ else _) = _
  rw [if_pos (Or.inr (Or.inl (by unfold big; omega)))]
theorem big_huge : 1000000000000000000 < huge := by
  unfold huge
  exact Nat.lt_of_lt_of_le (by decide : 1000000000000000000 < 2 ^ 64) (Nat.pow_le_pow_right (by decide) (by decide))
theorem div_ok {a b : Int} (h1 : 0 < b) (h2 : b < 1000000000000000000) : divD (.int a) (.int b) = some (.int (a / b)) := by
  show (if _ then _ else _) = _
  have hb : b.natAbs < 1000000000000000000 := by omega
  rw [if_pos ⟨h1, Nat.lt_trans hb big_huge⟩]
theorem for_indR {Φ : Tbl} {gl : Nat → PyData} (R : Cd) {t : Tg} {src : Xe} {body : Cd} (hR : R = .for_ t src body) {s : Sg} {α : Type} {xs : List α} (φ : α → PyData) (I : Nat → Sg → Prop) (hs : sem Φ gl src s = .ok (xs.map fun a => .d (φ a)) s) (h0 : I 0 s)
    (ht : ∀ k (hk : k < xs.length) s, I k s → ∃ s1 s2, setTg t (.d (φ xs[k])) s = some s1 ∧ (semS Φ gl body s1 = .ok .next s2 ∨ semS Φ gl body s1 = .ok .cont s2) ∧ I (k + 1) s2) :
    ∃ s', semS Φ gl R s = .ok .next s' ∧ I xs.length s' := by
  subst hR
  exact for_ind φ I hs h0 ht
theorem rng2_same {Φ : Tbl} {gl : Nat → PyData} {a b : Xe} {s : Sg} {i j : Int} (h : sem Φ gl a s = dat (.int i) s) (h2 : sem Φ gl b s = dat (.int j) s) (hn : rngOk i j) : sem Φ gl (.srng2 a b) s = .ok ((List.range (j - i).toNat).map fun (k : Nat) => .d (.int (i + (k : Int)))) s := rng2_src h h2 hn
theorem rng1_same {Φ : Tbl} {gl : Nat → PyData} {a : Xe} {s : Sg} {n : Nat} (h : sem Φ gl a s = dat (.int n) s) (hn : n < 2 ^ 60) : sem Φ gl (.srng1 a) s = .ok ((List.range n).map fun (i : Nat) => .d (.int (i : Int))) s := rng1_src h hn
/-- a def's end -/
def finF (m : Nat) (r : Rs Fl) : Fr := match r with
  | .ok .next s => leave false m (.d .none) s
  | .ok (.ret v) s => leave false m v s
  | .err c s => match outs false m s with
    | some os => .err c os
    | none => .stuck
  | _ => .stuck
@[simp] theorem finF_n (m : Nat) (s : Sg) : finF m (.ok .next s) = leave false m (.d .none) s := rfl
@[simp] theorem finF_r (m : Nat) (v : Va) (s : Sg) : finF m (.ok (.ret v) s) = leave false m v s := rfl
theorem defF_fin {Φ : Tbl} {gl : Nat → PyData} {np n : Nat} {code : Cd} {as : List Av} (ρ : List (Option Va)) (W : List Re) (h1 : as.length = np ∧ np ≤ n) (h2 : (enter.enterW 0 as).1 ++ List.replicate (n - as.length) none = ρ) (h3 : (enter.enterW 0 as).2 = W) :
    defF Φ gl np n false code as = finF W.length (semS Φ gl code ⟨ρ, [], W⟩) := by
  unfold defF
  rw [if_pos ⟨h1.1, h1.2, fun z => by cases z⟩, enter_false]
  subst h2
  subst h3
  rfl
/-- a comprehension whose source changes the world, too -/
theorem comp_st2 {Φ : Tbl} {gl : Nat → PyData} (E : Xe) {src elt : Xe} {i : Nat} (hE : E = .comp src [i] [i] .nil elt) {s s1 : Sg} {α : Type} {xs : List α} (φ : α → PyData) (I : Nat → List PyData → List Re → Prop) (hs : sem Φ gl src s = .ok (xs.map fun a => .d (φ a)) s1) (hl : xs.length ≤ lim) (h0 : I 0 [] s1.W)
    (ht : ∀ k (hk : k < xs.length) ys W, ys.length = k → I k ys W → ∃ y ρ' W', sem Φ gl elt ⟨s1.ρ.set i (some (.d (φ xs[k]))), s1.B, W⟩ = .ok [.d y] ⟨ρ', s1.B, W'⟩ ∧ I (k + 1) (ys ++ [y]) W') :
    ∃ ys W', sem Φ gl E s = .ok [.d (.list ys)] { s1 with W := W' } ∧ ys.length = xs.length ∧ I xs.length ys W' := by
  subst hE
  obtain ⟨vs, s', e, ys, h1, h2, h3, h4⟩ := compL_ind (fun k acc t => ∃ ys : List PyData, acc = ys.map .d ∧ t.B = s1.B ∧ ys.length = k ∧ I k ys t.W) (f := stepC [i] [i] (condM Xe.nil.isNil (sem Φ gl .nil)) (sem Φ gl elt) s1.ρ) (xs.map fun a => .d (φ a)) 0 [] s1 ⟨[], rfl, rfl, rfl, h0⟩ (fun k acc t hk ⟨ys, h1, h2, h3, h4⟩ => by
    rw [Nat.zero_add] at h3 h4 ⊢
    have hk' : k < xs.length := by simpa using hk
    obtain ⟨y, ρ', W', e, hI⟩ := ht k hk' ys t.W h3 h4
    refine ⟨by rw [h1, List.length_map]; omega, some (.d y), ⟨ρ', s1.B, W'⟩, ?_, ys ++ [y], by rw [h1]; simp, rfl, by simp [h3], hI⟩
    have ei : (xs.map fun a => Va.d (φ a))[k] = .d (φ xs[k]) := by simp
    rw [ei, stepC_eq (t1 := ⟨s1.ρ.set i (some (.d (φ xs[k]))), s1.B, t.W⟩) (t2 := ⟨s1.ρ.set i (some (.d (φ xs[k]))), s1.B, t.W⟩) (b := true) (by show some _ = some _; rw [set_set_none, h2]) (show condM Xe.nil.isNil (sem Φ gl .nil) _ = .ok true _ from rfl)]
    rw [if_pos rfl, e]
    rfl)
  refine ⟨ys, s'.W, ?_, by simpa using h3, by simpa using h4⟩
  show (compM _ _ _ _ _ s).bind _ = _
  rw [compM_eq, hs, bind_ok, e, bind_ok, bind_ok]
  rw [h1, solids_d]
  obtain ⟨r, b, w⟩ := s'
  cases h2
  rfl
theorem step_next {Φ : Tbl} {gl : Nat → PyData} (T : Cd) {a b : Cd} (hT : T = .seq a b) {s : Sg} (t : Sg) (h : semS Φ gl a s = .ok .next t) : semS Φ gl T s = semS Φ gl b t := by
  subst hT
  exact seq_next Φ gl h
theorem step_ret {Φ : Tbl} {gl : Nat → PyData} (T : Cd) {a b : Cd} (hT : T = .seq a b) {s : Sg} (v : Va) (t : Sg) (h : semS Φ gl a s = .ok (.ret v) t) : semS Φ gl T s = .ok (.ret v) t := by
  subst hT
  exact seq_ret Φ gl h
end BC

/-! BMa2: reckoning with codes of objects. -/
namespace BC
open PySem
section
variable (Φ : Tbl) (gl : Nat → PyData)
def kFld2 (f : Nat) (s : Sg) : Option (Nat × List (Nat × Fv)) → Rs (List Va)
  | some (_, fs) => match getN f fs with
    | some (.v v) => .ok [v] s
    | _ => .stuck
  | none => .stuck
def kFld (f : Nat) (x : Va) (s : Sg) : Rs (List Va) := kFld2 f s (insOf s x)
theorem sem_fld (o : Xe) (f : Nat) (s : Sg) : sem Φ gl (.fld o f) s = one1 (sem Φ gl o s) (kFld f) := by
  show one1 _ _ = one1 _ _
  congr 1
def kFidx2 (f : Nat) (s : Sg) : Option (Nat × List (Nat × Fv)) → Option (List Va)
  | some (_, fs) => match getN f fs with
    | some (.fl xs) => some xs
    | _ => none
  | none => none
def kFidx4 (s : Sg) : Option Va → Rs (List Va)
  | some v => .ok [v] s
  | none => .stuck
def kFidx3 (xs : List Va) (y : Va) (s : Sg) : Rs (List Va) := match y with
  | .d (.int j) => kFidx4 s (L2.atI xs j)
  | _ => .stuck
def kFidxM (i : Xe) (s : Sg) : Option (List Va) → Rs (List Va)
  | some xs => one1 (sem Φ gl i s) (kFidx3 xs)
  | none => .stuck
def kFidx (f : Nat) (i : Xe) (x : Va) (s : Sg) : Rs (List Va) := kFidxM Φ gl i s (kFidx2 f s (insOf s x))
theorem sem_fidx (o : Xe) (f : Nat) (i : Xe) (s : Sg) : sem Φ gl (.fidx o f i) s = one1 (sem Φ gl o s) (kFidx Φ gl f i) := by
  show one1 _ _ = one1 _ _
  congr 1
  funext x s
  unfold kFidx kFidx2
  cases insOf s x with
  | none => rfl
  | some p =>
    obtain ⟨c, fs⟩ := p
    dsimp only
    cases getN f fs with
    | none => rfl
    | some v =>
      cases v with
      | fl xs =>
        show one1 _ _ = one1 _ _
        congr 1
      | _ => rfl
def kOidx3 (xs : List PyData) (s : Sg) : Option PyData → Rs (List Va)
  | some (.int j) => datO (L2.atI xs j) s
  | _ => .stuck
def kOidx2 (f : Nat) (i : Xe) (s : Sg) : Option (Nat × List (Nat × Fv)) → Rs (List Va)
  | some (_, fs) => match getN f fs with
    | some (.ol xs) => kOidx3 xs s (simV i s)
    | _ => .stuck
  | none => .stuck
def kOidx (f : Nat) (i : Xe) (x : Va) (s : Sg) : Rs (List Va) := kOidx2 f i s (insOf s x)
theorem sem_oidx (o : Xe) (f : Nat) (i : Xe) (s : Sg) : sem Φ gl (.oidx o f i) s = one1 (sem Φ gl o s) (kOidx f i) := by
  show one1 _ _ = one1 _ _
  congr 1
def kFlen2 (f : Nat) (s : Sg) : Option (Nat × List (Nat × Fv)) → Rs (List Va)
  | some (_, fs) => match getN f fs with
    | some (.fl xs) => .ok [.d (.int xs.length)] s
    | _ => .stuck
  | none => .stuck
def kFlen (f : Nat) (x : Va) (s : Sg) : Rs (List Va) := kFlen2 f s (insOf s x)
theorem sem_flen (o : Xe) (f : Nat) (s : Sg) : sem Φ gl (.flen o f) s = one1 (sem Φ gl o s) (kFlen f) := by
  show one1 _ _ = one1 _ _
  congr 1
def kFcopy2 (f : Nat) (s : Sg) : Option (Nat × List (Nat × Fv)) → Rs (List Va)
  | some (_, fs) => match getN f fs with
    | some (.ol xs) => .ok [.d (.list xs)] s
    | _ => .stuck
  | none => .stuck
def kFcopy (f : Nat) (x : Va) (s : Sg) : Rs (List Va) := kFcopy2 f s (insOf s x)
theorem sem_fcopy (o : Xe) (f : Nat) (s : Sg) : sem Φ gl (.fcopy o f) s = one1 (sem Φ gl o s) (kFcopy f) := by
  show one1 _ _ = one1 _ _
  congr 1
def kSfl2 (f : Nat) (s : Sg) : Option (Nat × List (Nat × Fv)) → Rs (List Va)
  | some (_, fs) => match getN f fs with
    | some (.fl xs) => .ok xs s
    | _ => .stuck
  | none => .stuck
def kSfl (f : Nat) (x : Va) (s : Sg) : Rs (List Va) := kSfl2 f s (insOf s x)
theorem sem_sfl (o : Xe) (f : Nat) (s : Sg) : sem Φ gl (.sfl o f) s = one1 (sem Φ gl o s) (kSfl f) := by
  show one1 _ _ = one1 _ _
  congr 1
def kPopE3 (k : Nat) (s : Sg) (xs : List PyData) : Option PyData → Rs (List Va)
  | some v => .ok [.d v] { s with B := s.B.set k (.lst xs.dropLast) }
  | none => .stuck
def kPopE2 (k : Nat) (s : Sg) : Option Re → Rs (List Va)
  | some (.lst xs) => kPopE3 k s xs xs.getLast?
  | _ => .stuck
def kPopE (x : Va) (s : Sg) : Rs (List Va) := match x with
  | .b k => kPopE2 k s s.B[k]?
  | _ => .stuck
theorem sem_popE (a : Xe) (s : Sg) : sem Φ gl (.popE a) s = one1 (sem Φ gl a s) kPopE := by
  show one1 _ _ = one1 _ _
  congr 1
def kMe2 (f : Nat) (x : Va) (vs : List Va) (s : Sg) : Rs (List Va) := (BC.run (Φ f) true 0 (x :: vs) s).bind kV1
def kMeM (f c : Nat) (as : Xe) (x : Va) (s : Sg) : Option Re → Rs (List Va)
  | some r => if r.cls = some c then (sem Φ gl as s).bind (kMe2 Φ f x) else .stuck
  | none => .stuck
def kMe (f c : Nat) (as : Xe) (x : Va) (s : Sg) : Rs (List Va) := kMeM Φ gl f c as x s (resOf s x)
theorem sem_meth (f c : Nat) (o as : Xe) (s : Sg) : sem Φ gl (.meth f c o as) s = one1 (sem Φ gl o s) (kMe Φ gl f c as) := by
  show one1 _ _ = one1 _ _
  congr 1
def kSset2 (s : Sg) : Option PyData → Rs (List Va)
  | some d => datO (sortSetD d) s
  | none => .stuck
def kSset (x : Va) (s : Sg) : Rs (List Va) := kSset2 s (peekR s x)
theorem sem_sset (a : Xe) (s : Sg) : sem Φ gl (.sset a) s = one1 (sem Φ gl a s) kSset := by
  show one1 _ _ = one1 _ _
  congr 1
def kRng1 (t : Bool) (x : Va) (s : Sg) : Rs (List Va) := match x with
  | .d (.int j) => datO (rngD t 0 j) s
  | _ => .stuck
theorem sem_rng1 (t : Bool) (a : Xe) (s : Sg) : sem Φ gl (.rng1 t a) s = one1 (sem Φ gl a s) (kRng1 t) := rfl
def kRng3 (t : Bool) (x y : Va) (s : Sg) : Rs (List Va) := match x, y with
  | .d (.int i), .d (.int j) => datO (rngD t i j) s
  | _, _ => .stuck
def kRng2 (t : Bool) (b : Xe) (x : Va) (s : Sg) : Rs (List Va) := one1 (sem Φ gl b s) (kRng3 t x)
theorem sem_rng2 (t : Bool) (a b : Xe) (s : Sg) : sem Φ gl (.rng2 t a b) s = one1 (sem Φ gl a s) (kRng2 Φ gl t b) := rfl
def kMt3 (k : Mt) (d : PyData) (s : Sg) : Option (List PyData) → Rs (List Va)
  | some ds => datO (mtD k d ds) s
  | none => .stuck
def kMt2 (k : Mt) (d : PyData) (vs : List Va) (s : Sg) : Rs (List Va) := kMt3 k d s (peeks s vs)
def kMt (k : Mt) (as : Xe) (x : Va) (s : Sg) : Rs (List Va) := match x with
  | .d d => if mtTy k d then (sem Φ gl as s).bind (kMt2 k d) else .stuck
  | _ => .stuck
theorem sem_mt (k : Mt) (a as : Xe) (s : Sg) : sem Φ gl (.mt k a as) s = one1 (sem Φ gl a s) (kMt Φ gl k as) := by
  show one1 _ _ = one1 _ _
  congr 1
def kDget3 (ps : PyData) (y z : Va) (s : Sg) : Rs (List Va) := match y, z with
  | .d u, .d w => datO (dgetD ps u w) s
  | _, _ => .stuck
def kDget2 (ps : PyData) (d : Xe) (y : Va) (s : Sg) : Rs (List Va) := one1 (sem Φ gl d s) (kDget3 ps y)
def kDget (k d : Xe) (x : Va) (s : Sg) : Rs (List Va) := match x with
  | .d ps => if (dgetD ps (.str "") .none).isSome then one1 (sem Φ gl k s) (kDget2 Φ gl ps d) else .stuck
  | _ => .stuck
theorem sem_dget (a k d : Xe) (s : Sg) : sem Φ gl (.dget a k d) s = one1 (sem Φ gl a s) (kDget Φ gl k d) := rfl
def kPop (s : Sg) : Option (Option Va) → Rs (List Va)
  | some (some (.c k)) => match s.W[k]? with
    | some (.lst xs) => match xs.getLast? with
      | some v => .ok [.d v] { s with W := s.W.set k (.lst xs.dropLast) }
      | none => .stuck
    | _ => .stuck
  | _ => .stuck
theorem sem_pop (i : Nat) (s : Sg) : sem Φ gl (.pop i) s = kPop s s.ρ[i]? := rfl
/-! statements -/
def kSetf3 (x : Va) (f : Nat) (s : Sg) : Option Va → Option (Nat × List (Nat × Fv)) → Rs Fl
  | some w, some (c, m) => .ok .next (setIns s x c (putN f (.v w) m))
  | _, _ => .stuck
def kSetf2 (f : Nat) (v x : Va) (s : Sg) : Rs Fl := kSetf3 x f s (heldV s v) (insOf s x)
def kSetf (o : Xe) (f : Nat) (v : Va) (s : Sg) : Rs Fl := one1 (sem Φ gl o s) (kSetf2 f v)
theorem semS_setf (o : Xe) (f : Nat) (e : Xe) (s : Sg) : semS Φ gl (.setf o f e) s = one1 (sem Φ gl e s) (kSetf Φ gl o f) := by
  show one1 _ _ = one1 _ _
  congr 1
def kSetfs3 : Option Sg → Rs Fl
  | some s => .ok .next s
  | none => .stuck
def kSetfs2 (fs : List Nat) (s : Sg) : Option PyData → Option (Option Va) → Rs Fl
  | some (.tuple xs), some (some x) => kSetfs3 (setFs fs xs x s)
  | _, _ => .stuck
def kSetfs (i : Nat) (fs : List Nat) (v : Va) (s : Sg) : Rs Fl := kSetfs2 fs s (solid s v) s.ρ[i]?
theorem semS_setfs (i : Nat) (fs : List Nat) (e : Xe) (s : Sg) : semS Φ gl (.setfs i fs e) s = one1 (sem Φ gl e s) (kSetfs i fs) := by
  show one1 _ _ = one1 _ _
  congr 1
def kNewB2 (f : Nat) (x : Va) (s : Sg) (n : Nat) : Option (Nat × List (Nat × Fv)) → Rs Fl
  | some (c, m) => .ok .next (setIns s x c (putN f (.v (.b n)) m))
  | none => .stuck
def kNewB (f : Nat) (x : Va) (s : Sg) : Rs Fl := kNewB2 f x { s with B := s.B ++ [.lst []] } s.B.length (insOf { s with B := s.B ++ [.lst []] } x)
theorem semS_newB (o : Xe) (f : Nat) (s : Sg) : semS Φ gl (.newB o f) s = one1 (sem Φ gl o s) (kNewB f) := by
  show one1 _ _ = one1 _ _
  congr 1
def kPutO (f : Nat) (xs : List PyData) (x : Va) (s : Sg) : Option (Nat × List (Nat × Fv)) → Rs Fl
  | some (c, m) => .ok .next (setIns s x c (putN f (.ol xs) m))
  | none => .stuck
def kNewFO3 (f : Nat) (xs : List PyData) (x : Va) (s : Sg) : Rs Fl := kPutO f xs x s (insOf s x)
def kNewFR3 (o : Xe) (f : Nat) (s : Sg) : Option PyData → Rs Fl
  | some (.list xs) => one1 (sem Φ gl o s) (kNewFO3 f xs)
  | _ => .stuck
def kNewFR2 (o : Xe) (f : Nat) (y : PyData) (w : Va) (s : Sg) : Rs Fl := match w with
  | .d (.int k) => kNewFR3 Φ gl o f s (mulD (.list [y]) (.int k))
  | _ => .stuck
def kNewFRm (o : Xe) (f : Nat) (n : Xe) (s : Sg) : Option PyData → Rs Fl
  | some y => one1 (sem Φ gl n s) (kNewFR2 Φ gl o f y)
  | none => .stuck
def kNewFR (o : Xe) (f : Nat) (n : Xe) (v : Va) (s : Sg) : Rs Fl := kNewFRm Φ gl o f n s (solid s v)
theorem semS_newFR (o : Xe) (f : Nat) (a n : Xe) (s : Sg) : semS Φ gl (.newFR o f a n) s = one1 (sem Φ gl a s) (kNewFR Φ gl o f n) := by
  show one1 _ _ = one1 _ _
  congr 1
def kNewFOm2 (o : Xe) (f : Nat) (s : Sg) : Option (List PyData) → Rs Fl
  | some xs => one1 (sem Φ gl o s) (kNewFO3 f xs)
  | none => .stuck
def kNewFOm (o : Xe) (f : Nat) (s : Sg) : Option PyData → Rs Fl
  | some y => kNewFOm2 Φ gl o f s (listOf y)
  | none => .stuck
def kNewFO (o : Xe) (f : Nat) (v : Va) (s : Sg) : Rs Fl := kNewFOm Φ gl o f s (solid s v)
theorem semS_newFO (o : Xe) (f : Nat) (e : Xe) (s : Sg) : semS Φ gl (.newFO o f e) s = one1 (sem Φ gl e s) (kNewFO Φ gl o f) := by
  show one1 _ _ = one1 _ _
  congr 1
def kAppE3 (k : Nat) (s : Sg) : Option Re → Option PyData → Rs Fl
  | some (.lst xs), some y => if xs.length < lim then .ok .next { s with B := s.B.set k (.lst (xs ++ [y])) } else .stuck
  | _, _ => .stuck
def kAppE2 (k : Nat) (v : Va) (s : Sg) : Rs Fl := kAppE3 k s s.B[k]? (solid s v)
def kAppEm (e : Xe) (k : Nat) (s : Sg) : Option Re → Rs Fl
  | some (.lst _) => one1 (sem Φ gl e s) (kAppE2 k)
  | _ => .stuck
def kAppE (e : Xe) (x : Va) (s : Sg) : Rs Fl := match x with
  | .b k => kAppEm Φ gl e k s s.B[k]?
  | _ => .stuck
theorem semS_appE (a e : Xe) (s : Sg) : semS Φ gl (.appE a e) s = one1 (sem Φ gl a s) (kAppE Φ gl e) := by
  show one1 _ _ = one1 _ _
  congr 1
def kNewC3 (i : Nat) (s : Sg) : Option PyData → Rs Fl
  | some (.list xs) => .ok .next { s with ρ := s.ρ.set i (some (.c s.W.length)), W := s.W ++ [.lst xs] }
  | _ => .stuck
def kNewC2m (i : Nat) (s : Sg) : Option PyData → Option PyData → Rs Fl
  | some (.list x), some (.list y) => kNewC3 i s (addD (.list x) (.list y))
  | _, _ => .stuck
def kNewC2 (i : Nat) (v w : Va) (s : Sg) : Rs Fl := kNewC2m i s (peek s v) (peek s w)
def kNewC (i : Nat) (b : Xe) (v : Va) (s : Sg) : Rs Fl := one1 (sem Φ gl b s) (kNewC2 i v)
theorem semS_newC (i : Nat) (a b : Xe) (s : Sg) : semS Φ gl (.newC i a b) s = one1 (sem Φ gl a s) (kNewC Φ gl i b) := by
  show one1 _ _ = one1 _ _
  congr 1
def kExt3 (k : Nat) (s : Sg) : Option Re → Option PyData → Rs Fl
  | some (.lst xs), some (.list ys) => if xs.length + ys.length ≤ lim then .ok .next { s with W := s.W.set k (.lst (xs ++ ys)) } else .stuck
  | _, _ => .stuck
def kExt2 (k : Nat) (v : Va) (s : Sg) : Rs Fl := kExt3 k s s.W[k]? (solid s v)
def kExt (e : Xe) (s : Sg) : Option Nat → Rs Fl
  | some k => one1 (sem Φ gl e s) (kExt2 k)
  | none => .stuck
theorem semS_ext (i : Nat) (e : Xe) (s : Sg) : semS Φ gl (.ext i e) s = kExt Φ gl e s (lstAt s i) := by
  show (match lstAt s i with
    | some k => one1 (sem Φ gl e s) fun v s => match s.W[k]?, solid s v with
      | some (.lst xs), some (.list ys) => if xs.length + ys.length ≤ lim then Rs.ok Fl.next { s with W := s.W.set k (.lst (xs ++ ys)) } else .stuck
      | _, _ => .stuck
    | none => .stuck) = _
  cases lstAt s i with
  | none => rfl
  | some k =>
    show one1 _ _ = one1 _ _
    congr 1
def kTryA (c ie j : Nat) : Rs Fl → Rs Fl
  | .err e s => if subX e c then .ok .next { s with ρ := (s.ρ.set j (some (.x e))).set ie none } else .err e s
  | r => r
theorem semS_tryA (c ie j : Nat) (body : Cd) (s : Sg) : semS Φ gl (.tryA c ie j body) s = kTryA c ie j (semS Φ gl body s) := by
  show (match semS Φ gl body s with
    | .err e s => if subX e c then Rs.ok Fl.next { s with ρ := (s.ρ.set j (some (.x e))).set ie none } else .err e s
    | r => r) = _
  cases semS Φ gl body s <;> rfl
end
theorem defF_f {Φ : Tbl} {gl : Nat → PyData} {np n : Nat} {code : Cd} {as : List Av} {r : Fr} (ρ : List (Option Va)) (W : List Re) (h1 : as.length = np) (h2 : np ≤ n) (h3 : (enter.enterW 0 as).1 ++ List.replicate (n - np) none = ρ) (h4 : (enter.enterW 0 as).2 = W)
    (h : finF W.length (semS Φ gl code ⟨ρ, [], W⟩) = r) : defF Φ gl np n false code as = r := by
  rw [defF_fin ρ W ⟨h1, h2⟩ (by rw [h1]; exact h3) h4]
  exact h
end BC

/-! PM1: what a plan must be. -/
namespace BC
open PySem
theorem eqD_int (i j : Int) : eqD (.int i) (.int j) = some (decide (i = j)) := by
  unfold eqD
  rw [show SeqAt.shaped (.int i) = true from rfl, show SeqAt.shaped (.int j) = true from rfl, if_pos (by rfl)]
  rw [PyData.eqv, Option.some_inj, Bool.eq_iff_iff]
  simp
theorem strOk_len {x : Str} : SeqAt.shaped (.str x) = PyData.strOk x := by
  simp [SeqAt.shaped, PyData.canLay0, PyData.depth]
theorem eqD_str {x y : Str} (h1 : PyData.strOk x = true) (h2 : PyData.strOk y = true) : eqD (.str x) (.str y) = some (decide (x = y)) := by
  unfold eqD
  rw [strOk_len, strOk_len, h1, h2, if_pos (by rfl)]
  rw [PyData.eqv, Option.some_inj, Bool.eq_iff_iff]
  simp
theorem eqvAll_ints : ∀ a b : List Int, PyData.eqvAll (a.map .int) (b.map .int) = decide (a = b)
  | [], [] => rfl
  | [], _ :: _ => rfl
  | _ :: _, [] => rfl
  | x :: a, y :: b => by
    show (PyData.eqv (.int x) (.int y) && PyData.eqvAll (a.map .int) (b.map .int)) = _
    rw [eqvAll_ints a b, PyData.eqv, Bool.eq_iff_iff]
    simp
theorem lay_ints : ∀ a : List Int, PyData.canLayAll0 (a.map .int) = true
  | [] => rfl
  | x :: a => by
    show (PyData.canLay0 (.int x) && PyData.canLayAll0 (a.map .int)) = true
    rw [lay_ints a]; rfl
theorem dep_ints : ∀ a : List Int, PyData.depthAll (a.map .int) = 0
  | [] => rfl
  | x :: a => by
    show max (PyData.depth (.int x)) (PyData.depthAll (a.map .int)) = 0
    rw [dep_ints a]; rfl
theorem eqD_ints (a b : List Int) : eqD (.list (a.map .int)) (.list (b.map .int)) = some (decide (a = b)) := by
  unfold eqD
  rw [if_pos (by simp [SeqAt.shaped, PyData.canLay0, PyData.depth, lay_ints, dep_ints])]
  rw [PyData.eqv, eqvAll_ints]
def okD : PyData → Bool
  | .none => true | .bool _ => true | .int _ => true | .str x => PyData.strOk x | .tuple _ => true | .list _ => true
  | _ => false
def wholeB (x : PyData) (lo hi : Int) : Bool := match x with
  | .int i => decide (lo ≤ i) && decide (i ≤ hi)
  | _ => false
def truthB : PyData → Bool
  | .bool _ => true
  | _ => false
section
variable (X : List Dc) (n : Nat)
theorem whole_eq {x : PyData} (lo hi : Int) (h : okD x = true) : Ph X (n + 1) 0 [.d x, .d (.int lo), .d (.int hi)] = .ok (.d (.bool (wholeB x lo hi))) [] := by
  rw [eq_is_whole]
  cases x <;> first | (cases h; done) | skip
  case int i =>
    simp only [defF, C_is_whole, enter, enter.enterW]
    by_cases h1 : lo ≤ i
    · simp -implicitDefEqProofs [BC.run, toAvs, toAv, apart, b0ok, backOk, backAll, isiV, peek, isiD, tru, peekR, truthD, cmpD, ltD, binD, addD, subD, solid, solids, peeks, setTg, setIs, one1_dat, bfD, bLen, isNone, dat, partM, partI, Xe.isNil, Va.tag, goes, Re.closed, resOf, setRes, lstAt, sem_fld, kFld, kFld2, sem_fidx, kFidx, kFidx2, kFidx3, kFidx4, kFidxM, sem_oidx, kOidx, kOidx2, kOidx3, sem_flen, kFlen, kFlen2, sem_fcopy, kFcopy, kFcopy2, sem_sfl, kSfl, kSfl2, sem_popE, kPopE, kPopE2, kPopE3, sem_meth, kMe, kMeM, kMe2, sem_sset, kSset, kSset2, sem_rng1, kRng1, sem_rng2, kRng2, kRng3, sem_mt, kMt, kMt2, kMt3, mtTy, mtD, sem_dget, kDget, kDget2, kDget3, sem_pop, kPop, semS_setf, kSetf, kSetf2, kSetf3, semS_setfs, kSetfs, kSetfs2, kSetfs3, setFs, semS_newB, kNewB, kNewB2, semS_newFR, kNewFR, kNewFRm, kNewFR2, kNewFR3, kNewFO3, kPutO, semS_newFO, kNewFO, kNewFOm, kNewFOm2, semS_appE, kAppE, kAppEm, kAppE2, kAppE3, semS_newC, kNewC, kNewC2, kNewC2m, kNewC3, semS_ext, kExt, kExt2, kExt3, semS_tryA, kTryA, subX, isiX, insOf, setIns, getN, putN, heldV, simV, Re.cls, BC.listOf, closeB, openB, leave, outs, Re.plain, Fv.closed, wholeB, h1]
    · simp -implicitDefEqProofs [BC.run, toAvs, toAv, apart, b0ok, backOk, backAll, isiV, peek, isiD, tru, peekR, truthD, cmpD, ltD, binD, addD, subD, solid, solids, peeks, setTg, setIs, one1_dat, bfD, bLen, isNone, dat, partM, partI, Xe.isNil, Va.tag, goes, Re.closed, resOf, setRes, lstAt, sem_fld, kFld, kFld2, sem_fidx, kFidx, kFidx2, kFidx3, kFidx4, kFidxM, sem_oidx, kOidx, kOidx2, kOidx3, sem_flen, kFlen, kFlen2, sem_fcopy, kFcopy, kFcopy2, sem_sfl, kSfl, kSfl2, sem_popE, kPopE, kPopE2, kPopE3, sem_meth, kMe, kMeM, kMe2, sem_sset, kSset, kSset2, sem_rng1, kRng1, sem_rng2, kRng2, kRng3, sem_mt, kMt, kMt2, kMt3, mtTy, mtD, sem_dget, kDget, kDget2, kDget3, sem_pop, kPop, semS_setf, kSetf, kSetf2, kSetf3, semS_setfs, kSetfs, kSetfs2, kSetfs3, setFs, semS_newB, kNewB, kNewB2, semS_newFR, kNewFR, kNewFRm, kNewFR2, kNewFR3, kNewFO3, kPutO, semS_newFO, kNewFO, kNewFOm, kNewFOm2, semS_appE, kAppE, kAppEm, kAppE2, kAppE3, semS_newC, kNewC, kNewC2, kNewC2m, kNewC3, semS_ext, kExt, kExt2, kExt3, semS_tryA, kTryA, subX, isiX, insOf, setIns, getN, putN, heldV, simV, Re.cls, BC.listOf, closeB, openB, leave, outs, Re.plain, Fv.closed, wholeB, h1]
  all_goals
    simp only [defF, C_is_whole, enter, enter.enterW]
    simp -implicitDefEqProofs [BC.run, toAvs, toAv, apart, b0ok, backOk, backAll, isiV, peek, isiD, tru, peekR, truthD, cmpD, ltD, binD, addD, subD, solid, solids, peeks, setTg, setIs, one1_dat, bfD, bLen, isNone, dat, partM, partI, Xe.isNil, Va.tag, goes, Re.closed, resOf, setRes, lstAt, sem_fld, kFld, kFld2, sem_fidx, kFidx, kFidx2, kFidx3, kFidx4, kFidxM, sem_oidx, kOidx, kOidx2, kOidx3, sem_flen, kFlen, kFlen2, sem_fcopy, kFcopy, kFcopy2, sem_sfl, kSfl, kSfl2, sem_popE, kPopE, kPopE2, kPopE3, sem_meth, kMe, kMeM, kMe2, sem_sset, kSset, kSset2, sem_rng1, kRng1, sem_rng2, kRng2, kRng3, sem_mt, kMt, kMt2, kMt3, mtTy, mtD, sem_dget, kDget, kDget2, kDget3, sem_pop, kPop, semS_setf, kSetf, kSetf2, kSetf3, semS_setfs, kSetfs, kSetfs2, kSetfs3, setFs, semS_newB, kNewB, kNewB2, semS_newFR, kNewFR, kNewFRm, kNewFR2, kNewFR3, kNewFO3, kPutO, semS_newFO, kNewFO, kNewFOm, kNewFOm2, semS_appE, kAppE, kAppEm, kAppE2, kAppE3, semS_newC, kNewC, kNewC2, kNewC2m, kNewC3, semS_ext, kExt, kExt2, kExt3, semS_tryA, kTryA, subX, isiX, insOf, setIns, getN, putN, heldV, simV, Re.cls, BC.listOf, closeB, openB, leave, outs, Re.plain, Fv.closed, wholeB]
theorem truth_eq {x : PyData} (h : okD x = true) : Ph X (n + 1) 1 [.d x] = .ok (.d (.bool (truthB x))) [] := by
  rw [eq_is_truth]
  cases x <;> first | (cases h; done) | skip
  all_goals
    simp only [defF, C_is_truth, enter, enter.enterW]
    simp -implicitDefEqProofs [BC.run, toAvs, toAv, apart, b0ok, backOk, backAll, isiV, peek, isiD, tru, peekR, truthD, cmpD, ltD, binD, addD, subD, solid, solids, peeks, setTg, setIs, one1_dat, bfD, bLen, isNone, dat, partM, partI, Xe.isNil, Va.tag, goes, Re.closed, resOf, setRes, lstAt, sem_fld, kFld, kFld2, sem_fidx, kFidx, kFidx2, kFidx3, kFidx4, kFidxM, sem_oidx, kOidx, kOidx2, kOidx3, sem_flen, kFlen, kFlen2, sem_fcopy, kFcopy, kFcopy2, sem_sfl, kSfl, kSfl2, sem_popE, kPopE, kPopE2, kPopE3, sem_meth, kMe, kMeM, kMe2, sem_sset, kSset, kSset2, sem_rng1, kRng1, sem_rng2, kRng2, kRng3, sem_mt, kMt, kMt2, kMt3, mtTy, mtD, sem_dget, kDget, kDget2, kDget3, sem_pop, kPop, semS_setf, kSetf, kSetf2, kSetf3, semS_setfs, kSetfs, kSetfs2, kSetfs3, setFs, semS_newB, kNewB, kNewB2, semS_newFR, kNewFR, kNewFRm, kNewFR2, kNewFR3, kNewFO3, kPutO, semS_newFO, kNewFO, kNewFOm, kNewFOm2, semS_appE, kAppE, kAppEm, kAppE2, kAppE3, semS_newC, kNewC, kNewC2, kNewC2m, kNewC3, semS_ext, kExt, kExt2, kExt3, semS_tryA, kTryA, subX, isiX, insOf, setIns, getN, putN, heldV, simV, Re.cls, BC.listOf, closeB, openB, leave, outs, Re.plain, Fv.closed, truthB]
def ok2 : PyData → Bool
  | .tuple l => l.all okD
  | x => okD x
theorem ok1_of {x : PyData} (h : ok2 x = true) : okD x = true := by cases x <;> first | exact h | rfl
def edgeB : PyData → Bool
  | .none => true
  | .tuple [a, b] => wholeB a 0 3 && truthB b
  | _ => false
theorem edge_eq {x : PyData} (h : ok2 x = true) : Ph X (n + 2) 2 [.d x] = .ok (.d (.bool (edgeB x))) [] := by
  rw [eq_is_edge]
  cases x <;> first | (cases h; done) | skip
  case tuple l =>
    match l, h with
    | [a, b], h =>
      simp only [ok2, List.all_cons, List.all_nil, Bool.and_true, Bool.and_eq_true] at h
      have e1 := whole_eq X n 0 3 h.1
      have e2 := truth_eq X n h.2
      have i0 : idxD (.tuple [a, b]) (.int 0) = some a := rfl
      have i1 : idxD (.tuple [a, b]) (.int 1) = some b := rfl
      simp only [defF, C_is_edge, enter, enter.enterW]
      cases hw : wholeB a 0 3
      · simp -implicitDefEqProofs [BC.run, toAvs, toAv, apart, b0ok, backOk, backAll, isiV, peek, isiD, tru, peekR, truthD, cmpD, ltD, binD, addD, subD, solid, solids, peeks, setTg, setIs, one1_dat, bfD, bLen, isNone, dat, partM, partI, Xe.isNil, Va.tag, goes, Re.closed, resOf, setRes, lstAt, sem_fld, kFld, kFld2, sem_fidx, kFidx, kFidx2, kFidx3, kFidx4, kFidxM, sem_oidx, kOidx, kOidx2, kOidx3, sem_flen, kFlen, kFlen2, sem_fcopy, kFcopy, kFcopy2, sem_sfl, kSfl, kSfl2, sem_popE, kPopE, kPopE2, kPopE3, sem_meth, kMe, kMeM, kMe2, sem_sset, kSset, kSset2, sem_rng1, kRng1, sem_rng2, kRng2, kRng3, sem_mt, kMt, kMt2, kMt3, mtTy, mtD, sem_dget, kDget, kDget2, kDget3, sem_pop, kPop, semS_setf, kSetf, kSetf2, kSetf3, semS_setfs, kSetfs, kSetfs2, kSetfs3, setFs, semS_newB, kNewB, kNewB2, semS_newFR, kNewFR, kNewFRm, kNewFR2, kNewFR3, kNewFO3, kPutO, semS_newFO, kNewFO, kNewFOm, kNewFOm2, semS_appE, kAppE, kAppEm, kAppE2, kAppE3, semS_newC, kNewC, kNewC2, kNewC2m, kNewC3, semS_ext, kExt, kExt2, kExt3, semS_tryA, kTryA, subX, isiX, insOf, setIns, getN, putN, heldV, simV, Re.cls, BC.listOf, closeB, openB, leave, outs, Re.plain, Fv.closed, eqD_int, e1, e2, i0, i1, hw, edgeB]
      · simp -implicitDefEqProofs [BC.run, toAvs, toAv, apart, b0ok, backOk, backAll, isiV, peek, isiD, tru, peekR, truthD, cmpD, ltD, binD, addD, subD, solid, solids, peeks, setTg, setIs, one1_dat, bfD, bLen, isNone, dat, partM, partI, Xe.isNil, Va.tag, goes, Re.closed, resOf, setRes, lstAt, sem_fld, kFld, kFld2, sem_fidx, kFidx, kFidx2, kFidx3, kFidx4, kFidxM, sem_oidx, kOidx, kOidx2, kOidx3, sem_flen, kFlen, kFlen2, sem_fcopy, kFcopy, kFcopy2, sem_sfl, kSfl, kSfl2, sem_popE, kPopE, kPopE2, kPopE3, sem_meth, kMe, kMeM, kMe2, sem_sset, kSset, kSset2, sem_rng1, kRng1, sem_rng2, kRng2, kRng3, sem_mt, kMt, kMt2, kMt3, mtTy, mtD, sem_dget, kDget, kDget2, kDget3, sem_pop, kPop, semS_setf, kSetf, kSetf2, kSetf3, semS_setfs, kSetfs, kSetfs2, kSetfs3, setFs, semS_newB, kNewB, kNewB2, semS_newFR, kNewFR, kNewFRm, kNewFR2, kNewFR3, kNewFO3, kPutO, semS_newFO, kNewFO, kNewFOm, kNewFOm2, semS_appE, kAppE, kAppEm, kAppE2, kAppE3, semS_newC, kNewC, kNewC2, kNewC2m, kNewC3, semS_ext, kExt, kExt2, kExt3, semS_tryA, kTryA, subX, isiX, insOf, setIns, getN, putN, heldV, simV, Re.cls, BC.listOf, closeB, openB, leave, outs, Re.plain, Fv.closed, eqD_int, e1, e2, i0, i1, hw, edgeB]
    | [], _ =>
      simp only [defF, C_is_edge, enter, enter.enterW]
      simp -implicitDefEqProofs [BC.run, toAvs, toAv, apart, b0ok, backOk, backAll, isiV, peek, isiD, tru, peekR, truthD, cmpD, ltD, binD, addD, subD, solid, solids, peeks, setTg, setIs, one1_dat, bfD, bLen, isNone, dat, partM, partI, Xe.isNil, Va.tag, goes, Re.closed, resOf, setRes, lstAt, sem_fld, kFld, kFld2, sem_fidx, kFidx, kFidx2, kFidx3, kFidx4, kFidxM, sem_oidx, kOidx, kOidx2, kOidx3, sem_flen, kFlen, kFlen2, sem_fcopy, kFcopy, kFcopy2, sem_sfl, kSfl, kSfl2, sem_popE, kPopE, kPopE2, kPopE3, sem_meth, kMe, kMeM, kMe2, sem_sset, kSset, kSset2, sem_rng1, kRng1, sem_rng2, kRng2, kRng3, sem_mt, kMt, kMt2, kMt3, mtTy, mtD, sem_dget, kDget, kDget2, kDget3, sem_pop, kPop, semS_setf, kSetf, kSetf2, kSetf3, semS_setfs, kSetfs, kSetfs2, kSetfs3, setFs, semS_newB, kNewB, kNewB2, semS_newFR, kNewFR, kNewFRm, kNewFR2, kNewFR3, kNewFO3, kPutO, semS_newFO, kNewFO, kNewFOm, kNewFOm2, semS_appE, kAppE, kAppEm, kAppE2, kAppE3, semS_newC, kNewC, kNewC2, kNewC2m, kNewC3, semS_ext, kExt, kExt2, kExt3, semS_tryA, kTryA, subX, isiX, insOf, setIns, getN, putN, heldV, simV, Re.cls, BC.listOf, closeB, openB, leave, outs, Re.plain, Fv.closed, eqD_int, edgeB]
    | [a], _ =>
      simp only [defF, C_is_edge, enter, enter.enterW]
      simp -implicitDefEqProofs [BC.run, toAvs, toAv, apart, b0ok, backOk, backAll, isiV, peek, isiD, tru, peekR, truthD, cmpD, ltD, binD, addD, subD, solid, solids, peeks, setTg, setIs, one1_dat, bfD, bLen, isNone, dat, partM, partI, Xe.isNil, Va.tag, goes, Re.closed, resOf, setRes, lstAt, sem_fld, kFld, kFld2, sem_fidx, kFidx, kFidx2, kFidx3, kFidx4, kFidxM, sem_oidx, kOidx, kOidx2, kOidx3, sem_flen, kFlen, kFlen2, sem_fcopy, kFcopy, kFcopy2, sem_sfl, kSfl, kSfl2, sem_popE, kPopE, kPopE2, kPopE3, sem_meth, kMe, kMeM, kMe2, sem_sset, kSset, kSset2, sem_rng1, kRng1, sem_rng2, kRng2, kRng3, sem_mt, kMt, kMt2, kMt3, mtTy, mtD, sem_dget, kDget, kDget2, kDget3, sem_pop, kPop, semS_setf, kSetf, kSetf2, kSetf3, semS_setfs, kSetfs, kSetfs2, kSetfs3, setFs, semS_newB, kNewB, kNewB2, semS_newFR, kNewFR, kNewFRm, kNewFR2, kNewFR3, kNewFO3, kPutO, semS_newFO, kNewFO, kNewFOm, kNewFOm2, semS_appE, kAppE, kAppEm, kAppE2, kAppE3, semS_newC, kNewC, kNewC2, kNewC2m, kNewC3, semS_ext, kExt, kExt2, kExt3, semS_tryA, kTryA, subX, isiX, insOf, setIns, getN, putN, heldV, simV, Re.cls, BC.listOf, closeB, openB, leave, outs, Re.plain, Fv.closed, eqD_int, edgeB]
    | a :: b :: c :: r, _ =>
      have : ¬ ((r.length : Int) + 1 + 1 + 1 = 2) := by omega
      simp only [defF, C_is_edge, enter, enter.enterW]
      simp -implicitDefEqProofs [BC.run, toAvs, toAv, apart, b0ok, backOk, backAll, isiV, peek, isiD, tru, peekR, truthD, cmpD, ltD, binD, addD, subD, solid, solids, peeks, setTg, setIs, one1_dat, bfD, bLen, isNone, dat, partM, partI, Xe.isNil, Va.tag, goes, Re.closed, resOf, setRes, lstAt, sem_fld, kFld, kFld2, sem_fidx, kFidx, kFidx2, kFidx3, kFidx4, kFidxM, sem_oidx, kOidx, kOidx2, kOidx3, sem_flen, kFlen, kFlen2, sem_fcopy, kFcopy, kFcopy2, sem_sfl, kSfl, kSfl2, sem_popE, kPopE, kPopE2, kPopE3, sem_meth, kMe, kMeM, kMe2, sem_sset, kSset, kSset2, sem_rng1, kRng1, sem_rng2, kRng2, kRng3, sem_mt, kMt, kMt2, kMt3, mtTy, mtD, sem_dget, kDget, kDget2, kDget3, sem_pop, kPop, semS_setf, kSetf, kSetf2, kSetf3, semS_setfs, kSetfs, kSetfs2, kSetfs3, setFs, semS_newB, kNewB, kNewB2, semS_newFR, kNewFR, kNewFRm, kNewFR2, kNewFR3, kNewFO3, kPutO, semS_newFO, kNewFO, kNewFOm, kNewFOm2, semS_appE, kAppE, kAppEm, kAppE2, kAppE3, semS_newC, kNewC, kNewC2, kNewC2m, kNewC3, semS_ext, kExt, kExt2, kExt3, semS_tryA, kTryA, subX, isiX, insOf, setIns, getN, putN, heldV, simV, Re.cls, BC.listOf, closeB, openB, leave, outs, Re.plain, Fv.closed, eqD_int, edgeB, this]
  all_goals
    simp only [defF, C_is_edge, enter, enter.enterW]
    simp -implicitDefEqProofs [BC.run, toAvs, toAv, apart, b0ok, backOk, backAll, isiV, peek, isiD, tru, peekR, truthD, cmpD, ltD, binD, addD, subD, solid, solids, peeks, setTg, setIs, one1_dat, bfD, bLen, isNone, dat, partM, partI, Xe.isNil, Va.tag, goes, Re.closed, resOf, setRes, lstAt, sem_fld, kFld, kFld2, sem_fidx, kFidx, kFidx2, kFidx3, kFidx4, kFidxM, sem_oidx, kOidx, kOidx2, kOidx3, sem_flen, kFlen, kFlen2, sem_fcopy, kFcopy, kFcopy2, sem_sfl, kSfl, kSfl2, sem_popE, kPopE, kPopE2, kPopE3, sem_meth, kMe, kMeM, kMe2, sem_sset, kSset, kSset2, sem_rng1, kRng1, sem_rng2, kRng2, kRng3, sem_mt, kMt, kMt2, kMt3, mtTy, mtD, sem_dget, kDget, kDget2, kDget3, sem_pop, kPop, semS_setf, kSetf, kSetf2, kSetf3, semS_setfs, kSetfs, kSetfs2, kSetfs3, setFs, semS_newB, kNewB, kNewB2, semS_newFR, kNewFR, kNewFRm, kNewFR2, kNewFR3, kNewFO3, kPutO, semS_newFO, kNewFO, kNewFOm, kNewFOm2, semS_appE, kAppE, kAppEm, kAppE2, kAppE3, semS_newC, kNewC, kNewC2, kNewC2m, kNewC3, semS_ext, kExt, kExt2, kExt3, semS_tryA, kTryA, subX, isiX, insOf, setIns, getN, putN, heldV, simV, Re.cls, BC.listOf, closeB, openB, leave, outs, Re.plain, Fv.closed, edgeB]
def matB (t : Int) : PyData → Bool
  | .tuple l => decide (l.length ≤ 2) && l.all (fun y => wholeB y 0 t) && (match intsD l with
    | some ns => decide (usort ns = ns)
    | none => false)
  | _ => false
theorem ints_of_whole {t : Int} : ∀ {l : List PyData}, l.all (fun y => wholeB y 0 t) = true → ∃ ns : List Int, l = ns.map .int
  | [], _ => ⟨[], rfl⟩
  | x :: l, h => by
    simp only [List.all_cons, Bool.and_eq_true] at h
    obtain ⟨ns, rfl⟩ := ints_of_whole h.2
    cases x <;> first | (exfalso; exact Bool.noConfusion h.1) | skip
    rename_i i
    exact ⟨i :: ns, rfl⟩
theorem mat_eq {x : PyData} (t : Int) (h : ok2 x = true) (hl : ∀ l, x = .tuple l → l.length ≤ lim) : Ph X (n + 2) 3 [.d (.int t), .d x] = .ok (.d (.bool (matB t x))) [] := by
  rw [eq_are_matches]
  cases x <;> first | (cases h; done) | skip
  case tuple l =>
    have hl := hl l rfl
    by_cases h2 : l.length ≤ 2
    · have hc : sem (Ph X (n + 1)) gl E_are_matches_0 _ = _ := comp_map1 (s := ⟨[some (.d (.int t)), some (.d (.tuple l)), none], [], []⟩) (xs := l) id (fun y => .bool (wholeB y 0 t))
        (by simp -implicitDefEqProofs [BC.run, toAvs, toAv, apart, b0ok, backOk, backAll, isiV, peek, isiD, tru, peekR, truthD, cmpD, ltD, binD, addD, subD, solid, solids, peeks, setTg, setIs, one1_dat, bfD, bLen, isNone, dat, partM, partI, Xe.isNil, Va.tag, goes, Re.closed, resOf, setRes, lstAt, sem_fld, kFld, kFld2, sem_fidx, kFidx, kFidx2, kFidx3, kFidx4, kFidxM, sem_oidx, kOidx, kOidx2, kOidx3, sem_flen, kFlen, kFlen2, sem_fcopy, kFcopy, kFcopy2, sem_sfl, kSfl, kSfl2, sem_popE, kPopE, kPopE2, kPopE3, sem_meth, kMe, kMeM, kMe2, sem_sset, kSset, kSset2, sem_rng1, kRng1, sem_rng2, kRng2, kRng3, sem_mt, kMt, kMt2, kMt3, mtTy, mtD, sem_dget, kDget, kDget2, kDget3, sem_pop, kPop, semS_setf, kSetf, kSetf2, kSetf3, semS_setfs, kSetfs, kSetfs2, kSetfs3, setFs, semS_newB, kNewB, kNewB2, semS_newFR, kNewFR, kNewFRm, kNewFR2, kNewFR3, kNewFO3, kPutO, semS_newFO, kNewFO, kNewFOm, kNewFOm2, semS_appE, kAppE, kAppEm, kAppE2, kAppE3, semS_newC, kNewC, kNewC2, kNewC2m, kNewC3, semS_ext, kExt, kExt2, kExt3, semS_tryA, kTryA, subX, isiX, insOf, setIns, getN, putN, heldV, simV, Re.cls, BC.listOf, closeB, openB, leave, outs, Re.plain, Fv.closed]) (by omega) (fun y hy => by
          have e1 := whole_eq X n 0 t (List.all_eq_true.mp h y hy)
          simp -implicitDefEqProofs [BC.run, toAvs, toAv, apart, b0ok, backOk, backAll, isiV, peek, isiD, tru, peekR, truthD, cmpD, ltD, binD, addD, subD, solid, solids, peeks, setTg, setIs, one1_dat, bfD, bLen, isNone, dat, partM, partI, Xe.isNil, Va.tag, goes, Re.closed, resOf, setRes, lstAt, sem_fld, kFld, kFld2, sem_fidx, kFidx, kFidx2, kFidx3, kFidx4, kFidxM, sem_oidx, kOidx, kOidx2, kOidx3, sem_flen, kFlen, kFlen2, sem_fcopy, kFcopy, kFcopy2, sem_sfl, kSfl, kSfl2, sem_popE, kPopE, kPopE2, kPopE3, sem_meth, kMe, kMeM, kMe2, sem_sset, kSset, kSset2, sem_rng1, kRng1, sem_rng2, kRng2, kRng3, sem_mt, kMt, kMt2, kMt3, mtTy, mtD, sem_dget, kDget, kDget2, kDget3, sem_pop, kPop, semS_setf, kSetf, kSetf2, kSetf3, semS_setfs, kSetfs, kSetfs2, kSetfs3, setFs, semS_newB, kNewB, kNewB2, semS_newFR, kNewFR, kNewFRm, kNewFR2, kNewFR3, kNewFO3, kPutO, semS_newFO, kNewFO, kNewFOm, kNewFOm2, semS_appE, kAppE, kAppEm, kAppE2, kAppE3, semS_newC, kNewC, kNewC2, kNewC2m, kNewC3, semS_ext, kExt, kExt2, kExt3, semS_tryA, kTryA, subX, isiX, insOf, setIns, getN, putN, heldV, simV, Re.cls, BC.listOf, closeB, openB, leave, outs, Re.plain, Fv.closed, e1])
      have hb : boolsD (l.map fun y => PyData.bool (wholeB y 0 t)) = some (l.map fun y => wholeB y 0 t) := by
        have := boolsD_map (l.map fun y => wholeB y 0 t)
        rw [List.map_map] at this
        exact this
      have g2 : ¬ ((2 : Int) < (l.length : Int)) := by omega
      simp only [defF, C_are_matches, enter, enter.enterW]
      cases ha : l.all (fun y => wholeB y 0 t) with
      | false =>
        have ha' : ((l.map fun y => wholeB y 0 t).all id) = false := by rw [List.all_map]; exact ha
        simp -implicitDefEqProofs [BC.run, toAvs, toAv, apart, b0ok, backOk, backAll, isiV, peek, isiD, tru, peekR, truthD, cmpD, ltD, binD, addD, subD, solid, solids, peeks, setTg, setIs, one1_dat, bfD, bLen, isNone, dat, partM, partI, Xe.isNil, Va.tag, goes, Re.closed, resOf, setRes, lstAt, sem_fld, kFld, kFld2, sem_fidx, kFidx, kFidx2, kFidx3, kFidx4, kFidxM, sem_oidx, kOidx, kOidx2, kOidx3, sem_flen, kFlen, kFlen2, sem_fcopy, kFcopy, kFcopy2, sem_sfl, kSfl, kSfl2, sem_popE, kPopE, kPopE2, kPopE3, sem_meth, kMe, kMeM, kMe2, sem_sset, kSset, kSset2, sem_rng1, kRng1, sem_rng2, kRng2, kRng3, sem_mt, kMt, kMt2, kMt3, mtTy, mtD, sem_dget, kDget, kDget2, kDget3, sem_pop, kPop, semS_setf, kSetf, kSetf2, kSetf3, semS_setfs, kSetfs, kSetfs2, kSetfs3, setFs, semS_newB, kNewB, kNewB2, semS_newFR, kNewFR, kNewFRm, kNewFR2, kNewFR3, kNewFO3, kPutO, semS_newFO, kNewFO, kNewFOm, kNewFOm2, semS_appE, kAppE, kAppEm, kAppE2, kAppE3, semS_newC, kNewC, kNewC2, kNewC2m, kNewC3, semS_ext, kExt, kExt2, kExt3, semS_tryA, kTryA, subX, isiX, insOf, setIns, getN, putN, heldV, simV, Re.cls, BC.listOf, closeB, openB, leave, outs, Re.plain, Fv.closed, hc, g2, bAll, hb, ha', matB, ha]
      | true =>
        have ha' : ((l.map fun y => wholeB y 0 t).all id) = true := by rw [List.all_map]; exact ha
        obtain ⟨ns, e⟩ := ints_of_whole ha
        have ei : intsD l = some ns := by rw [e, intsD_map]
        have hs : sortSetD (.tuple l) = some (.list ((usort ns).map .int)) := by
          unfold sortSetD
          simp only [listOf, ei]
          rw [if_pos (by rw [e, List.length_map] at h2; omega)]
        have hq : eqD (.list ((usort ns).map .int)) (.list l) = some (decide (usort ns = ns)) := by rw [e]; exact eqD_ints _ _
        simp -implicitDefEqProofs [BC.run, toAvs, toAv, apart, b0ok, backOk, backAll, isiV, peek, isiD, tru, peekR, truthD, cmpD, ltD, binD, addD, subD, solid, solids, peeks, setTg, setIs, one1_dat, bfD, bLen, isNone, dat, partM, partI, Xe.isNil, Va.tag, goes, Re.closed, resOf, setRes, lstAt, sem_fld, kFld, kFld2, sem_fidx, kFidx, kFidx2, kFidx3, kFidx4, kFidxM, sem_oidx, kOidx, kOidx2, kOidx3, sem_flen, kFlen, kFlen2, sem_fcopy, kFcopy, kFcopy2, sem_sfl, kSfl, kSfl2, sem_popE, kPopE, kPopE2, kPopE3, sem_meth, kMe, kMeM, kMe2, sem_sset, kSset, kSset2, sem_rng1, kRng1, sem_rng2, kRng2, kRng3, sem_mt, kMt, kMt2, kMt3, mtTy, mtD, sem_dget, kDget, kDget2, kDget3, sem_pop, kPop, semS_setf, kSetf, kSetf2, kSetf3, semS_setfs, kSetfs, kSetfs2, kSetfs3, setFs, semS_newB, kNewB, kNewB2, semS_newFR, kNewFR, kNewFRm, kNewFR2, kNewFR3, kNewFO3, kPutO, semS_newFO, kNewFO, kNewFOm, kNewFOm2, semS_appE, kAppE, kAppEm, kAppE2, kAppE3, semS_newC, kNewC, kNewC2, kNewC2m, kNewC3, semS_ext, kExt, kExt2, kExt3, semS_tryA, kTryA, subX, isiX, insOf, setIns, getN, putN, heldV, simV, Re.cls, BC.listOf, closeB, openB, leave, outs, Re.plain, Fv.closed, hc, g2, bAll, hb, ha', matB, ha, hs, bList, hq, ei, h2]
    · have g2 : (2 : Int) < (l.length : Int) := by omega
      simp only [defF, C_are_matches, enter, enter.enterW]
      simp -implicitDefEqProofs [BC.run, toAvs, toAv, apart, b0ok, backOk, backAll, isiV, peek, isiD, tru, peekR, truthD, cmpD, ltD, binD, addD, subD, solid, solids, peeks, setTg, setIs, one1_dat, bfD, bLen, isNone, dat, partM, partI, Xe.isNil, Va.tag, goes, Re.closed, resOf, setRes, lstAt, sem_fld, kFld, kFld2, sem_fidx, kFidx, kFidx2, kFidx3, kFidx4, kFidxM, sem_oidx, kOidx, kOidx2, kOidx3, sem_flen, kFlen, kFlen2, sem_fcopy, kFcopy, kFcopy2, sem_sfl, kSfl, kSfl2, sem_popE, kPopE, kPopE2, kPopE3, sem_meth, kMe, kMeM, kMe2, sem_sset, kSset, kSset2, sem_rng1, kRng1, sem_rng2, kRng2, kRng3, sem_mt, kMt, kMt2, kMt3, mtTy, mtD, sem_dget, kDget, kDget2, kDget3, sem_pop, kPop, semS_setf, kSetf, kSetf2, kSetf3, semS_setfs, kSetfs, kSetfs2, kSetfs3, setFs, semS_newB, kNewB, kNewB2, semS_newFR, kNewFR, kNewFRm, kNewFR2, kNewFR3, kNewFO3, kPutO, semS_newFO, kNewFO, kNewFOm, kNewFOm2, semS_appE, kAppE, kAppEm, kAppE2, kAppE3, semS_newC, kNewC, kNewC2, kNewC2m, kNewC3, semS_ext, kExt, kExt2, kExt3, semS_tryA, kTryA, subX, isiX, insOf, setIns, getN, putN, heldV, simV, Re.cls, BC.listOf, closeB, openB, leave, outs, Re.plain, Fv.closed, g2, matB, h2]
  all_goals
    simp only [defF, C_are_matches, enter, enter.enterW]
    simp -implicitDefEqProofs [BC.run, toAvs, toAv, apart, b0ok, backOk, backAll, isiV, peek, isiD, tru, peekR, truthD, cmpD, ltD, binD, addD, subD, solid, solids, peeks, setTg, setIs, one1_dat, bfD, bLen, isNone, dat, partM, partI, Xe.isNil, Va.tag, goes, Re.closed, resOf, setRes, lstAt, sem_fld, kFld, kFld2, sem_fidx, kFidx, kFidx2, kFidx3, kFidx4, kFidxM, sem_oidx, kOidx, kOidx2, kOidx3, sem_flen, kFlen, kFlen2, sem_fcopy, kFcopy, kFcopy2, sem_sfl, kSfl, kSfl2, sem_popE, kPopE, kPopE2, kPopE3, sem_meth, kMe, kMeM, kMe2, sem_sset, kSset, kSset2, sem_rng1, kRng1, sem_rng2, kRng2, kRng3, sem_mt, kMt, kMt2, kMt3, mtTy, mtD, sem_dget, kDget, kDget2, kDget3, sem_pop, kPop, semS_setf, kSetf, kSetf2, kSetf3, semS_setfs, kSetfs, kSetfs2, kSetfs3, setFs, semS_newB, kNewB, kNewB2, semS_newFR, kNewFR, kNewFRm, kNewFR2, kNewFR3, kNewFO3, kPutO, semS_newFO, kNewFO, kNewFOm, kNewFOm2, semS_appE, kAppE, kAppEm, kAppE2, kAppE3, semS_newC, kNewC, kNewC2, kNewC2m, kNewC3, semS_ext, kExt, kExt2, kExt3, semS_tryA, kTryA, subX, isiX, insOf, setIns, getN, putN, heldV, simV, Re.cls, BC.listOf, closeB, openB, leave, outs, Re.plain, Fv.closed, matB]
end
end BC

/-! PM2: timers, plans. -/
namespace BC
open PySem
def srcB (k : Int) : PyData → Bool
  | .str s => decide (s = "beat")
  | x => wholeB x 0 (k - 1)
def modeB : PyData → Bool
  | .str s => decide (s = "up") || decide (s = "down") || decide (s = "both")
  | _ => false
def timerB (k : Int) : PyData → Bool
  | .tuple [src, dv, md, tp, gate, ms, ca, once] => srcB k src && wholeB dv 1 256 && modeB md && wholeB tp 1 65535 && edgeB gate && edgeB ca && truthB once && (match tp with
    | .int t => matB t ms
    | _ => false)
  | _ => false
def ok3 : PyData → Bool
  | .tuple l => decide (l.length ≤ lim) && l.all ok2
  | x => okD x
theorem ok2_len {x : PyData} (h : ok2 x = true) : okD x = true := ok1_of h
section
variable (X : List Dc) (n : Nat)
theorem eq_str_l {x : Str} (y : Str) (hy : PyData.strOk y = true) (h : PyData.strOk x = true) : eqD (.str x) (.str y) = some (decide (x = y)) := eqD_str h hy
theorem mode_in {x : Str} : inD (.str x) (.tuple [.str "up", .str "down", .str "both"]) = some (modeB (.str x)) := by
  have e : ∀ y : Str, PyData.eqv (.str y) (.str x) = decide (x = y) := fun y => by
    rw [PyData.eqv, Bool.eq_iff_iff, decide_eq_true_iff, beq_iff_eq]
    exact eq_comm
  simp only [inD, flatD, List.all_cons, List.all_nil, Bool.and_self, if_true, List.any_cons, List.any_nil, e, modeB, Bool.or_false, Bool.or_assoc]
theorem timer_eq {x : PyData} (k : Int) (h : ok3 x = true) (hm : ∀ l, x = .tuple l → ∀ y ∈ l, ∀ m, y = .tuple m → m.length ≤ lim) : Ph X (n + 3) 4 [.d (.int k), .d x] = .ok (.d (.bool (timerB k x))) [] := by
  rw [eq_is_timer]
  cases x <;> first | (cases h; done) | skip
  case tuple l =>
    by_cases h8 : l.length = 8
    · match l, h8, h, hm with
      | [src, dv, md, tp, gate, ms, ca, once], _, h, hm =>
        simp only [ok3, List.all_cons, List.all_nil, Bool.and_true, Bool.and_eq_true] at h
        obtain ⟨hl0, k1, k2, k3, k4, k5, k6, k7, k8⟩ := h
        have a1 := whole_eq X (n + 1) 0 (k - 1) (ok1_of k1)
        have a2 := whole_eq X (n + 1) 1 256 (ok1_of k2)
        have a4 := whole_eq X (n + 1) 1 65535 (ok1_of k4)
        have a5 := edge_eq X n k5
        have a7 := edge_eq X n k7
        have a8 := truth_eq X (n + 1) (ok1_of k8)
        have s1 : ∀ s, src = .str s → PyData.strOk s = true := fun s e => by subst e; exact k1
        simp only [defF, C_is_timer, enter, enter.enterW]
        have hsrc : ∀ s : Sg, s.ρ[2]? = some (some (.d src)) → s.ρ[0]? = some (some (.d (.int k))) → sem (Ph X (n + 2)) gl (.and (.not (.and (.isi (.var 2) 2) (.one (.cmp .eq (.var 2) (.cst (.str "beat")))))) (.one (.not (.call 0 0 (.cons (.var 2) (.cons (.cst (.int 0)) (.cons (.bin .sub (.var 0) (.cst (.int 1))) .nil))))))) s = .ok [.d (.bool (!srcB k src))] s := by
          intro s e1 e2
          cases src <;> first | (cases k1; done) | skip
          case str q0 _ =>
            have w0 : wholeB (.str q0) 0 (k - 1) = false := rfl
            have e := eq_str_l (x := q0) "beat" (by decide +kernel) (s1 q0 rfl)
            by_cases hq : q0 = "beat"
            · subst hq
              simp -implicitDefEqProofs [BC.run, toAvs, toAv, apart, b0ok, backOk, backAll, isiV, peek, isiD, tru, peekR, truthD, cmpD, ltD, binD, addD, subD, solid, solids, peeks, setTg, setIs, one1_dat, bfD, bLen, isNone, dat, partM, partI, Xe.isNil, Va.tag, goes, Re.closed, resOf, setRes, lstAt, sem_fld, kFld, kFld2, sem_fidx, kFidx, kFidx2, kFidx3, kFidx4, kFidxM, sem_oidx, kOidx, kOidx2, kOidx3, sem_flen, kFlen, kFlen2, sem_fcopy, kFcopy, kFcopy2, sem_sfl, kSfl, kSfl2, sem_popE, kPopE, kPopE2, kPopE3, sem_meth, kMe, kMeM, kMe2, sem_sset, kSset, kSset2, sem_rng1, kRng1, sem_rng2, kRng2, kRng3, sem_mt, kMt, kMt2, kMt3, mtTy, mtD, sem_dget, kDget, kDget2, kDget3, sem_pop, kPop, semS_setf, kSetf, kSetf2, kSetf3, semS_setfs, kSetfs, kSetfs2, kSetfs3, setFs, semS_newB, kNewB, kNewB2, semS_newFR, kNewFR, kNewFRm, kNewFR2, kNewFR3, kNewFO3, kPutO, semS_newFO, kNewFO, kNewFOm, kNewFOm2, semS_appE, kAppE, kAppEm, kAppE2, kAppE3, semS_newC, kNewC, kNewC2, kNewC2m, kNewC3, semS_ext, kExt, kExt2, kExt3, semS_tryA, kTryA, subX, isiX, insOf, setIns, getN, putN, heldV, simV, Re.cls, BC.listOf, closeB, openB, leave, outs, Re.plain, Fv.closed, e1, e2, e, srcB]
            · simp -implicitDefEqProofs [BC.run, toAvs, toAv, apart, b0ok, backOk, backAll, isiV, peek, isiD, tru, peekR, truthD, cmpD, ltD, binD, addD, subD, solid, solids, peeks, setTg, setIs, one1_dat, bfD, bLen, isNone, dat, partM, partI, Xe.isNil, Va.tag, goes, Re.closed, resOf, setRes, lstAt, sem_fld, kFld, kFld2, sem_fidx, kFidx, kFidx2, kFidx3, kFidx4, kFidxM, sem_oidx, kOidx, kOidx2, kOidx3, sem_flen, kFlen, kFlen2, sem_fcopy, kFcopy, kFcopy2, sem_sfl, kSfl, kSfl2, sem_popE, kPopE, kPopE2, kPopE3, sem_meth, kMe, kMeM, kMe2, sem_sset, kSset, kSset2, sem_rng1, kRng1, sem_rng2, kRng2, kRng3, sem_mt, kMt, kMt2, kMt3, mtTy, mtD, sem_dget, kDget, kDget2, kDget3, sem_pop, kPop, semS_setf, kSetf, kSetf2, kSetf3, semS_setfs, kSetfs, kSetfs2, kSetfs3, setFs, semS_newB, kNewB, kNewB2, semS_newFR, kNewFR, kNewFRm, kNewFR2, kNewFR3, kNewFO3, kPutO, semS_newFO, kNewFO, kNewFOm, kNewFOm2, semS_appE, kAppE, kAppEm, kAppE2, kAppE3, semS_newC, kNewC, kNewC2, kNewC2m, kNewC3, semS_ext, kExt, kExt2, kExt3, semS_tryA, kTryA, subX, isiX, insOf, setIns, getN, putN, heldV, simV, Re.cls, BC.listOf, closeB, openB, leave, outs, Re.plain, Fv.closed, e1, e2, e, hq, srcB, a1, w0]
          all_goals simp -implicitDefEqProofs [BC.run, toAvs, toAv, apart, b0ok, backOk, backAll, isiV, peek, isiD, tru, peekR, truthD, cmpD, ltD, binD, addD, subD, solid, solids, peeks, setTg, setIs, one1_dat, bfD, bLen, isNone, dat, partM, partI, Xe.isNil, Va.tag, goes, Re.closed, resOf, setRes, lstAt, sem_fld, kFld, kFld2, sem_fidx, kFidx, kFidx2, kFidx3, kFidx4, kFidxM, sem_oidx, kOidx, kOidx2, kOidx3, sem_flen, kFlen, kFlen2, sem_fcopy, kFcopy, kFcopy2, sem_sfl, kSfl, kSfl2, sem_popE, kPopE, kPopE2, kPopE3, sem_meth, kMe, kMeM, kMe2, sem_sset, kSset, kSset2, sem_rng1, kRng1, sem_rng2, kRng2, kRng3, sem_mt, kMt, kMt2, kMt3, mtTy, mtD, sem_dget, kDget, kDget2, kDget3, sem_pop, kPop, semS_setf, kSetf, kSetf2, kSetf3, semS_setfs, kSetfs, kSetfs2, kSetfs3, setFs, semS_newB, kNewB, kNewB2, semS_newFR, kNewFR, kNewFRm, kNewFR2, kNewFR3, kNewFO3, kPutO, semS_newFO, kNewFO, kNewFOm, kNewFOm2, semS_appE, kAppE, kAppEm, kAppE2, kAppE3, semS_newC, kNewC, kNewC2, kNewC2m, kNewC3, semS_ext, kExt, kExt2, kExt3, semS_tryA, kTryA, subX, isiX, insOf, setIns, getN, putN, heldV, simV, Re.cls, BC.listOf, closeB, openB, leave, outs, Re.plain, Fv.closed, e1, e2, srcB, a1]
        have hmode : ∀ s : Sg, s.ρ[4]? = some (some (.d md)) → s.ρ[3]? = some (some (.d dv)) → sem (Ph X (n + 2)) gl (.or (.not (.call 0 0 (.cons (.var 3) (.cons (.cst (.int 1)) (.cons (.glob 2) .nil))))) (.or (.not (.isi (.var 4) 2)) (.one (.cmp .notIn (.var 4) (.glob 5))))) s = .ok [.d (.bool (!(wholeB dv 1 256 && modeB md)))] s := by
          intro s e1 e2
          cases hw : wholeB dv 1 256
          · simp -implicitDefEqProofs [BC.run, toAvs, toAv, apart, b0ok, backOk, backAll, isiV, peek, isiD, tru, peekR, truthD, cmpD, ltD, binD, addD, subD, solid, solids, peeks, setTg, setIs, one1_dat, bfD, bLen, isNone, dat, partM, partI, Xe.isNil, Va.tag, goes, Re.closed, resOf, setRes, lstAt, sem_fld, kFld, kFld2, sem_fidx, kFidx, kFidx2, kFidx3, kFidx4, kFidxM, sem_oidx, kOidx, kOidx2, kOidx3, sem_flen, kFlen, kFlen2, sem_fcopy, kFcopy, kFcopy2, sem_sfl, kSfl, kSfl2, sem_popE, kPopE, kPopE2, kPopE3, sem_meth, kMe, kMeM, kMe2, sem_sset, kSset, kSset2, sem_rng1, kRng1, sem_rng2, kRng2, kRng3, sem_mt, kMt, kMt2, kMt3, mtTy, mtD, sem_dget, kDget, kDget2, kDget3, sem_pop, kPop, semS_setf, kSetf, kSetf2, kSetf3, semS_setfs, kSetfs, kSetfs2, kSetfs3, setFs, semS_newB, kNewB, kNewB2, semS_newFR, kNewFR, kNewFRm, kNewFR2, kNewFR3, kNewFO3, kPutO, semS_newFO, kNewFO, kNewFOm, kNewFOm2, semS_appE, kAppE, kAppEm, kAppE2, kAppE3, semS_newC, kNewC, kNewC2, kNewC2m, kNewC3, semS_ext, kExt, kExt2, kExt3, semS_tryA, kTryA, subX, isiX, insOf, setIns, getN, putN, heldV, simV, Re.cls, BC.listOf, closeB, openB, leave, outs, Re.plain, Fv.closed, e1, e2, a2, hw]
          · cases md <;> first | (cases k3; done) | skip
            case str q0 _ =>
              have e := mode_in (x := q0)
              simp -implicitDefEqProofs [BC.run, toAvs, toAv, apart, b0ok, backOk, backAll, isiV, peek, isiD, tru, peekR, truthD, cmpD, ltD, binD, addD, subD, solid, solids, peeks, setTg, setIs, one1_dat, bfD, bLen, isNone, dat, partM, partI, Xe.isNil, Va.tag, goes, Re.closed, resOf, setRes, lstAt, sem_fld, kFld, kFld2, sem_fidx, kFidx, kFidx2, kFidx3, kFidx4, kFidxM, sem_oidx, kOidx, kOidx2, kOidx3, sem_flen, kFlen, kFlen2, sem_fcopy, kFcopy, kFcopy2, sem_sfl, kSfl, kSfl2, sem_popE, kPopE, kPopE2, kPopE3, sem_meth, kMe, kMeM, kMe2, sem_sset, kSset, kSset2, sem_rng1, kRng1, sem_rng2, kRng2, kRng3, sem_mt, kMt, kMt2, kMt3, mtTy, mtD, sem_dget, kDget, kDget2, kDget3, sem_pop, kPop, semS_setf, kSetf, kSetf2, kSetf3, semS_setfs, kSetfs, kSetfs2, kSetfs3, setFs, semS_newB, kNewB, kNewB2, semS_newFR, kNewFR, kNewFRm, kNewFR2, kNewFR3, kNewFO3, kPutO, semS_newFO, kNewFO, kNewFOm, kNewFOm2, semS_appE, kAppE, kAppEm, kAppE2, kAppE3, semS_newC, kNewC, kNewC2, kNewC2m, kNewC3, semS_ext, kExt, kExt2, kExt3, semS_tryA, kTryA, subX, isiX, insOf, setIns, getN, putN, heldV, simV, Re.cls, BC.listOf, closeB, openB, leave, outs, Re.plain, Fv.closed, e1, e2, a2, hw, e]
            all_goals simp -implicitDefEqProofs [BC.run, toAvs, toAv, apart, b0ok, backOk, backAll, isiV, peek, isiD, tru, peekR, truthD, cmpD, ltD, binD, addD, subD, solid, solids, peeks, setTg, setIs, one1_dat, bfD, bLen, isNone, dat, partM, partI, Xe.isNil, Va.tag, goes, Re.closed, resOf, setRes, lstAt, sem_fld, kFld, kFld2, sem_fidx, kFidx, kFidx2, kFidx3, kFidx4, kFidxM, sem_oidx, kOidx, kOidx2, kOidx3, sem_flen, kFlen, kFlen2, sem_fcopy, kFcopy, kFcopy2, sem_sfl, kSfl, kSfl2, sem_popE, kPopE, kPopE2, kPopE3, sem_meth, kMe, kMeM, kMe2, sem_sset, kSset, kSset2, sem_rng1, kRng1, sem_rng2, kRng2, kRng3, sem_mt, kMt, kMt2, kMt3, mtTy, mtD, sem_dget, kDget, kDget2, kDget3, sem_pop, kPop, semS_setf, kSetf, kSetf2, kSetf3, semS_setfs, kSetfs, kSetfs2, kSetfs3, setFs, semS_newB, kNewB, kNewB2, semS_newFR, kNewFR, kNewFRm, kNewFR2, kNewFR3, kNewFO3, kPutO, semS_newFO, kNewFO, kNewFOm, kNewFOm2, semS_appE, kAppE, kAppEm, kAppE2, kAppE3, semS_newC, kNewC, kNewC2, kNewC2m, kNewC3, semS_ext, kExt, kExt2, kExt3, semS_tryA, kTryA, subX, isiX, insOf, setIns, getN, putN, heldV, simV, Re.cls, BC.listOf, closeB, openB, leave, outs, Re.plain, Fv.closed, e1, e2, a2, hw, modeB]
        have hrest : ∀ s : Sg, s.ρ[5]? = some (some (.d tp)) → s.ρ[6]? = some (some (.d gate)) → s.ρ[8]? = some (some (.d ca)) → s.ρ[9]? = some (some (.d once)) → sem (Ph X (n + 2)) gl (.or (.not (.call 0 0 (.cons (.var 5) (.cons (.cst (.int 1)) (.cons (.glob 3) .nil))))) (.or (.not (.call 2 0 (.cons (.var 6) .nil))) (.or (.not (.call 2 0 (.cons (.var 8) .nil))) (.one (.not (.call 1 0 (.cons (.var 9) .nil))))))) s = .ok [.d (.bool (!(wholeB tp 1 65535 && edgeB gate && edgeB ca && truthB once)))] s := by
          intro s e1 e2 e3 e4
          cases h1 : wholeB tp 1 65535
          · simp -implicitDefEqProofs [BC.run, toAvs, toAv, apart, b0ok, backOk, backAll, isiV, peek, isiD, tru, peekR, truthD, cmpD, ltD, binD, addD, subD, solid, solids, peeks, setTg, setIs, one1_dat, bfD, bLen, isNone, dat, partM, partI, Xe.isNil, Va.tag, goes, Re.closed, resOf, setRes, lstAt, sem_fld, kFld, kFld2, sem_fidx, kFidx, kFidx2, kFidx3, kFidx4, kFidxM, sem_oidx, kOidx, kOidx2, kOidx3, sem_flen, kFlen, kFlen2, sem_fcopy, kFcopy, kFcopy2, sem_sfl, kSfl, kSfl2, sem_popE, kPopE, kPopE2, kPopE3, sem_meth, kMe, kMeM, kMe2, sem_sset, kSset, kSset2, sem_rng1, kRng1, sem_rng2, kRng2, kRng3, sem_mt, kMt, kMt2, kMt3, mtTy, mtD, sem_dget, kDget, kDget2, kDget3, sem_pop, kPop, semS_setf, kSetf, kSetf2, kSetf3, semS_setfs, kSetfs, kSetfs2, kSetfs3, setFs, semS_newB, kNewB, kNewB2, semS_newFR, kNewFR, kNewFRm, kNewFR2, kNewFR3, kNewFO3, kPutO, semS_newFO, kNewFO, kNewFOm, kNewFOm2, semS_appE, kAppE, kAppEm, kAppE2, kAppE3, semS_newC, kNewC, kNewC2, kNewC2m, kNewC3, semS_ext, kExt, kExt2, kExt3, semS_tryA, kTryA, subX, isiX, insOf, setIns, getN, putN, heldV, simV, Re.cls, BC.listOf, closeB, openB, leave, outs, Re.plain, Fv.closed, e1, a4, h1]
          · cases h2 : edgeB gate
            · simp -implicitDefEqProofs [BC.run, toAvs, toAv, apart, b0ok, backOk, backAll, isiV, peek, isiD, tru, peekR, truthD, cmpD, ltD, binD, addD, subD, solid, solids, peeks, setTg, setIs, one1_dat, bfD, bLen, isNone, dat, partM, partI, Xe.isNil, Va.tag, goes, Re.closed, resOf, setRes, lstAt, sem_fld, kFld, kFld2, sem_fidx, kFidx, kFidx2, kFidx3, kFidx4, kFidxM, sem_oidx, kOidx, kOidx2, kOidx3, sem_flen, kFlen, kFlen2, sem_fcopy, kFcopy, kFcopy2, sem_sfl, kSfl, kSfl2, sem_popE, kPopE, kPopE2, kPopE3, sem_meth, kMe, kMeM, kMe2, sem_sset, kSset, kSset2, sem_rng1, kRng1, sem_rng2, kRng2, kRng3, sem_mt, kMt, kMt2, kMt3, mtTy, mtD, sem_dget, kDget, kDget2, kDget3, sem_pop, kPop, semS_setf, kSetf, kSetf2, kSetf3, semS_setfs, kSetfs, kSetfs2, kSetfs3, setFs, semS_newB, kNewB, kNewB2, semS_newFR, kNewFR, kNewFRm, kNewFR2, kNewFR3, kNewFO3, kPutO, semS_newFO, kNewFO, kNewFOm, kNewFOm2, semS_appE, kAppE, kAppEm, kAppE2, kAppE3, semS_newC, kNewC, kNewC2, kNewC2m, kNewC3, semS_ext, kExt, kExt2, kExt3, semS_tryA, kTryA, subX, isiX, insOf, setIns, getN, putN, heldV, simV, Re.cls, BC.listOf, closeB, openB, leave, outs, Re.plain, Fv.closed, e1, e2, a4, a5, h1, h2]
            · cases h3 : edgeB ca
              · simp -implicitDefEqProofs [BC.run, toAvs, toAv, apart, b0ok, backOk, backAll, isiV, peek, isiD, tru, peekR, truthD, cmpD, ltD, binD, addD, subD, solid, solids, peeks, setTg, setIs, one1_dat, bfD, bLen, isNone, dat, partM, partI, Xe.isNil, Va.tag, goes, Re.closed, resOf, setRes, lstAt, sem_fld, kFld, kFld2, sem_fidx, kFidx, kFidx2, kFidx3, kFidx4, kFidxM, sem_oidx, kOidx, kOidx2, kOidx3, sem_flen, kFlen, kFlen2, sem_fcopy, kFcopy, kFcopy2, sem_sfl, kSfl, kSfl2, sem_popE, kPopE, kPopE2, kPopE3, sem_meth, kMe, kMeM, kMe2, sem_sset, kSset, kSset2, sem_rng1, kRng1, sem_rng2, kRng2, kRng3, sem_mt, kMt, kMt2, kMt3, mtTy, mtD, sem_dget, kDget, kDget2, kDget3, sem_pop, kPop, semS_setf, kSetf, kSetf2, kSetf3, semS_setfs, kSetfs, kSetfs2, kSetfs3, setFs, semS_newB, kNewB, kNewB2, semS_newFR, kNewFR, kNewFRm, kNewFR2, kNewFR3, kNewFO3, kPutO, semS_newFO, kNewFO, kNewFOm, kNewFOm2, semS_appE, kAppE, kAppEm, kAppE2, kAppE3, semS_newC, kNewC, kNewC2, kNewC2m, kNewC3, semS_ext, kExt, kExt2, kExt3, semS_tryA, kTryA, subX, isiX, insOf, setIns, getN, putN, heldV, simV, Re.cls, BC.listOf, closeB, openB, leave, outs, Re.plain, Fv.closed, e1, e2, e3, a4, a5, a7, h1, h2, h3]
              · simp -implicitDefEqProofs [BC.run, toAvs, toAv, apart, b0ok, backOk, backAll, isiV, peek, isiD, tru, peekR, truthD, cmpD, ltD, binD, addD, subD, solid, solids, peeks, setTg, setIs, one1_dat, bfD, bLen, isNone, dat, partM, partI, Xe.isNil, Va.tag, goes, Re.closed, resOf, setRes, lstAt, sem_fld, kFld, kFld2, sem_fidx, kFidx, kFidx2, kFidx3, kFidx4, kFidxM, sem_oidx, kOidx, kOidx2, kOidx3, sem_flen, kFlen, kFlen2, sem_fcopy, kFcopy, kFcopy2, sem_sfl, kSfl, kSfl2, sem_popE, kPopE, kPopE2, kPopE3, sem_meth, kMe, kMeM, kMe2, sem_sset, kSset, kSset2, sem_rng1, kRng1, sem_rng2, kRng2, kRng3, sem_mt, kMt, kMt2, kMt3, mtTy, mtD, sem_dget, kDget, kDget2, kDget3, sem_pop, kPop, semS_setf, kSetf, kSetf2, kSetf3, semS_setfs, kSetfs, kSetfs2, kSetfs3, setFs, semS_newB, kNewB, kNewB2, semS_newFR, kNewFR, kNewFRm, kNewFR2, kNewFR3, kNewFO3, kPutO, semS_newFO, kNewFO, kNewFOm, kNewFOm2, semS_appE, kAppE, kAppEm, kAppE2, kAppE3, semS_newC, kNewC, kNewC2, kNewC2m, kNewC3, semS_ext, kExt, kExt2, kExt3, semS_tryA, kTryA, subX, isiX, insOf, setIns, getN, putN, heldV, simV, Re.cls, BC.listOf, closeB, openB, leave, outs, Re.plain, Fv.closed, e1, e2, e3, e4, a4, a5, a7, a8, h1, h2, h3]
        have et : timerB k (.tuple [src, dv, md, tp, gate, ms, ca, once]) = (srcB k src && wholeB dv 1 256 && modeB md && wholeB tp 1 65535 && edgeB gate && edgeB ca && truthB once && (match tp with
          | .int t => matB t ms
          | _ => false)) := rfl
        cases h1 : srcB k src
        · simp -implicitDefEqProofs [BC.run, toAvs, toAv, apart, b0ok, backOk, backAll, isiV, peek, isiD, tru, peekR, truthD, cmpD, ltD, binD, addD, subD, solid, solids, peeks, setTg, setIs, one1_dat, bfD, bLen, isNone, dat, partM, partI, Xe.isNil, Va.tag, goes, Re.closed, resOf, setRes, lstAt, sem_fld, kFld, kFld2, sem_fidx, kFidx, kFidx2, kFidx3, kFidx4, kFidxM, sem_oidx, kOidx, kOidx2, kOidx3, sem_flen, kFlen, kFlen2, sem_fcopy, kFcopy, kFcopy2, sem_sfl, kSfl, kSfl2, sem_popE, kPopE, kPopE2, kPopE3, sem_meth, kMe, kMeM, kMe2, sem_sset, kSset, kSset2, sem_rng1, kRng1, sem_rng2, kRng2, kRng3, sem_mt, kMt, kMt2, kMt3, mtTy, mtD, sem_dget, kDget, kDget2, kDget3, sem_pop, kPop, semS_setf, kSetf, kSetf2, kSetf3, semS_setfs, kSetfs, kSetfs2, kSetfs3, setFs, semS_newB, kNewB, kNewB2, semS_newFR, kNewFR, kNewFRm, kNewFR2, kNewFR3, kNewFO3, kPutO, semS_newFO, kNewFO, kNewFOm, kNewFOm2, semS_appE, kAppE, kAppEm, kAppE2, kAppE3, semS_newC, kNewC, kNewC2, kNewC2m, kNewC3, semS_ext, kExt, kExt2, kExt3, semS_tryA, kTryA, subX, isiX, insOf, setIns, getN, putN, heldV, simV, Re.cls, BC.listOf, closeB, openB, leave, outs, Re.plain, Fv.closed, eqD_int, hsrc, h1, et]
        · cases h2 : (wholeB dv 1 256 && modeB md)
          · simp -implicitDefEqProofs [BC.run, toAvs, toAv, apart, b0ok, backOk, backAll, isiV, peek, isiD, tru, peekR, truthD, cmpD, ltD, binD, addD, subD, solid, solids, peeks, setTg, setIs, one1_dat, bfD, bLen, isNone, dat, partM, partI, Xe.isNil, Va.tag, goes, Re.closed, resOf, setRes, lstAt, sem_fld, kFld, kFld2, sem_fidx, kFidx, kFidx2, kFidx3, kFidx4, kFidxM, sem_oidx, kOidx, kOidx2, kOidx3, sem_flen, kFlen, kFlen2, sem_fcopy, kFcopy, kFcopy2, sem_sfl, kSfl, kSfl2, sem_popE, kPopE, kPopE2, kPopE3, sem_meth, kMe, kMeM, kMe2, sem_sset, kSset, kSset2, sem_rng1, kRng1, sem_rng2, kRng2, kRng3, sem_mt, kMt, kMt2, kMt3, mtTy, mtD, sem_dget, kDget, kDget2, kDget3, sem_pop, kPop, semS_setf, kSetf, kSetf2, kSetf3, semS_setfs, kSetfs, kSetfs2, kSetfs3, setFs, semS_newB, kNewB, kNewB2, semS_newFR, kNewFR, kNewFRm, kNewFR2, kNewFR3, kNewFO3, kPutO, semS_newFO, kNewFO, kNewFOm, kNewFOm2, semS_appE, kAppE, kAppEm, kAppE2, kAppE3, semS_newC, kNewC, kNewC2, kNewC2m, kNewC3, semS_ext, kExt, kExt2, kExt3, semS_tryA, kTryA, subX, isiX, insOf, setIns, getN, putN, heldV, simV, Re.cls, BC.listOf, closeB, openB, leave, outs, Re.plain, Fv.closed, eqD_int, hsrc, hmode, h1, h2, et]
          · cases h3 : (wholeB tp 1 65535 && edgeB gate && edgeB ca && truthB once)
            · have et2 : timerB k (.tuple [src, dv, md, tp, gate, ms, ca, once]) = false := by
                rw [et]
                revert h3
                cases wholeB tp 1 65535 <;> cases edgeB gate <;> cases edgeB ca <;> cases truthB once <;> simp
              simp -implicitDefEqProofs [BC.run, toAvs, toAv, apart, b0ok, backOk, backAll, isiV, peek, isiD, tru, peekR, truthD, cmpD, ltD, binD, addD, subD, solid, solids, peeks, setTg, setIs, one1_dat, bfD, bLen, isNone, dat, partM, partI, Xe.isNil, Va.tag, goes, Re.closed, resOf, setRes, lstAt, sem_fld, kFld, kFld2, sem_fidx, kFidx, kFidx2, kFidx3, kFidx4, kFidxM, sem_oidx, kOidx, kOidx2, kOidx3, sem_flen, kFlen, kFlen2, sem_fcopy, kFcopy, kFcopy2, sem_sfl, kSfl, kSfl2, sem_popE, kPopE, kPopE2, kPopE3, sem_meth, kMe, kMeM, kMe2, sem_sset, kSset, kSset2, sem_rng1, kRng1, sem_rng2, kRng2, kRng3, sem_mt, kMt, kMt2, kMt3, mtTy, mtD, sem_dget, kDget, kDget2, kDget3, sem_pop, kPop, semS_setf, kSetf, kSetf2, kSetf3, semS_setfs, kSetfs, kSetfs2, kSetfs3, setFs, semS_newB, kNewB, kNewB2, semS_newFR, kNewFR, kNewFRm, kNewFR2, kNewFR3, kNewFO3, kPutO, semS_newFO, kNewFO, kNewFOm, kNewFOm2, semS_appE, kAppE, kAppEm, kAppE2, kAppE3, semS_newC, kNewC, kNewC2, kNewC2m, kNewC3, semS_ext, kExt, kExt2, kExt3, semS_tryA, kTryA, subX, isiX, insOf, setIns, getN, putN, heldV, simV, Re.cls, BC.listOf, closeB, openB, leave, outs, Re.plain, Fv.closed, eqD_int, hsrc, hmode, hrest, h1, h2, h3, et2]
            · have ht : ∃ t, tp = .int t := by
                cases tp <;> first | exact ⟨_, rfl⟩ | (exfalso; simp [wholeB] at h3)
              obtain ⟨t, rfl⟩ := ht
              have a6 := mat_eq X n t k6 (fun l e => hm _ rfl ms (by simp) l e)
              have et2 : timerB k (.tuple [src, dv, md, .int t, gate, ms, ca, once]) = matB t ms := by
                rw [et]
                simp only [Bool.and_eq_true] at h2 h3
                simp [h1, h2, h3]
              simp -implicitDefEqProofs [BC.run, toAvs, toAv, apart, b0ok, backOk, backAll, isiV, peek, isiD, tru, peekR, truthD, cmpD, ltD, binD, addD, subD, solid, solids, peeks, setTg, setIs, one1_dat, bfD, bLen, isNone, dat, partM, partI, Xe.isNil, Va.tag, goes, Re.closed, resOf, setRes, lstAt, sem_fld, kFld, kFld2, sem_fidx, kFidx, kFidx2, kFidx3, kFidx4, kFidxM, sem_oidx, kOidx, kOidx2, kOidx3, sem_flen, kFlen, kFlen2, sem_fcopy, kFcopy, kFcopy2, sem_sfl, kSfl, kSfl2, sem_popE, kPopE, kPopE2, kPopE3, sem_meth, kMe, kMeM, kMe2, sem_sset, kSset, kSset2, sem_rng1, kRng1, sem_rng2, kRng2, kRng3, sem_mt, kMt, kMt2, kMt3, mtTy, mtD, sem_dget, kDget, kDget2, kDget3, sem_pop, kPop, semS_setf, kSetf, kSetf2, kSetf3, semS_setfs, kSetfs, kSetfs2, kSetfs3, setFs, semS_newB, kNewB, kNewB2, semS_newFR, kNewFR, kNewFRm, kNewFR2, kNewFR3, kNewFO3, kPutO, semS_newFO, kNewFO, kNewFOm, kNewFOm2, semS_appE, kAppE, kAppEm, kAppE2, kAppE3, semS_newC, kNewC, kNewC2, kNewC2m, kNewC3, semS_ext, kExt, kExt2, kExt3, semS_tryA, kTryA, subX, isiX, insOf, setIns, getN, putN, heldV, simV, Re.cls, BC.listOf, closeB, openB, leave, outs, Re.plain, Fv.closed, eqD_int, hsrc, hmode, hrest, h1, h2, h3, et2, a6]
    · have g8 : ¬ ((l.length : Int) = 8) := by omega
      have t8 : timerB k (.tuple l) = false := by
        unfold timerB
        split
        · rename_i e
          cases e
          exact absurd rfl h8
        · rfl
      simp only [defF, C_is_timer, enter, enter.enterW]
      simp -implicitDefEqProofs [BC.run, toAvs, toAv, apart, b0ok, backOk, backAll, isiV, peek, isiD, tru, peekR, truthD, cmpD, ltD, binD, addD, subD, solid, solids, peeks, setTg, setIs, one1_dat, bfD, bLen, isNone, dat, partM, partI, Xe.isNil, Va.tag, goes, Re.closed, resOf, setRes, lstAt, sem_fld, kFld, kFld2, sem_fidx, kFidx, kFidx2, kFidx3, kFidx4, kFidxM, sem_oidx, kOidx, kOidx2, kOidx3, sem_flen, kFlen, kFlen2, sem_fcopy, kFcopy, kFcopy2, sem_sfl, kSfl, kSfl2, sem_popE, kPopE, kPopE2, kPopE3, sem_meth, kMe, kMeM, kMe2, sem_sset, kSset, kSset2, sem_rng1, kRng1, sem_rng2, kRng2, kRng3, sem_mt, kMt, kMt2, kMt3, mtTy, mtD, sem_dget, kDget, kDget2, kDget3, sem_pop, kPop, semS_setf, kSetf, kSetf2, kSetf3, semS_setfs, kSetfs, kSetfs2, kSetfs3, setFs, semS_newB, kNewB, kNewB2, semS_newFR, kNewFR, kNewFRm, kNewFR2, kNewFR3, kNewFO3, kPutO, semS_newFO, kNewFO, kNewFOm, kNewFOm2, semS_appE, kAppE, kAppEm, kAppE2, kAppE3, semS_newC, kNewC, kNewC2, kNewC2m, kNewC3, semS_ext, kExt, kExt2, kExt3, semS_tryA, kTryA, subX, isiX, insOf, setIns, getN, putN, heldV, simV, Re.cls, BC.listOf, closeB, openB, leave, outs, Re.plain, Fv.closed, eqD_int, g8, t8]
  all_goals
    simp only [defF, C_is_timer, enter, enter.enterW]
    simp -implicitDefEqProofs [BC.run, toAvs, toAv, apart, b0ok, backOk, backAll, isiV, peek, isiD, tru, peekR, truthD, cmpD, ltD, binD, addD, subD, solid, solids, peeks, setTg, setIs, one1_dat, bfD, bLen, isNone, dat, partM, partI, Xe.isNil, Va.tag, goes, Re.closed, resOf, setRes, lstAt, sem_fld, kFld, kFld2, sem_fidx, kFidx, kFidx2, kFidx3, kFidx4, kFidxM, sem_oidx, kOidx, kOidx2, kOidx3, sem_flen, kFlen, kFlen2, sem_fcopy, kFcopy, kFcopy2, sem_sfl, kSfl, kSfl2, sem_popE, kPopE, kPopE2, kPopE3, sem_meth, kMe, kMeM, kMe2, sem_sset, kSset, kSset2, sem_rng1, kRng1, sem_rng2, kRng2, kRng3, sem_mt, kMt, kMt2, kMt3, mtTy, mtD, sem_dget, kDget, kDget2, kDget3, sem_pop, kPop, semS_setf, kSetf, kSetf2, kSetf3, semS_setfs, kSetfs, kSetfs2, kSetfs3, setFs, semS_newB, kNewB, kNewB2, semS_newFR, kNewFR, kNewFRm, kNewFR2, kNewFR3, kNewFO3, kPutO, semS_newFO, kNewFO, kNewFOm, kNewFOm2, semS_appE, kAppE, kAppEm, kAppE2, kAppE3, semS_newC, kNewC, kNewC2, kNewC2m, kNewC3, semS_ext, kExt, kExt2, kExt3, semS_tryA, kTryA, subX, isiX, insOf, setIns, getN, putN, heldV, simV, Re.cls, BC.listOf, closeB, openB, leave, outs, Re.plain, Fv.closed, timerB]
end
end BC

/-! PM3: plans of timers. -/
namespace BC
open PySem
structure Ok3 (y : PyData) : Prop where
  ok : ok3 y = true
  sm : ∀ l, y = .tuple l → ∀ z ∈ l, ∀ m, z = .tuple m → m.length ≤ lim
structure Ok4 (p : PyData) : Prop where
  ok : okD p = true
  all : ∀ l, p = .tuple l → l.length ≤ lim ∧ ∀ y ∈ l, Ok3 y
def nthD (l : List PyData) (k : Nat) : PyData := l.getD k .none
def planB : PyData → Bool
  | .tuple l => decide (1 ≤ l.length) && decide (l.length ≤ 4) && (List.range l.length).all fun (k : Nat) => timerB (k : Int) (nthD l k)
  | _ => false
theorem at_nat {l : List PyData} {k : Nat} (h : k < l.length) : idxD (.tuple l) (.int (k : Int)) = some (nthD l k) := by
  refine L2.atI_nat ?_
  unfold nthD
  rw [List.getD_eq_getElem?_getD, List.getElem?_eq_getElem h]
  rfl
theorem at_natL {l : List PyData} {k : Nat} (h : k < l.length) : idxD (.list l) (.int (k : Int)) = some (nthD l k) := by
  refine L2.atI_nat ?_
  unfold nthD
  rw [List.getD_eq_getElem?_getD, List.getElem?_eq_getElem h]
  rfl
theorem getD_mem {l : List PyData} {k : Nat} (h : k < l.length) : nthD l k ∈ l := by
  unfold nthD
  rw [List.getD_eq_getElem?_getD, List.getElem?_eq_getElem h]
  exact List.getElem_mem h
section
variable (X : List Dc) (n : Nat)
theorem look_plan_eq {p : PyData} (h : Ok4 p) : Ph X (n + 4) 5 [.d p] = if planB p then .ok (.d .none) [] else .err 1 [] := by
  rw [eq_look_plan]
  have hk := h.ok
  cases p <;> first | (cases hk; done) | skip
  case tuple l =>
    obtain ⟨hl, hy⟩ := h.all l rfl
    by_cases g : 1 ≤ l.length ∧ l.length ≤ 4
    · obtain ⟨g1, g2⟩ := g
      have hc : sem (Ph X (n + 3)) gl E_look_plan_0 _ = _ := comp_map1 (s := ⟨[some (.d (.tuple l)), none], [], []⟩) (xs := List.range l.length) (fun (k : Nat) => .int (k : Int)) (fun (k : Nat) => .bool (timerB (k : Int) (nthD l k)))
        (rng1_src (by simp -implicitDefEqProofs [BC.run, toAvs, toAv, apart, b0ok, backOk, backAll, isiV, peek, isiD, tru, peekR, truthD, cmpD, ltD, binD, addD, subD, solid, solids, peeks, setTg, setIs, one1_dat, bfD, bLen, isNone, dat, partM, partI, Xe.isNil, Va.tag, goes, Re.closed, resOf, setRes, lstAt, sem_fld, kFld, kFld2, sem_fidx, kFidx, kFidx2, kFidx3, kFidx4, kFidxM, sem_oidx, kOidx, kOidx2, kOidx3, sem_flen, kFlen, kFlen2, sem_fcopy, kFcopy, kFcopy2, sem_sfl, kSfl, kSfl2, sem_popE, kPopE, kPopE2, kPopE3, sem_meth, kMe, kMeM, kMe2, sem_sset, kSset, kSset2, sem_rng1, kRng1, sem_rng2, kRng2, kRng3, sem_mt, kMt, kMt2, kMt3, mtTy, mtD, sem_dget, kDget, kDget2, kDget3, sem_pop, kPop, semS_setf, kSetf, kSetf2, kSetf3, semS_setfs, kSetfs, kSetfs2, kSetfs3, setFs, semS_newB, kNewB, kNewB2, semS_newFR, kNewFR, kNewFRm, kNewFR2, kNewFR3, kNewFO3, kPutO, semS_newFO, kNewFO, kNewFOm, kNewFOm2, semS_appE, kAppE, kAppEm, kAppE2, kAppE3, semS_newC, kNewC, kNewC2, kNewC2m, kNewC3, semS_ext, kExt, kExt2, kExt3, semS_tryA, kTryA, subX, isiX, insOf, setIns, getN, putN, heldV, simV, Re.cls, BC.listOf, closeB, openB, leave, outs, Re.plain, Fv.closed]) (by omega)) (by simp [lim]; omega) (fun k hk => by
          have hk : k < l.length := by simpa using hk
          have hm := hy _ (getD_mem hk)
          have e1 := timer_eq X n (k : Int) hm.ok hm.sm
          simp -implicitDefEqProofs [BC.run, toAvs, toAv, apart, b0ok, backOk, backAll, isiV, peek, isiD, tru, peekR, truthD, cmpD, ltD, binD, addD, subD, solid, solids, peeks, setTg, setIs, one1_dat, bfD, bLen, isNone, dat, partM, partI, Xe.isNil, Va.tag, goes, Re.closed, resOf, setRes, lstAt, sem_fld, kFld, kFld2, sem_fidx, kFidx, kFidx2, kFidx3, kFidx4, kFidxM, sem_oidx, kOidx, kOidx2, kOidx3, sem_flen, kFlen, kFlen2, sem_fcopy, kFcopy, kFcopy2, sem_sfl, kSfl, kSfl2, sem_popE, kPopE, kPopE2, kPopE3, sem_meth, kMe, kMeM, kMe2, sem_sset, kSset, kSset2, sem_rng1, kRng1, sem_rng2, kRng2, kRng3, sem_mt, kMt, kMt2, kMt3, mtTy, mtD, sem_dget, kDget, kDget2, kDget3, sem_pop, kPop, semS_setf, kSetf, kSetf2, kSetf3, semS_setfs, kSetfs, kSetfs2, kSetfs3, setFs, semS_newB, kNewB, kNewB2, semS_newFR, kNewFR, kNewFRm, kNewFR2, kNewFR3, kNewFO3, kPutO, semS_newFO, kNewFO, kNewFOm, kNewFOm2, semS_appE, kAppE, kAppEm, kAppE2, kAppE3, semS_newC, kNewC, kNewC2, kNewC2m, kNewC3, semS_ext, kExt, kExt2, kExt3, semS_tryA, kTryA, subX, isiX, insOf, setIns, getN, putN, heldV, simV, Re.cls, BC.listOf, closeB, openB, leave, outs, Re.plain, Fv.closed, e1, at_nat hk])
      have hb : boolsD ((List.range l.length).map fun (k : Nat) => PyData.bool (timerB (k : Int) (nthD l k))) = some ((List.range l.length).map fun (k : Nat) => timerB (k : Int) (nthD l k)) := by
        have := boolsD_map ((List.range l.length).map fun (k : Nat) => timerB (k : Int) (nthD l k))
        rw [List.map_map] at this
        exact this
      have i1 : (1 : Int) ≤ (l.length : Int) := by omega
      have i2 : (l.length : Int) ≤ 4 := by omega
      have ep : planB (.tuple l) = ((List.range l.length).all fun (k : Nat) => timerB (k : Int) (nthD l k)) := by
        simp [planB, g1, g2]
      rw [ep]
      simp only [defF, C_look_plan, enter, enter.enterW]
      generalize hG : (fun (k : Nat) => timerB (k : Int) (nthD l k)) = G at *
      have hG' : ∀ k : Nat, timerB (k : Int) (nthD l k) = G k := fun k => by rw [← hG]
      simp only [hG'] at hc hb
      have ea : ((List.range l.length).map G).all id = (List.range l.length).all G := by rw [List.all_map]; rfl
      cases ha : (List.range l.length).all G with
      | false => rw [ha] at ea; simp -implicitDefEqProofs [BC.run, toAvs, toAv, apart, b0ok, backOk, backAll, isiV, peek, isiD, tru, peekR, truthD, cmpD, ltD, binD, addD, subD, solid, solids, peeks, setTg, setIs, one1_dat, bfD, bLen, isNone, dat, partM, partI, Xe.isNil, Va.tag, goes, Re.closed, resOf, setRes, lstAt, sem_fld, kFld, kFld2, sem_fidx, kFidx, kFidx2, kFidx3, kFidx4, kFidxM, sem_oidx, kOidx, kOidx2, kOidx3, sem_flen, kFlen, kFlen2, sem_fcopy, kFcopy, kFcopy2, sem_sfl, kSfl, kSfl2, sem_popE, kPopE, kPopE2, kPopE3, sem_meth, kMe, kMeM, kMe2, sem_sset, kSset, kSset2, sem_rng1, kRng1, sem_rng2, kRng2, kRng3, sem_mt, kMt, kMt2, kMt3, mtTy, mtD, sem_dget, kDget, kDget2, kDget3, sem_pop, kPop, semS_setf, kSetf, kSetf2, kSetf3, semS_setfs, kSetfs, kSetfs2, kSetfs3, setFs, semS_newB, kNewB, kNewB2, semS_newFR, kNewFR, kNewFRm, kNewFR2, kNewFR3, kNewFO3, kPutO, semS_newFO, kNewFO, kNewFOm, kNewFOm2, semS_appE, kAppE, kAppEm, kAppE2, kAppE3, semS_newC, kNewC, kNewC2, kNewC2m, kNewC3, semS_ext, kExt, kExt2, kExt3, semS_tryA, kTryA, subX, isiX, insOf, setIns, getN, putN, heldV, simV, Re.cls, BC.listOf, closeB, openB, leave, outs, Re.plain, Fv.closed, hc, i1, i2, bAll, hb, ea]
      | true => rw [ha] at ea; simp -implicitDefEqProofs [BC.run, toAvs, toAv, apart, b0ok, backOk, backAll, isiV, peek, isiD, tru, peekR, truthD, cmpD, ltD, binD, addD, subD, solid, solids, peeks, setTg, setIs, one1_dat, bfD, bLen, isNone, dat, partM, partI, Xe.isNil, Va.tag, goes, Re.closed, resOf, setRes, lstAt, sem_fld, kFld, kFld2, sem_fidx, kFidx, kFidx2, kFidx3, kFidx4, kFidxM, sem_oidx, kOidx, kOidx2, kOidx3, sem_flen, kFlen, kFlen2, sem_fcopy, kFcopy, kFcopy2, sem_sfl, kSfl, kSfl2, sem_popE, kPopE, kPopE2, kPopE3, sem_meth, kMe, kMeM, kMe2, sem_sset, kSset, kSset2, sem_rng1, kRng1, sem_rng2, kRng2, kRng3, sem_mt, kMt, kMt2, kMt3, mtTy, mtD, sem_dget, kDget, kDget2, kDget3, sem_pop, kPop, semS_setf, kSetf, kSetf2, kSetf3, semS_setfs, kSetfs, kSetfs2, kSetfs3, setFs, semS_newB, kNewB, kNewB2, semS_newFR, kNewFR, kNewFRm, kNewFR2, kNewFR3, kNewFO3, kPutO, semS_newFO, kNewFO, kNewFOm, kNewFOm2, semS_appE, kAppE, kAppEm, kAppE2, kAppE3, semS_newC, kNewC, kNewC2, kNewC2m, kNewC3, semS_ext, kExt, kExt2, kExt3, semS_tryA, kTryA, subX, isiX, insOf, setIns, getN, putN, heldV, simV, Re.cls, BC.listOf, closeB, openB, leave, outs, Re.plain, Fv.closed, hc, i1, i2, bAll, hb, ea]
    · have ep : planB (.tuple l) = false := by
        unfold planB
        by_cases g1 : 1 ≤ l.length
        · have : ¬ l.length ≤ 4 := fun z => g ⟨g1, z⟩
          simp [this]
        · simp [g1]
      rw [ep]
      simp only [defF, C_look_plan, enter, enter.enterW]
      by_cases g1 : (1 : Int) ≤ (l.length : Int)
      · have : ¬ ((l.length : Int) ≤ 4) := by omega
        simp -implicitDefEqProofs [BC.run, toAvs, toAv, apart, b0ok, backOk, backAll, isiV, peek, isiD, tru, peekR, truthD, cmpD, ltD, binD, addD, subD, solid, solids, peeks, setTg, setIs, one1_dat, bfD, bLen, isNone, dat, partM, partI, Xe.isNil, Va.tag, goes, Re.closed, resOf, setRes, lstAt, sem_fld, kFld, kFld2, sem_fidx, kFidx, kFidx2, kFidx3, kFidx4, kFidxM, sem_oidx, kOidx, kOidx2, kOidx3, sem_flen, kFlen, kFlen2, sem_fcopy, kFcopy, kFcopy2, sem_sfl, kSfl, kSfl2, sem_popE, kPopE, kPopE2, kPopE3, sem_meth, kMe, kMeM, kMe2, sem_sset, kSset, kSset2, sem_rng1, kRng1, sem_rng2, kRng2, kRng3, sem_mt, kMt, kMt2, kMt3, mtTy, mtD, sem_dget, kDget, kDget2, kDget3, sem_pop, kPop, semS_setf, kSetf, kSetf2, kSetf3, semS_setfs, kSetfs, kSetfs2, kSetfs3, setFs, semS_newB, kNewB, kNewB2, semS_newFR, kNewFR, kNewFRm, kNewFR2, kNewFR3, kNewFO3, kPutO, semS_newFO, kNewFO, kNewFOm, kNewFOm2, semS_appE, kAppE, kAppEm, kAppE2, kAppE3, semS_newC, kNewC, kNewC2, kNewC2m, kNewC3, semS_ext, kExt, kExt2, kExt3, semS_tryA, kTryA, subX, isiX, insOf, setIns, getN, putN, heldV, simV, Re.cls, BC.listOf, closeB, openB, leave, outs, Re.plain, Fv.closed, g1, this]
      · simp -implicitDefEqProofs [BC.run, toAvs, toAv, apart, b0ok, backOk, backAll, isiV, peek, isiD, tru, peekR, truthD, cmpD, ltD, binD, addD, subD, solid, solids, peeks, setTg, setIs, one1_dat, bfD, bLen, isNone, dat, partM, partI, Xe.isNil, Va.tag, goes, Re.closed, resOf, setRes, lstAt, sem_fld, kFld, kFld2, sem_fidx, kFidx, kFidx2, kFidx3, kFidx4, kFidxM, sem_oidx, kOidx, kOidx2, kOidx3, sem_flen, kFlen, kFlen2, sem_fcopy, kFcopy, kFcopy2, sem_sfl, kSfl, kSfl2, sem_popE, kPopE, kPopE2, kPopE3, sem_meth, kMe, kMeM, kMe2, sem_sset, kSset, kSset2, sem_rng1, kRng1, sem_rng2, kRng2, kRng3, sem_mt, kMt, kMt2, kMt3, mtTy, mtD, sem_dget, kDget, kDget2, kDget3, sem_pop, kPop, semS_setf, kSetf, kSetf2, kSetf3, semS_setfs, kSetfs, kSetfs2, kSetfs3, setFs, semS_newB, kNewB, kNewB2, semS_newFR, kNewFR, kNewFRm, kNewFR2, kNewFR3, kNewFO3, kPutO, semS_newFO, kNewFO, kNewFOm, kNewFOm2, semS_appE, kAppE, kAppEm, kAppE2, kAppE3, semS_newC, kNewC, kNewC2, kNewC2m, kNewC3, semS_ext, kExt, kExt2, kExt3, semS_tryA, kTryA, subX, isiX, insOf, setIns, getN, putN, heldV, simV, Re.cls, BC.listOf, closeB, openB, leave, outs, Re.plain, Fv.closed, g1]
  all_goals
    simp only [defF, C_look_plan, enter, enter.enterW]
    simp -implicitDefEqProofs [BC.run, toAvs, toAv, apart, b0ok, backOk, backAll, isiV, peek, isiD, tru, peekR, truthD, cmpD, ltD, binD, addD, subD, solid, solids, peeks, setTg, setIs, one1_dat, bfD, bLen, isNone, dat, partM, partI, Xe.isNil, Va.tag, goes, Re.closed, resOf, setRes, lstAt, sem_fld, kFld, kFld2, sem_fidx, kFidx, kFidx2, kFidx3, kFidx4, kFidxM, sem_oidx, kOidx, kOidx2, kOidx3, sem_flen, kFlen, kFlen2, sem_fcopy, kFcopy, kFcopy2, sem_sfl, kSfl, kSfl2, sem_popE, kPopE, kPopE2, kPopE3, sem_meth, kMe, kMeM, kMe2, sem_sset, kSset, kSset2, sem_rng1, kRng1, sem_rng2, kRng2, kRng3, sem_mt, kMt, kMt2, kMt3, mtTy, mtD, sem_dget, kDget, kDget2, kDget3, sem_pop, kPop, semS_setf, kSetf, kSetf2, kSetf3, semS_setfs, kSetfs, kSetfs2, kSetfs3, setFs, semS_newB, kNewB, kNewB2, semS_newFR, kNewFR, kNewFRm, kNewFR2, kNewFR3, kNewFO3, kPutO, semS_newFO, kNewFO, kNewFOm, kNewFOm2, semS_appE, kAppE, kAppEm, kAppE2, kAppE3, semS_newC, kNewC, kNewC2, kNewC2m, kNewC3, semS_ext, kExt, kExt2, kExt3, semS_tryA, kTryA, subX, isiX, insOf, setIns, getN, putN, heldV, simV, Re.cls, BC.listOf, closeB, openB, leave, outs, Re.plain, Fv.closed, planB]
end
/-! ### timers -/
inductive Md where
  | up | down | both
  deriving DecidableEq
def Md.str : Md → Str
  | .up => "up" | .down => "down" | .both => "both"
structure Tm where
  src : Option Nat
  dv : Int
  md : Md
  tp : Int
  gate : Option (Int × Bool)
  ms : List Int
  ca : Option (Int × Bool)
  once : Bool
def srcD : Option Nat → PyData
  | none => .str "beat"
  | some j => .int (j : Int)
def edgeD : Option (Int × Bool) → PyData
  | none => .none
  | some (l, v) => .tuple [.int l, .bool v]
def Tm.toD (t : Tm) : PyData := .tuple [srcD t.src, .int t.dv, .str t.md.str, .int t.tp, edgeD t.gate, .tuple (t.ms.map .int), edgeD t.ca, .bool t.once]
def edgeOk : Option (Int × Bool) → Prop
  | none => True
  | some (l, _) => 0 ≤ l ∧ l ≤ 3
structure GoodT (k : Nat) (t : Tm) : Prop where
  src : ∀ j, t.src = some j → j < k
  dv1 : 1 ≤ t.dv
  dv2 : t.dv ≤ 256
  tp1 : 1 ≤ t.tp
  tp2 : t.tp ≤ 65535
  gate : edgeOk t.gate
  ml : t.ms.length ≤ 2
  mr : ∀ m ∈ t.ms, 0 ≤ m ∧ m ≤ t.tp
  ms : usort t.ms = t.ms
  ca : edgeOk t.ca
structure GoodP (ts : List Tm) : Prop where
  n1 : 1 ≤ ts.length
  n4 : ts.length ≤ 4
  all : ∀ k t, ts[k]? = some t → GoodT k t
def planD (ts : List Tm) : PyData := .tuple (ts.map Tm.toD)
theorem edgeB_D {e : Option (Int × Bool)} (h : edgeOk e) : edgeB (edgeD e) = true := by
  cases e with
  | none => rfl
  | some p =>
    obtain ⟨l, v⟩ := p
    have h : 0 ≤ l ∧ l ≤ 3 := h
    simp [edgeB, edgeD, wholeB, truthB, h.1, h.2]
theorem timerB_D {k : Nat} {t : Tm} (h : GoodT k t) : timerB (k : Int) t.toD = true := by
  have e1 : srcB (k : Int) (srcD t.src) = true := by
    cases hs : t.src with
    | none => rfl
    | some j =>
      have := h.src j hs
      show wholeB (.int (j : Int)) 0 ((k : Int) - 1) = true
      simp [wholeB]
      omega
  have e2 : modeB (.str t.md.str) = true := by
    cases t.md <;> rfl
  have e3 : (t.ms.map PyData.int).all (fun y => wholeB y 0 t.tp) = true := by
    rw [List.all_map, List.all_eq_true]
    intro m hm
    have := h.mr m hm
    simp [wholeB, this.1, this.2]
  show (srcB k (srcD t.src) && wholeB (.int t.dv) 1 256 && modeB (.str t.md.str) && wholeB (.int t.tp) 1 65535 && edgeB (edgeD t.gate) && edgeB (edgeD t.ca) && truthB (.bool t.once) && matB t.tp (.tuple (t.ms.map .int))) = true
  rw [e1, e2, edgeB_D h.gate, edgeB_D h.ca]
  simp [wholeB, truthB, matB, h.dv1, h.dv2, h.tp1, h.tp2, e3, intsD_map, h.ms, h.ml]
  have := h.ml
  simpa using h.mr
theorem planB_D {ts : List Tm} (h : GoodP ts) : planB (planD ts) = true := by
  show (decide (1 ≤ (ts.map Tm.toD).length) && decide ((ts.map Tm.toD).length ≤ 4) && (List.range (ts.map Tm.toD).length).all fun (k : Nat) => timerB (k : Int) (nthD (ts.map Tm.toD) k)) = true
  have e : ((List.range (ts.map Tm.toD).length).all fun (k : Nat) => timerB (k : Int) (nthD (ts.map Tm.toD) k)) = true := by
    rw [List.all_eq_true]
    intro k hk
    have hk : k < ts.length := by simpa using hk
    have : nthD (ts.map Tm.toD) k = ts[k].toD := by
      unfold nthD
      rw [List.getD_eq_getElem?_getD, List.getElem?_map, List.getElem?_eq_getElem hk]
      rfl
    rw [this]
    exact timerB_D (h.all k _ (List.getElem?_eq_getElem hk))
  rw [e]
  have := h.n1
  have := h.n4
  simp
  omega
theorem ok2_edge (e : Option (Int × Bool)) : ok2 (edgeD e) = true := by
  cases e <;> rfl
theorem strOk_md (m : Md) : PyData.strOk m.str = true := by cases m <;> decide +kernel
theorem ok3_D (t : Tm) (h : t.ms.length ≤ lim) : Ok3 t.toD := by
  refine ⟨?_, ?_⟩
  · have e1 : ok2 (srcD t.src) = true := by
      cases t.src with
      | none => decide +kernel
      | some j => rfl
    have e2 : ok2 (.tuple (t.ms.map .int)) = true := by
      show (t.ms.map PyData.int).all okD = true
      rw [List.all_map, List.all_eq_true]
      exact fun _ _ => rfl
    show (decide (8 ≤ lim) && (ok2 (srcD t.src) && (true && (PyData.strOk t.md.str && (true && (ok2 (edgeD t.gate) && (ok2 (.tuple (t.ms.map .int)) && (ok2 (edgeD t.ca) && (true && true))))))))) = true
    rw [e1, e2, ok2_edge, ok2_edge, strOk_md]
    rfl
  · intro l hl z hz m hm
    cases hl
    subst hm
    simp only [List.mem_cons, List.not_mem_nil, or_false] at hz
    have ne : ∀ e : Option (Int × Bool), PyData.tuple m = edgeD e → m.length ≤ lim := fun e z => by
      cases e with
      | none => cases z
      | some p => cases z; show 2 ≤ lim; decide
    rcases hz with z | z | z | z | z | z | z | z
    · cases hs : t.src <;> rw [hs] at z <;> cases z
    · cases z
    · cases z
    · cases z
    · exact ne _ z
    · cases z; simpa using h
    · exact ne _ z
    · cases z
theorem ok4_D {ts : List Tm} (h : GoodP ts) : Ok4 (planD ts) := by
  refine ⟨rfl, fun l hl => ?_⟩
  cases hl
  refine ⟨by simp only [List.length_map]; have := h.n4; show _ ≤ 1000000; omega, fun y hy => ?_⟩
  obtain ⟨t, ht, rfl⟩ := List.mem_map.mp hy
  obtain ⟨k, hk⟩ := List.mem_iff_getElem?.mp ht
  have := (h.all k t hk).ml
  exact ok3_D t (by show _ ≤ 1000000; omega)
end BC

/-! PM4: what is read of a timer; rounds. -/
namespace BC
open PySem
def sizeT (t : Tm) : Int := if t.md = .both then 2 * t.tp else t.tp + 1
def begunT (t : Tm) : Int × Bool := if t.md = .down then (t.tp, true) else (0, false)
def placeT (t : Tm) (c : Int) (d : Bool) : Int := match t.md with
  | .up => c
  | .down => t.tp - c
  | .both => if d then 2 * t.tp - c else c
def atT (t : Tm) (p : Int) : Int × Bool := match t.md with
  | .up => (p, false)
  | .down => (t.tp - p, true)
  | .both => if p < t.tp then (p, false) else (2 * t.tp - p, true)
theorem toD_0 (t : Tm) : idxD t.toD (.int 0) = some (srcD t.src) := rfl
theorem toD_1 (t : Tm) : idxD t.toD (.int 1) = some (.int t.dv) := rfl
theorem toD_2 (t : Tm) : idxD t.toD (.int 2) = some (.str t.md.str) := rfl
theorem toD_3 (t : Tm) : idxD t.toD (.int 3) = some (.int t.tp) := rfl
theorem toD_4 (t : Tm) : idxD t.toD (.int 4) = some (edgeD t.gate) := rfl
theorem toD_5 (t : Tm) : idxD t.toD (.int 5) = some (.tuple (t.ms.map .int)) := rfl
theorem toD_6 (t : Tm) : idxD t.toD (.int 6) = some (edgeD t.ca) := rfl
theorem toD_7 (t : Tm) : idxD t.toD (.int 7) = some (.bool t.once) := rfl
theorem toD_24 (t : Tm) : sliceD t.toD (some 2) (some 4) = some (.tuple [.str t.md.str, .int t.tp]) := rfl
theorem toD_26 (t : Tm) : sliceD t.toD (some 2) (some 6) = some (.tuple [.str t.md.str, .int t.tp, edgeD t.gate, .tuple (t.ms.map .int)]) := rfl
theorem md_inj {a b : Md} : a.str = b.str ↔ a = b := by
  cases a <;> cases b <;> decide
theorem md_eq (a b : Md) : eqD (.str a.str) (.str b.str) = some (decide (a = b)) := by
  rw [eqD_str (strOk_md a) (strOk_md b)]
  congr 1
  rw [Bool.eq_iff_iff]
  simp [md_inj]
theorem md_both (a : Md) : eqD (.str a.str) (.str "both") = some (decide (a = .both)) := md_eq a .both
theorem md_up (a : Md) : eqD (.str a.str) (.str "up") = some (decide (a = .up)) := md_eq a .up
theorem md_down (a : Md) : eqD (.str a.str) (.str "down") = some (decide (a = .down)) := md_eq a .down
theorem src_beat (s : Option Nat) : eqD (srcD s) (.str "beat") = some (decide (s = none)) := by
  cases s with
  | none => exact (eqD_str (by decide +kernel) (by decide +kernel)).trans (by simp)
  | some j =>
    unfold eqD
    rw [show SeqAt.shaped (srcD (some j)) = true from rfl, strOk_len, show PyData.strOk "beat" = true from by decide +kernel, if_pos (by rfl)]
    rfl
theorem mulD2 (t : Int) : mulD (.int 2) (.int t) = some (.int (2 * t)) := mul_l (by decide) (by decide)
section
variable (X : List Dc) (n : Nat)
theorem round_of_eq (t : Tm) : Ph X (n + 1) 6 [.d t.toD] = .ok (.d (.int (sizeT t))) [] := by
  rw [eq_round_of]
  simp only [defF, C_round_of, enter, enter.enterW]
  by_cases h : t.md = .both
  · simp -implicitDefEqProofs [BC.run, toAvs, toAv, apart, b0ok, backOk, backAll, isiV, peek, isiD, tru, peekR, truthD, cmpD, ltD, binD, addD, subD, solid, solids, peeks, setTg, setIs, one1_dat, bfD, bLen, isNone, dat, partM, partI, Xe.isNil, Va.tag, goes, Re.closed, resOf, setRes, lstAt, sem_fld, kFld, kFld2, sem_fidx, kFidx, kFidx2, kFidx3, kFidx4, kFidxM, sem_oidx, kOidx, kOidx2, kOidx3, sem_flen, kFlen, kFlen2, sem_fcopy, kFcopy, kFcopy2, sem_sfl, kSfl, kSfl2, sem_popE, kPopE, kPopE2, kPopE3, sem_meth, kMe, kMeM, kMe2, sem_sset, kSset, kSset2, sem_rng1, kRng1, sem_rng2, kRng2, kRng3, sem_mt, kMt, kMt2, kMt3, mtTy, mtD, sem_dget, kDget, kDget2, kDget3, sem_pop, kPop, semS_setf, kSetf, kSetf2, kSetf3, semS_setfs, kSetfs, kSetfs2, kSetfs3, setFs, semS_newB, kNewB, kNewB2, semS_newFR, kNewFR, kNewFRm, kNewFR2, kNewFR3, kNewFO3, kPutO, semS_newFO, kNewFO, kNewFOm, kNewFOm2, semS_appE, kAppE, kAppEm, kAppE2, kAppE3, semS_newC, kNewC, kNewC2, kNewC2m, kNewC3, semS_ext, kExt, kExt2, kExt3, semS_tryA, kTryA, subX, isiX, insOf, setIns, getN, putN, heldV, simV, Re.cls, BC.listOf, closeB, openB, leave, outs, Re.plain, Fv.closed, toD_2, toD_3, md_both, h, sizeT, mulD2]
  · simp -implicitDefEqProofs [BC.run, toAvs, toAv, apart, b0ok, backOk, backAll, isiV, peek, isiD, tru, peekR, truthD, cmpD, ltD, binD, addD, subD, solid, solids, peeks, setTg, setIs, one1_dat, bfD, bLen, isNone, dat, partM, partI, Xe.isNil, Va.tag, goes, Re.closed, resOf, setRes, lstAt, sem_fld, kFld, kFld2, sem_fidx, kFidx, kFidx2, kFidx3, kFidx4, kFidxM, sem_oidx, kOidx, kOidx2, kOidx3, sem_flen, kFlen, kFlen2, sem_fcopy, kFcopy, kFcopy2, sem_sfl, kSfl, kSfl2, sem_popE, kPopE, kPopE2, kPopE3, sem_meth, kMe, kMeM, kMe2, sem_sset, kSset, kSset2, sem_rng1, kRng1, sem_rng2, kRng2, kRng3, sem_mt, kMt, kMt2, kMt3, mtTy, mtD, sem_dget, kDget, kDget2, kDget3, sem_pop, kPop, semS_setf, kSetf, kSetf2, kSetf3, semS_setfs, kSetfs, kSetfs2, kSetfs3, setFs, semS_newB, kNewB, kNewB2, semS_newFR, kNewFR, kNewFRm, kNewFR2, kNewFR3, kNewFO3, kPutO, semS_newFO, kNewFO, kNewFOm, kNewFOm2, semS_appE, kAppE, kAppEm, kAppE2, kAppE3, semS_newC, kNewC, kNewC2, kNewC2m, kNewC3, semS_ext, kExt, kExt2, kExt3, semS_tryA, kTryA, subX, isiX, insOf, setIns, getN, putN, heldV, simV, Re.cls, BC.listOf, closeB, openB, leave, outs, Re.plain, Fv.closed, toD_2, toD_3, md_both, h, sizeT]
theorem begun_eq (t : Tm) : Ph X (n + 1) 8 [.d t.toD] = .ok (.d (.tuple [.int (begunT t).1, .bool (begunT t).2])) [] := by
  rw [eq_begun]
  simp only [defF, C_begun, enter, enter.enterW]
  by_cases h : t.md = .down
  · simp -implicitDefEqProofs [BC.run, toAvs, toAv, apart, b0ok, backOk, backAll, isiV, peek, isiD, tru, peekR, truthD, cmpD, ltD, binD, addD, subD, solid, solids, peeks, setTg, setIs, one1_dat, bfD, bLen, isNone, dat, partM, partI, Xe.isNil, Va.tag, goes, Re.closed, resOf, setRes, lstAt, sem_fld, kFld, kFld2, sem_fidx, kFidx, kFidx2, kFidx3, kFidx4, kFidxM, sem_oidx, kOidx, kOidx2, kOidx3, sem_flen, kFlen, kFlen2, sem_fcopy, kFcopy, kFcopy2, sem_sfl, kSfl, kSfl2, sem_popE, kPopE, kPopE2, kPopE3, sem_meth, kMe, kMeM, kMe2, sem_sset, kSset, kSset2, sem_rng1, kRng1, sem_rng2, kRng2, kRng3, sem_mt, kMt, kMt2, kMt3, mtTy, mtD, sem_dget, kDget, kDget2, kDget3, sem_pop, kPop, semS_setf, kSetf, kSetf2, kSetf3, semS_setfs, kSetfs, kSetfs2, kSetfs3, setFs, semS_newB, kNewB, kNewB2, semS_newFR, kNewFR, kNewFRm, kNewFR2, kNewFR3, kNewFO3, kPutO, semS_newFO, kNewFO, kNewFOm, kNewFOm2, semS_appE, kAppE, kAppEm, kAppE2, kAppE3, semS_newC, kNewC, kNewC2, kNewC2m, kNewC3, semS_ext, kExt, kExt2, kExt3, semS_tryA, kTryA, subX, isiX, insOf, setIns, getN, putN, heldV, simV, Re.cls, BC.listOf, closeB, openB, leave, outs, Re.plain, Fv.closed, toD_2, toD_3, md_down, h, begunT, lim]
  · simp -implicitDefEqProofs [BC.run, toAvs, toAv, apart, b0ok, backOk, backAll, isiV, peek, isiD, tru, peekR, truthD, cmpD, ltD, binD, addD, subD, solid, solids, peeks, setTg, setIs, one1_dat, bfD, bLen, isNone, dat, partM, partI, Xe.isNil, Va.tag, goes, Re.closed, resOf, setRes, lstAt, sem_fld, kFld, kFld2, sem_fidx, kFidx, kFidx2, kFidx3, kFidx4, kFidxM, sem_oidx, kOidx, kOidx2, kOidx3, sem_flen, kFlen, kFlen2, sem_fcopy, kFcopy, kFcopy2, sem_sfl, kSfl, kSfl2, sem_popE, kPopE, kPopE2, kPopE3, sem_meth, kMe, kMeM, kMe2, sem_sset, kSset, kSset2, sem_rng1, kRng1, sem_rng2, kRng2, kRng3, sem_mt, kMt, kMt2, kMt3, mtTy, mtD, sem_dget, kDget, kDget2, kDget3, sem_pop, kPop, semS_setf, kSetf, kSetf2, kSetf3, semS_setfs, kSetfs, kSetfs2, kSetfs3, setFs, semS_newB, kNewB, kNewB2, semS_newFR, kNewFR, kNewFRm, kNewFR2, kNewFR3, kNewFO3, kPutO, semS_newFO, kNewFO, kNewFOm, kNewFOm2, semS_appE, kAppE, kAppEm, kAppE2, kAppE3, semS_newC, kNewC, kNewC2, kNewC2m, kNewC3, semS_ext, kExt, kExt2, kExt3, semS_tryA, kTryA, subX, isiX, insOf, setIns, getN, putN, heldV, simV, Re.cls, BC.listOf, closeB, openB, leave, outs, Re.plain, Fv.closed, toD_2, toD_3, md_down, h, begunT, lim]
theorem place_of_eq (t : Tm) (c : Int) (d : Bool) : Ph X (n + 1) 9 [.d t.toD, .d (.int c), .d (.bool d)] = .ok (.d (.int (placeT t c d))) [] := by
  rw [eq_place_of]
  simp only [defF, C_place_of, enter, enter.enterW]
  cases hm : t.md
  · simp -implicitDefEqProofs [BC.run, toAvs, toAv, apart, b0ok, backOk, backAll, isiV, peek, isiD, tru, peekR, truthD, cmpD, ltD, binD, addD, subD, solid, solids, peeks, setTg, setIs, one1_dat, bfD, bLen, isNone, dat, partM, partI, Xe.isNil, Va.tag, goes, Re.closed, resOf, setRes, lstAt, sem_fld, kFld, kFld2, sem_fidx, kFidx, kFidx2, kFidx3, kFidx4, kFidxM, sem_oidx, kOidx, kOidx2, kOidx3, sem_flen, kFlen, kFlen2, sem_fcopy, kFcopy, kFcopy2, sem_sfl, kSfl, kSfl2, sem_popE, kPopE, kPopE2, kPopE3, sem_meth, kMe, kMeM, kMe2, sem_sset, kSset, kSset2, sem_rng1, kRng1, sem_rng2, kRng2, kRng3, sem_mt, kMt, kMt2, kMt3, mtTy, mtD, sem_dget, kDget, kDget2, kDget3, sem_pop, kPop, semS_setf, kSetf, kSetf2, kSetf3, semS_setfs, kSetfs, kSetfs2, kSetfs3, setFs, semS_newB, kNewB, kNewB2, semS_newFR, kNewFR, kNewFRm, kNewFR2, kNewFR3, kNewFO3, kPutO, semS_newFO, kNewFO, kNewFOm, kNewFOm2, semS_appE, kAppE, kAppEm, kAppE2, kAppE3, semS_newC, kNewC, kNewC2, kNewC2m, kNewC3, semS_ext, kExt, kExt2, kExt3, semS_tryA, kTryA, subX, isiX, insOf, setIns, getN, putN, heldV, simV, Re.cls, BC.listOf, closeB, openB, leave, outs, Re.plain, Fv.closed, toD_24, md_up, hm, placeT]
  · simp -implicitDefEqProofs [BC.run, toAvs, toAv, apart, b0ok, backOk, backAll, isiV, peek, isiD, tru, peekR, truthD, cmpD, ltD, binD, addD, subD, solid, solids, peeks, setTg, setIs, one1_dat, bfD, bLen, isNone, dat, partM, partI, Xe.isNil, Va.tag, goes, Re.closed, resOf, setRes, lstAt, sem_fld, kFld, kFld2, sem_fidx, kFidx, kFidx2, kFidx3, kFidx4, kFidxM, sem_oidx, kOidx, kOidx2, kOidx3, sem_flen, kFlen, kFlen2, sem_fcopy, kFcopy, kFcopy2, sem_sfl, kSfl, kSfl2, sem_popE, kPopE, kPopE2, kPopE3, sem_meth, kMe, kMeM, kMe2, sem_sset, kSset, kSset2, sem_rng1, kRng1, sem_rng2, kRng2, kRng3, sem_mt, kMt, kMt2, kMt3, mtTy, mtD, sem_dget, kDget, kDget2, kDget3, sem_pop, kPop, semS_setf, kSetf, kSetf2, kSetf3, semS_setfs, kSetfs, kSetfs2, kSetfs3, setFs, semS_newB, kNewB, kNewB2, semS_newFR, kNewFR, kNewFRm, kNewFR2, kNewFR3, kNewFO3, kPutO, semS_newFO, kNewFO, kNewFOm, kNewFOm2, semS_appE, kAppE, kAppEm, kAppE2, kAppE3, semS_newC, kNewC, kNewC2, kNewC2m, kNewC3, semS_ext, kExt, kExt2, kExt3, semS_tryA, kTryA, subX, isiX, insOf, setIns, getN, putN, heldV, simV, Re.cls, BC.listOf, closeB, openB, leave, outs, Re.plain, Fv.closed, toD_24, md_up, md_down, hm, placeT]
  · cases d
    · simp -implicitDefEqProofs [BC.run, toAvs, toAv, apart, b0ok, backOk, backAll, isiV, peek, isiD, tru, peekR, truthD, cmpD, ltD, binD, addD, subD, solid, solids, peeks, setTg, setIs, one1_dat, bfD, bLen, isNone, dat, partM, partI, Xe.isNil, Va.tag, goes, Re.closed, resOf, setRes, lstAt, sem_fld, kFld, kFld2, sem_fidx, kFidx, kFidx2, kFidx3, kFidx4, kFidxM, sem_oidx, kOidx, kOidx2, kOidx3, sem_flen, kFlen, kFlen2, sem_fcopy, kFcopy, kFcopy2, sem_sfl, kSfl, kSfl2, sem_popE, kPopE, kPopE2, kPopE3, sem_meth, kMe, kMeM, kMe2, sem_sset, kSset, kSset2, sem_rng1, kRng1, sem_rng2, kRng2, kRng3, sem_mt, kMt, kMt2, kMt3, mtTy, mtD, sem_dget, kDget, kDget2, kDget3, sem_pop, kPop, semS_setf, kSetf, kSetf2, kSetf3, semS_setfs, kSetfs, kSetfs2, kSetfs3, setFs, semS_newB, kNewB, kNewB2, semS_newFR, kNewFR, kNewFRm, kNewFR2, kNewFR3, kNewFO3, kPutO, semS_newFO, kNewFO, kNewFOm, kNewFOm2, semS_appE, kAppE, kAppEm, kAppE2, kAppE3, semS_newC, kNewC, kNewC2, kNewC2m, kNewC3, semS_ext, kExt, kExt2, kExt3, semS_tryA, kTryA, subX, isiX, insOf, setIns, getN, putN, heldV, simV, Re.cls, BC.listOf, closeB, openB, leave, outs, Re.plain, Fv.closed, toD_24, md_up, md_down, hm, placeT]
    · simp -implicitDefEqProofs [BC.run, toAvs, toAv, apart, b0ok, backOk, backAll, isiV, peek, isiD, tru, peekR, truthD, cmpD, ltD, binD, addD, subD, solid, solids, peeks, setTg, setIs, one1_dat, bfD, bLen, isNone, dat, partM, partI, Xe.isNil, Va.tag, goes, Re.closed, resOf, setRes, lstAt, sem_fld, kFld, kFld2, sem_fidx, kFidx, kFidx2, kFidx3, kFidx4, kFidxM, sem_oidx, kOidx, kOidx2, kOidx3, sem_flen, kFlen, kFlen2, sem_fcopy, kFcopy, kFcopy2, sem_sfl, kSfl, kSfl2, sem_popE, kPopE, kPopE2, kPopE3, sem_meth, kMe, kMeM, kMe2, sem_sset, kSset, kSset2, sem_rng1, kRng1, sem_rng2, kRng2, kRng3, sem_mt, kMt, kMt2, kMt3, mtTy, mtD, sem_dget, kDget, kDget2, kDget3, sem_pop, kPop, semS_setf, kSetf, kSetf2, kSetf3, semS_setfs, kSetfs, kSetfs2, kSetfs3, setFs, semS_newB, kNewB, kNewB2, semS_newFR, kNewFR, kNewFRm, kNewFR2, kNewFR3, kNewFO3, kPutO, semS_newFO, kNewFO, kNewFOm, kNewFOm2, semS_appE, kAppE, kAppEm, kAppE2, kAppE3, semS_newC, kNewC, kNewC2, kNewC2m, kNewC3, semS_ext, kExt, kExt2, kExt3, semS_tryA, kTryA, subX, isiX, insOf, setIns, getN, putN, heldV, simV, Re.cls, BC.listOf, closeB, openB, leave, outs, Re.plain, Fv.closed, toD_24, md_up, md_down, hm, placeT, mulD2]
theorem at_place_eq (t : Tm) (p : Int) : Ph X (n + 1) 10 [.d t.toD, .d (.int p)] = .ok (.d (.tuple [.int (atT t p).1, .bool (atT t p).2])) [] := by
  rw [eq_at_place]
  simp only [defF, C_at_place, enter, enter.enterW]
  cases hm : t.md
  · simp -implicitDefEqProofs [BC.run, toAvs, toAv, apart, b0ok, backOk, backAll, isiV, peek, isiD, tru, peekR, truthD, cmpD, ltD, binD, addD, subD, solid, solids, peeks, setTg, setIs, one1_dat, bfD, bLen, isNone, dat, partM, partI, Xe.isNil, Va.tag, goes, Re.closed, resOf, setRes, lstAt, sem_fld, kFld, kFld2, sem_fidx, kFidx, kFidx2, kFidx3, kFidx4, kFidxM, sem_oidx, kOidx, kOidx2, kOidx3, sem_flen, kFlen, kFlen2, sem_fcopy, kFcopy, kFcopy2, sem_sfl, kSfl, kSfl2, sem_popE, kPopE, kPopE2, kPopE3, sem_meth, kMe, kMeM, kMe2, sem_sset, kSset, kSset2, sem_rng1, kRng1, sem_rng2, kRng2, kRng3, sem_mt, kMt, kMt2, kMt3, mtTy, mtD, sem_dget, kDget, kDget2, kDget3, sem_pop, kPop, semS_setf, kSetf, kSetf2, kSetf3, semS_setfs, kSetfs, kSetfs2, kSetfs3, setFs, semS_newB, kNewB, kNewB2, semS_newFR, kNewFR, kNewFRm, kNewFR2, kNewFR3, kNewFO3, kPutO, semS_newFO, kNewFO, kNewFOm, kNewFOm2, semS_appE, kAppE, kAppEm, kAppE2, kAppE3, semS_newC, kNewC, kNewC2, kNewC2m, kNewC3, semS_ext, kExt, kExt2, kExt3, semS_tryA, kTryA, subX, isiX, insOf, setIns, getN, putN, heldV, simV, Re.cls, BC.listOf, closeB, openB, leave, outs, Re.plain, Fv.closed, toD_24, md_up, hm, atT, lim]
  · simp -implicitDefEqProofs [BC.run, toAvs, toAv, apart, b0ok, backOk, backAll, isiV, peek, isiD, tru, peekR, truthD, cmpD, ltD, binD, addD, subD, solid, solids, peeks, setTg, setIs, one1_dat, bfD, bLen, isNone, dat, partM, partI, Xe.isNil, Va.tag, goes, Re.closed, resOf, setRes, lstAt, sem_fld, kFld, kFld2, sem_fidx, kFidx, kFidx2, kFidx3, kFidx4, kFidxM, sem_oidx, kOidx, kOidx2, kOidx3, sem_flen, kFlen, kFlen2, sem_fcopy, kFcopy, kFcopy2, sem_sfl, kSfl, kSfl2, sem_popE, kPopE, kPopE2, kPopE3, sem_meth, kMe, kMeM, kMe2, sem_sset, kSset, kSset2, sem_rng1, kRng1, sem_rng2, kRng2, kRng3, sem_mt, kMt, kMt2, kMt3, mtTy, mtD, sem_dget, kDget, kDget2, kDget3, sem_pop, kPop, semS_setf, kSetf, kSetf2, kSetf3, semS_setfs, kSetfs, kSetfs2, kSetfs3, setFs, semS_newB, kNewB, kNewB2, semS_newFR, kNewFR, kNewFRm, kNewFR2, kNewFR3, kNewFO3, kPutO, semS_newFO, kNewFO, kNewFOm, kNewFOm2, semS_appE, kAppE, kAppEm, kAppE2, kAppE3, semS_newC, kNewC, kNewC2, kNewC2m, kNewC3, semS_ext, kExt, kExt2, kExt3, semS_tryA, kTryA, subX, isiX, insOf, setIns, getN, putN, heldV, simV, Re.cls, BC.listOf, closeB, openB, leave, outs, Re.plain, Fv.closed, toD_24, md_up, md_down, hm, atT, lim]
  · by_cases h : p < t.tp
    · simp -implicitDefEqProofs [BC.run, toAvs, toAv, apart, b0ok, backOk, backAll, isiV, peek, isiD, tru, peekR, truthD, cmpD, ltD, binD, addD, subD, solid, solids, peeks, setTg, setIs, one1_dat, bfD, bLen, isNone, dat, partM, partI, Xe.isNil, Va.tag, goes, Re.closed, resOf, setRes, lstAt, sem_fld, kFld, kFld2, sem_fidx, kFidx, kFidx2, kFidx3, kFidx4, kFidxM, sem_oidx, kOidx, kOidx2, kOidx3, sem_flen, kFlen, kFlen2, sem_fcopy, kFcopy, kFcopy2, sem_sfl, kSfl, kSfl2, sem_popE, kPopE, kPopE2, kPopE3, sem_meth, kMe, kMeM, kMe2, sem_sset, kSset, kSset2, sem_rng1, kRng1, sem_rng2, kRng2, kRng3, sem_mt, kMt, kMt2, kMt3, mtTy, mtD, sem_dget, kDget, kDget2, kDget3, sem_pop, kPop, semS_setf, kSetf, kSetf2, kSetf3, semS_setfs, kSetfs, kSetfs2, kSetfs3, setFs, semS_newB, kNewB, kNewB2, semS_newFR, kNewFR, kNewFRm, kNewFR2, kNewFR3, kNewFO3, kPutO, semS_newFO, kNewFO, kNewFOm, kNewFOm2, semS_appE, kAppE, kAppEm, kAppE2, kAppE3, semS_newC, kNewC, kNewC2, kNewC2m, kNewC3, semS_ext, kExt, kExt2, kExt3, semS_tryA, kTryA, subX, isiX, insOf, setIns, getN, putN, heldV, simV, Re.cls, BC.listOf, closeB, openB, leave, outs, Re.plain, Fv.closed, toD_24, md_up, md_down, hm, atT, h, lim]
    · simp -implicitDefEqProofs [BC.run, toAvs, toAv, apart, b0ok, backOk, backAll, isiV, peek, isiD, tru, peekR, truthD, cmpD, ltD, binD, addD, subD, solid, solids, peeks, setTg, setIs, one1_dat, bfD, bLen, isNone, dat, partM, partI, Xe.isNil, Va.tag, goes, Re.closed, resOf, setRes, lstAt, sem_fld, kFld, kFld2, sem_fidx, kFidx, kFidx2, kFidx3, kFidx4, kFidxM, sem_oidx, kOidx, kOidx2, kOidx3, sem_flen, kFlen, kFlen2, sem_fcopy, kFcopy, kFcopy2, sem_sfl, kSfl, kSfl2, sem_popE, kPopE, kPopE2, kPopE3, sem_meth, kMe, kMeM, kMe2, sem_sset, kSset, kSset2, sem_rng1, kRng1, sem_rng2, kRng2, kRng3, sem_mt, kMt, kMt2, kMt3, mtTy, mtD, sem_dget, kDget, kDget2, kDget3, sem_pop, kPop, semS_setf, kSetf, kSetf2, kSetf3, semS_setfs, kSetfs, kSetfs2, kSetfs3, setFs, semS_newB, kNewB, kNewB2, semS_newFR, kNewFR, kNewFRm, kNewFR2, kNewFR3, kNewFO3, kPutO, semS_newFO, kNewFO, kNewFOm, kNewFOm2, semS_appE, kAppE, kAppEm, kAppE2, kAppE3, semS_newC, kNewC, kNewC2, kNewC2m, kNewC3, semS_ext, kExt, kExt2, kExt3, semS_tryA, kTryA, subX, isiX, insOf, setIns, getN, putN, heldV, simV, Re.cls, BC.listOf, closeB, openB, leave, outs, Re.plain, Fv.closed, toD_24, md_up, md_down, hm, atT, mulD2, h, lim]
end
end BC

/-! PM5: rounds. -/
namespace BC
open PySem
def optD : Option Int → PyData
  | none => .none
  | some i => .int i
def dueOf (ts : List Tm) (acc : List (Option Int)) (t : Tm) : Option Int := match t.src with
  | none => some (t.dv * sizeT t)
  | some j => match acc.getD j none with
    | none => none
    | some a => if (ts[j]?.map (·.once)).getD false then none else some (a * (t.dv * sizeT t))
def dueN (ts : List Tm) : Nat → List (Option Int)
  | 0 => []
  | k + 1 => dueN ts k ++ [match ts[k]? with
    | some t => dueOf ts (dueN ts k) t
    | none => none]
theorem dueN_len (ts : List Tm) : ∀ k, (dueN ts k).length = k
  | 0 => rfl
  | k + 1 => by simp [dueN, dueN_len ts k]
theorem plan_at {ts : List Tm} {j : Nat} {t : Tm} (h : ts[j]? = some t) : idxD (planD ts) (.int (j : Int)) = some t.toD := by
  refine L2.atI_nat ?_
  rw [List.getElem?_map, h]
  rfl
theorem plan_len (ts : List Tm) : bLen [planD ts] = some (.int (ts.length : Int)) := by
  show some (PyData.int ((ts.map Tm.toD).length : Int)) = _
  rw [List.length_map]
theorem opt_at {l : List (Option Int)} {j : Nat} (h : j < l.length) : idxD (.list (l.map optD)) (.int (j : Int)) = some (optD (l.getD j none)) := by
  refine L2.atI_nat ?_
  rw [List.getElem?_map, List.getD_eq_getElem?_getD, List.getElem?_eq_getElem h]
  rfl
theorem eq_both_size (t : Tm) (h : GoodT k t) : mulD (.int t.dv) (.int (sizeT t)) = some (.int (t.dv * sizeT t)) := by
  have := h.dv1
  have := h.dv2
  exact mul_l (by omega) (by omega)
theorem size_lt {k : Nat} {t : Tm} (h : GoodT k t) : 2 ≤ sizeT t ∧ sizeT t ≤ 131070 := by
  have := h.tp1
  have := h.tp2
  unfold sizeT
  split <;> omega
theorem steps_lt {k : Nat} {t : Tm} (h : GoodT k t) : 2 ≤ t.dv * sizeT t ∧ t.dv * sizeT t ≤ 33553920 := by
  have h1 := size_lt h
  have h2 := h.dv1
  have h3 := h.dv2
  refine ⟨?_, ?_⟩
  · calc (2 : Int) ≤ 1 * 2 := by decide
      _ ≤ t.dv * sizeT t := Int.mul_le_mul h2 h1.1 (by decide) (by omega)
  · calc t.dv * sizeT t ≤ 256 * 131070 := Int.mul_le_mul h3 h1.2 (by omega) (by decide)
      _ ≤ 33553920 := by decide
section
variable (X : List Dc) (n : Nat)
theorem rounds_eq {ts : List Tm} (h : GoodP ts) : Ph X (n + 5) 7 [.d (planD ts)] = .ok (.d (.list ((dueN ts ts.length).map optD))) [] := by
  have hlp := look_plan_eq X n (ok4_D h)
  rw [planB_D h, if_pos rfl] at hlp
  have hn := h.n4
  obtain ⟨s', e, o, o1, o2, o3, o4, o5, o6, o7, o8, o9, hs⟩ := for_indR (Φ := Ph X (n + 4)) (gl := gl) R_rounds_0 rfl (s := ⟨[some (.d (planD ts)), some (.c 0), none, none, none, none, none, none, none, none, none, none], [], [.lst []]⟩) (xs := ts) Tm.toD
    (fun k s => ∃ o o1 o2 o3 o4 o5 o6 o7 o8 o9, s = ⟨[some (.d (planD ts)), some (.c 0), o, o1, o2, o3, o4, o5, o6, o7, o8, o9], [], [.lst ((dueN ts k).map optD)]⟩)
    (by simp -implicitDefEqProofs [BC.run, toAvs, toAv, apart, b0ok, backOk, backAll, isiV, peek, isiD, tru, peekR, truthD, cmpD, ltD, binD, addD, subD, solid, solids, peeks, setTg, setIs, one1_dat, bfD, bLen, isNone, dat, partM, partI, Xe.isNil, Va.tag, goes, Re.closed, resOf, setRes, lstAt, sem_fld, kFld, kFld2, sem_fidx, kFidx, kFidx2, kFidx3, kFidx4, kFidxM, sem_oidx, kOidx, kOidx2, kOidx3, sem_flen, kFlen, kFlen2, sem_fcopy, kFcopy, kFcopy2, sem_sfl, kSfl, kSfl2, sem_popE, kPopE, kPopE2, kPopE3, sem_meth, kMe, kMeM, kMe2, sem_sset, kSset, kSset2, sem_rng1, kRng1, sem_rng2, kRng2, kRng3, sem_mt, kMt, kMt2, kMt3, mtTy, mtD, sem_dget, kDget, kDget2, kDget3, sem_pop, kPop, semS_setf, kSetf, kSetf2, kSetf3, semS_setfs, kSetfs, kSetfs2, kSetfs3, setFs, semS_newB, kNewB, kNewB2, semS_newFR, kNewFR, kNewFRm, kNewFR2, kNewFR3, kNewFO3, kPutO, semS_newFO, kNewFO, kNewFOm, kNewFOm2, semS_appE, kAppE, kAppEm, kAppE2, kAppE3, semS_newC, kNewC, kNewC2, kNewC2m, kNewC3, semS_ext, kExt, kExt2, kExt3, semS_tryA, kTryA, subX, isiX, insOf, setIns, getN, putN, heldV, simV, Re.cls, BC.listOf, closeB, openB, leave, outs, Re.plain, Fv.closed, planD]) ⟨_, _, _, _, _, _, _, _, _, _, rfl⟩ fun k hk s ⟨o, o1, o2, o3, o4, o5, o6, o7, o8, o9, hs⟩ => by
      subst hs
      have hk' : ts[k]? = some ts[k] := List.getElem?_eq_getElem hk
      have ht := h.all k _ hk'
      generalize ts[k] = t at *
      have hl : (dueN ts k).length = k := dueN_len ts k
      have hlim : k < lim := by show k < 1000000; omega
      have m1 := eq_both_size t ht
      have hst := steps_lt ht
      have m2 : ∀ a, mulD (.int a) (.int (t.dv * sizeT t)) = some (.int (a * (t.dv * sizeT t))) := fun a => mul_r (by omega) (by omega)
      have esz : ∀ s : Sg, s.ρ[4]? = some (some (.d (.str t.md.str))) → s.ρ[5]? = some (some (.d (.int t.tp))) → sem (Ph X (n + 4)) gl (.ifx (.cmp .eq (.var 4) (.cst (.str "both"))) (.bin .mul (.cst (.int 2)) (.var 5)) (.bin .add (.var 5) (.cst (.int 1)))) s = .ok [.d (.int (sizeT t))] s := by
        intro s e1 e2
        by_cases hb : t.md = .both
        · simp -implicitDefEqProofs [BC.run, toAvs, toAv, apart, b0ok, backOk, backAll, isiV, peek, isiD, tru, peekR, truthD, cmpD, ltD, binD, addD, subD, solid, solids, peeks, setTg, setIs, one1_dat, bfD, bLen, isNone, dat, partM, partI, Xe.isNil, Va.tag, goes, Re.closed, resOf, setRes, lstAt, sem_fld, kFld, kFld2, sem_fidx, kFidx, kFidx2, kFidx3, kFidx4, kFidxM, sem_oidx, kOidx, kOidx2, kOidx3, sem_flen, kFlen, kFlen2, sem_fcopy, kFcopy, kFcopy2, sem_sfl, kSfl, kSfl2, sem_popE, kPopE, kPopE2, kPopE3, sem_meth, kMe, kMeM, kMe2, sem_sset, kSset, kSset2, sem_rng1, kRng1, sem_rng2, kRng2, kRng3, sem_mt, kMt, kMt2, kMt3, mtTy, mtD, sem_dget, kDget, kDget2, kDget3, sem_pop, kPop, semS_setf, kSetf, kSetf2, kSetf3, semS_setfs, kSetfs, kSetfs2, kSetfs3, setFs, semS_newB, kNewB, kNewB2, semS_newFR, kNewFR, kNewFRm, kNewFR2, kNewFR3, kNewFO3, kPutO, semS_newFO, kNewFO, kNewFOm, kNewFOm2, semS_appE, kAppE, kAppEm, kAppE2, kAppE3, semS_newC, kNewC, kNewC2, kNewC2m, kNewC3, semS_ext, kExt, kExt2, kExt3, semS_tryA, kTryA, subX, isiX, insOf, setIns, getN, putN, heldV, simV, Re.cls, BC.listOf, closeB, openB, leave, outs, Re.plain, Fv.closed, e1, e2, md_both, hb, mulD2, sizeT]
        · simp -implicitDefEqProofs [BC.run, toAvs, toAv, apart, b0ok, backOk, backAll, isiV, peek, isiD, tru, peekR, truthD, cmpD, ltD, binD, addD, subD, solid, solids, peeks, setTg, setIs, one1_dat, bfD, bLen, isNone, dat, partM, partI, Xe.isNil, Va.tag, goes, Re.closed, resOf, setRes, lstAt, sem_fld, kFld, kFld2, sem_fidx, kFidx, kFidx2, kFidx3, kFidx4, kFidxM, sem_oidx, kOidx, kOidx2, kOidx3, sem_flen, kFlen, kFlen2, sem_fcopy, kFcopy, kFcopy2, sem_sfl, kSfl, kSfl2, sem_popE, kPopE, kPopE2, kPopE3, sem_meth, kMe, kMeM, kMe2, sem_sset, kSset, kSset2, sem_rng1, kRng1, sem_rng2, kRng2, kRng3, sem_mt, kMt, kMt2, kMt3, mtTy, mtD, sem_dget, kDget, kDget2, kDget3, sem_pop, kPop, semS_setf, kSetf, kSetf2, kSetf3, semS_setfs, kSetfs, kSetfs2, kSetfs3, setFs, semS_newB, kNewB, kNewB2, semS_newFR, kNewFR, kNewFRm, kNewFR2, kNewFR3, kNewFO3, kPutO, semS_newFO, kNewFO, kNewFOm, kNewFOm2, semS_appE, kAppE, kAppEm, kAppE2, kAppE3, semS_newC, kNewC, kNewC2, kNewC2m, kNewC3, semS_ext, kExt, kExt2, kExt3, semS_tryA, kTryA, subX, isiX, insOf, setIns, getN, putN, heldV, simV, Re.cls, BC.listOf, closeB, openB, leave, outs, Re.plain, Fv.closed, e1, e2, md_both, hb, sizeT]
      have ed : dueN ts (k + 1) = dueN ts k ++ [dueOf ts (dueN ts k) t] := by simp only [dueN, hk']
      refine ⟨_, ⟨[some (.d (planD ts)), some (.c 0), some (.d (srcD t.src)), some (.d (.int t.dv)), some (.d (.str t.md.str)), some (.d (.int t.tp)), some (.d (edgeD t.gate)), some (.d (.tuple (t.ms.map .int))), some (.d (edgeD t.ca)), some (.d (.bool t.once)), some (.d (match t.src with
        | none => .int 1
        | some j => optD ((dueN ts k).getD j none))), some (.d (.int (t.dv * sizeT t)))], [], [.lst ((dueN ts (k + 1)).map optD)]⟩, rfl, .inl ?_, _, _, _, _, _, _, _, _, _, _, rfl⟩
      rw [ed]
      unfold B_rounds_0
      cases hsrc : t.src with
      | none =>
        have eb := src_beat none
        simp -implicitDefEqProofs [BC.run, toAvs, toAv, apart, b0ok, backOk, backAll, isiV, peek, isiD, tru, peekR, truthD, cmpD, ltD, binD, addD, subD, solid, solids, peeks, setTg, setIs, one1_dat, bfD, bLen, isNone, dat, partM, partI, Xe.isNil, Va.tag, goes, Re.closed, resOf, setRes, lstAt, sem_fld, kFld, kFld2, sem_fidx, kFidx, kFidx2, kFidx3, kFidx4, kFidxM, sem_oidx, kOidx, kOidx2, kOidx3, sem_flen, kFlen, kFlen2, sem_fcopy, kFcopy, kFcopy2, sem_sfl, kSfl, kSfl2, sem_popE, kPopE, kPopE2, kPopE3, sem_meth, kMe, kMeM, kMe2, sem_sset, kSset, kSset2, sem_rng1, kRng1, sem_rng2, kRng2, kRng3, sem_mt, kMt, kMt2, kMt3, mtTy, mtD, sem_dget, kDget, kDget2, kDget3, sem_pop, kPop, semS_setf, kSetf, kSetf2, kSetf3, semS_setfs, kSetfs, kSetfs2, kSetfs3, setFs, semS_newB, kNewB, kNewB2, semS_newFR, kNewFR, kNewFRm, kNewFR2, kNewFR3, kNewFO3, kPutO, semS_newFO, kNewFO, kNewFOm, kNewFOm2, semS_appE, kAppE, kAppEm, kAppE2, kAppE3, semS_newC, kNewC, kNewC2, kNewC2m, kNewC3, semS_ext, kExt, kExt2, kExt3, semS_tryA, kTryA, subX, isiX, insOf, setIns, getN, putN, heldV, simV, Re.cls, BC.listOf, closeB, openB, leave, outs, Re.plain, Fv.closed, eb, esz, m1, m2, hl, hlim, dueOf, hsrc, optD]
      | some j =>
        have eb := src_beat (some j)
        have hj := ht.src j hsrc
        have ej : ts[j]? = some ts[j] := List.getElem?_eq_getElem (by omega)
        have ea := opt_at (l := dueN ts k) (j := j) (by omega)
        have ep := plan_at ej
        have es : srcD (some j) = .int (j : Int) := rfl
        cases hd : (dueN ts k).getD j none with
        | none =>
          rw [hd] at ea
          rw [es] at eb
          simp -implicitDefEqProofs [BC.run, toAvs, toAv, apart, b0ok, backOk, backAll, isiV, peek, isiD, tru, peekR, truthD, cmpD, ltD, binD, addD, subD, solid, solids, peeks, setTg, setIs, one1_dat, bfD, bLen, isNone, dat, partM, partI, Xe.isNil, Va.tag, goes, Re.closed, resOf, setRes, lstAt, sem_fld, kFld, kFld2, sem_fidx, kFidx, kFidx2, kFidx3, kFidx4, kFidxM, sem_oidx, kOidx, kOidx2, kOidx3, sem_flen, kFlen, kFlen2, sem_fcopy, kFcopy, kFcopy2, sem_sfl, kSfl, kSfl2, sem_popE, kPopE, kPopE2, kPopE3, sem_meth, kMe, kMeM, kMe2, sem_sset, kSset, kSset2, sem_rng1, kRng1, sem_rng2, kRng2, kRng3, sem_mt, kMt, kMt2, kMt3, mtTy, mtD, sem_dget, kDget, kDget2, kDget3, sem_pop, kPop, semS_setf, kSetf, kSetf2, kSetf3, semS_setfs, kSetfs, kSetfs2, kSetfs3, setFs, semS_newB, kNewB, kNewB2, semS_newFR, kNewFR, kNewFRm, kNewFR2, kNewFR3, kNewFO3, kPutO, semS_newFO, kNewFO, kNewFOm, kNewFOm2, semS_appE, kAppE, kAppEm, kAppE2, kAppE3, semS_newC, kNewC, kNewC2, kNewC2m, kNewC3, semS_ext, kExt, kExt2, kExt3, semS_tryA, kTryA, subX, isiX, insOf, setIns, getN, putN, heldV, simV, Re.cls, BC.listOf, closeB, openB, leave, outs, Re.plain, Fv.closed, eb, esz, m1, m2, hl, hlim, dueOf, hsrc, optD, ea, hd, es, -List.getD_eq_getElem?_getD]
        | some a =>
          rw [hd] at ea
          rw [es] at eb
          cases ho : ts[j].once with
          | true => simp -implicitDefEqProofs [BC.run, toAvs, toAv, apart, b0ok, backOk, backAll, isiV, peek, isiD, tru, peekR, truthD, cmpD, ltD, binD, addD, subD, solid, solids, peeks, setTg, setIs, one1_dat, bfD, bLen, isNone, dat, partM, partI, Xe.isNil, Va.tag, goes, Re.closed, resOf, setRes, lstAt, sem_fld, kFld, kFld2, sem_fidx, kFidx, kFidx2, kFidx3, kFidx4, kFidxM, sem_oidx, kOidx, kOidx2, kOidx3, sem_flen, kFlen, kFlen2, sem_fcopy, kFcopy, kFcopy2, sem_sfl, kSfl, kSfl2, sem_popE, kPopE, kPopE2, kPopE3, sem_meth, kMe, kMeM, kMe2, sem_sset, kSset, kSset2, sem_rng1, kRng1, sem_rng2, kRng2, kRng3, sem_mt, kMt, kMt2, kMt3, mtTy, mtD, sem_dget, kDget, kDget2, kDget3, sem_pop, kPop, semS_setf, kSetf, kSetf2, kSetf3, semS_setfs, kSetfs, kSetfs2, kSetfs3, setFs, semS_newB, kNewB, kNewB2, semS_newFR, kNewFR, kNewFRm, kNewFR2, kNewFR3, kNewFO3, kPutO, semS_newFO, kNewFO, kNewFOm, kNewFOm2, semS_appE, kAppE, kAppEm, kAppE2, kAppE3, semS_newC, kNewC, kNewC2, kNewC2m, kNewC3, semS_ext, kExt, kExt2, kExt3, semS_tryA, kTryA, subX, isiX, insOf, setIns, getN, putN, heldV, simV, Re.cls, BC.listOf, closeB, openB, leave, outs, Re.plain, Fv.closed, eb, esz, m1, m2, hl, hlim, dueOf, hsrc, optD, ea, hd, es, ep, toD_7, ho, ej, -List.getD_eq_getElem?_getD, -List.getElem?_eq_getElem]
          | false => simp -implicitDefEqProofs [BC.run, toAvs, toAv, apart, b0ok, backOk, backAll, isiV, peek, isiD, tru, peekR, truthD, cmpD, ltD, binD, addD, subD, solid, solids, peeks, setTg, setIs, one1_dat, bfD, bLen, isNone, dat, partM, partI, Xe.isNil, Va.tag, goes, Re.closed, resOf, setRes, lstAt, sem_fld, kFld, kFld2, sem_fidx, kFidx, kFidx2, kFidx3, kFidx4, kFidxM, sem_oidx, kOidx, kOidx2, kOidx3, sem_flen, kFlen, kFlen2, sem_fcopy, kFcopy, kFcopy2, sem_sfl, kSfl, kSfl2, sem_popE, kPopE, kPopE2, kPopE3, sem_meth, kMe, kMeM, kMe2, sem_sset, kSset, kSset2, sem_rng1, kRng1, sem_rng2, kRng2, kRng3, sem_mt, kMt, kMt2, kMt3, mtTy, mtD, sem_dget, kDget, kDget2, kDget3, sem_pop, kPop, semS_setf, kSetf, kSetf2, kSetf3, semS_setfs, kSetfs, kSetfs2, kSetfs3, setFs, semS_newB, kNewB, kNewB2, semS_newFR, kNewFR, kNewFRm, kNewFR2, kNewFR3, kNewFO3, kPutO, semS_newFO, kNewFO, kNewFOm, kNewFOm2, semS_appE, kAppE, kAppEm, kAppE2, kAppE3, semS_newC, kNewC, kNewC2, kNewC2m, kNewC3, semS_ext, kExt, kExt2, kExt3, semS_tryA, kTryA, subX, isiX, insOf, setIns, getN, putN, heldV, simV, Re.cls, BC.listOf, closeB, openB, leave, outs, Re.plain, Fv.closed, eb, esz, m1, m2, hl, hlim, dueOf, hsrc, optD, ea, hd, es, ep, toD_7, ho, ej, -List.getD_eq_getElem?_getD, -List.getElem?_eq_getElem]
  rw [eq_rounds]
  simp only [defF, C_rounds, enter, enter.enterW]
  simp -implicitDefEqProofs [BC.run, toAvs, toAv, apart, b0ok, backOk, backAll, isiV, peek, isiD, tru, peekR, truthD, cmpD, ltD, binD, addD, subD, solid, solids, peeks, setTg, setIs, one1_dat, bfD, bLen, isNone, dat, partM, partI, Xe.isNil, Va.tag, goes, Re.closed, resOf, setRes, lstAt, sem_fld, kFld, kFld2, sem_fidx, kFidx, kFidx2, kFidx3, kFidx4, kFidxM, sem_oidx, kOidx, kOidx2, kOidx3, sem_flen, kFlen, kFlen2, sem_fcopy, kFcopy, kFcopy2, sem_sfl, kSfl, kSfl2, sem_popE, kPopE, kPopE2, kPopE3, sem_meth, kMe, kMeM, kMe2, sem_sset, kSset, kSset2, sem_rng1, kRng1, sem_rng2, kRng2, kRng3, sem_mt, kMt, kMt2, kMt3, mtTy, mtD, sem_dget, kDget, kDget2, kDget3, sem_pop, kPop, semS_setf, kSetf, kSetf2, kSetf3, semS_setfs, kSetfs, kSetfs2, kSetfs3, setFs, semS_newB, kNewB, kNewB2, semS_newFR, kNewFR, kNewFRm, kNewFR2, kNewFR3, kNewFO3, kPutO, semS_newFO, kNewFO, kNewFOm, kNewFOm2, semS_appE, kAppE, kAppEm, kAppE2, kAppE3, semS_newC, kNewC, kNewC2, kNewC2m, kNewC3, semS_ext, kExt, kExt2, kExt3, semS_tryA, kTryA, subX, isiX, insOf, setIns, getN, putN, heldV, simV, Re.cls, BC.listOf, closeB, openB, leave, outs, Re.plain, Fv.closed, hlp, e, hs]
end
end BC

/-! PM6: a timer, a chip, made anew. -/
namespace BC
open PySem
/-- where a timer stands -/
structure Ts where
  place : Int
  part : Int
  turns : Int
  caught : Option Int
  stands : Bool
def tIns (t : Tm) (s : Ts) : Re := .ins 0 [(0, .v (.d t.toD)), (1, .v (.d (.int (sizeT t)))), (2, .v (.d (.int s.place))), (3, .v (.d (.int s.part))), (4, .v (.d (.int s.turns))), (5, .v (.d (optD s.caught))), (6, .v (.d (.bool s.stands)))]
def Ts.new : Ts := ⟨0, 0, 0, none, false⟩
def chipIns (ts : List Tm) (lines : List Bool) (beats : Int) : Re := .ins 1 [(0, .v (.d (planD ts))), (7, .fl ((List.range ts.length).map fun k => .b (k + 1))), (8, .ol (lines.map .bool)), (9, .v (.d (.int beats))), (10, .v (.b (ts.length + 1)))]
def timersRe (ts : List Tm) (ss : List Ts) : List Re := List.zipWith tIns ts ss
def chipRe (ts : List Tm) (ss : List Ts) (lines : List Bool) (beats : Int) (past : List PyData) : Re := .box (chipIns ts lines beats :: (timersRe ts ss ++ [.lst past]))
theorem place_new (t : Tm) : placeT t (begunT t).1 (begunT t).2 = 0 := by
  unfold placeT begunT
  cases t.md <;> simp
theorem makeF_ok {c : Nat} {φ : Fn} {as : List Av} {r : Re} {os : List Re} (h : φ (.r (.ins c []) :: as) = .ok (.d .none) (r :: os)) : makeF c φ as = .ok (.r r) os := by
  show (match φ (.r (.ins c []) :: as) with
    | .ok (.d .none) (r :: os) => Fr.ok (.r r) os
    | .err e (_ :: os) => Fr.err e os
    | _ => Fr.stuck) = _
  rw [h]
theorem makeF_err {c : Nat} {φ : Fn} {as : List Av} {r : Re} {os : List Re} {e : Nat} (h : φ (.r (.ins c []) :: as) = .err e (r :: os)) : makeF c φ as = .err e os := by
  show (match φ (.r (.ins c []) :: as) with
    | .ok (.d .none) (r :: os) => Fr.ok (.r r) os
    | .err e (_ :: os) => Fr.err e os
    | _ => Fr.stuck) = _
  rw [h]
/-- a comprehension that makes objects -/
theorem compM_new {Φ : Tbl} {gl : Nat → PyData} {src elt : Xe} {i : Nat} {s : Sg} {α : Type} {xs : List α} (φ : α → PyData) (ob : α → Re) (hs : sem Φ gl src s = .ok (xs.map fun a => .d (φ a)) s) (hl : xs.length ≤ lim)
    (ht : ∀ x ∈ xs, ∀ B, sem Φ gl elt ⟨s.ρ.set i (some (.d (φ x))), B, s.W⟩ = .ok [.b B.length] ⟨s.ρ.set i (some (.d (φ x))), B ++ [ob x], s.W⟩) :
    compM (sem Φ gl src) [i] [i] (fun t => .ok true t) (sem Φ gl elt) s = .ok ((List.range xs.length).map fun k => .b (s.B.length + k)) { s with B := s.B ++ xs.map ob } := by
  rw [compM_eq, hs, bind_ok]
  obtain ⟨vs, s', e, hI⟩ := compL_ind (fun k acc t => acc = ((List.range k).map fun k => Va.b (s.B.length + k)) ∧ t.B = s.B ++ (xs.take k).map ob ∧ t.W = s.W) (f := stepC [i] [i] (fun t => .ok true t) (sem Φ gl elt) s.ρ) (xs.map fun a => .d (φ a)) 0 [] s ⟨rfl, by simp, rfl⟩ (fun k acc t hk ⟨h1, h2, h3⟩ => by
    rw [Nat.zero_add] at h1 h2 ⊢
    have hk' : k < xs.length := by simpa using hk
    have et := ht xs[k] (List.getElem_mem hk') t.B
    rw [← h3] at et
    have ei : (xs.map fun a => Va.d (φ a))[k] = .d (φ xs[k]) := by simp
    have tk : xs.take (k + 1) = xs.take k ++ [xs[k]] := by rw [List.take_succ, List.getElem?_eq_getElem hk']; rfl
    refine ⟨by rw [h1]; simp; omega, some (.b t.B.length), ⟨s.ρ.set i (some (.d (φ xs[k]))), t.B ++ [ob xs[k]], t.W⟩, ?_, ?_, ?_, h3⟩
    · rw [ei, stepC_eq (t1 := ⟨s.ρ.set i (some (.d (φ xs[k]))), t.B, t.W⟩) (t2 := ⟨s.ρ.set i (some (.d (φ xs[k]))), t.B, t.W⟩) (b := true) (by show some _ = some _; rw [set_set_none]) rfl]
      rw [if_pos rfl, et]
      rfl
    · rw [h1, h2, List.range_succ]
      simp
      omega
    · rw [h2, tk, List.map_append, List.append_assoc]
      rfl)
  rw [e, bind_ok]
  obtain ⟨h1, h2, h3⟩ := hI
  obtain ⟨r, b, w⟩ := s'
  simp only [List.length_map, Nat.zero_add] at h1 h2
  rw [List.take_length] at h2
  dsimp only at h2 h3
  rw [h1, h2, h3]
section
variable (X : List Dc) (n : Nat)
theorem timer_init_eq (t : Tm) : Ph X (n + 2) 13 [.r (.ins 0 []), .d t.toD] = .ok (.d .none) [tIns t .new] := by
  have e1 := round_of_eq X n t
  have e2 := begun_eq X n t
  have e3 := place_of_eq X n t (begunT t).1 (begunT t).2
  rw [place_new] at e3
  have ei : ∀ t : Tm, ∃ l, t.toD = .tuple l := fun t => ⟨_, rfl⟩
  rw [eq_Timer_init]
  simp only [defF, C_Timer_init, enter, enter.enterW]
  simp -implicitDefEqProofs [BC.run, toAvs, toAv, apart, b0ok, backOk, backAll, isiV, peek, isiD, tru, peekR, truthD, cmpD, ltD, binD, addD, subD, solid, solids, peeks, setTg, setIs, one1_dat, bfD, bLen, isNone, dat, partM, partI, Xe.isNil, Va.tag, goes, Re.closed, resOf, setRes, lstAt, sem_fld, kFld, kFld2, sem_fidx, kFidx, kFidx2, kFidx3, kFidx4, kFidxM, sem_oidx, kOidx, kOidx2, kOidx3, sem_flen, kFlen, kFlen2, sem_fcopy, kFcopy, kFcopy2, sem_sfl, kSfl, kSfl2, sem_popE, kPopE, kPopE2, kPopE3, sem_meth, kMe, kMeM, kMe2, sem_sset, kSset, kSset2, sem_rng1, kRng1, sem_rng2, kRng2, kRng3, sem_mt, kMt, kMt2, kMt3, mtTy, mtD, sem_dget, kDget, kDget2, kDget3, sem_pop, kPop, semS_setf, kSetf, kSetf2, kSetf3, semS_setfs, kSetfs, kSetfs2, kSetfs3, setFs, semS_newB, kNewB, kNewB2, semS_newFR, kNewFR, kNewFRm, kNewFR2, kNewFR3, kNewFO3, kPutO, semS_newFO, kNewFO, kNewFOm, kNewFOm2, semS_appE, kAppE, kAppEm, kAppE2, kAppE3, semS_newC, kNewC, kNewC2, kNewC2m, kNewC3, semS_ext, kExt, kExt2, kExt3, semS_tryA, kTryA, subX, isiX, insOf, setIns, getN, putN, heldV, simV, Re.cls, BC.listOf, closeB, openB, leave, outs, Re.plain, Fv.closed, boxed, e1, e2, e3, tIns, Ts.new, optD]
theorem timer_make_eq (t : Tm) : Ph X (n + 3) 18 [.d t.toD] = .ok (.r (tIns t .new)) [] := by
  rw [eq_Timer]
  exact makeF_ok (timer_init_eq X n t)
theorem timers_new : ∀ ts : List Tm, List.map (fun t => tIns t Ts.new) ts = timersRe ts (ts.map fun _ => .new)
  | [] => rfl
  | t :: r => by
    show _ :: _ = _ :: _
    rw [timers_new r]
    rfl
theorem timersRe_len {ts : List Tm} {ss : List Ts} (h : ss.length = ts.length) : (timersRe ts ss).length = ts.length := by
  unfold timersRe
  rw [List.length_zipWith, h, Nat.min_self]
theorem outs_box {n : Nat} {ρ : List (Option Va)} {r x : Re} {l W : List Re} (h : n ≤ W.length) : outs true n ⟨ρ, r :: (l ++ [x]), W⟩ = some (.box (r :: (l ++ [x])) :: W.take n) := by
  unfold outs
  rw [if_pos h, if_pos rfl]
  cases l <;> rfl
theorem planD_D {ts : List Tm} : solid s (.d (planD ts)) = some (planD ts) := rfl
theorem chip_init_ok {ts : List Tm} (h : GoodP ts) : Ph X (n + 5) 19 [.r (.ins 1 []), .d (planD ts)] = .ok (.d .none) [chipRe ts (ts.map fun _ => .new) [false, false, false, false] 0 []] := by
  have hlp := look_plan_eq X n (ok4_D h)
  rw [planB_D h, if_pos rfl] at hlp
  have hn := h.n4
  have hc := compM_new (Φ := Ph X (n + 4)) (gl := gl) (src := .sseq (.var 1)) (elt := .call 18 1 (.cons (.var 2) .nil)) (i := 2) (s := ⟨[some (.b 0), some (.d (planD ts)), none], [.ins 1 [(0, .v (.d (planD ts)))]], []⟩) (xs := ts) Tm.toD (fun t => tIns t .new)
    (by simp -implicitDefEqProofs [BC.run, toAvs, toAv, apart, b0ok, backOk, backAll, isiV, peek, isiD, tru, peekR, truthD, cmpD, ltD, binD, addD, subD, solid, solids, peeks, setTg, setIs, one1_dat, bfD, bLen, isNone, dat, partM, partI, Xe.isNil, Va.tag, goes, Re.closed, resOf, setRes, lstAt, sem_fld, kFld, kFld2, sem_fidx, kFidx, kFidx2, kFidx3, kFidx4, kFidxM, sem_oidx, kOidx, kOidx2, kOidx3, sem_flen, kFlen, kFlen2, sem_fcopy, kFcopy, kFcopy2, sem_sfl, kSfl, kSfl2, sem_popE, kPopE, kPopE2, kPopE3, sem_meth, kMe, kMeM, kMe2, sem_sset, kSset, kSset2, sem_rng1, kRng1, sem_rng2, kRng2, kRng3, sem_mt, kMt, kMt2, kMt3, mtTy, mtD, sem_dget, kDget, kDget2, kDget3, sem_pop, kPop, semS_setf, kSetf, kSetf2, kSetf3, semS_setfs, kSetfs, kSetfs2, kSetfs3, setFs, semS_newB, kNewB, kNewB2, semS_newFR, kNewFR, kNewFRm, kNewFR2, kNewFR3, kNewFO3, kPutO, semS_newFO, kNewFO, kNewFOm, kNewFOm2, semS_appE, kAppE, kAppEm, kAppE2, kAppE3, semS_newC, kNewC, kNewC2, kNewC2m, kNewC3, semS_ext, kExt, kExt2, kExt3, semS_tryA, kTryA, subX, isiX, insOf, setIns, getN, putN, heldV, simV, Re.cls, BC.listOf, closeB, openB, leave, outs, Re.plain, Fv.closed, planD]) (by show _ ≤ 1000000; omega) (fun t ht B => by
      have e := timer_make_eq X (n + 1) t
      simp -implicitDefEqProofs [BC.run, toAvs, toAv, apart, b0ok, backOk, backAll, isiV, peek, isiD, tru, peekR, truthD, cmpD, ltD, binD, addD, subD, solid, solids, peeks, setTg, setIs, one1_dat, bfD, bLen, isNone, dat, partM, partI, Xe.isNil, Va.tag, goes, Re.closed, resOf, setRes, lstAt, sem_fld, kFld, kFld2, sem_fidx, kFidx, kFidx2, kFidx3, kFidx4, kFidxM, sem_oidx, kOidx, kOidx2, kOidx3, sem_flen, kFlen, kFlen2, sem_fcopy, kFcopy, kFcopy2, sem_sfl, kSfl, kSfl2, sem_popE, kPopE, kPopE2, kPopE3, sem_meth, kMe, kMeM, kMe2, sem_sset, kSset, kSset2, sem_rng1, kRng1, sem_rng2, kRng2, kRng3, sem_mt, kMt, kMt2, kMt3, mtTy, mtD, sem_dget, kDget, kDget2, kDget3, sem_pop, kPop, semS_setf, kSetf, kSetf2, kSetf3, semS_setfs, kSetfs, kSetfs2, kSetfs3, setFs, semS_newB, kNewB, kNewB2, semS_newFR, kNewFR, kNewFRm, kNewFR2, kNewFR3, kNewFO3, kPutO, semS_newFO, kNewFO, kNewFOm, kNewFOm2, semS_appE, kAppE, kAppEm, kAppE2, kAppE3, semS_newC, kNewC, kNewC2, kNewC2m, kNewC3, semS_ext, kExt, kExt2, kExt3, semS_tryA, kTryA, subX, isiX, insOf, setIns, getN, putN, heldV, simV, Re.cls, BC.listOf, closeB, openB, leave, outs, Re.plain, Fv.closed, e, tIns])
  have em : mulD (.list [.bool false]) (.int 4) = some (.list [.bool false, .bool false, .bool false, .bool false]) := by
    simp only [mulD]
    rw [if_pos (by decide)]
    rfl
  have hz := timers_new ts
  have hzl := timersRe_len (ts := ts) (ss := ts.map fun _ => .new) (by simp)
  have hk : ((List.range ts.length).map fun k => Va.b (1 + k)) = (List.range ts.length).map fun k => Va.b (k + 1) := by
    congr 1
    funext k
    rw [Nat.add_comm]
  have hfc : ∀ Φ gl o f src tg own elt s, semS Φ gl (.newFC o f src tg own elt) s = (compM (sem Φ gl src) tg own (fun t => .ok true t) (sem Φ gl elt) s).bind fun vs s => if vs.all Va.isB then one1 (sem Φ gl o s) fun x s => match insOf s x with
    | some (c, m) => .ok .next (setIns s x c (putN f (.fl vs) m))
    | _ => .stuck else .stuck := fun _ _ _ _ _ _ _ _ _ => rfl
  rw [eq_Chip_init]
  simp only [defF, C_Chip_init, enter, enter.enterW]
  simp -implicitDefEqProofs [BC.run, toAvs, toAv, apart, b0ok, backOk, backAll, isiV, peek, isiD, tru, peekR, truthD, cmpD, ltD, binD, addD, subD, solid, solids, peeks, setTg, setIs, one1_dat, bfD, bLen, isNone, dat, partM, partI, Xe.isNil, Va.tag, goes, Re.closed, resOf, setRes, lstAt, sem_fld, kFld, kFld2, sem_fidx, kFidx, kFidx2, kFidx3, kFidx4, kFidxM, sem_oidx, kOidx, kOidx2, kOidx3, sem_flen, kFlen, kFlen2, sem_fcopy, kFcopy, kFcopy2, sem_sfl, kSfl, kSfl2, sem_popE, kPopE, kPopE2, kPopE3, sem_meth, kMe, kMeM, kMe2, sem_sset, kSset, kSset2, sem_rng1, kRng1, sem_rng2, kRng2, kRng3, sem_mt, kMt, kMt2, kMt3, mtTy, mtD, sem_dget, kDget, kDget2, kDget3, sem_pop, kPop, semS_setf, kSetf, kSetf2, kSetf3, semS_setfs, kSetfs, kSetfs2, kSetfs3, setFs, semS_newB, kNewB, kNewB2, semS_newFR, kNewFR, kNewFRm, kNewFR2, kNewFR3, kNewFO3, kPutO, semS_newFO, kNewFO, kNewFOm, kNewFOm2, semS_appE, kAppE, kAppEm, kAppE2, kAppE3, semS_newC, kNewC, kNewC2, kNewC2m, kNewC3, semS_ext, kExt, kExt2, kExt3, semS_tryA, kTryA, subX, isiX, insOf, setIns, getN, putN, heldV, simV, Re.cls, BC.listOf, closeB, openB, leave, outs, Re.plain, Fv.closed, boxed, hlp, hfc, hc, em, hz, hk, chipRe, chipIns, Va.isB, -outs, outs_box, hzl]
theorem chip_make_ok {ts : List Tm} (h : GoodP ts) : Ph X (n + 6) 39 [.d (planD ts)] = .ok (.r (chipRe ts (ts.map fun _ => .new) [false, false, false, false] 0 [])) [] := by
  rw [eq_Chip]
  exact makeF_ok (chip_init_ok X n h)
theorem chip_make_err {p : PyData} (h : Ok4 p) (hb : planB p = false) : Ph X (n + 6) 39 [.d p] = .err 1 [] := by
  have hlp := look_plan_eq X n h
  rw [hb, if_neg (by decide)] at hlp
  rw [eq_Chip]
  refine makeF_err (r := .ins 1 []) ?_
  rw [eq_Chip_init]
  simp only [defF, C_Chip_init, enter, enter.enterW]
  simp -implicitDefEqProofs [BC.run, toAvs, toAv, apart, b0ok, backOk, backAll, isiV, peek, isiD, tru, peekR, truthD, cmpD, ltD, binD, addD, subD, solid, solids, peeks, setTg, setIs, one1_dat, bfD, bLen, isNone, dat, partM, partI, Xe.isNil, Va.tag, goes, Re.closed, resOf, setRes, lstAt, sem_fld, kFld, kFld2, sem_fidx, kFidx, kFidx2, kFidx3, kFidx4, kFidxM, sem_oidx, kOidx, kOidx2, kOidx3, sem_flen, kFlen, kFlen2, sem_fcopy, kFcopy, kFcopy2, sem_sfl, kSfl, kSfl2, sem_popE, kPopE, kPopE2, kPopE3, sem_meth, kMe, kMeM, kMe2, sem_sset, kSset, kSset2, sem_rng1, kRng1, sem_rng2, kRng2, kRng3, sem_mt, kMt, kMt2, kMt3, mtTy, mtD, sem_dget, kDget, kDget2, kDget3, sem_pop, kPop, semS_setf, kSetf, kSetf2, kSetf3, semS_setfs, kSetfs, kSetfs2, kSetfs3, setFs, semS_newB, kNewB, kNewB2, semS_newFR, kNewFR, kNewFRm, kNewFR2, kNewFR3, kNewFO3, kPutO, semS_newFO, kNewFO, kNewFOm, kNewFOm2, semS_appE, kAppE, kAppEm, kAppE2, kAppE3, semS_newC, kNewC, kNewC2, kNewC2m, kNewC3, semS_ext, kExt, kExt2, kExt3, semS_tryA, kTryA, subX, isiX, insOf, setIns, getN, putN, heldV, simV, Re.cls, BC.listOf, closeB, openB, leave, outs, Re.plain, Fv.closed, boxed, hlp]
end
end BC

/-! PL1: draws, picks, edges, timers, plans that a law makes. -/
namespace BC
open PySem
def nth (rs : List Int) (i : Nat) : Int := rs.getD i 0
theorem at_int {rs : List Int} {i : Nat} (h : i < rs.length) : idxD (.list (rs.map PyData.int)) (.int (i : Int)) = some (.int (nth rs i)) := by
  refine L2.atI_nat ?_
  unfold nth
  rw [List.getElem?_map, List.getElem?_eq_getElem h, List.getD_eq_getElem?_getD, List.getElem?_eq_getElem h]
  rfl
theorem at_int' {rs : List Int} {i : Nat} {j : Int} (e : j = (i : Int)) (h : i < rs.length) : idxD (.list (rs.map PyData.int)) (.int j) = some (.int (nth rs i)) := by rw [e]; exact at_int h
section
variable (X : List Dc) (n : Nat)
theorem cell_ok (ns : List Int) (k : Int) : ∃ c : Int, Ph X (n + 1) 84 [.s ns, .d (.int k)] = .ok (.d (.int c)) [] := by
  rw [eq_law_cell]
  cases ns with
  | nil =>
    refine ⟨0, ?_⟩
    simp only [defF, C_law_cell, enter, enter.enterW]
    simp -implicitDefEqProofs [BC.run, toAvs, toAv, apart, b0ok, backOk, backAll, isiV, peek, isiD, tru, peekR, truthD, cmpD, ltD, binD, addD, subD, solid, solids, peeks, setTg, setIs, one1_dat, bfD, bLen, isNone, dat, partM, partI, Xe.isNil, Va.tag, goes, Re.closed, resOf, setRes, lstAt, sem_fld, kFld, kFld2, sem_fidx, kFidx, kFidx2, kFidx3, kFidx4, kFidxM, sem_oidx, kOidx, kOidx2, kOidx3, sem_flen, kFlen, kFlen2, sem_fcopy, kFcopy, kFcopy2, sem_sfl, kSfl, kSfl2, sem_popE, kPopE, kPopE2, kPopE3, sem_meth, kMe, kMeM, kMe2, sem_sset, kSset, kSset2, sem_rng1, kRng1, sem_rng2, kRng2, kRng3, sem_mt, kMt, kMt2, kMt3, mtTy, mtD, sem_dget, kDget, kDget2, kDget3, sem_pop, kPop, semS_setf, kSetf, kSetf2, kSetf3, semS_setfs, kSetfs, kSetfs2, kSetfs3, setFs, semS_newB, kNewB, kNewB2, semS_newFR, kNewFR, kNewFRm, kNewFR2, kNewFR3, kNewFO3, kPutO, semS_newFO, kNewFO, kNewFOm, kNewFOm2, semS_appE, kAppE, kAppEm, kAppE2, kAppE3, semS_newC, kNewC, kNewC2, kNewC2m, kNewC3, semS_ext, kExt, kExt2, kExt3, semS_tryA, kTryA, subX, isiX, insOf, setIns, getN, putN, heldV, simV, Re.cls, BC.listOf, closeB, openB, leave, outs, Re.plain, Fv.closed]
  | cons a r =>
    have hl : (0 : Int) < (r.length : Int) + 1 := by omega
    have h1 := Int.emod_nonneg k (show (r.length : Int) + 1 ≠ 0 by omega)
    have h2 := Int.emod_lt_of_pos k hl
    have e := at_int' (rs := a :: r) (i := (k % ((r.length : Int) + 1)).toNat) (j := k % ((r.length : Int) + 1)) (by omega) (by simp; omega)
    simp only [List.map_cons] at e
    refine ⟨nth (a :: r) (k % ((r.length : Int) + 1)).toNat, ?_⟩
    simp only [defF, C_law_cell, enter, enter.enterW]
    simp -implicitDefEqProofs [BC.run, toAvs, toAv, apart, b0ok, backOk, backAll, isiV, peek, isiD, tru, peekR, truthD, cmpD, ltD, binD, addD, subD, solid, solids, peeks, setTg, setIs, one1_dat, bfD, bLen, isNone, dat, partM, partI, Xe.isNil, Va.tag, goes, Re.closed, resOf, setRes, lstAt, sem_fld, kFld, kFld2, sem_fidx, kFidx, kFidx2, kFidx3, kFidx4, kFidxM, sem_oidx, kOidx, kOidx2, kOidx3, sem_flen, kFlen, kFlen2, sem_fcopy, kFcopy, kFcopy2, sem_sfl, kSfl, kSfl2, sem_popE, kPopE, kPopE2, kPopE3, sem_meth, kMe, kMeM, kMe2, sem_sset, kSset, kSset2, sem_rng1, kRng1, sem_rng2, kRng2, kRng3, sem_mt, kMt, kMt2, kMt3, mtTy, mtD, sem_dget, kDget, kDget2, kDget3, sem_pop, kPop, semS_setf, kSetf, kSetf2, kSetf3, semS_setfs, kSetfs, kSetfs2, kSetfs3, setFs, semS_newB, kNewB, kNewB2, semS_newFR, kNewFR, kNewFRm, kNewFR2, kNewFR3, kNewFO3, kPutO, semS_newFO, kNewFO, kNewFOm, kNewFOm2, semS_appE, kAppE, kAppEm, kAppE2, kAppE3, semS_newC, kNewC, kNewC2, kNewC2m, kNewC3, semS_ext, kExt, kExt2, kExt3, semS_tryA, kTryA, subX, isiX, insOf, setIns, getN, putN, heldV, simV, Re.cls, BC.listOf, closeB, openB, leave, outs, Re.plain, Fv.closed, modD, hl, e]
theorem mix_ok (ns : List Int) (k : Int) : ∃ c : Int, 0 ≤ c ∧ Ph X (n + 2) 85 [.s ns, .d (.int k)] = .ok (.d (.int c)) [] := by
  obtain ⟨c, hc⟩ := cell_ok X n ns k
  have m1 : mulD (.int 104729) (.int (k + 1)) = some (.int (104729 * (k + 1))) := mul_l (by omega) (by omega)
  have h1 := Int.emod_nonneg (c + 104729 * (k + 1)) (show (4294967291 : Int) ≠ 0 by decide)
  have h2 := Int.emod_lt_of_pos (c + 104729 * (k + 1)) (show (0 : Int) < 4294967291 by decide)
  have p : powD (.int ((c + 104729 * (k + 1)) % 4294967291)) (.int 5) = some (.int (((c + 104729 * (k + 1)) % 4294967291) ^ 5)) := by
    show (if _ then _ else _) = _
    rw [if_pos ⟨by decide, by decide, by unfold big; omega, by unfold big; omega⟩]
    rfl
  have d : ∀ a, divD (.int a) (.int 64) = some (.int (a / 64)) := fun a => div_ok (by decide) (by decide)
  have m2 : ∀ a, mulD (.int a) (.int 69621) = some (.int (a * 69621)) := fun a => mul_r (by decide) (by decide)
  refine ⟨_, Int.emod_nonneg ((((c + 104729 * (k + 1)) % 4294967291) ^ 5 % 4294967279 / 64) * 69621 + ((c + 104729 * (k + 1)) % 4294967291) ^ 5 % 4294967279) (show (4294967231 : Int) ≠ 0 by decide), ?_⟩
  rw [eq_law_mix]
  simp only [defF, C_law_mix, enter, enter.enterW]
  simp -implicitDefEqProofs [BC.run, toAvs, toAv, apart, b0ok, backOk, backAll, isiV, peek, isiD, tru, peekR, truthD, cmpD, ltD, binD, addD, subD, solid, solids, peeks, setTg, setIs, one1_dat, bfD, bLen, isNone, dat, partM, partI, Xe.isNil, Va.tag, goes, Re.closed, resOf, setRes, lstAt, sem_fld, kFld, kFld2, sem_fidx, kFidx, kFidx2, kFidx3, kFidx4, kFidxM, sem_oidx, kOidx, kOidx2, kOidx3, sem_flen, kFlen, kFlen2, sem_fcopy, kFcopy, kFcopy2, sem_sfl, kSfl, kSfl2, sem_popE, kPopE, kPopE2, kPopE3, sem_meth, kMe, kMeM, kMe2, sem_sset, kSset, kSset2, sem_rng1, kRng1, sem_rng2, kRng2, kRng3, sem_mt, kMt, kMt2, kMt3, mtTy, mtD, sem_dget, kDget, kDget2, kDget3, sem_pop, kPop, semS_setf, kSetf, kSetf2, kSetf3, semS_setfs, kSetfs, kSetfs2, kSetfs3, setFs, semS_newB, kNewB, kNewB2, semS_newFR, kNewFR, kNewFRm, kNewFR2, kNewFR3, kNewFO3, kPutO, semS_newFO, kNewFO, kNewFOm, kNewFOm2, semS_appE, kAppE, kAppEm, kAppE2, kAppE3, semS_newC, kNewC, kNewC2, kNewC2m, kNewC3, semS_ext, kExt, kExt2, kExt3, semS_tryA, kTryA, subX, isiX, insOf, setIns, getN, putN, heldV, simV, Re.cls, BC.listOf, closeB, openB, leave, outs, Re.plain, Fv.closed, modD, hc, m1, p, d, m2]
def town (n : Nat) : List PyData := List.replicate n (.int 0)
theorem draw_ok (ns : List Int) (m : Nat) {many : Int} (hm : 0 < many) (hn : m < 1000000) : ∃ v : Int, 0 ≤ v ∧ v < many ∧ Ph X (n + 3) 86 [.s ns, .r (.lst (town m)), .d (.int many)] = .ok (.d (.int v)) [.lst (town (m + 1))] := by
  obtain ⟨c, hc0, hc⟩ := mix_ok X n ns ((m : Int) + 1)
  have d : ∀ a, divD (.int a) (.int 8) = some (.int (a / 8)) := fun a => div_ok (by decide) (by decide)
  refine ⟨c / 8 % many, Int.emod_nonneg _ (by omega), Int.emod_lt_of_pos _ hm, ?_⟩
  have e1 : town m ++ [.int 0] = town (m + 1) := by unfold town; rw [List.replicate_succ']
  have e2 : (town m).length = m := by simp [town]
  have e3 : (town (m + 1)).length = m + 1 := by simp [town]
  rw [eq_law_draw]
  simp only [defF, C_law_draw, enter, enter.enterW]
  simp -implicitDefEqProofs [BC.run, toAvs, toAv, apart, b0ok, backOk, backAll, isiV, peek, isiD, tru, peekR, truthD, cmpD, ltD, binD, addD, subD, solid, solids, peeks, setTg, setIs, one1_dat, bfD, bLen, isNone, dat, partM, partI, Xe.isNil, Va.tag, goes, Re.closed, resOf, setRes, lstAt, sem_fld, kFld, kFld2, sem_fidx, kFidx, kFidx2, kFidx3, kFidx4, kFidxM, sem_oidx, kOidx, kOidx2, kOidx3, sem_flen, kFlen, kFlen2, sem_fcopy, kFcopy, kFcopy2, sem_sfl, kSfl, kSfl2, sem_popE, kPopE, kPopE2, kPopE3, sem_meth, kMe, kMeM, kMe2, sem_sset, kSset, kSset2, sem_rng1, kRng1, sem_rng2, kRng2, kRng3, sem_mt, kMt, kMt2, kMt3, mtTy, mtD, sem_dget, kDget, kDget2, kDget3, sem_pop, kPop, semS_setf, kSetf, kSetf2, kSetf3, semS_setfs, kSetfs, kSetfs2, kSetfs3, setFs, semS_newB, kNewB, kNewB2, semS_newFR, kNewFR, kNewFRm, kNewFR2, kNewFR3, kNewFO3, kPutO, semS_newFO, kNewFO, kNewFOm, kNewFOm2, semS_appE, kAppE, kAppEm, kAppE2, kAppE3, semS_newC, kNewC, kNewC2, kNewC2m, kNewC3, semS_ext, kExt, kExt2, kExt3, semS_tryA, kTryA, subX, isiX, insOf, setIns, getN, putN, heldV, simV, Re.cls, BC.listOf, closeB, openB, leave, outs, Re.plain, Fv.closed, modD, hc, d, hm, e1, e2, e3, lim, hn]
theorem pick_ok (ns : List Int) (m : Nat) {l : List PyData} (hl : l ≠ []) (hn : m < 1000000) : ∃ x, x ∈ l ∧ Ph X (n + 4) 87 [.s ns, .r (.lst (town m)), .d (.list l)] = .ok (.d x) [.lst (town (m + 1))] := by
  have hp : 0 < l.length := List.length_pos_iff.mpr hl
  obtain ⟨v, h1, h2, e⟩ := draw_ok X n ns m (many := (l.length : Int)) (by omega) hn
  have hv : v.toNat < l.length := by omega
  refine ⟨l[v.toNat], List.getElem_mem hv, ?_⟩
  have e2 : idxD (.list l) (.int v) = some l[v.toNat] := by
    have q := L2.atI_nat (xs := l) (j := v.toNat) (v := l[v.toNat]) (List.getElem?_eq_getElem (by omega))
    rw [Int.toNat_of_nonneg h1] at q
    exact q
  rw [eq_law_pick]
  simp only [defF, C_law_pick, enter, enter.enterW]
  simp -implicitDefEqProofs [BC.run, toAvs, toAv, apart, b0ok, backOk, backAll, isiV, peek, isiD, tru, peekR, truthD, cmpD, ltD, binD, addD, subD, solid, solids, peeks, setTg, setIs, one1_dat, bfD, bLen, isNone, dat, partM, partI, Xe.isNil, Va.tag, goes, Re.closed, resOf, setRes, lstAt, sem_fld, kFld, kFld2, sem_fidx, kFidx, kFidx2, kFidx3, kFidx4, kFidxM, sem_oidx, kOidx, kOidx2, kOidx3, sem_flen, kFlen, kFlen2, sem_fcopy, kFcopy, kFcopy2, sem_sfl, kSfl, kSfl2, sem_popE, kPopE, kPopE2, kPopE3, sem_meth, kMe, kMeM, kMe2, sem_sset, kSset, kSset2, sem_rng1, kRng1, sem_rng2, kRng2, kRng3, sem_mt, kMt, kMt2, kMt3, mtTy, mtD, sem_dget, kDget, kDget2, kDget3, sem_pop, kPop, semS_setf, kSetf, kSetf2, kSetf3, semS_setfs, kSetfs, kSetfs2, kSetfs3, setFs, semS_newB, kNewB, kNewB2, semS_newFR, kNewFR, kNewFRm, kNewFR2, kNewFR3, kNewFO3, kPutO, semS_newFO, kNewFO, kNewFOm, kNewFOm2, semS_appE, kAppE, kAppEm, kAppE2, kAppE3, semS_newC, kNewC, kNewC2, kNewC2m, kNewC3, semS_ext, kExt, kExt2, kExt3, semS_tryA, kTryA, subX, isiX, insOf, setIns, getN, putN, heldV, simV, Re.cls, BC.listOf, closeB, openB, leave, outs, Re.plain, Fv.closed, e, e2]
theorem edge_ok (ns : List Int) (m : Nat) (hn : m < 900000) : ∃ (e : Option (Int × Bool)) (m' : Nat), edgeOk e ∧ m' ≤ m + 3 ∧ Ph X (n + 4) 89 [.s ns, .r (.lst (town m))] = .ok (.d (edgeD e)) [.lst (town m')] := by
  obtain ⟨v, h1, h2, e1⟩ := draw_ok X n ns m (many := 2) (by decide) (by omega)
  rw [eq_law_edge]
  by_cases hv : v = 0
  · refine ⟨none, m + 1, trivial, by omega, ?_⟩
    simp only [defF, C_law_edge, enter, enter.enterW]
    simp -implicitDefEqProofs [BC.run, toAvs, toAv, apart, b0ok, backOk, backAll, isiV, peek, isiD, tru, peekR, truthD, cmpD, ltD, binD, addD, subD, solid, solids, peeks, setTg, setIs, one1_dat, bfD, bLen, isNone, dat, partM, partI, Xe.isNil, Va.tag, goes, Re.closed, resOf, setRes, lstAt, sem_fld, kFld, kFld2, sem_fidx, kFidx, kFidx2, kFidx3, kFidx4, kFidxM, sem_oidx, kOidx, kOidx2, kOidx3, sem_flen, kFlen, kFlen2, sem_fcopy, kFcopy, kFcopy2, sem_sfl, kSfl, kSfl2, sem_popE, kPopE, kPopE2, kPopE3, sem_meth, kMe, kMeM, kMe2, sem_sset, kSset, kSset2, sem_rng1, kRng1, sem_rng2, kRng2, kRng3, sem_mt, kMt, kMt2, kMt3, mtTy, mtD, sem_dget, kDget, kDget2, kDget3, sem_pop, kPop, semS_setf, kSetf, kSetf2, kSetf3, semS_setfs, kSetfs, kSetfs2, kSetfs3, setFs, semS_newB, kNewB, kNewB2, semS_newFR, kNewFR, kNewFRm, kNewFR2, kNewFR3, kNewFO3, kPutO, semS_newFO, kNewFO, kNewFOm, kNewFOm2, semS_appE, kAppE, kAppEm, kAppE2, kAppE3, semS_newC, kNewC, kNewC2, kNewC2m, kNewC3, semS_ext, kExt, kExt2, kExt3, semS_tryA, kTryA, subX, isiX, insOf, setIns, getN, putN, heldV, simV, Re.cls, BC.listOf, closeB, openB, leave, outs, Re.plain, Fv.closed, e1, hv, eqD_int, edgeD]
  · obtain ⟨l, l1, l2, e2⟩ := draw_ok X n ns (m + 1) (many := 4) (by decide) (by omega)
    obtain ⟨u, u1, u2, e3⟩ := draw_ok X n ns (m + 2) (many := 2) (by decide) (by omega)
    refine ⟨some (l, decide (u = 0)), m + 3, ⟨l1, by omega⟩, by omega, ?_⟩
    simp only [defF, C_law_edge, enter, enter.enterW]
    simp -implicitDefEqProofs [BC.run, toAvs, toAv, apart, b0ok, backOk, backAll, isiV, peek, isiD, tru, peekR, truthD, cmpD, ltD, binD, addD, subD, solid, solids, peeks, setTg, setIs, one1_dat, bfD, bLen, isNone, dat, partM, partI, Xe.isNil, Va.tag, goes, Re.closed, resOf, setRes, lstAt, sem_fld, kFld, kFld2, sem_fidx, kFidx, kFidx2, kFidx3, kFidx4, kFidxM, sem_oidx, kOidx, kOidx2, kOidx3, sem_flen, kFlen, kFlen2, sem_fcopy, kFcopy, kFcopy2, sem_sfl, kSfl, kSfl2, sem_popE, kPopE, kPopE2, kPopE3, sem_meth, kMe, kMeM, kMe2, sem_sset, kSset, kSset2, sem_rng1, kRng1, sem_rng2, kRng2, kRng3, sem_mt, kMt, kMt2, kMt3, mtTy, mtD, sem_dget, kDget, kDget2, kDget3, sem_pop, kPop, semS_setf, kSetf, kSetf2, kSetf3, semS_setfs, kSetfs, kSetfs2, kSetfs3, setFs, semS_newB, kNewB, kNewB2, semS_newFR, kNewFR, kNewFRm, kNewFR2, kNewFR3, kNewFO3, kPutO, semS_newFO, kNewFO, kNewFOm, kNewFOm2, semS_appE, kAppE, kAppEm, kAppE2, kAppE3, semS_newC, kNewC, kNewC2, kNewC2m, kNewC3, semS_ext, kExt, kExt2, kExt3, semS_tryA, kTryA, subX, isiX, insOf, setIns, getN, putN, heldV, simV, Re.cls, BC.listOf, closeB, openB, leave, outs, Re.plain, Fv.closed, e1, hv, eqD_int, edgeD, e2, e3, lim]
end
/-! ### rising, each once -/
theorem mem_dedupX {x : Int} : ∀ {l : List Int}, x ∈ dedup l ↔ x ∈ l
  | [] => Iff.rfl
  | a :: r => by
    unfold dedup
    split
    · rw [mem_dedupX, List.mem_cons]
      constructor
      · exact .inr
      · rintro (h | h)
        · subst h; assumption
        · exact h
    · rw [List.mem_cons, List.mem_cons, mem_dedupX]
theorem nodup_dedupX : ∀ l : List Int, (dedup l).Nodup
  | [] => .nil
  | a :: r => by
    unfold dedup
    split
    · exact nodup_dedupX r
    · exact List.nodup_cons.mpr ⟨by rwa [mem_dedupX], nodup_dedupX r⟩
theorem len_dedup : ∀ l : List Int, (dedup l).length ≤ l.length
  | [] => Nat.le_refl _
  | a :: r => by
    unfold dedup
    have := len_dedup r
    split <;> simp <;> omega
theorem dedup_nodup : ∀ {l : List Int}, l.Nodup → dedup l = l
  | [], _ => rfl
  | a :: r, h => by
    obtain ⟨h1, h2⟩ := List.nodup_cons.mp h
    unfold dedup
    rw [if_neg h1, dedup_nodup h2]
theorem mem_usort {x : Int} {l : List Int} : x ∈ usort l ↔ x ∈ l := by
  unfold usort
  rw [(isort_perm _).mem_iff, mem_dedupX]
theorem len_usort (l : List Int) : (usort l).length ≤ l.length := by
  unfold usort
  rw [(isort_perm _).length_eq]
  exact len_dedup l
theorem usort_usort (l : List Int) : usort (usort l) = usort l := by
  have h : (usort l).Nodup := by
    unfold usort
    exact (isort_perm _).nodup_iff.mpr (nodup_dedupX l)
  have hs : (usort l).Pairwise (fun a b => decide (a ≤ b) = true) := by
    exact isort_sorted _
  rw [usort, dedup_nodup h]
  exact isort_id hs
end BC

/-! PL2: the timers and plans that a law makes. -/
namespace BC
open PySem
theorem rng0 {k : Nat} (h : k ≤ 1000) : rngD false 0 (k : Int) = some (.list ((List.range k).map fun (i : Nat) => .int (i : Int))) := by
  unfold rngD
  rw [if_pos (by refine ⟨by decide, by decide, by omega, by omega, by show _ ≤ 1000000; omega⟩)]
  simp
theorem mem_src {k : Nat} {x : PyData} (h : x ∈ PyData.str "beat" :: ((List.replicate 2 ((List.range k).map fun (i : Nat) => PyData.int (i : Int))).flatten)) : ∃ s : Option Nat, (∀ j, s = some j → j < k) ∧ x = srcD s := by
  rcases List.mem_cons.mp h with h | h
  · exact ⟨none, (fun j z => by cases z), h⟩
  · obtain ⟨l, hl, hx⟩ := List.mem_flatten.mp h
    obtain ⟨_, rfl⟩ := List.mem_replicate.mp hl
    obtain ⟨i, hi, rfl⟩ := List.mem_map.mp hx
    exact ⟨some i, (fun j z => by cases z; simpa using hi), rfl⟩
def sT (ns : List Int) (k most : Int) (a4 a5 a6 a7 a8 a9 a10 : Option Va) (m : Nat) : Sg := ⟨[some (.s ns), some (.c 0), some (.d (.int k)), some (.d (.int most)), a4, a5, a6, a7, a8, a9, a10, none], [], [.lst (town m)]⟩
section
variable (X : List Dc) (n : Nat)
theorem timer_gen (ns : List Int) (m k : Nat) (most : Int) (h1 : 1 ≤ most) (h2 : most ≤ 65535) (hk : k ≤ 4) (hn : m < 800000) :
    ∃ (t : Tm) (m' : Nat), GoodT k t ∧ (t.tp ≤ 9 ∨ t.tp = most) ∧ m' ≤ m + 20 ∧ Ph X (n + 5) 90 [.s ns, .r (.lst (town m)), .d (.int (k : Int)), .d (.int most)] = .ok (.d t.toD) [.lst (town m')] := by
  obtain ⟨x1, hx1, e1⟩ := pick_ok X n ns m (l := PyData.str "beat" :: ((List.replicate 2 ((List.range k).map fun (i : Nat) => PyData.int (i : Int))).flatten)) (by simp) (by omega)
  obtain ⟨src, hsrc, rfl⟩ := mem_src hx1
  obtain ⟨x2, hx2, e2⟩ := pick_ok X n ns (m + 1) (l := [.int 1, .int 1, .int 1, .int 2, .int 3, .int 256]) (by simp) (by omega)
  obtain ⟨dv, hdv1, hdv2, rfl⟩ : ∃ dv : Int, 1 ≤ dv ∧ dv ≤ 256 ∧ x2 = .int dv := by
    simp only [List.mem_cons, List.not_mem_nil, or_false] at hx2
    rcases hx2 with h | h | h | h | h | h <;> exact ⟨_, by decide, by decide, h⟩
  obtain ⟨x3, hx3, e3⟩ := pick_ok X n ns (m + 2) (l := [.str "up", .str "down", .str "both"]) (by simp) (by omega)
  obtain ⟨md, rfl⟩ : ∃ md : Md, x3 = .str md.str := by
    simp only [List.mem_cons, List.not_mem_nil, or_false] at hx3
    rcases hx3 with h | h | h
    · exact ⟨.up, h⟩
    · exact ⟨.down, h⟩
    · exact ⟨.both, h⟩
  obtain ⟨x4, hx4, e4⟩ := pick_ok X n ns (m + 3) (l := [.int 1, .int 2, .int 3, .int 5, .int 9, .int most]) (by simp) (by omega)
  obtain ⟨tp, ht1, ht2, ht3, rfl⟩ : ∃ tp : Int, 1 ≤ tp ∧ tp ≤ 65535 ∧ (tp ≤ 9 ∨ tp = most) ∧ x4 = .int tp := by
    simp only [List.mem_cons, List.not_mem_nil, or_false] at hx4
    rcases hx4 with h | h | h | h | h | h
    · exact ⟨_, by decide, by decide, .inl (by decide), h⟩
    · exact ⟨_, by decide, by decide, .inl (by decide), h⟩
    · exact ⟨_, by decide, by decide, .inl (by decide), h⟩
    · exact ⟨_, by decide, by decide, .inl (by decide), h⟩
    · exact ⟨_, by decide, by decide, .inl (by decide), h⟩
    · exact ⟨_, h1, h2, .inr rfl, h⟩
  obtain ⟨c, hc0, hc3, e5⟩ := draw_ok X (n + 1) ns (m + 4) (many := 3) (by decide) (by omega)
  -- the matches drawn
  let ρ : List (Option Va) := [some (.s ns), some (.c 0), some (.d (.int (k : Int))), some (.d (.int most)), some (.d (srcD src)), some (.d (.int dv)), some (.d (.str md.str)), some (.d (.int tp)), none, none, none, none]
  obtain ⟨ys, W', e6, hl6, ms, hys, hms, hlen, hW⟩ := comp_st2 (Φ := Ph X (n + 4)) (gl := gl) E_law_timer_0 rfl (s := ⟨ρ, [], [.lst (town (m + 4))]⟩) (s1 := ⟨ρ, [], [.lst (town (m + 5))]⟩) (xs := List.range c.toNat) (fun (i : Nat) => .int (i : Int))
    (fun j ys W => ∃ ms : List Int, ys = ms.map .int ∧ (∀ q ∈ ms, 0 ≤ q ∧ q ≤ tp) ∧ ms.length = j ∧ W = [.lst (town (m + 5 + j))])
    (by
      have q := rng1_src (Φ := Ph X (n + 4)) (gl := gl) (a := .call 86 0 (.cons (.var 0) (.cons (.var 1) (.cons (.cst (.int 3)) .nil)))) (s := ⟨ρ, [], [.lst (town (m + 4))]⟩) (t := ⟨ρ, [], [.lst (town (m + 5))]⟩) (n := c.toNat) (by rw [Int.toNat_of_nonneg hc0]; simp -implicitDefEqProofs [BC.run, toAvs, toAv, apart, b0ok, backOk, backAll, isiV, peek, isiD, tru, peekR, truthD, cmpD, ltD, binD, addD, subD, solid, solids, peeks, setTg, setIs, one1_dat, bfD, bLen, isNone, dat, partM, partI, Xe.isNil, Va.tag, goes, Re.closed, resOf, setRes, lstAt, sem_fld, kFld, kFld2, sem_fidx, kFidx, kFidx2, kFidx3, kFidx4, kFidxM, sem_oidx, kOidx, kOidx2, kOidx3, sem_flen, kFlen, kFlen2, sem_fcopy, kFcopy, kFcopy2, sem_sfl, kSfl, kSfl2, sem_popE, kPopE, kPopE2, kPopE3, sem_meth, kMe, kMeM, kMe2, sem_sset, kSset, kSset2, sem_rng1, kRng1, sem_rng2, kRng2, kRng3, sem_mt, kMt, kMt2, kMt3, mtTy, mtD, sem_dget, kDget, kDget2, kDget3, sem_pop, kPop, semS_setf, kSetf, kSetf2, kSetf3, semS_setfs, kSetfs, kSetfs2, kSetfs3, setFs, semS_newB, kNewB, kNewB2, semS_newFR, kNewFR, kNewFRm, kNewFR2, kNewFR3, kNewFO3, kPutO, semS_newFO, kNewFO, kNewFOm, kNewFOm2, semS_appE, kAppE, kAppEm, kAppE2, kAppE3, semS_newC, kNewC, kNewC2, kNewC2m, kNewC3, semS_ext, kExt, kExt2, kExt3, semS_tryA, kTryA, subX, isiX, insOf, setIns, getN, putN, heldV, simV, Re.cls, BC.listOf, closeB, openB, leave, outs, Re.plain, Fv.closed, ρ, e5]) (by omega)
      exact q) (by simp [lim]; omega) ⟨[], rfl, by simp, rfl, rfl⟩ (fun j hj ys W hy ⟨ms, q1, q2, q3, q4⟩ => by
      have hj' : j < c.toNat := by simpa using hj
      obtain ⟨v, v1, v2, e7⟩ := draw_ok X (n + 1) ns (m + 5 + j) (many := tp + 1) (by omega) (by omega)
      refine ⟨.int v, ρ.set 11 (some (.d (.int (((List.range c.toNat)[j] : Nat) : Int)))), [.lst (town (m + 5 + (j + 1)))], ?_, ms ++ [v], by simp [q1], ?_, by simp [q3], rfl⟩
      · subst q4
        rw [show m + 5 + (j + 1) = m + 5 + j + 1 by omega]
        simp -implicitDefEqProofs [BC.run, toAvs, toAv, apart, b0ok, backOk, backAll, isiV, peek, isiD, tru, peekR, truthD, cmpD, ltD, binD, addD, subD, solid, solids, peeks, setTg, setIs, one1_dat, bfD, bLen, isNone, dat, partM, partI, Xe.isNil, Va.tag, goes, Re.closed, resOf, setRes, lstAt, sem_fld, kFld, kFld2, sem_fidx, kFidx, kFidx2, kFidx3, kFidx4, kFidxM, sem_oidx, kOidx, kOidx2, kOidx3, sem_flen, kFlen, kFlen2, sem_fcopy, kFcopy, kFcopy2, sem_sfl, kSfl, kSfl2, sem_popE, kPopE, kPopE2, kPopE3, sem_meth, kMe, kMeM, kMe2, sem_sset, kSset, kSset2, sem_rng1, kRng1, sem_rng2, kRng2, kRng3, sem_mt, kMt, kMt2, kMt3, mtTy, mtD, sem_dget, kDget, kDget2, kDget3, sem_pop, kPop, semS_setf, kSetf, kSetf2, kSetf3, semS_setfs, kSetfs, kSetfs2, kSetfs3, setFs, semS_newB, kNewB, kNewB2, semS_newFR, kNewFR, kNewFRm, kNewFR2, kNewFR3, kNewFO3, kPutO, semS_newFO, kNewFO, kNewFOm, kNewFOm2, semS_appE, kAppE, kAppEm, kAppE2, kAppE3, semS_newC, kNewC, kNewC2, kNewC2m, kNewC3, semS_ext, kExt, kExt2, kExt3, semS_tryA, kTryA, subX, isiX, insOf, setIns, getN, putN, heldV, simV, Re.cls, BC.listOf, closeB, openB, leave, outs, Re.plain, Fv.closed, ρ, e7]
      · intro q hq
        rcases List.mem_append.mp hq with h | h
        · exact q2 q h
        · obtain rfl : q = v := by simpa using h
          exact ⟨v1, by omega⟩)
  have hlc : ms.length ≤ 2 := by rw [hlen]; simp; omega
  obtain ⟨o, ho0, ho5, e8⟩ := draw_ok X (n + 1) ns (m + 5 + ms.length) (many := 5) (by decide) (by omega)
  obtain ⟨g, m1, hg, hm1, e9⟩ := edge_ok X n ns (m + 6 + ms.length) (by omega)
  obtain ⟨ca, m2, hca, hm2, e10⟩ := edge_ok X n ns m1 (by omega)
  refine ⟨⟨src, dv, md, tp, g, usort ms, ca, decide (o = 0)⟩, m2, ?_, ht3, by omega, ?_⟩
  · refine ⟨hsrc, hdv1, hdv2, ht1, ht2, hg, ?_, ?_, usort_usort ms, hca⟩
    · have := len_usort ms
      show (usort ms).length ≤ 2
      omega
    · intro q hq
      exact hms q (mem_usort.mp hq)
  · have hss : sortSetD (.list (ms.map .int)) = some (.list ((usort ms).map .int)) := by
      unfold sortSetD
      simp only [listOf, intsD_map]
      rw [if_pos (by omega)]
    have hW' : W' = [.lst (town (m + 5 + ms.length))] := by rw [hW, hlen]
    subst hW'
    subst hys
    have hr := rng0 (k := k) (by omega)
    have hmu : mulD (.list ((List.range k).map fun (i : Nat) => PyData.int (i : Int))) (.int 2) = some (.list (List.replicate 2 ((List.range k).map fun (i : Nat) => PyData.int (i : Int))).flatten) := by
      simp only [mulD]
      rw [if_pos (by simp [lim]; omega)]
      rfl
    have hlr : ((List.replicate 2 ((List.range k).map fun (i : Nat) => PyData.int (i : Int))).flatten).length ≤ 8 := by
      simp
      omega
    have had : addD (.list [.str "beat"]) (.list ((List.replicate 2 ((List.range k).map fun (i : Nat) => PyData.int (i : Int))).flatten)) = some (.list (PyData.str "beat" :: ((List.replicate 2 ((List.range k).map fun (i : Nat) => PyData.int (i : Int))).flatten))) := by
      unfold addD
      dsimp only
      rw [if_pos (by show 1 + _ ≤ 1000000; omega)]
      rfl
    generalize (List.replicate 2 ((List.range k).map fun (i : Nat) => PyData.int (i : Int))).flatten = two at *
    have s1 : semS (Ph X (n + 4)) gl (.asg (.name 4) (.call 87 0 (.cons (.var 0) (.cons (.var 1) (.cons (.bin .add (.lst (.cons (.cst (.str "beat")) .nil)) (.bin .mul (.rng1 false (.var 2)) (.cst (.int 2)))) .nil))))) (sT ns k most none none none none none none none m) =
        .ok .next (sT ns k most (some (.d (srcD src))) none none none none none none (m + 1)) := by
      unfold sT
      simp -implicitDefEqProofs [BC.run, toAvs, toAv, apart, b0ok, backOk, backAll, isiV, peek, isiD, tru, peekR, truthD, cmpD, ltD, binD, addD, subD, solid, solids, peeks, setTg, setIs, one1_dat, bfD, bLen, isNone, dat, partM, partI, Xe.isNil, Va.tag, goes, Re.closed, resOf, setRes, lstAt, sem_fld, kFld, kFld2, sem_fidx, kFidx, kFidx2, kFidx3, kFidx4, kFidxM, sem_oidx, kOidx, kOidx2, kOidx3, sem_flen, kFlen, kFlen2, sem_fcopy, kFcopy, kFcopy2, sem_sfl, kSfl, kSfl2, sem_popE, kPopE, kPopE2, kPopE3, sem_meth, kMe, kMeM, kMe2, sem_sset, kSset, kSset2, sem_rng1, kRng1, sem_rng2, kRng2, kRng3, sem_mt, kMt, kMt2, kMt3, mtTy, mtD, sem_dget, kDget, kDget2, kDget3, sem_pop, kPop, semS_setf, kSetf, kSetf2, kSetf3, semS_setfs, kSetfs, kSetfs2, kSetfs3, setFs, semS_newB, kNewB, kNewB2, semS_newFR, kNewFR, kNewFRm, kNewFR2, kNewFR3, kNewFO3, kPutO, semS_newFO, kNewFO, kNewFOm, kNewFOm2, semS_appE, kAppE, kAppEm, kAppE2, kAppE3, semS_newC, kNewC, kNewC2, kNewC2m, kNewC3, semS_ext, kExt, kExt2, kExt3, semS_tryA, kTryA, subX, isiX, insOf, setIns, getN, putN, heldV, simV, Re.cls, BC.listOf, closeB, openB, leave, outs, Re.plain, Fv.closed, hr, hmu, had, e1, lim, -addD]
    have s2 : semS (Ph X (n + 4)) gl (.asg (.name 5) (.call 87 0 (.cons (.var 0) (.cons (.var 1) (.cons (.lst (.cons (.cst (.int 1)) (.cons (.cst (.int 1)) (.cons (.cst (.int 1)) (.cons (.cst (.int 2)) (.cons (.cst (.int 3)) (.cons (.cst (.int 256)) .nil))))))) .nil))))) (sT ns k most (some (.d (srcD src))) none none none none none none (m + 1)) =
        .ok .next (sT ns k most (some (.d (srcD src))) (some (.d (.int dv))) none none none none none (m + 2)) := by
      unfold sT
      simp -implicitDefEqProofs [BC.run, toAvs, toAv, apart, b0ok, backOk, backAll, isiV, peek, isiD, tru, peekR, truthD, cmpD, ltD, binD, addD, subD, solid, solids, peeks, setTg, setIs, one1_dat, bfD, bLen, isNone, dat, partM, partI, Xe.isNil, Va.tag, goes, Re.closed, resOf, setRes, lstAt, sem_fld, kFld, kFld2, sem_fidx, kFidx, kFidx2, kFidx3, kFidx4, kFidxM, sem_oidx, kOidx, kOidx2, kOidx3, sem_flen, kFlen, kFlen2, sem_fcopy, kFcopy, kFcopy2, sem_sfl, kSfl, kSfl2, sem_popE, kPopE, kPopE2, kPopE3, sem_meth, kMe, kMeM, kMe2, sem_sset, kSset, kSset2, sem_rng1, kRng1, sem_rng2, kRng2, kRng3, sem_mt, kMt, kMt2, kMt3, mtTy, mtD, sem_dget, kDget, kDget2, kDget3, sem_pop, kPop, semS_setf, kSetf, kSetf2, kSetf3, semS_setfs, kSetfs, kSetfs2, kSetfs3, setFs, semS_newB, kNewB, kNewB2, semS_newFR, kNewFR, kNewFRm, kNewFR2, kNewFR3, kNewFO3, kPutO, semS_newFO, kNewFO, kNewFOm, kNewFOm2, semS_appE, kAppE, kAppEm, kAppE2, kAppE3, semS_newC, kNewC, kNewC2, kNewC2m, kNewC3, semS_ext, kExt, kExt2, kExt3, semS_tryA, kTryA, subX, isiX, insOf, setIns, getN, putN, heldV, simV, Re.cls, BC.listOf, closeB, openB, leave, outs, Re.plain, Fv.closed, e2, lim]
    have s3 : semS (Ph X (n + 4)) gl (.asg (.name 6) (.call 87 0 (.cons (.var 0) (.cons (.var 1) (.cons (.lst (.cons (.cst (.str "up")) (.cons (.cst (.str "down")) (.cons (.cst (.str "both")) .nil)))) .nil))))) (sT ns k most (some (.d (srcD src))) (some (.d (.int dv))) none none none none none (m + 2)) =
        .ok .next (sT ns k most (some (.d (srcD src))) (some (.d (.int dv))) (some (.d (.str md.str))) none none none none (m + 3)) := by
      unfold sT
      simp -implicitDefEqProofs [BC.run, toAvs, toAv, apart, b0ok, backOk, backAll, isiV, peek, isiD, tru, peekR, truthD, cmpD, ltD, binD, addD, subD, solid, solids, peeks, setTg, setIs, one1_dat, bfD, bLen, isNone, dat, partM, partI, Xe.isNil, Va.tag, goes, Re.closed, resOf, setRes, lstAt, sem_fld, kFld, kFld2, sem_fidx, kFidx, kFidx2, kFidx3, kFidx4, kFidxM, sem_oidx, kOidx, kOidx2, kOidx3, sem_flen, kFlen, kFlen2, sem_fcopy, kFcopy, kFcopy2, sem_sfl, kSfl, kSfl2, sem_popE, kPopE, kPopE2, kPopE3, sem_meth, kMe, kMeM, kMe2, sem_sset, kSset, kSset2, sem_rng1, kRng1, sem_rng2, kRng2, kRng3, sem_mt, kMt, kMt2, kMt3, mtTy, mtD, sem_dget, kDget, kDget2, kDget3, sem_pop, kPop, semS_setf, kSetf, kSetf2, kSetf3, semS_setfs, kSetfs, kSetfs2, kSetfs3, setFs, semS_newB, kNewB, kNewB2, semS_newFR, kNewFR, kNewFRm, kNewFR2, kNewFR3, kNewFO3, kPutO, semS_newFO, kNewFO, kNewFOm, kNewFOm2, semS_appE, kAppE, kAppEm, kAppE2, kAppE3, semS_newC, kNewC, kNewC2, kNewC2m, kNewC3, semS_ext, kExt, kExt2, kExt3, semS_tryA, kTryA, subX, isiX, insOf, setIns, getN, putN, heldV, simV, Re.cls, BC.listOf, closeB, openB, leave, outs, Re.plain, Fv.closed, e3, lim]
    have s4 : semS (Ph X (n + 4)) gl (.asg (.name 7) (.call 87 0 (.cons (.var 0) (.cons (.var 1) (.cons (.lst (.cons (.cst (.int 1)) (.cons (.cst (.int 2)) (.cons (.cst (.int 3)) (.cons (.cst (.int 5)) (.cons (.cst (.int 9)) (.cons (.var 3) .nil))))))) .nil))))) (sT ns k most (some (.d (srcD src))) (some (.d (.int dv))) (some (.d (.str md.str))) none none none none (m + 3)) =
        .ok .next (sT ns k most (some (.d (srcD src))) (some (.d (.int dv))) (some (.d (.str md.str))) (some (.d (.int tp))) none none none (m + 4)) := by
      unfold sT
      simp -implicitDefEqProofs [BC.run, toAvs, toAv, apart, b0ok, backOk, backAll, isiV, peek, isiD, tru, peekR, truthD, cmpD, ltD, binD, addD, subD, solid, solids, peeks, setTg, setIs, one1_dat, bfD, bLen, isNone, dat, partM, partI, Xe.isNil, Va.tag, goes, Re.closed, resOf, setRes, lstAt, sem_fld, kFld, kFld2, sem_fidx, kFidx, kFidx2, kFidx3, kFidx4, kFidxM, sem_oidx, kOidx, kOidx2, kOidx3, sem_flen, kFlen, kFlen2, sem_fcopy, kFcopy, kFcopy2, sem_sfl, kSfl, kSfl2, sem_popE, kPopE, kPopE2, kPopE3, sem_meth, kMe, kMeM, kMe2, sem_sset, kSset, kSset2, sem_rng1, kRng1, sem_rng2, kRng2, kRng3, sem_mt, kMt, kMt2, kMt3, mtTy, mtD, sem_dget, kDget, kDget2, kDget3, sem_pop, kPop, semS_setf, kSetf, kSetf2, kSetf3, semS_setfs, kSetfs, kSetfs2, kSetfs3, setFs, semS_newB, kNewB, kNewB2, semS_newFR, kNewFR, kNewFRm, kNewFR2, kNewFR3, kNewFO3, kPutO, semS_newFO, kNewFO, kNewFOm, kNewFOm2, semS_appE, kAppE, kAppEm, kAppE2, kAppE3, semS_newC, kNewC, kNewC2, kNewC2m, kNewC3, semS_ext, kExt, kExt2, kExt3, semS_tryA, kTryA, subX, isiX, insOf, setIns, getN, putN, heldV, simV, Re.cls, BC.listOf, closeB, openB, leave, outs, Re.plain, Fv.closed, e4, lim]
    have s5 : semS (Ph X (n + 4)) gl (.asg (.name 8) E_law_timer_0) (sT ns k most (some (.d (srcD src))) (some (.d (.int dv))) (some (.d (.str md.str))) (some (.d (.int tp))) none none none (m + 4)) =
        .ok .next (sT ns k most (some (.d (srcD src))) (some (.d (.int dv))) (some (.d (.str md.str))) (some (.d (.int tp))) (some (.d (.list (ms.map .int)))) none none (m + 5 + ms.length)) := by
      have q : sem (Ph X (n + 4)) gl E_law_timer_0 (sT ns k most (some (.d (srcD src))) (some (.d (.int dv))) (some (.d (.str md.str))) (some (.d (.int tp))) none none none (m + 4)) = .ok [.d (.list (ms.map .int))] (sT ns k most (some (.d (srcD src))) (some (.d (.int dv))) (some (.d (.str md.str))) (some (.d (.int tp))) none none none (m + 5 + ms.length)) := e6
      rw [semS_asg, q]
      rfl
    have s6 : semS (Ph X (n + 4)) gl (.asg (.name 9) (.cmp .eq (.call 86 0 (.cons (.var 0) (.cons (.var 1) (.cons (.cst (.int 5)) .nil)))) (.cst (.int 0)))) (sT ns k most (some (.d (srcD src))) (some (.d (.int dv))) (some (.d (.str md.str))) (some (.d (.int tp))) (some (.d (.list (ms.map .int)))) none none (m + 5 + ms.length)) =
        .ok .next (sT ns k most (some (.d (srcD src))) (some (.d (.int dv))) (some (.d (.str md.str))) (some (.d (.int tp))) (some (.d (.list (ms.map .int)))) (some (.d (.bool (decide (o = 0))))) none (m + 6 + ms.length)) := by
      rw [show m + 6 + ms.length = m + 5 + ms.length + 1 by omega]
      unfold sT
      simp -implicitDefEqProofs [BC.run, toAvs, toAv, apart, b0ok, backOk, backAll, isiV, peek, isiD, tru, peekR, truthD, cmpD, ltD, binD, addD, subD, solid, solids, peeks, setTg, setIs, one1_dat, bfD, bLen, isNone, dat, partM, partI, Xe.isNil, Va.tag, goes, Re.closed, resOf, setRes, lstAt, sem_fld, kFld, kFld2, sem_fidx, kFidx, kFidx2, kFidx3, kFidx4, kFidxM, sem_oidx, kOidx, kOidx2, kOidx3, sem_flen, kFlen, kFlen2, sem_fcopy, kFcopy, kFcopy2, sem_sfl, kSfl, kSfl2, sem_popE, kPopE, kPopE2, kPopE3, sem_meth, kMe, kMeM, kMe2, sem_sset, kSset, kSset2, sem_rng1, kRng1, sem_rng2, kRng2, kRng3, sem_mt, kMt, kMt2, kMt3, mtTy, mtD, sem_dget, kDget, kDget2, kDget3, sem_pop, kPop, semS_setf, kSetf, kSetf2, kSetf3, semS_setfs, kSetfs, kSetfs2, kSetfs3, setFs, semS_newB, kNewB, kNewB2, semS_newFR, kNewFR, kNewFRm, kNewFR2, kNewFR3, kNewFO3, kPutO, semS_newFO, kNewFO, kNewFOm, kNewFOm2, semS_appE, kAppE, kAppEm, kAppE2, kAppE3, semS_newC, kNewC, kNewC2, kNewC2m, kNewC3, semS_ext, kExt, kExt2, kExt3, semS_tryA, kTryA, subX, isiX, insOf, setIns, getN, putN, heldV, simV, Re.cls, BC.listOf, closeB, openB, leave, outs, Re.plain, Fv.closed, e8, eqD_int]
    have s7 : semS (Ph X (n + 4)) gl (.asg (.name 10) (.tup (.cons (.call 89 0 (.cons (.var 0) (.cons (.var 1) .nil))) (.cons (.bf .tuple (.cons (.sset (.var 8)) .nil)) (.cons (.call 89 0 (.cons (.var 0) (.cons (.var 1) .nil))) .nil))))) (sT ns k most (some (.d (srcD src))) (some (.d (.int dv))) (some (.d (.str md.str))) (some (.d (.int tp))) (some (.d (.list (ms.map .int)))) (some (.d (.bool (decide (o = 0))))) none (m + 6 + ms.length)) =
        .ok .next (sT ns k most (some (.d (srcD src))) (some (.d (.int dv))) (some (.d (.str md.str))) (some (.d (.int tp))) (some (.d (.list (ms.map .int)))) (some (.d (.bool (decide (o = 0))))) (some (.d (.tuple [edgeD g, .tuple ((usort ms).map .int), edgeD ca]))) m2) := by
      unfold sT
      simp -implicitDefEqProofs [BC.run, toAvs, toAv, apart, b0ok, backOk, backAll, isiV, peek, isiD, tru, peekR, truthD, cmpD, ltD, binD, addD, subD, solid, solids, peeks, setTg, setIs, one1_dat, bfD, bLen, isNone, dat, partM, partI, Xe.isNil, Va.tag, goes, Re.closed, resOf, setRes, lstAt, sem_fld, kFld, kFld2, sem_fidx, kFidx, kFidx2, kFidx3, kFidx4, kFidxM, sem_oidx, kOidx, kOidx2, kOidx3, sem_flen, kFlen, kFlen2, sem_fcopy, kFcopy, kFcopy2, sem_sfl, kSfl, kSfl2, sem_popE, kPopE, kPopE2, kPopE3, sem_meth, kMe, kMeM, kMe2, sem_sset, kSset, kSset2, sem_rng1, kRng1, sem_rng2, kRng2, kRng3, sem_mt, kMt, kMt2, kMt3, mtTy, mtD, sem_dget, kDget, kDget2, kDget3, sem_pop, kPop, semS_setf, kSetf, kSetf2, kSetf3, semS_setfs, kSetfs, kSetfs2, kSetfs3, setFs, semS_newB, kNewB, kNewB2, semS_newFR, kNewFR, kNewFRm, kNewFR2, kNewFR3, kNewFO3, kPutO, semS_newFO, kNewFO, kNewFOm, kNewFOm2, semS_appE, kAppE, kAppEm, kAppE2, kAppE3, semS_newC, kNewC, kNewC2, kNewC2m, kNewC3, semS_ext, kExt, kExt2, kExt3, semS_tryA, kTryA, subX, isiX, insOf, setIns, getN, putN, heldV, simV, Re.cls, BC.listOf, closeB, openB, leave, outs, Re.plain, Fv.closed, e9, e10, hss, bTuple, lim]
    have s8 : semS (Ph X (n + 4)) gl (.seq (.ret (.bin .add (.bin .add (.tup (.cons (.var 4) (.cons (.var 5) (.cons (.var 6) (.cons (.var 7) .nil))))) (.var 10)) (.tup (.cons (.var 9) .nil)))) .nil) (sT ns k most (some (.d (srcD src))) (some (.d (.int dv))) (some (.d (.str md.str))) (some (.d (.int tp))) (some (.d (.list (ms.map .int)))) (some (.d (.bool (decide (o = 0))))) (some (.d (.tuple [edgeD g, .tuple ((usort ms).map .int), edgeD ca]))) m2) =
        .ok (.ret (.d (Tm.toD ⟨src, dv, md, tp, g, usort ms, ca, decide (o = 0)⟩))) (sT ns k most (some (.d (srcD src))) (some (.d (.int dv))) (some (.d (.str md.str))) (some (.d (.int tp))) (some (.d (.list (ms.map .int)))) (some (.d (.bool (decide (o = 0))))) (some (.d (.tuple [edgeD g, .tuple ((usort ms).map .int), edgeD ca]))) m2) := by
      unfold sT
      simp -implicitDefEqProofs [BC.run, toAvs, toAv, apart, b0ok, backOk, backAll, isiV, peek, isiD, tru, peekR, truthD, cmpD, ltD, binD, addD, subD, solid, solids, peeks, setTg, setIs, one1_dat, bfD, bLen, isNone, dat, partM, partI, Xe.isNil, Va.tag, goes, Re.closed, resOf, setRes, lstAt, sem_fld, kFld, kFld2, sem_fidx, kFidx, kFidx2, kFidx3, kFidx4, kFidxM, sem_oidx, kOidx, kOidx2, kOidx3, sem_flen, kFlen, kFlen2, sem_fcopy, kFcopy, kFcopy2, sem_sfl, kSfl, kSfl2, sem_popE, kPopE, kPopE2, kPopE3, sem_meth, kMe, kMeM, kMe2, sem_sset, kSset, kSset2, sem_rng1, kRng1, sem_rng2, kRng2, kRng3, sem_mt, kMt, kMt2, kMt3, mtTy, mtD, sem_dget, kDget, kDget2, kDget3, sem_pop, kPop, semS_setf, kSetf, kSetf2, kSetf3, semS_setfs, kSetfs, kSetfs2, kSetfs3, setFs, semS_newB, kNewB, kNewB2, semS_newFR, kNewFR, kNewFRm, kNewFR2, kNewFR3, kNewFO3, kPutO, semS_newFO, kNewFO, kNewFOm, kNewFOm2, semS_appE, kAppE, kAppEm, kAppE2, kAppE3, semS_newC, kNewC, kNewC2, kNewC2m, kNewC3, semS_ext, kExt, kExt2, kExt3, semS_tryA, kTryA, subX, isiX, insOf, setIns, getN, putN, heldV, simV, Re.cls, BC.listOf, closeB, openB, leave, outs, Re.plain, Fv.closed, lim, Tm.toD]
    have s0 : semS (Ph X (n + 4)) gl C_law_timer (sT ns k most none none none none none none none m) = .ok (.ret (.d (Tm.toD ⟨src, dv, md, tp, g, usort ms, ca, decide (o = 0)⟩))) (sT ns k most (some (.d (srcD src))) (some (.d (.int dv))) (some (.d (.str md.str))) (some (.d (.int tp))) (some (.d (.list (ms.map .int)))) (some (.d (.bool (decide (o = 0))))) (some (.d (.tuple [edgeD g, .tuple ((usort ms).map .int), edgeD ca]))) m2) := by
      unfold C_law_timer
      rw [seq_next _ _ s1, seq_next _ _ s2, seq_next _ _ s3, seq_next _ _ s4, seq_next _ _ s5, seq_next _ _ s6, seq_next _ _ s7, s8]
    rw [eq_law_timer]
    refine defF_f [some (.s ns), some (.c 0), some (.d (.int k)), some (.d (.int most)), none, none, none, none, none, none, none, none] [.lst (town m)] rfl (by decide) rfl rfl ?_
    have s0' := s0
    unfold sT at s0'
    rw [s0']
    rfl
/-- all that is asked of a made plan -/
structure MadeP (most : Int) (ts : List Tm) : Prop extends GoodP ts where
  tops : ∀ t ∈ ts, t.tp ≤ 9 ∨ t.tp = most
theorem plan_gen (ns : List Int) (m : Nat) (most : Int) (h1 : 1 ≤ most) (h2 : most ≤ 65535) (hn : m < 700000) :
    ∃ (ts : List Tm) (m' : Nat), MadeP most ts ∧ m' ≤ m + 81 ∧ Ph X (n + 6) 91 [.s ns, .r (.lst (town m)), .d (.int most)] = .ok (.d (planD ts)) [.lst (town m')] := by
  obtain ⟨c, hc0, hc4, e1⟩ := draw_ok X (n + 2) ns m (many := 4) (by decide) (by omega)
  have hp : (1 + c).toNat ≤ 4 := by omega
  have hp1 : 1 ≤ (1 + c).toNat := by omega
  have hpe : (((1 + c).toNat : Nat) : Int) = 1 + c := Int.toNat_of_nonneg (by omega)
  generalize (1 + c).toNat = len at hp hp1 hpe
  let ρ : List (Option Va) := [some (.s ns), some (.c 0), some (.d (.int most)), none]
  obtain ⟨ys, W', e6, hl6, ts, m', hys, hgood, htops, hlen, hm', hW⟩ := comp_st2 (Φ := Ph X (n + 5)) (gl := gl) E_law_plan_0 rfl (s := ⟨ρ, [], [.lst (town m)]⟩) (s1 := ⟨ρ, [], [.lst (town (m + 1))]⟩) (xs := List.range len) (fun (i : Nat) => .int (i : Int))
    (fun j ys W => ∃ (ts : List Tm) (m' : Nat), ys = ts.map Tm.toD ∧ (∀ k t, ts[k]? = some t → GoodT k t) ∧ (∀ t ∈ ts, t.tp ≤ 9 ∨ t.tp = most) ∧ ts.length = j ∧ m' ≤ m + 1 + 20 * j ∧ W = [.lst (town m')])
    (by
      have q := rng1_src (Φ := Ph X (n + 5)) (gl := gl) (a := .bin .add (.cst (.int 1)) (.call 86 0 (.cons (.var 0) (.cons (.var 1) (.cons (.cst (.int 4)) .nil))))) (s := ⟨ρ, [], [.lst (town m)]⟩) (t := ⟨ρ, [], [.lst (town (m + 1))]⟩) (n := len) (by rw [hpe]; simp -implicitDefEqProofs [BC.run, toAvs, toAv, apart, b0ok, backOk, backAll, isiV, peek, isiD, tru, peekR, truthD, cmpD, ltD, binD, addD, subD, solid, solids, peeks, setTg, setIs, one1_dat, bfD, bLen, isNone, dat, partM, partI, Xe.isNil, Va.tag, goes, Re.closed, resOf, setRes, lstAt, sem_fld, kFld, kFld2, sem_fidx, kFidx, kFidx2, kFidx3, kFidx4, kFidxM, sem_oidx, kOidx, kOidx2, kOidx3, sem_flen, kFlen, kFlen2, sem_fcopy, kFcopy, kFcopy2, sem_sfl, kSfl, kSfl2, sem_popE, kPopE, kPopE2, kPopE3, sem_meth, kMe, kMeM, kMe2, sem_sset, kSset, kSset2, sem_rng1, kRng1, sem_rng2, kRng2, kRng3, sem_mt, kMt, kMt2, kMt3, mtTy, mtD, sem_dget, kDget, kDget2, kDget3, sem_pop, kPop, semS_setf, kSetf, kSetf2, kSetf3, semS_setfs, kSetfs, kSetfs2, kSetfs3, setFs, semS_newB, kNewB, kNewB2, semS_newFR, kNewFR, kNewFRm, kNewFR2, kNewFR3, kNewFO3, kPutO, semS_newFO, kNewFO, kNewFOm, kNewFOm2, semS_appE, kAppE, kAppEm, kAppE2, kAppE3, semS_newC, kNewC, kNewC2, kNewC2m, kNewC3, semS_ext, kExt, kExt2, kExt3, semS_tryA, kTryA, subX, isiX, insOf, setIns, getN, putN, heldV, simV, Re.cls, BC.listOf, closeB, openB, leave, outs, Re.plain, Fv.closed, ρ, e1]) (by omega)
      exact q) (by simp [lim]; omega) ⟨[], m + 1, rfl, (by simp), (by simp), rfl, by omega, rfl⟩ (fun j hj ys W hy ⟨ts, m', q1, q2, q3, q4, q5, q6⟩ => by
      have hj' : j < len := by simpa using hj
      obtain ⟨t, m2, g1, g2, g3, e7⟩ := timer_gen X n ns m' j most h1 h2 (by omega) (by omega)
      refine ⟨t.toD, ρ.set 3 (some (.d (.int (((List.range len)[j] : Nat) : Int)))), [.lst (town m2)], ?_, ts ++ [t], m2, by simp [q1], ?_, ?_, by simp [q4], by omega, rfl⟩
      · subst q6
        simp -implicitDefEqProofs [BC.run, toAvs, toAv, apart, b0ok, backOk, backAll, isiV, peek, isiD, tru, peekR, truthD, cmpD, ltD, binD, addD, subD, solid, solids, peeks, setTg, setIs, one1_dat, bfD, bLen, isNone, dat, partM, partI, Xe.isNil, Va.tag, goes, Re.closed, resOf, setRes, lstAt, sem_fld, kFld, kFld2, sem_fidx, kFidx, kFidx2, kFidx3, kFidx4, kFidxM, sem_oidx, kOidx, kOidx2, kOidx3, sem_flen, kFlen, kFlen2, sem_fcopy, kFcopy, kFcopy2, sem_sfl, kSfl, kSfl2, sem_popE, kPopE, kPopE2, kPopE3, sem_meth, kMe, kMeM, kMe2, sem_sset, kSset, kSset2, sem_rng1, kRng1, sem_rng2, kRng2, kRng3, sem_mt, kMt, kMt2, kMt3, mtTy, mtD, sem_dget, kDget, kDget2, kDget3, sem_pop, kPop, semS_setf, kSetf, kSetf2, kSetf3, semS_setfs, kSetfs, kSetfs2, kSetfs3, setFs, semS_newB, kNewB, kNewB2, semS_newFR, kNewFR, kNewFRm, kNewFR2, kNewFR3, kNewFO3, kPutO, semS_newFO, kNewFO, kNewFOm, kNewFOm2, semS_appE, kAppE, kAppEm, kAppE2, kAppE3, semS_newC, kNewC, kNewC2, kNewC2m, kNewC3, semS_ext, kExt, kExt2, kExt3, semS_tryA, kTryA, subX, isiX, insOf, setIns, getN, putN, heldV, simV, Re.cls, BC.listOf, closeB, openB, leave, outs, Re.plain, Fv.closed, ρ, e7]
      · intro k u hu
        by_cases hk : k < ts.length
        · rw [List.getElem?_append_left hk] at hu
          exact q2 k u hu
        · have : k = ts.length := by
            have := (List.getElem?_eq_some_iff.mp hu).1
            simp at this
            omega
          subst this
          rw [List.getElem?_append_right (Nat.le_refl _)] at hu
          simp only [Nat.sub_self, List.getElem?_cons_zero, Option.some.injEq] at hu
          subst hu
          rw [q4]
          exact g1
      · intro u hu
        rcases List.mem_append.mp hu with h | h
        · exact q3 u h
        · obtain rfl : u = t := by simpa using h
          exact g2)
  simp only [List.length_range] at hlen hm'
  refine ⟨ts, m', ⟨⟨by omega, by omega, hgood⟩, htops⟩, by omega, ?_⟩
  subst hys
  subst hW
  rw [eq_law_plan]
  refine defF_f ρ [.lst (town m)] rfl (by decide) rfl rfl ?_
  unfold C_law_plan
  simp -implicitDefEqProofs [BC.run, toAvs, toAv, apart, b0ok, backOk, backAll, isiV, peek, isiD, tru, peekR, truthD, cmpD, ltD, binD, addD, subD, solid, solids, peeks, setTg, setIs, one1_dat, bfD, bLen, isNone, dat, partM, partI, Xe.isNil, Va.tag, goes, Re.closed, resOf, setRes, lstAt, sem_fld, kFld, kFld2, sem_fidx, kFidx, kFidx2, kFidx3, kFidx4, kFidxM, sem_oidx, kOidx, kOidx2, kOidx3, sem_flen, kFlen, kFlen2, sem_fcopy, kFcopy, kFcopy2, sem_sfl, kSfl, kSfl2, sem_popE, kPopE, kPopE2, kPopE3, sem_meth, kMe, kMeM, kMe2, sem_sset, kSset, kSset2, sem_rng1, kRng1, sem_rng2, kRng2, kRng3, sem_mt, kMt, kMt2, kMt3, mtTy, mtD, sem_dget, kDget, kDget2, kDget3, sem_pop, kPop, semS_setf, kSetf, kSetf2, kSetf3, semS_setfs, kSetfs, kSetfs2, kSetfs3, setFs, semS_newB, kNewB, kNewB2, semS_newFR, kNewFR, kNewFRm, kNewFR2, kNewFR3, kNewFO3, kPutO, semS_newFO, kNewFO, kNewFOm, kNewFOm2, semS_appE, kAppE, kAppEm, kAppE2, kAppE3, semS_newC, kNewC, kNewC2, kNewC2m, kNewC3, semS_ext, kExt, kExt2, kExt3, semS_tryA, kTryA, subX, isiX, insOf, setIns, getN, putN, heldV, simV, Re.cls, BC.listOf, closeB, openB, leave, outs, Re.plain, Fv.closed, e6, bTuple, planD]
end
end BC

/-! PL3: what a law says of a caught error. -/
namespace BC
open PySem
def errW : Nat → Str
  | 1 => "plan" | 2 => "timer" | 3 => "line" | 4 => "number" | 5 => "many" | 6 => "reads" | 7 => "nothing" | 8 => "text" | 9 => "rules"
  | _ => ""
theorem cnt8 (a b c d e f g h : Bool) : mtD .count (.list [.bool a, .bool b, .bool c, .bool d, .bool e, .bool f, .bool g, .bool h]) [.bool true] = some (.int (([a, b, c, d, e, f, g, h].count true : Nat) : Int)) := by
  cases a <;> cases b <;> cases c <;> cases d <;> cases e <;> cases f <;> cases g <;> cases h <;> rfl
section
variable (X : List Dc) (n : Nat)
theorem refusalA_eq (e : Nat) (h : 1 ≤ e ∧ e ≤ 8) : Ph X (n + 1) 88 [.x e] = .ok (.d (.tuple [.str "refused", .str (errW e)])) [] := by
  rw [eq_law_refusalA]
  have c : e = 1 ∨ e = 2 ∨ e = 3 ∨ e = 4 ∨ e = 5 ∨ e = 6 ∨ e = 7 ∨ e = 8 := by omega
  refine defF_f [some (.x e), none] [] rfl (by decide) rfl rfl ?_
  unfold C_law_refusalA
  have ci : ∀ l x, mtD .count l x = cntD l x := fun _ _ => rfl
  have fi : ∀ l x, mtD .index l x = fndD l x := fun _ _ => rfl
  have ix0 : L2.ixN 8 0 = some 0 := rfl
  have ix1 : L2.ixN 8 1 = some 1 := rfl
  have ix2 : L2.ixN 8 2 = some 2 := rfl
  have ix3 : L2.ixN 8 3 = some 3 := rfl
  have ix4 : L2.ixN 8 4 = some 4 := rfl
  have ix5 : L2.ixN 8 5 = some 5 := rfl
  have ix6 : L2.ixN 8 6 = some 6 := rfl
  have ix7 : L2.ixN 8 7 = some 7 := rfl
  rcases c with h | h | h | h | h | h | h | h <;> subst h <;> simp -implicitDefEqProofs [BC.run, toAvs, toAv, apart, b0ok, backOk, backAll, isiV, peek, isiD, tru, peekR, truthD, cmpD, ltD, binD, addD, subD, solid, solids, peeks, setTg, setIs, one1_dat, bfD, bLen, isNone, dat, partM, partI, Xe.isNil, Va.tag, goes, Re.closed, resOf, setRes, lstAt, sem_fld, kFld, kFld2, sem_fidx, kFidx, kFidx2, kFidx3, kFidx4, kFidxM, sem_oidx, kOidx, kOidx2, kOidx3, sem_flen, kFlen, kFlen2, sem_fcopy, kFcopy, kFcopy2, sem_sfl, kSfl, kSfl2, sem_popE, kPopE, kPopE2, kPopE3, sem_meth, kMe, kMeM, kMe2, sem_sset, kSset, kSset2, sem_rng1, kRng1, sem_rng2, kRng2, kRng3, sem_mt, kMt, kMt2, kMt3, mtTy, mtD, sem_dget, kDget, kDget2, kDget3, sem_pop, kPop, semS_setf, kSetf, kSetf2, kSetf3, semS_setfs, kSetfs, kSetfs2, kSetfs3, setFs, semS_newB, kNewB, kNewB2, semS_newFR, kNewFR, kNewFRm, kNewFR2, kNewFR3, kNewFO3, kPutO, semS_newFO, kNewFO, kNewFOm, kNewFOm2, semS_appE, kAppE, kAppEm, kAppE2, kAppE3, semS_newC, kNewC, kNewC2, kNewC2m, kNewC3, semS_ext, kExt, kExt2, kExt3, semS_tryA, kTryA, subX, isiX, insOf, setIns, getN, putN, heldV, simV, Re.cls, BC.listOf, closeB, openB, leave, outs, Re.plain, Fv.closed, lim, eqD_int, cntD, fndD, flatD, PyData.eqv, List.countP_cons, List.findIdx?_cons, errW, isiX, idxD, L2.atI, ix0, ix1, ix2, ix3, ix4, ix5, ix6, ix7]
end
end BC

/-! PM7: functions that take a plan, at a plan that can't be. -/
namespace BC
open PySem
section
variable (X : List Dc) (n : Nat)
theorem deeds_none : Ph X (n + 1) 41 [.d .none] = .err 4 [] := by
  rw [eq_look_deeds]
  refine defF_f [some (.d .none), none] [] rfl (by decide) rfl rfl ?_
  unfold C_look_deeds
  simp -implicitDefEqProofs [BC.run, toAvs, toAv, apart, b0ok, backOk, backAll, isiV, peek, isiD, tru, peekR, truthD, cmpD, ltD, binD, addD, subD, solid, solids, peeks, setTg, setIs, one1_dat, bfD, bLen, isNone, dat, partM, partI, Xe.isNil, Va.tag, goes, Re.closed, resOf, setRes, lstAt, sem_fld, kFld, kFld2, sem_fidx, kFidx, kFidx2, kFidx3, kFidx4, kFidxM, sem_oidx, kOidx, kOidx2, kOidx3, sem_flen, kFlen, kFlen2, sem_fcopy, kFcopy, kFcopy2, sem_sfl, kSfl, kSfl2, sem_popE, kPopE, kPopE2, kPopE3, sem_meth, kMe, kMeM, kMe2, sem_sset, kSset, kSset2, sem_rng1, kRng1, sem_rng2, kRng2, kRng3, sem_mt, kMt, kMt2, kMt3, mtTy, mtD, sem_dget, kDget, kDget2, kDget3, sem_pop, kPop, semS_setf, kSetf, kSetf2, kSetf3, semS_setfs, kSetfs, kSetfs2, kSetfs3, setFs, semS_newB, kNewB, kNewB2, semS_newFR, kNewFR, kNewFRm, kNewFR2, kNewFR3, kNewFO3, kPutO, semS_newFO, kNewFO, kNewFOm, kNewFOm2, semS_appE, kAppE, kAppEm, kAppE2, kAppE3, semS_newC, kNewC, kNewC2, kNewC2m, kNewC3, semS_ext, kExt, kExt2, kExt3, semS_tryA, kTryA, subX, isiX, insOf, setIns, getN, putN, heldV, simV, Re.cls, BC.listOf, closeB, openB, leave, outs, Re.plain, Fv.closed, finF]
theorem events_bad {p d : PyData} (h : Ok4 p) (hb : planB p = false) : Ph X (n + 7) 43 [.d p, .d d] = .err 1 [] := by
  have e := chip_make_err X n h hb
  rw [eq_events]
  refine defF_f [some (.d p), some (.d d), none, none, none] [] rfl (by decide) rfl rfl ?_
  unfold C_events
  simp -implicitDefEqProofs [BC.run, toAvs, toAv, apart, b0ok, backOk, backAll, isiV, peek, isiD, tru, peekR, truthD, cmpD, ltD, binD, addD, subD, solid, solids, peeks, setTg, setIs, one1_dat, bfD, bLen, isNone, dat, partM, partI, Xe.isNil, Va.tag, goes, Re.closed, resOf, setRes, lstAt, sem_fld, kFld, kFld2, sem_fidx, kFidx, kFidx2, kFidx3, kFidx4, kFidxM, sem_oidx, kOidx, kOidx2, kOidx3, sem_flen, kFlen, kFlen2, sem_fcopy, kFcopy, kFcopy2, sem_sfl, kSfl, kSfl2, sem_popE, kPopE, kPopE2, kPopE3, sem_meth, kMe, kMeM, kMe2, sem_sset, kSset, kSset2, sem_rng1, kRng1, sem_rng2, kRng2, kRng3, sem_mt, kMt, kMt2, kMt3, mtTy, mtD, sem_dget, kDget, kDget2, kDget3, sem_pop, kPop, semS_setf, kSetf, kSetf2, kSetf3, semS_setfs, kSetfs, kSetfs2, kSetfs3, setFs, semS_newB, kNewB, kNewB2, semS_newFR, kNewFR, kNewFRm, kNewFR2, kNewFR3, kNewFO3, kPutO, semS_newFO, kNewFO, kNewFOm, kNewFOm2, semS_appE, kAppE, kAppEm, kAppE2, kAppE3, semS_newC, kNewC, kNewC2, kNewC2m, kNewC3, semS_ext, kExt, kExt2, kExt3, semS_tryA, kTryA, subX, isiX, insOf, setIns, getN, putN, heldV, simV, Re.cls, BC.listOf, closeB, openB, leave, outs, Re.plain, Fv.closed, finF, e]
theorem events_none {ts : List Tm} (h : GoodP ts) : Ph X (n + 7) 43 [.d (planD ts), .d .none] = .err 4 [] := by
  have e := chip_make_ok X n h
  have e2 := deeds_none X (n + 5)
  rw [eq_events]
  refine defF_f [some (.d (planD ts)), some (.d .none), none, none, none] [] rfl (by decide) rfl rfl ?_
  unfold C_events
  simp -implicitDefEqProofs [BC.run, toAvs, toAv, apart, b0ok, backOk, backAll, isiV, peek, isiD, tru, peekR, truthD, cmpD, ltD, binD, addD, subD, solid, solids, peeks, setTg, setIs, one1_dat, bfD, bLen, isNone, dat, partM, partI, Xe.isNil, Va.tag, goes, Re.closed, resOf, setRes, lstAt, sem_fld, kFld, kFld2, sem_fidx, kFidx, kFidx2, kFidx3, kFidx4, kFidxM, sem_oidx, kOidx, kOidx2, kOidx3, sem_flen, kFlen, kFlen2, sem_fcopy, kFcopy, kFcopy2, sem_sfl, kSfl, kSfl2, sem_popE, kPopE, kPopE2, kPopE3, sem_meth, kMe, kMeM, kMe2, sem_sset, kSset, kSset2, sem_rng1, kRng1, sem_rng2, kRng2, kRng3, sem_mt, kMt, kMt2, kMt3, mtTy, mtD, sem_dget, kDget, kDget2, kDget3, sem_pop, kPop, semS_setf, kSetf, kSetf2, kSetf3, semS_setfs, kSetfs, kSetfs2, kSetfs3, setFs, semS_newB, kNewB, kNewB2, semS_newFR, kNewFR, kNewFRm, kNewFR2, kNewFR3, kNewFO3, kPutO, semS_newFO, kNewFO, kNewFOm, kNewFOm2, semS_appE, kAppE, kAppEm, kAppE2, kAppE3, semS_newC, kNewC, kNewC2, kNewC2m, kNewC3, semS_ext, kExt, kExt2, kExt3, semS_tryA, kTryA, subX, isiX, insOf, setIns, getN, putN, heldV, simV, Re.cls, BC.listOf, closeB, openB, leave, outs, Re.plain, Fv.closed, finF, e, e2]
theorem behind_bad {p d : PyData} (h : Ok4 p) (hb : planB p = false) : Ph X (n + 7) 44 [.d p, .d d] = .err 1 [] := by
  have e := chip_make_err X n h hb
  rw [eq_behind]
  refine defF_f [some (.d p), some (.d d), none, none, none] [] rfl (by decide) rfl rfl ?_
  unfold C_behind
  simp -implicitDefEqProofs [BC.run, toAvs, toAv, apart, b0ok, backOk, backAll, isiV, peek, isiD, tru, peekR, truthD, cmpD, ltD, binD, addD, subD, solid, solids, peeks, setTg, setIs, one1_dat, bfD, bLen, isNone, dat, partM, partI, Xe.isNil, Va.tag, goes, Re.closed, resOf, setRes, lstAt, sem_fld, kFld, kFld2, sem_fidx, kFidx, kFidx2, kFidx3, kFidx4, kFidxM, sem_oidx, kOidx, kOidx2, kOidx3, sem_flen, kFlen, kFlen2, sem_fcopy, kFcopy, kFcopy2, sem_sfl, kSfl, kSfl2, sem_popE, kPopE, kPopE2, kPopE3, sem_meth, kMe, kMeM, kMe2, sem_sset, kSset, kSset2, sem_rng1, kRng1, sem_rng2, kRng2, kRng3, sem_mt, kMt, kMt2, kMt3, mtTy, mtD, sem_dget, kDget, kDget2, kDget3, sem_pop, kPop, semS_setf, kSetf, kSetf2, kSetf3, semS_setfs, kSetfs, kSetfs2, kSetfs3, setFs, semS_newB, kNewB, kNewB2, semS_newFR, kNewFR, kNewFRm, kNewFR2, kNewFR3, kNewFO3, kPutO, semS_newFO, kNewFO, kNewFOm, kNewFOm2, semS_appE, kAppE, kAppEm, kAppE2, kAppE3, semS_newC, kNewC, kNewC2, kNewC2m, kNewC3, semS_ext, kExt, kExt2, kExt3, semS_tryA, kTryA, subX, isiX, insOf, setIns, getN, putN, heldV, simV, Re.cls, BC.listOf, closeB, openB, leave, outs, Re.plain, Fv.closed, finF, e]
theorem behind_none {ts : List Tm} (h : GoodP ts) : Ph X (n + 7) 44 [.d (planD ts), .d .none] = .err 4 [] := by
  have e := chip_make_ok X n h
  have e2 := deeds_none X (n + 5)
  rw [eq_behind]
  refine defF_f [some (.d (planD ts)), some (.d .none), none, none, none] [] rfl (by decide) rfl rfl ?_
  unfold C_behind
  simp -implicitDefEqProofs [BC.run, toAvs, toAv, apart, b0ok, backOk, backAll, isiV, peek, isiD, tru, peekR, truthD, cmpD, ltD, binD, addD, subD, solid, solids, peeks, setTg, setIs, one1_dat, bfD, bLen, isNone, dat, partM, partI, Xe.isNil, Va.tag, goes, Re.closed, resOf, setRes, lstAt, sem_fld, kFld, kFld2, sem_fidx, kFidx, kFidx2, kFidx3, kFidx4, kFidxM, sem_oidx, kOidx, kOidx2, kOidx3, sem_flen, kFlen, kFlen2, sem_fcopy, kFcopy, kFcopy2, sem_sfl, kSfl, kSfl2, sem_popE, kPopE, kPopE2, kPopE3, sem_meth, kMe, kMeM, kMe2, sem_sset, kSset, kSset2, sem_rng1, kRng1, sem_rng2, kRng2, kRng3, sem_mt, kMt, kMt2, kMt3, mtTy, mtD, sem_dget, kDget, kDget2, kDget3, sem_pop, kPop, semS_setf, kSetf, kSetf2, kSetf3, semS_setfs, kSetfs, kSetfs2, kSetfs3, setFs, semS_newB, kNewB, kNewB2, semS_newFR, kNewFR, kNewFRm, kNewFR2, kNewFR3, kNewFO3, kPutO, semS_newFO, kNewFO, kNewFOm, kNewFOm2, semS_appE, kAppE, kAppEm, kAppE2, kAppE3, semS_newC, kNewC, kNewC2, kNewC2m, kNewC3, semS_ext, kExt, kExt2, kExt3, semS_tryA, kTryA, subX, isiX, insOf, setIns, getN, putN, heldV, simV, Re.cls, BC.listOf, closeB, openB, leave, outs, Re.plain, Fv.closed, finF, e, e2]
theorem first_bad {p d a b : PyData} (h : Ok4 p) (hb : planB p = false) : Ph X (n + 7) 45 [.d p, .d d, .d a, .d b] = .err 1 [] := by
  have e := chip_make_err X n h hb
  rw [eq_first_time]
  refine defF_f [some (.d p), some (.d d), some (.d a), some (.d b), none, none, none] [] rfl (by decide) rfl rfl ?_
  unfold C_first_time
  simp -implicitDefEqProofs [BC.run, toAvs, toAv, apart, b0ok, backOk, backAll, isiV, peek, isiD, tru, peekR, truthD, cmpD, ltD, binD, addD, subD, solid, solids, peeks, setTg, setIs, one1_dat, bfD, bLen, isNone, dat, partM, partI, Xe.isNil, Va.tag, goes, Re.closed, resOf, setRes, lstAt, sem_fld, kFld, kFld2, sem_fidx, kFidx, kFidx2, kFidx3, kFidx4, kFidxM, sem_oidx, kOidx, kOidx2, kOidx3, sem_flen, kFlen, kFlen2, sem_fcopy, kFcopy, kFcopy2, sem_sfl, kSfl, kSfl2, sem_popE, kPopE, kPopE2, kPopE3, sem_meth, kMe, kMeM, kMe2, sem_sset, kSset, kSset2, sem_rng1, kRng1, sem_rng2, kRng2, kRng3, sem_mt, kMt, kMt2, kMt3, mtTy, mtD, sem_dget, kDget, kDget2, kDget3, sem_pop, kPop, semS_setf, kSetf, kSetf2, kSetf3, semS_setfs, kSetfs, kSetfs2, kSetfs3, setFs, semS_newB, kNewB, kNewB2, semS_newFR, kNewFR, kNewFRm, kNewFR2, kNewFR3, kNewFO3, kPutO, semS_newFO, kNewFO, kNewFOm, kNewFOm2, semS_appE, kAppE, kAppEm, kAppE2, kAppE3, semS_newC, kNewC, kNewC2, kNewC2m, kNewC3, semS_ext, kExt, kExt2, kExt3, semS_tryA, kTryA, subX, isiX, insOf, setIns, getN, putN, heldV, simV, Re.cls, BC.listOf, closeB, openB, leave, outs, Re.plain, Fv.closed, finF, e]
theorem written_bad {p : PyData} (h : Ok4 p) (hb : planB p = false) : Ph X (n + 5) 48 [.d p] = .err 1 [] := by
  have e := look_plan_eq X n h
  rw [hb, if_neg (by decide)] at e
  rw [eq_written]
  refine defF_f [some (.d p), none] [] rfl (by decide) rfl rfl ?_
  unfold C_written
  simp -implicitDefEqProofs [BC.run, toAvs, toAv, apart, b0ok, backOk, backAll, isiV, peek, isiD, tru, peekR, truthD, cmpD, ltD, binD, addD, subD, solid, solids, peeks, setTg, setIs, one1_dat, bfD, bLen, isNone, dat, partM, partI, Xe.isNil, Va.tag, goes, Re.closed, resOf, setRes, lstAt, sem_fld, kFld, kFld2, sem_fidx, kFidx, kFidx2, kFidx3, kFidx4, kFidxM, sem_oidx, kOidx, kOidx2, kOidx3, sem_flen, kFlen, kFlen2, sem_fcopy, kFcopy, kFcopy2, sem_sfl, kSfl, kSfl2, sem_popE, kPopE, kPopE2, kPopE3, sem_meth, kMe, kMeM, kMe2, sem_sset, kSset, kSset2, sem_rng1, kRng1, sem_rng2, kRng2, kRng3, sem_mt, kMt, kMt2, kMt3, mtTy, mtD, sem_dget, kDget, kDget2, kDget3, sem_pop, kPop, semS_setf, kSetf, kSetf2, kSetf3, semS_setfs, kSetfs, kSetfs2, kSetfs3, setFs, semS_newB, kNewB, kNewB2, semS_newFR, kNewFR, kNewFRm, kNewFR2, kNewFR3, kNewFO3, kPutO, semS_newFO, kNewFO, kNewFOm, kNewFOm2, semS_appE, kAppE, kAppEm, kAppE2, kAppE3, semS_newC, kNewC, kNewC2, kNewC2m, kNewC3, semS_ext, kExt, kExt2, kExt3, semS_tryA, kTryA, subX, isiX, insOf, setIns, getN, putN, heldV, simV, Re.cls, BC.listOf, closeB, openB, leave, outs, Re.plain, Fv.closed, finF, e]
theorem rounds_bad {p : PyData} (h : Ok4 p) (hb : planB p = false) : Ph X (n + 5) 7 [.d p] = .err 1 [] := by
  have e := look_plan_eq X n h
  rw [hb, if_neg (by decide)] at e
  rw [eq_rounds]
  refine defF_f [some (.d p), none, none, none, none, none, none, none, none, none, none, none] [] rfl (by decide) rfl rfl ?_
  unfold C_rounds
  simp -implicitDefEqProofs [BC.run, toAvs, toAv, apart, b0ok, backOk, backAll, isiV, peek, isiD, tru, peekR, truthD, cmpD, ltD, binD, addD, subD, solid, solids, peeks, setTg, setIs, one1_dat, bfD, bLen, isNone, dat, partM, partI, Xe.isNil, Va.tag, goes, Re.closed, resOf, setRes, lstAt, sem_fld, kFld, kFld2, sem_fidx, kFidx, kFidx2, kFidx3, kFidx4, kFidxM, sem_oidx, kOidx, kOidx2, kOidx3, sem_flen, kFlen, kFlen2, sem_fcopy, kFcopy, kFcopy2, sem_sfl, kSfl, kSfl2, sem_popE, kPopE, kPopE2, kPopE3, sem_meth, kMe, kMeM, kMe2, sem_sset, kSset, kSset2, sem_rng1, kRng1, sem_rng2, kRng2, kRng3, sem_mt, kMt, kMt2, kMt3, mtTy, mtD, sem_dget, kDget, kDget2, kDget3, sem_pop, kPop, semS_setf, kSetf, kSetf2, kSetf3, semS_setfs, kSetfs, kSetfs2, kSetfs3, setFs, semS_newB, kNewB, kNewB2, semS_newFR, kNewFR, kNewFRm, kNewFR2, kNewFR3, kNewFO3, kPutO, semS_newFO, kNewFO, kNewFOm, kNewFOm2, semS_appE, kAppE, kAppEm, kAppE2, kAppE3, semS_newC, kNewC, kNewC2, kNewC2m, kNewC3, semS_ext, kExt, kExt2, kExt3, semS_tryA, kTryA, subX, isiX, insOf, setIns, getN, putN, heldV, simV, Re.cls, BC.listOf, closeB, openB, leave, outs, Re.plain, Fv.closed, finF, e]
theorem beat_eq (ts : List Tm) (ss : List Ts) (lines : List Bool) (b : Int) (past : List PyData) : Ph X (n + 1) 25 [.r (chipRe ts ss lines b past)] = .ok (.d (.int b)) [chipRe ts ss lines b past] := by
  rw [eq_Chip_beat]
  simp only [defF, C_Chip_beat, enter, enter.enterW]
  simp -implicitDefEqProofs [BC.run, toAvs, toAv, apart, b0ok, backOk, backAll, isiV, peek, isiD, tru, peekR, truthD, cmpD, ltD, binD, addD, subD, solid, solids, peeks, setTg, setIs, one1_dat, bfD, bLen, isNone, dat, partM, partI, Xe.isNil, Va.tag, goes, Re.closed, resOf, setRes, lstAt, sem_fld, kFld, kFld2, sem_fidx, kFidx, kFidx2, kFidx3, kFidx4, kFidxM, sem_oidx, kOidx, kOidx2, kOidx3, sem_flen, kFlen, kFlen2, sem_fcopy, kFcopy, kFcopy2, sem_sfl, kSfl, kSfl2, sem_popE, kPopE, kPopE2, kPopE3, sem_meth, kMe, kMeM, kMe2, sem_sset, kSset, kSset2, sem_rng1, kRng1, sem_rng2, kRng2, kRng3, sem_mt, kMt, kMt2, kMt3, mtTy, mtD, sem_dget, kDget, kDget2, kDget3, sem_pop, kPop, semS_setf, kSetf, kSetf2, kSetf3, semS_setfs, kSetfs, kSetfs2, kSetfs3, setFs, semS_newB, kNewB, kNewB2, semS_newFR, kNewFR, kNewFRm, kNewFR2, kNewFR3, kNewFO3, kPutO, semS_newFO, kNewFO, kNewFOm, kNewFOm2, semS_appE, kAppE, kAppEm, kAppE2, kAppE3, semS_newC, kNewC, kNewC2, kNewC2m, kNewC3, semS_ext, kExt, kExt2, kExt3, semS_tryA, kTryA, subX, isiX, insOf, setIns, getN, putN, heldV, simV, Re.cls, BC.listOf, closeB, openB, leave, outs, Re.plain, Fv.closed, boxed, chipRe, chipIns, -outs, outs_box]
end
end BC

/-! PL4: plans of which one thing can't be. -/
namespace BC
open PySem
theorem cut_take {l : List PyData} {j : Nat} (h : j ≤ l.length) : cutD l none (some (j : Int)) = l.take j := by
  unfold cutD
  rw [HT.sIx_none, HT.sIx_nat, Nat.min_eq_left h]
  simp
theorem cut_drop {l : List PyData} {j : Nat} (h : j + 1 ≤ l.length) : cutD l (some ((j : Int) + 1)) none = l.drop (j + 1) := by
  unfold cutD
  rw [show ((j : Int) + 1) = ((j + 1 : Nat) : Int) by omega, HT.sIx_none, HT.sIx_nat, Nat.min_eq_left h]
  rw [List.take_of_length_le (by simp)]
theorem set_cut {l : List PyData} {j : Nat} (h : j < l.length) (y : PyData) : l.take j ++ ([y] ++ l.drop (j + 1)) = l.set j y := by
  rw [List.set_eq_take_append_cons_drop, if_pos h]
  rfl
theorem planB_set {l : List PyData} {j : Nat} {y : PyData} (h : j < l.length) (hb : timerB (j : Int) y = false) : planB (.tuple (l.set j y)) = false := by
  unfold planB
  have e : ((List.range (l.set j y).length).all fun (k : Nat) => timerB (k : Int) (nthD (l.set j y) k)) = false := by
    rw [List.all_eq_false]
    refine ⟨j, by simpa using h, ?_⟩
    have : nthD (l.set j y) j = y := by
      unfold nthD
      rw [List.getD_eq_getElem?_getD, List.getElem?_set_self h]
      rfl
    rw [this, hb]
    decide
  show (_ && (List.range _).all fun (k : Nat) => timerB (k : Int) (nthD _ k)) = false
  rw [e, Bool.and_false]
theorem planB_app {l : List PyData} {y : PyData} (hb : timerB (l.length : Int) y = false) : planB (.tuple (l ++ [y])) = false := by
  unfold planB
  have e : ((List.range (l ++ [y]).length).all fun (k : Nat) => timerB (k : Int) (nthD (l ++ [y]) k)) = false := by
    rw [List.all_eq_false]
    refine ⟨l.length, by simp, ?_⟩
    have : nthD (l ++ [y]) l.length = y := by
      unfold nthD
      rw [List.getD_eq_getElem?_getD, List.getElem?_append_right (Nat.le_refl _)]
      simp
    rw [this, hb]
    decide
  show (_ && (List.range _).all fun (k : Nat) => timerB (k : Int) (nthD _ k)) = false
  rw [e, Bool.and_false]
theorem ok4_tuple {l : List PyData} (hl : l.length ≤ lim) (h : ∀ y ∈ l, Ok3 y) : Ok4 (.tuple l) := ⟨rfl, fun l' e => by cases e; exact ⟨hl, h⟩⟩
theorem ok4_flat {x : PyData} (h : okD x = true) (hn : ∀ l, x ≠ .tuple l) : Ok4 x := ⟨h, fun l e => (hn l e).elim⟩
theorem ok3_all {ts : List Tm} (h : GoodP ts) : ∀ y ∈ ts.map Tm.toD, Ok3 y := ((ok4_D h).all _ rfl).2
theorem ok3_flat {x : PyData} (h : okD x = true) (hn : ∀ l, x ≠ .tuple l) : Ok3 x := ⟨by cases x <;> first | exact h | exact (hn _ rfl).elim, fun l e => (hn l e).elim⟩
/-- the items of a timer's row -/
def rowD (t : Tm) : List PyData := [srcD t.src, .int t.dv, .str t.md.str, .int t.tp, edgeD t.gate, .tuple (t.ms.map .int), edgeD t.ca, .bool t.once]
theorem toD_row (t : Tm) : t.toD = .tuple (rowD t) := rfl
structure Ok2 (y : PyData) : Prop where
  ok : ok2 y = true
  sm : ∀ m, y = .tuple m → m.length ≤ lim
theorem ok3_row {t : Tm} (h : t.ms.length ≤ lim) : ∀ y ∈ rowD t, Ok2 y := fun y hy => by
  have q := ok3_D t h
  refine ⟨?_, fun m e => q.sm _ rfl y hy m e⟩
  have q1 : (decide ((rowD t).length ≤ lim) && (rowD t).all ok2) = true := q.ok
  rw [Bool.and_eq_true] at q1
  exact List.all_eq_true.mp q1.2 y hy
theorem ok3_tuple {l : List PyData} (hl : l.length ≤ lim) (h : ∀ y ∈ l, Ok2 y) : Ok3 (.tuple l) := ⟨by
  show (decide (l.length ≤ lim) && l.all ok2) = true
  rw [Bool.and_eq_true]
  exact ⟨by simpa using hl, List.all_eq_true.mpr fun y hy => (h y hy).ok⟩, fun l' e z hz m em => by
  cases e
  exact (h z hz).sm m em⟩
theorem mem_set_or {l : List PyData} {j : Nat} {y z : PyData} (h : z ∈ l.set j y) : z ∈ l ∨ z = y := List.mem_or_eq_of_mem_set h
theorem ok2_flat {x : PyData} (h : okD x = true) (hn : ∀ l, x ≠ .tuple l) : Ok2 x := ⟨by cases x <;> first | exact h | exact (hn _ rfl).elim, fun l e => (hn l e).elim⟩
theorem ok2_tup {l : List PyData} (h : l.all okD = true) (hl : l.length ≤ lim) : Ok2 (.tuple l) := ⟨h, fun m e => by cases e; exact hl⟩
def badEdges : List PyData := [.tuple [.int 4, .bool true], .tuple [.int 0, .int 1], .tuple [.int 0, .none], .tuple [.int 0], .list [.int 0, .bool true], .tuple [.bool true, .bool true], .tuple [.int (-1), .bool false], .int 0, .str "0+"]
theorem badEdges_bad : ∀ x ∈ badEdges, edgeB x = false := by
  simp only [badEdges, List.forall_mem_cons]
  refine ⟨by decide, by decide, by decide, by decide, by decide, by decide, by decide, by decide, rfl, fun _ z => by cases z⟩
theorem lim_le {k : Nat} (h : k ≤ 1000) : k ≤ lim := by show k ≤ 1000000; omega
theorem badEdges_ok : ∀ x ∈ badEdges, Ok2 x := by
  simp only [badEdges, List.forall_mem_cons]
  refine ⟨ok2_tup rfl (lim_le (by decide)), ok2_tup rfl (lim_le (by decide)), ok2_tup rfl (lim_le (by decide)), ok2_tup rfl (lim_le (by decide)), ok2_flat rfl (by intro l z; cases z), ok2_tup rfl (lim_le (by decide)), ok2_tup rfl (lim_le (by decide)), ok2_flat rfl (by intro l z; cases z), ok2_flat (by decide +kernel) (by intro l z; cases z), fun _ z => by cases z⟩
def atB (tp k : Int) (w : PyData) : Nat → Bool
  | 0 => srcB k w
  | 1 => wholeB w 1 256
  | 2 => modeB w
  | 3 => wholeB w 1 65535
  | 4 => edgeB w
  | 5 => matB tp w
  | 6 => edgeB w
  | _ => truthB w
/-- a row with one thing put in its place -/
theorem row_bad {t : Tm} {k : Nat} {w : PyData} : ∀ at_ : Nat, at_ ≤ 7 → atB t.tp (k : Int) w at_ = false → timerB (k : Int) (.tuple ((rowD t).set at_ w)) = false
  | 0, _, h => by
    show (srcB (k : Int) w && wholeB (.int t.dv) 1 256 && modeB (.str t.md.str) && wholeB (.int t.tp) 1 65535 && edgeB (edgeD t.gate) && edgeB (edgeD t.ca) && truthB (.bool t.once) && matB t.tp (.tuple (t.ms.map .int))) = false
    have h : srcB (k : Int) w = false := h
    rw [h]
    simp
  | 1, _, h => by
    show (srcB (k : Int) (srcD t.src) && wholeB w 1 256 && modeB (.str t.md.str) && wholeB (.int t.tp) 1 65535 && edgeB (edgeD t.gate) && edgeB (edgeD t.ca) && truthB (.bool t.once) && matB t.tp (.tuple (t.ms.map .int))) = false
    have h : wholeB w 1 256 = false := h
    rw [h]
    simp
  | 2, _, h => by
    show (srcB (k : Int) (srcD t.src) && wholeB (.int t.dv) 1 256 && modeB w && wholeB (.int t.tp) 1 65535 && edgeB (edgeD t.gate) && edgeB (edgeD t.ca) && truthB (.bool t.once) && matB t.tp (.tuple (t.ms.map .int))) = false
    have h : modeB w = false := h
    rw [h]
    simp
  | 3, _, h => by
    have h : wholeB w 1 65535 = false := h
    show (_ && wholeB w 1 65535 && _ && _ && _ && _) = false
    rw [h]
    simp
  | 4, _, h => by
    show (srcB (k : Int) (srcD t.src) && wholeB (.int t.dv) 1 256 && modeB (.str t.md.str) && wholeB (.int t.tp) 1 65535 && edgeB w && edgeB (edgeD t.ca) && truthB (.bool t.once) && matB t.tp (.tuple (t.ms.map .int))) = false
    have h : edgeB w = false := h
    rw [h]
    simp
  | 5, _, h => by
    show (srcB (k : Int) (srcD t.src) && wholeB (.int t.dv) 1 256 && modeB (.str t.md.str) && wholeB (.int t.tp) 1 65535 && edgeB (edgeD t.gate) && edgeB (edgeD t.ca) && truthB (.bool t.once) && matB t.tp w) = false
    have h : matB t.tp w = false := h
    rw [h]
    simp
  | 6, _, h => by
    show (srcB (k : Int) (srcD t.src) && wholeB (.int t.dv) 1 256 && modeB (.str t.md.str) && wholeB (.int t.tp) 1 65535 && edgeB (edgeD t.gate) && edgeB w && truthB (.bool t.once) && matB t.tp (.tuple (t.ms.map .int))) = false
    have h : edgeB w = false := h
    rw [h]
    simp
  | 7, _, h => by
    show (srcB (k : Int) (srcD t.src) && wholeB (.int t.dv) 1 256 && modeB (.str t.md.str) && wholeB (.int t.tp) 1 65535 && edgeB (edgeD t.gate) && edgeB (edgeD t.ca) && truthB w && matB t.tp (.tuple (t.ms.map .int))) = false
    have h : truthB w = false := h
    rw [h]
    simp
  | _ + 8, h, _ => by omega
theorem usort_sorted (l : List Int) : (usort l).Pairwise (fun a b => decide (a ≤ b) = true) := by
  exact isort_sorted _
theorem usort_nodup (l : List Int) : (usort l).Nodup := by
  unfold usort
  exact (isort_perm _).nodup_iff.mpr (nodup_dedupX l)
theorem usort_10 : usort [1, 0] ≠ [1, 0] := fun h => by
  have q := usort_sorted [1, 0]
  rw [h] at q
  exact absurd q (by decide)
theorem usort_11 : usort [1, 1] ≠ [1, 1] := fun h => by
  have q := usort_nodup [1, 1]
  rw [h] at q
  exact absurd q (by decide)
end BC

/-! PL5: spoilt plans; what the other functions say of them; the second way to tell a refusal. -/
namespace BC
open PySem
/-- a spoilt plan -/
structure Spoilt (p : PyData) : Prop where
  ok : Ok4 p
  bad : planB p = false
theorem spoilt_set {ts : List Tm} (h : GoodP ts) {j : Nat} (hj : j < ts.length) {y : PyData} (hy : Ok3 y) (hb : timerB (j : Int) y = false) : Spoilt (.tuple ((ts.map Tm.toD).set j y)) := by
  refine ⟨ok4_tuple (by have := h.n4; simp; exact Nat.le_trans this (lim_le (by decide))) fun z hz => ?_, planB_set (by simpa using hj) hb⟩
  rcases mem_set_or hz with q | q
  · exact ok3_all h z q
  · subst q; exact hy
theorem ms_lim {ts : List Tm} (h : GoodP ts) {j : Nat} {t : Tm} (hj : ts[j]? = some t) : t.ms.length ≤ lim := Nat.le_trans (h.all j t hj).ml (lim_le (by decide))
/-- a row with one thing put in its place, as a timer -/
theorem row_ok3 {ts : List Tm} (h : GoodP ts) {j : Nat} {t : Tm} (hj : ts[j]? = some t) {w : PyData} {a : Nat} (hw : Ok2 w) : Ok3 (.tuple ((rowD t).set a w)) := by
  refine ok3_tuple (by simp [rowD, lim]) fun z hz => ?_
  rcases mem_set_or hz with q | q
  · exact ok3_row (ms_lim h hj) z q
  · subst q; exact hw
theorem spoilt_row {ts : List Tm} (h : GoodP ts) {j : Nat} {t : Tm} (hj : ts[j]? = some t) {w : PyData} {a : Nat} (ha : a ≤ 7) (hw : Ok2 w) (hb : atB t.tp (j : Int) w a = false) : Spoilt (.tuple ((ts.map Tm.toD).set j (.tuple ((rowD t).set a w)))) :=
  spoilt_set h (List.getElem?_eq_some_iff.mp hj).1 (row_ok3 h hj hw) (row_bad a ha hb)
theorem flat_int (i : Int) : Ok2 (.int i) := ok2_flat rfl (by intro l z; cases z)
theorem flat_bool (i : Bool) : Ok2 (.bool i) := ok2_flat rfl (by intro l z; cases z)
theorem flat_none : Ok2 .none := ok2_flat rfl (by intro l z; cases z)
theorem flat_str {x : Str} (h : PyData.strOk x = true) : Ok2 (.str x) := ok2_flat h (by intro l z; cases z)
theorem flat_list (l : List PyData) : Ok2 (.list l) := ok2_flat rfl (by intro l z; cases z)
section
variable (X : List Dc) (n : Nat)
theorem refusalB_eq (e : Nat) (h : 1 ≤ e ∧ e ≤ 9) : Ph X (n + 1) 92 [.x e] = .ok (.d (.tuple [.str "refused", .str (errW e)])) [] := by
  rw [eq_law_refusalB]
  have c : e = 1 ∨ e = 2 ∨ e = 3 ∨ e = 4 ∨ e = 5 ∨ e = 6 ∨ e = 7 ∨ e = 8 ∨ e = 9 := by omega
  refine defF_f [some (.x e), none, none] [] rfl (by decide) rfl rfl ?_
  unfold C_law_refusalB
  have ci : ∀ l x, mtD .count l x = cntD l x := fun _ _ => rfl
  have fi : ∀ l x, mtD .index l x = fndD l x := fun _ _ => rfl
  have ix0 : L2.ixN 9 0 = some 0 := rfl
  have ix1 : L2.ixN 9 1 = some 1 := rfl
  have ix2 : L2.ixN 9 2 = some 2 := rfl
  have ix3 : L2.ixN 9 3 = some 3 := rfl
  have ix4 : L2.ixN 9 4 = some 4 := rfl
  have ix5 : L2.ixN 9 5 = some 5 := rfl
  have ix6 : L2.ixN 9 6 = some 6 := rfl
  have ix7 : L2.ixN 9 7 = some 7 := rfl
  have ix8 : L2.ixN 9 8 = some 8 := rfl
  rcases c with h | h | h | h | h | h | h | h | h <;> subst h <;> simp -implicitDefEqProofs [BC.run, toAvs, toAv, apart, b0ok, backOk, backAll, isiV, peek, isiD, tru, peekR, truthD, cmpD, ltD, binD, addD, subD, solid, solids, peeks, setTg, setIs, one1_dat, bfD, bLen, isNone, dat, partM, partI, Xe.isNil, Va.tag, goes, Re.closed, resOf, setRes, lstAt, sem_fld, kFld, kFld2, sem_fidx, kFidx, kFidx2, kFidx3, kFidx4, kFidxM, sem_oidx, kOidx, kOidx2, kOidx3, sem_flen, kFlen, kFlen2, sem_fcopy, kFcopy, kFcopy2, sem_sfl, kSfl, kSfl2, sem_popE, kPopE, kPopE2, kPopE3, sem_meth, kMe, kMeM, kMe2, sem_sset, kSset, kSset2, sem_rng1, kRng1, sem_rng2, kRng2, kRng3, sem_mt, kMt, kMt2, kMt3, mtTy, mtD, sem_dget, kDget, kDget2, kDget3, sem_pop, kPop, semS_setf, kSetf, kSetf2, kSetf3, semS_setfs, kSetfs, kSetfs2, kSetfs3, setFs, semS_newB, kNewB, kNewB2, semS_newFR, kNewFR, kNewFRm, kNewFR2, kNewFR3, kNewFO3, kPutO, semS_newFO, kNewFO, kNewFOm, kNewFOm2, semS_appE, kAppE, kAppEm, kAppE2, kAppE3, semS_newC, kNewC, kNewC2, kNewC2m, kNewC3, semS_ext, kExt, kExt2, kExt3, semS_tryA, kTryA, subX, isiX, insOf, setIns, getN, putN, heldV, simV, Re.cls, BC.listOf, closeB, openB, leave, outs, Re.plain, Fv.closed, lim, eqD_int, cntD, fndD, flatD, PyData.eqv, List.countP_cons, List.findIdx?_cons, errW, isiX, idxD, L2.atI, ix0, ix1, ix2, ix3, ix4, ix5, ix6, ix7, ix8]
theorem ruled_make_bad {p r : PyData} (h : Ok4 p) (hb : planB p = false) : Ph X (n + 8) 57 [.d p, .d r] = .err 1 [] := by
  have e := chip_make_err X n h hb
  rw [eq_Ruled]
  refine makeF_err (r := .ins 2 []) ?_
  rw [eq_Ruled_init]
  simp only [defF, C_Ruled_init, enter, enter.enterW]
  simp -implicitDefEqProofs [BC.run, toAvs, toAv, apart, b0ok, backOk, backAll, isiV, peek, isiD, tru, peekR, truthD, cmpD, ltD, binD, addD, subD, solid, solids, peeks, setTg, setIs, one1_dat, bfD, bLen, isNone, dat, partM, partI, Xe.isNil, Va.tag, goes, Re.closed, resOf, setRes, lstAt, sem_fld, kFld, kFld2, sem_fidx, kFidx, kFidx2, kFidx3, kFidx4, kFidxM, sem_oidx, kOidx, kOidx2, kOidx3, sem_flen, kFlen, kFlen2, sem_fcopy, kFcopy, kFcopy2, sem_sfl, kSfl, kSfl2, sem_popE, kPopE, kPopE2, kPopE3, sem_meth, kMe, kMeM, kMe2, sem_sset, kSset, kSset2, sem_rng1, kRng1, sem_rng2, kRng2, kRng3, sem_mt, kMt, kMt2, kMt3, mtTy, mtD, sem_dget, kDget, kDget2, kDget3, sem_pop, kPop, semS_setf, kSetf, kSetf2, kSetf3, semS_setfs, kSetfs, kSetfs2, kSetfs3, setFs, semS_newB, kNewB, kNewB2, semS_newFR, kNewFR, kNewFRm, kNewFR2, kNewFR3, kNewFO3, kPutO, semS_newFO, kNewFO, kNewFOm, kNewFOm2, semS_appE, kAppE, kAppEm, kAppE2, kAppE3, semS_newC, kNewC, kNewC2, kNewC2m, kNewC3, semS_ext, kExt, kExt2, kExt3, semS_tryA, kTryA, subX, isiX, insOf, setIns, getN, putN, heldV, simV, Re.cls, BC.listOf, closeB, openB, leave, outs, Re.plain, Fv.closed, boxed, e]
theorem ruled_bad {p r b : PyData} (h : Ok4 p) (hb : planB p = false) : Ph X (n + 9) 58 [.d p, .d r, .d b] = .err 1 [] := by
  have e := ruled_make_bad X n h hb (r := r)
  rw [eq_ruled]
  refine defF_f [some (.d p), some (.d r), some (.d b), none] [] rfl (by decide) rfl rfl ?_
  unfold C_ruled
  simp -implicitDefEqProofs [BC.run, toAvs, toAv, apart, b0ok, backOk, backAll, isiV, peek, isiD, tru, peekR, truthD, cmpD, ltD, binD, addD, subD, solid, solids, peeks, setTg, setIs, one1_dat, bfD, bLen, isNone, dat, partM, partI, Xe.isNil, Va.tag, goes, Re.closed, resOf, setRes, lstAt, sem_fld, kFld, kFld2, sem_fidx, kFidx, kFidx2, kFidx3, kFidx4, kFidxM, sem_oidx, kOidx, kOidx2, kOidx3, sem_flen, kFlen, kFlen2, sem_fcopy, kFcopy, kFcopy2, sem_sfl, kSfl, kSfl2, sem_popE, kPopE, kPopE2, kPopE3, sem_meth, kMe, kMeM, kMe2, sem_sset, kSset, kSset2, sem_rng1, kRng1, sem_rng2, kRng2, kRng3, sem_mt, kMt, kMt2, kMt3, mtTy, mtD, sem_dget, kDget, kDget2, kDget3, sem_pop, kPop, semS_setf, kSetf, kSetf2, kSetf3, semS_setfs, kSetfs, kSetfs2, kSetfs3, setFs, semS_newB, kNewB, kNewB2, semS_newFR, kNewFR, kNewFRm, kNewFR2, kNewFR3, kNewFO3, kPutO, semS_newFO, kNewFO, kNewFOm, kNewFOm2, semS_appE, kAppE, kAppEm, kAppE2, kAppE3, semS_newC, kNewC, kNewC2, kNewC2m, kNewC3, semS_ext, kExt, kExt2, kExt3, semS_tryA, kTryA, subX, isiX, insOf, setIns, getN, putN, heldV, simV, Re.cls, BC.listOf, closeB, openB, leave, outs, Re.plain, Fv.closed, finF, e]
theorem ruled_to_bad {p r b : PyData} (h : Ok4 p) (hb : planB p = false) : Ph X (n + 9) 59 [.d p, .d r, .d b] = .err 1 [] := by
  have e := ruled_make_bad X n h hb (r := r)
  rw [eq_ruled_to]
  refine defF_f [some (.d p), some (.d r), some (.d b), none, none] [] rfl (by decide) rfl rfl ?_
  unfold C_ruled_to
  simp -implicitDefEqProofs [BC.run, toAvs, toAv, apart, b0ok, backOk, backAll, isiV, peek, isiD, tru, peekR, truthD, cmpD, ltD, binD, addD, subD, solid, solids, peeks, setTg, setIs, one1_dat, bfD, bLen, isNone, dat, partM, partI, Xe.isNil, Va.tag, goes, Re.closed, resOf, setRes, lstAt, sem_fld, kFld, kFld2, sem_fidx, kFidx, kFidx2, kFidx3, kFidx4, kFidxM, sem_oidx, kOidx, kOidx2, kOidx3, sem_flen, kFlen, kFlen2, sem_fcopy, kFcopy, kFcopy2, sem_sfl, kSfl, kSfl2, sem_popE, kPopE, kPopE2, kPopE3, sem_meth, kMe, kMeM, kMe2, sem_sset, kSset, kSset2, sem_rng1, kRng1, sem_rng2, kRng2, kRng3, sem_mt, kMt, kMt2, kMt3, mtTy, mtD, sem_dget, kDget, kDget2, kDget3, sem_pop, kPop, semS_setf, kSetf, kSetf2, kSetf3, semS_setfs, kSetfs, kSetfs2, kSetfs3, setFs, semS_newB, kNewB, kNewB2, semS_newFR, kNewFR, kNewFRm, kNewFR2, kNewFR3, kNewFO3, kPutO, semS_newFO, kNewFO, kNewFOm, kNewFOm2, semS_appE, kAppE, kAppEm, kAppE2, kAppE3, semS_newC, kNewC, kNewC2, kNewC2m, kNewC3, semS_ext, kExt, kExt2, kExt3, semS_tryA, kTryA, subX, isiX, insOf, setIns, getN, putN, heldV, simV, Re.cls, BC.listOf, closeB, openB, leave, outs, Re.plain, Fv.closed, finF, e]
theorem look_wave_bad {p r b : PyData} (h : Ok4 p) (hb : planB p = false) : Ph X (n + 7) 60 [.d p, .d r, .d b] = .err 1 [] := by
  have e := chip_make_err X n h hb
  rw [eq_look_wave]
  refine defF_f [some (.d p), some (.d r), some (.d b), none] [] rfl (by decide) rfl rfl ?_
  unfold C_look_wave
  simp -implicitDefEqProofs [BC.run, toAvs, toAv, apart, b0ok, backOk, backAll, isiV, peek, isiD, tru, peekR, truthD, cmpD, ltD, binD, addD, subD, solid, solids, peeks, setTg, setIs, one1_dat, bfD, bLen, isNone, dat, partM, partI, Xe.isNil, Va.tag, goes, Re.closed, resOf, setRes, lstAt, sem_fld, kFld, kFld2, sem_fidx, kFidx, kFidx2, kFidx3, kFidx4, kFidxM, sem_oidx, kOidx, kOidx2, kOidx3, sem_flen, kFlen, kFlen2, sem_fcopy, kFcopy, kFcopy2, sem_sfl, kSfl, kSfl2, sem_popE, kPopE, kPopE2, kPopE3, sem_meth, kMe, kMeM, kMe2, sem_sset, kSset, kSset2, sem_rng1, kRng1, sem_rng2, kRng2, kRng3, sem_mt, kMt, kMt2, kMt3, mtTy, mtD, sem_dget, kDget, kDget2, kDget3, sem_pop, kPop, semS_setf, kSetf, kSetf2, kSetf3, semS_setfs, kSetfs, kSetfs2, kSetfs3, setFs, semS_newB, kNewB, kNewB2, semS_newFR, kNewFR, kNewFRm, kNewFR2, kNewFR3, kNewFO3, kPutO, semS_newFO, kNewFO, kNewFOm, kNewFOm2, semS_appE, kAppE, kAppEm, kAppE2, kAppE3, semS_newC, kNewC, kNewC2, kNewC2m, kNewC3, semS_ext, kExt, kExt2, kExt3, semS_tryA, kTryA, subX, isiX, insOf, setIns, getN, putN, heldV, simV, Re.cls, BC.listOf, closeB, openB, leave, outs, Re.plain, Fv.closed, finF, e]
theorem wave_bad {p r b : PyData} (h : Ok4 p) (hb : planB p = false) : Ph X (n + 8) 61 [.d p, .d r, .d b] = .err 1 [] := by
  have e := look_wave_bad X n h hb (r := r) (b := b)
  rw [eq_wave]
  refine defF_f [some (.d p), some (.d r), some (.d b), none, none, none, none, none, none, none, none] [] rfl (by decide) rfl rfl ?_
  unfold C_wave
  simp -implicitDefEqProofs [BC.run, toAvs, toAv, apart, b0ok, backOk, backAll, isiV, peek, isiD, tru, peekR, truthD, cmpD, ltD, binD, addD, subD, solid, solids, peeks, setTg, setIs, one1_dat, bfD, bLen, isNone, dat, partM, partI, Xe.isNil, Va.tag, goes, Re.closed, resOf, setRes, lstAt, sem_fld, kFld, kFld2, sem_fidx, kFidx, kFidx2, kFidx3, kFidx4, kFidxM, sem_oidx, kOidx, kOidx2, kOidx3, sem_flen, kFlen, kFlen2, sem_fcopy, kFcopy, kFcopy2, sem_sfl, kSfl, kSfl2, sem_popE, kPopE, kPopE2, kPopE3, sem_meth, kMe, kMeM, kMe2, sem_sset, kSset, kSset2, sem_rng1, kRng1, sem_rng2, kRng2, kRng3, sem_mt, kMt, kMt2, kMt3, mtTy, mtD, sem_dget, kDget, kDget2, kDget3, sem_pop, kPop, semS_setf, kSetf, kSetf2, kSetf3, semS_setfs, kSetfs, kSetfs2, kSetfs3, setFs, semS_newB, kNewB, kNewB2, semS_newFR, kNewFR, kNewFRm, kNewFR2, kNewFR3, kNewFO3, kPutO, semS_newFO, kNewFO, kNewFOm, kNewFOm2, semS_appE, kAppE, kAppEm, kAppE2, kAppE3, semS_newC, kNewC, kNewC2, kNewC2m, kNewC3, semS_ext, kExt, kExt2, kExt3, semS_tryA, kTryA, subX, isiX, insOf, setIns, getN, putN, heldV, simV, Re.cls, BC.listOf, closeB, openB, leave, outs, Re.plain, Fv.closed, finF, e]
theorem lit_bad {p r b : PyData} (h : Ok4 p) (hb : planB p = false) : Ph X (n + 9) 62 [.d p, .d r, .d b] = .err 1 [] := by
  have e := wave_bad X n h hb (r := r) (b := b)
  rw [eq_lit]
  refine defF_f [some (.d p), some (.d r), some (.d b), none, none, none] [] rfl (by decide) rfl rfl ?_
  unfold C_lit
  simp -implicitDefEqProofs [BC.run, toAvs, toAv, apart, b0ok, backOk, backAll, isiV, peek, isiD, tru, peekR, truthD, cmpD, ltD, binD, addD, subD, solid, solids, peeks, setTg, setIs, one1_dat, bfD, bLen, isNone, dat, partM, partI, Xe.isNil, Va.tag, goes, Re.closed, resOf, setRes, lstAt, sem_fld, kFld, kFld2, sem_fidx, kFidx, kFidx2, kFidx3, kFidx4, kFidxM, sem_oidx, kOidx, kOidx2, kOidx3, sem_flen, kFlen, kFlen2, sem_fcopy, kFcopy, kFcopy2, sem_sfl, kSfl, kSfl2, sem_popE, kPopE, kPopE2, kPopE3, sem_meth, kMe, kMeM, kMe2, sem_sset, kSset, kSset2, sem_rng1, kRng1, sem_rng2, kRng2, kRng3, sem_mt, kMt, kMt2, kMt3, mtTy, mtD, sem_dget, kDget, kDget2, kDget3, sem_pop, kPop, semS_setf, kSetf, kSetf2, kSetf3, semS_setfs, kSetfs, kSetfs2, kSetfs3, setFs, semS_newB, kNewB, kNewB2, semS_newFR, kNewFR, kNewFRm, kNewFR2, kNewFR3, kNewFO3, kPutO, semS_newFO, kNewFO, kNewFOm, kNewFOm2, semS_appE, kAppE, kAppEm, kAppE2, kAppE3, semS_newC, kNewC, kNewC2, kNewC2m, kNewC3, semS_ext, kExt, kExt2, kExt3, semS_tryA, kTryA, subX, isiX, insOf, setIns, getN, putN, heldV, simV, Re.cls, BC.listOf, closeB, openB, leave, outs, Re.plain, Fv.closed, finF, e]
theorem together_bad {p r b : PyData} (h : Ok4 p) (hb : planB p = false) : Ph X (n + 6) 63 [.d p, .d r, .d b] = .err 1 [] := by
  have e := rounds_bad X n h hb
  rw [eq_together]
  refine defF_f [some (.d p), some (.d r), some (.d b), none, none, none, none] [] rfl (by decide) rfl rfl ?_
  unfold C_together
  simp -implicitDefEqProofs [BC.run, toAvs, toAv, apart, b0ok, backOk, backAll, isiV, peek, isiD, tru, peekR, truthD, cmpD, ltD, binD, addD, subD, solid, solids, peeks, setTg, setIs, one1_dat, bfD, bLen, isNone, dat, partM, partI, Xe.isNil, Va.tag, goes, Re.closed, resOf, setRes, lstAt, sem_fld, kFld, kFld2, sem_fidx, kFidx, kFidx2, kFidx3, kFidx4, kFidxM, sem_oidx, kOidx, kOidx2, kOidx3, sem_flen, kFlen, kFlen2, sem_fcopy, kFcopy, kFcopy2, sem_sfl, kSfl, kSfl2, sem_popE, kPopE, kPopE2, kPopE3, sem_meth, kMe, kMeM, kMe2, sem_sset, kSset, kSset2, sem_rng1, kRng1, sem_rng2, kRng2, kRng3, sem_mt, kMt, kMt2, kMt3, mtTy, mtD, sem_dget, kDget, kDget2, kDget3, sem_pop, kPop, semS_setf, kSetf, kSetf2, kSetf3, semS_setfs, kSetfs, kSetfs2, kSetfs3, setFs, semS_newB, kNewB, kNewB2, semS_newFR, kNewFR, kNewFRm, kNewFR2, kNewFR3, kNewFO3, kPutO, semS_newFO, kNewFO, kNewFOm, kNewFOm2, semS_appE, kAppE, kAppEm, kAppE2, kAppE3, semS_newC, kNewC, kNewC2, kNewC2m, kNewC3, semS_ext, kExt, kExt2, kExt3, semS_tryA, kTryA, subX, isiX, insOf, setIns, getN, putN, heldV, simV, Re.cls, BC.listOf, closeB, openB, leave, outs, Re.plain, Fv.closed, finF, e]
end
theorem usort_id {l : List Int} (h1 : l.Nodup) (h2 : l.Pairwise (fun a b => decide (a ≤ b) = true)) : usort l = l := by
  rw [usort, dedup_nodup h1]
  exact isort_id h2
theorem strsD_map : ∀ l : List Str, strsD (l.map .str) = some l
  | [] => rfl
  | x :: r => by show (strsD (r.map .str)).map (x :: ·) = _; rw [strsD_map r]; rfl
theorem sum_le {l : List Str} {k : Nat} (h : ∀ x ∈ l, x.length ≤ k) : (l.map fun x => x.length).sum ≤ l.length * k := by
  induction l with
  | nil => simp
  | cons x r ih =>
    have h1 := h x List.mem_cons_self
    have h2 := ih fun y hy => h y (List.mem_cons_of_mem _ hy)
    simp only [List.map_cons, List.sum_cons, List.length_cons, Nat.succ_mul]
    omega
section
variable (X : List Dc) (n : Nat)
theorem written_ok {ps : List (Tm × Str)} (h : GoodP (ps.map (·.1))) (hf : ∀ p ∈ ps, p.2.length ≤ 1000 ∧ Ph X (n + 4) 47 [.d p.1.toD] = .ok (.d (.str p.2)) []) : ∃ z, Ph X (n + 5) 48 [.d (planD (ps.map (·.1)))] = .ok (.d (.str z)) [] := by
  have e := look_plan_eq X n (ok4_D h)
  rw [planB_D h, if_pos rfl] at e
  have n4 : ps.length ≤ 4 := by simpa using h.n4
  have hsum := sum_le (l := ps.map fun p => p.2) (k := 1000) (fun x hx => by
    obtain ⟨p, hp, rfl⟩ := List.mem_map.mp hx
    exact (hf p hp).1)
  have hc : sem (Ph X (n + 4)) gl E_written_0 ⟨[some (.d (planD (ps.map (·.1)))), none], [], []⟩ = _ := comp_map1 (s := ⟨[some (.d (planD (ps.map (·.1)))), none], [], []⟩) (xs := ps) (fun p => p.1.toD) (fun p => .str p.2)
    (by simp -implicitDefEqProofs [BC.run, toAvs, toAv, apart, b0ok, backOk, backAll, isiV, peek, isiD, tru, peekR, truthD, cmpD, ltD, binD, addD, subD, solid, solids, peeks, setTg, setIs, one1_dat, bfD, bLen, isNone, dat, partM, partI, Xe.isNil, Va.tag, goes, Re.closed, resOf, setRes, lstAt, sem_fld, kFld, kFld2, sem_fidx, kFidx, kFidx2, kFidx3, kFidx4, kFidxM, sem_oidx, kOidx, kOidx2, kOidx3, sem_flen, kFlen, kFlen2, sem_fcopy, kFcopy, kFcopy2, sem_sfl, kSfl, kSfl2, sem_popE, kPopE, kPopE2, kPopE3, sem_meth, kMe, kMeM, kMe2, sem_sset, kSset, kSset2, sem_rng1, kRng1, sem_rng2, kRng2, kRng3, sem_mt, kMt, kMt2, kMt3, mtTy, mtD, sem_dget, kDget, kDget2, kDget3, sem_pop, kPop, semS_setf, kSetf, kSetf2, kSetf3, semS_setfs, kSetfs, kSetfs2, kSetfs3, setFs, semS_newB, kNewB, kNewB2, semS_newFR, kNewFR, kNewFRm, kNewFR2, kNewFR3, kNewFO3, kPutO, semS_newFO, kNewFO, kNewFOm, kNewFOm2, semS_appE, kAppE, kAppEm, kAppE2, kAppE3, semS_newC, kNewC, kNewC2, kNewC2m, kNewC3, semS_ext, kExt, kExt2, kExt3, semS_tryA, kTryA, subX, isiX, insOf, setIns, getN, putN, heldV, simV, Re.cls, BC.listOf, closeB, openB, leave, outs, Re.plain, Fv.closed, planD, List.map_map, Function.comp_def]) (by show _ ≤ 1000000; omega) (fun p hp => by
      have e1 := (hf p hp).2
      simp -implicitDefEqProofs [BC.run, toAvs, toAv, apart, b0ok, backOk, backAll, isiV, peek, isiD, tru, peekR, truthD, cmpD, ltD, binD, addD, subD, solid, solids, peeks, setTg, setIs, one1_dat, bfD, bLen, isNone, dat, partM, partI, Xe.isNil, Va.tag, goes, Re.closed, resOf, setRes, lstAt, sem_fld, kFld, kFld2, sem_fidx, kFidx, kFidx2, kFidx3, kFidx4, kFidxM, sem_oidx, kOidx, kOidx2, kOidx3, sem_flen, kFlen, kFlen2, sem_fcopy, kFcopy, kFcopy2, sem_sfl, kSfl, kSfl2, sem_popE, kPopE, kPopE2, kPopE3, sem_meth, kMe, kMeM, kMe2, sem_sset, kSset, kSset2, sem_rng1, kRng1, sem_rng2, kRng2, kRng3, sem_mt, kMt, kMt2, kMt3, mtTy, mtD, sem_dget, kDget, kDget2, kDget3, sem_pop, kPop, semS_setf, kSetf, kSetf2, kSetf3, semS_setfs, kSetfs, kSetfs2, kSetfs3, setFs, semS_newB, kNewB, kNewB2, semS_newFR, kNewFR, kNewFRm, kNewFR2, kNewFR3, kNewFO3, kPutO, semS_newFO, kNewFO, kNewFOm, kNewFOm2, semS_appE, kAppE, kAppEm, kAppE2, kAppE3, semS_newC, kNewC, kNewC2, kNewC2m, kNewC3, semS_ext, kExt, kExt2, kExt3, semS_tryA, kTryA, subX, isiX, insOf, setIns, getN, putN, heldV, simV, Re.cls, BC.listOf, closeB, openB, leave, outs, Re.plain, Fv.closed, e1])
  have hs : strsD (ps.map fun p => PyData.str p.2) = some (ps.map (·.2)) := by
    have := strsD_map (ps.map (·.2))
    rwa [List.map_map] at this
  have hj : mtD .join (.str "|") [.list (ps.map fun p => PyData.str p.2)] = some (.str (Txt.join "|" (ps.map (·.2)))) := by
    show (match strsD (ps.map fun p => PyData.str p.2) with
      | some ys => if ((ys : List Str).map fun (x : Str) => x.length).sum + ys.length * Str.length "|" ≤ lim then some (PyData.str (Txt.join "|" ys)) else none
      | none => none) = _
    rw [hs]
    dsimp only
    rw [if_pos]
    have : Str.length "|" = 1 := rfl
    rw [this]
    simp only [List.length_map] at hsum ⊢
    show _ ≤ 1000000
    omega
  refine ⟨Txt.join "|" (ps.map (·.2)), ?_⟩
  rw [eq_written]
  refine defF_f [some (.d (planD (ps.map (·.1)))), none] [] rfl (by decide) rfl rfl ?_
  unfold C_written
  simp -implicitDefEqProofs [BC.run, toAvs, toAv, apart, b0ok, backOk, backAll, isiV, peek, isiD, tru, peekR, truthD, cmpD, ltD, binD, subD, solid, solids, peeks, setTg, setIs, one1_dat, isNone, dat, partM, partI, Xe.isNil, Va.tag, goes, Re.closed, resOf, setRes, lstAt, sem_fld, kFld, kFld2, sem_fidx, kFidx, kFidx2, kFidx3, kFidx4, kFidxM, sem_oidx, kOidx, kOidx2, kOidx3, sem_flen, kFlen, kFlen2, sem_fcopy, kFcopy, kFcopy2, sem_sfl, kSfl, kSfl2, sem_popE, kPopE, kPopE2, kPopE3, sem_meth, kMe, kMeM, kMe2, sem_sset, kSset, kSset2, sem_rng1, kRng1, sem_rng2, kRng2, kRng3, sem_mt, kMt, kMt2, kMt3, mtTy, mtD, sem_dget, kDget, kDget2, kDget3, sem_pop, kPop, semS_setf, kSetf, kSetf2, kSetf3, semS_setfs, kSetfs, kSetfs2, kSetfs3, setFs, semS_newB, kNewB, kNewB2, semS_newFR, kNewFR, kNewFRm, kNewFR2, kNewFR3, kNewFO3, kPutO, semS_newFO, kNewFO, kNewFOm, kNewFOm2, semS_appE, kAppE, kAppEm, kAppE2, kAppE3, semS_newC, kNewC, kNewC2, kNewC2m, kNewC3, semS_ext, kExt, kExt2, kExt3, semS_tryA, kTryA, subX, isiX, insOf, setIns, getN, putN, heldV, simV, BC.listOf, closeB, openB, leave, Re.plain, Fv.closed, e, hc, hj, -mtD, outs]
end
def strF : Fr → Option Str
  | .ok (.d (.str s)) [] => some s
  | _ => none
theorem strF_eq {r : Fr} {s : Str} (h : strF r = some s) : r = .ok (.d (.str s)) [] := by
  unfold strF at h
  split at h
  · cases h; rfl
  · cases h
end BC

namespace K44
open PySem L2 BC
def C_law_one : Cd := (.seq (.ite (.cmp .lt (.var 0) (.cst (.int 4)))
(.seq (.ite (.cmp .lt (.var 0) (.cst (.int 2)))
(.seq (.ret (.ifx (.cmp .eq (.var 0) (.cst (.int 0))) (.call 70 0 (.cons (.idx (.var 1) (.cst (.int 0))) (.cons (.idx (.var 1) (.cst (.int 1))) .nil))) (.call 71 0 (.cons (.idx (.var 1) (.cst (.int 0))) (.cons (.idx (.var 1) (.cst (.int 1))) .nil))))) (
.nil))
(.nil)) (
.seq (.ret (.ifx (.cmp .eq (.var 0) (.cst (.int 2))) (.call 74 0 (.cons (.idx (.var 1) (.cst (.int 0))) (.cons (.idx (.var 1) (.cst (.int 1))) .nil))) (.call 75 0 (.cons (.idx (.var 1) (.cst (.int 0))) (.cons (.idx (.var 1) (.cst (.int 1))) (.cons (.idx (.var 1) (.cst (.int 2))) (.cons (.idx (.var 1) (.cst (.int 3))) .nil))))))) (
.nil)))
(.nil)) (
.seq (.ite (.cmp .lt (.var 0) (.cst (.int 7)))
(.seq (.ite (.cmp .eq (.var 0) (.cst (.int 4)))
(.seq (.ret (.call 77 0 (.cons (.idx (.var 1) (.cst (.int 0))) (.cons (.idx (.var 1) (.cst (.int 1))) (.cons (.idx (.var 1) (.cst (.int 2))) .nil))))) (
.nil))
(.nil)) (
.seq (.ret (.ifx (.cmp .eq (.var 0) (.cst (.int 5))) (.call 78 0 (.cons (.idx (.var 1) (.cst (.int 0))) (.cons (.idx (.var 1) (.cst (.int 1))) (.cons (.idx (.var 1) (.cst (.int 2))) .nil)))) (.call 79 0 (.cons (.idx (.var 1) (.cst (.int 0))) (.cons (.idx (.var 1) (.cst (.int 1))) .nil))))) (
.nil)))
(.nil)) (
.seq (.asg (.name 2) (.call 39 0 (.cons (.tup (.cons (.tup (.cons (.cst (.str "beat")) (.cons (.cst (.int 1)) (.cons (.cst (.str "up")) (.cons (.cst (.int 999)) (.cons (.cst .none) (.cons (.tup .nil) (.cons (.cst .none) (.cons (.cst (.bool false)) .nil))))))))) .nil)) .nil))) (
.seq (.ret (.ifx (.cmp .eq (.var 0) (.cst (.int 7))) (.call 67 0 (.cons (.var 2) (.cons (.idx (.var 1) (.cst (.int 0))) (.cons (.idx (.var 1) (.cst (.int 1))) .nil)))) (.call 68 0 (.cons (.var 2) (.cons (.idx (.var 1) (.cst (.int 0))) (.cons (.idx (.var 1) (.cst (.int 1))) (.cons (.idx (.var 1) (.cst (.int 2))) .nil))))))) (
.nil)))))
def Y_law_told : Cd := (.seq (.asg (.name 3) (.call 105 0 (.cons (.var 0) (.cons (.var 1) .nil)))) (
.nil))
def C_law_told : Cd := (.seq (.asg (.name 2) (.cst .none)) (
.seq (.asg (.name 3) (.cst .none)) (
.seq (.tryA 0 4 2 Y_law_told) (
.seq (.ret (.ifx (.isN (.var 2)) (.tup (.cons (.cst (.str "found")) (.cons (.var 3) .nil))) (.call 92 0 (.cons (.var 2) .nil)))) (
.nil)))))
def E_law_are_0 : Xe := .comp (.sseq (.var 0)) [2, 3] [2, 3] .nil (.call 106 0 (.cons (.var 2) (.cons (.var 3) .nil)))
def C_law_are : Cd := (.seq (.ret (.cmp .eq E_law_are_0 (.bin .mul (.lst (.cons (.tup (.cons (.cst (.str "refused")) (.cons (.var 1) .nil))) .nil)) (.bf .len (.cons (.var 0) .nil))))) (
.nil))
def E_law_0 : Xe := .comp (.sseq (.tup (.cons (.cst (.int 0)) (.cons (.cst (.int 1)) .nil)))) [15] [15] .nil (.tup (.cons (.var 15) (.cons (.lst (.cons (.var 2) (.cons (.var 3) .nil))) .nil)))
def E_law_1 : Xe := .comp (.sseq (.tup (.cons (.cst (.int 0)) (.cons (.cst (.int 1)) .nil)))) [15] [15] .nil (.tup (.cons (.var 15) (.cons (.lst (.cons (.cst (.int 9)) (.cons (.var 3) .nil))) .nil)))
def E_law_2 : Xe := .comp (.sseq (.frz 14)) [15, 16] [15, 16] .nil (.idx (.call 106 0 (.cons (.var 15) (.cons (.var 16) .nil))) (.cst (.int 0)))
def T_law_24 : Cd := .seq (.ret (.cmp .eq E_law_2 (.bin .mul (.lst (.cons (.cst (.str "found")) .nil)) (.cst (.int 8))))) .nil
def T_law_23 : Cd := .seq (.newC 14 (.var 14) (.lst (.cons (.tup (.cons (.cst (.int 5)) (.cons (.lst (.cons (.bin .mul (.lst (.cons (.bin .pow (.cst (.int 10)) (.cst (.int 9))) .nil)) (.cst (.int 200))) (.cons (.cst (.int 1)) (.cons (.cst (.int 1)) .nil)))) .nil))) (.cons (.tup (.cons (.cst (.int 7)) (.cons (.lst (.cons (.cst (.int 0)) (.cons (.cst (.int 1000)) .nil))) .nil))) (.cons (.tup (.cons (.cst (.int 8)) (.cons (.lst (.cons (.cst (.int 0)) (.cons (.cst (.int 1000)) (.cons (.cst (.int 20)) .nil)))) .nil))) (.cons (.tup (.cons (.cst (.int 6)) (.cons (.lst (.cons (.bin .pow (.cst (.int 10)) (.cst (.int 9))) (.cons (.bin .pow (.cst (.int 10)) (.cst (.int 9))) .nil))) .nil))) .nil)))))) T_law_24
def T_law_22 : Cd := .seq (.app 14 (.tup (.cons (.cst (.int 4)) (.cons (.lst (.cons (.bin .pow (.cst (.int 10)) (.cst (.int 9))) (.cons (.bin .pow (.cst (.int 10)) (.cst (.int 9))) (.cons (.cst (.int 200)) .nil)))) .nil)))) T_law_23
def T_law_21 : Cd := .seq (.newL 14 (.cons (.tup (.cons (.cst (.int 0)) (.cons (.lst (.cons (.bin .pow (.cst (.int 10)) (.cst (.int 9))) (.cons (.tup (.cons (.cst (.int 1)) (.cons (.cst (.int 256)) .nil))) .nil))) .nil))) (.cons (.tup (.cons (.cst (.int 2)) (.cons (.lst (.cons (.cst (.int 65535)) (.cons (.bin .mul (.lst (.cons (.cst (.int 65535)) .nil)) (.cst (.int 100))) .nil))) .nil))) (.cons (.tup (.cons (.cst (.int 3)) (.cons (.lst (.cons (.cst (.int 9)) (.cons (.lst .nil) (.cons (.lst .nil) (.cons (.cst (.int 1000000)) .nil))))) .nil))) .nil)))) T_law_22
def T_law_20 : Cd := .seq (.ite (.not (.call 107 0 (.cons (.lst (.cons (.tup (.cons (.cst (.int 7)) (.cons (.lst (.cons (.var 13) (.cons (.var 9) .nil))) .nil))) (.cons (.tup (.cons (.cst (.int 8)) (.cons (.lst (.cons (.var 13) (.cons (.var 9) (.cons (.var 10) .nil)))) .nil))) .nil))) (.cons (.cst (.str "timer")) .nil))))
(.seq (.ret (.cst (.bool false))) (
.nil))
(.nil)) T_law_21
def T_law_19 : Cd := .seq (.asg (.name 13) (.call 87 0 (.cons (.var 0) (.cons (.var 1) (.cons (.lst (.cons (.cst (.int 1)) (.cons (.bin .sub (.cst (.int 0)) (.cst (.int 1))) (.cons (.cst .none) (.cons (.cst (.bool true)) (.cons (.cst (.str "0")) .nil)))))) .nil))))) T_law_20
def T_law_18 : Cd := .seq (.ite (.not (.call 107 0 (.cons (.var 4) (.cons (.cst (.str "reads")) .nil))))
(.seq (.ret (.cst (.bool false))) (
.nil))
(.nil)) T_law_19
def T_law_17 : Cd := .seq (.asg (.name 4) (.lst (.cons (.tup (.cons (.cst (.int 2)) (.cons (.lst (.cons (.cst (.int 9)) (.cons (.var 6) .nil))) .nil))) (.cons (.tup (.cons (.cst (.int 3)) (.cons (.lst (.cons (.cst (.int 9)) (.cons (.var 6) (.cons (.cst .none) (.cons (.var 7) .nil))))) .nil))) (.cons (.tup (.cons (.cst (.int 3)) (.cons (.lst (.cons (.cst (.int 9)) (.cons (.lst (.cons (.cst (.int 1)) (.cons (.cst (.int 2)) .nil))) (.cons (.var 11) (.cons (.var 7) .nil))))) .nil))) (.cons (.tup (.cons (.cst (.int 5)) (.cons (.lst (.cons (.var 12) (.cons (.cst (.int 0)) (.cons (.cst (.int 0)) .nil)))) .nil))) .nil)))))) T_law_18
def T_law_16 : Cd := .seq (.asg (.name 12) (.call 87 0 (.cons (.var 0) (.cons (.var 1) (.cons (.lst (.cons (.lst (.cons (.bin .sub (.cst (.int 0)) (.cst (.int 1))) .nil)) (.cons (.tup (.cons (.cst (.int 1)) .nil)) (.cons (.cst .none) (.cons (.lst (.cons (.bin .add (.bin .pow (.cst (.int 10)) (.cst (.int 9))) (.cst (.int 1))) .nil)) (.cons (.lst (.cons (.cst (.bool true)) .nil)) (.cons (.bin .mul (.lst (.cons (.cst (.int 0)) .nil)) (.cst (.int 201))) .nil))))))) .nil))))) T_law_17
def T_law_15 : Cd := .seq (.asg (.name 11) (.call 87 0 (.cons (.var 0) (.cons (.var 1) (.cons (.lst (.cons (.lst (.cons (.cst (.int 5)) (.cons (.cst (.int 4)) .nil))) (.cons (.lst (.cons (.bin .sub (.cst (.int 0)) (.cst (.int 1))) (.cons (.cst (.int 2)) .nil))) (.cons (.tup (.cons (.cst (.int 1)) (.cons (.cst (.int 2)) .nil))) (.cons (.cst .none) (.cons (.lst (.cons (.cst (.int 1)) .nil)) (.cons (.lst (.cons (.cst (.int 1)) (.cons (.bin .add (.bin .pow (.cst (.int 10)) (.cst (.int 9))) (.cst (.int 1))) .nil))) (.cons (.lst (.cons (.cst (.bool true)) (.cons (.cst (.int 2)) .nil))) .nil)))))))) .nil))))) T_law_16
def T_law_14 : Cd := .seq (.ite (.not (.call 107 0 (.cons (.var 4) (.cons (.cst (.str "number")) .nil))))
(.seq (.ret (.cst (.bool false))) (
.nil))
(.nil)) T_law_15
def T_law_13 : Cd := .seq (.asg (.name 4) (.bin .add (.var 4) (.lst (.cons (.tup (.cons (.cst (.int 7)) (.cons (.lst (.cons (.cst (.int 0)) (.cons (.var 9) .nil))) .nil))) (.cons (.tup (.cons (.cst (.int 8)) (.cons (.lst (.cons (.cst (.int 0)) (.cons (.var 9) (.cons (.var 10) .nil)))) .nil))) (.cons (.tup (.cons (.cst (.int 8)) (.cons (.lst (.cons (.cst (.int 0)) (.cons (.cst (.int 0)) (.cons (.var 10) .nil)))) .nil))) .nil)))))) T_law_14
def T_law_12 : Cd := .seq (.asg (.name 10) (.call 87 0 (.cons (.var 0) (.cons (.var 1) (.cons (.lst (.cons (.cst (.int 0)) (.cons (.cst (.int 21)) (.cons (.cst .none) (.cons (.cst (.bool true)) .nil))))) .nil))))) T_law_13
def T_law_11 : Cd := .seq (.asg (.name 9) (.call 87 0 (.cons (.var 0) (.cons (.var 1) (.cons (.lst (.cons (.bin .sub (.cst (.int 0)) (.cst (.int 1))) (.cons (.cst (.int 1001)) (.cons (.cst .none) (.cons (.cst (.bool true)) .nil))))) .nil))))) T_law_12
def T_law_10 : Cd := .seq (.asg (.name 4) (.bin .add (.var 4) (.lst (.cons (.tup (.cons (.cst (.int 4)) (.cons (.lst (.cons (.cst (.int 9)) (.cons (.cst (.int 2)) (.cons (.var 8) .nil)))) .nil))) (.cons (.tup (.cons (.cst (.int 5)) (.cons (.lst (.cons (.lst (.cons (.cst (.int 1)) .nil)) (.cons (.cst (.int 1)) (.cons (.cst (.int 2)) .nil)))) .nil))) (.cons (.tup (.cons (.cst (.int 5)) (.cons (.lst (.cons (.lst .nil) (.cons (.var 2) (.cons (.cst (.int 1)) .nil)))) .nil))) (.cons (.tup (.cons (.cst (.int 6)) (.cons (.lst (.cons (.var 2) (.cons (.cst (.int 1)) .nil))) .nil))) (.cons (.tup (.cons (.cst (.int 6)) (.cons (.lst (.cons (.cst (.int 1)) (.cons (.var 2) .nil))) .nil))) .nil)))))))) T_law_11
def T_law_9 : Cd := .seq (.asg (.name 8) (.call 87 0 (.cons (.var 0) (.cons (.var 1) (.cons (.lst (.cons (.bin .sub (.cst (.int 0)) (.cst (.int 1))) (.cons (.cst (.int 201)) (.cons (.cst .none) (.cons (.cst (.bool true)) .nil))))) .nil))))) T_law_10
def T_law_8 : Cd := .seq (.asg (.name 4) (.bin .add (.var 4) (.lst (.cons (.tup (.cons (.cst (.int 3)) (.cons (.lst (.cons (.cst (.int 9)) (.cons (.lst (.cons (.cst (.int 1)) .nil)) (.cons (.lst (.cons (.cst (.int 5)) .nil)) (.cons (.var 7) .nil))))) .nil))) (.cons (.tup (.cons (.cst (.int 4)) (.cons (.lst (.cons (.cst (.int 1)) (.cons (.cst (.int 2)) (.cons (.cst (.int 0)) .nil)))) .nil))) (.cons (.tup (.cons (.cst (.int 4)) (.cons (.lst (.cons (.var 2) (.cons (.cst (.int 1)) (.cons (.cst (.int 0)) .nil)))) .nil))) (.cons (.tup (.cons (.cst (.int 4)) (.cons (.lst (.cons (.cst (.int 9)) (.cons (.var 2) (.cons (.cst (.int 0)) .nil)))) .nil))) .nil))))))) T_law_9
def T_law_7 : Cd := .seq (.asg (.name 7) (.call 87 0 (.cons (.var 0) (.cons (.var 1) (.cons (.lst (.cons (.bin .sub (.cst (.int 0)) (.cst (.int 1))) (.cons (.cst (.int 1000001)) (.cons (.cst .none) (.cons (.cst (.bool true)) .nil))))) .nil))))) T_law_8
def T_law_6 : Cd := .seq (.asg (.name 4) (.bin .add (.var 4) (.lst (.cons (.tup (.cons (.cst (.int 2)) (.cons (.lst (.cons (.var 5) (.cons (.var 6) .nil))) .nil))) (.cons (.tup (.cons (.cst (.int 3)) (.cons (.lst (.cons (.var 5) (.cons (.var 6) (.cons (.cst .none) (.cons (.cst .none) .nil))))) .nil))) (.cons (.tup (.cons (.cst (.int 3)) (.cons (.lst (.cons (.cst (.int 9)) (.cons (.lst (.cons (.cst (.int 1)) (.cons (.cst (.int 2)) .nil))) (.cons (.lst (.cons (.cst (.int 1)) (.cons (.cst (.int 1)) .nil))) (.cons (.bin .sub (.cst (.int 0)) (.cst (.int 1))) .nil))))) .nil))) .nil)))))) T_law_7
def T_law_5 : Cd := .seq (.asg (.name 6) (.call 87 0 (.cons (.var 0) (.cons (.var 1) (.cons (.lst (.cons (.lst (.cons (.cst (.int 10)) .nil)) (.cons (.lst (.cons (.bin .sub (.cst (.int 0)) (.cst (.int 1))) .nil)) (.cons (.tup (.cons (.cst (.int 1)) .nil)) (.cons (.cst .none) (.cons (.lst (.cons (.cst (.bool true)) .nil)) (.cons (.lst (.cons (.cst .none) .nil)) (.cons (.bin .mul (.lst (.cons (.cst (.int 0)) .nil)) (.cst (.int 101))) (.cons (.lst (.cons (.cst (.int 3)) (.cons (.cst (.str "4")) .nil))) .nil))))))))) .nil))))) T_law_6
def T_law_4 : Cd := .seq (.asg (.name 5) (.call 87 0 (.cons (.var 0) (.cons (.var 1) (.cons (.lst (.cons (.cst (.int 0)) (.cons (.cst (.int 65536)) (.cons (.cst .none) (.cons (.cst (.bool true)) .nil))))) .nil))))) T_law_5
def T_law_3 : Cd := .seq (.asg (.name 4) (.bin .add E_law_0 E_law_1)) T_law_4
def T_law_2 : Cd := .seq (.asg (.name 3) (.call 87 0 (.cons (.var 0) (.cons (.var 1) (.cons (.lst (.cons (.tup .nil) (.cons (.tup (.cons (.cst (.int 0)) .nil)) (.cons (.tup (.cons (.cst (.int 257)) .nil)) (.cons (.tup (.cons (.cst (.int 2)) (.cons (.cst (.int 1)) .nil))) (.cons (.tup (.cons (.cst (.int 1)) (.cons (.cst (.int 1)) .nil))) (.cons (.lst (.cons (.cst (.int 1)) .nil)) (.cons (.cst .none) (.cons (.tup (.cons (.cst (.bool true)) .nil)) (.cons (.rng2 true (.cst (.int 1)) (.cst (.int 12))) .nil)))))))))) .nil))))) T_law_3
def T_law_1 : Cd := .seq (.asg (.name 2) (.call 87 0 (.cons (.var 0) (.cons (.var 1) (.cons (.lst (.cons (.cst (.int 0)) (.cons (.bin .add (.bin .pow (.cst (.int 10)) (.cst (.int 9))) (.cst (.int 1))) (.cons (.bin .sub (.cst (.int 0)) (.cst (.int 1))) (.cons (.cst .none) (.cons (.cst (.bool true)) (.cons (.cst (.str "9")) .nil))))))) .nil))))) T_law_2
def T_law_0 : Cd := .seq (.newL 1 .nil) T_law_1
def C_law : Cd := T_law_0
def own : List Dc := [⟨0, 0, 2, 3, 0, C_law_one⟩,
⟨0, 0, 2, 5, 0, C_law_told⟩,
⟨0, 0, 2, 4, 0, C_law_are⟩,
⟨0, 0, 1, 17, 0, C_law⟩]
section
variable (n : Nat)
theorem eq_law_one : Ph own (n + 1) 105 = defF (Ph own n) gl 2 3 false C_law_one := rfl
theorem eq_law_told : Ph own (n + 1) 106 = defF (Ph own n) gl 2 5 false C_law_told := rfl
theorem eq_law_are : Ph own (n + 1) 107 = defF (Ph own n) gl 2 4 false C_law_are := rfl
theorem eq_law : Ph own (n + 1) 108 = defF (Ph own n) gl 1 17 false C_law := rfl
end
end K44

/-! K44M: rows of refusals. -/
namespace K44
open PySem BC
def ref (w : Str) : PyData := .tuple [.str "refused", .str w]
def toldIs (r : Fr) (w : Str) : Bool := match r with
  | .ok (.d (.tuple [.str a, .str b])) [] => decide (a = "refused") && decide (b = w)
  | _ => false
theorem toldIs_eq {r : Fr} {w : Str} (h : toldIs r w = true) : r = .ok (.d (ref w)) [] := by
  unfold toldIs at h
  split at h
  · simp only [Bool.and_eq_true, decide_eq_true_eq] at h
    obtain ⟨rfl, rfl⟩ := h
    rfl
  · cases h
def foundIs (r : Fr) : Bool := match r with
  | .ok (.d (.tuple [.str a, _])) [] => decide (a = "found")
  | _ => false
theorem foundIs_eq {r : Fr} (h : foundIs r = true) : ∃ v, r = .ok (.d (.tuple [.str "found", v])) [] := by
  unfold foundIs at h
  split at h
  · simp only [decide_eq_true_eq] at h
    subst h
    exact ⟨_, rfl⟩
  · cases h
def rowD (r : Int × PyData) : PyData := .tuple [.int r.1, r.2]
theorem lay_rep (x : PyData) (h : x.canLay0 = true) : ∀ k : Nat, PyData.canLayAll0 (List.replicate k x) = true ∧ PyData.depthAll (List.replicate k x) ≤ x.depth
  | 0 => ⟨rfl, Nat.zero_le _⟩
  | k + 1 => by
    obtain ⟨h1, h2⟩ := lay_rep x h k
    rw [List.replicate_succ]
    refine ⟨?_, ?_⟩
    · show (x.canLay0 && PyData.canLayAll0 (List.replicate k x)) = true
      rw [h, h1]; rfl
    · show max x.depth (PyData.depthAll (List.replicate k x)) ≤ x.depth
      omega
theorem eqD_rep {x : PyData} (h : x.canLay0 = true) (hd : x.depth ≤ 60) (k : Nat) : eqD (.list (List.replicate k x)) (.list (List.replicate k x)) = some true := by
  obtain ⟨h1, h2⟩ := lay_rep x h k
  have hs : SeqAt.shaped (.list (List.replicate k x)) = true := by
    unfold SeqAt.shaped
    rw [Bool.and_eq_true]
    refine ⟨?_, decide_eq_true ?_⟩
    · show PyData.canLayAll0 (List.replicate k x) = true
      exact h1
    · show PyData.depthAll (List.replicate k x) + 1 ≤ 64
      omega
  unfold eqD
  rw [hs, if_pos (by rfl), SeqAt.eqv_refl _ (SeqAt.canLay_of_shaped hs)]
theorem flat_rep {α : Type} (x : α) : ∀ k : Nat, (List.replicate k [x]).flatten = List.replicate k x
  | 0 => rfl
  | k + 1 => by rw [List.replicate_succ, List.flatten_cons, flat_rep x k]; rfl
theorem ref_lay {w : Str} (h : PyData.strOk w = true) : (ref w).canLay0 = true ∧ (ref w).depth ≤ 60 := by
  have e : PyData.strOk "refused" = true := by decide +kernel
  constructor
  · simp [ref, PyData.canLay0, PyData.canLayAll0, e, h]
  · show max 0 (max 0 0) + 1 ≤ 60
    decide
theorem are_ok (rows : List (Int × PyData)) (w : Str) (hw : PyData.strOk w = true) (hl : rows.length ≤ 1000) (h : ∀ r ∈ rows, Ph own 59 106 [.d (.int r.1), .d r.2] = .ok (.d (ref w)) []) : Ph own 60 107 [.d (.list (rows.map rowD)), .d (.str w)] = .ok (.d (.bool true)) [] := by
  have e := compM_pure (src := sem (Ph own 59) gl (.sseq (.var 0))) (tg := [2, 3]) (own := [2, 3]) (cond := condM Xe.nil.isNil (sem (Ph own 59) gl .nil)) (elt := sem (Ph own 59) gl (.call 106 0 (.cons (.var 2) (.cons (.var 3) .nil)))) (s := ⟨[some (.d (.list (rows.map rowD))), some (.d (.str w)), none, none], [], []⟩) (xs := rows) rowD (fun _ => true) (fun _ => ref w)
    (by simp -implicitDefEqProofs [BC.run, toAvs, toAv, apart, b0ok, backOk, backAll, isiV, peek, isiD, tru, peekR, truthD, cmpD, ltD, binD, addD, subD, solid, solids, peeks, setTg, setIs, one1_dat, bfD, bLen, isNone, dat, partM, partI, Xe.isNil, Va.tag, goes, Re.closed, resOf, setRes, lstAt, sem_fld, kFld, kFld2, sem_fidx, kFidx, kFidx2, kFidx3, kFidx4, kFidxM, sem_oidx, kOidx, kOidx2, kOidx3, sem_flen, kFlen, kFlen2, sem_fcopy, kFcopy, kFcopy2, sem_sfl, kSfl, kSfl2, sem_popE, kPopE, kPopE2, kPopE3, sem_meth, kMe, kMeM, kMe2, sem_sset, kSset, kSset2, sem_rng1, kRng1, sem_rng2, kRng2, kRng3, sem_mt, kMt, kMt2, kMt3, mtTy, mtD, sem_dget, kDget, kDget2, kDget3, sem_pop, kPop, semS_setf, kSetf, kSetf2, kSetf3, semS_setfs, kSetfs, kSetfs2, kSetfs3, setFs, semS_newB, kNewB, kNewB2, semS_newFR, kNewFR, kNewFRm, kNewFR2, kNewFR3, kNewFO3, kPutO, semS_newFO, kNewFO, kNewFOm, kNewFOm2, semS_appE, kAppE, kAppEm, kAppE2, kAppE3, semS_newC, kNewC, kNewC2, kNewC2m, kNewC3, semS_ext, kExt, kExt2, kExt3, semS_tryA, kTryA, subX, isiX, insOf, setIns, getN, putN, heldV, simV, Re.cls, BC.listOf, closeB, openB, leave, outs, Re.plain, Fv.closed, List.map_map, Function.comp_def]) (by show _ ≤ 1000000; omega) (fun r hr => by
      have e1 := h r hr
      refine ⟨⟨[some (.d (.list (rows.map rowD))), some (.d (.str w)), some (.d (.int r.1)), some (.d r.2)], [], []⟩, rfl, ⟨[some (.d (.list (rows.map rowD))), some (.d (.str w)), some (.d (.int r.1)), some (.d r.2)], [], []⟩, rfl, rfl, rfl, fun _ => ⟨⟨[some (.d (.list (rows.map rowD))), some (.d (.str w)), some (.d (.int r.1)), some (.d r.2)], [], []⟩, rfl, rfl, ?_⟩⟩
      simp -implicitDefEqProofs [BC.run, toAvs, toAv, apart, b0ok, backOk, backAll, isiV, peek, isiD, tru, peekR, truthD, cmpD, ltD, binD, addD, subD, solid, solids, peeks, setTg, setIs, one1_dat, bfD, bLen, isNone, dat, partM, partI, Xe.isNil, Va.tag, goes, Re.closed, resOf, setRes, lstAt, sem_fld, kFld, kFld2, sem_fidx, kFidx, kFidx2, kFidx3, kFidx4, kFidxM, sem_oidx, kOidx, kOidx2, kOidx3, sem_flen, kFlen, kFlen2, sem_fcopy, kFcopy, kFcopy2, sem_sfl, kSfl, kSfl2, sem_popE, kPopE, kPopE2, kPopE3, sem_meth, kMe, kMeM, kMe2, sem_sset, kSset, kSset2, sem_rng1, kRng1, sem_rng2, kRng2, kRng3, sem_mt, kMt, kMt2, kMt3, mtTy, mtD, sem_dget, kDget, kDget2, kDget3, sem_pop, kPop, semS_setf, kSetf, kSetf2, kSetf3, semS_setfs, kSetfs, kSetfs2, kSetfs3, setFs, semS_newB, kNewB, kNewB2, semS_newFR, kNewFR, kNewFRm, kNewFR2, kNewFR3, kNewFO3, kPutO, semS_newFO, kNewFO, kNewFOm, kNewFOm2, semS_appE, kAppE, kAppEm, kAppE2, kAppE3, semS_newC, kNewC, kNewC2, kNewC2m, kNewC3, semS_ext, kExt, kExt2, kExt3, semS_tryA, kTryA, subX, isiX, insOf, setIns, getN, putN, heldV, simV, Re.cls, BC.listOf, closeB, openB, leave, outs, Re.plain, Fv.closed, e1])
  have hc : sem (Ph own 59) gl E_law_are_0 ⟨[some (.d (.list (rows.map rowD))), some (.d (.str w)), none, none], [], []⟩ = .ok [.d (.list (List.replicate rows.length (ref w)))] ⟨[some (.d (.list (rows.map rowD))), some (.d (.str w)), none, none], [], []⟩ := by
    show (compM _ _ _ _ _ _).bind _ = _
    rw [e, bind_ok, solids_d]
    have ef : rows.filter (fun _ => true) = rows := List.filter_eq_self.mpr fun _ _ => rfl
    rw [ef]
    have : rows.map (fun _ => ref w) = List.replicate rows.length (ref w) := by rw [List.map_const']
    rw [this]
    rfl
  have hm : mulD (.list [ref w]) (.int (rows.length : Int)) = some (.list (List.replicate rows.length (ref w))) := by
    simp only [mulD]
    rw [if_pos ⟨by omega, by omega, by simp [lim]; omega⟩, Int.toNat_natCast, flat_rep]
  have hlen : bfD .len [.list (rows.map rowD)] = some (.int (rows.length : Int)) := by
    show some (PyData.int ((rows.map rowD).length : Int)) = _
    rw [List.length_map]
  obtain ⟨l1, l2⟩ := ref_lay hw
  have hq := eqD_rep l1 l2 rows.length
  have hr : PyData.tuple [.str "refused", .str w] = ref w := rfl
  rw [eq_law_are]
  refine defF_f [some (.d (.list (rows.map rowD))), some (.d (.str w)), none, none] [] rfl (by decide) rfl rfl ?_
  unfold C_law_are
  generalize List.replicate rows.length (ref w) = rep at *
  simp -implicitDefEqProofs [BC.run, toAvs, toAv, apart, b0ok, backOk, backAll, isiV, peek, isiD, tru, peekR, truthD, cmpD, ltD, binD, subD, solid, solids, peeks, setTg, setIs, one1_dat, isNone, dat, partM, partI, Xe.isNil, Va.tag, goes, Re.closed, resOf, setRes, lstAt, sem_fld, kFld, kFld2, sem_fidx, kFidx, kFidx2, kFidx3, kFidx4, kFidxM, sem_oidx, kOidx, kOidx2, kOidx3, sem_flen, kFlen, kFlen2, sem_fcopy, kFcopy, kFcopy2, sem_sfl, kSfl, kSfl2, sem_popE, kPopE, kPopE2, kPopE3, sem_meth, kMe, kMeM, kMe2, sem_sset, kSset, kSset2, sem_rng1, kRng1, sem_rng2, kRng2, kRng3, sem_mt, kMt, kMt2, kMt3, mtTy, mtD, sem_dget, kDget, kDget2, kDget3, sem_pop, kPop, semS_setf, kSetf, kSetf2, kSetf3, semS_setfs, kSetfs, kSetfs2, kSetfs3, setFs, semS_newB, kNewB, kNewB2, semS_newFR, kNewFR, kNewFRm, kNewFR2, kNewFR3, kNewFO3, kPutO, semS_newFO, kNewFO, kNewFOm, kNewFOm2, semS_appE, kAppE, kAppEm, kAppE2, kAppE3, semS_newC, kNewC, kNewC2, kNewC2m, kNewC3, semS_ext, kExt, kExt2, kExt3, semS_tryA, kTryA, subX, isiX, insOf, setIns, getN, putN, heldV, simV, BC.listOf, closeB, openB, leave, Re.plain, Fv.closed, hc, hm, hlen, hq, hr, lim, outs]
end K44

/-! K44V: each row by reckoning. -/
namespace K44
open PySem BC
def z101 : PyData := .list (List.replicate 101 (.int 0))
def z201 : PyData := .list (List.replicate 201 (.int 0))
def h100 : PyData := .list (List.replicate 100 (.int 65535))
def k200 : PyData := .list (List.replicate 200 (.int 1000000000))
def spans : List PyData := [.int 0, .int 1000000001, .int (-1), .none, .bool true, .str "9"]
def divs : List PyData := [.tuple [], .tuple [.int 0], .tuple [.int 257], .tuple [.int 2, .int 1], .tuple [.int 1, .int 1], .list [.int 1], .none, .tuple [.bool true], .tuple [.int 1, .int 2, .int 3, .int 4, .int 5, .int 6, .int 7, .int 8, .int 9, .int 10, .int 11]]
def highs : List PyData := [.int 0, .int 65536, .none, .bool true]
def readss : List PyData := [.list [.int 10], .list [.int (-1)], .tuple [.int 1], .none, .list [.bool true], .list [.none], z101, .list [.int 3, .str "4"]]
def slips : List PyData := [.int (-1), .int 1000001, .none, .bool true]
def manys : List PyData := [.int (-1), .int 201, .none, .bool true]
def gaps : List PyData := [.int (-1), .int 1001, .none, .bool true]
def triess : List PyData := [.int 0, .int 21, .none, .bool true]
def timess : List PyData := [.list [.int 5, .int 4], .list [.int (-1), .int 2], .tuple [.int 1, .int 2], .none, .list [.int 1], .list [.int 1, .int 1000000001], .list [.bool true, .int 2]]
def periodss : List PyData := [.list [.int (-1)], .tuple [.int 1], .none, .list [.int 1000000001], .list [.bool true], z201]
def numbers : List PyData := [.int 1, .int (-1), .none, .bool true, .str "0"]
abbrev T (k : Int) (l : List PyData) : Fr := Ph own 59 106 [.d (.int k), .d (.list l)]
theorem v1 : ∀ s ∈ spans, ∀ d ∈ divs, toldIs (T 0 [s, d]) "number" = true ∧ toldIs (T 1 [s, d]) "number" = true := by decide +kernel
theorem v2 : ∀ d ∈ divs, toldIs (T 0 [.int 9, d]) "number" = true ∧ toldIs (T 1 [.int 9, d]) "number" = true := by decide +kernel
theorem v3 : ∀ h ∈ highs, ∀ r ∈ readss, toldIs (T 2 [h, r]) "number" = true ∧ toldIs (T 3 [h, r, .none, .none]) "number" = true := by decide +kernel
theorem v4 : toldIs (T 3 [.int 9, .list [.int 1, .int 2], .list [.int 1, .int 1], .int (-1)]) "number" = true := by decide +kernel
theorem v5 : ∀ s ∈ slips, toldIs (T 3 [.int 9, .list [.int 1], .list [.int 5], s]) "number" = true := by decide +kernel
theorem v6 : toldIs (T 4 [.int 1, .int 2, .int 0]) "number" = true ∧ ∀ s ∈ spans, toldIs (T 4 [s, .int 1, .int 0]) "number" = true ∧ toldIs (T 4 [.int 9, s, .int 0]) "number" = true := by decide +kernel
theorem v7 : ∀ m ∈ manys, toldIs (T 4 [.int 9, .int 2, m]) "number" = true := by decide +kernel
theorem v8 : toldIs (T 5 [.list [.int 1], .int 1, .int 2]) "number" = true ∧ ∀ s ∈ spans, toldIs (T 5 [.list [], s, .int 1]) "number" = true ∧ toldIs (T 6 [s, .int 1]) "number" = true ∧ toldIs (T 6 [.int 1, s]) "number" = true := by decide +kernel
theorem v9 : ∀ g ∈ gaps, toldIs (T 7 [.int 0, g]) "number" = true ∧ ∀ t ∈ triess, toldIs (T 8 [.int 0, g, t]) "number" = true ∧ toldIs (T 8 [.int 0, .int 0, t]) "number" = true := by decide +kernel
theorem v10 : ∀ r ∈ readss, toldIs (T 2 [.int 9, r]) "reads" = true ∧ ∀ s ∈ slips, toldIs (T 3 [.int 9, r, .none, s]) "reads" = true := by decide +kernel
theorem v11 : ∀ t ∈ timess, ∀ s ∈ slips, toldIs (T 3 [.int 9, .list [.int 1, .int 2], t, s]) "reads" = true := by decide +kernel
theorem v12 : ∀ p ∈ periodss, toldIs (T 5 [p, .int 0, .int 0]) "reads" = true := by decide +kernel
theorem v13 : ∀ m ∈ numbers, ∀ g ∈ gaps, toldIs (T 7 [m, g]) "timer" = true ∧ ∀ t ∈ triess, toldIs (T 8 [m, g, t]) "timer" = true := by decide +kernel
abbrev T' (k : Int) (l : List PyData) : Fr := Ph own 60 106 [.d (.int k), .d (.list l)]
theorem w0 : foundIs (T' 0 [.int 1000000000, .tuple [.int 1, .int 256]]) = true := by decide +kernel
theorem w2 : foundIs (T' 2 [.int 65535, h100]) = true := by decide +kernel
theorem w3 : foundIs (T' 3 [.int 9, .list [], .list [], .int 1000000]) = true := by decide +kernel
theorem w4 : foundIs (T' 4 [.int 1000000000, .int 1000000000, .int 200]) = true := by decide +kernel
theorem w5 : foundIs (T' 5 [k200, .int 1, .int 1]) = true := by decide +kernel
theorem w7 : foundIs (T' 7 [.int 0, .int 1000]) = true := by decide +kernel
theorem w8 : foundIs (T' 8 [.int 0, .int 1000, .int 20]) = true := by decide +kernel
theorem w6 : foundIs (T' 6 [.int 1000000000, .int 1000000000]) = true := by decide +kernel
end K44

/-! K44Y: the law holds. -/
namespace K44
open PySem BC
def sZ (ns : List Int) (a2 a3 a4 a5 a6 a7 a8 a9 a10 a11 a12 a13 a14 : Option Va) (W : List Re) : Sg := ⟨[some (.s ns), some (.c 0), a2, a3, a4, a5, a6, a7, a8, a9, a10, a11, a12, a13, a14, none, none], [], W⟩
theorem p9 : powD (.int 10) (.int 9) = some (.int 1000000000) := by
  simp only [powD]
  rw [if_pos (by decide)]
  rfl
theorem mz101 : mulD (.list [.int 0]) (.int 101) = some z101 := by
  simp only [mulD]
  rw [if_pos (by decide)]
  show some (PyData.list (List.replicate 101 [PyData.int 0]).flatten) = _
  rw [flat_rep]
  rfl
theorem mz201 : mulD (.list [.int 0]) (.int 201) = some z201 := by
  simp only [mulD]
  rw [if_pos (by decide)]
  show some (PyData.list (List.replicate 201 [PyData.int 0]).flatten) = _
  rw [flat_rep]
  rfl
theorem mh100 : mulD (.list [.int 65535]) (.int 100) = some h100 := by
  simp only [mulD]
  rw [if_pos (by decide)]
  show some (PyData.list (List.replicate 100 [PyData.int 65535]).flatten) = _
  rw [flat_rep]
  rfl
theorem mk200 : mulD (.list [.int 1000000000]) (.int 200) = some k200 := by
  simp only [mulD]
  rw [if_pos (by decide)]
  show some (PyData.list (List.replicate 200 [PyData.int 1000000000]).flatten) = _
  rw [flat_rep]
  rfl
theorem rg : rngD true 1 12 = some (.tuple [.int 1, .int 2, .int 3, .int 4, .int 5, .int 6, .int 7, .int 8, .int 9, .int 10, .int 11]) := by
  unfold rngD
  rw [if_pos (by decide)]
  rfl
theorem m8 : mulD (.list [.str "found"]) (.int 8) = some (.list [.str "found", .str "found", .str "found", .str "found", .str "found", .str "found", .str "found", .str "found"]) := by
  simp only [mulD]
  rw [if_pos (by decide)]
  rfl
theorem found8 : eqD (.list [.str "found", .str "found", .str "found", .str "found", .str "found", .str "found", .str "found", .str "found"]) (.list [.str "found", .str "found", .str "found", .str "found", .str "found", .str "found", .str "found", .str "found"]) = some true := eqD_rep (x := .str "found") (by decide +kernel) (by decide) 8
theorem two_rows (x : Xe) (v : PyData) (s : Sg) (d : PyData) (h3 : s.ρ[3]? = some (some (.d d))) (hx : ∀ i : Nat, sem (Ph own 60) gl x { s with ρ := s.ρ.set 15 (some (.d (.int (i : Int)))) } = .ok [.d v] { s with ρ := s.ρ.set 15 (some (.d (.int (i : Int)))) }) (h15 : 15 < s.ρ.length) :
    sem (Ph own 60) gl (.comp (.sseq (.tup (.cons (.cst (.int 0)) (.cons (.cst (.int 1)) .nil)))) [15] [15] .nil (.tup (.cons (.var 15) (.cons (.lst (.cons x (.cons (.var 3) .nil))) .nil)))) s = .ok [.d (.list [rowD (0, .list [v, d]), rowD (1, .list [v, d])])] s := by
  have q := comp_map1 (Φ := Ph own 60) (gl := gl) (src := .sseq (.tup (.cons (.cst (.int 0)) (.cons (.cst (.int 1)) .nil)))) (elt := .tup (.cons (.var 15) (.cons (.lst (.cons x (.cons (.var 3) .nil))) .nil))) (i := 15) (s := s) (xs := [0, 1]) (fun (i : Nat) => .int (i : Int)) (fun (i : Nat) => rowD (i, .list [v, d]))
    (by simp -implicitDefEqProofs [BC.run, toAvs, toAv, apart, b0ok, backOk, backAll, isiV, peek, isiD, tru, peekR, truthD, cmpD, ltD, binD, addD, subD, solid, solids, peeks, setTg, setIs, one1_dat, bfD, bLen, isNone, dat, partM, partI, Xe.isNil, Va.tag, goes, Re.closed, resOf, setRes, lstAt, sem_fld, kFld, kFld2, sem_fidx, kFidx, kFidx2, kFidx3, kFidx4, kFidxM, sem_oidx, kOidx, kOidx2, kOidx3, sem_flen, kFlen, kFlen2, sem_fcopy, kFcopy, kFcopy2, sem_sfl, kSfl, kSfl2, sem_popE, kPopE, kPopE2, kPopE3, sem_meth, kMe, kMeM, kMe2, sem_sset, kSset, kSset2, sem_rng1, kRng1, sem_rng2, kRng2, kRng3, sem_mt, kMt, kMt2, kMt3, mtTy, mtD, sem_dget, kDget, kDget2, kDget3, sem_pop, kPop, semS_setf, kSetf, kSetf2, kSetf3, semS_setfs, kSetfs, kSetfs2, kSetfs3, setFs, semS_newB, kNewB, kNewB2, semS_newFR, kNewFR, kNewFRm, kNewFR2, kNewFR3, kNewFO3, kPutO, semS_newFO, kNewFO, kNewFOm, kNewFOm2, semS_appE, kAppE, kAppEm, kAppE2, kAppE3, semS_newC, kNewC, kNewC2, kNewC2m, kNewC3, semS_ext, kExt, kExt2, kExt3, semS_tryA, kTryA, subX, isiX, insOf, setIns, getN, putN, heldV, simV, Re.cls, BC.listOf, closeB, openB, leave, outs, Re.plain, Fv.closed, lim]) (by simp [lim]) (fun i _ => by
      have e1 := hx i
      have e2 : ({ s with ρ := s.ρ.set 15 (some (.d (.int (i : Int)))) } : Sg).ρ[15]? = some (some (.d (.int (i : Int)))) := by
        show (s.ρ.set 15 _)[15]? = _
        rw [List.getElem?_set_self h15]
      have e3 : ({ s with ρ := s.ρ.set 15 (some (.d (.int (i : Int)))) } : Sg).ρ[3]? = some (some (.d d)) := by
        show (s.ρ.set 15 _)[3]? = _
        rw [List.getElem?_set_ne (by decide), h3]
      generalize ({ s with ρ := s.ρ.set 15 (some (.d (.int (i : Int)))) } : Sg) = s1 at *
      simp -implicitDefEqProofs [BC.run, toAvs, toAv, apart, b0ok, backOk, backAll, isiV, peek, isiD, tru, peekR, truthD, cmpD, ltD, binD, addD, subD, solid, solids, peeks, setTg, setIs, one1_dat, bfD, bLen, isNone, dat, partM, partI, Xe.isNil, Va.tag, goes, Re.closed, resOf, setRes, lstAt, sem_fld, kFld, kFld2, sem_fidx, kFidx, kFidx2, kFidx3, kFidx4, kFidxM, sem_oidx, kOidx, kOidx2, kOidx3, sem_flen, kFlen, kFlen2, sem_fcopy, kFcopy, kFcopy2, sem_sfl, kSfl, kSfl2, sem_popE, kPopE, kPopE2, kPopE3, sem_meth, kMe, kMeM, kMe2, sem_sset, kSset, kSset2, sem_rng1, kRng1, sem_rng2, kRng2, kRng3, sem_mt, kMt, kMt2, kMt3, mtTy, mtD, sem_dget, kDget, kDget2, kDget3, sem_pop, kPop, semS_setf, kSetf, kSetf2, kSetf3, semS_setfs, kSetfs, kSetfs2, kSetfs3, setFs, semS_newB, kNewB, kNewB2, semS_newFR, kNewFR, kNewFRm, kNewFR2, kNewFR3, kNewFO3, kPutO, semS_newFO, kNewFO, kNewFOm, kNewFOm2, semS_appE, kAppE, kAppEm, kAppE2, kAppE3, semS_newC, kNewC, kNewC2, kNewC2m, kNewC3, semS_ext, kExt, kExt2, kExt3, semS_tryA, kTryA, subX, isiX, insOf, setIns, getN, putN, heldV, simV, Re.cls, BC.listOf, closeB, openB, leave, outs, Re.plain, Fv.closed, e1, e2, e3, lim, rowD])
  exact q
def R8 : List (Int × PyData) := [(0, .list [.int 1000000000, .tuple [.int 1, .int 256]]), (2, .list [.int 65535, h100]), (3, .list [.int 9, .list [], .list [], .int 1000000]), (4, .list [.int 1000000000, .int 1000000000, .int 200]), (5, .list [k200, .int 1, .int 1]), (7, .list [.int 0, .int 1000]), (8, .list [.int 0, .int 1000, .int 20]), (6, .list [.int 1000000000, .int 1000000000])]
theorem k8 : ∀ r ∈ R8, ∃ v, Ph own 60 106 [.d (.int r.1), .d r.2] = .ok (.d (.tuple [.str "found", v])) [] := by
  simp only [R8, List.forall_mem_cons]
  exact ⟨foundIs_eq w0, foundIs_eq w2, foundIs_eq w3, foundIs_eq w4, foundIs_eq w5, foundIs_eq w7, foundIs_eq w8, foundIs_eq w6, fun _ z => by cases z⟩
theorem hgood : ∀ ρ : List (Option Va), ρ[14]? = some (some (.c 2)) → ρ.length = 17 → ∀ W : List Re, W[2]? = some (.lst [rowD (0, .list [.int 1000000000, .tuple [.int 1, .int 256]]), rowD (2, .list [.int 65535, h100]), rowD (3, .list [.int 9, .list [], .list [], .int 1000000]), rowD (4, .list [.int 1000000000, .int 1000000000, .int 200]), rowD (5, .list [k200, .int 1, .int 1]), rowD (7, .list [.int 0, .int 1000]), rowD (8, .list [.int 0, .int 1000, .int 20]), rowD (6, .list [.int 1000000000, .int 1000000000])]) → sem (Ph own 60) gl E_law_2 ⟨ρ, [], W⟩ = .ok [.d (.list [.str "found", .str "found", .str "found", .str "found", .str "found", .str "found", .str "found", .str "found"])] ⟨ρ, [], W.set 2 (.frz [rowD (0, .list [.int 1000000000, .tuple [.int 1, .int 256]]), rowD (2, .list [.int 65535, h100]), rowD (3, .list [.int 9, .list [], .list [], .int 1000000]), rowD (4, .list [.int 1000000000, .int 1000000000, .int 200]), rowD (5, .list [k200, .int 1, .int 1]), rowD (7, .list [.int 0, .int 1000]), rowD (8, .list [.int 0, .int 1000, .int 20]), rowD (6, .list [.int 1000000000, .int 1000000000])])⟩ := fun ρ hρ hlen W hW => by
    have hsrc : sem (Ph own 60) gl (.sseq (.frz 14)) ⟨ρ, [], W⟩ = .ok (R8.map fun r => .d (rowD r)) ⟨ρ, [], W.set 2 (.frz [rowD (0, .list [.int 1000000000, .tuple [.int 1, .int 256]]), rowD (2, .list [.int 65535, h100]), rowD (3, .list [.int 9, .list [], .list [], .int 1000000]), rowD (4, .list [.int 1000000000, .int 1000000000, .int 200]), rowD (5, .list [k200, .int 1, .int 1]), rowD (7, .list [.int 0, .int 1000]), rowD (8, .list [.int 0, .int 1000, .int 20]), rowD (6, .list [.int 1000000000, .int 1000000000])])⟩ := by
      simp -implicitDefEqProofs [BC.run, toAvs, toAv, apart, b0ok, backOk, backAll, isiV, peek, isiD, tru, peekR, truthD, cmpD, ltD, binD, addD, subD, solid, solids, peeks, setTg, setIs, one1_dat, bfD, bLen, isNone, dat, partM, partI, Xe.isNil, Va.tag, goes, Re.closed, resOf, setRes, lstAt, sem_fld, kFld, kFld2, sem_fidx, kFidx, kFidx2, kFidx3, kFidx4, kFidxM, sem_oidx, kOidx, kOidx2, kOidx3, sem_flen, kFlen, kFlen2, sem_fcopy, kFcopy, kFcopy2, sem_sfl, kSfl, kSfl2, sem_popE, kPopE, kPopE2, kPopE3, sem_meth, kMe, kMeM, kMe2, sem_sset, kSset, kSset2, sem_rng1, kRng1, sem_rng2, kRng2, kRng3, sem_mt, kMt, kMt2, kMt3, mtTy, mtD, sem_dget, kDget, kDget2, kDget3, sem_pop, kPop, semS_setf, kSetf, kSetf2, kSetf3, semS_setfs, kSetfs, kSetfs2, kSetfs3, setFs, semS_newB, kNewB, kNewB2, semS_newFR, kNewFR, kNewFRm, kNewFR2, kNewFR3, kNewFO3, kPutO, semS_newFO, kNewFO, kNewFOm, kNewFOm2, semS_appE, kAppE, kAppEm, kAppE2, kAppE3, semS_newC, kNewC, kNewC2, kNewC2m, kNewC3, semS_ext, kExt, kExt2, kExt3, semS_tryA, kTryA, subX, isiX, insOf, setIns, getN, putN, heldV, simV, Re.cls, BC.listOf, closeB, openB, leave, outs, Re.plain, Fv.closed, hρ, hW, R8]
    have hsrc2 : (fun _ => Rs.ok (R8.map fun r => Va.d (rowD r)) (⟨ρ, [], W.set 2 (.frz [rowD (0, .list [.int 1000000000, .tuple [.int 1, .int 256]]), rowD (2, .list [.int 65535, h100]), rowD (3, .list [.int 9, .list [], .list [], .int 1000000]), rowD (4, .list [.int 1000000000, .int 1000000000, .int 200]), rowD (5, .list [k200, .int 1, .int 1]), rowD (7, .list [.int 0, .int 1000]), rowD (8, .list [.int 0, .int 1000, .int 20]), rowD (6, .list [.int 1000000000, .int 1000000000])])⟩ : Sg)) (⟨ρ, [], W.set 2 (.frz [rowD (0, .list [.int 1000000000, .tuple [.int 1, .int 256]]), rowD (2, .list [.int 65535, h100]), rowD (3, .list [.int 9, .list [], .list [], .int 1000000]), rowD (4, .list [.int 1000000000, .int 1000000000, .int 200]), rowD (5, .list [k200, .int 1, .int 1]), rowD (7, .list [.int 0, .int 1000]), rowD (8, .list [.int 0, .int 1000, .int 20]), rowD (6, .list [.int 1000000000, .int 1000000000])])⟩ : Sg) = .ok (R8.map fun r => .d (rowD r)) ⟨ρ, [], W.set 2 (.frz [rowD (0, .list [.int 1000000000, .tuple [.int 1, .int 256]]), rowD (2, .list [.int 65535, h100]), rowD (3, .list [.int 9, .list [], .list [], .int 1000000]), rowD (4, .list [.int 1000000000, .int 1000000000, .int 200]), rowD (5, .list [k200, .int 1, .int 1]), rowD (7, .list [.int 0, .int 1000]), rowD (8, .list [.int 0, .int 1000, .int 20]), rowD (6, .list [.int 1000000000, .int 1000000000])])⟩ := rfl
    have e := compM_pure (src := fun _ => Rs.ok (R8.map fun r => Va.d (rowD r)) (⟨ρ, [], W.set 2 (.frz [rowD (0, .list [.int 1000000000, .tuple [.int 1, .int 256]]), rowD (2, .list [.int 65535, h100]), rowD (3, .list [.int 9, .list [], .list [], .int 1000000]), rowD (4, .list [.int 1000000000, .int 1000000000, .int 200]), rowD (5, .list [k200, .int 1, .int 1]), rowD (7, .list [.int 0, .int 1000]), rowD (8, .list [.int 0, .int 1000, .int 20]), rowD (6, .list [.int 1000000000, .int 1000000000])])⟩ : Sg)) (tg := [15, 16]) (own := [15, 16]) (cond := condM Xe.nil.isNil (sem (Ph own 60) gl .nil)) (elt := sem (Ph own 60) gl (.idx (.call 106 0 (.cons (.var 15) (.cons (.var 16) .nil))) (.cst (.int 0)))) (s := ⟨ρ, [], W.set 2 (.frz [rowD (0, .list [.int 1000000000, .tuple [.int 1, .int 256]]), rowD (2, .list [.int 65535, h100]), rowD (3, .list [.int 9, .list [], .list [], .int 1000000]), rowD (4, .list [.int 1000000000, .int 1000000000, .int 200]), rowD (5, .list [k200, .int 1, .int 1]), rowD (7, .list [.int 0, .int 1000]), rowD (8, .list [.int 0, .int 1000, .int 20]), rowD (6, .list [.int 1000000000, .int 1000000000])])⟩) (xs := R8) rowD (fun _ => true) (fun _ => .str "found")
      hsrc2 (by show 8 ≤ 1000000; decide) (fun r hr => by
        obtain ⟨v, e1⟩ := k8 r hr
        have i0 : idxD (.tuple [.str "found", v]) (.int 0) = some (.str "found") := rfl
        let t : Sg := ⟨(((((ρ.set 16 none).set 15 none).set 15 (some (.d (.int r.1)))).set 16 (some (.d r.2)))), [], W.set 2 (.frz [rowD (0, .list [.int 1000000000, .tuple [.int 1, .int 256]]), rowD (2, .list [.int 65535, h100]), rowD (3, .list [.int 9, .list [], .list [], .int 1000000]), rowD (4, .list [.int 1000000000, .int 1000000000, .int 200]), rowD (5, .list [k200, .int 1, .int 1]), rowD (7, .list [.int 0, .int 1000]), rowD (8, .list [.int 0, .int 1000, .int 20]), rowD (6, .list [.int 1000000000, .int 1000000000])])⟩
        have q15 : t.ρ[15]? = some (some (.d (.int r.1))) := by
          show (List.set _ 16 _)[15]? = _
          rw [List.getElem?_set_ne (by decide), List.getElem?_set_self (by simp [hlen])]
        have q16 : t.ρ[16]? = some (some (.d r.2)) := by
          show (List.set _ 16 _)[16]? = _
          rw [List.getElem?_set_self (by simp [hlen])]
        refine ⟨t, rfl, t, rfl, rfl, rfl, fun _ => ⟨t, rfl, rfl, ?_⟩⟩
        generalize t = t1 at *
        simp -implicitDefEqProofs [BC.run, toAvs, toAv, apart, b0ok, backOk, backAll, isiV, peek, isiD, tru, peekR, truthD, cmpD, ltD, binD, addD, subD, solid, solids, peeks, setTg, setIs, one1_dat, bfD, bLen, isNone, dat, partM, partI, Xe.isNil, Va.tag, goes, Re.closed, resOf, setRes, lstAt, sem_fld, kFld, kFld2, sem_fidx, kFidx, kFidx2, kFidx3, kFidx4, kFidxM, sem_oidx, kOidx, kOidx2, kOidx3, sem_flen, kFlen, kFlen2, sem_fcopy, kFcopy, kFcopy2, sem_sfl, kSfl, kSfl2, sem_popE, kPopE, kPopE2, kPopE3, sem_meth, kMe, kMeM, kMe2, sem_sset, kSset, kSset2, sem_rng1, kRng1, sem_rng2, kRng2, kRng3, sem_mt, kMt, kMt2, kMt3, mtTy, mtD, sem_dget, kDget, kDget2, kDget3, sem_pop, kPop, semS_setf, kSetf, kSetf2, kSetf3, semS_setfs, kSetfs, kSetfs2, kSetfs3, setFs, semS_newB, kNewB, kNewB2, semS_newFR, kNewFR, kNewFRm, kNewFR2, kNewFR3, kNewFO3, kPutO, semS_newFO, kNewFO, kNewFOm, kNewFOm2, semS_appE, kAppE, kAppEm, kAppE2, kAppE3, semS_newC, kNewC, kNewC2, kNewC2m, kNewC3, semS_ext, kExt, kExt2, kExt3, semS_tryA, kTryA, subX, isiX, insOf, setIns, getN, putN, heldV, simV, Re.cls, BC.listOf, closeB, openB, leave, outs, Re.plain, Fv.closed, q15, q16, e1, i0])
    show (compM _ _ _ _ _ _).bind _ = _
    have ec : compM (sem (Ph own 60) gl (.sseq (.frz 14))) [15, 16] [15, 16] (condM Xe.nil.isNil (sem (Ph own 60) gl .nil)) (sem (Ph own 60) gl (.idx (.call 106 0 (.cons (.var 15) (.cons (.var 16) .nil))) (.cst (.int 0)))) ⟨ρ, [], W⟩ = Rs.ok (((R8.filter fun _ => true).map fun _ => PyData.str "found").map Va.d) ⟨ρ, [], W.set 2 (.frz [rowD (0, .list [.int 1000000000, .tuple [.int 1, .int 256]]), rowD (2, .list [.int 65535, h100]), rowD (3, .list [.int 9, .list [], .list [], .int 1000000]), rowD (4, .list [.int 1000000000, .int 1000000000, .int 200]), rowD (5, .list [k200, .int 1, .int 1]), rowD (7, .list [.int 0, .int 1000]), rowD (8, .list [.int 0, .int 1000, .int 20]), rowD (6, .list [.int 1000000000, .int 1000000000])])⟩ := by
      have e' := e
      rw [compM_eq] at e'
      rw [compM_eq, hsrc]
      exact e'
    rw [ec, bind_ok, solids_d]
    rfl
theorem law_math : ∀ ns : List Int, ns.length ≤ 63 → Ph own 61 108 [.s ns] = .ok (.d (.bool true)) [] := by
  intro ns _
  obtain ⟨span, hspan, espan⟩ := pick_ok own 56 ns 0 (l := spans) (by simp [spans]) (by omega)
  obtain ⟨divides, hdivides, edivides⟩ := pick_ok own 56 ns 1 (l := divs) (by simp [divs]) (by omega)
  obtain ⟨high, hhigh, ehigh⟩ := pick_ok own 56 ns 2 (l := highs) (by simp [highs]) (by omega)
  obtain ⟨reads, hreads, ereads⟩ := pick_ok own 56 ns 3 (l := readss) (by simp [readss]) (by omega)
  obtain ⟨slip, hslip, eslip⟩ := pick_ok own 56 ns 4 (l := slips) (by simp [slips]) (by omega)
  obtain ⟨many, hmany, emany⟩ := pick_ok own 56 ns 5 (l := manys) (by simp [manys]) (by omega)
  obtain ⟨gap, hgap, egap⟩ := pick_ok own 56 ns 6 (l := gaps) (by simp [gaps]) (by omega)
  obtain ⟨tries, htries, etries⟩ := pick_ok own 56 ns 7 (l := triess) (by simp [triess]) (by omega)
  obtain ⟨times, htimes, etimes⟩ := pick_ok own 56 ns 8 (l := timess) (by simp [timess]) (by omega)
  obtain ⟨periods, hperiods, eperiods⟩ := pick_ok own 56 ns 9 (l := periodss) (by simp [periodss]) (by omega)
  obtain ⟨number, hnumber, enumber⟩ := pick_ok own 56 ns 10 (l := numbers) (by simp [numbers]) (by omega)
  have addi : ∀ i j : Int, addD (.int i) (.int j) = some (.int (i + j)) := fun _ _ => rfl
  let L1 : List (Int × PyData) := [(0, .list [span, divides]), (1, .list [span, divides]), (0, .list [.int 9, divides]), (1, .list [.int 9, divides])]
  let L2 : List (Int × PyData) := [(0, .list [span, divides]), (1, .list [span, divides]), (0, .list [.int 9, divides]), (1, .list [.int 9, divides]), (2, .list [high, reads]), (3, .list [high, reads, .none, .none]), (3, .list [.int 9, .list [.int 1, .int 2], .list [.int 1, .int 1], .int (-1)])]
  let L3 : List (Int × PyData) := [(0, .list [span, divides]), (1, .list [span, divides]), (0, .list [.int 9, divides]), (1, .list [.int 9, divides]), (2, .list [high, reads]), (3, .list [high, reads, .none, .none]), (3, .list [.int 9, .list [.int 1, .int 2], .list [.int 1, .int 1], .int (-1)]), (3, .list [.int 9, .list [.int 1], .list [.int 5], slip]), (4, .list [.int 1, .int 2, .int 0]), (4, .list [span, .int 1, .int 0]), (4, .list [.int 9, span, .int 0])]
  let L4 : List (Int × PyData) := [(0, .list [span, divides]), (1, .list [span, divides]), (0, .list [.int 9, divides]), (1, .list [.int 9, divides]), (2, .list [high, reads]), (3, .list [high, reads, .none, .none]), (3, .list [.int 9, .list [.int 1, .int 2], .list [.int 1, .int 1], .int (-1)]), (3, .list [.int 9, .list [.int 1], .list [.int 5], slip]), (4, .list [.int 1, .int 2, .int 0]), (4, .list [span, .int 1, .int 0]), (4, .list [.int 9, span, .int 0]), (4, .list [.int 9, .int 2, many]), (5, .list [.list [.int 1], .int 1, .int 2]), (5, .list [.list [], span, .int 1]), (6, .list [span, .int 1]), (6, .list [.int 1, span])]
  let L5 : List (Int × PyData) := [(0, .list [span, divides]), (1, .list [span, divides]), (0, .list [.int 9, divides]), (1, .list [.int 9, divides]), (2, .list [high, reads]), (3, .list [high, reads, .none, .none]), (3, .list [.int 9, .list [.int 1, .int 2], .list [.int 1, .int 1], .int (-1)]), (3, .list [.int 9, .list [.int 1], .list [.int 5], slip]), (4, .list [.int 1, .int 2, .int 0]), (4, .list [span, .int 1, .int 0]), (4, .list [.int 9, span, .int 0]), (4, .list [.int 9, .int 2, many]), (5, .list [.list [.int 1], .int 1, .int 2]), (5, .list [.list [], span, .int 1]), (6, .list [span, .int 1]), (6, .list [.int 1, span]), (7, .list [.int 0, gap]), (8, .list [.int 0, gap, tries]), (8, .list [.int 0, .int 0, tries])]
  let Lq : List (Int × PyData) := [(2, .list [.int 9, reads]), (3, .list [.int 9, reads, .none, slip]), (3, .list [.int 9, .list [.int 1, .int 2], times, slip]), (5, .list [periods, .int 0, .int 0])]
  let Lz : List (Int × PyData) := [(7, .list [number, gap]), (8, .list [number, gap, tries])]
  have a1 := v1 span hspan divides hdivides
  have a2 := v2 divides hdivides
  have a3 := v3 high hhigh reads hreads
  have a5 := v5 slip hslip
  have a6 := v6.2 span hspan
  have a7 := v7 many hmany
  have a8 := v8.2 span hspan
  have a9 := v9 gap hgap
  have a9' := a9.2 tries htries
  have k5 : ∀ r ∈ L5, Ph own 59 106 [.d (.int r.1), .d r.2] = .ok (.d (ref "number")) [] := by
    simp only [L5, List.forall_mem_cons]
    exact ⟨toldIs_eq a1.1, toldIs_eq a1.2, toldIs_eq a2.1, toldIs_eq a2.2, toldIs_eq a3.1, toldIs_eq a3.2, toldIs_eq v4, toldIs_eq a5, toldIs_eq v6.1, toldIs_eq a6.1, toldIs_eq a6.2, toldIs_eq a7, toldIs_eq v8.1, toldIs_eq a8.1, toldIs_eq a8.2.1, toldIs_eq a8.2.2, toldIs_eq a9.1, toldIs_eq a9'.1, toldIs_eq a9'.2, fun _ z => by cases z⟩
  have b1 := v10 reads hreads
  have kq : ∀ r ∈ Lq, Ph own 59 106 [.d (.int r.1), .d r.2] = .ok (.d (ref "reads")) [] := by
    simp only [Lq, List.forall_mem_cons]
    exact ⟨toldIs_eq b1.1, toldIs_eq (b1.2 slip hslip), toldIs_eq (v11 times htimes slip hslip), toldIs_eq (v12 periods hperiods), fun _ z => by cases z⟩
  have c1 := v13 number hnumber gap hgap
  have kz : ∀ r ∈ Lz, Ph own 59 106 [.d (.int r.1), .d r.2] = .ok (.d (ref "timer")) [] := by
    simp only [Lz, List.forall_mem_cons]
    exact ⟨toldIs_eq c1.1, toldIs_eq (c1.2 tries htries), fun _ z => by cases z⟩
  have g5 := are_ok L5 "number" (by decide +kernel) (by simp [L5]) k5
  have gq := are_ok Lq "reads" (by decide +kernel) (by simp [Lq]) kq
  have gz := are_ok Lz "timer" (by decide +kernel) (by simp [Lz]) kz
  simp only [L5, List.map_cons, List.map_nil] at g5
  simp only [Lq, List.map_cons, List.map_nil] at gq
  simp only [Lz, List.map_cons, List.map_nil, rowD] at gz
  have q : semS (Ph own 60) gl C_law ⟨[some (.s ns), none, none, none, none, none, none, none, none, none, none, none, none, none, none, none, none], [], []⟩ = .ok (.ret (.d (.bool true))) (sZ ns (some (.d span)) (some (.d divides)) (some (.d (.list (Lq.map rowD)))) (some (.d high)) (some (.d reads)) (some (.d slip)) (some (.d many)) (some (.d gap)) (some (.d tries)) (some (.d times)) (some (.d periods)) (some (.d number)) (some (.c 2)) [.lst (town 11), .lst [rowD (0, .list [.int 1000000000, .tuple [.int 1, .int 256]]), rowD (2, .list [.int 65535, h100]), rowD (3, .list [.int 9, .list [], .list [], .int 1000000]), rowD (4, .list [.int 1000000000, .int 1000000000, .int 200])], .frz [rowD (0, .list [.int 1000000000, .tuple [.int 1, .int 256]]), rowD (2, .list [.int 65535, h100]), rowD (3, .list [.int 9, .list [], .list [], .int 1000000]), rowD (4, .list [.int 1000000000, .int 1000000000, .int 200]), rowD (5, .list [k200, .int 1, .int 1]), rowD (7, .list [.int 0, .int 1000]), rowD (8, .list [.int 0, .int 1000, .int 20]), rowD (6, .list [.int 1000000000, .int 1000000000])]]) := by
    show semS (Ph own 60) gl T_law_0 _ = _
    refine (step_next T_law_0 rfl (sZ ns none none none none none none none none none none none none none [.lst (town 0)]) (by unfold sZ; simp -implicitDefEqProofs [BC.run, toAvs, toAv, apart, b0ok, backOk, backAll, isiV, peek, isiD, tru, peekR, truthD, cmpD, ltD, binD, addD, subD, solid, solids, peeks, setTg, setIs, one1_dat, bfD, bLen, isNone, dat, partM, partI, Xe.isNil, Va.tag, goes, Re.closed, resOf, setRes, lstAt, sem_fld, kFld, kFld2, sem_fidx, kFidx, kFidx2, kFidx3, kFidx4, kFidxM, sem_oidx, kOidx, kOidx2, kOidx3, sem_flen, kFlen, kFlen2, sem_fcopy, kFcopy, kFcopy2, sem_sfl, kSfl, kSfl2, sem_popE, kPopE, kPopE2, kPopE3, sem_meth, kMe, kMeM, kMe2, sem_sset, kSset, kSset2, sem_rng1, kRng1, sem_rng2, kRng2, kRng3, sem_mt, kMt, kMt2, kMt3, mtTy, mtD, sem_dget, kDget, kDget2, kDget3, sem_pop, kPop, semS_setf, kSetf, kSetf2, kSetf3, semS_setfs, kSetfs, kSetfs2, kSetfs3, setFs, semS_newB, kNewB, kNewB2, semS_newFR, kNewFR, kNewFRm, kNewFR2, kNewFR3, kNewFO3, kPutO, semS_newFO, kNewFO, kNewFOm, kNewFOm2, semS_appE, kAppE, kAppEm, kAppE2, kAppE3, semS_newC, kNewC, kNewC2, kNewC2m, kNewC3, semS_ext, kExt, kExt2, kExt3, semS_tryA, kTryA, subX, isiX, insOf, setIns, getN, putN, heldV, simV, Re.cls, BC.listOf, closeB, openB, leave, outs, Re.plain, Fv.closed, lim, show town 0 = [] from rfl])).trans ?_
    refine (step_next T_law_1 rfl (sZ ns (some (.d span)) none none none none none none none none none none none none [.lst (town 1)]) (by simp only [spans] at espan; unfold sZ; simp -implicitDefEqProofs [BC.run, toAvs, toAv, apart, b0ok, backOk, backAll, isiV, peek, isiD, tru, peekR, truthD, cmpD, ltD, binD, addD, subD, solid, solids, peeks, setTg, setIs, one1_dat, bfD, bLen, isNone, dat, partM, partI, Xe.isNil, Va.tag, goes, Re.closed, resOf, setRes, lstAt, sem_fld, kFld, kFld2, sem_fidx, kFidx, kFidx2, kFidx3, kFidx4, kFidxM, sem_oidx, kOidx, kOidx2, kOidx3, sem_flen, kFlen, kFlen2, sem_fcopy, kFcopy, kFcopy2, sem_sfl, kSfl, kSfl2, sem_popE, kPopE, kPopE2, kPopE3, sem_meth, kMe, kMeM, kMe2, sem_sset, kSset, kSset2, sem_rng1, kRng1, sem_rng2, kRng2, kRng3, sem_mt, kMt, kMt2, kMt3, mtTy, mtD, sem_dget, kDget, kDget2, kDget3, sem_pop, kPop, semS_setf, kSetf, kSetf2, kSetf3, semS_setfs, kSetfs, kSetfs2, kSetfs3, setFs, semS_newB, kNewB, kNewB2, semS_newFR, kNewFR, kNewFRm, kNewFR2, kNewFR3, kNewFO3, kPutO, semS_newFO, kNewFO, kNewFOm, kNewFOm2, semS_appE, kAppE, kAppEm, kAppE2, kAppE3, semS_newC, kNewC, kNewC2, kNewC2m, kNewC3, semS_ext, kExt, kExt2, kExt3, semS_tryA, kTryA, subX, isiX, insOf, setIns, getN, putN, heldV, simV, Re.cls, BC.listOf, closeB, openB, leave, outs, Re.plain, Fv.closed, lim, addi, p9, espan])).trans ?_
    refine (step_next T_law_2 rfl (sZ ns (some (.d span)) (some (.d divides)) none none none none none none none none none none none [.lst (town 2)]) (by simp only [divs] at edivides; unfold sZ; simp -implicitDefEqProofs [BC.run, toAvs, toAv, apart, b0ok, backOk, backAll, isiV, peek, isiD, tru, peekR, truthD, cmpD, ltD, binD, addD, subD, solid, solids, peeks, setTg, setIs, one1_dat, bfD, bLen, isNone, dat, partM, partI, Xe.isNil, Va.tag, goes, Re.closed, resOf, setRes, lstAt, sem_fld, kFld, kFld2, sem_fidx, kFidx, kFidx2, kFidx3, kFidx4, kFidxM, sem_oidx, kOidx, kOidx2, kOidx3, sem_flen, kFlen, kFlen2, sem_fcopy, kFcopy, kFcopy2, sem_sfl, kSfl, kSfl2, sem_popE, kPopE, kPopE2, kPopE3, sem_meth, kMe, kMeM, kMe2, sem_sset, kSset, kSset2, sem_rng1, kRng1, sem_rng2, kRng2, kRng3, sem_mt, kMt, kMt2, kMt3, mtTy, mtD, sem_dget, kDget, kDget2, kDget3, sem_pop, kPop, semS_setf, kSetf, kSetf2, kSetf3, semS_setfs, kSetfs, kSetfs2, kSetfs3, setFs, semS_newB, kNewB, kNewB2, semS_newFR, kNewFR, kNewFRm, kNewFR2, kNewFR3, kNewFO3, kPutO, semS_newFO, kNewFO, kNewFOm, kNewFOm2, semS_appE, kAppE, kAppEm, kAppE2, kAppE3, semS_newC, kNewC, kNewC2, kNewC2m, kNewC3, semS_ext, kExt, kExt2, kExt3, semS_tryA, kTryA, subX, isiX, insOf, setIns, getN, putN, heldV, simV, Re.cls, BC.listOf, closeB, openB, leave, outs, Re.plain, Fv.closed, lim, addi, p9, rg, edivides])).trans ?_
    refine (step_next T_law_3 rfl (sZ ns (some (.d span)) (some (.d divides)) (some (.d (.list (L1.map rowD)))) none none none none none none none none none none [.lst (town 2)]) (by 
      have s3a : ∀ s : Sg, s.ρ[3]? = some (some (.d divides)) → s.ρ[2]? = some (some (.d span)) → 15 < s.ρ.length → sem (Ph own 60) gl E_law_0 s = .ok [.d (.list [rowD (0, .list [span, divides]), rowD (1, .list [span, divides])])] s := fun s h3 h2 hl => two_rows (.var 2) span s divides h3 (fun i => by
        have e : ({ s with ρ := s.ρ.set 15 (some (.d (.int (i : Int)))) } : Sg).ρ[2]? = some (some (.d span)) := by
          show (s.ρ.set 15 _)[2]? = _
          rw [List.getElem?_set_ne (by decide), h2]
        generalize ({ s with ρ := s.ρ.set 15 (some (.d (.int (i : Int)))) } : Sg) = s1 at *
        simp -implicitDefEqProofs [BC.run, toAvs, toAv, apart, b0ok, backOk, backAll, isiV, peek, isiD, tru, peekR, truthD, cmpD, ltD, binD, addD, subD, solid, solids, peeks, setTg, setIs, one1_dat, bfD, bLen, isNone, dat, partM, partI, Xe.isNil, Va.tag, goes, Re.closed, resOf, setRes, lstAt, sem_fld, kFld, kFld2, sem_fidx, kFidx, kFidx2, kFidx3, kFidx4, kFidxM, sem_oidx, kOidx, kOidx2, kOidx3, sem_flen, kFlen, kFlen2, sem_fcopy, kFcopy, kFcopy2, sem_sfl, kSfl, kSfl2, sem_popE, kPopE, kPopE2, kPopE3, sem_meth, kMe, kMeM, kMe2, sem_sset, kSset, kSset2, sem_rng1, kRng1, sem_rng2, kRng2, kRng3, sem_mt, kMt, kMt2, kMt3, mtTy, mtD, sem_dget, kDget, kDget2, kDget3, sem_pop, kPop, semS_setf, kSetf, kSetf2, kSetf3, semS_setfs, kSetfs, kSetfs2, kSetfs3, setFs, semS_newB, kNewB, kNewB2, semS_newFR, kNewFR, kNewFRm, kNewFR2, kNewFR3, kNewFO3, kPutO, semS_newFO, kNewFO, kNewFOm, kNewFOm2, semS_appE, kAppE, kAppEm, kAppE2, kAppE3, semS_newC, kNewC, kNewC2, kNewC2m, kNewC3, semS_ext, kExt, kExt2, kExt3, semS_tryA, kTryA, subX, isiX, insOf, setIns, getN, putN, heldV, simV, Re.cls, BC.listOf, closeB, openB, leave, outs, Re.plain, Fv.closed, e]) hl
      have s3b : ∀ s : Sg, s.ρ[3]? = some (some (.d divides)) → 15 < s.ρ.length → sem (Ph own 60) gl E_law_1 s = .ok [.d (.list [rowD (0, .list [.int 9, divides]), rowD (1, .list [.int 9, divides])])] s := fun s h3 hl => two_rows (.cst (.int 9)) (.int 9) s divides h3 (fun i => by simp -implicitDefEqProofs [BC.run, toAvs, toAv, apart, b0ok, backOk, backAll, isiV, peek, isiD, tru, peekR, truthD, cmpD, ltD, binD, addD, subD, solid, solids, peeks, setTg, setIs, one1_dat, bfD, bLen, isNone, dat, partM, partI, Xe.isNil, Va.tag, goes, Re.closed, resOf, setRes, lstAt, sem_fld, kFld, kFld2, sem_fidx, kFidx, kFidx2, kFidx3, kFidx4, kFidxM, sem_oidx, kOidx, kOidx2, kOidx3, sem_flen, kFlen, kFlen2, sem_fcopy, kFcopy, kFcopy2, sem_sfl, kSfl, kSfl2, sem_popE, kPopE, kPopE2, kPopE3, sem_meth, kMe, kMeM, kMe2, sem_sset, kSset, kSset2, sem_rng1, kRng1, sem_rng2, kRng2, kRng3, sem_mt, kMt, kMt2, kMt3, mtTy, mtD, sem_dget, kDget, kDget2, kDget3, sem_pop, kPop, semS_setf, kSetf, kSetf2, kSetf3, semS_setfs, kSetfs, kSetfs2, kSetfs3, setFs, semS_newB, kNewB, kNewB2, semS_newFR, kNewFR, kNewFRm, kNewFR2, kNewFR3, kNewFO3, kPutO, semS_newFO, kNewFO, kNewFOm, kNewFOm2, semS_appE, kAppE, kAppEm, kAppE2, kAppE3, semS_newC, kNewC, kNewC2, kNewC2m, kNewC3, semS_ext, kExt, kExt2, kExt3, semS_tryA, kTryA, subX, isiX, insOf, setIns, getN, putN, heldV, simV, Re.cls, BC.listOf, closeB, openB, leave, outs, Re.plain, Fv.closed]) hl
      unfold sZ; simp -implicitDefEqProofs [BC.run, toAvs, toAv, apart, b0ok, backOk, backAll, isiV, peek, isiD, tru, peekR, truthD, cmpD, ltD, binD, addD, subD, solid, solids, peeks, setTg, setIs, one1_dat, bfD, bLen, isNone, dat, partM, partI, Xe.isNil, Va.tag, goes, Re.closed, resOf, setRes, lstAt, sem_fld, kFld, kFld2, sem_fidx, kFidx, kFidx2, kFidx3, kFidx4, kFidxM, sem_oidx, kOidx, kOidx2, kOidx3, sem_flen, kFlen, kFlen2, sem_fcopy, kFcopy, kFcopy2, sem_sfl, kSfl, kSfl2, sem_popE, kPopE, kPopE2, kPopE3, sem_meth, kMe, kMeM, kMe2, sem_sset, kSset, kSset2, sem_rng1, kRng1, sem_rng2, kRng2, kRng3, sem_mt, kMt, kMt2, kMt3, mtTy, mtD, sem_dget, kDget, kDget2, kDget3, sem_pop, kPop, semS_setf, kSetf, kSetf2, kSetf3, semS_setfs, kSetfs, kSetfs2, kSetfs3, setFs, semS_newB, kNewB, kNewB2, semS_newFR, kNewFR, kNewFRm, kNewFR2, kNewFR3, kNewFO3, kPutO, semS_newFO, kNewFO, kNewFOm, kNewFOm2, semS_appE, kAppE, kAppEm, kAppE2, kAppE3, semS_newC, kNewC, kNewC2, kNewC2m, kNewC3, semS_ext, kExt, kExt2, kExt3, semS_tryA, kTryA, subX, isiX, insOf, setIns, getN, putN, heldV, simV, Re.cls, BC.listOf, closeB, openB, leave, outs, Re.plain, Fv.closed, lim, s3a, s3b, L1])).trans ?_
    refine (step_next T_law_4 rfl (sZ ns (some (.d span)) (some (.d divides)) (some (.d (.list (L1.map rowD)))) (some (.d high)) none none none none none none none none none [.lst (town 3)]) (by simp only [highs] at ehigh; unfold sZ; simp -implicitDefEqProofs [BC.run, toAvs, toAv, apart, b0ok, backOk, backAll, isiV, peek, isiD, tru, peekR, truthD, cmpD, ltD, binD, addD, subD, solid, solids, peeks, setTg, setIs, one1_dat, bfD, bLen, isNone, dat, partM, partI, Xe.isNil, Va.tag, goes, Re.closed, resOf, setRes, lstAt, sem_fld, kFld, kFld2, sem_fidx, kFidx, kFidx2, kFidx3, kFidx4, kFidxM, sem_oidx, kOidx, kOidx2, kOidx3, sem_flen, kFlen, kFlen2, sem_fcopy, kFcopy, kFcopy2, sem_sfl, kSfl, kSfl2, sem_popE, kPopE, kPopE2, kPopE3, sem_meth, kMe, kMeM, kMe2, sem_sset, kSset, kSset2, sem_rng1, kRng1, sem_rng2, kRng2, kRng3, sem_mt, kMt, kMt2, kMt3, mtTy, mtD, sem_dget, kDget, kDget2, kDget3, sem_pop, kPop, semS_setf, kSetf, kSetf2, kSetf3, semS_setfs, kSetfs, kSetfs2, kSetfs3, setFs, semS_newB, kNewB, kNewB2, semS_newFR, kNewFR, kNewFRm, kNewFR2, kNewFR3, kNewFO3, kPutO, semS_newFO, kNewFO, kNewFOm, kNewFOm2, semS_appE, kAppE, kAppEm, kAppE2, kAppE3, semS_newC, kNewC, kNewC2, kNewC2m, kNewC3, semS_ext, kExt, kExt2, kExt3, semS_tryA, kTryA, subX, isiX, insOf, setIns, getN, putN, heldV, simV, Re.cls, BC.listOf, closeB, openB, leave, outs, Re.plain, Fv.closed, lim, addi, p9, ehigh])).trans ?_
    refine (step_next T_law_5 rfl (sZ ns (some (.d span)) (some (.d divides)) (some (.d (.list (L1.map rowD)))) (some (.d high)) (some (.d reads)) none none none none none none none none [.lst (town 4)]) (by simp only [readss] at ereads; unfold sZ; simp -implicitDefEqProofs [BC.run, toAvs, toAv, apart, b0ok, backOk, backAll, isiV, peek, isiD, tru, peekR, truthD, cmpD, ltD, binD, addD, subD, solid, solids, peeks, setTg, setIs, one1_dat, bfD, bLen, isNone, dat, partM, partI, Xe.isNil, Va.tag, goes, Re.closed, resOf, setRes, lstAt, sem_fld, kFld, kFld2, sem_fidx, kFidx, kFidx2, kFidx3, kFidx4, kFidxM, sem_oidx, kOidx, kOidx2, kOidx3, sem_flen, kFlen, kFlen2, sem_fcopy, kFcopy, kFcopy2, sem_sfl, kSfl, kSfl2, sem_popE, kPopE, kPopE2, kPopE3, sem_meth, kMe, kMeM, kMe2, sem_sset, kSset, kSset2, sem_rng1, kRng1, sem_rng2, kRng2, kRng3, sem_mt, kMt, kMt2, kMt3, mtTy, mtD, sem_dget, kDget, kDget2, kDget3, sem_pop, kPop, semS_setf, kSetf, kSetf2, kSetf3, semS_setfs, kSetfs, kSetfs2, kSetfs3, setFs, semS_newB, kNewB, kNewB2, semS_newFR, kNewFR, kNewFRm, kNewFR2, kNewFR3, kNewFO3, kPutO, semS_newFO, kNewFO, kNewFOm, kNewFOm2, semS_appE, kAppE, kAppEm, kAppE2, kAppE3, semS_newC, kNewC, kNewC2, kNewC2m, kNewC3, semS_ext, kExt, kExt2, kExt3, semS_tryA, kTryA, subX, isiX, insOf, setIns, getN, putN, heldV, simV, Re.cls, BC.listOf, closeB, openB, leave, outs, Re.plain, Fv.closed, lim, addi, p9, mz101, ereads])).trans ?_
    refine (step_next T_law_6 rfl (sZ ns (some (.d span)) (some (.d divides)) (some (.d (.list (L2.map rowD)))) (some (.d high)) (some (.d reads)) none none none none none none none none [.lst (town 4)]) (by unfold sZ; simp -implicitDefEqProofs [BC.run, toAvs, toAv, apart, b0ok, backOk, backAll, isiV, peek, isiD, tru, peekR, truthD, cmpD, ltD, binD, addD, subD, solid, solids, peeks, setTg, setIs, one1_dat, bfD, bLen, isNone, dat, partM, partI, Xe.isNil, Va.tag, goes, Re.closed, resOf, setRes, lstAt, sem_fld, kFld, kFld2, sem_fidx, kFidx, kFidx2, kFidx3, kFidx4, kFidxM, sem_oidx, kOidx, kOidx2, kOidx3, sem_flen, kFlen, kFlen2, sem_fcopy, kFcopy, kFcopy2, sem_sfl, kSfl, kSfl2, sem_popE, kPopE, kPopE2, kPopE3, sem_meth, kMe, kMeM, kMe2, sem_sset, kSset, kSset2, sem_rng1, kRng1, sem_rng2, kRng2, kRng3, sem_mt, kMt, kMt2, kMt3, mtTy, mtD, sem_dget, kDget, kDget2, kDget3, sem_pop, kPop, semS_setf, kSetf, kSetf2, kSetf3, semS_setfs, kSetfs, kSetfs2, kSetfs3, setFs, semS_newB, kNewB, kNewB2, semS_newFR, kNewFR, kNewFRm, kNewFR2, kNewFR3, kNewFO3, kPutO, semS_newFO, kNewFO, kNewFOm, kNewFOm2, semS_appE, kAppE, kAppEm, kAppE2, kAppE3, semS_newC, kNewC, kNewC2, kNewC2m, kNewC3, semS_ext, kExt, kExt2, kExt3, semS_tryA, kTryA, subX, isiX, insOf, setIns, getN, putN, heldV, simV, Re.cls, BC.listOf, closeB, openB, leave, outs, Re.plain, Fv.closed, lim, L1, L2, rowD])).trans ?_
    refine (step_next T_law_7 rfl (sZ ns (some (.d span)) (some (.d divides)) (some (.d (.list (L2.map rowD)))) (some (.d high)) (some (.d reads)) (some (.d slip)) none none none none none none none [.lst (town 5)]) (by simp only [slips] at eslip; unfold sZ; simp -implicitDefEqProofs [BC.run, toAvs, toAv, apart, b0ok, backOk, backAll, isiV, peek, isiD, tru, peekR, truthD, cmpD, ltD, binD, addD, subD, solid, solids, peeks, setTg, setIs, one1_dat, bfD, bLen, isNone, dat, partM, partI, Xe.isNil, Va.tag, goes, Re.closed, resOf, setRes, lstAt, sem_fld, kFld, kFld2, sem_fidx, kFidx, kFidx2, kFidx3, kFidx4, kFidxM, sem_oidx, kOidx, kOidx2, kOidx3, sem_flen, kFlen, kFlen2, sem_fcopy, kFcopy, kFcopy2, sem_sfl, kSfl, kSfl2, sem_popE, kPopE, kPopE2, kPopE3, sem_meth, kMe, kMeM, kMe2, sem_sset, kSset, kSset2, sem_rng1, kRng1, sem_rng2, kRng2, kRng3, sem_mt, kMt, kMt2, kMt3, mtTy, mtD, sem_dget, kDget, kDget2, kDget3, sem_pop, kPop, semS_setf, kSetf, kSetf2, kSetf3, semS_setfs, kSetfs, kSetfs2, kSetfs3, setFs, semS_newB, kNewB, kNewB2, semS_newFR, kNewFR, kNewFRm, kNewFR2, kNewFR3, kNewFO3, kPutO, semS_newFO, kNewFO, kNewFOm, kNewFOm2, semS_appE, kAppE, kAppEm, kAppE2, kAppE3, semS_newC, kNewC, kNewC2, kNewC2m, kNewC3, semS_ext, kExt, kExt2, kExt3, semS_tryA, kTryA, subX, isiX, insOf, setIns, getN, putN, heldV, simV, Re.cls, BC.listOf, closeB, openB, leave, outs, Re.plain, Fv.closed, lim, addi, p9, eslip])).trans ?_
    refine (step_next T_law_8 rfl (sZ ns (some (.d span)) (some (.d divides)) (some (.d (.list (L3.map rowD)))) (some (.d high)) (some (.d reads)) (some (.d slip)) none none none none none none none [.lst (town 5)]) (by unfold sZ; simp -implicitDefEqProofs [BC.run, toAvs, toAv, apart, b0ok, backOk, backAll, isiV, peek, isiD, tru, peekR, truthD, cmpD, ltD, binD, addD, subD, solid, solids, peeks, setTg, setIs, one1_dat, bfD, bLen, isNone, dat, partM, partI, Xe.isNil, Va.tag, goes, Re.closed, resOf, setRes, lstAt, sem_fld, kFld, kFld2, sem_fidx, kFidx, kFidx2, kFidx3, kFidx4, kFidxM, sem_oidx, kOidx, kOidx2, kOidx3, sem_flen, kFlen, kFlen2, sem_fcopy, kFcopy, kFcopy2, sem_sfl, kSfl, kSfl2, sem_popE, kPopE, kPopE2, kPopE3, sem_meth, kMe, kMeM, kMe2, sem_sset, kSset, kSset2, sem_rng1, kRng1, sem_rng2, kRng2, kRng3, sem_mt, kMt, kMt2, kMt3, mtTy, mtD, sem_dget, kDget, kDget2, kDget3, sem_pop, kPop, semS_setf, kSetf, kSetf2, kSetf3, semS_setfs, kSetfs, kSetfs2, kSetfs3, setFs, semS_newB, kNewB, kNewB2, semS_newFR, kNewFR, kNewFRm, kNewFR2, kNewFR3, kNewFO3, kPutO, semS_newFO, kNewFO, kNewFOm, kNewFOm2, semS_appE, kAppE, kAppEm, kAppE2, kAppE3, semS_newC, kNewC, kNewC2, kNewC2m, kNewC3, semS_ext, kExt, kExt2, kExt3, semS_tryA, kTryA, subX, isiX, insOf, setIns, getN, putN, heldV, simV, Re.cls, BC.listOf, closeB, openB, leave, outs, Re.plain, Fv.closed, lim, L2, L3, rowD])).trans ?_
    refine (step_next T_law_9 rfl (sZ ns (some (.d span)) (some (.d divides)) (some (.d (.list (L3.map rowD)))) (some (.d high)) (some (.d reads)) (some (.d slip)) (some (.d many)) none none none none none none [.lst (town 6)]) (by simp only [manys] at emany; unfold sZ; simp -implicitDefEqProofs [BC.run, toAvs, toAv, apart, b0ok, backOk, backAll, isiV, peek, isiD, tru, peekR, truthD, cmpD, ltD, binD, addD, subD, solid, solids, peeks, setTg, setIs, one1_dat, bfD, bLen, isNone, dat, partM, partI, Xe.isNil, Va.tag, goes, Re.closed, resOf, setRes, lstAt, sem_fld, kFld, kFld2, sem_fidx, kFidx, kFidx2, kFidx3, kFidx4, kFidxM, sem_oidx, kOidx, kOidx2, kOidx3, sem_flen, kFlen, kFlen2, sem_fcopy, kFcopy, kFcopy2, sem_sfl, kSfl, kSfl2, sem_popE, kPopE, kPopE2, kPopE3, sem_meth, kMe, kMeM, kMe2, sem_sset, kSset, kSset2, sem_rng1, kRng1, sem_rng2, kRng2, kRng3, sem_mt, kMt, kMt2, kMt3, mtTy, mtD, sem_dget, kDget, kDget2, kDget3, sem_pop, kPop, semS_setf, kSetf, kSetf2, kSetf3, semS_setfs, kSetfs, kSetfs2, kSetfs3, setFs, semS_newB, kNewB, kNewB2, semS_newFR, kNewFR, kNewFRm, kNewFR2, kNewFR3, kNewFO3, kPutO, semS_newFO, kNewFO, kNewFOm, kNewFOm2, semS_appE, kAppE, kAppEm, kAppE2, kAppE3, semS_newC, kNewC, kNewC2, kNewC2m, kNewC3, semS_ext, kExt, kExt2, kExt3, semS_tryA, kTryA, subX, isiX, insOf, setIns, getN, putN, heldV, simV, Re.cls, BC.listOf, closeB, openB, leave, outs, Re.plain, Fv.closed, lim, addi, p9, emany])).trans ?_
    refine (step_next T_law_10 rfl (sZ ns (some (.d span)) (some (.d divides)) (some (.d (.list (L4.map rowD)))) (some (.d high)) (some (.d reads)) (some (.d slip)) (some (.d many)) none none none none none none [.lst (town 6)]) (by unfold sZ; simp -implicitDefEqProofs [BC.run, toAvs, toAv, apart, b0ok, backOk, backAll, isiV, peek, isiD, tru, peekR, truthD, cmpD, ltD, binD, addD, subD, solid, solids, peeks, setTg, setIs, one1_dat, bfD, bLen, isNone, dat, partM, partI, Xe.isNil, Va.tag, goes, Re.closed, resOf, setRes, lstAt, sem_fld, kFld, kFld2, sem_fidx, kFidx, kFidx2, kFidx3, kFidx4, kFidxM, sem_oidx, kOidx, kOidx2, kOidx3, sem_flen, kFlen, kFlen2, sem_fcopy, kFcopy, kFcopy2, sem_sfl, kSfl, kSfl2, sem_popE, kPopE, kPopE2, kPopE3, sem_meth, kMe, kMeM, kMe2, sem_sset, kSset, kSset2, sem_rng1, kRng1, sem_rng2, kRng2, kRng3, sem_mt, kMt, kMt2, kMt3, mtTy, mtD, sem_dget, kDget, kDget2, kDget3, sem_pop, kPop, semS_setf, kSetf, kSetf2, kSetf3, semS_setfs, kSetfs, kSetfs2, kSetfs3, setFs, semS_newB, kNewB, kNewB2, semS_newFR, kNewFR, kNewFRm, kNewFR2, kNewFR3, kNewFO3, kPutO, semS_newFO, kNewFO, kNewFOm, kNewFOm2, semS_appE, kAppE, kAppEm, kAppE2, kAppE3, semS_newC, kNewC, kNewC2, kNewC2m, kNewC3, semS_ext, kExt, kExt2, kExt3, semS_tryA, kTryA, subX, isiX, insOf, setIns, getN, putN, heldV, simV, Re.cls, BC.listOf, closeB, openB, leave, outs, Re.plain, Fv.closed, lim, L3, L4, rowD])).trans ?_
    refine (step_next T_law_11 rfl (sZ ns (some (.d span)) (some (.d divides)) (some (.d (.list (L4.map rowD)))) (some (.d high)) (some (.d reads)) (some (.d slip)) (some (.d many)) (some (.d gap)) none none none none none [.lst (town 7)]) (by simp only [gaps] at egap; unfold sZ; simp -implicitDefEqProofs [BC.run, toAvs, toAv, apart, b0ok, backOk, backAll, isiV, peek, isiD, tru, peekR, truthD, cmpD, ltD, binD, addD, subD, solid, solids, peeks, setTg, setIs, one1_dat, bfD, bLen, isNone, dat, partM, partI, Xe.isNil, Va.tag, goes, Re.closed, resOf, setRes, lstAt, sem_fld, kFld, kFld2, sem_fidx, kFidx, kFidx2, kFidx3, kFidx4, kFidxM, sem_oidx, kOidx, kOidx2, kOidx3, sem_flen, kFlen, kFlen2, sem_fcopy, kFcopy, kFcopy2, sem_sfl, kSfl, kSfl2, sem_popE, kPopE, kPopE2, kPopE3, sem_meth, kMe, kMeM, kMe2, sem_sset, kSset, kSset2, sem_rng1, kRng1, sem_rng2, kRng2, kRng3, sem_mt, kMt, kMt2, kMt3, mtTy, mtD, sem_dget, kDget, kDget2, kDget3, sem_pop, kPop, semS_setf, kSetf, kSetf2, kSetf3, semS_setfs, kSetfs, kSetfs2, kSetfs3, setFs, semS_newB, kNewB, kNewB2, semS_newFR, kNewFR, kNewFRm, kNewFR2, kNewFR3, kNewFO3, kPutO, semS_newFO, kNewFO, kNewFOm, kNewFOm2, semS_appE, kAppE, kAppEm, kAppE2, kAppE3, semS_newC, kNewC, kNewC2, kNewC2m, kNewC3, semS_ext, kExt, kExt2, kExt3, semS_tryA, kTryA, subX, isiX, insOf, setIns, getN, putN, heldV, simV, Re.cls, BC.listOf, closeB, openB, leave, outs, Re.plain, Fv.closed, lim, addi, p9, egap])).trans ?_
    refine (step_next T_law_12 rfl (sZ ns (some (.d span)) (some (.d divides)) (some (.d (.list (L4.map rowD)))) (some (.d high)) (some (.d reads)) (some (.d slip)) (some (.d many)) (some (.d gap)) (some (.d tries)) none none none none [.lst (town 8)]) (by simp only [triess] at etries; unfold sZ; simp -implicitDefEqProofs [BC.run, toAvs, toAv, apart, b0ok, backOk, backAll, isiV, peek, isiD, tru, peekR, truthD, cmpD, ltD, binD, addD, subD, solid, solids, peeks, setTg, setIs, one1_dat, bfD, bLen, isNone, dat, partM, partI, Xe.isNil, Va.tag, goes, Re.closed, resOf, setRes, lstAt, sem_fld, kFld, kFld2, sem_fidx, kFidx, kFidx2, kFidx3, kFidx4, kFidxM, sem_oidx, kOidx, kOidx2, kOidx3, sem_flen, kFlen, kFlen2, sem_fcopy, kFcopy, kFcopy2, sem_sfl, kSfl, kSfl2, sem_popE, kPopE, kPopE2, kPopE3, sem_meth, kMe, kMeM, kMe2, sem_sset, kSset, kSset2, sem_rng1, kRng1, sem_rng2, kRng2, kRng3, sem_mt, kMt, kMt2, kMt3, mtTy, mtD, sem_dget, kDget, kDget2, kDget3, sem_pop, kPop, semS_setf, kSetf, kSetf2, kSetf3, semS_setfs, kSetfs, kSetfs2, kSetfs3, setFs, semS_newB, kNewB, kNewB2, semS_newFR, kNewFR, kNewFRm, kNewFR2, kNewFR3, kNewFO3, kPutO, semS_newFO, kNewFO, kNewFOm, kNewFOm2, semS_appE, kAppE, kAppEm, kAppE2, kAppE3, semS_newC, kNewC, kNewC2, kNewC2m, kNewC3, semS_ext, kExt, kExt2, kExt3, semS_tryA, kTryA, subX, isiX, insOf, setIns, getN, putN, heldV, simV, Re.cls, BC.listOf, closeB, openB, leave, outs, Re.plain, Fv.closed, lim, addi, p9, etries])).trans ?_
    refine (step_next T_law_13 rfl (sZ ns (some (.d span)) (some (.d divides)) (some (.d (.list (L5.map rowD)))) (some (.d high)) (some (.d reads)) (some (.d slip)) (some (.d many)) (some (.d gap)) (some (.d tries)) none none none none [.lst (town 8)]) (by unfold sZ; simp -implicitDefEqProofs [BC.run, toAvs, toAv, apart, b0ok, backOk, backAll, isiV, peek, isiD, tru, peekR, truthD, cmpD, ltD, binD, addD, subD, solid, solids, peeks, setTg, setIs, one1_dat, bfD, bLen, isNone, dat, partM, partI, Xe.isNil, Va.tag, goes, Re.closed, resOf, setRes, lstAt, sem_fld, kFld, kFld2, sem_fidx, kFidx, kFidx2, kFidx3, kFidx4, kFidxM, sem_oidx, kOidx, kOidx2, kOidx3, sem_flen, kFlen, kFlen2, sem_fcopy, kFcopy, kFcopy2, sem_sfl, kSfl, kSfl2, sem_popE, kPopE, kPopE2, kPopE3, sem_meth, kMe, kMeM, kMe2, sem_sset, kSset, kSset2, sem_rng1, kRng1, sem_rng2, kRng2, kRng3, sem_mt, kMt, kMt2, kMt3, mtTy, mtD, sem_dget, kDget, kDget2, kDget3, sem_pop, kPop, semS_setf, kSetf, kSetf2, kSetf3, semS_setfs, kSetfs, kSetfs2, kSetfs3, setFs, semS_newB, kNewB, kNewB2, semS_newFR, kNewFR, kNewFRm, kNewFR2, kNewFR3, kNewFO3, kPutO, semS_newFO, kNewFO, kNewFOm, kNewFOm2, semS_appE, kAppE, kAppEm, kAppE2, kAppE3, semS_newC, kNewC, kNewC2, kNewC2m, kNewC3, semS_ext, kExt, kExt2, kExt3, semS_tryA, kTryA, subX, isiX, insOf, setIns, getN, putN, heldV, simV, Re.cls, BC.listOf, closeB, openB, leave, outs, Re.plain, Fv.closed, lim, L4, L5, rowD])).trans ?_
    refine (step_next T_law_14 rfl (sZ ns (some (.d span)) (some (.d divides)) (some (.d (.list (L5.map rowD)))) (some (.d high)) (some (.d reads)) (some (.d slip)) (some (.d many)) (some (.d gap)) (some (.d tries)) none none none none [.lst (town 8)]) (by unfold sZ; simp -implicitDefEqProofs [BC.run, toAvs, toAv, apart, b0ok, backOk, backAll, isiV, peek, isiD, tru, peekR, truthD, cmpD, ltD, binD, addD, subD, solid, solids, peeks, setTg, setIs, one1_dat, bfD, bLen, isNone, dat, partM, partI, Xe.isNil, Va.tag, goes, Re.closed, resOf, setRes, lstAt, sem_fld, kFld, kFld2, sem_fidx, kFidx, kFidx2, kFidx3, kFidx4, kFidxM, sem_oidx, kOidx, kOidx2, kOidx3, sem_flen, kFlen, kFlen2, sem_fcopy, kFcopy, kFcopy2, sem_sfl, kSfl, kSfl2, sem_popE, kPopE, kPopE2, kPopE3, sem_meth, kMe, kMeM, kMe2, sem_sset, kSset, kSset2, sem_rng1, kRng1, sem_rng2, kRng2, kRng3, sem_mt, kMt, kMt2, kMt3, mtTy, mtD, sem_dget, kDget, kDget2, kDget3, sem_pop, kPop, semS_setf, kSetf, kSetf2, kSetf3, semS_setfs, kSetfs, kSetfs2, kSetfs3, setFs, semS_newB, kNewB, kNewB2, semS_newFR, kNewFR, kNewFRm, kNewFR2, kNewFR3, kNewFO3, kPutO, semS_newFO, kNewFO, kNewFOm, kNewFOm2, semS_appE, kAppE, kAppEm, kAppE2, kAppE3, semS_newC, kNewC, kNewC2, kNewC2m, kNewC3, semS_ext, kExt, kExt2, kExt3, semS_tryA, kTryA, subX, isiX, insOf, setIns, getN, putN, heldV, simV, Re.cls, BC.listOf, closeB, openB, leave, outs, Re.plain, Fv.closed, lim, L5, g5])).trans ?_
    refine (step_next T_law_15 rfl (sZ ns (some (.d span)) (some (.d divides)) (some (.d (.list (L5.map rowD)))) (some (.d high)) (some (.d reads)) (some (.d slip)) (some (.d many)) (some (.d gap)) (some (.d tries)) (some (.d times)) none none none [.lst (town 9)]) (by simp only [timess] at etimes; unfold sZ; simp -implicitDefEqProofs [BC.run, toAvs, toAv, apart, b0ok, backOk, backAll, isiV, peek, isiD, tru, peekR, truthD, cmpD, ltD, binD, addD, subD, solid, solids, peeks, setTg, setIs, one1_dat, bfD, bLen, isNone, dat, partM, partI, Xe.isNil, Va.tag, goes, Re.closed, resOf, setRes, lstAt, sem_fld, kFld, kFld2, sem_fidx, kFidx, kFidx2, kFidx3, kFidx4, kFidxM, sem_oidx, kOidx, kOidx2, kOidx3, sem_flen, kFlen, kFlen2, sem_fcopy, kFcopy, kFcopy2, sem_sfl, kSfl, kSfl2, sem_popE, kPopE, kPopE2, kPopE3, sem_meth, kMe, kMeM, kMe2, sem_sset, kSset, kSset2, sem_rng1, kRng1, sem_rng2, kRng2, kRng3, sem_mt, kMt, kMt2, kMt3, mtTy, mtD, sem_dget, kDget, kDget2, kDget3, sem_pop, kPop, semS_setf, kSetf, kSetf2, kSetf3, semS_setfs, kSetfs, kSetfs2, kSetfs3, setFs, semS_newB, kNewB, kNewB2, semS_newFR, kNewFR, kNewFRm, kNewFR2, kNewFR3, kNewFO3, kPutO, semS_newFO, kNewFO, kNewFOm, kNewFOm2, semS_appE, kAppE, kAppEm, kAppE2, kAppE3, semS_newC, kNewC, kNewC2, kNewC2m, kNewC3, semS_ext, kExt, kExt2, kExt3, semS_tryA, kTryA, subX, isiX, insOf, setIns, getN, putN, heldV, simV, Re.cls, BC.listOf, closeB, openB, leave, outs, Re.plain, Fv.closed, lim, addi, p9, etimes])).trans ?_
    refine (step_next T_law_16 rfl (sZ ns (some (.d span)) (some (.d divides)) (some (.d (.list (L5.map rowD)))) (some (.d high)) (some (.d reads)) (some (.d slip)) (some (.d many)) (some (.d gap)) (some (.d tries)) (some (.d times)) (some (.d periods)) none none [.lst (town 10)]) (by simp only [periodss] at eperiods; unfold sZ; simp -implicitDefEqProofs [BC.run, toAvs, toAv, apart, b0ok, backOk, backAll, isiV, peek, isiD, tru, peekR, truthD, cmpD, ltD, binD, addD, subD, solid, solids, peeks, setTg, setIs, one1_dat, bfD, bLen, isNone, dat, partM, partI, Xe.isNil, Va.tag, goes, Re.closed, resOf, setRes, lstAt, sem_fld, kFld, kFld2, sem_fidx, kFidx, kFidx2, kFidx3, kFidx4, kFidxM, sem_oidx, kOidx, kOidx2, kOidx3, sem_flen, kFlen, kFlen2, sem_fcopy, kFcopy, kFcopy2, sem_sfl, kSfl, kSfl2, sem_popE, kPopE, kPopE2, kPopE3, sem_meth, kMe, kMeM, kMe2, sem_sset, kSset, kSset2, sem_rng1, kRng1, sem_rng2, kRng2, kRng3, sem_mt, kMt, kMt2, kMt3, mtTy, mtD, sem_dget, kDget, kDget2, kDget3, sem_pop, kPop, semS_setf, kSetf, kSetf2, kSetf3, semS_setfs, kSetfs, kSetfs2, kSetfs3, setFs, semS_newB, kNewB, kNewB2, semS_newFR, kNewFR, kNewFRm, kNewFR2, kNewFR3, kNewFO3, kPutO, semS_newFO, kNewFO, kNewFOm, kNewFOm2, semS_appE, kAppE, kAppEm, kAppE2, kAppE3, semS_newC, kNewC, kNewC2, kNewC2m, kNewC3, semS_ext, kExt, kExt2, kExt3, semS_tryA, kTryA, subX, isiX, insOf, setIns, getN, putN, heldV, simV, Re.cls, BC.listOf, closeB, openB, leave, outs, Re.plain, Fv.closed, lim, addi, p9, mz201, eperiods])).trans ?_
    refine (step_next T_law_17 rfl (sZ ns (some (.d span)) (some (.d divides)) (some (.d (.list (Lq.map rowD)))) (some (.d high)) (some (.d reads)) (some (.d slip)) (some (.d many)) (some (.d gap)) (some (.d tries)) (some (.d times)) (some (.d periods)) none none [.lst (town 10)]) (by unfold sZ; simp -implicitDefEqProofs [BC.run, toAvs, toAv, apart, b0ok, backOk, backAll, isiV, peek, isiD, tru, peekR, truthD, cmpD, ltD, binD, addD, subD, solid, solids, peeks, setTg, setIs, one1_dat, bfD, bLen, isNone, dat, partM, partI, Xe.isNil, Va.tag, goes, Re.closed, resOf, setRes, lstAt, sem_fld, kFld, kFld2, sem_fidx, kFidx, kFidx2, kFidx3, kFidx4, kFidxM, sem_oidx, kOidx, kOidx2, kOidx3, sem_flen, kFlen, kFlen2, sem_fcopy, kFcopy, kFcopy2, sem_sfl, kSfl, kSfl2, sem_popE, kPopE, kPopE2, kPopE3, sem_meth, kMe, kMeM, kMe2, sem_sset, kSset, kSset2, sem_rng1, kRng1, sem_rng2, kRng2, kRng3, sem_mt, kMt, kMt2, kMt3, mtTy, mtD, sem_dget, kDget, kDget2, kDget3, sem_pop, kPop, semS_setf, kSetf, kSetf2, kSetf3, semS_setfs, kSetfs, kSetfs2, kSetfs3, setFs, semS_newB, kNewB, kNewB2, semS_newFR, kNewFR, kNewFRm, kNewFR2, kNewFR3, kNewFO3, kPutO, semS_newFO, kNewFO, kNewFOm, kNewFOm2, semS_appE, kAppE, kAppEm, kAppE2, kAppE3, semS_newC, kNewC, kNewC2, kNewC2m, kNewC3, semS_ext, kExt, kExt2, kExt3, semS_tryA, kTryA, subX, isiX, insOf, setIns, getN, putN, heldV, simV, Re.cls, BC.listOf, closeB, openB, leave, outs, Re.plain, Fv.closed, lim, Lq, rowD])).trans ?_
    refine (step_next T_law_18 rfl (sZ ns (some (.d span)) (some (.d divides)) (some (.d (.list (Lq.map rowD)))) (some (.d high)) (some (.d reads)) (some (.d slip)) (some (.d many)) (some (.d gap)) (some (.d tries)) (some (.d times)) (some (.d periods)) none none [.lst (town 10)]) (by unfold sZ; simp -implicitDefEqProofs [BC.run, toAvs, toAv, apart, b0ok, backOk, backAll, isiV, peek, isiD, tru, peekR, truthD, cmpD, ltD, binD, addD, subD, solid, solids, peeks, setTg, setIs, one1_dat, bfD, bLen, isNone, dat, partM, partI, Xe.isNil, Va.tag, goes, Re.closed, resOf, setRes, lstAt, sem_fld, kFld, kFld2, sem_fidx, kFidx, kFidx2, kFidx3, kFidx4, kFidxM, sem_oidx, kOidx, kOidx2, kOidx3, sem_flen, kFlen, kFlen2, sem_fcopy, kFcopy, kFcopy2, sem_sfl, kSfl, kSfl2, sem_popE, kPopE, kPopE2, kPopE3, sem_meth, kMe, kMeM, kMe2, sem_sset, kSset, kSset2, sem_rng1, kRng1, sem_rng2, kRng2, kRng3, sem_mt, kMt, kMt2, kMt3, mtTy, mtD, sem_dget, kDget, kDget2, kDget3, sem_pop, kPop, semS_setf, kSetf, kSetf2, kSetf3, semS_setfs, kSetfs, kSetfs2, kSetfs3, setFs, semS_newB, kNewB, kNewB2, semS_newFR, kNewFR, kNewFRm, kNewFR2, kNewFR3, kNewFO3, kPutO, semS_newFO, kNewFO, kNewFOm, kNewFOm2, semS_appE, kAppE, kAppEm, kAppE2, kAppE3, semS_newC, kNewC, kNewC2, kNewC2m, kNewC3, semS_ext, kExt, kExt2, kExt3, semS_tryA, kTryA, subX, isiX, insOf, setIns, getN, putN, heldV, simV, Re.cls, BC.listOf, closeB, openB, leave, outs, Re.plain, Fv.closed, lim, Lq, gq])).trans ?_
    refine (step_next T_law_19 rfl (sZ ns (some (.d span)) (some (.d divides)) (some (.d (.list (Lq.map rowD)))) (some (.d high)) (some (.d reads)) (some (.d slip)) (some (.d many)) (some (.d gap)) (some (.d tries)) (some (.d times)) (some (.d periods)) (some (.d number)) none [.lst (town 11)]) (by simp only [numbers] at enumber; unfold sZ; simp -implicitDefEqProofs [BC.run, toAvs, toAv, apart, b0ok, backOk, backAll, isiV, peek, isiD, tru, peekR, truthD, cmpD, ltD, binD, addD, subD, solid, solids, peeks, setTg, setIs, one1_dat, bfD, bLen, isNone, dat, partM, partI, Xe.isNil, Va.tag, goes, Re.closed, resOf, setRes, lstAt, sem_fld, kFld, kFld2, sem_fidx, kFidx, kFidx2, kFidx3, kFidx4, kFidxM, sem_oidx, kOidx, kOidx2, kOidx3, sem_flen, kFlen, kFlen2, sem_fcopy, kFcopy, kFcopy2, sem_sfl, kSfl, kSfl2, sem_popE, kPopE, kPopE2, kPopE3, sem_meth, kMe, kMeM, kMe2, sem_sset, kSset, kSset2, sem_rng1, kRng1, sem_rng2, kRng2, kRng3, sem_mt, kMt, kMt2, kMt3, mtTy, mtD, sem_dget, kDget, kDget2, kDget3, sem_pop, kPop, semS_setf, kSetf, kSetf2, kSetf3, semS_setfs, kSetfs, kSetfs2, kSetfs3, setFs, semS_newB, kNewB, kNewB2, semS_newFR, kNewFR, kNewFRm, kNewFR2, kNewFR3, kNewFO3, kPutO, semS_newFO, kNewFO, kNewFOm, kNewFOm2, semS_appE, kAppE, kAppEm, kAppE2, kAppE3, semS_newC, kNewC, kNewC2, kNewC2m, kNewC3, semS_ext, kExt, kExt2, kExt3, semS_tryA, kTryA, subX, isiX, insOf, setIns, getN, putN, heldV, simV, Re.cls, BC.listOf, closeB, openB, leave, outs, Re.plain, Fv.closed, lim, addi, p9, enumber])).trans ?_
    refine (step_next T_law_20 rfl (sZ ns (some (.d span)) (some (.d divides)) (some (.d (.list (Lq.map rowD)))) (some (.d high)) (some (.d reads)) (some (.d slip)) (some (.d many)) (some (.d gap)) (some (.d tries)) (some (.d times)) (some (.d periods)) (some (.d number)) none [.lst (town 11)]) (by unfold sZ; simp -implicitDefEqProofs [BC.run, toAvs, toAv, apart, b0ok, backOk, backAll, isiV, peek, isiD, tru, peekR, truthD, cmpD, ltD, binD, addD, subD, solid, solids, peeks, setTg, setIs, one1_dat, bfD, bLen, isNone, dat, partM, partI, Xe.isNil, Va.tag, goes, Re.closed, resOf, setRes, lstAt, sem_fld, kFld, kFld2, sem_fidx, kFidx, kFidx2, kFidx3, kFidx4, kFidxM, sem_oidx, kOidx, kOidx2, kOidx3, sem_flen, kFlen, kFlen2, sem_fcopy, kFcopy, kFcopy2, sem_sfl, kSfl, kSfl2, sem_popE, kPopE, kPopE2, kPopE3, sem_meth, kMe, kMeM, kMe2, sem_sset, kSset, kSset2, sem_rng1, kRng1, sem_rng2, kRng2, kRng3, sem_mt, kMt, kMt2, kMt3, mtTy, mtD, sem_dget, kDget, kDget2, kDget3, sem_pop, kPop, semS_setf, kSetf, kSetf2, kSetf3, semS_setfs, kSetfs, kSetfs2, kSetfs3, setFs, semS_newB, kNewB, kNewB2, semS_newFR, kNewFR, kNewFRm, kNewFR2, kNewFR3, kNewFO3, kPutO, semS_newFO, kNewFO, kNewFOm, kNewFOm2, semS_appE, kAppE, kAppEm, kAppE2, kAppE3, semS_newC, kNewC, kNewC2, kNewC2m, kNewC3, semS_ext, kExt, kExt2, kExt3, semS_tryA, kTryA, subX, isiX, insOf, setIns, getN, putN, heldV, simV, Re.cls, BC.listOf, closeB, openB, leave, outs, Re.plain, Fv.closed, lim, gz])).trans ?_
    refine (step_next T_law_21 rfl (sZ ns (some (.d span)) (some (.d divides)) (some (.d (.list (Lq.map rowD)))) (some (.d high)) (some (.d reads)) (some (.d slip)) (some (.d many)) (some (.d gap)) (some (.d tries)) (some (.d times)) (some (.d periods)) (some (.d number)) (some (.c 1)) [.lst (town 11), .lst [rowD (0, .list [.int 1000000000, .tuple [.int 1, .int 256]]), rowD (2, .list [.int 65535, h100]), rowD (3, .list [.int 9, .list [], .list [], .int 1000000])]]) (by unfold sZ; simp -implicitDefEqProofs [BC.run, toAvs, toAv, apart, b0ok, backOk, backAll, isiV, peek, isiD, tru, peekR, truthD, cmpD, ltD, binD, addD, subD, solid, solids, peeks, setTg, setIs, one1_dat, bfD, bLen, isNone, dat, partM, partI, Xe.isNil, Va.tag, goes, Re.closed, resOf, setRes, lstAt, sem_fld, kFld, kFld2, sem_fidx, kFidx, kFidx2, kFidx3, kFidx4, kFidxM, sem_oidx, kOidx, kOidx2, kOidx3, sem_flen, kFlen, kFlen2, sem_fcopy, kFcopy, kFcopy2, sem_sfl, kSfl, kSfl2, sem_popE, kPopE, kPopE2, kPopE3, sem_meth, kMe, kMeM, kMe2, sem_sset, kSset, kSset2, sem_rng1, kRng1, sem_rng2, kRng2, kRng3, sem_mt, kMt, kMt2, kMt3, mtTy, mtD, sem_dget, kDget, kDget2, kDget3, sem_pop, kPop, semS_setf, kSetf, kSetf2, kSetf3, semS_setfs, kSetfs, kSetfs2, kSetfs3, setFs, semS_newB, kNewB, kNewB2, semS_newFR, kNewFR, kNewFRm, kNewFR2, kNewFR3, kNewFO3, kPutO, semS_newFO, kNewFO, kNewFOm, kNewFOm2, semS_appE, kAppE, kAppEm, kAppE2, kAppE3, semS_newC, kNewC, kNewC2, kNewC2m, kNewC3, semS_ext, kExt, kExt2, kExt3, semS_tryA, kTryA, subX, isiX, insOf, setIns, getN, putN, heldV, simV, Re.cls, BC.listOf, closeB, openB, leave, outs, Re.plain, Fv.closed, lim, p9, mh100, rowD])).trans ?_
    refine (step_next T_law_22 rfl (sZ ns (some (.d span)) (some (.d divides)) (some (.d (.list (Lq.map rowD)))) (some (.d high)) (some (.d reads)) (some (.d slip)) (some (.d many)) (some (.d gap)) (some (.d tries)) (some (.d times)) (some (.d periods)) (some (.d number)) (some (.c 1)) [.lst (town 11), .lst [rowD (0, .list [.int 1000000000, .tuple [.int 1, .int 256]]), rowD (2, .list [.int 65535, h100]), rowD (3, .list [.int 9, .list [], .list [], .int 1000000]), rowD (4, .list [.int 1000000000, .int 1000000000, .int 200])]]) (by unfold sZ; simp -implicitDefEqProofs [BC.run, toAvs, toAv, apart, b0ok, backOk, backAll, isiV, peek, isiD, tru, peekR, truthD, cmpD, ltD, binD, addD, subD, solid, solids, peeks, setTg, setIs, one1_dat, bfD, bLen, isNone, dat, partM, partI, Xe.isNil, Va.tag, goes, Re.closed, resOf, setRes, lstAt, sem_fld, kFld, kFld2, sem_fidx, kFidx, kFidx2, kFidx3, kFidx4, kFidxM, sem_oidx, kOidx, kOidx2, kOidx3, sem_flen, kFlen, kFlen2, sem_fcopy, kFcopy, kFcopy2, sem_sfl, kSfl, kSfl2, sem_popE, kPopE, kPopE2, kPopE3, sem_meth, kMe, kMeM, kMe2, sem_sset, kSset, kSset2, sem_rng1, kRng1, sem_rng2, kRng2, kRng3, sem_mt, kMt, kMt2, kMt3, mtTy, mtD, sem_dget, kDget, kDget2, kDget3, sem_pop, kPop, semS_setf, kSetf, kSetf2, kSetf3, semS_setfs, kSetfs, kSetfs2, kSetfs3, setFs, semS_newB, kNewB, kNewB2, semS_newFR, kNewFR, kNewFRm, kNewFR2, kNewFR3, kNewFO3, kPutO, semS_newFO, kNewFO, kNewFOm, kNewFOm2, semS_appE, kAppE, kAppEm, kAppE2, kAppE3, semS_newC, kNewC, kNewC2, kNewC2m, kNewC3, semS_ext, kExt, kExt2, kExt3, semS_tryA, kTryA, subX, isiX, insOf, setIns, getN, putN, heldV, simV, Re.cls, BC.listOf, closeB, openB, leave, outs, Re.plain, Fv.closed, lim, p9, rowD])).trans ?_
    refine (step_next T_law_23 rfl (sZ ns (some (.d span)) (some (.d divides)) (some (.d (.list (Lq.map rowD)))) (some (.d high)) (some (.d reads)) (some (.d slip)) (some (.d many)) (some (.d gap)) (some (.d tries)) (some (.d times)) (some (.d periods)) (some (.d number)) (some (.c 2)) [.lst (town 11), .lst [rowD (0, .list [.int 1000000000, .tuple [.int 1, .int 256]]), rowD (2, .list [.int 65535, h100]), rowD (3, .list [.int 9, .list [], .list [], .int 1000000]), rowD (4, .list [.int 1000000000, .int 1000000000, .int 200])], .lst [rowD (0, .list [.int 1000000000, .tuple [.int 1, .int 256]]), rowD (2, .list [.int 65535, h100]), rowD (3, .list [.int 9, .list [], .list [], .int 1000000]), rowD (4, .list [.int 1000000000, .int 1000000000, .int 200]), rowD (5, .list [k200, .int 1, .int 1]), rowD (7, .list [.int 0, .int 1000]), rowD (8, .list [.int 0, .int 1000, .int 20]), rowD (6, .list [.int 1000000000, .int 1000000000])]]) (by unfold sZ; simp -implicitDefEqProofs [BC.run, toAvs, toAv, apart, b0ok, backOk, backAll, isiV, peek, isiD, tru, peekR, truthD, cmpD, ltD, binD, addD, subD, solid, solids, peeks, setTg, setIs, one1_dat, bfD, bLen, isNone, dat, partM, partI, Xe.isNil, Va.tag, goes, Re.closed, resOf, setRes, lstAt, sem_fld, kFld, kFld2, sem_fidx, kFidx, kFidx2, kFidx3, kFidx4, kFidxM, sem_oidx, kOidx, kOidx2, kOidx3, sem_flen, kFlen, kFlen2, sem_fcopy, kFcopy, kFcopy2, sem_sfl, kSfl, kSfl2, sem_popE, kPopE, kPopE2, kPopE3, sem_meth, kMe, kMeM, kMe2, sem_sset, kSset, kSset2, sem_rng1, kRng1, sem_rng2, kRng2, kRng3, sem_mt, kMt, kMt2, kMt3, mtTy, mtD, sem_dget, kDget, kDget2, kDget3, sem_pop, kPop, semS_setf, kSetf, kSetf2, kSetf3, semS_setfs, kSetfs, kSetfs2, kSetfs3, setFs, semS_newB, kNewB, kNewB2, semS_newFR, kNewFR, kNewFRm, kNewFR2, kNewFR3, kNewFO3, kPutO, semS_newFO, kNewFO, kNewFOm, kNewFOm2, semS_appE, kAppE, kAppEm, kAppE2, kAppE3, semS_newC, kNewC, kNewC2, kNewC2m, kNewC3, semS_ext, kExt, kExt2, kExt3, semS_tryA, kTryA, subX, isiX, insOf, setIns, getN, putN, heldV, simV, Re.cls, BC.listOf, closeB, openB, leave, outs, Re.plain, Fv.closed, lim, p9, mk200, rowD])).trans ?_
    have hg := hgood (sZ ns (some (.d span)) (some (.d divides)) (some (.d (.list (Lq.map rowD)))) (some (.d high)) (some (.d reads)) (some (.d slip)) (some (.d many)) (some (.d gap)) (some (.d tries)) (some (.d times)) (some (.d periods)) (some (.d number)) (some (.c 2)) []).ρ rfl rfl [.lst (town 11), .lst [rowD (0, .list [.int 1000000000, .tuple [.int 1, .int 256]]), rowD (2, .list [.int 65535, h100]), rowD (3, .list [.int 9, .list [], .list [], .int 1000000]), rowD (4, .list [.int 1000000000, .int 1000000000, .int 200])], .lst [rowD (0, .list [.int 1000000000, .tuple [.int 1, .int 256]]), rowD (2, .list [.int 65535, h100]), rowD (3, .list [.int 9, .list [], .list [], .int 1000000]), rowD (4, .list [.int 1000000000, .int 1000000000, .int 200]), rowD (5, .list [k200, .int 1, .int 1]), rowD (7, .list [.int 0, .int 1000]), rowD (8, .list [.int 0, .int 1000, .int 20]), rowD (6, .list [.int 1000000000, .int 1000000000])]] rfl
    dsimp only [sZ] at hg
    show semS (Ph own 60) gl (.seq _ _) _ = _
    rw [semS_seq, semS_ret, sem_cmp]
    unfold sZ
    rw [hg, one1_ok]
    simp -implicitDefEqProofs [BC.run, toAvs, toAv, apart, b0ok, backOk, backAll, isiV, peek, isiD, tru, peekR, truthD, cmpD, ltD, binD, addD, subD, solid, solids, peeks, setTg, setIs, one1_dat, bfD, bLen, isNone, dat, partM, partI, Xe.isNil, Va.tag, goes, Re.closed, resOf, setRes, lstAt, sem_fld, kFld, kFld2, sem_fidx, kFidx, kFidx2, kFidx3, kFidx4, kFidxM, sem_oidx, kOidx, kOidx2, kOidx3, sem_flen, kFlen, kFlen2, sem_fcopy, kFcopy, kFcopy2, sem_sfl, kSfl, kSfl2, sem_popE, kPopE, kPopE2, kPopE3, sem_meth, kMe, kMeM, kMe2, sem_sset, kSset, kSset2, sem_rng1, kRng1, sem_rng2, kRng2, kRng3, sem_mt, kMt, kMt2, kMt3, mtTy, mtD, sem_dget, kDget, kDget2, kDget3, sem_pop, kPop, semS_setf, kSetf, kSetf2, kSetf3, semS_setfs, kSetfs, kSetfs2, kSetfs3, setFs, semS_newB, kNewB, kNewB2, semS_newFR, kNewFR, kNewFRm, kNewFR2, kNewFR3, kNewFO3, kPutO, semS_newFO, kNewFO, kNewFOm, kNewFOm2, semS_appE, kAppE, kAppEm, kAppE2, kAppE3, semS_newC, kNewC, kNewC2, kNewC2m, kNewC3, semS_ext, kExt, kExt2, kExt3, semS_tryA, kTryA, subX, isiX, insOf, setIns, getN, putN, heldV, simV, Re.cls, BC.listOf, closeB, openB, leave, outs, Re.plain, Fv.closed, m8, found8, lim]
  rw [eq_law]
  refine defF_f [some (.s ns), none, none, none, none, none, none, none, none, none, none, none, none, none, none, none, none] [] rfl (by decide) rfl rfl ?_
  rw [q]
  rfl
end K44

namespace K44
open PySem L2 BC
def top (i : Nat) : Stmt := PySem.Challenge.pw_beatchips_k44_refused_spans.main.body.getD i (.Pass ⟨0, 0, 0, 0⟩)
def inner (i j : Nat) : Stmt := match top i with
  | .ClassDef _ _ _ body .. => body.getD j (.Pass ⟨0, 0, 0, 0⟩)
  | _ => .Pass ⟨0, 0, 0, 0⟩
def ents : List Ent := [.fn "is_whole",
.fn "is_truth",
.fn "is_edge",
.fn "are_matches",
.fn "is_timer",
.fn "look_plan",
.fn "round_of",
.off,
.fn "begun",
.fn "place_of",
.fn "at_place",
.fn "match_places",
.fn "to_match",
.me 0 "__init__",
.me 0 "held",
.me 0 "restore",
.me 0 "ticks_to",
.me 0 "tick",
.mk 0 "Timer",
.me 1 "__init__",
.me 1 "look_timer",
.me 1 "keep",
.me 1 "now",
.me 1 "restore",
.me 1 "back",
.me 1 "beat",
.me 1 "count",
.off,
.me 1 "is_open",
.me 1 "pass_by",
.me 1 "go",
.me 1 "put",
.me 1 "write",
.me 1 "beats_to_turns",
.me 1 "beats_to_ticks",
.me 1 "waking",
.me 1 "next_waking",
.me 1 "events_now",
.me 1 "ahead",
.mk 1 "Chip",
.off,
.off,
.off,
.off,
.off,
.off,
.off,
.off,
.off,
.off,
.off,
.off,
.off,
.off,
.off,
.off,
.off,
.off,
.off,
.off,
.off,
.off,
.off,
.off,
.fn "look_gap",
.fn "high_half",
.fn "low_half",
.fn "torn",
.fn "safe",
.fn "look_span",
.fn "nearest",
.fn "exact",
.fn "pairs_of",
.fn "look_reads",
.fn "totals",
.fn "sure_totals",
.fn "fitting",
.fn "evened",
.fn "drift",
.fn "ratio",
.off,
.off,
.off,
.off,
.fn "_law_cell",
.fn "_law_mix",
.fn "_law_draw",
.fn "_law_pick",
.off,
.off,
.off,
.off,
.fn "_law_refusal",
.off,
.off,
.off,
.off,
.off,
.off,
.off,
.off,
.off,
.off,
.off,
.off,
.fn "_law_one",
.fn "_law_told",
.fn "_law_are",
.fn "law"]
def gnames : List (Option Str) := [some "MOST_TIMERS", some "MOST_LINES", some "MOST_DIVIDE", some "MOST_TOP", some "MOST_MATCHES", some "MODES", some "MOST_BEATS", some "MOST_EVENTS", none, none, none, none, some "HALF", some "MOST_GAP", some "MOST_TRIES", some "MOST_SPAN", some "MOST_READS", some "MOST_PERIODS", some "MOST_SLIP", none]
def xnames : List (Option Str) := [some "ChipError", some "BadPlan", some "BadTimer", some "BadLine", some "BadNumber", some "TooMany", some "BadReads", some "Nothing", some "BadText", some "BadRules"]
def N0 : List Str := ["thing", "low", "most"]
def P0 : List Str := ["thing", "low", "most"]
abbrev S0 : Stmt := top 19
theorem sc0 : scopeOk N0 P0 (defScope S0) = true := by decide +kernel
theorem ck0 : chkS ⟨N0, ents, gnames, xnames, true, fnames⟩ (defScope S0) C_is_whole (defBody S0) = true := by decide +kernel
def N1 : List Str := ["thing"]
def P1 : List Str := ["thing"]
abbrev S1 : Stmt := top 20
theorem sc1 : scopeOk N1 P1 (defScope S1) = true := by decide +kernel
theorem ck1 : chkS ⟨N1, ents, gnames, xnames, true, fnames⟩ (defScope S1) C_is_truth (defBody S1) = true := by decide +kernel
def N2 : List Str := ["thing"]
def P2 : List Str := ["thing"]
abbrev S2 : Stmt := top 21
theorem sc2 : scopeOk N2 P2 (defScope S2) = true := by decide +kernel
theorem ck2 : chkS ⟨N2, ents, gnames, xnames, true, fnames⟩ (defScope S2) C_is_edge (defBody S2) = true := by decide +kernel
def N3 : List Str := ["top", "thing", "one"]
def P3 : List Str := ["top", "thing"]
abbrev S3 : Stmt := top 22
theorem sc3 : scopeOk N3 P3 (defScope S3) = true := by decide +kernel
theorem ck3 : chkS ⟨N3, ents, gnames, xnames, true, fnames⟩ (defScope S3) C_are_matches (defBody S3) = true := by decide +kernel
def N4 : List Str := ["number", "thing", "source", "divide", "mode", "top", "gate", "matches", "catch", "once"]
def P4 : List Str := ["number", "thing"]
abbrev S4 : Stmt := top 23
theorem sc4 : scopeOk N4 P4 (defScope S4) = true := by decide +kernel
theorem ck4 : chkS ⟨N4, ents, gnames, xnames, true, fnames⟩ (defScope S4) C_is_timer (defBody S4) = true := by decide +kernel
def N5 : List Str := ["plan", "k"]
def P5 : List Str := ["plan"]
abbrev S5 : Stmt := top 24
theorem sc5 : scopeOk N5 P5 (defScope S5) = true := by decide +kernel
theorem ck5 : chkS ⟨N5, ents, gnames, xnames, true, fnames⟩ (defScope S5) C_look_plan (defBody S5) = true := by decide +kernel
def N6 : List Str := ["timer"]
def P6 : List Str := ["timer"]
abbrev S6 : Stmt := top 25
theorem sc6 : scopeOk N6 P6 (defScope S6) = true := by decide +kernel
theorem ck6 : chkS ⟨N6, ents, gnames, xnames, true, fnames⟩ (defScope S6) C_round_of (defBody S6) = true := by decide +kernel
def N8 : List Str := ["timer"]
def P8 : List Str := ["timer"]
abbrev S8 : Stmt := top 42
theorem sc8 : scopeOk N8 P8 (defScope S8) = true := by decide +kernel
theorem ck8 : chkS ⟨N8, ents, gnames, xnames, true, fnames⟩ (defScope S8) C_begun (defBody S8) = true := by decide +kernel
def N9 : List Str := ["timer", "count", "is_down", "mode", "top"]
def P9 : List Str := ["timer", "count", "is_down"]
abbrev S9 : Stmt := top 43
theorem sc9 : scopeOk N9 P9 (defScope S9) = true := by decide +kernel
theorem ck9 : chkS ⟨N9, ents, gnames, xnames, true, fnames⟩ (defScope S9) C_place_of (defBody S9) = true := by decide +kernel
def N10 : List Str := ["timer", "place", "mode", "top"]
def P10 : List Str := ["timer", "place"]
abbrev S10 : Stmt := top 44
theorem sc10 : scopeOk N10 P10 (defScope S10) = true := by decide +kernel
theorem ck10 : chkS ⟨N10, ents, gnames, xnames, true, fnames⟩ (defScope S10) C_at_place (defBody S10) = true := by decide +kernel
def N11 : List Str := ["timer", "found", "one", "size", "mode", "top", "gate", "matches"]
def P11 : List Str := ["timer"]
abbrev S11 : Stmt := top 45
theorem sc11 : scopeOk N11 P11 (defScope S11) = true := by decide +kernel
theorem ck11 : chkS ⟨N11, ents, gnames, xnames, true, fnames⟩ (defScope S11) C_match_places (defBody S11) = true := by decide +kernel
def N12 : List Str := ["timer", "place", "size", "some", "one"]
def P12 : List Str := ["timer", "place", "size"]
abbrev S12 : Stmt := top 46
theorem sc12 : scopeOk N12 P12 (defScope S12) = true := by decide +kernel
theorem ck12 : chkS ⟨N12, ents, gnames, xnames, true, fnames⟩ (defScope S12) C_to_match (defBody S12) = true := by decide +kernel
def N13 : List Str := ["self", "plan", "count", "is_down"]
def P13 : List Str := ["self", "plan"]
abbrev S13 : Stmt := inner 50 0
theorem sc13 : scopeOk N13 P13 (defScope S13) = true := by decide +kernel
theorem ck13 : chkS ⟨N13, ents, gnames, xnames, true, fnames⟩ (defScope S13) C_Timer_init (defBody S13) = true := by decide +kernel
def N14 : List Str := ["self"]
def P14 : List Str := ["self"]
abbrev S14 : Stmt := inner 50 1
theorem sc14 : scopeOk N14 P14 (defScope S14) = true := by decide +kernel
theorem ck14 : chkS ⟨N14, ents, gnames, xnames, true, fnames⟩ (defScope S14) C_Timer_held (defBody S14) = true := by decide +kernel
def N15 : List Str := ["self", "held"]
def P15 : List Str := ["self", "held"]
abbrev S15 : Stmt := inner 50 2
theorem sc15 : scopeOk N15 P15 (defScope S15) = true := by decide +kernel
theorem ck15 : chkS ⟨N15, ents, gnames, xnames, true, fnames⟩ (defScope S15) C_Timer_restore (defBody S15) = true := by decide +kernel
def N16 : List Str := ["self", "steps"]
def P16 : List Str := ["self", "steps"]
abbrev S16 : Stmt := inner 50 3
theorem sc16 : scopeOk N16 P16 (defScope S16) = true := by decide +kernel
theorem ck16 : chkS ⟨N16, ents, gnames, xnames, true, fnames⟩ (defScope S16) C_Timer_ticks_to (defBody S16) = true := by decide +kernel
def N17 : List Str := ["self", "many", "steps", "left", "found"]
def P17 : List Str := ["self", "many"]
abbrev S17 : Stmt := inner 50 4
theorem sc17 : scopeOk N17 P17 (defScope S17) = true := by decide +kernel
theorem ck17 : chkS ⟨N17, ents, gnames, xnames, true, fnames⟩ (defScope S17) C_Timer_tick (defBody S17) = true := by decide +kernel
def N19 : List Str := ["self", "plan", "one"]
def P19 : List Str := ["self", "plan"]
abbrev S19 : Stmt := inner 51 0
theorem sc19 : scopeOk N19 P19 (defScope S19) = true := by decide +kernel
theorem ck19 : chkS ⟨N19, ents, gnames, xnames, true, fnames⟩ (defScope S19) C_Chip_init (defBody S19) = true := by decide +kernel
def N20 : List Str := ["self", "number"]
def P20 : List Str := ["self", "number"]
abbrev S20 : Stmt := inner 51 1
theorem sc20 : scopeOk N20 P20 (defScope S20) = true := by decide +kernel
theorem ck20 : chkS ⟨N20, ents, gnames, xnames, true, fnames⟩ (defScope S20) C_Chip_look_timer (defBody S20) = true := by decide +kernel
def N21 : List Str := ["self"]
def P21 : List Str := ["self"]
abbrev S21 : Stmt := inner 51 2
theorem sc21 : scopeOk N21 P21 (defScope S21) = true := by decide +kernel
theorem ck21 : chkS ⟨N21, ents, gnames, xnames, true, fnames⟩ (defScope S21) C_Chip_keep (defBody S21) = true := by decide +kernel
def N22 : List Str := ["self", "timer"]
def P22 : List Str := ["self"]
abbrev S22 : Stmt := inner 51 3
theorem sc22 : scopeOk N22 P22 (defScope S22) = true := by decide +kernel
theorem ck22 : chkS ⟨N22, ents, gnames, xnames, true, fnames⟩ (defScope S22) C_Chip_now (defBody S22) = true := by decide +kernel
def N23 : List Str := ["self", "held", "k"]
def P23 : List Str := ["self", "held"]
abbrev S23 : Stmt := inner 51 4
theorem sc23 : scopeOk N23 P23 (defScope S23) = true := by decide +kernel
theorem ck23 : chkS ⟨N23, ents, gnames, xnames, true, fnames⟩ (defScope S23) C_Chip_restore (defBody S23) = true := by decide +kernel
def N24 : List Str := ["self"]
def P24 : List Str := ["self"]
abbrev S24 : Stmt := inner 51 5
theorem sc24 : scopeOk N24 P24 (defScope S24) = true := by decide +kernel
theorem ck24 : chkS ⟨N24, ents, gnames, xnames, true, fnames⟩ (defScope S24) C_Chip_back (defBody S24) = true := by decide +kernel
def N25 : List Str := ["self"]
def P25 : List Str := ["self"]
abbrev S25 : Stmt := inner 51 6
theorem sc25 : scopeOk N25 P25 (defScope S25) = true := by decide +kernel
theorem ck25 : chkS ⟨N25, ents, gnames, xnames, true, fnames⟩ (defScope S25) C_Chip_beat (defBody S25) = true := by decide +kernel
def N26 : List Str := ["self", "number"]
def P26 : List Str := ["self", "number"]
abbrev S26 : Stmt := inner 51 7
theorem sc26 : scopeOk N26 P26 (defScope S26) = true := by decide +kernel
theorem ck26 : chkS ⟨N26, ents, gnames, xnames, true, fnames⟩ (defScope S26) C_Chip_count (defBody S26) = true := by decide +kernel
def N28 : List Str := ["self", "number", "gate"]
def P28 : List Str := ["self", "number"]
abbrev S28 : Stmt := inner 51 9
theorem sc28 : scopeOk N28 P28 (defScope S28) = true := by decide +kernel
theorem ck28 : chkS ⟨N28, ents, gnames, xnames, true, fnames⟩ (defScope S28) C_Chip_is_open (defBody S28) = true := by decide +kernel
def N29 : List Str := ["self", "beats", "found", "k", "source", "many"]
def P29 : List Str := ["self", "beats"]
abbrev S29 : Stmt := inner 51 10
theorem sc29 : scopeOk N29 P29 (defScope S29) = true := by decide +kernel
theorem ck29 : chkS ⟨N29, ents, gnames, xnames, true, fnames⟩ (defScope S29) C_Chip_pass_by (defBody S29) = true := by decide +kernel
def N30 : List Str := ["self", "beats"]
def P30 : List Str := ["self", "beats"]
abbrev S30 : Stmt := inner 51 11
theorem sc30 : scopeOk N30 P30 (defScope S30) = true := by decide +kernel
theorem ck30 : chkS ⟨N30, ents, gnames, xnames, true, fnames⟩ (defScope S30) C_Chip_go (defBody S30) = true := by decide +kernel
def N31 : List Str := ["self", "line", "level", "found", "k"]
def P31 : List Str := ["self", "line", "level"]
abbrev S31 : Stmt := inner 51 12
theorem sc31 : scopeOk N31 P31 (defScope S31) = true := by decide +kernel
theorem ck31 : chkS ⟨N31, ents, gnames, xnames, true, fnames⟩ (defScope S31) C_Chip_put (defBody S31) = true := by decide +kernel
def N32 : List Str := ["self", "number", "count", "plan", "timer"]
def P32 : List Str := ["self", "number", "count"]
abbrev S32 : Stmt := inner 51 13
theorem sc32 : scopeOk N32 P32 (defScope S32) = true := by decide +kernel
theorem ck32 : chkS ⟨N32, ents, gnames, xnames, true, fnames⟩ (defScope S32) C_Chip_write (defBody S32) = true := by decide +kernel
def N33 : List Str := ["self", "number", "many", "timer", "steps"]
def P33 : List Str := ["self", "number", "many"]
abbrev S33 : Stmt := inner 51 14
theorem sc33 : scopeOk N33 P33 (defScope S33) = true := by decide +kernel
theorem ck33 : chkS ⟨N33, ents, gnames, xnames, true, fnames⟩ (defScope S33) C_Chip_beats_to_turns (defBody S33) = true := by decide +kernel
def N34 : List Str := ["self", "number", "many", "source"]
def P34 : List Str := ["self", "number", "many"]
abbrev S34 : Stmt := inner 51 15
theorem sc34 : scopeOk N34 P34 (defScope S34) = true := by decide +kernel
theorem ck34 : chkS ⟨N34, ents, gnames, xnames, true, fnames⟩ (defScope S34) C_Chip_beats_to_ticks (defBody S34) = true := by decide +kernel
def N35 : List Str := ["self", "number", "timer", "some", "steps", "one"]
def P35 : List Str := ["self", "number"]
abbrev S35 : Stmt := inner 51 16
theorem sc35 : scopeOk N35 P35 (defScope S35) = true := by decide +kernel
theorem ck35 : chkS ⟨N35, ents, gnames, xnames, true, fnames⟩ (defScope S35) C_Chip_waking (defBody S35) = true := by decide +kernel
def N36 : List Str := ["self", "some", "k", "one"]
def P36 : List Str := ["self"]
abbrev S36 : Stmt := inner 51 17
theorem sc36 : scopeOk N36 P36 (defScope S36) = true := by decide +kernel
theorem ck36 : chkS ⟨N36, ents, gnames, xnames, true, fnames⟩ (defScope S36) C_Chip_next_waking (defBody S36) = true := by decide +kernel
def N37 : List Str := ["self", "before", "found", "k", "timer", "count", "place", "part", "turns"]
def P37 : List Str := ["self", "before"]
abbrev S37 : Stmt := inner 51 18
theorem sc37 : scopeOk N37 P37 (defScope S37) = true := by decide +kernel
theorem ck37 : chkS ⟨N37, ents, gnames, xnames, true, fnames⟩ (defScope S37) C_Chip_events_now (defBody S37) = true := by decide +kernel
def N38 : List Str := ["self", "beats", "held", "end", "found", "wait", "before", "timer"]
def P38 : List Str := ["self", "beats"]
abbrev S38 : Stmt := inner 51 19
theorem sc38 : scopeOk N38 P38 (defScope S38) = true := by decide +kernel
theorem ck38 : chkS ⟨N38, ents, gnames, xnames, true, fnames⟩ (defScope S38) C_Chip_ahead (defBody S38) = true := by decide +kernel
def N64 : List Str := ["gap"]
def P64 : List Str := ["gap"]
abbrev S64 : Stmt := top 56
theorem sc64 : scopeOk N64 P64 (defScope S64) = true := by decide +kernel
theorem ck64 : chkS ⟨N64, ents, gnames, xnames, true, fnames⟩ (defScope S64) C_look_gap (defBody S64) = true := by decide +kernel
def N65 : List Str := ["chip", "number"]
def P65 : List Str := ["chip", "number"]
abbrev S65 : Stmt := top 57
theorem sc65 : scopeOk N65 P65 (defScope S65) = true := by decide +kernel
theorem ck65 : chkS ⟨N65, ents, gnames, xnames, true, fnames⟩ (defScope S65) C_high_half (defBody S65) = true := by decide +kernel
def N66 : List Str := ["chip", "number"]
def P66 : List Str := ["chip", "number"]
abbrev S66 : Stmt := top 58
theorem sc66 : scopeOk N66 P66 (defScope S66) = true := by decide +kernel
theorem ck66 : chkS ⟨N66, ents, gnames, xnames, true, fnames⟩ (defScope S66) C_low_half (defBody S66) = true := by decide +kernel
def N67 : List Str := ["chip", "number", "gap", "first"]
def P67 : List Str := ["chip", "number", "gap"]
abbrev S67 : Stmt := top 59
theorem sc67 : scopeOk N67 P67 (defScope S67) = true := by decide +kernel
theorem ck67 : chkS ⟨N67, ents, gnames, xnames, true, fnames⟩ (defScope S67) C_torn (defBody S67) = true := by decide +kernel
def N68 : List Str := ["chip", "number", "gap", "most", "first", "k", "last", "again"]
def P68 : List Str := ["chip", "number", "gap", "most"]
abbrev S68 : Stmt := top 60
theorem sc68 : scopeOk N68 P68 (defScope S68) = true := by decide +kernel
theorem ck68 : chkS ⟨N68, ents, gnames, xnames, true, fnames⟩ (defScope S68) C_safe (defBody S68) = true := by decide +kernel
def N69 : List Str := ["span", "divides", "one"]
def P69 : List Str := ["span", "divides"]
abbrev S69 : Stmt := top 31
theorem sc69 : scopeOk N69 P69 (defScope S69) = true := by decide +kernel
theorem ck69 : chkS ⟨N69, ents, gnames, xnames, true, fnames⟩ (defScope S69) C_look_span (defBody S69) = true := by decide +kernel
def N70 : List Str := ["span", "divides", "found", "divide", "steps", "error", "rank"]
def P70 : List Str := ["span", "divides"]
abbrev S70 : Stmt := top 32
theorem sc70 : scopeOk N70 P70 (defScope S70) = true := by decide +kernel
theorem ck70 : chkS ⟨N70, ents, gnames, xnames, true, fnames⟩ (defScope S70) C_nearest (defBody S70) = true := by decide +kernel
def N71 : List Str := ["span", "divides", "found", "divide", "one", "other"]
def P71 : List Str := ["span", "divides"]
abbrev S71 : Stmt := top 33
theorem sc71 : scopeOk N71 P71 (defScope S71) = true := by decide +kernel
theorem ck71 : chkS ⟨N71, ents, gnames, xnames, true, fnames⟩ (defScope S71) C_exact (defBody S71) = true := by decide +kernel
def N72 : List Str := ["number", "found", "one", "pair"]
def P72 : List Str := ["number"]
abbrev S72 : Stmt := top 34
theorem sc72 : scopeOk N72 P72 (defScope S72) = true := by decide +kernel
theorem ck72 : chkS ⟨N72, ents, gnames, xnames, true, fnames⟩ (defScope S72) C_pairs_of (defBody S72) = true := by decide +kernel
def N73 : List Str := ["top", "reads", "one"]
def P73 : List Str := ["top", "reads"]
abbrev S73 : Stmt := top 35
theorem sc73 : scopeOk N73 P73 (defScope S73) = true := by decide +kernel
theorem ck73 : chkS ⟨N73, ents, gnames, xnames, true, fnames⟩ (defScope S73) C_look_reads (defBody S73) = true := by decide +kernel
def N74 : List Str := ["top", "reads", "found", "k"]
def P74 : List Str := ["top", "reads"]
abbrev S74 : Stmt := top 36
theorem sc74 : scopeOk N74 P74 (defScope S74) = true := by decide +kernel
theorem ck74 : chkS ⟨N74, ents, gnames, xnames, true, fnames⟩ (defScope S74) C_totals (defBody S74) = true := by decide +kernel
def N75 : List Str := ["top", "reads", "times", "slip", "found", "k", "some", "is_sure", "one"]
def P75 : List Str := ["top", "reads", "times", "slip"]
abbrev S75 : Stmt := top 37
theorem sc75 : scopeOk N75 P75 (defScope S75) = true := by decide +kernel
theorem ck75 : chkS ⟨N75, ents, gnames, xnames, true, fnames⟩ (defScope S75) C_sure_totals (defBody S75) = true := by decide +kernel
def N76 : List Str := ["size", "rest", "told", "slip", "low", "first", "one"]
def P76 : List Str := ["size", "rest", "told", "slip"]
abbrev S76 : Stmt := top 38
theorem sc76 : scopeOk N76 P76 (defScope S76) = true := by decide +kernel
theorem ck76 : chkS ⟨N76, ents, gnames, xnames, true, fnames⟩ (defScope S76) C_fitting (defBody S76) = true := by decide +kernel
def N77 : List Str := ["top", "under", "many", "k"]
def P77 : List Str := ["top", "under", "many"]
abbrev S77 : Stmt := top 39
theorem sc77 : scopeOk N77 P77 (defScope S77) = true := by decide +kernel
theorem ck77 : chkS ⟨N77, ents, gnames, xnames, true, fnames⟩ (defScope S77) C_evened (defBody S77) = true := by decide +kernel
def N78 : List Str := ["periods", "top", "under", "found", "total", "k", "one"]
def P78 : List Str := ["periods", "top", "under"]
abbrev S78 : Stmt := top 40
theorem sc78 : scopeOk N78 P78 (defScope S78) = true := by decide +kernel
theorem ck78 : chkS ⟨N78, ents, gnames, xnames, true, fnames⟩ (defScope S78) C_drift (defBody S78) = true := by decide +kernel
def N79 : List Str := ["one", "other", "first", "last"]
def P79 : List Str := ["one", "other"]
abbrev S79 : Stmt := top 62
theorem sc79 : scopeOk N79 P79 (defScope S79) = true := by decide +kernel
theorem ck79 : chkS ⟨N79, ents, gnames, xnames, true, fnames⟩ (defScope S79) C_ratio (defBody S79) = true := by decide +kernel
def N84 : List Str := ["_law_script", "_law_k"]
def P84 : List Str := ["_law_script", "_law_k"]
abbrev S84 : Stmt := top 64
theorem sc84 : scopeOk N84 P84 (defScope S84) = true := by decide +kernel
theorem ck84 : chkS ⟨N84, ents, gnames, xnames, true, fnames⟩ (defScope S84) C_law_cell (defBody S84) = true := by decide +kernel
def N85 : List Str := ["_law_script", "_law_k", "_law_number"]
def P85 : List Str := ["_law_script", "_law_k"]
abbrev S85 : Stmt := top 65
theorem sc85 : scopeOk N85 P85 (defScope S85) = true := by decide +kernel
theorem ck85 : chkS ⟨N85, ents, gnames, xnames, true, fnames⟩ (defScope S85) C_law_mix (defBody S85) = true := by decide +kernel
def N86 : List Str := ["_law_script", "_law_town", "_law_many"]
def P86 : List Str := ["_law_script", "_law_town", "_law_many"]
abbrev S86 : Stmt := top 66
theorem sc86 : scopeOk N86 P86 (defScope S86) = true := by decide +kernel
theorem ck86 : chkS ⟨N86, ents, gnames, xnames, true, fnames⟩ (defScope S86) C_law_draw (defBody S86) = true := by decide +kernel
def N87 : List Str := ["_law_script", "_law_town", "_law_some"]
def P87 : List Str := ["_law_script", "_law_town", "_law_some"]
abbrev S87 : Stmt := top 67
theorem sc87 : scopeOk N87 P87 (defScope S87) = true := by decide +kernel
theorem ck87 : chkS ⟨N87, ents, gnames, xnames, true, fnames⟩ (defScope S87) C_law_pick (defBody S87) = true := by decide +kernel
def N92 : List Str := ["_law_caught", "_law_kinds", "_law_words"]
def P92 : List Str := ["_law_caught"]
abbrev S92 : Stmt := top 68
theorem sc92 : scopeOk N92 P92 (defScope S92) = true := by decide +kernel
theorem ck92 : chkS ⟨N92, ents, gnames, xnames, true, fnames⟩ (defScope S92) C_law_refusalB (defBody S92) = true := by decide +kernel
def N105 : List Str := ["_law_kind", "_law_some", "_law_chip"]
def P105 : List Str := ["_law_kind", "_law_some"]
abbrev S105 : Stmt := top 69
theorem sc105 : scopeOk N105 P105 (defScope S105) = true := by decide +kernel
theorem ck105 : chkS ⟨N105, ents, gnames, xnames, true, fnames⟩ (defScope S105) C_law_one (defBody S105) = true := by decide +kernel
def N106 : List Str := ["_law_kind", "_law_some", "_law_caught", "_law_found", "e"]
def P106 : List Str := ["_law_kind", "_law_some"]
abbrev S106 : Stmt := top 70
theorem sc106 : scopeOk N106 P106 (defScope S106) = true := by decide +kernel
theorem ck106 : chkS ⟨N106, ents, gnames, xnames, true, fnames⟩ (defScope S106) C_law_told (defBody S106) = true := by decide +kernel
def N107 : List Str := ["_law_rows", "_law_word", "_law_kind", "_law_some"]
def P107 : List Str := ["_law_rows", "_law_word"]
abbrev S107 : Stmt := top 71
theorem sc107 : scopeOk N107 P107 (defScope S107) = true := by decide +kernel
theorem ck107 : chkS ⟨N107, ents, gnames, xnames, true, fnames⟩ (defScope S107) C_law_are (defBody S107) = true := by decide +kernel
def N108 : List Str := ["_law_script", "_law_town", "_law_span", "_law_divides", "_law_rows", "_law_high", "_law_reads", "_law_slip", "_law_many", "_law_gap", "_law_tries", "_law_times", "_law_periods", "_law_number", "_law_good", "_law_kind", "_law_some"]
def P108 : List Str := ["_law_script"]
abbrev S108 : Stmt := top 72
theorem sc108 : scopeOk N108 P108 (defScope S108) = true := by decide +kernel
theorem ck108 : chkS ⟨N108, ents, gnames, xnames, true, fnames⟩ (defScope S108) C_law (defBody S108) = true := by decide +kernel
end K44

namespace K44
open PySem L2 BC PySem.W PyProof.Rows
structure InTimer (K : PySem.W.Frag) (C : Addr) : Prop where
  cl : ClIn K "Timer" C
  n_plan : PySem.W.findIn K (.ref C) "plan" = some none
  n_size : PySem.W.findIn K (.ref C) "size" = some none
  n_place : PySem.W.findIn K (.ref C) "place" = some none
  n_part : PySem.W.findIn K (.ref C) "part" = some none
  n_turns : PySem.W.findIn K (.ref C) "turns" = some none
  n_caught : PySem.W.findIn K (.ref C) "caught" = some none
  n_stands : PySem.W.findIn K (.ref C) "stands" = some none
  n_timers : PySem.W.findIn K (.ref C) "timers" = some none
  n_lines : PySem.W.findIn K (.ref C) "lines" = some none
  n_beats : PySem.W.findIn K (.ref C) "beats" = some none
  n_past : PySem.W.findIn K (.ref C) "past" = some none
  n_chip : PySem.W.findIn K (.ref C) "chip" = some none
  n_rules : PySem.W.findIn K (.ref C) "rules" = some none
  n_rows : PySem.W.findIn K (.ref C) "rows" = some none
  m13 : ∃ f fd, MeIn K C "__init__" "Timer.__init__" S13 f fd
  m14 : ∃ f fd, MeIn K C "held" "Timer.held" S14 f fd
  m15 : ∃ f fd, MeIn K C "restore" "Timer.restore" S15 f fd
  m16 : ∃ f fd, MeIn K C "ticks_to" "Timer.ticks_to" S16 f fd
  m17 : ∃ f fd, MeIn K C "tick" "Timer.tick" S17 f fd
structure InChip (K : PySem.W.Frag) (C : Addr) : Prop where
  cl : ClIn K "Chip" C
  n_plan : PySem.W.findIn K (.ref C) "plan" = some none
  n_size : PySem.W.findIn K (.ref C) "size" = some none
  n_place : PySem.W.findIn K (.ref C) "place" = some none
  n_part : PySem.W.findIn K (.ref C) "part" = some none
  n_turns : PySem.W.findIn K (.ref C) "turns" = some none
  n_caught : PySem.W.findIn K (.ref C) "caught" = some none
  n_stands : PySem.W.findIn K (.ref C) "stands" = some none
  n_timers : PySem.W.findIn K (.ref C) "timers" = some none
  n_lines : PySem.W.findIn K (.ref C) "lines" = some none
  n_beats : PySem.W.findIn K (.ref C) "beats" = some none
  n_past : PySem.W.findIn K (.ref C) "past" = some none
  n_chip : PySem.W.findIn K (.ref C) "chip" = some none
  n_rules : PySem.W.findIn K (.ref C) "rules" = some none
  n_rows : PySem.W.findIn K (.ref C) "rows" = some none
  m19 : ∃ f fd, MeIn K C "__init__" "Chip.__init__" S19 f fd
  m20 : ∃ f fd, MeIn K C "look_timer" "Chip.look_timer" S20 f fd
  m21 : ∃ f fd, MeIn K C "keep" "Chip.keep" S21 f fd
  m22 : ∃ f fd, MeIn K C "now" "Chip.now" S22 f fd
  m23 : ∃ f fd, MeIn K C "restore" "Chip.restore" S23 f fd
  m24 : ∃ f fd, MeIn K C "back" "Chip.back" S24 f fd
  m25 : ∃ f fd, MeIn K C "beat" "Chip.beat" S25 f fd
  m26 : ∃ f fd, MeIn K C "count" "Chip.count" S26 f fd
  m28 : ∃ f fd, MeIn K C "is_open" "Chip.is_open" S28 f fd
  m29 : ∃ f fd, MeIn K C "pass_by" "Chip.pass_by" S29 f fd
  m30 : ∃ f fd, MeIn K C "go" "Chip.go" S30 f fd
  m31 : ∃ f fd, MeIn K C "put" "Chip.put" S31 f fd
  m32 : ∃ f fd, MeIn K C "write" "Chip.write" S32 f fd
  m33 : ∃ f fd, MeIn K C "beats_to_turns" "Chip.beats_to_turns" S33 f fd
  m34 : ∃ f fd, MeIn K C "beats_to_ticks" "Chip.beats_to_ticks" S34 f fd
  m35 : ∃ f fd, MeIn K C "waking" "Chip.waking" S35 f fd
  m36 : ∃ f fd, MeIn K C "next_waking" "Chip.next_waking" S36 f fd
  m37 : ∃ f fd, MeIn K C "events_now" "Chip.events_now" S37 f fd
  m38 : ∃ f fd, MeIn K C "ahead" "Chip.ahead" S38 f fd
theorem all_mk {l : PySem.W.OpenLaw} {w : World} {K : PySem.W.Frag} {h : Heap} {mg : Str → Option Value} {fa : Addr} (X : K.In h) (G : h.Ns mainGlobals mg) (hfa : mg "law" = some (.ref fa))
    (math : ∀ ns : List Int, ns.length ≤ 63 → Ph own 61 108 [.s ns] = .ok (.d (.bool true)) [])
    (h0 : ∃ f fd, FnIn K "is_whole" S0 f fd)
    (h1 : ∃ f fd, FnIn K "is_truth" S1 f fd)
    (h2 : ∃ f fd, FnIn K "is_edge" S2 f fd)
    (h3 : ∃ f fd, FnIn K "are_matches" S3 f fd)
    (h4 : ∃ f fd, FnIn K "is_timer" S4 f fd)
    (h5 : ∃ f fd, FnIn K "look_plan" S5 f fd)
    (h6 : ∃ f fd, FnIn K "round_of" S6 f fd)
    (h8 : ∃ f fd, FnIn K "begun" S8 f fd)
    (h9 : ∃ f fd, FnIn K "place_of" S9 f fd)
    (h10 : ∃ f fd, FnIn K "at_place" S10 f fd)
    (h11 : ∃ f fd, FnIn K "match_places" S11 f fd)
    (h12 : ∃ f fd, FnIn K "to_match" S12 f fd)
    (h64 : ∃ f fd, FnIn K "look_gap" S64 f fd)
    (h65 : ∃ f fd, FnIn K "high_half" S65 f fd)
    (h66 : ∃ f fd, FnIn K "low_half" S66 f fd)
    (h67 : ∃ f fd, FnIn K "torn" S67 f fd)
    (h68 : ∃ f fd, FnIn K "safe" S68 f fd)
    (h69 : ∃ f fd, FnIn K "look_span" S69 f fd)
    (h70 : ∃ f fd, FnIn K "nearest" S70 f fd)
    (h71 : ∃ f fd, FnIn K "exact" S71 f fd)
    (h72 : ∃ f fd, FnIn K "pairs_of" S72 f fd)
    (h73 : ∃ f fd, FnIn K "look_reads" S73 f fd)
    (h74 : ∃ f fd, FnIn K "totals" S74 f fd)
    (h75 : ∃ f fd, FnIn K "sure_totals" S75 f fd)
    (h76 : ∃ f fd, FnIn K "fitting" S76 f fd)
    (h77 : ∃ f fd, FnIn K "evened" S77 f fd)
    (h78 : ∃ f fd, FnIn K "drift" S78 f fd)
    (h79 : ∃ f fd, FnIn K "ratio" S79 f fd)
    (h84 : ∃ f fd, FnIn K "_law_cell" S84 f fd)
    (h85 : ∃ f fd, FnIn K "_law_mix" S85 f fd)
    (h86 : ∃ f fd, FnIn K "_law_draw" S86 f fd)
    (h87 : ∃ f fd, FnIn K "_law_pick" S87 f fd)
    (h92 : ∃ f fd, FnIn K "_law_refusal" S92 f fd)
    (h105 : ∃ f fd, FnIn K "_law_one" S105 f fd)
    (h106 : ∃ f fd, FnIn K "_law_told" S106 f fd)
    (h107 : ∃ f fd, FnIn K "_law_are" S107 f fd)
    (h108 : ∃ f fd, FnIn K "law" S108 f fd)
    (hTimer : ∃ C, InTimer K C)
    (hChip : ∃ C, InChip K C)
    (hE : ∃ e0 e1 e2 e3 e4 e5 e6 e7 e8 e9 : Addr, ErIn K e0 "ChipError" e0 true ∧ ErIn K e0 "BadPlan" e1 false ∧ ErIn K e0 "BadTimer" e2 false ∧ ErIn K e0 "BadLine" e3 false ∧ ErIn K e0 "BadNumber" e4 false ∧ ErIn K e0 "TooMany" e5 false ∧ ErIn K e0 "BadReads" e6 false ∧ ErIn K e0 "Nothing" e7 false ∧ ErIn K e0 "BadText" e8 false ∧ ErIn K e0 "BadRules" e9 false ∧ ([e0, e1, e2, e3, e4, e5, e6, e7, e8, e9] : List Addr).Nodup)
    (hsp : PySem.W.specialIn K (.builtin "object.__class__") "__get__" = some (some (.builtin "getset_descriptor.__get__")))
    (htk : PySem.W.takesIn K (.builtin "object.__class__") = some true)
    (kk0 : ∃ t, GiIn K "MOST_TIMERS" 4 t)
    (kk1 : ∃ t, GiIn K "MOST_LINES" 4 t)
    (kk2 : ∃ t, GiIn K "MOST_DIVIDE" 256 t)
    (kk3 : ∃ t, GiIn K "MOST_TOP" 65535 t)
    (kk4 : ∃ t, GiIn K "MOST_MATCHES" 2 t)
    (kk5 : ∃ m dt its n sl, GtIn K "MODES" ((["up", "down", "both"] : List Str).map V.str) m dt its n sl)
    (kk6 : ∃ t, GiIn K "MOST_BEATS" 1000000000000000 t)
    (kk7 : ∃ t, GiIn K "MOST_EVENTS" 300 t)
    (kk12 : ∃ t, GiIn K "HALF" 256 t)
    (kk13 : ∃ t, GiIn K "MOST_GAP" 1000 t)
    (kk14 : ∃ t, GiIn K "MOST_TRIES" 20 t)
    (kk15 : ∃ t, GiIn K "MOST_SPAN" 1000000000 t)
    (kk16 : ∃ t, GiIn K "MOST_READS" 100 t)
    (kk17 : ∃ t, GiIn K "MOST_PERIODS" 200 t)
    (kk18 : ∃ t, GiIn K "MOST_SLIP" 1000000 t)
    (z0 : PySem.W.nsIn K mainGlobals "len" = some none)
    (z1 : PySem.W.nsIn K mainGlobals "abs" = some none)
    (z2 : PySem.W.nsIn K mainGlobals "min" = some none)
    (z3 : PySem.W.nsIn K mainGlobals "max" = some none)
    (z4 : PySem.W.nsIn K mainGlobals "sum" = some none)
    (z5 : PySem.W.nsIn K mainGlobals "sorted" = some none)
    (z6 : PySem.W.nsIn K mainGlobals "tuple" = some none)
    (z7 : PySem.W.nsIn K mainGlobals "list" = some none)
    (z8 : PySem.W.nsIn K mainGlobals "int" = some none)
    (z9 : PySem.W.nsIn K mainGlobals "str" = some none)
    (z10 : PySem.W.nsIn K mainGlobals "all" = some none)
    (z11 : PySem.W.nsIn K mainGlobals "range" = some none)
    (z12 : PySem.W.nsIn K mainGlobals "isinstance" = some none)
    (z13 : PySem.W.nsIn K mainGlobals "bool" = some none)
    (z14 : PySem.W.nsIn K mainGlobals "dict" = some none)
    (z15 : PySem.W.nsIn K mainGlobals "ValueError" = some none)
    (z16 : PySem.W.nsIn K mainGlobals "set" = some none)
    : ∃ fd : FuncData, (∀ (s : Shared) (u : Value), BindsTo s fd ⟨[u], []⟩ [("_law_script", u)]) ∧ ∀ base : Heap, K.In base → base.Ns mainGlobals mg → FnOk l.prog w K mg base (L2.CX l.prog w) 62 fa fd ["_law_script"] (spLaw K) := by
  obtain ⟨f0, fd0, F0⟩ := h0
  obtain ⟨f1, fd1, F1⟩ := h1
  obtain ⟨f2, fd2, F2⟩ := h2
  obtain ⟨f3, fd3, F3⟩ := h3
  obtain ⟨f4, fd4, F4⟩ := h4
  obtain ⟨f5, fd5, F5⟩ := h5
  obtain ⟨f6, fd6, F6⟩ := h6
  obtain ⟨f8, fd8, F8⟩ := h8
  obtain ⟨f9, fd9, F9⟩ := h9
  obtain ⟨f10, fd10, F10⟩ := h10
  obtain ⟨f11, fd11, F11⟩ := h11
  obtain ⟨f12, fd12, F12⟩ := h12
  obtain ⟨f64, fd64, F64⟩ := h64
  obtain ⟨f65, fd65, F65⟩ := h65
  obtain ⟨f66, fd66, F66⟩ := h66
  obtain ⟨f67, fd67, F67⟩ := h67
  obtain ⟨f68, fd68, F68⟩ := h68
  obtain ⟨f69, fd69, F69⟩ := h69
  obtain ⟨f70, fd70, F70⟩ := h70
  obtain ⟨f71, fd71, F71⟩ := h71
  obtain ⟨f72, fd72, F72⟩ := h72
  obtain ⟨f73, fd73, F73⟩ := h73
  obtain ⟨f74, fd74, F74⟩ := h74
  obtain ⟨f75, fd75, F75⟩ := h75
  obtain ⟨f76, fd76, F76⟩ := h76
  obtain ⟨f77, fd77, F77⟩ := h77
  obtain ⟨f78, fd78, F78⟩ := h78
  obtain ⟨f79, fd79, F79⟩ := h79
  obtain ⟨f84, fd84, F84⟩ := h84
  obtain ⟨f85, fd85, F85⟩ := h85
  obtain ⟨f86, fd86, F86⟩ := h86
  obtain ⟨f87, fd87, F87⟩ := h87
  obtain ⟨f92, fd92, F92⟩ := h92
  obtain ⟨f105, fd105, F105⟩ := h105
  obtain ⟨f106, fd106, F106⟩ := h106
  obtain ⟨f107, fd107, F107⟩ := h107
  obtain ⟨f108, fd108, F108⟩ := h108
  obtain ⟨C0, ITimer⟩ := hTimer
  obtain ⟨f13, fd13, F13⟩ := ITimer.m13
  obtain ⟨f14, fd14, F14⟩ := ITimer.m14
  obtain ⟨f15, fd15, F15⟩ := ITimer.m15
  obtain ⟨f16, fd16, F16⟩ := ITimer.m16
  obtain ⟨f17, fd17, F17⟩ := ITimer.m17
  obtain ⟨C1, IChip⟩ := hChip
  obtain ⟨f19, fd19, F19⟩ := IChip.m19
  obtain ⟨f20, fd20, F20⟩ := IChip.m20
  obtain ⟨f21, fd21, F21⟩ := IChip.m21
  obtain ⟨f22, fd22, F22⟩ := IChip.m22
  obtain ⟨f23, fd23, F23⟩ := IChip.m23
  obtain ⟨f24, fd24, F24⟩ := IChip.m24
  obtain ⟨f25, fd25, F25⟩ := IChip.m25
  obtain ⟨f26, fd26, F26⟩ := IChip.m26
  obtain ⟨f28, fd28, F28⟩ := IChip.m28
  obtain ⟨f29, fd29, F29⟩ := IChip.m29
  obtain ⟨f30, fd30, F30⟩ := IChip.m30
  obtain ⟨f31, fd31, F31⟩ := IChip.m31
  obtain ⟨f32, fd32, F32⟩ := IChip.m32
  obtain ⟨f33, fd33, F33⟩ := IChip.m33
  obtain ⟨f34, fd34, F34⟩ := IChip.m34
  obtain ⟨f35, fd35, F35⟩ := IChip.m35
  obtain ⟨f36, fd36, F36⟩ := IChip.m36
  obtain ⟨f37, fd37, F37⟩ := IChip.m37
  obtain ⟨f38, fd38, F38⟩ := IChip.m38
  obtain ⟨e0, e1, e2, e3, e4, e5, e6, e7, e8, e9, E0, E1, E2, E3, E4, E5, E6, E7, E8, E9, End⟩ := hE
  have hex : ErAll K e0 xnames [some e0, some e1, some e2, some e3, some e4, some e5, some e6, some e7, some e8, some e9] true := And.intro E0 (And.intro E1 (And.intro E2 (And.intro E3 (And.intro E4 (And.intro E5 (And.intro E6 (And.intro E7 (And.intro E8 (And.intro E9 (trivial))))))))))
  have hxl := XL.mk' hex (by simpa using End) rfl hsp htk
  let cls : Nat → Addr := fun c => ([C0, C1] : List Addr).getD c C0
  have hc : true = true → (∀ c, Cls K (cls c)) ∧ (∀ c, ∀ y ∈ fnames, NoAttr K (cls c) y) ∧ fnames.Nodup := by
    have na0 : ∀ y ∈ fnames, NoAttr K C0 y := by
      simp only [fnames, List.forall_mem_cons]
      exact ⟨ITimer.n_plan, ITimer.n_size, ITimer.n_place, ITimer.n_part, ITimer.n_turns, ITimer.n_caught, ITimer.n_stands, ITimer.n_timers, ITimer.n_lines, ITimer.n_beats, ITimer.n_past, ITimer.n_chip, ITimer.n_rules, ITimer.n_rows, fun _ z => by cases z⟩
    have na1 : ∀ y ∈ fnames, NoAttr K C1 y := by
      simp only [fnames, List.forall_mem_cons]
      exact ⟨IChip.n_plan, IChip.n_size, IChip.n_place, IChip.n_part, IChip.n_turns, IChip.n_caught, IChip.n_stands, IChip.n_timers, IChip.n_lines, IChip.n_beats, IChip.n_past, IChip.n_chip, IChip.n_rules, IChip.n_rows, fun _ z => by cases z⟩
    refine fun _ => ⟨fun c => ?_, fun c => ?_, by decide⟩
    · match c with
      | 0 => exact ITimer.cl.cls
      | 1 => exact IChip.cl.cls
      | _ + 2 => exact ITimer.cl.cls
    · match c with
      | 0 => exact na0
      | 1 => exact na1
      | _ + 2 => exact na0
  have G0 : GlIn K gl "MOST_TIMERS" 0 := by
    obtain ⟨t, q1⟩ := kk0
    exact gi_gl q1 rfl
  have G1 : GlIn K gl "MOST_LINES" 1 := by
    obtain ⟨t, q1⟩ := kk1
    exact gi_gl q1 rfl
  have G2 : GlIn K gl "MOST_DIVIDE" 2 := by
    obtain ⟨t, q1⟩ := kk2
    exact gi_gl q1 rfl
  have G3 : GlIn K gl "MOST_TOP" 3 := by
    obtain ⟨t, q1⟩ := kk3
    exact gi_gl q1 rfl
  have G4 : GlIn K gl "MOST_MATCHES" 4 := by
    obtain ⟨t, q1⟩ := kk4
    exact gi_gl q1 rfl
  have G5 : GlIn K gl "MODES" 5 := by
    obtain ⟨m, dt, its, n, sl, q1⟩ := kk5
    exact gt_gl q1 rfl
  have G6 : GlIn K gl "MOST_BEATS" 6 := by
    obtain ⟨t, q1⟩ := kk6
    exact gi_gl q1 rfl
  have G7 : GlIn K gl "MOST_EVENTS" 7 := by
    obtain ⟨t, q1⟩ := kk7
    exact gi_gl q1 rfl
  have G12 : GlIn K gl "HALF" 12 := by
    obtain ⟨t, q1⟩ := kk12
    exact gi_gl q1 rfl
  have G13 : GlIn K gl "MOST_GAP" 13 := by
    obtain ⟨t, q1⟩ := kk13
    exact gi_gl q1 rfl
  have G14 : GlIn K gl "MOST_TRIES" 14 := by
    obtain ⟨t, q1⟩ := kk14
    exact gi_gl q1 rfl
  have G15 : GlIn K gl "MOST_SPAN" 15 := by
    obtain ⟨t, q1⟩ := kk15
    exact gi_gl q1 rfl
  have G16 : GlIn K gl "MOST_READS" 16 := by
    obtain ⟨t, q1⟩ := kk16
    exact gi_gl q1 rfl
  have G17 : GlIn K gl "MOST_PERIODS" 17 := by
    obtain ⟨t, q1⟩ := kk17
    exact gi_gl q1 rfl
  have G18 : GlIn K gl "MOST_SLIP" 18 := by
    obtain ⟨t, q1⟩ := kk18
    exact gi_gl q1 rfl
  have hgl : GlAll K gl gnames 0 := And.intro G0 (And.intro G1 (And.intro G2 (And.intro G3 (And.intro G4 (And.intro G5 (And.intro G6 (And.intro G7 (And.intro G12 (And.intro G13 (And.intro G14 (And.intro G15 (And.intro G16 (And.intro G17 (And.intro G18 (trivial)))))))))))))))
  have hbn : ∀ x ∈ bnames, PySem.W.nsIn K mainGlobals x = some none := by
    simp only [bnames, List.forall_mem_cons]
    exact ⟨z0, z1, z2, z3, z4, z5, z6, z7, z8, z9, z10, z11, z12, z13, z14, z15, z16, fun _ z => by cases z⟩
  have env := env_of X G hgl hex hxl hc hbn
  have all : AllF (Fact ⟨K, cls, excOf e0 [some e0, some e1, some e2, some e3, some e4, some e5, some e6, some e7, some e8, some e9], fnames⟩ mg gnames xnames true fnames ents (pool ++ own)) ents (pool ++ own) := by
    refine And.intro ?_ ?_
    · exact fact_fn X G F0 (ps := P0) (fun _ _ _ _ _ _ us hl => match us, hl with | [_, _, _], _ => rfl) sc0 rfl rfl rfl rfl ck0
    refine And.intro ?_ ?_
    · exact fact_fn X G F1 (ps := P1) (fun _ _ _ _ _ _ us hl => match us, hl with | [_], _ => rfl) sc1 rfl rfl rfl rfl ck1
    refine And.intro ?_ ?_
    · exact fact_fn X G F2 (ps := P2) (fun _ _ _ _ _ _ us hl => match us, hl with | [_], _ => rfl) sc2 rfl rfl rfl rfl ck2
    refine And.intro ?_ ?_
    · exact fact_fn X G F3 (ps := P3) (fun _ _ _ _ _ _ us hl => match us, hl with | [_, _], _ => rfl) sc3 rfl rfl rfl rfl ck3
    refine And.intro ?_ ?_
    · exact fact_fn X G F4 (ps := P4) (fun _ _ _ _ _ _ us hl => match us, hl with | [_, _], _ => rfl) sc4 rfl rfl rfl rfl ck4
    refine And.intro ?_ ?_
    · exact fact_fn X G F5 (ps := P5) (fun _ _ _ _ _ _ us hl => match us, hl with | [_], _ => rfl) sc5 rfl rfl rfl rfl ck5
    refine And.intro ?_ ?_
    · exact fact_fn X G F6 (ps := P6) (fun _ _ _ _ _ _ us hl => match us, hl with | [_], _ => rfl) sc6 rfl rfl rfl rfl ck6
    refine And.intro ?_ ?_
    · trivial
    refine And.intro ?_ ?_
    · exact fact_fn X G F8 (ps := P8) (fun _ _ _ _ _ _ us hl => match us, hl with | [_], _ => rfl) sc8 rfl rfl rfl rfl ck8
    refine And.intro ?_ ?_
    · exact fact_fn X G F9 (ps := P9) (fun _ _ _ _ _ _ us hl => match us, hl with | [_, _, _], _ => rfl) sc9 rfl rfl rfl rfl ck9
    refine And.intro ?_ ?_
    · exact fact_fn X G F10 (ps := P10) (fun _ _ _ _ _ _ us hl => match us, hl with | [_, _], _ => rfl) sc10 rfl rfl rfl rfl ck10
    refine And.intro ?_ ?_
    · exact fact_fn X G F11 (ps := P11) (fun _ _ _ _ _ _ us hl => match us, hl with | [_], _ => rfl) sc11 rfl rfl rfl rfl ck11
    refine And.intro ?_ ?_
    · exact fact_fn X G F12 (ps := P12) (fun _ _ _ _ _ _ us hl => match us, hl with | [_, _, _], _ => rfl) sc12 rfl rfl rfl rfl ck12
    refine And.intro ?_ ?_
    · exact fact_me F13 rfl (ps := P13) (fun _ _ _ _ _ _ us hl => match us, hl with | [_, _], _ => rfl) sc13 rfl rfl rfl rfl ck13
    refine And.intro ?_ ?_
    · exact fact_me F14 rfl (ps := P14) (fun _ _ _ _ _ _ us hl => match us, hl with | [_], _ => rfl) sc14 rfl rfl rfl rfl ck14
    refine And.intro ?_ ?_
    · exact fact_me F15 rfl (ps := P15) (fun _ _ _ _ _ _ us hl => match us, hl with | [_, _], _ => rfl) sc15 rfl rfl rfl rfl ck15
    refine And.intro ?_ ?_
    · exact fact_me F16 rfl (ps := P16) (fun _ _ _ _ _ _ us hl => match us, hl with | [_, _], _ => rfl) sc16 rfl rfl rfl rfl ck16
    refine And.intro ?_ ?_
    · exact fact_me F17 rfl (ps := P17) (fun _ _ _ _ _ _ us hl => match us, hl with | [_, _], _ => rfl) sc17 rfl rfl rfl rfl ck17
    refine And.intro ?_ ?_
    · exact fact_mk X G ITimer.cl F13 rfl rfl rfl rfl rfl
    refine And.intro ?_ ?_
    · exact fact_me F19 rfl (ps := P19) (fun _ _ _ _ _ _ us hl => match us, hl with | [_, _], _ => rfl) sc19 rfl rfl rfl rfl ck19
    refine And.intro ?_ ?_
    · exact fact_me F20 rfl (ps := P20) (fun _ _ _ _ _ _ us hl => match us, hl with | [_, _], _ => rfl) sc20 rfl rfl rfl rfl ck20
    refine And.intro ?_ ?_
    · exact fact_me F21 rfl (ps := P21) (fun _ _ _ _ _ _ us hl => match us, hl with | [_], _ => rfl) sc21 rfl rfl rfl rfl ck21
    refine And.intro ?_ ?_
    · exact fact_me F22 rfl (ps := P22) (fun _ _ _ _ _ _ us hl => match us, hl with | [_], _ => rfl) sc22 rfl rfl rfl rfl ck22
    refine And.intro ?_ ?_
    · exact fact_me F23 rfl (ps := P23) (fun _ _ _ _ _ _ us hl => match us, hl with | [_, _], _ => rfl) sc23 rfl rfl rfl rfl ck23
    refine And.intro ?_ ?_
    · exact fact_me F24 rfl (ps := P24) (fun _ _ _ _ _ _ us hl => match us, hl with | [_], _ => rfl) sc24 rfl rfl rfl rfl ck24
    refine And.intro ?_ ?_
    · exact fact_me F25 rfl (ps := P25) (fun _ _ _ _ _ _ us hl => match us, hl with | [_], _ => rfl) sc25 rfl rfl rfl rfl ck25
    refine And.intro ?_ ?_
    · exact fact_me F26 rfl (ps := P26) (fun _ _ _ _ _ _ us hl => match us, hl with | [_, _], _ => rfl) sc26 rfl rfl rfl rfl ck26
    refine And.intro ?_ ?_
    · trivial
    refine And.intro ?_ ?_
    · exact fact_me F28 rfl (ps := P28) (fun _ _ _ _ _ _ us hl => match us, hl with | [_, _], _ => rfl) sc28 rfl rfl rfl rfl ck28
    refine And.intro ?_ ?_
    · exact fact_me F29 rfl (ps := P29) (fun _ _ _ _ _ _ us hl => match us, hl with | [_, _], _ => rfl) sc29 rfl rfl rfl rfl ck29
    refine And.intro ?_ ?_
    · exact fact_me F30 rfl (ps := P30) (fun _ _ _ _ _ _ us hl => match us, hl with | [_, _], _ => rfl) sc30 rfl rfl rfl rfl ck30
    refine And.intro ?_ ?_
    · exact fact_me F31 rfl (ps := P31) (fun _ _ _ _ _ _ us hl => match us, hl with | [_, _, _], _ => rfl) sc31 rfl rfl rfl rfl ck31
    refine And.intro ?_ ?_
    · exact fact_me F32 rfl (ps := P32) (fun _ _ _ _ _ _ us hl => match us, hl with | [_, _, _], _ => rfl) sc32 rfl rfl rfl rfl ck32
    refine And.intro ?_ ?_
    · exact fact_me F33 rfl (ps := P33) (fun _ _ _ _ _ _ us hl => match us, hl with | [_, _, _], _ => rfl) sc33 rfl rfl rfl rfl ck33
    refine And.intro ?_ ?_
    · exact fact_me F34 rfl (ps := P34) (fun _ _ _ _ _ _ us hl => match us, hl with | [_, _, _], _ => rfl) sc34 rfl rfl rfl rfl ck34
    refine And.intro ?_ ?_
    · exact fact_me F35 rfl (ps := P35) (fun _ _ _ _ _ _ us hl => match us, hl with | [_, _], _ => rfl) sc35 rfl rfl rfl rfl ck35
    refine And.intro ?_ ?_
    · exact fact_me F36 rfl (ps := P36) (fun _ _ _ _ _ _ us hl => match us, hl with | [_], _ => rfl) sc36 rfl rfl rfl rfl ck36
    refine And.intro ?_ ?_
    · exact fact_me F37 rfl (ps := P37) (fun _ _ _ _ _ _ us hl => match us, hl with | [_, _], _ => rfl) sc37 rfl rfl rfl rfl ck37
    refine And.intro ?_ ?_
    · exact fact_me F38 rfl (ps := P38) (fun _ _ _ _ _ _ us hl => match us, hl with | [_, _], _ => rfl) sc38 rfl rfl rfl rfl ck38
    refine And.intro ?_ ?_
    · exact fact_mk X G IChip.cl F19 rfl rfl rfl rfl rfl
    refine And.intro ?_ ?_
    · trivial
    refine And.intro ?_ ?_
    · trivial
    refine And.intro ?_ ?_
    · trivial
    refine And.intro ?_ ?_
    · trivial
    refine And.intro ?_ ?_
    · trivial
    refine And.intro ?_ ?_
    · trivial
    refine And.intro ?_ ?_
    · trivial
    refine And.intro ?_ ?_
    · trivial
    refine And.intro ?_ ?_
    · trivial
    refine And.intro ?_ ?_
    · trivial
    refine And.intro ?_ ?_
    · trivial
    refine And.intro ?_ ?_
    · trivial
    refine And.intro ?_ ?_
    · trivial
    refine And.intro ?_ ?_
    · trivial
    refine And.intro ?_ ?_
    · trivial
    refine And.intro ?_ ?_
    · trivial
    refine And.intro ?_ ?_
    · trivial
    refine And.intro ?_ ?_
    · trivial
    refine And.intro ?_ ?_
    · trivial
    refine And.intro ?_ ?_
    · trivial
    refine And.intro ?_ ?_
    · trivial
    refine And.intro ?_ ?_
    · trivial
    refine And.intro ?_ ?_
    · trivial
    refine And.intro ?_ ?_
    · trivial
    refine And.intro ?_ ?_
    · exact fact_fn X G F64 (ps := P64) (fun _ _ _ _ _ _ us hl => match us, hl with | [_], _ => rfl) sc64 rfl rfl rfl rfl ck64
    refine And.intro ?_ ?_
    · exact fact_fn X G F65 (ps := P65) (fun _ _ _ _ _ _ us hl => match us, hl with | [_, _], _ => rfl) sc65 rfl rfl rfl rfl ck65
    refine And.intro ?_ ?_
    · exact fact_fn X G F66 (ps := P66) (fun _ _ _ _ _ _ us hl => match us, hl with | [_, _], _ => rfl) sc66 rfl rfl rfl rfl ck66
    refine And.intro ?_ ?_
    · exact fact_fn X G F67 (ps := P67) (fun _ _ _ _ _ _ us hl => match us, hl with | [_, _, _], _ => rfl) sc67 rfl rfl rfl rfl ck67
    refine And.intro ?_ ?_
    · exact fact_fn X G F68 (ps := P68) (fun _ _ _ _ _ _ us hl => match us, hl with | [_, _, _, _], _ => rfl) sc68 rfl rfl rfl rfl ck68
    refine And.intro ?_ ?_
    · exact fact_fn X G F69 (ps := P69) (fun _ _ _ _ _ _ us hl => match us, hl with | [_, _], _ => rfl) sc69 rfl rfl rfl rfl ck69
    refine And.intro ?_ ?_
    · exact fact_fn X G F70 (ps := P70) (fun _ _ _ _ _ _ us hl => match us, hl with | [_, _], _ => rfl) sc70 rfl rfl rfl rfl ck70
    refine And.intro ?_ ?_
    · exact fact_fn X G F71 (ps := P71) (fun _ _ _ _ _ _ us hl => match us, hl with | [_, _], _ => rfl) sc71 rfl rfl rfl rfl ck71
    refine And.intro ?_ ?_
    · exact fact_fn X G F72 (ps := P72) (fun _ _ _ _ _ _ us hl => match us, hl with | [_], _ => rfl) sc72 rfl rfl rfl rfl ck72
    refine And.intro ?_ ?_
    · exact fact_fn X G F73 (ps := P73) (fun _ _ _ _ _ _ us hl => match us, hl with | [_, _], _ => rfl) sc73 rfl rfl rfl rfl ck73
    refine And.intro ?_ ?_
    · exact fact_fn X G F74 (ps := P74) (fun _ _ _ _ _ _ us hl => match us, hl with | [_, _], _ => rfl) sc74 rfl rfl rfl rfl ck74
    refine And.intro ?_ ?_
    · exact fact_fn X G F75 (ps := P75) (fun _ _ _ _ _ _ us hl => match us, hl with | [_, _, _, _], _ => rfl) sc75 rfl rfl rfl rfl ck75
    refine And.intro ?_ ?_
    · exact fact_fn X G F76 (ps := P76) (fun _ _ _ _ _ _ us hl => match us, hl with | [_, _, _, _], _ => rfl) sc76 rfl rfl rfl rfl ck76
    refine And.intro ?_ ?_
    · exact fact_fn X G F77 (ps := P77) (fun _ _ _ _ _ _ us hl => match us, hl with | [_, _, _], _ => rfl) sc77 rfl rfl rfl rfl ck77
    refine And.intro ?_ ?_
    · exact fact_fn X G F78 (ps := P78) (fun _ _ _ _ _ _ us hl => match us, hl with | [_, _, _], _ => rfl) sc78 rfl rfl rfl rfl ck78
    refine And.intro ?_ ?_
    · exact fact_fn X G F79 (ps := P79) (fun _ _ _ _ _ _ us hl => match us, hl with | [_, _], _ => rfl) sc79 rfl rfl rfl rfl ck79
    refine And.intro ?_ ?_
    · trivial
    refine And.intro ?_ ?_
    · trivial
    refine And.intro ?_ ?_
    · trivial
    refine And.intro ?_ ?_
    · trivial
    refine And.intro ?_ ?_
    · exact fact_fn X G F84 (ps := P84) (fun _ _ _ _ _ _ us hl => match us, hl with | [_, _], _ => rfl) sc84 rfl rfl rfl rfl ck84
    refine And.intro ?_ ?_
    · exact fact_fn X G F85 (ps := P85) (fun _ _ _ _ _ _ us hl => match us, hl with | [_, _], _ => rfl) sc85 rfl rfl rfl rfl ck85
    refine And.intro ?_ ?_
    · exact fact_fn X G F86 (ps := P86) (fun _ _ _ _ _ _ us hl => match us, hl with | [_, _, _], _ => rfl) sc86 rfl rfl rfl rfl ck86
    refine And.intro ?_ ?_
    · exact fact_fn X G F87 (ps := P87) (fun _ _ _ _ _ _ us hl => match us, hl with | [_, _, _], _ => rfl) sc87 rfl rfl rfl rfl ck87
    refine And.intro ?_ ?_
    · trivial
    refine And.intro ?_ ?_
    · trivial
    refine And.intro ?_ ?_
    · trivial
    refine And.intro ?_ ?_
    · trivial
    refine And.intro ?_ ?_
    · exact fact_fn X G F92 (ps := P92) (fun _ _ _ _ _ _ us hl => match us, hl with | [_], _ => rfl) sc92 rfl rfl rfl rfl ck92
    refine And.intro ?_ ?_
    · trivial
    refine And.intro ?_ ?_
    · trivial
    refine And.intro ?_ ?_
    · trivial
    refine And.intro ?_ ?_
    · trivial
    refine And.intro ?_ ?_
    · trivial
    refine And.intro ?_ ?_
    · trivial
    refine And.intro ?_ ?_
    · trivial
    refine And.intro ?_ ?_
    · trivial
    refine And.intro ?_ ?_
    · trivial
    refine And.intro ?_ ?_
    · trivial
    refine And.intro ?_ ?_
    · trivial
    refine And.intro ?_ ?_
    · trivial
    refine And.intro ?_ ?_
    · exact fact_fn X G F105 (ps := P105) (fun _ _ _ _ _ _ us hl => match us, hl with | [_, _], _ => rfl) sc105 rfl rfl rfl rfl ck105
    refine And.intro ?_ ?_
    · exact fact_fn X G F106 (ps := P106) (fun _ _ _ _ _ _ us hl => match us, hl with | [_, _], _ => rfl) sc106 rfl rfl rfl rfl ck106
    refine And.intro ?_ ?_
    · exact fact_fn X G F107 (ps := P107) (fun _ _ _ _ _ _ us hl => match us, hl with | [_, _], _ => rfl) sc107 rfl rfl rfl rfl ck107
    refine And.intro ?_ ?_
    · exact fact_fn X G F108 (ps := P108) (fun _ _ _ _ _ _ us hl => match us, hl with | [_], _ => rfl) sc108 rfl rfl rfl rfl ck108
    trivial
  have elaw := hfa.symm.trans (PySem.W.mg_of X G F108.ns)
  cases elaw
  have B108 := F108.fn.binds (ps := P108) fun _ _ _ _ _ _ us hl => match us, hl with | [_], _ => rfl
  refine ⟨fd108, fun s u => ?_, fun base _ _ => ?_⟩
  · obtain ⟨oc, od, kV, doc, pm, an, cdv, ct, osl, rfl, lk, hcd⟩ := F108.fn.ex
    exact .of_eq rfl
  have q := law_known (P := l.prog) (w := w) (base := base) env all (n := 60) (f := 108) (d := ⟨0, 0, 1, 17, 0, C_law⟩) rfl rfl ⟨"law", "law", S108, N108, F108.fn, B108, sc108, rfl, rfl, rfl, ck108⟩
  exact q.imp (law_sp (T := ⟨K, cls, excOf e0 [some e0, some e1, some e2, some e3, some e4, some e5, some e6, some e7, some e8, some e9], fnames⟩) math)
set_option pp.deepTerms false in
set_option pp.deepTerms.threshold 2 in
set_option pp.maxSteps 200 in
theorem go : PySem.Challenge.rw_beatchips_k44_refused_spans.Holds := by
  w_on; o_law; k_head; (case hw => w_witness2)
  k_fill
  refine law_walk (l := PySem.Challenge.rw_beatchips_k44_refused_spans) rfl rfl (k := 62) (x := "_law_script") ⟨rfl, by decide, by decide⟩ (fun w h Y => PySem.W.kIn_of Y) ?F
  case F =>
    intro w mg fa h KX G hmg
    refine' all_mk KX G hmg law_math ?h0 ?h1 ?h2 ?h3 ?h4 ?h5 ?h6 ?h8 ?h9 ?h10 ?h11 ?h12 ?h64 ?h65 ?h66 ?h67 ?h68 ?h69 ?h70 ?h71 ?h72 ?h73 ?h74 ?h75 ?h76 ?h77 ?h78 ?h79 ?h84 ?h85 ?h86 ?h87 ?h92 ?h105 ?h106 ?h107 ?h108 ?hTimer ?hChip ?hE ?hsp ?htk ?kk0 ?kk1 ?kk2 ?kk3 ?kk4 ?kk5 ?kk6 ?kk7 ?kk12 ?kk13 ?kk14 ?kk15 ?kk16 ?kk17 ?kk18 ?z0 ?z1 ?z2 ?z3 ?z4 ?z5 ?z6 ?z7 ?z8 ?z9 ?z10 ?z11 ?z12 ?z13 ?z14 ?z15 ?z16
    case h0 =>
      refine' ⟨_, _, ⟨?q1, fun_mk ?q2 ?q3 ?q4⟩⟩
      (case q1 => k_is)
      (case q2 => k_is)
      (case q3 => k_is)
      (case q4 => k_is)
    case h1 =>
      refine' ⟨_, _, ⟨?q1, fun_mk ?q2 ?q3 ?q4⟩⟩
      (case q1 => k_is)
      (case q2 => k_is)
      (case q3 => k_is)
      (case q4 => k_is)
    case h2 =>
      refine' ⟨_, _, ⟨?q1, fun_mk ?q2 ?q3 ?q4⟩⟩
      (case q1 => k_is)
      (case q2 => k_is)
      (case q3 => k_is)
      (case q4 => k_is)
    case h3 =>
      refine' ⟨_, _, ⟨?q1, fun_mk ?q2 ?q3 ?q4⟩⟩
      (case q1 => k_is)
      (case q2 => k_is)
      (case q3 => k_is)
      (case q4 => k_is)
    case h4 =>
      refine' ⟨_, _, ⟨?q1, fun_mk ?q2 ?q3 ?q4⟩⟩
      (case q1 => k_is)
      (case q2 => k_is)
      (case q3 => k_is)
      (case q4 => k_is)
    case h5 =>
      refine' ⟨_, _, ⟨?q1, fun_mk ?q2 ?q3 ?q4⟩⟩
      (case q1 => k_is)
      (case q2 => k_is)
      (case q3 => k_is)
      (case q4 => k_is)
    case h6 =>
      refine' ⟨_, _, ⟨?q1, fun_mk ?q2 ?q3 ?q4⟩⟩
      (case q1 => k_is)
      (case q2 => k_is)
      (case q3 => k_is)
      (case q4 => k_is)
    case h8 =>
      refine' ⟨_, _, ⟨?q1, fun_mk ?q2 ?q3 ?q4⟩⟩
      (case q1 => k_is)
      (case q2 => k_is)
      (case q3 => k_is)
      (case q4 => k_is)
    case h9 =>
      refine' ⟨_, _, ⟨?q1, fun_mk ?q2 ?q3 ?q4⟩⟩
      (case q1 => k_is)
      (case q2 => k_is)
      (case q3 => k_is)
      (case q4 => k_is)
    case h10 =>
      refine' ⟨_, _, ⟨?q1, fun_mk ?q2 ?q3 ?q4⟩⟩
      (case q1 => k_is)
      (case q2 => k_is)
      (case q3 => k_is)
      (case q4 => k_is)
    case h11 =>
      refine' ⟨_, _, ⟨?q1, fun_mk ?q2 ?q3 ?q4⟩⟩
      (case q1 => k_is)
      (case q2 => k_is)
      (case q3 => k_is)
      (case q4 => k_is)
    case h12 =>
      refine' ⟨_, _, ⟨?q1, fun_mk ?q2 ?q3 ?q4⟩⟩
      (case q1 => k_is)
      (case q2 => k_is)
      (case q3 => k_is)
      (case q4 => k_is)
    case h64 =>
      refine' ⟨_, _, ⟨?q1, fun_mk ?q2 ?q3 ?q4⟩⟩
      (case q1 => k_is)
      (case q2 => k_is)
      (case q3 => k_is)
      (case q4 => k_is)
    case h65 =>
      refine' ⟨_, _, ⟨?q1, fun_mk ?q2 ?q3 ?q4⟩⟩
      (case q1 => k_is)
      (case q2 => k_is)
      (case q3 => k_is)
      (case q4 => k_is)
    case h66 =>
      refine' ⟨_, _, ⟨?q1, fun_mk ?q2 ?q3 ?q4⟩⟩
      (case q1 => k_is)
      (case q2 => k_is)
      (case q3 => k_is)
      (case q4 => k_is)
    case h67 =>
      refine' ⟨_, _, ⟨?q1, fun_mk ?q2 ?q3 ?q4⟩⟩
      (case q1 => k_is)
      (case q2 => k_is)
      (case q3 => k_is)
      (case q4 => k_is)
    case h68 =>
      refine' ⟨_, _, ⟨?q1, fun_mk ?q2 ?q3 ?q4⟩⟩
      (case q1 => k_is)
      (case q2 => k_is)
      (case q3 => k_is)
      (case q4 => k_is)
    case h69 =>
      refine' ⟨_, _, ⟨?q1, fun_mk ?q2 ?q3 ?q4⟩⟩
      (case q1 => k_is)
      (case q2 => k_is)
      (case q3 => k_is)
      (case q4 => k_is)
    case h70 =>
      refine' ⟨_, _, ⟨?q1, fun_mk ?q2 ?q3 ?q4⟩⟩
      (case q1 => k_is)
      (case q2 => k_is)
      (case q3 => k_is)
      (case q4 => k_is)
    case h71 =>
      refine' ⟨_, _, ⟨?q1, fun_mk ?q2 ?q3 ?q4⟩⟩
      (case q1 => k_is)
      (case q2 => k_is)
      (case q3 => k_is)
      (case q4 => k_is)
    case h72 =>
      refine' ⟨_, _, ⟨?q1, fun_mk ?q2 ?q3 ?q4⟩⟩
      (case q1 => k_is)
      (case q2 => k_is)
      (case q3 => k_is)
      (case q4 => k_is)
    case h73 =>
      refine' ⟨_, _, ⟨?q1, fun_mk ?q2 ?q3 ?q4⟩⟩
      (case q1 => k_is)
      (case q2 => k_is)
      (case q3 => k_is)
      (case q4 => k_is)
    case h74 =>
      refine' ⟨_, _, ⟨?q1, fun_mk ?q2 ?q3 ?q4⟩⟩
      (case q1 => k_is)
      (case q2 => k_is)
      (case q3 => k_is)
      (case q4 => k_is)
    case h75 =>
      refine' ⟨_, _, ⟨?q1, fun_mk ?q2 ?q3 ?q4⟩⟩
      (case q1 => k_is)
      (case q2 => k_is)
      (case q3 => k_is)
      (case q4 => k_is)
    case h76 =>
      refine' ⟨_, _, ⟨?q1, fun_mk ?q2 ?q3 ?q4⟩⟩
      (case q1 => k_is)
      (case q2 => k_is)
      (case q3 => k_is)
      (case q4 => k_is)
    case h77 =>
      refine' ⟨_, _, ⟨?q1, fun_mk ?q2 ?q3 ?q4⟩⟩
      (case q1 => k_is)
      (case q2 => k_is)
      (case q3 => k_is)
      (case q4 => k_is)
    case h78 =>
      refine' ⟨_, _, ⟨?q1, fun_mk ?q2 ?q3 ?q4⟩⟩
      (case q1 => k_is)
      (case q2 => k_is)
      (case q3 => k_is)
      (case q4 => k_is)
    case h79 =>
      refine' ⟨_, _, ⟨?q1, fun_mk ?q2 ?q3 ?q4⟩⟩
      (case q1 => k_is)
      (case q2 => k_is)
      (case q3 => k_is)
      (case q4 => k_is)
    case h84 =>
      refine' ⟨_, _, ⟨?q1, fun_mk ?q2 ?q3 ?q4⟩⟩
      (case q1 => k_is)
      (case q2 => k_is)
      (case q3 => k_is)
      (case q4 => k_is)
    case h85 =>
      refine' ⟨_, _, ⟨?q1, fun_mk ?q2 ?q3 ?q4⟩⟩
      (case q1 => k_is)
      (case q2 => k_is)
      (case q3 => k_is)
      (case q4 => k_is)
    case h86 =>
      refine' ⟨_, _, ⟨?q1, fun_mk ?q2 ?q3 ?q4⟩⟩
      (case q1 => k_is)
      (case q2 => k_is)
      (case q3 => k_is)
      (case q4 => k_is)
    case h87 =>
      refine' ⟨_, _, ⟨?q1, fun_mk ?q2 ?q3 ?q4⟩⟩
      (case q1 => k_is)
      (case q2 => k_is)
      (case q3 => k_is)
      (case q4 => k_is)
    case h92 =>
      refine' ⟨_, _, ⟨?q1, fun_mk ?q2 ?q3 ?q4⟩⟩
      (case q1 => k_is)
      (case q2 => k_is)
      (case q3 => k_is)
      (case q4 => k_is)
    case h105 =>
      refine' ⟨_, _, ⟨?q1, fun_mk ?q2 ?q3 ?q4⟩⟩
      (case q1 => k_is)
      (case q2 => k_is)
      (case q3 => k_is)
      (case q4 => k_is)
    case h106 =>
      refine' ⟨_, _, ⟨?q1, fun_mk ?q2 ?q3 ?q4⟩⟩
      (case q1 => k_is)
      (case q2 => k_is)
      (case q3 => k_is)
      (case q4 => k_is)
    case h107 =>
      refine' ⟨_, _, ⟨?q1, fun_mk ?q2 ?q3 ?q4⟩⟩
      (case q1 => k_is)
      (case q2 => k_is)
      (case q3 => k_is)
      (case q4 => k_is)
    case h108 =>
      refine' ⟨_, _, ⟨?q1, fun_mk ?q2 ?q3 ?q4⟩⟩
      (case q1 => k_is)
      (case q2 => k_is)
      (case q3 => k_is)
      (case q4 => k_is)
    case hTimer =>
      refine' ⟨_, { cl := ⟨?ns, ⟨?pg, ?hd, ?po, ?sa⟩, ?mks, ?kp⟩, n_plan := ?n_plan, n_size := ?n_size, n_place := ?n_place, n_part := ?n_part, n_turns := ?n_turns, n_caught := ?n_caught, n_stands := ?n_stands, n_timers := ?n_timers, n_lines := ?n_lines, n_beats := ?n_beats, n_past := ?n_past, n_chip := ?n_chip, n_rules := ?n_rules, n_rows := ?n_rows, m13 := ?m13, m14 := ?m14, m15 := ?m15, m16 := ?m16, m17 := ?m17 }⟩
      (case ns => k_is)
      (case pg => k_is)
      (case hd => k_is)
      (case po => k_is)
      (case sa => k_is)
      (case mks => k_is)
      (case kp => k_is)
      (case n_plan => k_is)
      (case n_size => k_is)
      (case n_place => k_is)
      (case n_part => k_is)
      (case n_turns => k_is)
      (case n_caught => k_is)
      (case n_stands => k_is)
      (case n_timers => k_is)
      (case n_lines => k_is)
      (case n_beats => k_is)
      (case n_past => k_is)
      (case n_chip => k_is)
      (case n_rules => k_is)
      (case n_rows => k_is)
      (case m13 => refine' ⟨_, _, ⟨⟨?a, ?i, ?k⟩, fun_mk ?l ?c ?k2⟩⟩; (case a => k_is); (case i => k_is); (case k => k_is); (case l => k_is); (case c => k_is); (case k2 => k_is))
      (case m14 => refine' ⟨_, _, ⟨⟨?a, ?i, ?k⟩, fun_mk ?l ?c ?k2⟩⟩; (case a => k_is); (case i => k_is); (case k => k_is); (case l => k_is); (case c => k_is); (case k2 => k_is))
      (case m15 => refine' ⟨_, _, ⟨⟨?a, ?i, ?k⟩, fun_mk ?l ?c ?k2⟩⟩; (case a => k_is); (case i => k_is); (case k => k_is); (case l => k_is); (case c => k_is); (case k2 => k_is))
      (case m16 => refine' ⟨_, _, ⟨⟨?a, ?i, ?k⟩, fun_mk ?l ?c ?k2⟩⟩; (case a => k_is); (case i => k_is); (case k => k_is); (case l => k_is); (case c => k_is); (case k2 => k_is))
      (case m17 => refine' ⟨_, _, ⟨⟨?a, ?i, ?k⟩, fun_mk ?l ?c ?k2⟩⟩; (case a => k_is); (case i => k_is); (case k => k_is); (case l => k_is); (case c => k_is); (case k2 => k_is))
    case hChip =>
      refine' ⟨_, { cl := ⟨?ns, ⟨?pg, ?hd, ?po, ?sa⟩, ?mks, ?kp⟩, n_plan := ?n_plan, n_size := ?n_size, n_place := ?n_place, n_part := ?n_part, n_turns := ?n_turns, n_caught := ?n_caught, n_stands := ?n_stands, n_timers := ?n_timers, n_lines := ?n_lines, n_beats := ?n_beats, n_past := ?n_past, n_chip := ?n_chip, n_rules := ?n_rules, n_rows := ?n_rows, m19 := ?m19, m20 := ?m20, m21 := ?m21, m22 := ?m22, m23 := ?m23, m24 := ?m24, m25 := ?m25, m26 := ?m26, m28 := ?m28, m29 := ?m29, m30 := ?m30, m31 := ?m31, m32 := ?m32, m33 := ?m33, m34 := ?m34, m35 := ?m35, m36 := ?m36, m37 := ?m37, m38 := ?m38 }⟩
      (case ns => k_is)
      (case pg => k_is)
      (case hd => k_is)
      (case po => k_is)
      (case sa => k_is)
      (case mks => k_is)
      (case kp => k_is)
      (case n_plan => k_is)
      (case n_size => k_is)
      (case n_place => k_is)
      (case n_part => k_is)
      (case n_turns => k_is)
      (case n_caught => k_is)
      (case n_stands => k_is)
      (case n_timers => k_is)
      (case n_lines => k_is)
      (case n_beats => k_is)
      (case n_past => k_is)
      (case n_chip => k_is)
      (case n_rules => k_is)
      (case n_rows => k_is)
      (case m19 => refine' ⟨_, _, ⟨⟨?a, ?i, ?k⟩, fun_mk ?l ?c ?k2⟩⟩; (case a => k_is); (case i => k_is); (case k => k_is); (case l => k_is); (case c => k_is); (case k2 => k_is))
      (case m20 => refine' ⟨_, _, ⟨⟨?a, ?i, ?k⟩, fun_mk ?l ?c ?k2⟩⟩; (case a => k_is); (case i => k_is); (case k => k_is); (case l => k_is); (case c => k_is); (case k2 => k_is))
      (case m21 => refine' ⟨_, _, ⟨⟨?a, ?i, ?k⟩, fun_mk ?l ?c ?k2⟩⟩; (case a => k_is); (case i => k_is); (case k => k_is); (case l => k_is); (case c => k_is); (case k2 => k_is))
      (case m22 => refine' ⟨_, _, ⟨⟨?a, ?i, ?k⟩, fun_mk ?l ?c ?k2⟩⟩; (case a => k_is); (case i => k_is); (case k => k_is); (case l => k_is); (case c => k_is); (case k2 => k_is))
      (case m23 => refine' ⟨_, _, ⟨⟨?a, ?i, ?k⟩, fun_mk ?l ?c ?k2⟩⟩; (case a => k_is); (case i => k_is); (case k => k_is); (case l => k_is); (case c => k_is); (case k2 => k_is))
      (case m24 => refine' ⟨_, _, ⟨⟨?a, ?i, ?k⟩, fun_mk ?l ?c ?k2⟩⟩; (case a => k_is); (case i => k_is); (case k => k_is); (case l => k_is); (case c => k_is); (case k2 => k_is))
      (case m25 => refine' ⟨_, _, ⟨⟨?a, ?i, ?k⟩, fun_mk ?l ?c ?k2⟩⟩; (case a => k_is); (case i => k_is); (case k => k_is); (case l => k_is); (case c => k_is); (case k2 => k_is))
      (case m26 => refine' ⟨_, _, ⟨⟨?a, ?i, ?k⟩, fun_mk ?l ?c ?k2⟩⟩; (case a => k_is); (case i => k_is); (case k => k_is); (case l => k_is); (case c => k_is); (case k2 => k_is))
      (case m28 => refine' ⟨_, _, ⟨⟨?a, ?i, ?k⟩, fun_mk ?l ?c ?k2⟩⟩; (case a => k_is); (case i => k_is); (case k => k_is); (case l => k_is); (case c => k_is); (case k2 => k_is))
      (case m29 => refine' ⟨_, _, ⟨⟨?a, ?i, ?k⟩, fun_mk ?l ?c ?k2⟩⟩; (case a => k_is); (case i => k_is); (case k => k_is); (case l => k_is); (case c => k_is); (case k2 => k_is))
      (case m30 => refine' ⟨_, _, ⟨⟨?a, ?i, ?k⟩, fun_mk ?l ?c ?k2⟩⟩; (case a => k_is); (case i => k_is); (case k => k_is); (case l => k_is); (case c => k_is); (case k2 => k_is))
      (case m31 => refine' ⟨_, _, ⟨⟨?a, ?i, ?k⟩, fun_mk ?l ?c ?k2⟩⟩; (case a => k_is); (case i => k_is); (case k => k_is); (case l => k_is); (case c => k_is); (case k2 => k_is))
      (case m32 => refine' ⟨_, _, ⟨⟨?a, ?i, ?k⟩, fun_mk ?l ?c ?k2⟩⟩; (case a => k_is); (case i => k_is); (case k => k_is); (case l => k_is); (case c => k_is); (case k2 => k_is))
      (case m33 => refine' ⟨_, _, ⟨⟨?a, ?i, ?k⟩, fun_mk ?l ?c ?k2⟩⟩; (case a => k_is); (case i => k_is); (case k => k_is); (case l => k_is); (case c => k_is); (case k2 => k_is))
      (case m34 => refine' ⟨_, _, ⟨⟨?a, ?i, ?k⟩, fun_mk ?l ?c ?k2⟩⟩; (case a => k_is); (case i => k_is); (case k => k_is); (case l => k_is); (case c => k_is); (case k2 => k_is))
      (case m35 => refine' ⟨_, _, ⟨⟨?a, ?i, ?k⟩, fun_mk ?l ?c ?k2⟩⟩; (case a => k_is); (case i => k_is); (case k => k_is); (case l => k_is); (case c => k_is); (case k2 => k_is))
      (case m36 => refine' ⟨_, _, ⟨⟨?a, ?i, ?k⟩, fun_mk ?l ?c ?k2⟩⟩; (case a => k_is); (case i => k_is); (case k => k_is); (case l => k_is); (case c => k_is); (case k2 => k_is))
      (case m37 => refine' ⟨_, _, ⟨⟨?a, ?i, ?k⟩, fun_mk ?l ?c ?k2⟩⟩; (case a => k_is); (case i => k_is); (case k => k_is); (case l => k_is); (case c => k_is); (case k2 => k_is))
      (case m38 => refine' ⟨_, _, ⟨⟨?a, ?i, ?k⟩, fun_mk ?l ?c ?k2⟩⟩; (case a => k_is); (case i => k_is); (case k => k_is); (case l => k_is); (case c => k_is); (case k2 => k_is))
    case hE =>
      refine' ⟨_, _, _, _, _, _, _, _, _, _, ⟨?ns0, ?ex0, ?kp0, XF.top ?mro0 ?ty0 ?ga0 ?gt0 ?hd0 ?cl0⟩, ⟨?ns1, ?ex1, ?kp1, XF.low ?mro1 ?ty1 ?ga1 ?gt1 ?hd1 ?cl1⟩, ⟨?ns2, ?ex2, ?kp2, XF.low ?mro2 ?ty2 ?ga2 ?gt2 ?hd2 ?cl2⟩, ⟨?ns3, ?ex3, ?kp3, XF.low ?mro3 ?ty3 ?ga3 ?gt3 ?hd3 ?cl3⟩, ⟨?ns4, ?ex4, ?kp4, XF.low ?mro4 ?ty4 ?ga4 ?gt4 ?hd4 ?cl4⟩, ⟨?ns5, ?ex5, ?kp5, XF.low ?mro5 ?ty5 ?ga5 ?gt5 ?hd5 ?cl5⟩, ⟨?ns6, ?ex6, ?kp6, XF.low ?mro6 ?ty6 ?ga6 ?gt6 ?hd6 ?cl6⟩, ⟨?ns7, ?ex7, ?kp7, XF.low ?mro7 ?ty7 ?ga7 ?gt7 ?hd7 ?cl7⟩, ⟨?ns8, ?ex8, ?kp8, XF.low ?mro8 ?ty8 ?ga8 ?gt8 ?hd8 ?cl8⟩, ⟨?ns9, ?ex9, ?kp9, XF.low ?mro9 ?ty9 ?ga9 ?gt9 ?hd9 ?cl9⟩, ?nd⟩
      (case ns0 => k_is)
      (case ns1 => k_is)
      (case ns2 => k_is)
      (case ns3 => k_is)
      (case ns4 => k_is)
      (case ns5 => k_is)
      (case ns6 => k_is)
      (case ns7 => k_is)
      (case ns8 => k_is)
      (case ns9 => k_is)
      (case ex0 => k_exc)
      (case kp0 => first | k_is | rfl)
      (case mro0 => first | k_is | rfl)
      (case ty0 => first | k_is | rfl)
      (case ga0 => first | k_is | rfl)
      (case gt0 => first | k_is | rfl)
      (case hd0 => first | k_is | rfl)
      (case cl0 => first | k_is | rfl)
      (case ex1 => k_exc)
      (case kp1 => first | k_is | rfl)
      (case mro1 => first | k_is | rfl)
      (case ty1 => first | k_is | rfl)
      (case ga1 => first | k_is | rfl)
      (case gt1 => first | k_is | rfl)
      (case hd1 => first | k_is | rfl)
      (case cl1 => first | k_is | rfl)
      (case ex2 => k_exc)
      (case kp2 => first | k_is | rfl)
      (case mro2 => first | k_is | rfl)
      (case ty2 => first | k_is | rfl)
      (case ga2 => first | k_is | rfl)
      (case gt2 => first | k_is | rfl)
      (case hd2 => first | k_is | rfl)
      (case cl2 => first | k_is | rfl)
      (case ex3 => k_exc)
      (case kp3 => first | k_is | rfl)
      (case mro3 => first | k_is | rfl)
      (case ty3 => first | k_is | rfl)
      (case ga3 => first | k_is | rfl)
      (case gt3 => first | k_is | rfl)
      (case hd3 => first | k_is | rfl)
      (case cl3 => first | k_is | rfl)
      (case ex4 => k_exc)
      (case kp4 => first | k_is | rfl)
      (case mro4 => first | k_is | rfl)
      (case ty4 => first | k_is | rfl)
      (case ga4 => first | k_is | rfl)
      (case gt4 => first | k_is | rfl)
      (case hd4 => first | k_is | rfl)
      (case cl4 => first | k_is | rfl)
      (case ex5 => k_exc)
      (case kp5 => first | k_is | rfl)
      (case mro5 => first | k_is | rfl)
      (case ty5 => first | k_is | rfl)
      (case ga5 => first | k_is | rfl)
      (case gt5 => first | k_is | rfl)
      (case hd5 => first | k_is | rfl)
      (case cl5 => first | k_is | rfl)
      (case ex6 => k_exc)
      (case kp6 => first | k_is | rfl)
      (case mro6 => first | k_is | rfl)
      (case ty6 => first | k_is | rfl)
      (case ga6 => first | k_is | rfl)
      (case gt6 => first | k_is | rfl)
      (case hd6 => first | k_is | rfl)
      (case cl6 => first | k_is | rfl)
      (case ex7 => k_exc)
      (case kp7 => first | k_is | rfl)
      (case mro7 => first | k_is | rfl)
      (case ty7 => first | k_is | rfl)
      (case ga7 => first | k_is | rfl)
      (case gt7 => first | k_is | rfl)
      (case hd7 => first | k_is | rfl)
      (case cl7 => first | k_is | rfl)
      (case ex8 => k_exc)
      (case kp8 => first | k_is | rfl)
      (case mro8 => first | k_is | rfl)
      (case ty8 => first | k_is | rfl)
      (case ga8 => first | k_is | rfl)
      (case gt8 => first | k_is | rfl)
      (case hd8 => first | k_is | rfl)
      (case cl8 => first | k_is | rfl)
      (case ex9 => k_exc)
      (case kp9 => first | k_is | rfl)
      (case mro9 => first | k_is | rfl)
      (case ty9 => first | k_is | rfl)
      (case ga9 => first | k_is | rfl)
      (case gt9 => first | k_is | rfl)
      (case hd9 => first | k_is | rfl)
      (case cl9 => first | k_is | rfl)
      (case nd => decide)
    case hsp =>
      first | k_is | rfl
    case htk =>
      first | k_is | rfl
    case kk0 =>
      refine' ⟨_, ⟨?c1⟩⟩
      (case c1 => k_is)
    case kk1 =>
      refine' ⟨_, ⟨?c1⟩⟩
      (case c1 => k_is)
    case kk2 =>
      refine' ⟨_, ⟨?c1⟩⟩
      (case c1 => k_is)
    case kk3 =>
      refine' ⟨_, ⟨?c1⟩⟩
      (case c1 => k_is)
    case kk4 =>
      refine' ⟨_, ⟨?c1⟩⟩
      (case c1 => k_is)
    case kk5 =>
      refine' ⟨_, _, _, _, _, ⟨?c1, ?c2, ?c3, ?c4⟩⟩
      (case c1 => k_is)
      (case c2 => k_is)
      (case c3 => decide)
      (case c4 => exact .cons ⟨_, rfl⟩ (.cons ⟨_, rfl⟩ (.cons ⟨_, rfl⟩ (.nil))))
    case kk6 =>
      refine' ⟨_, ⟨?c1⟩⟩
      (case c1 => k_is)
    case kk7 =>
      refine' ⟨_, ⟨?c1⟩⟩
      (case c1 => k_is)
    case kk12 =>
      refine' ⟨_, ⟨?c1⟩⟩
      (case c1 => k_is)
    case kk13 =>
      refine' ⟨_, ⟨?c1⟩⟩
      (case c1 => k_is)
    case kk14 =>
      refine' ⟨_, ⟨?c1⟩⟩
      (case c1 => k_is)
    case kk15 =>
      refine' ⟨_, ⟨?c1⟩⟩
      (case c1 => k_is)
    case kk16 =>
      refine' ⟨_, ⟨?c1⟩⟩
      (case c1 => k_is)
    case kk17 =>
      refine' ⟨_, ⟨?c1⟩⟩
      (case c1 => k_is)
    case kk18 =>
      refine' ⟨_, ⟨?c1⟩⟩
      (case c1 => k_is)
    case z0 =>
      k_is
    case z1 =>
      k_is
    case z2 =>
      k_is
    case z3 =>
      k_is
    case z4 =>
      k_is
    case z5 =>
      k_is
    case z6 =>
      k_is
    case z7 =>
      k_is
    case z8 =>
      k_is
    case z9 =>
      k_is
    case z10 =>
      k_is
    case z11 =>
      k_is
    case z12 =>
      k_is
    case z13 =>
      k_is
    case z14 =>
      k_is
    case z15 =>
      k_is
    case z16 =>
      k_is
end K44

theorem PySem.Challenge.cw_beatchips_k44_refused_spans_holds : PySem.Challenge.rw_beatchips_k44_refused_spans.Holds :=
  K44.go
#print axioms PySem.Challenge.cw_beatchips_k44_refused_spans_holds

