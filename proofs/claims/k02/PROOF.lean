import PyProof.Rows.All
import HandS.ForMost
import PyProof.ReprReads
import HandS.ForExc
import HandS.Style
import HandS.Wide
import HandS.WideBits
import HandS.SortInts
import HandS.CallSlots
import PyProof.P3In
import HandS.Ends
import HandS.WordsExc
import HandS.IsInst
import HandS.Conv
import PyProof.ReprRoads
import HandS.More
import HandS.Small
import HandS.TupSets
import HandS.Flow
import HandS.TupAny
import HandS.SetFor
import HandS.Dict
import HandS.WideMore
import KE.GoesEnum
import KE.KDictZip
import HandS.Strs
import HandS.Zip
import HandS.Iter
import HandS.Star
import HandS.DictSubView
import HandS.DictComp
import HandS.TryOnly
import HandS.ExcField
import HandS.ExcInit
import HandS.Words
import HandS.EndBits
import HandS.Codes
import PySem.Challenge.RW_broughtin_k02_clubs_that_cannot_be
set_option Elab.async false
set_option linter.all false
set_option maxRecDepth 100000
set_option maxHeartbeats 4000000
/-! The little Python: data, states, and what its expressions and statements do. -/
namespace G4
open PySem L2

/-- data: by value; obj n: the n-th object of the store; fn x: a def or class of the text, by its name -/
inductive D where
  | non | bl (b : Bool) | int (i : Int) | str (x : Str)
  | tup (l : List D) | lst (l : List D) | dct (l : List (Key × D))
  | obj (n : Nat) | fn (x : Str) | scr (l : List Int)
/-- an object that may be written -/
inductive Cell where
  | lst (l : List D) | dK (l : List (Key × D)) | dT (l : List (List Key × D)) | set (l : List Int) | ins (c : Str) (fs : List (Str × D))
/-- a local name's place -/
inductive SV where
  | un | d (x : D) | own (c : Cell)
structure S where
  sl : List SV
  st : List Cell
/-- what an expression gives: a datum; an object made just now; the object of a local name -/
inductive R where
  | d (x : D) | new (c : Cell) | pl (i : Nat)
structure Exn where
  c : Str
  fs : List (Str × D)
inductive O (α : Type) where
  | ok (a : α) (s : S) | ex (e : Exn) (s : S) | bad
def O.bind {α β : Type} : O α → (α → S → O β) → O β
  | .ok a s, f => f a s
  | .ex e s, _ => .ex e s
  | .bad, _ => .bad
inductive FO where
  | ok (r : R) (st : List Cell) | ex (e : Exn) (st : List Cell) | bad
abbrev Fn := List D → List Cell → FO

def strOk (x : Str) : Bool := x.cps.all (· < 0x110000)
mutual
/-- plain data, not deeper than n -/
def D.plainN : Nat → D → Bool
  | _, .non => true
  | _, .bl _ => true
  | _, .int _ => true
  | _, .str x => strOk x
  | n + 1, .tup l => D.plainsN n l
  | n + 1, .lst l => D.plainsN n l
  | _, _ => false
def D.plainsN : Nat → List D → Bool
  | _, [] => true
  | n, d :: l => D.plainN n d && D.plainsN n l
end
abbrev D.plain (d : D) : Bool := D.plainN 60 d
abbrev D.plains (l : List D) : Bool := D.plainsN 60 l
mutual
/-- no objects of the store within -/
def D.pure : D → Bool
  | .non => true
  | .bl _ => true
  | .int _ => true
  | .str _ => true
  | .tup l => D.pures l
  | .lst l => D.pures l
  | .dct l => D.pureK l
  | .obj _ => false
  | .fn _ => true
  | .scr _ => true
def D.pures : List D → Bool
  | [] => true
  | d :: l => d.pure && D.pures l
def D.pureK : List (Key × D) → Bool
  | [] => true
  | (_, d) :: l => d.pure && D.pureK l
end
def b2i (b : Bool) : Int := if b then 1 else 0
mutual
/-- == of plain data -/
def D.eqv : D → D → Bool
  | .non, .non => true
  | .bl a, .bl b => a == b
  | .bl a, .int j => b2i a == j
  | .int i, .bl b => i == b2i b
  | .int i, .int j => i == j
  | .str x, .str y => decide (x = y)
  | .tup a, .tup b => D.eqvs a b
  | .lst a, .lst b => D.eqvs a b
  | _, _ => false
def D.eqvs : List D → List D → Bool
  | [], [] => true
  | a :: l, b :: m => D.eqv a b && D.eqvs l m
  | _, _ => false
end
def Cell.view : Cell → Option D
  | .lst l => some (.lst l)
  | .dK l => some (.dct l)
  | _ => none
def Cell.pure : Cell → Bool
  | .lst l => D.pures l
  | .dK l => D.pureK l
  | .dT l => D.pures (l.map (·.2))
  | .set _ => true
  | .ins _ fs => D.pures (fs.map (·.2))
/-- the datum at a place, as it stands -/
def S.rdD (s : S) : D → Option D
  | .obj n => (s.st[n]?).bind Cell.view
  | x => some x
def S.rd (s : S) : R → Option D
  | .d x => s.rdD x
  | .new c => c.view
  | .pl i => match s.sl[i]? with
    | some (.own c) => c.view
    | some (.d x) => s.rdD x
    | _ => none
/-- it is kept: from here on it stays as it is -/
def S.fz (s : S) : R → Option (D × S)
  | .d x => some (x, s)
  | .new c => c.view.map fun x => (x, s)
  | .pl i => match s.sl[i]? with
    | some (.own c) => c.view.map fun x => (x, { s with sl := s.sl.set i (.d x) })
    | some (.d x) => some (x, s)
    | _ => none
/-- an operand: what was made just now is kept -/
def R.settle : R → Option R
  | .new c => c.view.map .d
  | r => some r
def lim (α : Type) : Option α → S → O α
  | some a, s => .ok a s
  | none, _ => .bad
def O.ofOpt {α : Type} : Option α → S → O α
  | some a, s => .ok a s
  | none, _ => .bad
def O.val (o : O R) : O D := o.bind fun r s => match s.fz r with
  | some (x, s) => .ok x s
  | none => .bad
def O.opd (o : O R) : O R := o.bind fun r s => .ofOpt r.settle s

abbrev big : Nat := 16777216
/-- truth -/
def D.tru : D → Option Bool
  | .non => some false
  | .bl b => some b
  | .int i => some (i != 0)
  | .str x => if x.length ≤ big then some ((x.length : Int) != 0) else none
  | .tup l => some (!l.isEmpty)
  | .lst l => some (!l.isEmpty)
  | .dct l => some (!l.isEmpty)
  | _ => none

/-- a list, so many times -/
def repD (n : Nat) (a : List D) : List D := (List.replicate n a).flatten
/-- an int of less than 62 bits -/
def small (i : Int) : Bool := decide (i.natAbs.log2 < 62)
theorem small_iff {i : Int} (h : small i = true) : -(2 ^ 62) ≤ i ∧ i < 2 ^ 62 := by
  have h : i.natAbs.log2 < 62 := of_decide_eq_true h
  by_cases z : i.natAbs = 0
  · omega
  · have := (Nat.log2_lt z).mp h
    omega
/-! ### operators by values -/
def opBin : Operator → D → D → Option R
  | .Add, .int i, .int j => some (.d (.int (i + j)))
  | .Add, .str x, .str y => if x.length + y.length ≤ big then some (.d (.str (x ++ y))) else none
  | .Add, .lst a, .lst b => if a.length + b.length ≤ big then some (.new (.lst (a ++ b))) else none
  | .Sub, .int i, .int j => some (.d (.int (i - j)))
  | .Mult, .int i, .int j => if i.natAbs.log2 + j.natAbs.log2 < 1000000 then some (.d (.int (i * j))) else none
  | .Mult, .lst a, .int k => if a.length * k.toNat ≤ big ∧ small k = true then some (.new (.lst (repD k.toNat a))) else none
  | .FloorDiv, .int i, .int j => if 0 < j ∧ j.natAbs.log2 < 9000 then some (.d (.int (i / j))) else none
  | .Mod, .int i, .int j => if 0 < j then some (.d (.int (i % j))) else none
  | .Pow, .int i, .int j => if 0 ≤ j ∧ (Builtin.Int.intBits i : Int) * j ≤ 2 ^ 27 then some (.d (.int (i ^ j.toNat))) else none
  | .LShift, .int i, .int j => if 0 ≤ j ∧ (Builtin.Int.intBits i : Int) + j ≤ 2 ^ 27 then some (.d (.int (i * 2 ^ j.toNat))) else none
  | .RShift, .int i, .int j => if 0 ≤ j then some (.d (.int (i / 2 ^ j.toNat))) else none
  | .BitAnd, .int i, .int j => some (.d (.int (Builtin.bitAnd i j)))
  | .BitOr, .int i, .int j => some (.d (.int (Builtin.bitOr i j)))
  | _, _, _ => none
def D.mem (x : D) (l : List D) : Bool := l.any fun y => D.eqv y x
def opIn : D → D → Option Bool
  | x, .lst l => if x.plain && D.plains l then some (D.mem x l) else none
  | x, .tup l => if x.plain && D.plains l then some (D.mem x l) else none
  | .str x, .str y => some (!(Builtin.Str.occurrences y x 0 y.length 1).isEmpty)
  | _, _ => none
def D.isNon : D → Bool
  | .non => true
  | _ => false
def opIs : D → D → Option Bool
  | x, .non => some x.isNon
  | .bl a, .bl b => some (decide (a = b))
  | _, _ => none
/-- ==: two texts as they are, else plain data -/
def opEq : D → D → Option Bool
  | .str x, .str y => some (decide (x = y))
  | a, b => if a.plain && b.plain then some (a.eqv b) else none
theorem opEq_cases {a b : D} {k : Bool} (h : opEq a b = some k) : (∃ x y, a = .str x ∧ b = .str y ∧ k = decide (x = y)) ∨ (a.plain = true ∧ b.plain = true ∧ k = a.eqv b) := by
  unfold opEq at h
  split at h
  · cases h
    exact .inl ⟨_, _, rfl, rfl, rfl⟩
  · split at h
    · rename_i hp
      rw [Bool.and_eq_true] at hp
      cases h
      exact .inr ⟨hp.1, hp.2, rfl⟩
    · cases h
def opCmp : CmpOp → D → D → Option Bool
  | .Eq, a, b => opEq a b
  | .NotEq, a, b => (opEq a b).map (!·)
  | .Lt, .int i, .int j => some (decide (i < j))
  | .LtE, .int i, .int j => some (decide (i ≤ j))
  | .Gt, .int i, .int j => some (decide (j < i))
  | .GtE, .int i, .int j => some (decide (j ≤ i))
  | .In, a, b => opIn a b
  | .NotIn, a, b => (opIn a b).map (!·)
  | .Is, a, b => opIs a b
  | .IsNot, a, b => (opIs a b).map (!·)
  | _, _, _ => none
def atD (xs : List D) (i : Int) : Option D := atI xs i
/-- keys of dicts -/
def keyOf : D → Option Key
  | .int i => some (.inl i)
  | .str x => some (.inr x)
  | _ => none
def lookK (l : List (Key × D)) (k : Key) : Option D := (l.find? fun kv => decide (kv.1 = k)).map (·.2)
def putD (l : List (Key × D)) (k : Key) (x : D) : List (Key × D) :=
  if (l.any fun kv => decide (kv.1 = k)) = true then l.map (fun kv => if kv.1 = k then (kv.1, x) else kv) else l ++ [(k, x)]
def opIx : D → D → Option D
  | .lst l, .int i => atI l i
  | .tup l, .int i => atI l i
  | .scr l, .int i => (atI l i).map .int
  | .str x, .int i => if x.length ≤ big then (atI x.cps.toList i).map fun c => .str ⟨#[c]⟩ else none
  | _, _ => none
def cut {α : Type} (xs : List α) (lo hi : Option Int) : List α := (xs.drop (HT.sIx xs.length 0 lo)).take (HT.sIx xs.length xs.length hi - HT.sIx xs.length 0 lo)
def opSl : D → Option Int → Option Int → Option R
  | .lst l, lo, hi => some (.new (.lst (cut l lo hi)))
  | .scr l, lo, hi => some (.new (.lst ((cut l lo hi).map .int)))
  | .tup l, lo, hi => some (.d (.tup (cut l lo hi)))
  | _, _, _ => none
end G4

namespace G4
open PySem L2

inductive T where
  | nm (i : Nat) | tp (l : List T)
inductive Bi where
  | len | toInt | abs | max2 | min2 | maxL | minL | sum | sorted | all | any | list | tuple | repr | toStr | set
  deriving DecidableEq
inductive Mt where
  | append | extend | pop | insert | count | index | get | split | join
  deriving DecidableEq
inductive Ty where
  | int | bool | str | list | tuple | dict | none
  deriving DecidableEq
mutual
inductive E where
  | var (i : Nat) | glo (x : Str) (d : D) | int (i : Int) | str (x : Str) | bl (b : Bool) | non
  | bin (o : Operator) (a b : E) | neg (a : E) | not (a : E)
  | and (a b : E) | or (a b : E)
  | ifx (c a b : E)
  | cmp (o : CmpOp) (a b : E) | cmp2 (o u : CmpOp) (a b c : E) | cmp3 (o u v : CmpOp) (a b c d : E)
  | tup (es : Es) | lst (es : Es) | dnil
  | ix (a b : E) | sl (a : E) (lo hi : EO) | rev (a : E)
  | lc (own : List (Str × Nat)) (e : E) (g : T) (src : Src) (c : EO)
  | call (x : Str) (F : Fn) (es : Es)
  | callk (x : Str) (F : Fn) (pm : List Nat) (ks : List Str) (ws : Es)
  | bi (b : Bi) (es : Es)
  | isi (a : E) (ts : List Ty)
  | mt (m : Mt) (a : E) (es : Es)
  | mu (m : Mt) (a : E) (es : Es)
  | alc (e : E)
  | sset (e : E) | zip3 (a b c : E)
  | dget (a k d : E) | dix (a k : E) | dead
  | rpd (e : E) | lset (e : E) | lrng (a b d : E) | mov (i : Nat) | callb (x : Str) (F : Fn) (i : Nat) | lend (is : List Nat) (e : E)
  | bits (e : E) | maxv (e : E) | dne (e : E) | starT (x a : E) | starL (x a : E) | starR (a y : E)
inductive Es where
  | nil | cons (e : E) (r : Es)
inductive EO where
  | no | so (e : E)
inductive Src where
  | seq (e : E) | rng1 (a : E) | rng2 (a b : E) | enum (e : E) | zip (a b : E)
end
inductive Tg where
  | nm (i : Nat) | sub (a i : E)
/-- what an except clause does: x = True, False; with as: x = (e.f, ..), return (e.f, ..) -/
inductive Hd where
  | setB (i : Nat) (k : Bool) | setT (j i : Nat) (f g : Str) | retT (j : Nat) (f g : Str)
mutual
inductive Sm where
  | pass | expr (e : E) | set (i : Nat) (e : E) | par (l : List Nat) (es : Es) | unp (t : T) (e : E)
  | aug (i : Nat) (o : Operator) (e : E) | parT (l : List Tg) (es : Es)
  | setix (a b e : E)
  | ifs (c : E) (a b : Sms) | whl (n : Nat) (c : E) (b : Sms) | fors (t : T) (src : Src) (b : Sms)
  | ret (e : E) | retN | brk | cont
  | rais (c : Str) (m : Str) | raisO (c f g : Str) (es : Es) | tryc (b : Sms) (c : Str) (h : Hd) | dead | unpO (l : List Nat) (e : E) | augs (a i : E) (o : Operator) (e : E)
inductive Sms where
  | nil | cons (a : Sm) (r : Sms)
end

def Es.len : Es → Nat
  | .nil => 0
  | .cons _ r => r.len + 1
def S.cell (s : S) : R → Option Cell
  | .new c => some c
  | .pl i => match s.sl[i]? with
    | some (.own c) => some c
    | some (.d (.obj n)) => s.st[n]?
    | _ => none
  | .d (.obj n) => s.st[n]?
  | _ => none
/-- an object is written -/
def S.put (s : S) (c : Cell) : R → Option S
  | .pl i => match s.sl[i]? with
    | some (.own _) => some { s with sl := s.sl.set i (.own c) }
    | some (.d (.obj n)) => if c.pure then some { s with st := s.st.set n c } else none
    | _ => none
  | .d (.obj n) => if c.pure then some { s with st := s.st.set n c } else none
  | _ => none
/-- a name is given a value -/
def S.store (s : S) (i : Nat) : R → Option S
  | .d x => some { s with sl := s.sl.set i (.d x) }
  | .new c => some { s with sl := s.sl.set i (.own c) }
  | .pl j => (s.fz (.pl j)).map fun (x, s) => { s with sl := s.sl.set i (.d x) }
mutual
def T.asg : T → D → S → Option S
  | .nm i, x, s => some { s with sl := s.sl.set i (.d x) }
  | .tp l, .tup xs, s => if xs.length = l.length then T.asgs l xs s else none
  | _, _, _ => none
def T.asgs : List T → List D → S → Option S
  | [], [], s => some s
  | t :: l, x :: xs, s => (T.asg t x s).bind fun s => T.asgs l xs s
  | _, _, _ => none
end
mutual
def T.ixs : T → List Nat
  | .nm i => [i]
  | .tp l => T.ixss l
def T.ixss : List T → List Nat
  | [] => []
  | t :: l => T.ixs t ++ T.ixss l
end
def D.isInt : D → Option Int
  | .int i => some i
  | _ => none
def D.isBl : D → Option Bool
  | .bl i => some i
  | _ => none
def intsD : List D → Option (List Int)
  | [] => some []
  | .int i :: l => (intsD l).map (i :: ·)
  | _ => none
def blsD : List D → Option (List Bool)
  | [] => some []
  | .bl i :: l => (blsD l).map (i :: ·)
  | _ => none
def isort (l : List Int) : List Int := l.mergeSort (fun a b => decide (a ≤ b))
def maxI : Int → List Int → Int
  | a, [] => a
  | a, b :: l => maxI (if b > a then b else a) l
def minI : Int → List Int → Int
  | a, [] => a
  | a, b :: l => minI (if b < a then b else a) l
/-- built-in functions by values -/
def biLen : List D → Option R
  | [.lst l] => some (.d (.int l.length))
  | [.scr l] => some (.d (.int l.length))
  | [.tup l] => some (.d (.int l.length))
  | [.str x] => if x.length ≤ big then some (.d (.int x.length)) else none
  | _ => none
def biInt : List D → Option R
  | [.int i] => some (.d (.int i))
  | [.bl b] => some (.d (.int (b2i b)))
  | _ => none
def biAbs : List D → Option R
  | [.int i] => some (.d (.int (if i < 0 then -i else i)))
  | _ => none
def biMax2 : List D → Option R
  | [.int i, .int j] => some (.d (.int (if j > i then j else i)))
  | _ => none
def biMin2 : List D → Option R
  | [.int i, .int j] => some (.d (.int (if j < i then j else i)))
  | _ => none
def biMaxL : List D → Option R
  | [.lst l] => match intsD l with
    | some (i :: r) => some (.d (.int (maxI i r)))
    | _ => none
  | _ => none
def biMinL : List D → Option R
  | [.lst l] => match intsD l with
    | some (i :: r) => some (.d (.int (minI i r)))
    | _ => none
  | _ => none
def biSum : List D → Option R
  | [.lst l] => (intsD l).map fun ns => .d (.int ns.sum)
  | _ => none
def keysI : List (Key × D) → Option (List Int)
  | [] => some []
  | (.inl i, _) :: l => (keysI l).map (i :: ·)
  | _ => none
/-- tuples of ints -/
def tupsD : List D → Option (List (List Int))
  | [] => some []
  | .tup t :: l => (intsD t).bind fun n => (tupsD l).map (n :: ·)
  | _ => none
def tupD (n : List Int) : D := .tup (n.map .int)
/-- tuples compared -/
def tle : List Int → List Int → Bool
  | [], _ => true
  | _ :: _, [] => false
  | a :: l, b :: m => decide (a < b) || (decide (a = b) && tle l m)
def tsort (ns : List (List Int)) : List (List Int) := ns.mergeSort tle
def okT (d : Nat) (ns : List (List Int)) : Bool := decide (1 ≤ d) && decide (ns.length < 64) && ns.all fun n => decide (n.length = d) && n.all fun i => decide (0 ≤ i)
def sortT (ns : List (List Int)) : Option R := if okT (ns.headD []).length ns then some (.new (.lst ((tsort ns).map tupD))) else none
def sortL (l : List D) : Option R := match intsD l with
  | some ns => some (.new (.lst ((isort ns).map .int)))
  | none => (tupsD l).bind sortT
def biSorted : List D → Option R
  | [.dct l] => (keysI l).bind fun ns => if ns.length < 64 then some (.new (.lst ((isort ns).map .int))) else none
  | [.lst l] => sortL l
  | _ => none
def biAll : List D → Option R
  | [.lst l] => (blsD l).map fun ns => .d (.bl (ns.all id))
  | _ => none
def biAny : List D → Option R
  | [.lst l] => (blsD l).map fun ns => .d (.bl (ns.any id))
  | _ => none
def biList : List D → Option R
  | [.lst l] => some (.new (.lst l))
  | [.tup l] => some (.new (.lst l))
  | _ => none
def biTuple : List D → Option R
  | [.lst l] => some (.d (.tup l))
  | [.tup l] => some (.d (.tup l))
  | _ => none
mutual
/-- as a datum of the kit -/
def toPD : D → PyData
  | .non => .none
  | .bl b => .bool b
  | .int i => .int i
  | .str x => .str x
  | .tup l => .tuple (toPDs l)
  | .lst l => .list (toPDs l)
  | .dct _ => .none
  | .obj _ => .none
  | .fn _ => .none
  | .scr _ => .none
def toPDs : List D → List PyData
  | [] => []
  | d :: l => toPD d :: toPDs l
end
mutual
/-- no more signs than that in its repr -/
def D.cost : D → Nat
  | .int i => i.natAbs.log2 + 3
  | .str x => (reprText x).length
  | .tup l => D.costs l + 3
  | .lst l => D.costs l + 2
  | _ => 5
def D.costs : List D → Nat
  | [] => 0
  | d :: l => D.cost d + 2 + D.costs l
end
mutual
/-- every int can be told -/
def D.shows : D → Bool
  | .int i => decide (i.natAbs.log2 < 1920)
  | .tup l => D.showss l
  | .lst l => D.showss l
  | _ => true
def D.showss : List D → Bool
  | [] => true
  | d :: l => d.shows && D.showss l
end
def D.isSeq : D → Bool
  | .tup _ => true
  | .lst _ => true
  | _ => false
def reprD : D → Option Str
  | .non => some "None"
  | .bl b => some (if b then "True" else "False")
  | .int i => if i.natAbs.log2 < 1920 then some (toString i : String) else none
  | .str x => if (reprText x).length ≤ big then some (reprText x) else none
  | .tup l => if D.plainsN 59 l && D.showss l && decide (D.costs l + 3 ≤ big) then some (toPD (.tup l)).shown else none
  | .lst l => if D.plainsN 59 l && D.showss l && decide (D.costs l + 2 ≤ big) then some (toPD (.lst l)).shown else none
  | .dct l => if l.isEmpty then some (PyData.dict []).shown else none
  | _ => none
def biRepr : List D → Option R
  | [x] => (reprD x).map fun s => .d (.str s)
  | _ => none
def biSem : Bi → List D → Option R
  | .len => biLen
  | .toInt => biInt
  | .abs => biAbs
  | .max2 => biMax2
  | .min2 => biMin2
  | .maxL => biMaxL
  | .minL => biMinL
  | .sum => biSum
  | .sorted => biSorted
  | .all => biAll
  | .any => biAny
  | .list => biList
  | .tuple => biTuple
  | .repr => biRepr
  | _ => fun _ => none
def D.kind : D → Option Ty
  | .non => some .none
  | .bl _ => some .bool
  | .int _ => some .int
  | .str _ => some .str
  | .tup _ => some .tuple
  | .lst _ => some .list
  | .dct _ => some .dict
  | .scr _ => some .list
  | .obj _ => none
  | .fn _ => none
def Ty.sub (a b : Ty) : Bool := decide (a = b) || (decide (a = .bool) && decide (b = .int))
/-- methods that read -/
def D.flat : D → Bool
  | .non => true
  | .bl _ => true
  | .int _ => true
  | .str _ => true
  | _ => false
def mtCount : D → List D → Option R
  | .lst l, [x] => if x.flat && l.all D.flat then some (.d (.int (l.countP fun y => D.eqv y x))) else none
  | _, _ => none
def mtIdx : D → List D → Option R
  | .lst l, [x] => if x.flat && l.all D.flat then (l.findIdx? fun y => D.eqv y x).map (fun (j : Nat) => R.d (D.int (j : Int))) else none
  | _, _ => none
def mtSem : Mt → D → List D → Option R
  | .count => mtCount
  | .index => mtIdx
  | _ => fun _ _ => none
/-- methods that write: the answer and the object behind -/
def muApp : Cell → List D → Option (R × Cell)
  | .lst l, [x] => if l.length < big then some (.d .non, .lst (l ++ [x])) else none
  | _, _ => none
def muExt : Cell → List D → Option (R × Cell)
  | .lst l, [.lst r] => if l.length + r.length ≤ big then some (.d .non, .lst (l ++ r)) else none
  | _, _ => none
def muPop : Cell → List D → Option (R × Cell)
  | .lst l, [.int i] => match ixN l.length i with
    | some k => match l[k]? with
      | some x => if small i = true then some (.d x, .lst (l.eraseIdx k)) else none
      | none => none
    | none => none
  | _, _ => none
def muIns : Cell → List D → Option (R × Cell)
  | .lst l, [.int i, x] => if 0 ≤ i ∧ small i = true ∧ l.length < big then some (.d .non, .lst (l.take i.toNat ++ [x] ++ l.drop i.toNat)) else none
  | _, _ => none
def muSem : Mt → Cell → List D → Option (R × Cell)
  | .append => muApp
  | .insert => muIns
  | .extend => muExt
  | .pop => muPop
  | _ => fun _ _ => none
def setIx : Cell → D → D → Option Cell
  | .dK l, k, x => if l.length < big then (keyOf k).map fun k => .dK (putD l k x) else none
  | .lst l, .int i, x => (ixN l.length i).map fun k => .lst (l.set k x)
  | _, _, _ => none
def enumFrom : Nat → List D → List D
  | _, [] => []
  | k, x :: l => .tup [.int k, x] :: enumFrom (k + 1) l
def zip3D : List D → List D → List D → List D
  | x :: l, y :: m, z :: n => .tup [x, y, z] :: zip3D l m n
  | _, _, _ => []
/-- each number once -/
def dd : List Int → List Int
  | [] => []
  | a :: l => if a ∈ l then dd l else a :: dd l
def dneB : D → Option Bool
  | .dct l => some (!l.isEmpty)
  | _ => none
def valsI : List (Key × D) → Option (List Int)
  | [] => some []
  | (_, .int i) :: l => (valsI l).map (i :: ·)
  | _ => none
def maxvD : D → Option R
  | .dct l => match valsI l with
    | some (n :: ns) => some (.d (.int (maxI n ns)))
    | _ => none
  | _ => none
def ssetD : D → Option R
  | .lst l => match intsD l with
    | some ns => if ns.length < 64 then some (.new (.lst ((isort (dd ns)).map .int))) else if (decide (ns.length < 4000) && decide ((dd ns).length < 64)) = true then some (.new (.lst ((isort (dd ns)).map .int))) else none
    | none => none
  | _ => none
def lsetD : D → Option R
  | .lst l => match intsD l with
    | some ns => if ns.Nodup ∧ ns.length ≤ 1000 then some (.d (.int ns.length)) else none
    | none => none
  | _ => none
def downL (a b : Int) : List Int := (List.range (a - b).toNat).map fun i => a - (i : Nat)
def lrngD : D → D → D → Option R
  | .int i, .int j, .int k => if (decide (i.natAbs.log2 < 61) && decide (j.natAbs.log2 < 61) && (k == -1) && decide ((i - j).toNat ≤ 1000000)) = true then some (.new (.lst ((downL i j).map .int))) else none
  | _, _, _ => none
def bitsD : D → Option R
  | .int i => some (.d (.int (Builtin.Int.intBits i : Nat)))
  | _ => none
def D.items : D → Option (List D)
  | .lst l => some l
  | .tup l => some l
  | _ => none
def starTD (x y : D) : Option R := y.items.bind fun l => if l.length < 1000 then some (.d (.tup (x :: l))) else none
def starLD (x y : D) : Option R := y.items.bind fun l => if l.length < 1000 then some (.new (.lst (x :: l))) else none
def starRD (l : List D) (x : D) : Option R := if l.length < 1000 then some (.new (.lst (l ++ [x]))) else none
def zipD : List D → List D → List D
  | x :: l, y :: r => .tup [x, y] :: zipD l r
  | _, _ => []
def rangeD (a : Int) : Nat → List D
  | 0 => []
  | n + 1 => .int a :: rangeD (a + 1) n
def rng1Sem : List D → Option (List D)
  | [.int j] => if small j then some (rangeD 0 j.toNat) else none
  | _ => none
def rng2Sem : List D → Option (List D)
  | [.int i, .int j] => if small i && small j then some (rangeD i (j - i).toNat) else none
  | _ => none
/-- the slots of a comprehension's names forgotten, and brought back -/
def hideSl (sl : List SV) : List Nat → List SV
  | [] => sl
  | i :: l => (hideSl sl l).set i .un
def backSl (old sl : List SV) : List Nat → List SV
  | [] => sl
  | i :: l => (backSl old sl l).set i (old.getD i .un)
def SV.isOwn : SV → Bool
  | .own _ => true
  | _ => false
def S.hide (vs : List Nat) (s : S) : S := ⟨hideSl s.sl vs, s.st⟩
def lcLoop (vs : List Nat) (tgt : D → S → Option S) (cond : S → O Bool) (elt : S → O D) : List D → List D → S → O (List D)
  | [], acc, s => .ok acc s
  | x :: l, acc, s => match tgt x (s.hide vs) with
    | none => .bad
    | some s => (cond s).bind fun b s => if b then (elt s).bind fun y s => lcLoop vs tgt cond elt l (acc ++ [y]) s else lcLoop vs tgt cond elt l acc s
/-- nothing is raised here -/
def O.noex {α : Type} : O α → O α
  | .ex _ _ => .bad
  | o => o
def FO.toO (sl : List SV) : FO → O R
  | .ok r st => .ok r ⟨sl, st⟩
  | .ex e st => .ex e ⟨sl, st⟩
  | .bad => .bad
def perm (pm : List Nat) (l : List D) : List D := pm.map fun i => l.getD i .non
def S.rdLst (s : S) (x : R) : Bool := match s.rd x with
  | some (.lst _) => true
  | _ => false
def S.isLst (s : S) : R → Bool
  | .new _ => false
  | x => match s.cell x with
    | some (.lst _) => true
    | _ => false
def S.rdDct (s : S) (x : R) : Bool := match s.rd x with
  | some (.dct _) => true
  | _ => false
def S.isDct (s : S) : R → Bool
  | .new _ => false
  | x => match s.cell x with
    | some (.dK _) => true
    | _ => false
/-- a list, its objects as they stand -/
def deepV (s : S) : D → Option D
  | .lst l => (l.mapM s.rdD).map .lst
  | _ => none
def Cell.flat : Cell → Bool
  | .lst l => l.all D.flat
  | _ => false
/-- a call to which an own object is lent -/
def lendV (F : Fn) (c : Cell) (s : S) : O R := match c.view with
  | some d => match F [d] s.st with
    | .ok (.d y) st => if y.flat && st.all Cell.flat then .ok (.d y) ⟨s.sl, st⟩ else .bad
    | _ => .bad
  | none => .bad
def SV.noOwn : SV → SV
  | .own _ => .un
  | v => v
/-- some own objects are lent, the others hidden -/
def lendS : List Nat → S → Option S
  | [], s => some ⟨s.sl.map SV.noOwn, s.st⟩
  | i :: l, s => match s.sl[i]? with
    | some (.own c) => match c.view with
      | some x => lendS l ⟨s.sl.set i (.d x), s.st⟩
      | none => none
    | some (.d _) => lendS l s
    | _ => none
def lendB (s : S) : O Bool → O Bool
  | .ok k t => if t.st.all Cell.flat then .ok k ⟨s.sl, t.st⟩ else .bad
  | _ => .bad
def lendD (s : S) : O R → O R
  | .ok (.d y) t => if y.flat && t.st.all Cell.flat then .ok (.d y) ⟨s.sl, t.st⟩ else .bad
  | _ => .bad
def dgetV (x y : R) (z : D) (s : S) : O R := match s.rd x, (s.rd y).bind keyOf with
  | some (.dct l), some k => .ok (.d ((lookK l k).getD z)) s
  | _, _ => .bad
def dixV (x y : R) (s : S) : O R := match s.rd x, (s.rd y).bind keyOf with
  | some (.dct l), some k => .ofOpt ((lookK l k).map .d) s
  | _, _ => .bad
def mtV (m : Mt) (x : R) (l : List D) (s : S) : O R := .ofOpt ((s.rd x).bind fun x => mtSem m x l) s
def muV (m : Mt) (x : R) (l : List D) (s : S) : O R := match (s.cell x).bind fun c => muSem m c l with
  | some (r, c) => (O.ofOpt (s.put c x) s).bind fun s _ => .ok r s
  | none => .bad
def binV (o : Operator) (x y : R) (s : S) : O R := match s.rd x, s.rd y with
  | some x, some y => .ofOpt (opBin o x y) s
  | _, _ => .bad
def cmpV (o : CmpOp) (x y : R) (s : S) : O Bool := match s.rd x, s.rd y with
  | some x, some y => .ofOpt (opCmp o x y) s
  | _, _ => .bad
def ixV (x y : R) (s : S) : O R := match s.rd x, s.rd y with
  | some x, some y => .ofOpt ((opIx x y).map .d) s
  | _, _ => .bad
def truV (x : R) (s : S) : O Bool := .ofOpt ((s.rd x).bind D.tru) s
def biV (b : Bi) (l : List R) (s : S) : O R := match l.mapM s.rd with
  | some l => .ofOpt (biSem b l) s
  | none => .bad
def isiV (ts : List Ty) (x : R) (s : S) : O Bool := .ofOpt (((s.rd x).bind D.kind).map fun k => ts.any k.sub) s
def asBl (o : O Bool) : O R := o.bind fun k s => .ok (.d (.bl k)) s
mutual
def ev : E → S → O R
  | .var i, s => match s.sl[i]? with
    | some (.d x) => .ok (.d x) s
    | some (.own _) => .ok (.pl i) s
    | _ => .bad
  | .glo _ d, s => .ok (.d d) s
  | .int i, s => .ok (.d (.int i)) s
  | .str x, s => .ok (.d (.str x)) s
  | .bl b, s => .ok (.d (.bl b)) s
  | .non, s => .ok (.d .non) s
  | .bin o a b, s => (ev a s).opd.bind fun x s => (ev b s).opd.bind fun y s => binV o x y s
  | .neg a, s => (ev a s).opd.bind fun x s => match s.rd x with
    | some (.int i) => .ok (.d (.int (-i))) s
    | _ => .bad
  | .not a, s => (ev a s).opd.bind fun x s => (truV x s).bind fun b s => .ok (.d (.bl (!b))) s
  | .and a b, s => (ev a s).opd.bind fun x s => match x with
    | .d (.bl true) => ev b s
    | .d (.bl false) => .ok (.d (.bl false)) s
    | _ => .bad
  | .or a b, s => (ev a s).opd.bind fun x s => match x with
    | .d (.bl true) => .ok (.d (.bl true)) s
    | .d (.bl false) => ev b s
    | _ => .bad
  | .ifx c a b, s => (evT c s).bind fun k s => if k then ev a s else ev b s
  | .cmp o a b, s => (ev a s).opd.bind fun x s => (ev b s).opd.bind fun y s => asBl (cmpV o x y s)
  | .cmp2 o u a b c, s => (ev a s).opd.bind fun x s => (ev b s).opd.bind fun y s => (cmpV o x y s).bind fun k s => if k then (ev c s).opd.bind fun z s => asBl (cmpV u y z s) else .ok (.d (.bl false)) s
  | .cmp3 o u v a b c d, s => (ev a s).opd.bind fun x s => (ev b s).opd.bind fun y s => (cmpV o x y s).bind fun k s => if k then (ev c s).opd.bind fun z s => (cmpV u y z s).bind fun k s => if k then (ev d s).opd.bind fun t s => asBl (cmpV v z t s) else .ok (.d (.bl false)) s else .ok (.d (.bl false)) s
  | .tup es, s => (evs es s).bind fun l s => .ok (.d (.tup l)) s
  | .lst es, s => (evs es s).bind fun l s => .ok (.new (.lst l)) s
  | .dnil, s => .ok (.new (.dK [])) s
  | .ix a b, s => (ev a s).opd.bind fun x s => (ev b s).opd.bind fun y s => ixV x y s
  | .sl a lo hi, s => (ev a s).opd.bind fun x s => (evo lo s).bind fun l s => (evo hi s).bind fun h s => match s.rd x with
    | some x => .ofOpt (opSl x l h) s
    | none => .bad
  | .rev a, s => (ev a s).opd.bind fun x s => match s.rd x with
    | some (.lst l) => .ok (.new (.lst l.reverse)) s
    | _ => .bad
  | .lc own e g src c, s => (evSrc src s).bind fun items s =>
      if (own.all fun p => !(s.sl.getD p.2 .un).isOwn) && decide (items.length ≤ big) then
        (lcLoop (own.map (·.2)) (fun x s => T.asg g x s) (fun s => evc c s) (fun s => (ev e s).val) items [] s).noex.bind fun l t => .ok (.new (.lst l)) ⟨backSl s.sl t.sl (own.map (·.2)), t.st⟩
      else .bad
  | .call _ F es, s => (evs es s).bind fun l s => (F l s.st).toO s.sl
  | .callk _ F pm _ ws, s => (evs ws s).bind fun l s => (F (perm pm l) s.st).toO s.sl
  | .bi b es, s => (evOs es s).bind fun l s => biV b l s
  | .isi a ts, s => (ev a s).opd.bind fun x s => asBl (isiV ts x s)
  | .mt m a es, s => (ev a s).opd.bind fun x s => if s.rdLst x then (evs es s).bind fun l s => mtV m x l s else .bad
  | .mu m a es, s => (ev a s).bind fun x s => if s.isLst x then (evs es s).bind fun l s => muV m x l s else .bad
  | .alc e, s => (ev e s).bind fun r s => match r with
    | .new c => if c.pure then .ok (.d (.obj s.st.length)) ⟨s.sl, s.st ++ [c]⟩ else .bad
    | _ => .bad
  | .sset a, s => (ev a s).opd.bind fun x s => .ofOpt ((s.rd x).bind ssetD) s
  | .maxv a, s => (ev a s).opd.bind fun x s => .ofOpt ((s.rd x).bind maxvD) s
  | .dne a, s => (ev a s).opd.bind fun x s => .ofOpt (((s.rd x).bind dneB).map fun k => .d (.bl k)) s
  | .zip3 a b c, s => (ev a s).val.bind fun x s => (ev b s).val.bind fun y s => (ev c s).val.bind fun z s => match x, y, z with
    | .lst l, .lst m, .lst n => if l.length = m.length ∧ l.length = n.length ∧ l.length ≤ 1000 then .ok (.new (.lst (zip3D l m n))) s else .bad
    | _, _, _ => .bad
  | .dget a k d, s => (ev a s).opd.bind fun x s => if s.rdDct x then (ev k s).opd.bind fun y s => (ev d s).val.bind fun z s => dgetV x y z s else .bad
  | .dead, s => .bad
  | .mov i, s => match s.sl[i]? with
    | some (.own c) => if c.pure then .ok (.d (.obj s.st.length)) ⟨s.sl.set i (.d (.obj s.st.length)), s.st ++ [c]⟩ else .bad
    | _ => .bad
  | .callb _ F i, s => match s.sl[i]? with
    | some (.own c) => lendV F c s
    | _ => .bad
  | .lend is e, s => match lendS is s with
    | some s1 => lendD s (ev e s1)
    | none => .bad
  | .rpd a, s => (ev a s).opd.bind fun x s => .ofOpt (((s.rd x).bind (deepV s)).bind fun y => biRepr [y]) s
  | .lrng a b c, s => (ev a s).val.bind fun x s => (ev b s).val.bind fun y s => (ev c s).val.bind fun z s => .ofOpt (lrngD x y z) s
  | .lset a, s => (ev a s).opd.bind fun x s => .ofOpt ((s.rd x).bind lsetD) s
  | .dix a k, s => (ev a s).opd.bind fun x s => (ev k s).opd.bind fun y s => dixV x y s
  | .bits a, s => (ev a s).val.bind fun x s => .ofOpt (bitsD x) s
  | .starT x a, s => (ev x s).val.bind fun d s => (ev a s).val.bind fun y s => .ofOpt (starTD d y) s
  | .starL x a, s => (ev x s).val.bind fun d s => (ev a s).val.bind fun y s => .ofOpt (starLD d y) s
  | .starR a x, s => (ev a s).val.bind fun y s => match y.items with
    | some l => (ev x s).val.bind fun d s => .ofOpt (starRD l d) s
    | none => .bad
/-- tests -/
def evT : E → S → O Bool
  | .not a, s => (evT a s).bind fun b s => .ok (!b) s
  | .and a b, s => (evT a s).bind fun x s => if x then evT b s else .ok false s
  | .or a b, s => (evT a s).bind fun x s => if x then .ok true s else evT b s
  | .cmp o a b, s => (ev a s).opd.bind fun x s => (ev b s).opd.bind fun y s => cmpV o x y s
  | .cmp2 o u a b c, s => (ev a s).opd.bind fun x s => (ev b s).opd.bind fun y s => (cmpV o x y s).bind fun k s => if k then (ev c s).opd.bind fun z s => cmpV u y z s else .ok false s
  | .cmp3 o u v a b c d, s => (ev a s).opd.bind fun x s => (ev b s).opd.bind fun y s => (cmpV o x y s).bind fun k s => if k then (ev c s).opd.bind fun z s => (cmpV u y z s).bind fun k s => if k then (ev d s).opd.bind fun t s => cmpV v z t s else .ok false s else .ok false s
  | .call _ F es, s => ((evs es s).bind fun l s => (F l s.st).toO s.sl).opd.bind fun r s => truV r s
  | .var i, s => match s.sl[i]? with
    | some (.d x) => truV (.d x) s
    | some (.own _) => truV (.pl i) s
    | _ => .bad
  | .bi b es, s => ((evOs es s).bind fun l s => biV b l s).opd.bind fun r s => truV r s
  | .ix a b, s => ((ev a s).opd.bind fun x s => (ev b s).opd.bind fun y s => ixV x y s).opd.bind fun r s => truV r s
  | .isi a ts, s => (ev a s).opd.bind fun x s => isiV ts x s
  | .dne a, s => (ev a s).opd.bind fun x s => .ofOpt ((s.rd x).bind dneB) s
  | .bl b, s => .ok b s
  | .lend is e, s => match lendS is s with
    | some s1 => lendB s (evT e s1)
    | none => .bad
  | _, _ => .bad
/-- data, each kept -/
def evs : Es → S → O (List D)
  | .nil, s => .ok [] s
  | .cons e r, s => (ev e s).val.bind fun x s => (evs r s).bind fun l s => .ok (x :: l) s
def evOs : Es → S → O (List R)
  | .nil, s => .ok [] s
  | .cons e r, s => (ev e s).opd.bind fun x s => (evOs r s).bind fun l s => .ok (x :: l) s
def evo : EO → S → O (Option Int)
  | .no, s => .ok none s
  | .so e, s => (ev e s).bind fun r s => match r with
    | .d (.int i) => .ok (some i) s
    | _ => .bad
def evc : EO → S → O Bool
  | .no, s => .ok true s
  | .so e, s => evT e s
def evSrc : Src → S → O (List D)
  | .seq e, s => (ev e s).val.bind fun x s => match x with
    | .lst l => .ok l s
    | .tup l => .ok l s
    | _ => .bad
  | .rng1 a, s => (ev a s).val.bind fun x s => .ofOpt (rng1Sem [x]) s
  | .rng2 a b, s => (ev a s).val.bind fun x s => (ev b s).val.bind fun y s => .ofOpt (rng2Sem [x, y]) s
  | .enum e, s => (ev e s).val.bind fun x s => match x with
    | .lst l => .ok (enumFrom 0 l) s
    | _ => .bad
  | .zip a b, s => (ev a s).val.bind fun x s => (ev b s).val.bind fun y s => match x, y with
    | .lst l, .lst m => .ok (zipD l m) s
    | _, _ => .bad
end

inductive OS where
  | nx (s : S) | rt (r : R) (s : S) | bk (s : S) | ct (s : S) | ex (e : Exn) (s : S) | bad
def OS.of {α : Type} : O α → (α → S → OS) → OS
  | .ok a s, f => f a s
  | .ex e s, _ => .ex e s
  | .bad, _ => .bad
def OS.opt : Option S → OS
  | some s => .nx s
  | none => .bad
def OS.then : OS → (S → OS) → OS
  | .nx s, f => f s
  | o, _ => o
mutual
def D.under (n : Nat) : D → Bool
  | .non => true
  | .bl _ => true
  | .int _ => true
  | .str _ => true
  | .tup l => D.unders n l
  | .lst l => D.unders n l
  | .dct l => D.underK n l
  | .obj k => decide (k < n)
  | .fn _ => true
  | .scr _ => true
def D.unders (n : Nat) : List D → Bool
  | [] => true
  | d :: l => d.under n && D.unders n l
def D.underK (n : Nat) : List (Key × D) → Bool
  | [] => true
  | (_, d) :: l => d.under n && D.underK n l
end
def SV.keep (n : Nat) : SV → SV
  | .d x => if x.under n then .d x else .un
  | .own c => if c.pure then .own c else .un
  | .un => .un
/-- the store as it was long before the turn -/
def S.gc (n : Nat) (s : S) : S := if s.st.length = n then s else ⟨s.sl.map (SV.keep n), s.st.take n⟩
def forLoop (tgt : D → S → Option S) (body : S → OS) (n : Nat) : List D → S → OS
  | [], s => .nx s
  | x :: l, s => match tgt x s with
    | none => .bad
    | some s => match body s with
      | .nx s => forLoop tgt body n l (s.gc n)
      | .ct s => forLoop tgt body n l (s.gc n)
      | .bk s => .nx (s.gc n)
      | .rt r s => .rt r s
      | .ex e s => .ex e s
      | .bad => .bad
def whLoop (c : S → O Bool) (body : S → OS) (n : Nat) : Nat → S → OS
  | 0, _ => .bad
  | k + 1, s => OS.of (c s) fun b s => if b then match body s with
      | .nx s => whLoop c body n k (s.gc n)
      | .ct s => whLoop c body n k (s.gc n)
      | .bk s => .nx (s.gc n)
      | .rt r s => .rt r s
      | .ex e s => .ex e s
      | .bad => .bad
    else .nx s
/-- a, b = x, y: the values, then the names; what was made just now stands in the store in between -/
def evPar : Es → S → O (List D)
  | .nil, s => .ok [] s
  | .cons e r, s => (ev e s).bind fun x s => match x with
    | .new c => if c.pure then (evPar r ⟨s.sl, s.st ++ [c]⟩).bind fun l t => .ok (.obj s.st.length :: l) t else .bad
    | x => match s.fz x with
      | some (x, s) => (evPar r s).bind fun l t => .ok (x :: l) t
      | none => .bad
/-- what was made just now, by its place in the store -/
def D.isNew (n : Nat) : D → Option Nat
  | .obj m => if m < n then none else some m
  | _ => none
def putPar (n : Nat) (st : List Cell) : List Nat → List D → List SV → Option (List SV)
  | [], [], sl => some sl
  | i :: l, x :: r, sl => match x.isNew n with
    | some m => match st[m]? with
      | some c => putPar n st l r (sl.set i (.own c))
      | none => none
    | none => if x.under n then putPar n st l r (sl.set i (.d x)) else none
  | _, _, _ => none
/-- values are given to targets, one after the other -/
def putTs : List Tg → List D → S → OS
  | [], [], s => .nx s
  | .nm i :: l, x :: xs, s => putTs l xs ⟨s.sl.set i (.d x), s.st⟩
  | .sub a b :: l, x :: xs, s => .of (ev a s) fun p s => if s.isLst p || s.isDct p then .of (ev b s).val fun k s => match (s.cell p).bind fun c => setIx c k x with
    | some c => match s.put c p with
      | some s => putTs l xs s
      | none => .bad
    | none => .bad else .bad
  | _, _, _ => .bad
/-- name op= e, ints -/
def augV (i : Nat) (o : Operator) (m : Int) (y : R) (s : S) : OS := match s.rd y with
  | some (.int n) => if o = .Pow then .bad else match opBin o (.int m) (.int n) with
    | some (.d (.int z)) => .nx { s with sl := s.sl.set i (.d (.int z)) }
    | _ => .bad
  | _ => .bad
def hdS : Hd → Exn → S → OS
  | .setB i k, _, s => .nx ⟨s.sl.set i (.d (.bl k)), s.st⟩
  | .setT j i f g, e, s => match s.sl[j]?, e.fs.lookup f, e.fs.lookup g with
    | some .un, some x, some y => .nx ⟨((s.sl.set j .un).set i (.d (.tup [x, y]))).set j .un, s.st⟩
    | _, _, _ => .bad
  | .retT j f g, e, s => match s.sl[j]?, e.fs.lookup f, e.fs.lookup g with
    | some .un, some x, some y => .rt (.d (.tup [x, y])) ⟨s.sl.set j .un, s.st⟩
    | _, _, _ => .bad
def OS.tryB (c : Str) (h : Hd) : OS → OS
  | .ex e s => if e.c = c then hdS h e s else .bad
  | o => o
mutual
def exm : Sm → S → OS
  | .pass, s => .nx s
  | .expr e, s => .of (ev e s) fun _ s => .nx s
  | .set i e, s => .of (ev e s) fun r s => .opt (s.store i r)
  | .par l es, s => .of (evPar es s) fun vs t => if l.Nodup ∧ (vs.filterMap (D.isNew s.st.length)).Nodup then (match putPar s.st.length t.st l vs (t.gc s.st.length).sl with
      | some sl => .nx ⟨sl, t.st.take s.st.length⟩
      | none => .bad) else .bad
  | .unp t e, s => .of (ev e s).val fun x s => .opt (T.asg t x s)
  | .parT l es, s => .of (evs es s) fun xs s => if xs.length = l.length then putTs l xs s else .bad
  | .aug i o e, s => match s.sl[i]? with
    | some (.d (.int m)) => .of (ev e s).opd fun y s => augV i o m y s
    | _ => .bad
  | .setix a b e, s => .of (ev e s).val fun x s => .of (ev a s) fun p s => if s.isLst p || s.isDct p then .of (ev b s).val fun k s => match (s.cell p).bind fun c => setIx c k x with
    | some c => .opt (s.put c p)
    | none => .bad else .bad
  | .ifs c a b, s => .of (evT c s) fun k s => if k then exms a s else exms b s
  | .whl n c b, s => whLoop (fun s => evT c s) (fun s => exms b s) s.st.length n s
  | .fors t src b, s => .of (evSrc src s) fun items s => forLoop (fun x s => T.asg t x s) (fun s => exms b s) s.st.length items s
  | .ret e, s => .of (ev e s) fun r s => .rt r s
  | .retN, s => .rt (.d .non) s
  | .brk, s => .bk s
  | .cont, s => .ct s
  | .rais c _, s => .ex ⟨c, []⟩ s
  | .raisO c f g es, s => .of (evs es s) fun vs s => match vs with
    | [x, y] => if (x.flat && y.flat) = true then .ex ⟨c, [(f, x), (g, y)]⟩ s else .bad
    | _ => .bad
  | .tryc b c h, s => (exms b s).tryB c h
  | .dead, s => .bad
  | .augs a i o e, s => .of (ev a s) fun p s => if s.isLst p then .of (ev i s).val fun k s => match s.cell p, k with
    | some (.lst l), .int j => if 0 ≤ j then match l[j.toNat]? with
      | some (.int m) => .of (ev e s).opd fun y s => match s.rd y with
        | some (.int n) => if o = .Pow then .bad else match opBin o (.int m) (.int n) with
          | some (.d (.int z)) => match (s.cell p).bind fun c => setIx c (.int j) (.int z) with
            | some c => .opt (s.put c p)
            | none => .bad
          | _ => .bad
        | _ => .bad
      | _ => .bad else .bad
    | _, _ => .bad else .bad
  | .unpO l e, s => .of (ev e s).val fun x t => match x with
    | .tup vs => if l.Nodup ∧ (vs.filterMap (D.isNew s.st.length)).Nodup then (match putPar s.st.length t.st l vs (t.gc s.st.length).sl with
      | some sl => .nx ⟨sl, t.st.take s.st.length⟩
      | none => .bad) else .bad
    | _ => .bad
def exms : Sms → S → OS
  | .nil, s => .nx s
  | .cons a r, s => (exm a s).then fun s => exms r s
end
/-- a def's end -/
def finish (n : Nat) : R → S → FO
  | .d (.obj k), s => if k < n then .ok (.d (.obj k)) (s.st.take n) else match s.st[k]? with
    | some c => .ok (.new c) (s.st.take n)
    | none => .bad
  | .d x, s => if x.pure then .ok (.d x) (s.st.take n) else .ok (.d x) s.st
  | .new c, s => if c.pure then .ok (.new c) (s.st.take n) else .bad
  | .pl i, s => match s.sl[i]? with
    | some (.own c) => if c.pure then .ok (.new c) (s.st.take n) else .bad
    | _ => .bad
def runDef (m : Nat) (body : Sms) : Fn := fun args st => match exms body ⟨args.map .d ++ List.replicate (m - args.length) .un, st⟩ with
  | .nx s => .ok (.d .non) (s.st.take st.length)
  | .rt r s => finish st.length r s
  | .ex e s => .ex e (s.st.take st.length)
  | _ => .bad
end G4

namespace G4
open PySem PySem.Spec PyProof.Rows L2

/-! ### data and values -/
/-- a flat datum's value -/
def D.toV : D → Option V
  | .non => some .non
  | .bl b => some (.bl b)
  | .int i => some (.int i)
  | .str x => some (.str x)
  | _ => none
section
variable (K : PySem.W.Frag) (g : Str → Option Addr) (RR : List Addr) (F : Hp)
mutual
inductive Rep : D → V → Prop
  | non : Rep .non .non
  | bl (b : Bool) : Rep (.bl b) (.bl b)
  | int (i : Int) : Rep (.int i) (.int i)
  | str (x : Str) : Rep (.str x) (.str x)
  | tup {l : List D} {a : Addr} {vs : List V} : SqT K F a vs → Reps l vs → Rep (.tup l) (.ref a)
  | lst {l : List D} {a : Addr} {vs : List V} : F a = some (.lst vs) → Reps l vs → Rep (.lst l) (.ref a)
  | dct {l : List (Key × D)} {a : Addr} {vs : List (Key × V)} : F a = some (.dK vs) → RepK l vs → Rep (.dct l) (.ref a)
  | obj {n : Nat} {a : Addr} : RR[n]? = some a → Rep (.obj n) (.ref a)
  | fn {x : Str} {a : Addr} : g x = some a → Rep (.fn x) (.ref a)
  | scr {l : List Int} {a : Addr} : SqL K F a (l.map V.int) → Rep (.scr l) (.ref a)
inductive Reps : List D → List V → Prop
  | nil : Reps [] []
  | cons {d : D} {v : V} {l : List D} {vs : List V} : Rep d v → Reps l vs → Reps (d :: l) (v :: vs)
inductive RepK : List (Key × D) → List (Key × V) → Prop
  | nil : RepK [] []
  | cons {k : Key} {d : D} {v : V} {l : List (Key × D)} {vs : List (Key × V)} : Rep d v → RepK l vs → RepK ((k, d) :: l) ((k, v) :: vs)
end
/-- a datum as it stands now: the top by H, what is within by F -/
inductive Vw (H : Hp) : D → V → Prop
  | non : Vw H .non .non
  | bl (b : Bool) : Vw H (.bl b) (.bl b)
  | int (i : Int) : Vw H (.int i) (.int i)
  | str (x : Str) : Vw H (.str x) (.str x)
  | tup {l : List D} {a : Addr} {vs : List V} : SqT K F a vs → Reps K g RR F l vs → Vw H (.tup l) (.ref a)
  | lst {l : List D} {a : Addr} {vs : List V} : H a = some (.lst vs) → Reps K g RR F l vs → Vw H (.lst l) (.ref a)
  | dct {l : List (Key × D)} {a : Addr} {vs : List (Key × V)} : H a = some (.dK vs) → RepK K g RR F l vs → Vw H (.dct l) (.ref a)
  | obj {n : Nat} {a : Addr} : RR[n]? = some a → Vw H (.obj n) (.ref a)
  | fn {x : Str} {a : Addr} : g x = some a → Vw H (.fn x) (.ref a)
  | scr {l : List Int} {a : Addr} : SqL K H a (l.map V.int) → Vw H (.scr l) (.ref a)
/-- an object at its address -/
inductive CellAt (H : Hp) (a : Addr) : Cell → Prop
  | lst {l : List D} {vs : List V} : H a = some (.lst vs) → Reps K g RR F l vs → CellAt H a (.lst l)
  | dK {l : List (Key × D)} {vs : List (Key × V)} : H a = some (.dK vs) → RepK K g RR F l vs → CellAt H a (.dK l)
end
theorem _root_.L2.Same.rd {H H' : Hp} {a : Addr} {u : HO} (e : Same H H') (h : Rd H a u) : Rd H' a u := by
  rcases h with h | ⟨o, h⟩
  · exact .inl (e _ _ h)
  · exact .inr ⟨o, e _ _ h⟩
theorem _root_.L2.Same.seqT {K : PySem.W.Frag} {H H' : Hp} {a : Addr} {xs : List V} (e : Same H H') (h : SqT K H a xs) : SqT K H' a xs := by
  rcases h with h | h
  · exact .inl (e.rd h)
  · exact .inr h
section
variable {K : PySem.W.Frag} {g : Str → Option Addr} {RR RR' : List Addr} {F F' H H' : Hp}
theorem get_pre {R R' : List Addr} (p : R <+: R') {n : Nat} {a : Addr} (h : R[n]? = some a) : R'[n]? = some a := by
  obtain ⟨t, rfl⟩ := p
  have hn : n < R.length := (List.getElem?_eq_some_iff.mp h).1
  rw [List.getElem?_append_left hn]
  exact h
mutual
theorem Rep.mono (e : Same F F') (p : RR <+: RR') : ∀ {d : D} {v : V}, Rep K g RR F d v → Rep K g RR' F' d v
  | _, _, .non => .non
  | _, _, .bl b => .bl b
  | _, _, .int i => .int i
  | _, _, .str x => .str x
  | _, _, .tup h r => .tup (e.seqT h) (Reps.mono e p r)
  | _, _, .lst h r => .lst (e _ _ h) (Reps.mono e p r)
  | _, _, .dct h r => .dct (e _ _ h) (RepK.mono e p r)
  | _, _, .obj h => .obj (get_pre p h)
  | _, _, .fn h => .fn h
  | _, _, .scr h => .scr (e.seq h)
theorem Reps.mono (e : Same F F') (p : RR <+: RR') : ∀ {l : List D} {vs : List V}, Reps K g RR F l vs → Reps K g RR' F' l vs
  | _, _, .nil => .nil
  | _, _, .cons a b => .cons (Rep.mono e p a) (Reps.mono e p b)
theorem RepK.mono (e : Same F F') (p : RR <+: RR') : ∀ {l : List (Key × D)} {vs : List (Key × V)}, RepK K g RR F l vs → RepK K g RR' F' l vs
  | _, _, .nil => .nil
  | _, _, .cons a b => .cons (Rep.mono e p a) (RepK.mono e p b)
end
theorem Vw.of (e : Same F H) {d : D} {v : V} (h : Rep K g RR F d v) : Vw K g RR F H d v := by
  cases h with
  | non => exact .non
  | bl => exact .bl _
  | int => exact .int _
  | str => exact .str _
  | tup h r => exact .tup h r
  | lst h r => exact .lst (e _ _ h) r
  | dct h r => exact .dct (e _ _ h) r
  | obj h => exact .obj h
  | fn h => exact .fn h
  | scr h => exact .scr (e.seq h)
theorem Vw.rep (e : Same F H) {d : D} {v : V} (h : Vw K g RR F H d v) : Rep K g RR H d v := by
  cases h with
  | non => exact .non
  | bl => exact .bl _
  | int => exact .int _
  | str => exact .str _
  | tup h r => exact .tup (e.seqT h) (r.mono e (List.prefix_refl _))
  | lst h r => exact .lst h (r.mono e (List.prefix_refl _))
  | dct h r => exact .dct h (r.mono e (List.prefix_refl _))
  | obj h => exact .obj h
  | fn h => exact .fn h
  | scr h => exact .scr h
theorem CellAt.mono {H H' : Hp} {a : Addr} {c : Cell} (h : CellAt K g RR F H a c) (e : Same F F') (p : RR <+: RR') (q : ∀ o, H a = some o → H' a = some o) : CellAt K g RR' F' H' a c := by
  cases h with
  | lst h r => exact .lst (q _ h) (r.mono e p)
  | dK h r => exact .dK (q _ h) (r.mono e p)
theorem CellAt.there {H : Hp} {a : Addr} {c : Cell} (h : CellAt K g RR F H a c) : ∃ o, H a = some o := by
  cases h with
  | lst h r => exact ⟨_, h⟩
  | dK h r => exact ⟨_, h⟩
theorem CellAt.view {H : Hp} {a : Addr} {c : Cell} {x : D} (h : CellAt K g RR F H a c) (e : c.view = some x) : Vw K g RR F H x (.ref a) := by
  cases h with
  | lst h r => cases e; exact .lst h r
  | dK h r => cases e; exact .dct h r
theorem Reps.len {l : List D} {vs : List V} (h : Reps K g RR F l vs) : l.length = vs.length := by
  induction l generalizing vs with
  | nil => cases h; rfl
  | cons d l ih =>
    cases h with
    | cons a b => rw [List.length_cons, List.length_cons, ih b]
theorem Reps.get {l : List D} {vs : List V} (h : Reps K g RR F l vs) {i : Nat} {d : D} (e : l[i]? = some d) : ∃ v, vs[i]? = some v ∧ Rep K g RR F d v := by
  induction l generalizing vs i with
  | nil => simp at e
  | cons x l ih =>
    cases h with
    | cons a b =>
      cases i with
      | zero => simp at e; subst e; exact ⟨_, rfl, a⟩
      | succ i => simpa using ih b (by simpa using e)
theorem Reps.getV {l : List D} {vs : List V} (h : Reps K g RR F l vs) {i : Nat} {v : V} (e : vs[i]? = some v) : ∃ d, l[i]? = some d ∧ Rep K g RR F d v := by
  induction l generalizing vs i with
  | nil => cases h; simp at e
  | cons x l ih =>
    cases h with
    | cons a b =>
      cases i with
      | zero => simp at e; subst e; exact ⟨_, rfl, a⟩
      | succ i => simpa using ih b (by simpa using e)
theorem Reps.app {l m : List D} {vs ws : List V} (h : Reps K g RR F l vs) (k : Reps K g RR F m ws) : Reps K g RR F (l ++ m) (vs ++ ws) := by
  induction l generalizing vs with
  | nil => cases h; exact k
  | cons x l ih =>
    cases h with
    | cons a b => exact .cons a (ih b)
theorem Reps.take {l : List D} {vs : List V} (h : Reps K g RR F l vs) (n : Nat) : Reps K g RR F (l.take n) (vs.take n) := by
  induction l generalizing vs n with
  | nil => cases h; simp; exact .nil
  | cons x l ih =>
    cases h with
    | cons a b =>
      cases n with
      | zero => exact .nil
      | succ n => exact .cons a (ih b n)
theorem Reps.drop {l : List D} {vs : List V} (h : Reps K g RR F l vs) (n : Nat) : Reps K g RR F (l.drop n) (vs.drop n) := by
  induction l generalizing vs n with
  | nil => cases h; simp; exact .nil
  | cons x l ih =>
    cases h with
    | cons a b =>
      cases n with
      | zero => exact .cons a b
      | succ n => exact ih b n
theorem Reps.set {l : List D} {vs : List V} {d : D} {v : V} (h : Reps K g RR F l vs) (k : Rep K g RR F d v) (n : Nat) : Reps K g RR F (l.set n d) (vs.set n v) := by
  induction l generalizing vs n with
  | nil => cases h; exact .nil
  | cons x l ih =>
    cases h with
    | cons a b =>
      cases n with
      | zero => exact .cons k b
      | succ n => exact .cons a (ih b n)
theorem Reps.rev {l : List D} {vs : List V} (h : Reps K g RR F l vs) : Reps K g RR F l.reverse vs.reverse := by
  induction l generalizing vs with
  | nil => cases h; exact .nil
  | cons x l ih =>
    cases h with
    | cons a b =>
      rw [List.reverse_cons, List.reverse_cons]
      exact (ih b).app (.cons a .nil)
theorem Reps.rep {l : List D} {vs : List V} (h : Reps K g RR F l vs) : ∀ k : Nat, Reps K g RR F (List.replicate k l).flatten (List.replicate k vs).flatten
  | 0 => .nil
  | k + 1 => by
    rw [List.replicate_succ, List.replicate_succ, List.flatten_cons, List.flatten_cons]
    exact h.app (h.rep k)
theorem Reps.ofInts : ∀ ns : List Int, Reps K g RR F (ns.map .int) (ns.map V.int)
  | [] => .nil
  | n :: ns => .cons (.int n) (Reps.ofInts ns)
theorem Reps.toInts {l : List D} {vs : List V} {ns : List Int} (h : Reps K g RR F l vs) (e : intsD l = some ns) : vs = ns.map V.int := by
  induction l generalizing vs ns with
  | nil => cases h; cases e; rfl
  | cons x l ih =>
    cases h with
    | cons a b =>
      cases a <;> simp only [intsD] at e <;> try cases e
      rename_i i
      cases q : intsD l with
      | none => rw [q] at e; cases e
      | some m => rw [q] at e; cases e; rw [List.map_cons, ih b q]
theorem Reps.toBls {l : List D} {vs : List V} {ns : List Bool} (h : Reps K g RR F l vs) (e : blsD l = some ns) : vs = ns.map V.bl := by
  induction l generalizing vs ns with
  | nil => cases h; cases e; rfl
  | cons x l ih =>
    cases h with
    | cons a b =>
      cases a <;> simp only [blsD] at e <;> try cases e
      rename_i i
      cases q : blsD l with
      | none => rw [q] at e; cases e
      | some m => rw [q] at e; cases e; rw [List.map_cons, ih b q]
end
end G4

namespace G4
open PySem PySem.Spec PyProof.Rows L2

structure Bs where
  K : PySem.W.Frag
  g : Str → Option Addr
  H0 : Hp
  R0 : List Addr
  F0 : Hp
/-- the little state and the layer's: F what stays as it is, RR the store's addresses -/
structure Rel (b : Bs) (RR : List Addr) (F : Hp) (s : S) (σ : L2.St) (H : Hp) : Prop where
  fz : Same F H
  f0 : Same b.F0 F
  fn : ∀ a o, F a = some o → b.F0 a = some o ∨ b.H0 a = none
  keep : ∀ a o, b.H0 a = some o → a ∉ b.R0 → H a = some o
  pre : b.R0 <+: RR
  new : ∀ a ∈ RR, a ∉ b.R0 → b.H0 a = none
  nd : RR.Nodup
  rf : ∀ a ∈ RR, F a = none
  stl : s.st.length = RR.length
  st : ∀ (n : Nat) (c : Cell) (a : Addr), s.st[n]? = some c → RR[n]? = some a → CellAt b.K b.g RR F H a c ∧ c.pure = true
  len : s.sl.length = σ.length
  sd : ∀ (i : Nat) (x : D), s.sl[i]? = some (.d x) → ∃ v, σ[i]? = some (some v) ∧ Rep b.K b.g RR F x v
  so : ∀ (i : Nat) (c : Cell), s.sl[i]? = some (.own c) → ∃ a, σ[i]? = some (some (.ref a)) ∧ CellAt b.K b.g RR F H a c ∧ F a = none ∧ a ∉ RR ∧ b.H0 a = none
  ap : ∀ (i j : Nat) (c d : Cell) (a : Addr), s.sl[i]? = some (.own c) → s.sl[j]? = some (.own d) → σ[i]? = some (some (.ref a)) → σ[j]? = some (some (.ref a)) → i = j
/-- an address that no name and no place of the store has -/
structure Lone (b : Bs) (RR : List Addr) (F : Hp) (s : S) (σ : L2.St) (a : Addr) : Prop where
  f : F a = none
  r : a ∉ RR
  h : b.H0 a = none
  o : ∀ (i : Nat) (c : Cell), s.sl[i]? = some (.own c) → σ[i]? ≠ some (some (.ref a))
section
variable {b : Bs} {RR RR' : List Addr} {F F' H H' : Hp} {s : S} {σ : L2.St} {a : Addr}
theorem Rel.there (r : Rel b RR F s σ H) (h : a ∈ RR) : ∃ o, H a = some o := by
  obtain ⟨n, hn, e⟩ := List.getElem_of_mem h
  have hs : n < s.st.length := by rw [r.stl]; exact hn
  exact (r.st n s.st[n] a (List.getElem?_eq_getElem hs) (by rw [List.getElem?_eq_getElem hn, e])).1.there
theorem Rel.lone (r : Rel b RR F s σ H) (h : H a = none) : Lone b RR F s σ a := by
  have hr : a ∉ RR := fun m => by
    obtain ⟨o, e⟩ := r.there m
    rw [h] at e; cases e
  refine ⟨?_, hr, ?_, fun i c e q => ?_⟩
  · cases q : F a with
    | none => rfl
    | some o => rw [r.fz _ _ q] at h; cases h
  · cases q : b.H0 a with
    | none => rfl
    | some o =>
      rw [r.keep a o q fun m => hr (r.pre.subset m)] at h; cases h
  · obtain ⟨a', e1, c1, _⟩ := r.so i c e
    rw [q] at e1; cases e1
    obtain ⟨o, e⟩ := c1.there
    rw [h] at e; cases e
/-- more is tracked -/
theorem Rel.same (r : Rel b RR F s σ H) (e : Same H H') : Rel b RR F s σ H' where
  fz := r.fz.trans e
  f0 := r.f0
  fn := r.fn
  keep := fun a o q n => e _ _ (r.keep a o q n)
  pre := r.pre
  new := r.new
  nd := r.nd
  rf := r.rf
  stl := r.stl
  st := fun n c a q p => ⟨(r.st n c a q p).1.mono (Same.refl _) (List.prefix_refl _) fun o => e a o, (r.st n c a q p).2⟩
  len := r.len
  sd := r.sd
  so := fun i c q => let ⟨a, h1, h2, h3⟩ := r.so i c q; ⟨a, h1, h2.mono (Same.refl _) (List.prefix_refl _) fun o => e a o, h3⟩
  ap := r.ap
theorem same_new {p : Addr} {o : HO} (h : H p = none) : Same H (upd H p o) := fun c x e => by
  rw [upd_ne (ne_of_none e h)]
  exact e
/-- what is alone is kept from here on -/
theorem Rel.frz {o : HO} (r : Rel b RR F s σ H) (l : Lone b RR F s σ a) (h : H a = some o) : Rel b RR (upd F a o) s σ H ∧ Same F (upd F a o) := by
  have e : Same F (upd F a o) := same_new l.f
  have ne : ∀ {c}, c ≠ a → upd F a o c = F c := fun n => upd_ne n
  refine ⟨⟨fun c x q => ?_, r.f0.trans e, fun c x q => ?_, r.keep, r.pre, r.new, r.nd, fun c m => ?_, r.stl, fun n c x q p => ?_, r.len, fun i x q => ?_, fun i c q => ?_, r.ap⟩, e⟩
  · by_cases hc : c = a
    · subst hc; rw [upd_same] at q; cases q; exact h
    · rw [ne hc] at q; exact r.fz _ _ q
  · by_cases hc : c = a
    · subst hc; exact .inr l.h
    · rw [ne hc] at q; exact r.fn _ _ q
  · rw [ne fun z => l.r (z ▸ m)]; exact r.rf c m
  · exact ⟨(r.st n c x q p).1.mono e (List.prefix_refl _) fun _ z => z, (r.st n c x q p).2⟩
  · obtain ⟨v, h1, h2⟩ := r.sd i x q
    exact ⟨v, h1, h2.mono e (List.prefix_refl _)⟩
  · obtain ⟨a', h1, h2, h3, h4⟩ := r.so i c q
    refine ⟨a', h1, h2.mono e (List.prefix_refl _) fun _ z => z, ?_, h4⟩
    rw [ne fun z => l.o i c q (z ▸ h1)]; exact h3
theorem set_cases {α : Type} {l : List α} {i j : Nat} {x y : α} (h : (l.set i x)[j]? = some y) : (j = i ∧ y = x ∧ i < l.length) ∨ (j ≠ i ∧ l[j]? = some y) := by
  by_cases e : j = i
  · subst e
    rw [List.getElem?_set] at h
    split at h
    · split at h
      · cases h; rename_i hl; exact .inl ⟨rfl, rfl, hl⟩
      · cases h
    · rename_i n; exact absurd rfl n
  · rw [List.getElem?_set_ne (Ne.symm e)] at h
    exact .inr ⟨e, h⟩
theorem set_self {α : Type} {l : List α} {i : Nat} {x : α} (h : i < l.length) : (l.set i x)[i]? = some x := by rw [List.getElem?_set_self h]
/-- a name is given a datum -/
theorem Rel.storeD (r : Rel b RR F s σ H) {i : Nat} {x : D} {v : V} (h : Rep b.K b.g RR F x v) : Rel b RR F ⟨s.sl.set i (.d x), s.st⟩ (σ.set i (some v)) H where
  fz := r.fz
  f0 := r.f0
  fn := r.fn
  keep := r.keep
  pre := r.pre
  new := r.new
  nd := r.nd
  rf := r.rf
  stl := r.stl
  st := r.st
  len := by simp [r.len]
  sd := fun j y q => by
    rcases set_cases q with ⟨rfl, e, hl⟩ | ⟨n, q⟩
    · cases e
      exact ⟨v, set_self (by rw [← r.len]; exact hl), h⟩
    · obtain ⟨w, h1, h2⟩ := r.sd j y q
      exact ⟨w, by rw [List.getElem?_set_ne (Ne.symm n)]; exact h1, h2⟩
  so := fun j c q => by
    rcases set_cases q with ⟨rfl, e, hl⟩ | ⟨n, q⟩
    · cases e
    · obtain ⟨w, h1, h2⟩ := r.so j c q
      exact ⟨w, by rw [List.getElem?_set_ne (Ne.symm n)]; exact h1, h2⟩
  ap := fun j k c d a q p h1 h2 => by
    rcases set_cases q with ⟨rfl, e, hl⟩ | ⟨n, q⟩
    · cases e
    rcases set_cases p with ⟨rfl, e, hl⟩ | ⟨m, p⟩
    · cases e
    rw [List.getElem?_set_ne (Ne.symm n)] at h1
    rw [List.getElem?_set_ne (Ne.symm m)] at h2
    exact r.ap j k c d a q p h1 h2
/-- a name is given an object of its own -/
theorem Rel.storeO (r : Rel b RR F s σ H) {i : Nat} {c : Cell} (h : CellAt b.K b.g RR F H a c) (l : Lone b RR F s σ a) : Rel b RR F ⟨s.sl.set i (.own c), s.st⟩ (σ.set i (some (.ref a))) H where
  fz := r.fz
  f0 := r.f0
  fn := r.fn
  keep := r.keep
  pre := r.pre
  new := r.new
  nd := r.nd
  rf := r.rf
  stl := r.stl
  st := r.st
  len := by simp [r.len]
  sd := fun j y q => by
    rcases set_cases q with ⟨rfl, e, hl⟩ | ⟨n, q⟩
    · cases e
    · obtain ⟨w, h1, h2⟩ := r.sd j y q
      exact ⟨w, by rw [List.getElem?_set_ne (Ne.symm n)]; exact h1, h2⟩
  so := fun j d q => by
    rcases set_cases q with ⟨rfl, e, hl⟩ | ⟨n, q⟩
    · cases e
      exact ⟨a, set_self (by rw [← r.len]; exact hl), h, l.f, l.r, l.h⟩
    · obtain ⟨w, h1, h2⟩ := r.so j d q
      exact ⟨w, by rw [List.getElem?_set_ne (Ne.symm n)]; exact h1, h2⟩
  ap := fun j k c1 d1 a1 q p h1 h2 => by
    rcases set_cases q with ⟨ej, e, hl⟩ | ⟨n, q'⟩
    · rcases set_cases p with ⟨ek, e2, hl2⟩ | ⟨m, p'⟩
      · rw [ej, ek]
      · rw [ej, set_self (by rw [← r.len]; exact hl)] at h1
        cases h1
        rw [List.getElem?_set_ne (Ne.symm m)] at h2
        exact absurd h2 (l.o k d1 p')
    · rcases set_cases p with ⟨ek, e2, hl2⟩ | ⟨m, p'⟩
      · rw [ek, set_self (by rw [← r.len]; exact hl2)] at h2
        cases h2
        rw [List.getElem?_set_ne (Ne.symm n)] at h1
        exact absurd h1 (l.o j c1 q')
      · rw [List.getElem?_set_ne (Ne.symm n)] at h1
        rw [List.getElem?_set_ne (Ne.symm m)] at h2
        exact r.ap j k c1 d1 a1 q' p' h1 h2
/-- slots forgotten (and those of the layer changed alike) -/
theorem Rel.un (r : Rel b RR F s σ H) {sl : List SV} {τ : L2.St} (hl : sl.length = τ.length) (h : ∀ (i : Nat) (x : SV), sl[i]? = some x → x ≠ SV.un → s.sl[i]? = some x ∧ τ[i]? = σ[i]?) : Rel b RR F ⟨sl, s.st⟩ τ H where
  fz := r.fz
  f0 := r.f0
  fn := r.fn
  keep := r.keep
  pre := r.pre
  new := r.new
  nd := r.nd
  rf := r.rf
  stl := r.stl
  st := r.st
  len := hl
  sd := fun j y q => by
    obtain ⟨h1, h2⟩ := h j _ q (by intro z; cases z)
    obtain ⟨w, k1, k2⟩ := r.sd j y h1
    exact ⟨w, by rw [h2]; exact k1, k2⟩
  so := fun j y q => by
    obtain ⟨h1, h2⟩ := h j _ q (by intro z; cases z)
    obtain ⟨w, k1, k2⟩ := r.so j y h1
    exact ⟨w, by rw [h2]; exact k1, k2⟩
  ap := fun j k c d a q p h1 h2 => by
    obtain ⟨x1, y1⟩ := h j _ q (by intro z; cases z)
    obtain ⟨x2, y2⟩ := h k _ p (by intro z; cases z)
    rw [y1] at h1; rw [y2] at h2
    exact r.ap j k c d a x1 x2 h1 h2
/-- a name's own object is kept from here on -/
theorem Rel.frzS (r : Rel b RR F s σ H) {i : Nat} {c : Cell} {x : D} (e : s.sl[i]? = some (.own c)) (v : c.view = some x) :
    ∃ a F', σ[i]? = some (some (.ref a)) ∧ Same F F' ∧ Rep b.K b.g RR F' x (.ref a) ∧ Rel b RR F' ⟨s.sl.set i (.d x), s.st⟩ σ H := by
  obtain ⟨a, h1, h2, h3, h4, h5⟩ := r.so i c e
  have hi : i < s.sl.length := (List.getElem?_eq_some_iff.mp e).1
  -- the slot is forgotten, then the object is alone
  have r1 : Rel b RR F ⟨s.sl.set i .un, s.st⟩ σ H := r.un (by simp [r.len]) fun j y q n => by
    rcases set_cases q with ⟨rfl, e, _⟩ | ⟨m, q⟩
    · exact absurd e n
    · exact ⟨q, rfl⟩
  have l1 : Lone b RR F ⟨s.sl.set i .un, s.st⟩ σ a := ⟨h3, h4, h5, fun j d q p => by
    rcases set_cases q with ⟨rfl, e2, _⟩ | ⟨m, q⟩
    · cases e2
    · exact m (r.ap j i d c a q e p h1)⟩
  have hσ : σ.set i (some (.ref a)) = σ := by
    apply List.ext_getElem?
    intro j
    by_cases hj : j = i
    · subst hj
      rw [List.getElem?_set_self (by rw [← r.len]; exact hi), h1]
    · rw [List.getElem?_set_ne (Ne.symm hj)]
  obtain ⟨o, ho⟩ := h2.there
  obtain ⟨r2, e2⟩ := r1.frz l1 ho
  have rx : Rep b.K b.g RR (upd F a o) x (.ref a) := by
    cases h2 with
    | lst h r => cases v; rw [ho] at h; cases h; exact .lst upd_same (r.mono e2 (List.prefix_refl _))
    | dK h r => cases v; rw [ho] at h; cases h; exact .dct upd_same (r.mono e2 (List.prefix_refl _))
  have r3 := r2.storeD (i := i) rx
  rw [hσ] at r3
  refine ⟨a, upd F a o, h1, e2, rx, ?_⟩
  have el : (s.sl.set i SV.un).set i (.d x) = s.sl.set i (.d x) := by rw [List.set_set]
  rw [← el]
  exact r3
/-- a name's own object is written -/
theorem Rel.writeS (r : Rel b RR F s σ H) {i : Nat} {c c' : Cell} {o : HO} (e : s.sl[i]? = some (.own c)) (h : σ[i]? = some (some (.ref a))) (k : CellAt b.K b.g RR F (upd H a o) a c') :
    Rel b RR F ⟨s.sl.set i (.own c'), s.st⟩ σ (upd H a o) := by
  obtain ⟨a', h1, h2, h3, h4, h5⟩ := r.so i c e
  rw [h] at h1; cases h1
  have ne : ∀ {c x}, F c = some x → c ≠ a := fun q z => by rw [z, h3] at q; cases q
  refine ⟨fun c x q => ?_, r.f0, r.fn, fun c x q n => ?_, r.pre, r.new, r.nd, r.rf, r.stl, fun n d x q p => ?_, by simp [r.len], fun j x q => ?_, fun j d q => ?_, fun j l d1 d2 x q p q1 p1 => ?_⟩
  · rw [upd_ne (ne q)]; exact r.fz _ _ q
  · rw [upd_ne fun z => by rw [z, h5] at q; cases q]; exact r.keep c x q n
  · have hx : x ≠ a := fun z => h4 (z ▸ List.mem_of_getElem? p)
    exact ⟨(r.st n d x q p).1.mono (Same.refl _) (List.prefix_refl _) fun o w => by rw [upd_ne hx]; exact w, (r.st n d x q p).2⟩
  · rcases set_cases q with ⟨rfl, e2, _⟩ | ⟨m, q⟩
    · cases e2
    · exact r.sd j x q
  · rcases set_cases q with ⟨rfl, e2, _⟩ | ⟨m, q⟩
    · cases e2
      exact ⟨a, h, k, h3, h4, h5⟩
    · obtain ⟨a2, k1, k2, k3⟩ := r.so j d q
      have hx : a2 ≠ a := fun z => m (r.ap j i d c a q e (z ▸ k1) h)
      exact ⟨a2, k1, k2.mono (Same.refl _) (List.prefix_refl _) fun o w => by rw [upd_ne hx]; exact w, k3⟩
  · have f : ∀ {m : Nat} {d : Cell}, (s.sl.set i (SV.own c'))[m]? = some (SV.own d) → ∃ d', s.sl[m]? = some (SV.own d') := fun {m d} q => by
      rcases set_cases q with ⟨rfl, e2, _⟩ | ⟨m, q⟩
      · exact ⟨c, e⟩
      · exact ⟨d, q⟩
    obtain ⟨e1, f1⟩ := f q
    obtain ⟨e2, f2⟩ := f p
    exact r.ap j l e1 e2 x f1 f2 q1 p1
/-- an object of the store is written -/
theorem Rel.writeC (r : Rel b RR F s σ H) {n : Nat} {c' : Cell} {o : HO} (h : RR[n]? = some a) (k : CellAt b.K b.g RR F (upd H a o) a c') (hp : c'.pure = true) :
    Rel b RR F ⟨s.sl, s.st.set n c'⟩ σ (upd H a o) := by
  have ha : a ∈ RR := List.mem_of_getElem? h
  have h3 := r.rf a ha
  have ne : ∀ {c x}, F c = some x → c ≠ a := fun q z => by rw [z, h3] at q; cases q
  refine ⟨fun c x q => ?_, r.f0, r.fn, fun c x q m => ?_, r.pre, r.new, r.nd, r.rf, by simp [r.stl], fun m d x q p => ?_, r.len, r.sd, fun j d q => ?_, r.ap⟩
  · rw [upd_ne (ne q)]; exact r.fz _ _ q
  · by_cases z : c = a
    · subst z
      exact absurd (r.new c ha m) (by rw [q]; intro w; cases w)
    · rw [upd_ne z]; exact r.keep c x q m
  · rcases set_cases q with ⟨rfl, e2, _⟩ | ⟨nm, q⟩
    · subst e2
      rw [h] at p; cases p
      exact ⟨k, hp⟩
    · have hx : x ≠ a := fun z => by
        subst z
        obtain ⟨h1, e1⟩ := List.getElem?_eq_some_iff.mp h
        obtain ⟨h2, e2⟩ := List.getElem?_eq_some_iff.mp p
        exact nm ((List.getElem_inj r.nd).mp (e2.trans e1.symm))
      exact ⟨(r.st m d x q p).1.mono (Same.refl _) (List.prefix_refl _) fun o w => by rw [upd_ne hx]; exact w, (r.st m d x q p).2⟩
  · obtain ⟨a2, k1, k2, k3, k4, k5⟩ := r.so j d q
    have hx : a2 ≠ a := fun z => k4 (z ▸ ha)
    exact ⟨a2, k1, k2.mono (Same.refl _) (List.prefix_refl _) fun o w => by rw [upd_ne hx]; exact w, k3, k4, k5⟩
/-- a new object is put into the store -/
theorem Rel.push (r : Rel b RR F s σ H) {c : Cell} (k : CellAt b.K b.g RR F H a c) (l : Lone b RR F s σ a) (hp : c.pure = true) : Rel b (RR ++ [a]) F ⟨s.sl, s.st ++ [c]⟩ σ H := by
  have pp : RR <+: RR ++ [a] := List.prefix_append _ _
  refine ⟨r.fz, r.f0, r.fn, r.keep, r.pre.trans pp, fun c m n => ?_, ?_, fun c m => ?_, by simp [r.stl], fun n d x q p => ?_, r.len, fun i x q => ?_, fun i d q => ?_, r.ap⟩
  · rcases List.mem_append.mp m with m | m
    · exact r.new c m n
    · rw [List.mem_singleton.mp m]; exact l.h
  · rw [List.nodup_append]
    exact ⟨r.nd, by simp, fun x hx y hy z => l.r (by rw [List.mem_singleton.mp hy] at z; exact z ▸ hx)⟩
  · rcases List.mem_append.mp m with m | m
    · exact r.rf c m
    · rw [List.mem_singleton.mp m]; exact l.f
  · by_cases hn : n < s.st.length
    · rw [List.getElem?_append_left hn] at q
      rw [List.getElem?_append_left (by rw [← r.stl]; exact hn)] at p
      exact ⟨(r.st n d x q p).1.mono (Same.refl _) pp fun _ w => w, (r.st n d x q p).2⟩
    · have e : n = s.st.length := by
        have := (List.getElem?_eq_some_iff.mp q).1
        simp at this; omega
      subst e
      rw [List.getElem?_concat_length] at q
      cases q
      rw [r.stl, List.getElem?_concat_length] at p
      cases p
      exact ⟨k.mono (Same.refl _) pp fun _ w => w, hp⟩
  · obtain ⟨v, h1, h2⟩ := r.sd i x q
    exact ⟨v, h1, h2.mono (Same.refl _) pp⟩
  · obtain ⟨a2, k1, k2, k3, k4, k5⟩ := r.so i d q
    refine ⟨a2, k1, k2.mono (Same.refl _) pp fun _ w => w, k3, fun m => ?_, k5⟩
    rcases List.mem_append.mp m with m | m
    · exact k4 m
    · rw [List.mem_singleton.mp m] at k1
      exact l.o i d q k1
/-- an object is set aside: it stays while others work -/
def Bs.aside (b : Bs) (a : Addr) (o : HO) : Bs := { b with H0 := upd b.H0 a o }
theorem Rel.aside (r : Rel b RR F s σ H) {o : HO} (l : Lone b RR F s σ a) (h : H a = some o) : Rel (b.aside a o) RR F s σ H where
  fz := r.fz
  f0 := r.f0
  fn := fun c x q => by
    rcases r.fn c x q with w | w
    · exact .inl w
    · refine .inr ?_
      show upd b.H0 a o c = none
      rw [upd_ne fun z => by rw [z, l.f] at q; cases q]; exact w
  keep := fun c x q n => by
    have q : upd b.H0 a o c = some x := q
    by_cases z : c = a
    · subst z; rw [upd_same] at q; cases q; exact h
    · rw [upd_ne z] at q; exact r.keep c x q n
  pre := r.pre
  new := fun c m n => by
    show upd b.H0 a o c = none
    rw [upd_ne fun z => l.r (by rw [← z]; exact m)]; exact r.new c m n
  nd := r.nd
  rf := r.rf
  stl := r.stl
  st := r.st
  len := r.len
  sd := r.sd
  so := fun i c q => by
    obtain ⟨x, h1, h2, h3, h4, h5⟩ := r.so i c q
    refine ⟨x, h1, h2, h3, h4, ?_⟩
    show upd b.H0 a o x = none
    rw [upd_ne fun z => l.o i c q (by rw [← z]; exact h1)]; exact h5
  ap := r.ap
theorem Rel.unaside {o : HO} (r : Rel (b.aside a o) RR F s σ H) (h0 : b.H0 a = none) (hr : a ∉ b.R0) (hf : b.F0 a = none) : Rel b RR F s σ H ∧ Lone b RR F s σ a ∧ H a = some o := by
  have down : ∀ {c}, upd b.H0 a o c = none → b.H0 c = none := fun {c} q => by
    by_cases z : c = a
    · subst z; exact h0
    · rw [upd_ne z] at q; exact q
  have nota : ∀ {c}, upd b.H0 a o c = none → c ≠ a := fun q z => by rw [z, upd_same] at q; cases q
  refine ⟨⟨r.fz, r.f0, fun c x q => ?_, fun c x q n => ?_, r.pre, fun c m n => down (r.new c m n), r.nd, r.rf, r.stl, r.st, r.len, r.sd, fun i c q => ?_, r.ap⟩, ⟨?_, fun m => ?_, h0, fun i c q p => ?_⟩, ?_⟩
  · rcases r.fn c x q with w | w
    · exact .inl w
    · exact .inr (down w)
  · refine r.keep c x ?_ n
    show upd b.H0 a o c = some x
    rw [upd_ne fun z => by rw [z, h0] at q; cases q]; exact q
  · obtain ⟨x, h1, h2, h3, h4, h5⟩ := r.so i c q
    exact ⟨x, h1, h2, h3, h4, down h5⟩
  · cases q : F a with
    | none => rfl
    | some x =>
      rcases r.fn a x q with w | w
      · have w : b.F0 a = some x := w
        rw [hf] at w; cases w
      · exact absurd rfl (nota w)
  · exact nota (r.new a m hr) rfl
  · obtain ⟨x, h1, h2, h3, h4, h5⟩ := r.so i c q
    rw [p] at h1; cases h1
    exact nota h5 rfl
  · exact r.keep a o (show upd b.H0 a o a = some o from upd_same) hr
end
end G4

namespace G4
open PySem PySem.Spec PyProof.Rows L2

def RRel (b : Bs) (RR : List Addr) (F : Hp) (s : S) (σ : L2.St) (H : Hp) : R → V → Prop
  | .d x, v => Rep b.K b.g RR F x v
  | .new c, v => ∃ a, v = .ref a ∧ CellAt b.K b.g RR F H a c ∧ Lone b RR F s σ a
  | .pl i, v => σ[i]? = some (some v)
/-- an exception of the little Python, as the layer tells it -/
def XRel (b : Bs) (e : Exn) (cls : Value) (d : Option Addr) (H : Hp) : Prop := ∃ C, b.g e.c = some C ∧ cls = .ref C ∧
  ((e.fs = [] ∧ d = none) ∨ ∃ dd ws, d = some dd ∧ H dd = some (.xd ws) ∧ ∀ f x, e.fs.lookup f = some x → ∃ v, x.toV = some v ∧ ws.lookup f = some v)
def Go {α : Type} (b : Bs) (W : WX) (σ : L2.St) (RR : List Addr) (F : Hp) (o : O α) (P : α → S → List Addr → Hp → Hp → Prop) : Prop :=
  match o with
  | .ok a s => ∀ RR' F' H', RR <+: RR' → Same F F' → Rel b RR' F' s σ H' → P a s RR' F' H'
  | .ex e s => ∀ cls d RR' F' H', RR <+: RR' → Same F F' → Rel b RR' F' s σ H' → XRel b e cls d H' → W cls d σ H'
  | .bad => False
section
variable {α β : Type} {b : Bs} {W : WX} {σ : L2.St} {RR RR' : List Addr} {F F' H H' : Hp} {o : O α} {P P' : α → S → List Addr → Hp → Hp → Prop}
theorem Go.up (h : Go b W σ RR F o P) (p : RR <+: RR') (e : Same F F') : Go b W σ RR' F' o P := by
  cases o with
  | ok a s => exact fun R2 F2 H2 q f r => h R2 F2 H2 (p.trans q) (e.trans f) r
  | ex x s => exact fun c d R2 F2 H2 q f r => h c d R2 F2 H2 (p.trans q) (e.trans f) r
  | bad => exact h
theorem Go.imp (h : Go b W σ RR F o P) (k : ∀ a s RR' F' H', RR <+: RR' → Same F F' → Rel b RR' F' s σ H' → P a s RR' F' H' → P' a s RR' F' H') : Go b W σ RR F o P' := by
  cases o with
  | ok a s => exact fun R2 F2 H2 q f r => k _ _ _ _ _ q f r (h R2 F2 H2 q f r)
  | ex x s => exact h
  | bad => exact h
theorem Go.bind {f : α → S → O β} {Q : β → S → List Addr → Hp → Hp → Prop} (h : Go b W σ RR F (o.bind f) Q)
    (k : ∀ a s RR' F' H', RR <+: RR' → Same F F' → Rel b RR' F' s σ H' → Go b W σ RR' F' (f a s) Q → P a s RR' F' H') : Go b W σ RR F o P := by
  cases o with
  | ok a s => exact fun R2 F2 H2 q f r => k _ _ _ _ _ q f r (Go.up h q f)
  | ex x s => exact h
  | bad => exact h
theorem Go.bind' {f : α → S → O β} {Q : β → S → List Addr → Hp → Hp → Prop} (h : Go b W σ RR F (o.bind f) Q)
    (k : ∀ a s RR' F' H', o = .ok a s → RR <+: RR' → Same F F' → Rel b RR' F' s σ H' → Go b W σ RR' F' (f a s) Q → P a s RR' F' H') : Go b W σ RR F o P := by
  cases o with
  | ok a s => exact fun R2 F2 H2 q f r => k _ _ _ _ _ rfl q f r (Go.up h q f)
  | ex x s => exact h
  | bad => exact h
/-- at the state as it is -/
theorem Go.now {a : α} {s : S} (h : Go b W σ RR F (.ok a s) P) (r : Rel b RR F s σ H) : P a s RR F H := h RR F H (List.prefix_refl _) (Same.refl _) r
theorem Go.opt {x : Option α} {s : S} (h : Go b W σ RR F (O.ofOpt x s) P) : ∃ a, x = some a ∧ Go b W σ RR F (.ok a s) P := by
  cases x with
  | none => exact h.elim
  | some a => exact ⟨a, rfl, h⟩
end
section
variable (b : Bs) (W : WX)
def tE (f : S → O R) : TE := fun σ H Q => ∃ RR F s, Rel b RR F s σ H ∧ Go b W σ RR F (f s) fun r s' RR' F' H' => ∀ v, RRel b RR' F' s' σ H' r v → Q v H'
def tV (f : S → O D) : TE := fun σ H Q => ∃ RR F s, Rel b RR F s σ H ∧ Go b W σ RR F (f s) fun x _ RR' F' H' => ∀ v, Rep b.K b.g RR' F' x v → Q v H'
def tB' (f : S → O Bool) : TT := fun σ H Q => ∃ RR F s, Rel b RR F s σ H ∧ Go b W σ RR F (f s) fun x _ _ _ H' => Q x H'
def tAs (f : S → O (List D)) : TA := fun σ H Q => ∃ RR F s, Rel b RR F s σ H ∧ Go b W σ RR F (f s) fun x _ RR' F' H' => ∀ vs, Reps b.K b.g RR' F' x vs → Q vs H'
def tOs (f : S → O (List R)) : TA := fun σ H Q => ∃ RR F s, Rel b RR F s σ H ∧ Go b W σ RR F (f s) fun x s' RR' F' H' => ∀ vs, Paired (fun r v => RRel b RR' F' s' σ H' r v ∧ ∀ c, r ≠ .new c) x vs → Q vs H'
def tOo (f : S → O (Option Int)) : TO := fun σ H Q => ∃ RR F s, Rel b RR F s σ H ∧ Go b W σ RR F (f s) fun x _ _ _ H' => Q x H'
end
theorem _root_.L2.PE.weak {X : Cx} {e : Expr} {t t' : TE} (h : PE X e t) (k : ∀ σ H Q, t' σ H Q → t σ H Q) : PE X e t' := ⟨fun pins s σ H Q I q => h.run pins s σ H Q I (k σ H Q q)⟩
theorem _root_.L2.PT.weak {X : Cx} {e : Expr} {t t' : TT} (h : PT X e t) (k : ∀ σ H Q, t' σ H Q → t σ H Q) : PT X e t' := ⟨fun pins s σ H Q I q => h.run pins s σ H Q I (k σ H Q q)⟩
theorem _root_.L2.PA.weak {X : Cx} {e : List Expr} {t t' : TA} (h : PA X e t) (k : ∀ σ H Q, t' σ H Q → t σ H Q) : PA X e t' := ⟨fun pos pins s σ H Q I q => h.run pos pins s σ H Q I (k σ H Q q)⟩
theorem _root_.L2.PK.weak {X : Cx} {e : List Keyword} {t t' : TA} (h : PK X e t) (k : ∀ σ H Q, t' σ H Q → t σ H Q) : PK X e t' := ⟨fun pos pins s σ H Q I q => h.run pos pins s σ H Q I (k σ H Q q)⟩
section
variable {X : Cx} {b : Bs} {W : WX} {σ : L2.St} {RR RR' : List Addr} {F F' H H' : Hp} {s : S}
theorem RRel.up {r : R} {v : V} {s' : S} (h : RRel b RR F s σ H r v) (hn : ∀ c, r ≠ .new c) (p : RR <+: RR') (e : Same F F') : RRel b RR' F' s' σ H' r v := by
  cases r with
  | d x => exact Rep.mono e p h
  | new c => exact absurd rfl (hn c)
  | pl i => exact h
theorem settle_new {r r' : R} (h : r.settle = some r') : ∀ c, r' ≠ .new c := by
  intro c z
  subst z
  cases r with
  | d x => cases h
  | new d =>
    simp only [R.settle] at h
    cases q : d.view with
    | none => rw [q] at h; cases h
    | some x => rw [q] at h; cases h
  | pl i => cases h
/-- what was made just now is kept -/
theorem frz_new {c : Cell} {x : D} {v : V} (r : Rel b RR F s σ H) (h : RRel b RR F s σ H (.new c) v) (e : c.view = some x) : ∃ F', Same F F' ∧ Rel b RR F' s σ H ∧ Rep b.K b.g RR F' x v := by
  obtain ⟨a, rfl, k, l⟩ := h
  obtain ⟨o, ho⟩ := k.there
  obtain ⟨r2, e2⟩ := r.frz l ho
  refine ⟨_, e2, r2, ?_⟩
  cases k with
  | lst h r => cases e; rw [ho] at h; cases h; exact .lst upd_same (r.mono e2 (List.prefix_refl _))
  | dK h r => cases e; rw [ho] at h; cases h; exact .dct upd_same (r.mono e2 (List.prefix_refl _))
theorem snd_opd {e : Expr} {f : S → O R} (h : PE X e (tE b W f)) : PE X e (tE b W fun s => (f s).opd) := by
  refine h.weak fun σ H Q ⟨RR, F, s, r, q⟩ => ⟨RR, F, s, r, q.bind fun x s RR F H _ _ r q v hv => ?_⟩
  obtain ⟨y, hy, q⟩ := q.opt
  cases x with
  | d x => cases hy; exact q.now r v hv
  | pl i => cases hy; exact q.now r v hv
  | new c =>
    cases e : c.view with
    | none => simp [R.settle, e] at hy
    | some x =>
      simp only [R.settle, e, Option.map_some, Option.some.injEq] at hy
      subst hy
      obtain ⟨F', e1, r1, k1⟩ := frz_new r hv e
      exact q RR F' H (List.prefix_refl _) e1 r1 v k1
theorem snd_val {e : Expr} {f : S → O R} (h : PE X e (tE b W f)) : PE X e (tV b W fun s => (f s).val) := by
  refine h.weak fun σ H Q ⟨RR, F, s, r, q⟩ => ⟨RR, F, s, r, q.bind fun x s RR F H _ _ r q v hv => ?_⟩
  cases x with
  | d x =>
    exact q.now r v hv
  | new c =>
    simp only [S.fz] at q
    cases e : c.view with
    | none => rw [e] at q; exact q.elim
    | some x =>
      rw [e] at q
      obtain ⟨F', e1, r1, k1⟩ := frz_new r hv e
      exact q RR F' H (List.prefix_refl _) e1 r1 v k1
  | pl i =>
    simp only [S.fz] at q
    cases e : s.sl[i]? with
    | none => rw [e] at q; exact q.elim
    | some z =>
      rw [e] at q
      cases z with
      | un => exact q.elim
      | d x =>
        obtain ⟨w, h1, h2⟩ := r.sd i x e
        have hv : σ[i]? = some (some v) := hv
        rw [hv] at h1; cases h1
        exact q.now r v h2
      | own c =>
        cases ev : c.view with
        | none => simp only [ev, Option.map_none] at q; exact q.elim
        | some x =>
          simp only [ev, Option.map_some] at q
          obtain ⟨a, F', h1, e1, k1, r1⟩ := r.frzS e ev
          have hv : σ[i]? = some (some v) := hv
          rw [hv] at h1; cases h1
          exact q RR F' H (List.prefix_refl _) e1 r1 _ k1
/-- a place that is read -/
theorem vw_of {x : R} {y : D} {v : V} (r : Rel b RR F s σ H) (h : RRel b RR F s σ H x v) (e : s.rd x = some y) : Vw b.K b.g RR F H y v := by
  have rdD : ∀ {x : D}, Rep b.K b.g RR F x v → s.rdD x = some y → Vw b.K b.g RR F H y v := fun {x} hx ex => by
    cases hx with
    | @obj n a ho =>
      simp only [S.rdD] at ex
      cases q : s.st[n]? with
      | none => rw [q] at ex; cases ex
      | some c =>
        rw [q] at ex
        exact (r.st n c a q ho).1.view ex
    | non => cases ex; exact .non
    | bl => cases ex; exact .bl _
    | int => cases ex; exact .int _
    | str => cases ex; exact .str _
    | tup h1 k => cases ex; exact .tup h1 k
    | lst h1 k => cases ex; exact .lst (r.fz _ _ h1) k
    | dct h1 k => cases ex; exact .dct (r.fz _ _ h1) k
    | fn h1 => cases ex; exact .fn h1
    | scr h1 => cases ex; exact .scr (r.fz.seq h1)
  cases x with
  | d x => exact rdD h e
  | new c =>
    obtain ⟨a, rfl, k, l⟩ := h
    exact k.view e
  | pl i =>
    simp only [S.rd] at e
    have h : σ[i]? = some (some v) := h
    cases q : s.sl[i]? with
    | none => rw [q] at e; cases e
    | some z =>
      rw [q] at e
      cases z with
      | un => cases e
      | d x =>
        obtain ⟨w, h1, h2⟩ := r.sd i x q
        rw [h] at h1; cases h1
        exact rdD h2 e
      | own c =>
        obtain ⟨a, h1, h2, _⟩ := r.so i c q
        rw [h] at h1; cases h1
        exact h2.view e
end
end G4

namespace G4
open PySem PySem.Spec PyProof.Rows L2

def ResOk (b : Bs) (RR : List Addr) (F H : Hp) (res : R) (Q : VK) : Prop :=
  match res with
  | .d z => ∀ v F' H', Same F F' → Same H H' → (∀ a o, F' a = some o → F a = some o ∨ (H a = none ∧ H' a = some o)) → Rep b.K b.g RR F' z v → Q v H'
  | .new c => ∀ p H', H p = none → Same H H' → CellAt b.K b.g RR F H' p c → Q (.ref p) H'
  | .pl _ => False
section
variable {X : Cx} {b : Bs} {W : WX} {σ : L2.St} {RR RR' : List Addr} {F F' H H' : Hp} {s : S} {Q : VK}
theorem Rel.upg (r : Rel b RR F s σ H) (e : Same F F') (h : Same H H') (u : ∀ a o, F' a = some o → F a = some o ∨ (H a = none ∧ H' a = some o)) : Rel b RR F' s σ H' := by
  have r1 := r.same h
  have nf : ∀ a, H a ≠ none → F a = none → F' a = none := fun a n q => by
    cases z : F' a with
    | none => rfl
    | some o =>
      rcases u a o z with w | ⟨w, _⟩
      · rw [q] at w; cases w
      · exact absurd w n
  refine ⟨fun a o q => ?_, r.f0.trans e, fun a o q => ?_, r1.keep, r.pre, r.new, r.nd, fun a m => ?_, r.stl, fun n c a q p => ?_, r.len, fun i x q => ?_, fun i c q => ?_, r.ap⟩
  · rcases u a o q with w | ⟨_, w⟩
    · exact r1.fz _ _ w
    · exact w
  · rcases u a o q with w | ⟨w, _⟩
    · exact r.fn _ _ w
    · exact .inr (r.lone w).h
  · obtain ⟨o, ho⟩ := r.there m
    exact nf a (by rw [ho]; intro z; cases z) (r.rf a m)
  · exact ⟨(r1.st n c a q p).1.mono e (List.prefix_refl _) fun _ z => z, (r1.st n c a q p).2⟩
  · obtain ⟨v, h1, h2⟩ := r.sd i x q
    exact ⟨v, h1, h2.mono e (List.prefix_refl _)⟩
  · obtain ⟨a, h1, h2, h3, h4⟩ := r1.so i c q
    obtain ⟨a', k1, k2, _⟩ := r.so i c q
    rw [h1] at k1; cases k1
    obtain ⟨o, ho⟩ := k2.there
    exact ⟨a, h1, h2.mono e (List.prefix_refl _) fun _ z => z, nf a (by rw [ho]; intro z; cases z) h3, h4⟩
theorem Lone.same {a : Addr} (l : Lone b RR F s σ a) : Lone b RR F s σ a := l
theorem res_ok {res : R} (q : Go b W σ RR F (.ok res s) fun r s' RR' F' H' => ∀ v, RRel b RR' F' s' σ H' r v → Q v H') (r : Rel b RR F s σ H) (n : ∀ i, res ≠ .pl i) : ResOk b RR F H res Q := by
  cases res with
  | d z => exact fun v F' H' e h u k => q RR F' H' (List.prefix_refl _) e (r.upg e h u) v k
  | new c => exact fun p H' hp h k => q RR F H' (List.prefix_refl _) (Same.refl _) (r.same h) _ ⟨p, rfl, k, r.lone hp⟩
  | pl i => exact absurd rfl (n i)
theorem ResOk.imm {z : D} {v : V} (q : ResOk b RR F H (.d z) Q) (k : Rep b.K b.g RR F z v) : Q v H := q v F H (Same.refl _) (Same.refl _) (fun _ _ h => .inl h) k
theorem ResOk.lst {l : List D} {vs : List V} (q : ResOk b RR F H (.new (.lst l)) Q) (k : Reps b.K b.g RR F l vs) : ∀ p, H p = none → Q (.ref p) (upd H p (.lst vs)) :=
  fun p hp => q p _ hp (same_new hp) (.lst upd_same k)
theorem ResOk.tup {l : List D} {vs : List V} (q : ResOk b RR F H (.d (.tup l)) Q) (e : Same F H) (k : Reps b.K b.g RR F l vs) : ∀ p, H p = none → Q (.ref p) (upd H p (.tup vs)) := fun p hp => by
  have fp : F p = none := by
    cases z : F p with
    | none => rfl
    | some o => rw [e _ _ z] at hp; cases hp
  have e1 : Same F (upd F p (.tup vs)) := same_new fp
  refine q _ (upd F p (.tup vs)) _ e1 (same_new hp) (fun a o h => ?_) (.tup (.inl (.inl upd_same)) (k.mono e1 (List.prefix_refl _)))
  by_cases z : a = p
  · subst z
    rw [upd_same] at h; cases h
    exact .inr ⟨hp, upd_same⟩
  · rw [upd_ne z] at h; exact .inl h

/-! ### operators -/
theorem _root_.L2.OpR.imp {X : Cx} {f : Value → Value → Sem Value} {r r' : R2} (h : OpR X f r) (k : ∀ x y H Q, r' x y H Q → r x y H Q) : OpR X f r' := by
  intro pins s σ H x y v u Q I r1 r2 q
  exact h pins s σ H x y v u Q I r1 r2 (k _ _ _ _ q)
theorem _root_.L2.CallR.imp {X : Cx} {f : Value} {r r' : List V → Hp → VK → Prop} (h : CallR X f r) (k : ∀ x H Q, r' x H Q → r x H Q) : CallR X f r' := by
  intro pins s σ H x u Q I r1 q
  exact h pins s σ H x u Q I r1 (k _ _ _ q)
def rBin (b : Bs) (o : Operator) : R2 := fun v w H Q => ∃ RR F x y res, Same F H ∧ Vw b.K b.g RR F H x v ∧ Vw b.K b.g RR F H y w ∧ opBin o x y = some res ∧ ResOk b RR F H res Q
theorem op_pow' : OpR X (binaryOp .Pow) (rI (fun i j => 0 ≤ j ∧ (Builtin.Int.intBits i : Int) * j ≤ 2 ^ 27) fun i j => .int (i ^ j.toNat)) := opI fun _ _ _ _ _ _ _ hc q => pow_int hc.1 hc.2 q
theorem big_eq : (sizeLine : Nat) = big := by rw [sizeLine_eq]
theorem Reps.unref {K : PySem.W.Frag} {g : Str → Option Addr} {l : List D} {v : V} (h : Vw K g RR F H (.lst l) v) : ∃ a vs, v = .ref a ∧ H a = some (.lst vs) ∧ Reps K g RR F l vs := by
  cases h with
  | lst h k => exact ⟨_, _, rfl, h, k⟩
theorem ok_add : OpR X (binaryOp .Add) (rBin b .Add) := by
  refine ((op_add (X := X)).or (op_add_str.or op_cat)).imp fun v w H Q ⟨RR, F, x, y, res, e, hx, hy, ho, q⟩ => ?_
  cases hx <;> cases hy <;> simp only [opBin, Option.some.injEq, reduceCtorEq] at ho
  · exact .inl ⟨_, _, rfl, rfl, by subst ho; exact q.imm (.int _)⟩
  · split at ho
    · rename_i hl
      cases ho
      exact .inr (.inl ⟨_, _, rfl, rfl, by rw [big_eq]; exact hl, q.imm (.str _)⟩)
    · cases ho
  · rename_i h1 k1 _ _ _ h2 k2 _
    split at ho
    · rename_i hl
      cases ho
      refine .inr (.inr ⟨_, _, _, _, rfl, rfl, h1, h2, ?_, q.lst (k1.app k2)⟩)
      rw [← k1.len, ← k2.len, big_eq]
      exact hl
    · cases ho
theorem ok_sub : OpR X (binaryOp .Sub) (rBin b .Sub) := by
  refine (op_sub (X := X)).imp fun v w H Q ⟨RR, F, x, y, res, e, hx, hy, ho, q⟩ => ?_
  cases hx <;> cases hy <;> simp only [opBin, Option.some.injEq, reduceCtorEq] at ho
  exact ⟨_, _, rfl, rfl, by subst ho; exact q.imm (.int _)⟩
theorem ok_mul : OpR X (binaryOp .Mult) (rBin b .Mult) := by
  refine ((op_mulW (X := X)).or op_rep).imp fun v w H Q ⟨RR, F, x, y, res, e, hx, hy, ho, q⟩ => ?_
  cases hx <;> cases hy <;> simp only [opBin, Option.some.injEq, reduceCtorEq] at ho
  · split at ho
    · rename_i hl
      cases ho
      exact .inl ⟨_, _, rfl, rfl, hl, q.imm (.int _)⟩
    · cases ho
  · rename_i h1 k1 _ _
    split at ho
    · rename_i hl
      cases ho
      refine .inr ⟨_, _, _, rfl, rfl, h1, by have := small_iff hl.2; omega, by have := small_iff hl.2; omega, ?_, q.lst (k1.rep _)⟩
      rw [← k1.len, big_eq]
      exact hl.1
    · cases ho
theorem ok_fdiv : OpR X (binaryOp .FloorDiv) (rBin b .FloorDiv) := by
  refine (op_fdivW (X := X)).imp fun v w H Q ⟨RR, F, x, y, res, e, hx, hy, ho, q⟩ => ?_
  cases hx <;> cases hy <;> simp only [opBin, Option.some.injEq, reduceCtorEq] at ho
  split at ho
  · rename_i hl
    cases ho
    exact ⟨_, _, rfl, rfl, hl, q.imm (.int _)⟩
  · cases ho
theorem ok_mod : OpR X (binaryOp .Mod) (rBin b .Mod) := by
  refine (op_mod (X := X)).imp fun v w H Q ⟨RR, F, x, y, res, e, hx, hy, ho, q⟩ => ?_
  cases hx <;> cases hy <;> simp only [opBin, Option.some.injEq, reduceCtorEq] at ho
  split at ho
  · rename_i hl
    cases ho
    exact ⟨_, _, rfl, rfl, hl, q.imm (.int _)⟩
  · cases ho
theorem ok_pow : OpR X (binaryOp .Pow) (rBin b .Pow) := by
  refine (op_pow' (X := X)).imp fun v w H Q ⟨RR, F, x, y, res, e, hx, hy, ho, q⟩ => ?_
  cases hx <;> cases hy <;> simp only [opBin, Option.some.injEq, reduceCtorEq] at ho
  split at ho
  · rename_i hl
    cases ho
    exact ⟨_, _, rfl, rfl, hl, q.imm (.int _)⟩
  · cases ho
theorem ok_shl : OpR X (binaryOp .LShift) (rBin b .LShift) := by
  refine (op_shlW (X := X)).imp fun v w H Q ⟨RR, F, x, y, res, e, hx, hy, ho, q⟩ => ?_
  cases hx <;> cases hy <;> simp only [opBin, Option.some.injEq, reduceCtorEq] at ho
  split at ho
  · rename_i hl
    cases ho
    exact ⟨_, _, rfl, rfl, hl, q.imm (.int _)⟩
  · cases ho
theorem ok_shr : OpR X (binaryOp .RShift) (rBin b .RShift) := by
  refine (op_shr (X := X)).imp fun v w H Q ⟨RR, F, x, y, res, e, hx, hy, ho, q⟩ => ?_
  cases hx <;> cases hy <;> simp only [opBin, Option.some.injEq, reduceCtorEq] at ho
  split at ho
  · rename_i hl
    cases ho
    exact ⟨_, _, rfl, rfl, hl, q.imm (.int _)⟩
  · cases ho
theorem ok_band : OpR X (binaryOp .BitAnd) (rBin b .BitAnd) := by
  refine (op_and (X := X)).imp fun v w H Q ⟨RR, F, x, y, res, e, hx, hy, ho, q⟩ => ?_
  cases hx <;> cases hy <;> simp only [opBin, Option.some.injEq, reduceCtorEq] at ho
  exact ⟨_, _, rfl, rfl, by subst ho; exact q.imm (.int _)⟩
theorem ok_bor : OpR X (binaryOp .BitOr) (rBin b .BitOr) := by
  refine (op_or (X := X)).imp fun v w H Q ⟨RR, F, x, y, res, e, hx, hy, ho, q⟩ => ?_
  cases hx <;> cases hy <;> simp only [opBin, Option.some.injEq, reduceCtorEq] at ho
  exact ⟨_, _, rfl, rfl, by subst ho; exact q.imm (.int _)⟩
theorem opBin_none {o : Operator} (h : o ≠ .Add ∧ o ≠ .Sub ∧ o ≠ .Mult ∧ o ≠ .FloorDiv ∧ o ≠ .Mod ∧ o ≠ .Pow ∧ o ≠ .LShift ∧ o ≠ .RShift ∧ o ≠ .BitAnd ∧ o ≠ .BitOr) (x y : D) : opBin o x y = none := by
  obtain ⟨h1, h2, h3, h4, h5, h6, h7, h8, h9, h10⟩ := h
  cases o <;> first | rfl | contradiction
theorem ok_bin (o : Operator) : OpR X (binaryOp o) (rBin b o) := by
  cases o with
  | Add => exact ok_add
  | Sub => exact ok_sub
  | Mult => exact ok_mul
  | FloorDiv => exact ok_fdiv
  | Mod => exact ok_mod
  | Pow => exact ok_pow
  | LShift => exact ok_shl
  | RShift => exact ok_shr
  | BitAnd => exact ok_band
  | BitOr => exact ok_bor
  | MatMult => intro pins s σ H x y v u Q I r1 r2 ⟨RR, F, x, y, res, e, hx, hy, ho, q⟩; rw [opBin_none (by decide)] at ho; cases ho
  | Div => intro pins s σ H x y v u Q I r1 r2 ⟨RR, F, x, y, res, e, hx, hy, ho, q⟩; rw [opBin_none (by decide)] at ho; cases ho
  | BitXor => intro pins s σ H x y v u Q I r1 r2 ⟨RR, F, x, y, res, e, hx, hy, ho, q⟩; rw [opBin_none (by decide)] at ho; cases ho
end
end G4

namespace G4
open PySem PySem.Spec PyProof.Rows L2

mutual
theorem toPD_ok : ∀ (n : Nat) (d : D), D.plainN n d = true → (toPD d).canLay0 = true ∧ (toPD d).depth ≤ n
  | _, .non, _ => ⟨rfl, Nat.zero_le _⟩
  | _, .bl _, _ => ⟨rfl, Nat.zero_le _⟩
  | _, .int _, _ => ⟨rfl, Nat.zero_le _⟩
  | n, .str x, h => ⟨by cases n <;> exact h, Nat.zero_le _⟩
  | n + 1, .tup l, h => by
    have k := toPDs_ok n l h
    exact ⟨k.1, Nat.succ_le_succ k.2⟩
  | n + 1, .lst l, h => by
    have k := toPDs_ok n l h
    exact ⟨k.1, Nat.succ_le_succ k.2⟩
theorem toPDs_ok : ∀ (n : Nat) (l : List D), D.plainsN n l = true → PyData.canLayAll0 (toPDs l) = true ∧ PyData.depthAll (toPDs l) ≤ n
  | _, [], _ => ⟨rfl, Nat.zero_le _⟩
  | n, d :: l, h => by
    simp only [D.plainsN, Bool.and_eq_true] at h
    have k1 := toPD_ok n d h.1
    have k2 := toPDs_ok n l h.2
    refine ⟨?_, ?_⟩
    · show (PyData.canLay0 (toPD d) && PyData.canLayAll0 (toPDs l)) = true
      rw [k1.1, k2.1]; rfl
    · show max (toPD d).depth (PyData.depthAll (toPDs l)) ≤ n
      exact Nat.max_le.mpr ⟨k1.2, k2.2⟩
end
mutual
theorem eqv_toPD : ∀ (n m : Nat) (a c : D), D.plainN n a = true → D.plainN m c = true → D.eqv a c = PyData.eqv (toPD a) (toPD c)
  | n + 1, m + 1, .tup l, .tup r, h, k => by
    simp only [D.eqv, toPD, PyData.eqv]
    exact eqvs_toPD n m l r h k
  | n + 1, m + 1, .lst l, .lst r, h, k => by
    simp only [D.eqv, toPD, PyData.eqv]
    exact eqvs_toPD n m l r h k
  | n, m, .non, c, h, k => by cases c <;> cases m <;> first | rfl | (simp [D.plainN] at k)
  | n, m, .bl _, c, h, k => by cases c <;> cases m <;> first | rfl | (simp [D.plainN] at k)
  | n, m, .int _, c, h, k => by cases c <;> cases m <;> first | rfl | (simp [D.plainN] at k)
  | n, m, .str x, c, h, k => by
    cases c <;> cases m <;> first | rfl | (simp [D.plainN] at k; done) | (simp only [D.eqv, toPD, PyData.eqv]; exact (Bool.beq_eq_decide_eq _ _).symm)
  | n + 1, m, .tup l, .non, h, k => rfl
  | n + 1, m, .tup l, .bl _, h, k => rfl
  | n + 1, m, .tup l, .int _, h, k => rfl
  | n + 1, m, .tup l, .str _, h, k => rfl
  | n + 1, m + 1, .tup l, .lst _, h, k => rfl
  | n + 1, m, .lst l, .non, h, k => rfl
  | n + 1, m, .lst l, .bl _, h, k => rfl
  | n + 1, m, .lst l, .int _, h, k => rfl
  | n + 1, m, .lst l, .str _, h, k => rfl
  | n + 1, m + 1, .lst l, .tup _, h, k => rfl
theorem eqvs_toPD : ∀ (n m : Nat) (a c : List D), D.plainsN n a = true → D.plainsN m c = true → D.eqvs a c = PyData.eqvAll (toPDs a) (toPDs c)
  | _, _, [], [], _, _ => rfl
  | _, _, [], _ :: _, _, _ => rfl
  | _, _, _ :: _, [], _, _ => rfl
  | n, m, x :: l, y :: r, h, k => by
    simp only [D.plainsN, Bool.and_eq_true] at h k
    simp only [D.eqvs, toPDs, PyData.eqvAll]
    rw [eqv_toPD n m x y h.1 k.1, eqvs_toPD n m l r h.2 k.2]
end
section
variable {K : PySem.W.Frag} {g : Str → Option Addr} {RR : List Addr} {F H : Hp}
mutual
theorem Rep.dp : ∀ (n : Nat) (d : D) (v : V), Rep K g RR H d v → D.plainN n d = true → Dp K H v (toPD d)
  | _, .non, _, r, _ => by cases r; exact .non
  | _, .bl _, _, r, _ => by cases r; exact .bl _
  | _, .int _, _, r, _ => by cases r; exact .int _
  | _, .str _, _, r, _ => by cases r; exact .str _
  | n + 1, .tup l, _, r, h => by
    cases r with
    | tup h1 k => exact .tup h1 (Reps.dp n l _ k h)
  | n + 1, .lst l, _, r, h => by
    cases r with
    | lst h1 k => exact .lst (.inl (.inl h1)) (Reps.dp n l _ k h)
theorem Reps.dp : ∀ (n : Nat) (l : List D) (vs : List V), Reps K g RR H l vs → D.plainsN n l = true → DpAll K H vs (toPDs l)
  | _, [], _, r, _ => by cases r; exact .nil
  | n, d :: l, _, r, h => by
    simp only [D.plainsN, Bool.and_eq_true] at h
    cases r with
    | cons a b => exact .cons (Rep.dp n d _ a h.1) (Reps.dp n l _ b h.2)
end
end
section
variable {X : Cx} {b : Bs} {Q : VK}
def rCmp (b : Bs) (o : CmpOp) : R2 := fun v w H Q => ∃ RR F x y k, Same F H ∧ Vw b.K b.g RR F H x v ∧ Vw b.K b.g RR F H y w ∧ opCmp o x y = some k ∧ Q (.bl k) H
theorem shaped_of {d : D} (h : D.plainN 60 d = true) : SeqAt.shaped (toPD d) = true := by
  have k := toPD_ok 60 d h
  unfold SeqAt.shaped
  rw [k.1, decide_eq_true (Nat.le_trans k.2 (by decide))]
  rfl
theorem ok_eq (hK : b.K = X.K) (hu : X.A.units + 64 < cLine) : OpR X (compareOp .Eq) (rCmp b .Eq) := by
  refine ((op_eqD hu).or (op_eq (X := X))).imp fun v w H Q ⟨RR, F, x, y, k, e, hx, hy, ho, q⟩ => ?_
  rcases opEq_cases (show opEq x y = some k from ho) with ⟨a, c, rfl, rfl, rfl⟩ | ⟨h1, h2, rfl⟩
  · cases hx; cases hy
    refine .inr ⟨rfl, ?_⟩
    rw [show decide (V.str a = V.str c) = decide (a = c) by simp]
    exact q
  · refine .inl ⟨toPD x, toPD y, hK ▸ Rep.dp 60 x v (hx.rep e) h1, hK ▸ Rep.dp 60 y w (hy.rep e) h2, shaped_of h1, shaped_of h2, ?_⟩
    rw [← eqv_toPD 60 60 x y h1 h2]
    exact q
theorem ok_ne (hK : b.K = X.K) (hu : X.A.units + 64 < cLine) : OpR X (compareOp .NotEq) (rCmp b .NotEq) := by
  refine ((op_neD hu).or (op_ne (X := X))).imp fun v w H Q ⟨RR, F, x, y, k, e, hx, hy, ho, q⟩ => ?_
  have ho : (opEq x y).map (!·) = some k := ho
  cases hq : opEq x y with
  | none => rw [hq] at ho; cases ho
  | some k2 =>
    rw [hq] at ho
    cases ho
    rcases opEq_cases hq with ⟨a, c, rfl, rfl, rfl⟩ | ⟨h1, h2, rfl⟩
    · cases hx; cases hy
      refine .inr ⟨rfl, ?_⟩
      rw [show decide (V.str a = V.str c) = decide (a = c) by simp]
      exact q
    · refine .inl ⟨toPD x, toPD y, hK ▸ Rep.dp 60 x v (hx.rep e) h1, hK ▸ Rep.dp 60 y w (hy.rep e) h2, shaped_of h1, shaped_of h2, ?_⟩
      rw [← eqv_toPD 60 60 x y h1 h2]
      exact q
theorem mem_toPD {x : D} {l : List D} {n m : Nat} (h : D.plainN n x = true) (k : D.plainsN m l = true) : (toPDs l).any (fun y => PyData.eqv y (toPD x)) = D.mem x l := by
  induction l with
  | nil => rfl
  | cons y l ih =>
    simp only [D.plainsN, Bool.and_eq_true] at k
    rw [toPDs, List.any_cons, ih k.2]
    show _ = (D.eqv y x || D.mem x l)
    rw [eqv_toPD m n y x k.1 h]
theorem in_any (neg : Bool) (hK : b.K = X.K) (hu : X.A.units + 64 < cLine) : OpR X (compareOp (if neg then .NotIn else .In)) (fun v w H Q => ∃ RR F x l, Same F H ∧ Vw b.K b.g RR F H x v ∧ (Vw b.K b.g RR F H (.lst l) w ∨ Vw b.K b.g RR F H (.tup l) w) ∧ x.plain = true ∧ D.plains l = true ∧ Q (.bl (if neg then !D.mem x l else D.mem x l)) H) := by
  intro pins s σ H v w vu wu Q I r1 r2 ⟨RR, F, x, l, e, hx, hy, px, pl, q⟩
  have k1 := toPD_ok 60 x px
  have k2 := toPDs_ok 60 l pl
  obtain ⟨as, e1⟩ := Dp.reads I _ _ _ (hK ▸ Rep.dp 60 x v (hx.rep e) px) r1
  have hr : X.A.units + 1 + min (PyData.depthAll (toPDs l)) (toPD x).depth < cLine := by
    have := Nat.min_le_left (PyData.depthAll (toPDs l)) (toPD x).depth
    have := k2.2
    omega
  rcases hy with hy | hy
  · have pl' : D.plainN 61 (.lst l) = true := pl
    obtain ⟨bs, e2⟩ := Dp.reads I _ _ _ (hK ▸ Rep.dp 61 _ w (hy.rep e) pl') r2
    cases neg
    · refine SeqAt.in_list_reads e2 e1 k2.1 k1.1 hr ⟨.bl _, H, I, rfl, ?_⟩
      rw [mem_toPD px pl]; exact q
    · refine SeqAt.notIn_list_reads e2 e1 k2.1 k1.1 hr ⟨.bl _, H, I, rfl, ?_⟩
      rw [mem_toPD px pl]; exact q
  · have pl' : D.plainN 61 (.tup l) = true := pl
    obtain ⟨bs, e2⟩ := Dp.reads I _ _ _ (hK ▸ Rep.dp 61 _ w (hy.rep e) pl') r2
    cases neg
    · refine SeqAt.in_tuple_reads e2 e1 k2.1 k1.1 hr ⟨.bl _, H, I, rfl, ?_⟩
      rw [mem_toPD px pl]; exact q
    · refine SeqAt.notIn_tuple_reads e2 e1 k2.1 k1.1 hr ⟨.bl _, H, I, rfl, ?_⟩
      rw [mem_toPD px pl]; exact q
theorem opIn_cases {x y : D} {k : Bool} (h : opIn x y = some k) : (∃ l, (y = .lst l ∨ y = .tup l) ∧ x.plain = true ∧ D.plains l = true ∧ k = D.mem x l) ∨ ∃ a c, x = .str a ∧ y = .str c ∧ k = !(Builtin.Str.occurrences c a 0 c.length 1).isEmpty := by
  unfold opIn at h
  split at h
  · split at h
    · rename_i l hp
      rw [Bool.and_eq_true] at hp
      cases h
      exact .inl ⟨_, .inl rfl, hp.1, hp.2, rfl⟩
    · cases h
  · split at h
    · rename_i l hp
      rw [Bool.and_eq_true] at hp
      cases h
      exact .inl ⟨_, .inr rfl, hp.1, hp.2, rfl⟩
    · cases h
  · cases h
    exact .inr ⟨_, _, rfl, rfl, rfl⟩
  · cases h
theorem ok_in (hK : b.K = X.K) (hu : X.A.units + 64 < cLine) : OpR X (compareOp .In) (rCmp b .In) := by
  refine ((in_any (X := X) (b := b) false hK hu).or op_in_str).imp fun v w H Q ⟨RR, F, x, y, k, e, hx, hy, ho, q⟩ => ?_
  rcases opIn_cases ho with ⟨l, hl, px, pl, rfl⟩ | ⟨a, c, rfl, rfl, rfl⟩
  · refine .inl ⟨RR, F, x, l, e, hx, ?_, px, pl, q⟩
    rcases hl with rfl | rfl
    · exact .inl hy
    · exact .inr hy
  · cases hx; cases hy
    exact .inr ⟨_, _, rfl, rfl, q⟩
theorem ok_notIn (hK : b.K = X.K) (hu : X.A.units + 64 < cLine) : OpR X (compareOp .NotIn) (rCmp b .NotIn) := by
  refine ((in_any (X := X) (b := b) true hK hu).or op_notin_str).imp fun v w H Q ⟨RR, F, x, y, k, e, hx, hy, ho, q⟩ => ?_
  simp only [opCmp] at ho
  cases hi : opIn x y with
  | none => rw [hi] at ho; cases ho
  | some k' =>
    rw [hi] at ho; cases ho
    rcases opIn_cases hi with ⟨l, hl, px, pl, rfl⟩ | ⟨a, c, rfl, rfl, rfl⟩
    · refine .inl ⟨RR, F, x, l, e, hx, ?_, px, pl, q⟩
      rcases hl with rfl | rfl
      · exact .inl hy
      · exact .inr hy
    · cases hx; cases hy
      exact .inr ⟨_, _, rfl, rfl, q⟩
theorem ok_is : OpR X (compareOp .Is) (rCmp b .Is) := by
  refine ((op_isN (X := X)).or op_isBl).imp fun v w H Q ⟨RR, F, x, y, k, e, hx, hy, ho, q⟩ => ?_
  simp only [opCmp] at ho
  unfold opIs at ho
  split at ho
  · cases hy
    cases ho
    refine .inl ⟨rfl, ?_⟩
    cases hx <;> exact q
  · cases hx; cases hy; cases ho
    exact .inr ⟨_, _, rfl, rfl, q⟩
  · cases ho
theorem ok_isnot : OpR X (compareOp .IsNot) (rCmp b .IsNot) := by
  refine ((op_notN (X := X)).or op_notBl).imp fun v w H Q ⟨RR, F, x, y, k, e, hx, hy, ho, q⟩ => ?_
  simp only [opCmp] at ho
  unfold opIs at ho
  split at ho
  · cases hy
    cases ho
    refine .inl ⟨rfl, ?_⟩
    cases hx <;> exact q
  · cases hx; cases hy; cases ho
    exact .inr ⟨_, _, rfl, rfl, q⟩
  · cases ho
theorem ok_ints {o : CmpOp} {f : Int → Int → Bool} (h : OpR X (compareOp o) (rI0 fun i j => .bl (f i j))) (k : ∀ x y c, opCmp o x y = some c → ∃ i j, x = .int i ∧ y = .int j ∧ c = f i j) : OpR X (compareOp o) (rCmp b o) := by
  refine h.imp fun v w H Q ⟨RR, F, x, y, c, e, hx, hy, ho, q⟩ => ?_
  obtain ⟨i, j, rfl, rfl, rfl⟩ := k x y c ho
  cases hx; cases hy
  exact ⟨_, _, rfl, rfl, q⟩
theorem ok_cmp (o : CmpOp) (hK : b.K = X.K) (hu : X.A.units + 64 < cLine) : OpR X (compareOp o) (rCmp b o) := by
  cases o with
  | Eq => exact ok_eq hK hu
  | NotEq => exact ok_ne hK hu
  | In => exact ok_in hK hu
  | NotIn => exact ok_notIn hK hu
  | Is => exact ok_is
  | IsNot => exact ok_isnot
  | Lt => exact ok_ints op_lt fun x y c h => by cases x <;> cases y <;> simp only [opCmp, reduceCtorEq] at h; cases h; exact ⟨_, _, rfl, rfl, rfl⟩
  | LtE => exact ok_ints op_le fun x y c h => by cases x <;> cases y <;> simp only [opCmp, reduceCtorEq] at h; cases h; exact ⟨_, _, rfl, rfl, rfl⟩
  | Gt => exact ok_ints op_gt fun x y c h => by cases x <;> cases y <;> simp only [opCmp, reduceCtorEq] at h; cases h; exact ⟨_, _, rfl, rfl, rfl⟩
  | GtE => exact ok_ints op_ge fun x y c h => by cases x <;> cases y <;> simp only [opCmp, reduceCtorEq] at h; cases h; exact ⟨_, _, rfl, rfl, rfl⟩
end
end G4

namespace G4
open PySem PySem.Spec PyProof.Rows L2

/-- a def's promise where no repr is under way around it -/
structure FnG (P : Program) (w : World) (K : PySem.W.Frag) (mg : Str → Option Value) (base : Heap) (k : Nat) (f : Addr) (fd : FuncData) (ps : List Str) (sp : Sp) : Prop where
  len : ∀ vs H Q E, sp vs H Q E → vs.length = ps.length
  run : ∀ (A : Around) (outer : List Env) (s : Shared) (H : Hp) (args : Args) (us : List Value) (vs : List V) (Q : VK) (E : XK),
    Room k A → A.guards = some [] → Env0 P w K mg base A outer s H → BindsTo s fd args (ps.zip us) → Vals vs us → sp vs H Q E →
      codeAny (model P w) A (.call (.ref f) args) (CR (L2.CX P w) outer P w H s Q E) s
section
variable {P : Program} {w : World} {K : PySem.W.Frag} {mg : Str → Option Value} {base : Heap}
theorem FnG.mono {j k : Nat} {f : Addr} {fd : FuncData} {ps : List Str} {sp : Sp} (G : FnG P w K mg base j f fd ps sp) (h : j ≤ k) : FnG P w K mg base k f fd ps sp :=
  ⟨G.len, fun A outer s H args us vs Q E hr => G.run A outer s H args us vs Q E (hr.mono h)⟩
theorem fn_ofG {k : Nat} {x qual : Str} {st : Stmt} {f : Addr} {fd : FuncData} {N ps : List Str} {sp : Sp} (D : Fun K x qual st f fd) (S : FnScope N ps (defScope st)) (len : ∀ vs H Q E, sp vs H Q E → vs.length = ps.length)
    (body : ∀ (cdv : Value) (A : Around) (outer : List Env) (s : Shared) (H : Hp) (vs : List V) (Q : VK) (E : XK),
      Room k (A.deeper (envOfC qual (defScope st) s.heap.objs.size f cdv)) → A.guards = some [] → sp vs H Q E →
        ∃ t, PSs (cxOf (L2.CX P w) P w K mg base N qual (defScope st) f cdv A outer s H E) (defBody st) t ∧ t { nx := fun _ H' => Q .non H', rt := Q } (start N vs) H) :
    FnG P w K mg base (k + 1) f fd ps sp := by
  obtain ⟨oc, od, kV, doc, pm, an, cdv, ct, osl, rfl, lk, hcd⟩ := D.ex
  refine ⟨len, fun A outer s H args us vs Q E hr hg e0 hb r hsp => ?_⟩
  have hl := len _ _ _ _ hsp
  have back : ∀ (b : Addr) (o : Obj), base.get? b = some o → s.heap.get? b = some o := fun b o e => (e0.bs b o e).1
  have KX : K.In s.heap := e0.mod.kin.keeps back
  have lim : s.heap.NoLimit := e0.mod.nolimit.keeps back
  have knd : ∀ y ∈ ps.zip us, (defScope st).names.lookup y.1 = some .local ∨ ((defScope st).names.lookup y.1 = some .cell ∧ ((cellsFrom (s.heap.objs.size + 1) (defScope st).names []).lookup y.1).isSome = true) := by
    rintro ⟨n, v⟩ hy
    rcases S.par n (List.of_mem_zip hy).1 with q | q
    · exact .inl q
    · exact .inr ⟨q, PySem.W.cellsFrom_some _ _ _ (.inl q)⟩
  refine codeAny_call_function hr.depth (KX _ _ lk) rfl S.co S.gen rfl (PySem.W.codeRec_of KX hcd) (hb _ _ _ _ ?_)
  refine wpAny_newFunctionEnv_cells S.kind knd fun env he s1 ic => ?_
  subst he
  refine ⟨lim.keeps ic.toInCall.keep, codeAny_func ?_⟩
  obtain ⟨t, ht, hq⟩ := body cdv A outer s H vs Q E (hr.deeper _) hg hsp
  have I : Inv (cxOf (L2.CX P w) P w K mg base N qual (defScope st) f cdv A outer s H E) [] (start N vs) H s1 := inv_start S hr.hd e0 hl r ic
  refine wpAny_mono (ht.run [] s1 (start N vs) H _ I hq) (fun fl s' hs => ?_) fun e s' hs => hs
  cases fl with
  | ret u =>
    obtain ⟨v, τ, H', J, rv, q⟩ := hs
    exact ⟨v, H', J.os, J.bare, J.base, J.hok, rv, q⟩
  | next =>
    obtain ⟨τ, H', J, q⟩ := hs
    exact ⟨.non, H', J.os, J.bare, J.base, J.hok, rfl, q⟩
  | brk =>
    obtain ⟨_, _, _, q⟩ := hs
    exact q.elim
  | cont =>
    obtain ⟨_, _, _, q⟩ := hs
    exact q.elim
end
section
variable {X : Cx} {k : Nat} {f : Addr} {fd : FuncData} {ps : List Str} {sp : Sp} {W : WX} {x : Str} {p pos : Pos} {e : Expr} {es : List Expr} {t tk : TA}
/-- the callee runs -/
theorem run_G {pins : List (Addr × Obj)} {σ : L2.St} {H : Hp} {s : Shared} {Q : VK} {args : Args} {us : List Value} {vs : List V} (G : FnG X.prog X.w X.K X.mg X.base k f fd ps sp) (hr : Room k X.A) (hg : X.A.guards = some []) (tk : Takes X W)
    (hb : BindsTo s fd args (ps.zip us)) (I : Inv X pins σ H s) (r : Vals vs us) (h : sp vs H Q (WE W σ)) : codeAny (model X.prog X.w) X.A (.call (.ref f) args) (fun res s' => match res with
      | .ok (.ret u) => EP X pins σ Q u s'
      | .ok _ => False
      | .error e => X.xe e s') s := by
  refine codeAny_mono (G.run X.A X.stack s H args us vs Q (WE W σ) hr hg I.env0 hb r h) fun res s' hq => ?_
  cases res with
  | error e => exact passAt tk σ pins H s e s' I hq
  | ok fl =>
    cases fl with
    | ret u => exact I.after hq
    | next => exact hq
    | brk => exact hq
    | cont => exact hq
def tCallG (sp : Sp) (W : WX) (t : TA) : TE := fun σ H Q => t σ H fun vs H1 => sp vs H1 Q (WE W σ)
theorem run_call {pins : List (Addr × Obj)} {σ : L2.St} {H : Hp} {s : Shared} {Q : VK} {us : List Value} {vs : List V} (G : FnG X.prog X.w X.K X.mg X.base k f fd ps sp) (hr : Room k X.A) (hg : X.A.guards = some []) (tk : Takes X W)
    (hb : Binds X.K fd ps []) (I : Inv X pins σ H s) (r : Vals vs us) (h : sp vs H Q (WE W σ)) : wpAny (model X.prog X.w) X.A (call (.ref f) us) (EP X pins σ Q) X.xe s := by
  have hl : us.length = ps.length := by rw [← r.length]; exact G.len _ _ _ _ h
  have bb := hb s us I.kIn (by rw [List.append_nil]; exact hl)
  rw [List.append_nil] at bb
  refine wpAny_call (codeAny_mono (run_G G hr hg tk bb I r h) fun res s' hq => ?_)
  cases res with
  | error e => exact hq
  | ok fl => cases fl <;> first | exact hq | exact hq.elim
theorem pe_callG (G : FnG X.prog X.w X.K X.mg X.base k f fd ps sp) (hr : Room k X.A) (hg : X.A.guards = some []) (tk : Takes X W) (gl : Gl X x) (hm : X.mg x = some (.ref f)) (hk : PySem.W.keepIn X.K (.ref f) = true) (hb : Binds X.K fd ps [])
    (ha : PA X (e :: es) t) (hdb : (x == ("__debug__" : Str)) = false) (he : starEach (e :: es) X.env = (false, eval e X.env) :: starEach es X.env) (hpl : (backTo pos (starEach es X.env)).any (·.1) = false) :
    PE X (.Call (.Name x p) (e :: es) [] pos) (tCallG sp W t) := by
  refine ⟨fun pins s σ H Q I h => wpAny_Call_Name_kw (ld_glob I gl hm ?_ hdb)⟩
  refine PySem.W.callWith_K (h₀ := X.base) I.ok.mod.kin hk (thn (ha.run pos pins s σ H _ I h) fun us s1 ⟨vs, H1, I1, r, q⟩ => ⟨I1.kIn, ?_⟩) he hpl
  exact run_call G hr hg tk hb I1 r q
theorem pe_callG0 (G : FnG X.prog X.w X.K X.mg X.base k f fd ps sp) (hr : Room k X.A) (hg : X.A.guards = some []) (tk : Takes X W) (gl : Gl X x) (hm : X.mg x = some (.ref f)) (hk : PySem.W.keepIn X.K (.ref f) = true) (hb : Binds X.K fd ps [])
    (hdb : (x == ("__debug__" : Str)) = false) : PE X (.Call (.Name x p) [] [] pos) (tCallG sp W tNil) := by
  refine ⟨fun pins s σ H Q I h => wpAny_Call_Name_kw (ld_glob I gl hm ?_ hdb)⟩
  exact PySem.W.callWith_K0 I.kIn hk (run_call (us := []) G hr hg tk hb I .nil h)
end
end G4

namespace G4
open PySem PySem.Spec PyProof.Rows L2

section
variable {K : PySem.W.Frag} {g : Str → Option Addr} {RR : List Addr} {F H : Hp}
inductive Vws (K : PySem.W.Frag) (g : Str → Option Addr) (RR : List Addr) (F H : Hp) : List D → List V → Prop
  | nil : Vws K g RR F H [] []
  | cons {d : D} {v : V} {l : List D} {vs : List V} : Vw K g RR F H d v → Vws K g RR F H l vs → Vws K g RR F H (d :: l) (v :: vs)
theorem Vws.one {d : D} {vs : List V} (h : Vws K g RR F H [d] vs) : ∃ v, vs = [v] ∧ Vw K g RR F H d v := by
  cases h with
  | cons a r => cases r; exact ⟨_, rfl, a⟩
theorem Vws.two {d e : D} {vs : List V} (h : Vws K g RR F H [d, e] vs) : ∃ v u, vs = [v, u] ∧ Vw K g RR F H d v ∧ Vw K g RR F H e u := by
  cases h with
  | cons a r =>
    cases r with
    | cons c r => cases r; exact ⟨_, _, rfl, a, c⟩
end
def rBi (b : Bs) (B : Bi) : List V → Hp → VK → Prop := fun vs H Q => ∃ RR F xs res, Same F H ∧ Vws b.K b.g RR F H xs vs ∧ biSem B xs = some res ∧ ResOk b RR F H res Q
def Bi.val : Bi → Value
  | .len => .builtin "len" | .toInt => .type "int" | .abs => .builtin "abs" | .max2 => .builtin "max" | .min2 => .builtin "min" | .maxL => .builtin "max" | .minL => .builtin "min"
  | .sum => .builtin "sum" | .sorted => .builtin "sorted" | .all => .builtin "all" | .any => .builtin "any" | .list => .type "list" | .tuple => .type "tuple" | .repr => .builtin "repr" | .toStr => .type "str" | .set => .type "set"
def Bi.name : Bi → Str
  | .len => "len" | .toInt => "int" | .abs => "abs" | .max2 => "max" | .min2 => "min" | .maxL => "max" | .minL => "min"
  | .sum => "sum" | .sorted => "sorted" | .all => "all" | .any => "any" | .list => "list" | .tuple => "tuple" | .repr => "repr" | .toStr => "str" | .set => "set"
theorem Bi.boot : ∀ B : Bi, bootBuiltins B.name = some B.val := by
  intro B; cases B <;> decide +kernel
theorem isort_perm (l : List Int) : (isort l).Perm l := List.mergeSort_perm _ _
theorem isort_sorted (l : List Int) : (isort l).Pairwise (· ≤ ·) := by
  have h := List.pairwise_mergeSort (le := fun a b : Int => decide (a ≤ b)) (fun a b c h k => by simp at *; omega) (fun a b => by simp; omega) l
  exact h.imp fun q => by simpa using q
theorem isort_only {l m : List Int} (p : m.Perm l) (s : m.Pairwise (· ≤ ·)) : m = isort l :=
  (p.trans (isort_perm l).symm).eq_of_pairwise (fun a b _ _ h k => Int.le_antisymm h k) s (isort_sorted l)
theorem maxI_ge : ∀ (l : List Int) (a : Int), maxI a l ∈ a :: l ∧ ∀ y ∈ a :: l, y ≤ maxI a l
  | [], a => ⟨by simp [maxI], fun y h => by simp at h; simp [maxI, h]⟩
  | c :: l, a => by
    have ih := maxI_ge l (if c > a then c else a)
    simp only [maxI]
    refine ⟨?_, fun y h => ?_⟩
    · have h := ih.1
      split at h <;> simp only [List.mem_cons] at h ⊢ <;> rcases h with h | h <;> simp [*]
    · have h2 := ih.2
      split at h2 <;> simp only [List.mem_cons] at h
      all_goals
        rcases h with h | h | h
        · have := h2 _ List.mem_cons_self; subst h; split <;> omega
        · have := h2 _ List.mem_cons_self; subst h; split <;> omega
        · have := h2 y (List.mem_cons_of_mem _ h)
          split <;> omega
theorem minI_le : ∀ (l : List Int) (a : Int), minI a l ∈ a :: l ∧ ∀ y ∈ a :: l, minI a l ≤ y
  | [], a => ⟨by simp [minI], fun y h => by simp at h; simp [minI, h]⟩
  | c :: l, a => by
    have ih := minI_le l (if c < a then c else a)
    simp only [minI]
    refine ⟨?_, fun y h => ?_⟩
    · have h := ih.1
      split at h <;> simp only [List.mem_cons] at h ⊢ <;> rcases h with h | h <;> simp [*]
    · have h2 := ih.2
      split at h2 <;> simp only [List.mem_cons] at h
      all_goals
        rcases h with h | h | h
        · have := h2 _ List.mem_cons_self; subst h; split <;> omega
        · have := h2 _ List.mem_cons_self; subst h; split <;> omega
        · have := h2 y (List.mem_cons_of_mem _ h)
          split <;> omega
section
variable {X : Cx} {b : Bs} {Q : VK}
theorem ok_len (hK : b.K = X.K) : CallR X (.builtin "len") (rBi b .len) := by
  refine ((call_len_seq (X := X)).or call_len_str).imp ?_
  rintro vs H Q ⟨RR, F, xs, res, e, hv, ho, q⟩
  simp only [biSem] at ho
  unfold biLen at ho
  split at ho
  · rename_i l
    obtain ⟨v, rfl, h⟩ := hv.one
    cases h with
    | lst h k => cases ho; exact .inl ⟨_, _, rfl, .inl (.inl (.inl h)), by rw [← k.len]; exact q.imm (.int _)⟩
  · rename_i l
    obtain ⟨v, rfl, h⟩ := hv.one
    cases h with
    | scr h => cases ho; exact .inl ⟨_, _, rfl, .inl (hK ▸ h), by rw [List.length_map]; exact q.imm (.int _)⟩
  · rename_i l
    obtain ⟨v, rfl, h⟩ := hv.one
    cases h with
    | tup h k => cases ho; exact .inl ⟨_, _, rfl, .inr (hK ▸ e.seqT h), by rw [← k.len]; exact q.imm (.int _)⟩
  · rename_i x
    obtain ⟨v, rfl, h⟩ := hv.one
    split at ho
    · rename_i hl
      cases ho
      cases h
      exact .inr ⟨_, rfl, by rw [big_eq]; exact hl, q.imm (.int _)⟩
    · cases ho
  · cases ho
theorem ok_int : CallR X (.type "int") (rBi b .toInt) := by
  refine (call_int1 (X := X)).imp ?_
  rintro vs H Q ⟨RR, F, xs, res, e, hv, ho, q⟩
  simp only [biSem] at ho
  unfold biInt at ho
  split at ho
  · obtain ⟨v, rfl, h⟩ := hv.one
    cases h; cases ho
    exact .inl ⟨_, rfl, q.imm (.int _)⟩
  · obtain ⟨v, rfl, h⟩ := hv.one
    cases h; cases ho
    exact .inr ⟨_, rfl, q.imm (.int _)⟩
  · cases ho
theorem ok_abs : CallR X (.builtin "abs") (rBi b .abs) := by
  refine (call_abs (X := X)).imp ?_
  rintro vs H Q ⟨RR, F, xs, res, e, hv, ho, q⟩
  simp only [biSem] at ho
  unfold biAbs at ho
  split at ho
  · obtain ⟨v, rfl, h⟩ := hv.one
    cases h; cases ho
    exact ⟨_, rfl, q.imm (.int _)⟩
  · cases ho
theorem ok_max2 (hc : X.calm = true) : CallR X (.builtin "max") (rBi b .max2) := by
  refine (call_max2 (X := X) hc).imp ?_
  rintro vs H Q ⟨RR, F, xs, res, e, hv, ho, q⟩
  simp only [biSem] at ho
  unfold biMax2 at ho
  split at ho
  · obtain ⟨v, u, rfl, h, k⟩ := hv.two
    cases h; cases k; cases ho
    exact ⟨_, _, rfl, q.imm (.int _)⟩
  · cases ho
theorem ok_min2 (hc : X.calm = true) : CallR X (.builtin "min") (rBi b .min2) := by
  refine (call_min2 (X := X) hc).imp ?_
  rintro vs H Q ⟨RR, F, xs, res, e, hv, ho, q⟩
  simp only [biSem] at ho
  unfold biMin2 at ho
  split at ho
  · obtain ⟨v, u, rfl, h, k⟩ := hv.two
    cases h; cases k; cases ho
    exact ⟨_, _, rfl, q.imm (.int _)⟩
  · cases ho
theorem ok_maxL (hc : X.calm = true) : CallR X (.builtin "max") (rBi b .maxL) := by
  refine (cr_max (X := X) hc).imp ?_
  rintro vs H Q ⟨RR, F, xs, res, e, hv, ho, q⟩
  simp only [biSem] at ho
  unfold biMaxL at ho
  split at ho
  · obtain ⟨v, rfl, h⟩ := hv.one
    split at ho
    · rename_i i r hi
      cases ho
      cases h with
      | lst h k =>
        have e2 := k.toInts hi
        subst e2
        refine ⟨_, i :: r, rfl, .inl (.inl h), Nat.succ_pos _, fun m hm hy => ?_⟩
        obtain ⟨h1, h2⟩ := maxI_ge r i
        have e3 : m = maxI i r := Int.le_antisymm (h2 m hm) (hy _ h1)
        rw [e3]
        exact q.imm (.int _)
    · cases ho
  · cases ho
theorem ok_minL (hc : X.calm = true) : CallR X (.builtin "min") (rBi b .minL) := by
  refine (cr_min (X := X) hc).imp ?_
  rintro vs H Q ⟨RR, F, xs, res, e, hv, ho, q⟩
  simp only [biSem] at ho
  unfold biMinL at ho
  split at ho
  · obtain ⟨v, rfl, h⟩ := hv.one
    split at ho
    · rename_i i r hi
      cases ho
      cases h with
      | lst h k =>
        have e2 := k.toInts hi
        subst e2
        refine ⟨_, i :: r, rfl, .inl (.inl h), Nat.succ_pos _, fun m hm hy => ?_⟩
        obtain ⟨h1, h2⟩ := minI_le r i
        have e3 : m = minI i r := Int.le_antisymm (hy _ h1) (h2 m hm)
        rw [e3]
        exact q.imm (.int _)
    · cases ho
  · cases ho
theorem map_some {α β : Type} {o : Option α} {f : α → β} {y : β} (h : o.map f = some y) : ∃ x, o = some x ∧ y = f x := by
  cases o with
  | none => cases h
  | some x => cases h; exact ⟨x, rfl, rfl⟩
theorem ok_sum (hc : X.calm = true) : CallR X (.builtin "sum") (rBi b .sum) := by
  refine (cr_sum (X := X) hc).imp ?_
  rintro vs H Q ⟨RR, F, xs, res, e, hv, ho, q⟩
  simp only [biSem] at ho
  unfold biSum at ho
  split at ho
  · obtain ⟨v, rfl, h⟩ := hv.one
    obtain ⟨ns, hi, rfl⟩ := map_some ho
    cases h with
    | lst h k =>
      have e2 := k.toInts hi
      subst e2
      exact ⟨_, ns, rfl, .inl (.inl h), q.imm (.int _)⟩
  · cases ho
section
variable {K : PySem.W.Frag} {g : Str → Option Addr}
theorem RepK.look : ∀ {l : List (Key × D)} {vs : List (Key × V)}, RepK K g RR F l vs → ∀ k : Key, (∀ d, lookK l k = some d → ∃ v, valV vs k = some v ∧ Rep K g RR F d v) ∧ (lookK l k = none → valV vs k = none)
  | [], _, .nil, k => ⟨fun d h => (nomatch h), fun _ => rfl⟩
  | (k2, d2) :: l, _, .cons (v := v) (vs := vs) h r, k => by
    obtain ⟨i1, i2⟩ := RepK.look r k
    by_cases e : k2 = k
    · have e1 : lookK ((k2, d2) :: l) k = some d2 := by simp [lookK, List.find?_cons, e]
      have e2 : valV ((k2, v) :: vs) k = some v := valV_pos e
      exact ⟨fun d hd => by rw [e1] at hd; cases hd; exact ⟨v, e2, h⟩, fun hd => by rw [e1] at hd; cases hd⟩
    · have e1 : lookK ((k2, d2) :: l) k = lookK l k := by simp [lookK, List.find?_cons, e]
      have e2 : valV ((k2, v) :: vs) k = valV vs k := valV_neg e
      rw [e1, e2]
      exact ⟨i1, i2⟩
theorem RepK.anyK : ∀ {l : List (Key × D)} {vs : List (Key × V)}, RepK K g RR F l vs → ∀ k : Key, (l.any fun kv => decide (kv.1 = k)) = vs.any fun kv => decide (kv.1 = k)
  | [], _, .nil, k => rfl
  | (k2, d2) :: l, _, .cons h r, k => by rw [List.any_cons, List.any_cons, RepK.anyK r k]
theorem RepK.repl {d : D} {v : V} (hd : Rep K g RR F d v) : ∀ {l : List (Key × D)} {vs : List (Key × V)}, RepK K g RR F l vs → ∀ k : Key, RepK K g RR F (l.map fun kv => if kv.1 = k then (kv.1, d) else kv) (vs.map fun kv => if kv.1 = k then (kv.1, v) else kv)
  | [], _, .nil, k => .nil
  | (k2, d2) :: l, _, .cons h r, k => by
    rw [List.map_cons, List.map_cons]
    by_cases e : k2 = k
    · rw [if_pos e, if_pos e]; exact .cons hd (RepK.repl hd r k)
    · rw [if_neg e, if_neg e]; exact .cons h (RepK.repl hd r k)
theorem RepK.snoc {d : D} {v : V} {k : Key} (hd : Rep K g RR F d v) : ∀ {l : List (Key × D)} {vs : List (Key × V)}, RepK K g RR F l vs → RepK K g RR F (l ++ [(k, d)]) (vs ++ [(k, v)])
  | [], _, .nil => .cons hd .nil
  | (k2, d2) :: l, _, .cons h r => .cons h (RepK.snoc hd r)
theorem RepK.put {l : List (Key × D)} {vs : List (Key × V)} {d : D} {v : V} (h : RepK K g RR F l vs) (hd : Rep K g RR F d v) (k : Key) : RepK K g RR F (putD l k d) (putK vs k v) := by
  unfold putD putK
  rw [h.anyK k]
  split
  · exact h.repl hd k
  · exact h.snoc hd
theorem RepK.len {l : List (Key × D)} {vs : List (Key × V)} (h : RepK K g RR F l vs) : l.length = vs.length := by
  induction l generalizing vs with
  | nil => cases h; rfl
  | cons p l ih =>
    cases h with
    | cons h r => rw [List.length_cons, List.length_cons, ih r]
theorem key_vw {d : D} {v : V} {k : Key} (h : Vw K g RR F H d v) (e : keyOf d = some k) : v = kV k := by
  cases h <;> simp only [keyOf, reduceCtorEq, Option.some.injEq] at e <;> subst e <;> rfl
theorem key_rep {d : D} {v : V} {k : Key} (h : Rep K g RR F d v) (e : keyOf d = some k) : v = kV k := by
  cases h <;> simp only [keyOf, reduceCtorEq, Option.some.injEq] at e <;> subst e <;> rfl
end
theorem RepK.keysI {K : PySem.W.Frag} {g : Str → Option Addr} : ∀ {l : List (Key × D)} {vs : List (Key × V)} {ns : List Int}, RepK K g RR F l vs → keysI l = some ns → vs.map (·.1) = ns.map Sum.inl
  | [], _, _, .nil, e => by cases e; rfl
  | (.inl i, d) :: l, _, ns, .cons h r, e => by
    simp only [G4.keysI] at e
    obtain ⟨ms, h1, rfl⟩ := map_some e
    rw [List.map_cons, List.map_cons, RepK.keysI r h1]
  | (.inr i, d) :: l, _, ns, .cons h r, e => by simp [G4.keysI] at e
/-! ### sorted of tuples of ints -/
def topI : List Int → Int
  | [] => 0
  | a :: l => max a (topI l)
theorem topI_le : ∀ (l : List Int) (a : Int), a ∈ l → a ≤ topI l
  | [], a, h => by cases h
  | b :: l, a, h => by
    have ih := topI_le l a
    rw [topI]
    rcases List.mem_cons.mp h with rfl | h
    · omega
    · have := ih h; omega
theorem code_le {B : Int} : ∀ (n m : List Int), n.length = m.length → TS.Bd B n → TS.Bd B m → (TS.code B n ≤ TS.code B m ↔ tle n m = true)
  | [], [], _, _, _ => by simp [TS.code, tle]
  | [], _ :: _, h, _, _ => by cases h
  | _ :: _, [], h, _, _ => by cases h
  | a :: l, c :: m, h, h1, h2 => by
    have hl : l.length = m.length := by simpa using h
    have ih := code_le l m hl h1.tail h2.tail
    simp only [tle, Bool.or_eq_true, Bool.and_eq_true, decide_eq_true_eq]
    rcases Int.lt_trichotomy a c with z | z | z
    · have := TS.code_lt hl h1.tail h2.tail z
      constructor
      · intro _; exact .inl z
      · intro _; omega
    · subst z
      have e : TS.code B (a :: l) ≤ TS.code B (a :: m) ↔ TS.code B l ≤ TS.code B m := by
        have := TS.code_same (B := B) (d := a) hl.symm
        omega
      rw [e, ih]
      constructor
      · intro q; exact .inr ⟨rfl, q⟩
      · rintro (q | ⟨_, q⟩)
        · omega
        · exact q
    · have := TS.code_lt hl.symm h2.tail h1.tail z
      constructor
      · intro _; omega
      · rintro (q | ⟨q, _⟩) <;> omega
theorem tle_antisymm : ∀ (n m : List Int), tle n m = true → tle m n = true → n = m
  | [], [], _, _ => rfl
  | [], _ :: _, _, h => by cases h
  | _ :: _, [], h, _ => by cases h
  | a :: l, c :: m, h, k => by
    simp only [tle, Bool.or_eq_true, Bool.and_eq_true, decide_eq_true_eq] at h k
    rcases h with h | ⟨rfl, h⟩
    · rcases k with k | ⟨rfl, k⟩ <;> omega
    · rcases k with k | ⟨_, k⟩
      · omega
      · rw [tle_antisymm l m h k]
theorem tle_trans : ∀ (n m k : List Int), tle n m = true → tle m k = true → tle n k = true
  | [], _, _, _, _ => by simp [tle]
  | _ :: _, [], _, h, _ => by cases h
  | _ :: _, _ :: _, [], _, h => by cases h
  | a :: l, c :: m, e :: k, h1, h2 => by
    simp only [tle, Bool.or_eq_true, Bool.and_eq_true, decide_eq_true_eq] at h1 h2 ⊢
    rcases h1 with h1 | ⟨rfl, h1⟩
    · rcases h2 with h2 | ⟨rfl, h2⟩
      · left; omega
      · left; exact h1
    · rcases h2 with h2 | ⟨rfl, h2⟩
      · left; exact h2
      · right; exact ⟨rfl, tle_trans l m k h1 h2⟩
theorem tle_total : ∀ (n m : List Int), (tle n m || tle m n) = true
  | [], _ => by simp [tle]
  | _ :: _, [] => by simp [tle]
  | a :: l, c :: m => by
    have ih := tle_total l m
    simp only [tle, Bool.or_eq_true, Bool.and_eq_true, decide_eq_true_eq] at ih ⊢
    rcases Int.lt_trichotomy a c with z | z | z
    · left; left; exact z
    · subst z
      rcases ih with ih | ih
      · left; right; exact ⟨rfl, ih⟩
      · right; right; exact ⟨rfl, ih⟩
    · right; left; exact z
theorem tsort_only {l m : List (List Int)} (p : m.Perm l) (s : m.Pairwise fun a c => tle a c = true) : m = tsort l :=
  (p.trans (List.mergeSort_perm l tle).symm).eq_of_pairwise (fun a c _ _ h k => tle_antisymm a c h k) s (List.pairwise_mergeSort (le := tle) tle_trans tle_total l)
theorem perm_map {α β : Type} (f : α → β) : ∀ {l m : List β}, l.Perm m → ∀ (m' : List α), m'.map f = m → ∃ l' : List α, l'.Perm m' ∧ l'.map f = l := by
  intro l m p
  induction p with
  | nil => intro m' h; exact ⟨m', .refl _, h⟩
  | cons x p ih =>
    intro m' h
    cases m' with
    | nil => cases h
    | cons a m' =>
      rw [List.map_cons] at h
      cases h
      obtain ⟨l', h1, h2⟩ := ih m' rfl
      exact ⟨a :: l', h1.cons a, by rw [List.map_cons, h2]⟩
  | swap x y l =>
    intro m' h
    cases m' with
    | nil => cases h
    | cons a m' =>
      cases m' with
      | nil => cases h
      | cons c m' =>
        rw [List.map_cons, List.map_cons] at h
        cases h
        exact ⟨c :: a :: m', .swap .., rfl⟩
  | trans p q ih1 ih2 =>
    intro m' h
    obtain ⟨l1, h1, h2⟩ := ih2 m' h
    obtain ⟨l2, h3, h4⟩ := ih1 l1 h2
    exact ⟨l2, h3.trans h1, h4⟩
theorem intsD_inv : ∀ {l : List D} {ns : List Int}, intsD l = some ns → l = ns.map .int
  | [], ns, h => by cases h; rfl
  | .int i :: l, ns, h => by
    simp only [intsD] at h
    obtain ⟨m, h1, rfl⟩ := map_some h
    rw [List.map_cons, intsD_inv h1]
  | .non :: _, _, h => by simp [intsD] at h
  | .bl _ :: _, _, h => by simp [intsD] at h
  | .str _ :: _, _, h => by simp [intsD] at h
  | .tup _ :: _, _, h => by simp [intsD] at h
  | .lst _ :: _, _, h => by simp [intsD] at h
  | .dct _ :: _, _, h => by simp [intsD] at h
  | .obj _ :: _, _, h => by simp [intsD] at h
  | .fn _ :: _, _, h => by simp [intsD] at h
  | .scr _ :: _, _, h => by simp [intsD] at h
theorem tupsD_inv : ∀ {l : List D} {ns : List (List Int)}, tupsD l = some ns → l = ns.map tupD
  | [], ns, h => by cases h; rfl
  | .tup t :: l, ns, h => by
    simp only [tupsD] at h
    obtain ⟨n, h1, h2⟩ := Option.bind_eq_some_iff.mp h
    obtain ⟨m, h3, rfl⟩ := map_some h2
    rw [List.map_cons, tupsD_inv h3, tupD, intsD_inv h1]
  | .non :: _, _, h => by simp [tupsD] at h
  | .bl _ :: _, _, h => by simp [tupsD] at h
  | .str _ :: _, _, h => by simp [tupsD] at h
  | .int _ :: _, _, h => by simp [tupsD] at h
  | .lst _ :: _, _, h => by simp [tupsD] at h
  | .dct _ :: _, _, h => by simp [tupsD] at h
  | .obj _ :: _, _, h => by simp [tupsD] at h
  | .fn _ :: _, _, h => by simp [tupsD] at h
  | .scr _ :: _, _, h => by simp [tupsD] at h
/-- values and the tuples that stand there -/
theorem reps_zip {K : PySem.W.Frag} {g : Str → Option Addr} {RR : List Addr} {F : Hp} : ∀ {ns : List (List Int)} {vs : List V}, Reps K g RR F (ns.map tupD) vs → ∃ zs : List (V × List Int), zs.map (·.1) = vs ∧ zs.map (·.2) = ns ∧ ∀ z ∈ zs, TupI K F z.1 z.2 ∧ Rep K g RR F (tupD z.2) z.1
  | [], _, h => by cases h; exact ⟨[], rfl, rfl, fun z q => by cases q⟩
  | n :: ns, vs, h => by
    rw [List.map_cons] at h
    cases h with
    | @cons d v l vs a t =>
      obtain ⟨zs, h1, h2, h3⟩ := reps_zip t
      refine ⟨(v, n) :: zs, by rw [List.map_cons, h1], by rw [List.map_cons, h2], fun z q => ?_⟩
      rcases List.mem_cons.mp q with rfl | q
      · refine ⟨?_, a⟩
        unfold tupD at a
        cases a with
        | @tup _ ad ws hs k =>
          have e := k.toInts (ns := n) (by
            clear h1 h2 h3 hs k q
            induction n with
            | nil => rfl
            | cons i n ih => rw [List.map_cons, intsD, ih]; rfl)
          subst e
          exact ⟨_, rfl, hs⟩
      · exact h3 z q
theorem zip_reps {K : PySem.W.Frag} {g : Str → Option Addr} {RR : List Addr} {F : Hp} : ∀ (zs : List (V × List Int)), (∀ z ∈ zs, Rep K g RR F (tupD z.2) z.1) → Reps K g RR F ((zs.map (·.2)).map tupD) (zs.map (·.1))
  | [], _ => .nil
  | z :: zs, h => .cons (h z (List.mem_cons_self ..)) (zip_reps zs fun y q => h y (List.mem_cons_of_mem _ q))
theorem ok_sortT {K : PySem.W.Frag} {ns : List (List Int)} (h : okT (ns.headD []).length ns = true) : 1 ≤ (ns.headD []).length ∧ ns.length < 64 ∧ ∀ n ∈ ns, n.length = (ns.headD []).length ∧ TS.Bd (topI ns.flatten + 1) n := by
  unfold okT at h
  simp only [Bool.and_eq_true, decide_eq_true_eq, List.all_eq_true] at h
  refine ⟨h.1.1, h.1.2, fun n hn => ⟨(h.2 n hn).1, fun m hm => ⟨(h.2 n hn).2 m hm, ?_⟩⟩⟩
  have := topI_le ns.flatten m (List.mem_flatten.mpr ⟨n, hn, hm⟩)
  omega
def rSortAny (b : Bs) : List V → Hp → VK → Prop := fun vs H Q => ∃ RR F l ns res, Same F H ∧ Vws b.K b.g RR F H [.lst l] vs ∧ tupsD l = some ns ∧ sortT ns = some res ∧ ResOk b RR F H res Q
theorem ok_sortAny (hK : b.K = X.K) : CallR X (.builtin "sorted") (rSortAny b) := by
  intro pins s σ H vs us Q I r h
  obtain ⟨RR, F, l, ns, res, e, hv, ht, hs, q⟩ := h
  obtain ⟨v, rfl, h⟩ := hv.one
  unfold sortT at hs
  split at hs
  · rename_i hok
    cases hs
    obtain ⟨d1, d2, d3⟩ := ok_sortT (K := X.K) hok
    have el := tupsD_inv ht
    subst el
    cases h with
    | @lst _ a vs h k =>
      obtain ⟨zs, z1, z2, z3⟩ := reps_zip k
      have hT : ∀ z ∈ zs, TupI X.K H z.1 z.2 := fun z hz => by
        obtain ⟨t, e1, e2⟩ := (z3 z hz).1
        exact ⟨t, e1, hK ▸ e.seqT e2⟩
      refine cr_sortT (X := X) (d := (ns.headD []).length) (B := topI ns.flatten + 1) d1 pins s σ H [.ref a] us Q I r ⟨a, vs, rfl, .inl (.inl h), ?_, fun x hx => ?_, fun ys p hp hpw hn => ?_⟩
      · rw [← z1, List.length_map, ← List.length_map (f := fun z : V × List Int => z.2), z2]; exact d2
      · rw [← z1] at hx
        obtain ⟨z, hz, rfl⟩ := List.mem_map.mp hx
        refine ⟨z.2, hT z hz, d3 z.2 ?_⟩
        rw [← z2]; exact List.mem_map.mpr ⟨z, hz, rfl⟩
      · obtain ⟨ws, w1, w2⟩ := perm_map (fun z : V × List Int => z.1) hp zs z1
        have hw : ∀ z ∈ ws, z ∈ zs := fun z hz => w1.mem_iff.mp hz
        have e5 : ws.map (·.2) = tsort ns := by
          refine tsort_only (by rw [← z2]; exact w1.map _) ?_
          rw [← w2, List.pairwise_map] at hpw
          rw [List.pairwise_map]
          refine hpw.imp_of_mem fun {x y} hx hy hc => ?_
          have m1 : x.2 ∈ ns := by rw [← z2]; exact List.mem_map.mpr ⟨x, hw x hx, rfl⟩
          have m2 : y.2 ∈ ns := by rw [← z2]; exact List.mem_map.mpr ⟨y, hw y hy, rfl⟩
          exact (code_le x.2 y.2 (by rw [(d3 _ m1).1, (d3 _ m2).1]) (d3 _ m1).2 (d3 _ m2).2).mp (hc _ _ (hT x (hw x hx)) (hT y (hw y hy)))
        have e6 := zip_reps (K := b.K) (g := b.g) (RR := RR) (F := F) ws fun z hz => (z3 z (hw z hz)).2
        rw [e5, w2] at e6
        exact q.lst e6 p hn
  · cases hs
theorem ok_sorted (hK : b.K = X.K) (hc : X.calm = true) : CallR X (.builtin "sorted") (rBi b .sorted) := by
  refine ((ok_sortAny hK).or ((cr_sortedI (X := X)).or (call_sortedDI hc))).imp ?_
  rintro vs H Q ⟨RR, F, xs, res, e, hv, ho, q⟩
  simp only [biSem] at ho
  unfold biSorted at ho
  split at ho
  · rename_i l
    obtain ⟨v, rfl, h⟩ := hv.one
    cases hk : G4.keysI l with
    | none => rw [hk] at ho; cases ho
    | some ns =>
      rw [hk, Option.bind_some] at ho
      split at ho
      · rename_i hlt
        cases ho
        cases h with
        | dct h k =>
          refine .inr (.inr ⟨_, _, ns, rfl, .inl h, k.keysI hk, hlt, fun ms p h1 h2 h3 => ?_⟩)
          rw [isort_only h1 h2]
          exact q.lst (.ofInts _) p h3
      · cases ho
  · rename_i l
    unfold sortL at ho
    split at ho
    · rename_i ns hi
      cases ho
      obtain ⟨v, rfl, h⟩ := hv.one
      cases h with
      | lst h k =>
        have e2 := k.toInts hi
        subst e2
        refine .inr (.inl ⟨_, ns, rfl, .inl (.inl h), fun ms p h1 h2 h3 => ?_⟩)
        rw [isort_only h1 h2]
        exact q.lst (.ofInts _) p h3
    · obtain ⟨ns, h1, h2⟩ := Option.bind_eq_some_iff.mp ho
      exact .inl ⟨RR, F, l, ns, res, e, hv, h1, h2, q⟩
  · cases ho
theorem ok_all (hc : X.calm = true) : CallR X (.builtin "all") (rBi b .all) := by
  refine (cr_all (X := X) hc).imp ?_
  rintro vs H Q ⟨RR, F, xs, res, e, hv, ho, q⟩
  simp only [biSem] at ho
  unfold biAll at ho
  split at ho
  · obtain ⟨v, rfl, h⟩ := hv.one
    obtain ⟨ns, hi, rfl⟩ := map_some ho
    cases h with
    | lst h k =>
      have e2 := k.toBls hi
      subst e2
      exact ⟨_, ns, rfl, .inl (.inl h), q.imm (.bl _)⟩
  · cases ho
theorem ok_any (hc : X.calm = true) : CallR X (.builtin "any") (rBi b .any) := by
  refine (cr_any (X := X) hc).imp ?_
  rintro vs H Q ⟨RR, F, xs, res, e, hv, ho, q⟩
  simp only [biSem] at ho
  unfold biAny at ho
  split at ho
  · obtain ⟨v, rfl, h⟩ := hv.one
    obtain ⟨ns, hi, rfl⟩ := map_some ho
    cases h with
    | lst h k =>
      have e2 := k.toBls hi
      subst e2
      exact ⟨_, ns, rfl, .inl (.inl h), q.imm (.bl _)⟩
  · cases ho
theorem ok_list (hK : b.K = X.K) : CallR X (.type "list") (rBi b .list) := by
  refine (call_list_of (X := X)).imp ?_
  rintro vs H Q ⟨RR, F, xs, res, e, hv, ho, q⟩
  simp only [biSem] at ho
  unfold biList at ho
  split at ho
  · obtain ⟨v, rfl, h⟩ := hv.one
    cases ho
    cases h with
    | lst h k => exact ⟨_, _, rfl, .inl (.inl (.inl h)), q.lst k⟩
  · obtain ⟨v, rfl, h⟩ := hv.one
    cases ho
    cases h with
    | tup h k => exact ⟨_, _, rfl, .inr (hK ▸ e.seqT h), q.lst k⟩
  · cases ho
theorem ok_tuple (hK : b.K = X.K) : CallR X (.type "tuple") (rBi b .tuple) := by
  refine (call_tuple_of (X := X)).imp ?_
  rintro vs H Q ⟨RR, F, xs, res, e, hv, ho, q⟩
  simp only [biSem] at ho
  unfold biTuple at ho
  split at ho
  · obtain ⟨v, rfl, h⟩ := hv.one
    cases ho
    cases h with
    | lst h k => exact ⟨_, _, rfl, .inl ⟨.inl (.inl h), q.tup e k⟩⟩
  · obtain ⟨v, rfl, h⟩ := hv.one
    cases ho
    cases h with
    | tup h k => exact ⟨_, _, rfl, .inr ⟨hK ▸ e.seqT h, q.imm (.tup h k)⟩⟩
  · cases ho
end
/-! ### repr -/
theorem textFrom_up : ∀ (ts : List Str) (k : Nat) (acc : Str), (textFrom k acc ts).length ≤ acc.length + piled ts
  | [], k, acc => Nat.le_add_right _ _
  | t :: r, k, acc => by
    have ih := textFrom_up r (k + 1) (acc ++ (if k > 0 then ", " else "" : String) ++ t)
    have e : (acc ++ (if k > 0 then ", " else "" : String) ++ t).length = acc.length + (if k > 0 then 2 else 0) + t.length := by
      rw [strLen_append, strLen_append]
      split <;> rfl
    rw [e] at ih
    rw [piled_cons]
    show (textFrom (k + 1) _ r).length ≤ _
    have : (if k > 0 then 2 else 0 : Nat) ≤ 2 := by split <;> omega
    omega
theorem listText_up (ts : List Str) : (listText ts).length ≤ piled ts + 2 := by
  unfold listText
  rw [strLen_append]
  have := textFrom_up ts 0 "["
  have e1 : (("[" : String) : Str).length = 1 := rfl
  have e2 : (("]" : String) : Str).length = 1 := rfl
  omega
theorem tupleText_up (ts : List Str) : (tupleText ts).length ≤ piled ts + 3 := by
  unfold tupleText
  rw [strLen_append, strLen_append]
  have e1 : (("(" : String) : Str).length = 1 := rfl
  have e2 : (if ts.length == 1 then ",)" else ")" : String).length ≤ 2 := by split <;> decide
  have e3 : ((if ts.length == 1 then ",)" else ")" : String) : Str).length ≤ 2 := by split <;> decide
  by_cases h : ts = []
  · subst h
    show 1 + 0 + _ ≤ _
    omega
  · have := join_length_add ts h
    omega
mutual
theorem cost_ok : ∀ d : D, d.plainN 60 = true ∨ True → (toPD d).shown.length ≤ d.cost
  | .non, _ => by simp only [toPD, PyData.shown, D.cost]; decide
  | .bl b, _ => by cases b <;> (simp only [toPD, PyData.shown, D.cost]; decide)
  | .int i, _ => by
    simp only [toPD, PyData.shown, D.cost]
    rw [show (↑(toString i) : Str).length = (Str.ofString (toString i)).length from rfl, PySem.ofString_length]
    have := int_text_length_le (a := i) (k := i.natAbs.log2 + 1) (Nat.succ_pos _) (Nat.lt_succ_self _)
    omega
  | .str x, _ => by simp only [toPD, PyData.shown, D.cost]; exact Nat.le_refl _
  | .tup l, _ => by
    simp only [toPD, PyData.shown, D.cost]
    exact Nat.le_trans (tupleText_up _) (Nat.add_le_add_right (costs_ok l) _)
  | .lst l, _ => by
    simp only [toPD, PyData.shown, D.cost]
    exact Nat.le_trans (listText_up _) (Nat.add_le_add_right (costs_ok l) _)
  | .dct _, _ => by simp only [toPD, PyData.shown, D.cost]; decide
  | .obj _, _ => by simp only [toPD, PyData.shown, D.cost]; decide
  | .fn _, _ => by simp only [toPD, PyData.shown, D.cost]; decide
  | .scr _, _ => by simp only [toPD, PyData.shown, D.cost]; decide
theorem costs_ok : ∀ l : List D, piled (PyData.shownAll (toPDs l)) ≤ D.costs l
  | [] => by simp only [toPDs, PyData.shownAll, D.costs]; exact Nat.le_refl _
  | d :: l => by
    simp only [toPDs, PyData.shownAll, D.costs]
    rw [piled_cons]
    have h1 := cost_ok d (.inr trivial)
    have h2 := costs_ok l
    omega
end
mutual
theorem shows_ok : ∀ d : D, d.shows = true → (toPD d).showable = true
  | .non, _ => by simp only [toPD, PyData.showable]
  | .bl b, _ => by simp only [toPD, PyData.showable]
  | .int i, h => by simp only [toPD, PyData.showable]; simpa only [D.shows] using h
  | .str x, _ => by simp only [toPD, PyData.showable]
  | .tup l, h => by simp only [toPD, PyData.showable]; exact showss_ok l (by simpa only [D.shows] using h)
  | .lst l, h => by simp only [toPD, PyData.showable]; exact showss_ok l (by simpa only [D.shows] using h)
  | .dct _, _ => by simp only [toPD, PyData.showable]
  | .obj _, _ => by simp only [toPD, PyData.showable]
  | .fn _, _ => by simp only [toPD, PyData.showable]
  | .scr _, _ => by simp only [toPD, PyData.showable]
theorem showss_ok : ∀ l : List D, D.showss l = true → PyData.showableAll (toPDs l) = true
  | [], _ => by simp only [toPDs, PyData.showableAll]
  | d :: l, h => by
    simp only [D.showss, Bool.and_eq_true] at h
    simp only [toPDs, PyData.showableAll, Bool.and_eq_true]
    exact ⟨shows_ok d h.1, showss_ok l h.2⟩
end
section
variable {X : Cx} {b : Bs} {Q : VK}
theorem ok_repr (hK : b.K = X.K) (hg : X.A.guards = some []) (hu : X.A.units + 64 < cLine) : CallR X (.builtin "repr") (rBi b .repr) := by
  intro pins s σ H vs us Q I r h
  obtain ⟨RR, F, xs, res, e, hv, ho, q⟩ := h
  simp only [biSem] at ho
  unfold biRepr at ho
  split at ho
  · rename_i x
    obtain ⟨t, hr, rfl⟩ := map_some ho
    obtain ⟨v, rfl, hw⟩ := hv.one
    have seq : ∀ {a : Addr} {d : D}, v = .ref a → Rep b.K b.g RR H d v → D.plainN 60 d = true → D.shows d = true → D.isSeq d = true → d.cost ≤ big → ResOk b RR F H (.d (.str (toPD d).shown)) Q → wpAny (model X.prog X.w) X.A (call (.builtin "repr") us) (EP X pins σ Q) X.xe s := by
      rintro a d rfl hd h2 h3 h0 h4 q
      have dp : Dp X.K H (.ref a) (toPD d) := hK ▸ Rep.dp 60 d _ hd h2
      rw [Vals.ref1 r]
      obtain ⟨as, hr⟩ := Dp.reads I (toPD d) (.ref a) (.ref a) dp rfl
      have k := toPD_ok 60 d h2
      refine repr_of_reads' hr (shows_ok d h3) (PyData.noDict_hsm (PyData.hasDict_of_canLay _ k.1)) hg (by omega) (fun _ _ z => z) (fun h' u tk hk => ?_) (Nat.le_trans (cost_ok d (.inr trivial)) (by rw [big_eq]; exact h4))
      exact ⟨.str _, H, I.kept (t' := tk) hk, ⟨_, rfl⟩, q.imm (Rep.str _)⟩
    cases hw with
    | non =>
      cases hr
      obtain ⟨u, rfl, hu1⟩ := vals1 r
      cases hu1
      exact PySem.P.repr_of_none ⟨.str _, H, I.tok _, ⟨_, rfl⟩, q.imm (Rep.str _)⟩
    | bl k =>
      cases hr
      obtain ⟨u, rfl, hu1⟩ := vals1 r
      cases hu1
      exact PySem.P.repr_of_bool ⟨.str _, H, I.tok _, ⟨_, rfl⟩, q.imm (Rep.str _)⟩
    | int i =>
      simp only [reprD] at hr
      split at hr
      · rename_i hi
        cases hr
        obtain ⟨u, rfl, t, rfl⟩ := vals1 r
        exact PySem.P.repr_of_int hi ⟨.str _, H, I.tok _, ⟨_, rfl⟩, q.imm (Rep.str _)⟩
      · cases hr
    | str z =>
      simp only [reprD] at hr
      split at hr
      · rename_i hi
        cases hr
        obtain ⟨u, rfl, t, rfl⟩ := vals1 r
        exact PySem.P.repr_of_str ⟨.str _, H, I.tok _, ⟨_, rfl⟩, q.imm (Rep.str _)⟩ (by rw [big_eq]; exact hi)
      · cases hr
    | tup h k =>
      simp only [reprD] at hr
      split at hr
      · rename_i hc
        simp only [Bool.and_eq_true, decide_eq_true_eq] at hc
        cases hr
        exact seq rfl (Vw.rep e (.tup h k)) hc.1.1 hc.1.2 rfl hc.2 q
      · cases hr
    | lst h k =>
      simp only [reprD] at hr
      split at hr
      · rename_i hc
        simp only [Bool.and_eq_true, decide_eq_true_eq] at hc
        cases hr
        exact seq rfl (Vw.rep e (.lst h k)) hc.1.1 hc.1.2 rfl hc.2 q
      · cases hr
    | @dct l a vs h k =>
      simp only [reprD] at hr
      split at hr
      · rename_i hc
        cases hr
        rw [List.isEmpty_iff] at hc
        subst hc
        cases k
        rw [Vals.ref1 r]
        obtain ⟨z, hd, kvs, rel, dd⟩ := dk_of I.hok h
        cases rel
        obtain ⟨o, es, ep, h1, h2, h3, _, hp, _⟩ := dd
        have h4 : es.toList = [] := by
          generalize es.toList = l at hp
          cases hp
          rfl
        have hr : Reads s.heap (.ref a) (.dict []) [a] := Reads.dict (as := []) (bs := []) h1 h2.1 h3 (by rw [h4]; exact .nil) (by rw [h4]; exact .nil)
        refine repr_of_reads' hr rfl (fun _ hm => by rw [List.mem_singleton] at hm; rw [hm] at hd; exact absurd hd (by simp)) hg (by show X.A.units + (1 + 1) < cLine; omega) (fun _ _ z => z) (fun h' u tk hk => ?_) (by rw [big_eq]; decide +kernel)
        exact ⟨.str _, H, I.kept (t' := tk) hk, ⟨_, rfl⟩, q.imm (Rep.str _)⟩
      · cases hr
    | obj h => cases hr
    | fn h => cases hr
    | scr h => cases hr
  · cases ho
end
end G4

namespace G4
open PySem PySem.Spec PyProof.Rows L2

/-- what stays of the surroundings -/
structure Amb (X : Cx) (b : Bs) (k : Nat) : Prop where
  K : b.K = X.K
  nd : X.N.Nodup
  calm : X.calm = true
  room : Room k X.A
  gd : X.A.guards = some []
section
variable {X : Cx} {b : Bs} {W : WX} {k : Nat} {σ : L2.St} {RR RR' : List Addr} {F F' H H' : Hp} {s : S} {Q : VK}
theorem Amb.hu (A : Amb X b k) : X.A.units + 64 < cLine := A.room.units
theorem Amb.aside (A : Amb X b k) (a : Addr) (o : HO) : Amb X (b.aside a o) k := ⟨A.K, A.nd, A.calm, A.room, A.gd⟩
theorem Amb.blk (A : Amb X b k) (s : Shared) (H : Hp) (scope : Scope) (cenv : Env) (fp : List Addr) : Amb (X.blk s H scope cenv fp) b k := ⟨A.K, A.nd, A.calm, A.room, A.gd⟩

theorem O.bind_ok {α β : Type} {a : α} {s : S} {f : α → S → O β} : (O.ok a s).bind f = f a s := rfl

/-! ### names and constants -/
theorem snd_var {i : Nat} {x : Str} {pos : Pos} (hN : X.N[i]? = some x) (hv : Vis X.env.scope x) (hd : (x == ("__debug__" : Str)) = false) (hc : (x == ("__classdict__" : Str)) = false) : PE X (.Name x pos) (tE b W (ev (.var i))) := by
  refine (pe_var hN hv hd hc).weak fun σ H Q ⟨RR, F, s, r, q⟩ => ?_
  simp only [ev] at q
  cases e : s.sl[i]? with
  | none => rw [e] at q; exact q.elim
  | some z =>
    rw [e] at q
    cases z with
    | un => exact q.elim
    | d y =>
      obtain ⟨v, h1, h2⟩ := r.sd i y e
      exact ⟨v, h1, q.now r v h2⟩
    | own c =>
      obtain ⟨a, h1, _⟩ := r.so i c e
      exact ⟨_, h1, q.now r _ h1⟩
/-- a module's constant -/
def GK (mg : Str → Option Value) (K : PySem.W.Frag) (g : Str → Option Addr) (x : Str) (d : D) : Prop := ∃ u v, mg x = some u ∧ RelV v u ∧ ∀ RR F, Rep K g RR F d v
theorem snd_glo {x : Str} {d : D} {pos : Pos} (hg : Gl X x) (h : GK X.mg b.K b.g x d) (hd : (x == ("__debug__" : Str)) = false) : PE X (.Name x pos) (tE b W (ev (.glo x d))) := by
  obtain ⟨u, v, h1, h2, h3⟩ := h
  exact (pe_glob hg h1 h2 hd).weak fun σ H Q ⟨RR, F, s, r, q⟩ => q.now r v (h3 _ _)
theorem snd_int {i : Int} {j : Nat} {pos : Pos} : PE X (.Constant (.int i) j pos) (tE b W (ev (.int i))) := pe_int.weak fun σ H Q ⟨RR, F, s, r, q⟩ => q.now r _ (Rep.int i)
theorem snd_str {i : Str} {j : Nat} {pos : Pos} : PE X (.Constant (.str i) j pos) (tE b W (ev (.str i))) := pe_str.weak fun σ H Q ⟨RR, F, s, r, q⟩ => q.now r _ (Rep.str i)
theorem snd_bl {i : Bool} {j : Nat} {pos : Pos} : PE X (.Constant (.bool i) j pos) (tE b W (ev (.bl i))) := pe_bl.weak fun σ H Q ⟨RR, F, s, r, q⟩ => q.now r _ (Rep.bl i)
theorem snd_non {j : Nat} {pos : Pos} : PE X (.Constant .none j pos) (tE b W (ev .non)) := pe_non.weak fun σ H Q ⟨RR, F, s, r, q⟩ => q.now r _ Rep.non

/-! ### operators -/
theorem settled {α : Type} {o : O R} {f : R → S → O α} {P : α → S → List Addr → Hp → Hp → Prop} (q : Go b W σ RR F (o.opd.bind f) P) : Go b W σ RR F o.opd fun x s RR' F' H' => (∀ c, x ≠ .new c) ∧ Go b W σ RR' F' (f x s) P := by
  cases o with
  | bad => exact q
  | ex e s => exact q
  | ok x s =>
    show Go b W σ RR F (O.ofOpt x.settle s) _
    have q : Go b W σ RR F ((O.ofOpt x.settle s).bind f) P := q
    cases h : x.settle with
    | none => rw [h] at q; exact q
    | some y =>
      rw [h] at q
      exact fun R2 F2 H2 p e r => ⟨settle_new h, Go.up q p e⟩
theorem snd_bin2 {ea eb : Expr} {fa fb : S → O R} {α : Type} {f : R → R → S → O α} {P : (α → S → List Addr → Hp → Hp → Prop)} {r : V → V → Hp → VK → Prop} {σ : L2.St} {H : Hp} {Q : VK} (rel : Rel b RR F s σ H)
    (q : Go b W σ RR F ((fa s).opd.bind fun x s => (fb s).opd.bind fun y s => f x y s) P)
    (k : ∀ x y s RR F H v u, Rel b RR F s σ H → RRel b RR F s σ H x v → RRel b RR F s σ H y u → (∀ c, x ≠ .new c) → (∀ c, y ≠ .new c) → Go b W σ RR F (f x y s) P → r v u H Q) :
    tOp r (tE b W fun s => (fa s).opd) (tE b W fun s => (fb s).opd) σ H Q := by
  refine ⟨RR, F, s, rel, (settled q).imp fun x s1 R1 F1 H1 p1 e1 r1 ⟨n1, q1⟩ v hv => ?_⟩
  refine ⟨R1, F1, s1, r1, (settled q1).imp fun y s2 R2 F2 H2 p2 e2 r2 ⟨n2, q2⟩ u hu => ?_⟩
  exact k x y s2 R2 F2 H2 v u r2 (hv.up n1 p2 e2) hu n1 n2 q2
theorem opBin_pl {o : Operator} {x y : D} {r : R} (h : opBin o x y = some r) : ∀ i, r ≠ .pl i := by
  intro i z
  subst z
  unfold opBin at h
  split at h <;> first | (cases h; done) | (split at h <;> cases h)
theorem ofOpt_map {α β : Type} {o : Option α} {g : α → β} {s : S} : O.ofOpt (o.map g) s = (O.ofOpt o s).bind fun a s => .ok (g a) s := by cases o <;> rfl
theorem Go.ret {α : Type} {a : α} {s : S} {P P' : α → S → List Addr → Hp → Hp → Prop} (h : Go b W σ RR F (.ok a s) P) (k : ∀ RR' F' H', P a s RR' F' H' → P' a s RR' F' H') : Go b W σ RR F (.ok a s) P' := fun R2 F2 H2 p e r => k _ _ _ (h R2 F2 H2 p e r)
/-- two places read -/
theorem rd2 {α β : Type} {f : D → D → Option α} {x y : R} {v u : V} {h : α → S → O β} {P : β → S → List Addr → Hp → Hp → Prop} (r : Rel b RR F s σ H) (hv : RRel b RR F s σ H x v) (hu : RRel b RR F s σ H y u)
    (q : Go b W σ RR F ((match s.rd x, s.rd y with
      | some x, some y => O.ofOpt (f x y) s
      | _, _ => .bad).bind h) P) : ∃ x' y' k, Vw b.K b.g RR F H x' v ∧ Vw b.K b.g RR F H y' u ∧ f x' y' = some k ∧ Go b W σ RR F (h k s) P := by
  cases h1 : s.rd x with
  | none => rw [h1] at q; exact q.elim
  | some x' =>
    cases h2 : s.rd y with
    | none => rw [h1, h2] at q; exact q.elim
    | some y' =>
      rw [h1, h2] at q
      simp only at q
      cases h3 : f x' y' with
      | none => rw [h3] at q; exact q.elim
      | some k =>
        rw [h3] at q
        exact ⟨x', y', k, vw_of r hv h1, vw_of r hu h2, h3, q⟩
theorem O.bind_pure {α : Type} (o : O α) : (o.bind fun a s => .ok a s) = o := by cases o <;> rfl
theorem snd_bin {o : Operator} {ea eb : Expr} {a c : E} {pos : Pos} (ha : PE X ea (tE b W (ev a))) (hb : PE X eb (tE b W (ev c))) : PE X (.BinOp ea o eb pos) (tE b W (ev (.bin o a c))) := by
  refine (pe_op (ok_bin (b := b) o) (snd_opd ha) (snd_opd hb)).weak fun σ H Q ⟨RR, F, s, r, q⟩ => ?_
  simp only [ev] at q
  refine snd_bin2 (ea := ea) (eb := eb) r q fun x y s RR F H v u r hv hu n1 n2 q => ?_
  rw [← O.bind_pure (binV o x y s)] at q
  obtain ⟨x', y', res, h1, h2, h3, q⟩ := rd2 r hv hu q
  exact ⟨RR, F, x', y', res, r.fz, h1, h2, h3, res_ok q r (opBin_pl h3)⟩
theorem snd_cmp {o : CmpOp} {ea eb : Expr} {a c : E} {pos : Pos} (A : Amb X b k) (ha : PE X ea (tE b W (ev a))) (hb : PE X eb (tE b W (ev c))) (hm : behindInMarks o eb = false) : PE X (.Compare ea [o] [eb] pos) (tE b W (ev (.cmp o a c))) := by
  refine (pe_cmpR (ok_cmp o A.K A.hu) (snd_opd ha) (snd_opd hb) hm).weak fun σ H Q ⟨RR, F, s, r, q⟩ => ?_
  simp only [ev] at q
  refine snd_bin2 (ea := ea) (eb := eb) r q fun x y s RR F H v u r hv hu n1 n2 q => ?_
  obtain ⟨x', y', kk, h1, h2, h3, q⟩ := rd2 r hv hu q
  exact ⟨RR, F, x', y', kk, r.fz, h1, h2, h3, q.now r _ (Rep.bl kk)⟩
theorem tst_cmp {o : CmpOp} {ea eb : Expr} {a c : E} {pos : Pos} (A : Amb X b k) (ha : PE X ea (tE b W (ev a))) (hb : PE X eb (tE b W (ev c))) (hm : behindInMarks o eb = false) : PT X (.Compare ea [o] [eb] pos) (tB' b W (evT (.cmp o a c))) := by
  refine (pt_cmpR (ok_cmp o A.K A.hu) (snd_opd ha) (snd_opd hb) hm).weak fun σ H Q ⟨RR, F, s, r, q⟩ => ?_
  simp only [evT] at q
  refine snd_bin2 (ea := ea) (eb := eb) r q fun x y s RR F H v u r hv hu n1 n2 q => ?_
  rw [← O.bind_pure (cmpV o x y s)] at q
  obtain ⟨x', y', kk, h1, h2, h3, q⟩ := rd2 r hv hu q
  exact ⟨RR, F, x', y', kk, r.fz, h1, h2, h3, kk, rfl, q.now r⟩
theorem snd_cmp2 {o o' : CmpOp} {ea eb ec : Expr} {a c d : E} {pos : Pos} (A : Amb X b k) (ha : PE X ea (tE b W (ev a))) (hb : PE X eb (tE b W (ev c))) (hd : PE X ec (tE b W (ev d))) (hm : lastMarks [o, o'] [eb, ec] = false) :
    PE X (.Compare ea [o, o'] [eb, ec] pos) (tE b W (ev (.cmp2 o o' a c d))) := by
  refine (pe_chain (ok_cmp o A.K A.hu) (ok_cmp o' A.K A.hu) (snd_opd ha) (snd_opd hb) (snd_opd hd) hm).weak fun σ H Q ⟨RR, F, s, r, q⟩ => ?_
  simp only [ev] at q
  refine ⟨RR, F, s, r, (settled q).imp fun x s1 R1 F1 H1 p1 e1 r1 ⟨n1, q1⟩ v hv => ?_⟩
  refine ⟨R1, F1, s1, r1, (settled q1).imp fun y s2 R2 F2 H2 p2 e2 r2 ⟨n2, q2⟩ u hu => ?_⟩
  obtain ⟨x', y', kk, h1, h2, h3, q⟩ := rd2 r2 (hv.up n1 p2 e2) hu q2
  refine ⟨R2, F2, x', y', kk, r2.fz, h1, h2, h3, kk, rfl, ?_⟩
  cases kk with
  | false => exact q.now r2 _ (Rep.bl false)
  | true =>
    rw [if_pos rfl] at q ⊢
    refine ⟨R2, F2, s2, r2, (settled q).imp fun z s3 R3 F3 H3 p3 e3 r3 ⟨n3, q3⟩ t ht => ?_⟩
    obtain ⟨x2, y2, k2, g1, g2, g3, q⟩ := rd2 r3 (hu.up n2 p3 e3) ht q3
    exact ⟨R3, F3, x2, y2, k2, r3.fz, g1, g2, g3, q.now r3 _ (Rep.bl k2)⟩
theorem tst_cmp2 {o o' : CmpOp} {ea eb ec : Expr} {a c d : E} {pos : Pos} (A : Amb X b k) (ha : PE X ea (tE b W (ev a))) (hb : PE X eb (tE b W (ev c))) (hd : PE X ec (tE b W (ev d))) (hm : lastMarks [o, o'] [eb, ec] = false) :
    PT X (.Compare ea [o, o'] [eb, ec] pos) (tB' b W (evT (.cmp2 o o' a c d))) := by
  refine (pt_chain (ok_cmp o A.K A.hu) (ok_cmp o' A.K A.hu) (snd_opd ha) (snd_opd hb) (snd_opd hd) hm).weak fun σ H Q ⟨RR, F, s, r, q⟩ => ?_
  simp only [evT] at q
  refine ⟨RR, F, s, r, (settled q).imp fun x s1 R1 F1 H1 p1 e1 r1 ⟨n1, q1⟩ v hv => ?_⟩
  refine ⟨R1, F1, s1, r1, (settled q1).imp fun y s2 R2 F2 H2 p2 e2 r2 ⟨n2, q2⟩ u hu => ?_⟩
  obtain ⟨x', y', kk, h1, h2, h3, q⟩ := rd2 r2 (hv.up n1 p2 e2) hu q2
  refine ⟨R2, F2, x', y', kk, r2.fz, h1, h2, h3, kk, rfl, ?_⟩
  cases kk with
  | false => exact ⟨false, rfl, q.now r2⟩
  | true =>
    rw [if_pos rfl] at q ⊢
    refine ⟨R2, F2, s2, r2, (settled q).imp fun z s3 R3 F3 H3 p3 e3 r3 ⟨n3, q3⟩ t ht => ?_⟩
    rw [← O.bind_pure (cmpV o' y z s3)] at q3
    obtain ⟨x2, y2, k2, g1, g2, g3, q⟩ := rd2 r3 (hu.up n2 p3 e3) ht q3
    exact ⟨R3, F3, x2, y2, k2, r3.fz, g1, g2, g3, k2, rfl, q.now r3⟩
/-! ### a chain of four -/
def tChain3 (r r' r2 : R2) (ta tb tc td : TE) : TE := fun σ H Q => ta σ H fun x H1 => tb σ H1 fun y H2 => r x y H2 fun z H3 => ∃ k, z = .bl k ∧
  (if k = true then tc σ H3 fun w' H4 => r' y w' H4 fun z H5 => ∃ k, z = .bl k ∧ (if k = true then td σ H5 fun t H6 => r2 w' t H6 Q else Q (.bl false) H5) else Q (.bl false) H3)
theorem pe_chain3 {op op' op2 : CmpOp} {r r' r2 : R2} {a b c d : Expr} {ta tb tc td : TE} {pos : Pos} (ho : OpR X (compareOp op) r) (ho' : OpR X (compareOp op') r') (ho2 : OpR X (compareOp op2) r2) (ha : PE X a ta) (hb : PE X b tb) (hc : PE X c tc) (hd : PE X d td)
    (hm : lastMarks [op, op', op2] [b, c, d] = false) : PE X (.Compare a [op, op', op2] [b, c, d] pos) (tChain3 r r' r2 ta tb tc td) := by
  refine ⟨fun pins s σ H Q I h => ?_⟩
  refine Compare_chain (thn (ha.run pins s σ H _ I h) fun v s1 ⟨x, H1, I1, r1, q1⟩ => chain_link (thn (hb.run pins s1 σ H1 _ I1 q1) fun u s2 ⟨y, H2, I2, r2, q2⟩ =>
    thn (ho pins s2 σ H2 x y v u _ I2 r1 r2 q2) fun d s3 ⟨z, H3, I3, r3, k, e, q3⟩ => ?_)) hm
  subst e
  cases r3
  refine wpAny_truthy_bool ?_
  cases k with
  | false => exact ite_ff ⟨.bl false, H3, I3, rfl, q3⟩
  | true => exact ite_tt (chain_link (thn (hc.run pins s3 σ H3 _ I3 q3) fun w' s4 ⟨z', H4, I4, r4, q4⟩ => thn (ho' pins s4 σ H4 y z' u w' _ I4 r2 r4 q4) fun d' s5 ⟨z2, H5, I5, r5, k2, e2, q5⟩ => by
      subst e2
      cases r5
      refine wpAny_truthy_bool ?_
      cases k2 with
      | false => exact ite_ff ⟨.bl false, H5, I5, rfl, q5⟩
      | true => exact ite_tt (chain_last (thn (hd.run pins s5 σ H5 _ I5 q5) fun w2 s6 ⟨z3, H6, I6, r6, q6⟩ => ho2 pins s6 σ H6 z' z3 w' w2 Q I6 r4 r6 q6))))
theorem pt_chain3 {op op' op2 : CmpOp} {r r' r2 : R2} {a b c d : Expr} {ta tb tc td : TE} {pos : Pos} (ho : OpR X (compareOp op) r) (ho' : OpR X (compareOp op') r') (ho2 : OpR X (compareOp op2) r2) (ha : PE X a ta) (hb : PE X b tb) (hc : PE X c tc) (hd : PE X d td)
    (hm : lastMarks [op, op', op2] [b, c, d] = false) : PT X (.Compare a [op, op', op2] [b, c, d] pos) (tTest (tChain3 r r' r2 ta tb tc td)) := by
  refine ⟨fun pins s σ H Q I h => ?_⟩
  refine isTrue_chain (thn (ha.run pins s σ H _ I h) fun v s1 ⟨x, H1, I1, r1, q1⟩ => test_link (thn (hb.run pins s1 σ H1 _ I1 q1) fun u s2 ⟨y, H2, I2, r2, q2⟩ =>
    thn (ho pins s2 σ H2 x y v u _ I2 r1 r2 q2) fun d s3 ⟨z, H3, I3, r3, k, e, q3⟩ => ?_)) hm
  subst e
  cases r3
  refine wpAny_truthy_bool ?_
  cases k with
  | false =>
    obtain ⟨k', e', q'⟩ := q3
    cases e'
    exact ite_ff ⟨H3, I3, q'⟩
  | true => exact ite_tt (test_link (thn (hc.run pins s3 σ H3 _ I3 q3) fun w' s4 ⟨z', H4, I4, r4, q4⟩ => thn (ho' pins s4 σ H4 y z' u w' _ I4 r2 r4 q4) fun d' s5 ⟨z2, H5, I5, r5, k2, e2, q5⟩ => by
      subst e2
      cases r5
      refine wpAny_truthy_bool ?_
      cases k2 with
      | false =>
        obtain ⟨k', e', q'⟩ := q5
        cases e'
        exact ite_ff ⟨H5, I5, q'⟩
      | true =>
        refine ite_tt (test_last (thn (hd.run pins s5 σ H5 _ I5 q5) fun w2 s6 ⟨z3, H6, I6, r6, q6⟩ => thn (ho2 pins s6 σ H6 z' z3 w' w2 _ I6 r4 r6 q6) fun d2 s7 ⟨z4, H7, I7, r7, k3, e3, q7⟩ => ?_))
        subst e3
        cases r7
        exact wpAny_truthy_bool ⟨H7, I7, q7⟩))
theorem snd_cmp3 {o o' o2 : CmpOp} {ea eb ec ed : Expr} {a c d f : E} {pos : Pos} (A : Amb X b k) (ha : PE X ea (tE b W (ev a))) (hb : PE X eb (tE b W (ev c))) (hd : PE X ec (tE b W (ev d))) (hf : PE X ed (tE b W (ev f))) (hm : lastMarks [o, o', o2] [eb, ec, ed] = false) :
    PE X (.Compare ea [o, o', o2] [eb, ec, ed] pos) (tE b W (ev (.cmp3 o o' o2 a c d f))) := by
  refine (pe_chain3 (ok_cmp o A.K A.hu) (ok_cmp o' A.K A.hu) (ok_cmp o2 A.K A.hu) (snd_opd ha) (snd_opd hb) (snd_opd hd) (snd_opd hf) hm).weak fun σ H Q ⟨RR, F, s, r, q⟩ => ?_
  simp only [ev] at q
  refine ⟨RR, F, s, r, (settled q).imp fun x s1 R1 F1 H1 p1 e1 r1 ⟨n1, q1⟩ v hv => ?_⟩
  refine ⟨R1, F1, s1, r1, (settled q1).imp fun y s2 R2 F2 H2 p2 e2 r2 ⟨n2, q2⟩ u hu => ?_⟩
  obtain ⟨x', y', kk, h1, h2, h3, q⟩ := rd2 r2 (hv.up n1 p2 e2) hu q2
  refine ⟨R2, F2, x', y', kk, r2.fz, h1, h2, h3, kk, rfl, ?_⟩
  cases kk with
  | false => exact q.now r2 _ (Rep.bl false)
  | true =>
    rw [if_pos rfl] at q ⊢
    refine ⟨R2, F2, s2, r2, (settled q).imp fun z s3 R3 F3 H3 p3 e3 r3 ⟨n3, q3⟩ t ht => ?_⟩
    obtain ⟨x2, y2, k2, g1, g2, g3, q⟩ := rd2 r3 (hu.up n2 p3 e3) ht q3
    refine ⟨R3, F3, x2, y2, k2, r3.fz, g1, g2, g3, k2, rfl, ?_⟩
    cases k2 with
    | false => exact q.now r3 _ (Rep.bl false)
    | true =>
      rw [if_pos rfl] at q ⊢
      refine ⟨R3, F3, s3, r3, (settled q).imp fun z2 s4 R4 F4 H4 p4 e4 r4 ⟨n4, q4⟩ t2 ht2 => ?_⟩
      obtain ⟨x3, y3, k3, g1, g2, g3, q⟩ := rd2 r4 (ht.up n3 p4 e4) ht2 q4
      exact ⟨R4, F4, x3, y3, k3, r4.fz, g1, g2, g3, q.now r4 _ (Rep.bl k3)⟩
theorem tst_cmp3 {o o' o2 : CmpOp} {ea eb ec ed : Expr} {a c d f : E} {pos : Pos} (A : Amb X b k) (ha : PE X ea (tE b W (ev a))) (hb : PE X eb (tE b W (ev c))) (hd : PE X ec (tE b W (ev d))) (hf : PE X ed (tE b W (ev f))) (hm : lastMarks [o, o', o2] [eb, ec, ed] = false) :
    PT X (.Compare ea [o, o', o2] [eb, ec, ed] pos) (tB' b W (evT (.cmp3 o o' o2 a c d f))) := by
  refine (pt_chain3 (ok_cmp o A.K A.hu) (ok_cmp o' A.K A.hu) (ok_cmp o2 A.K A.hu) (snd_opd ha) (snd_opd hb) (snd_opd hd) (snd_opd hf) hm).weak fun σ H Q ⟨RR, F, s, r, q⟩ => ?_
  simp only [evT] at q
  refine ⟨RR, F, s, r, (settled q).imp fun x s1 R1 F1 H1 p1 e1 r1 ⟨n1, q1⟩ v hv => ?_⟩
  refine ⟨R1, F1, s1, r1, (settled q1).imp fun y s2 R2 F2 H2 p2 e2 r2 ⟨n2, q2⟩ u hu => ?_⟩
  obtain ⟨x', y', kk, h1, h2, h3, q⟩ := rd2 r2 (hv.up n1 p2 e2) hu q2
  refine ⟨R2, F2, x', y', kk, r2.fz, h1, h2, h3, kk, rfl, ?_⟩
  cases kk with
  | false => exact ⟨false, rfl, q.now r2⟩
  | true =>
    rw [if_pos rfl] at q ⊢
    refine ⟨R2, F2, s2, r2, (settled q).imp fun z s3 R3 F3 H3 p3 e3 r3 ⟨n3, q3⟩ t ht => ?_⟩
    obtain ⟨x2, y2, k2, g1, g2, g3, q⟩ := rd2 r3 (hu.up n2 p3 e3) ht q3
    refine ⟨R3, F3, x2, y2, k2, r3.fz, g1, g2, g3, k2, rfl, ?_⟩
    cases k2 with
    | false => exact ⟨false, rfl, q.now r3⟩
    | true =>
      rw [if_pos rfl] at q ⊢
      refine ⟨R3, F3, s3, r3, (settled q).imp fun z2 s4 R4 F4 H4 p4 e4 r4 ⟨n4, q4⟩ t2 ht2 => ?_⟩
      rw [← O.bind_pure (cmpV o2 z z2 s4)] at q4
      obtain ⟨x3, y3, k3, g1, g2, g3, q⟩ := rd2 r4 (ht.up n3 p4 e4) ht2 q4
      exact ⟨R4, F4, x3, y3, k3, r4.fz, g1, g2, g3, k3, rfl, q.now r4⟩
/-! ### truth -/
theorem RepK.empty {K : PySem.W.Frag} {g : Str → Option Addr} {l : List (Key × D)} {vs : List (Key × V)} (h : RepK K g RR F l vs) : vs.isEmpty = l.isEmpty := by cases h <;> rfl
theorem Reps.empty {K : PySem.W.Frag} {g : Str → Option Addr} {l : List D} {vs : List V} (h : Reps K g RR F l vs) : vs.isEmpty = l.isEmpty := by cases h <;> rfl
theorem tru_of {x : D} {v : V} {kk : Bool} (h : Vw b.K b.g RR F H x v) (e : x.tru = some kk) (s : Same F H) (hK : b.K = X.K) : TruV X.K v H kk := by
  cases h with
  | non => cases e; rfl
  | bl => cases e; rfl
  | int => cases e; rfl
  | str x =>
    simp only [D.tru] at e
    split at e
    · rename_i hl
      cases e
      exact ⟨by rw [big_eq]; exact hl, rfl⟩
    · cases e
  | tup h r => cases e; exact .inr (.inl ⟨_, hK ▸ s.seqT h, by rw [r.empty]⟩)
  | lst h r => cases e; exact .inl ⟨_, .inl (.inl h), by rw [r.empty]⟩
  | dct h r => cases e; exact .inr (.inr ⟨_, h, by rw [r.empty]⟩)
  | obj h => cases e
  | fn h => cases e
  | scr h => cases e
theorem truV_red {α : Type} {x : R} {v : V} {h : Bool → S → O α} {P : α → S → List Addr → Hp → Hp → Prop} (A : Amb X b k) (r : Rel b RR F s σ H) (hv : RRel b RR F s σ H x v) (q : Go b W σ RR F ((truV x s).bind h) P) :
    ∃ kk, TruV X.K v H kk ∧ Go b W σ RR F (h kk s) P := by
  unfold truV at q
  cases h1 : s.rd x with
  | none => rw [h1] at q; exact q.elim
  | some x' =>
    rw [h1] at q
    cases h2 : x'.tru with
    | none => rw [Option.bind_some, h2] at q; exact q.elim
    | some kk =>
      rw [Option.bind_some, h2] at q
      exact ⟨kk, tru_of (vw_of r hv h1) h2 r.fz A.K, q⟩
theorem snd_not {e : Expr} {a : E} {pos : Pos} (A : Amb X b k) (ha : PE X e (tE b W (ev a))) : PE X (.UnaryOp .Not e pos) (tE b W (ev (.not a))) := by
  refine (pe_notT (snd_opd ha)).weak fun σ H Q ⟨RR, F, s, r, q⟩ => ?_
  simp only [ev] at q
  refine ⟨RR, F, s, r, (settled q).imp fun x s1 R1 F1 H1 p1 e1 r1 ⟨n1, q1⟩ v hv => ?_⟩
  obtain ⟨kk, h1, q⟩ := truV_red A r1 hv q1
  exact ⟨kk, h1, q.now r1 _ (Rep.bl _)⟩
/-- a value as a test -/
theorem tst_val {e : Expr} {f : S → O R} (A : Amb X b k) (ha : PE X e (tE b W f)) (he : ∀ whole, isTrue e X.env whole = (do let v ← whole; standAt e.pos; holding [v] (truthy v))) : PT X e (tB' b W fun s => (f s).opd.bind fun r s => truV r s) := by
  refine (pt_truth (snd_opd ha) he).weak fun σ H Q ⟨RR, F, s, r, q⟩ => ?_
  refine ⟨RR, F, s, r, (settled q).imp fun x s1 R1 F1 H1 p1 e1 r1 ⟨n1, q1⟩ v hv => ?_⟩
  rw [← O.bind_pure (truV x s1)] at q1
  obtain ⟨kk, h1, q⟩ := truV_red A r1 hv q1
  exact ⟨kk, h1, q.now r1⟩
theorem tst_not {e : Expr} {a : E} {pos : Pos} (ha : PT X e (tB' b W (evT a))) : PT X (.UnaryOp .Not e pos) (tB' b W (evT (.not a))) := by
  refine (pt_not ha).weak fun σ H Q ⟨RR, F, s, r, q⟩ => ?_
  simp only [evT] at q
  exact ⟨RR, F, s, r, q.bind fun x s1 R1 F1 H1 p1 e1 r1 q1 => q1.now r1⟩
theorem tst_and {e f : Expr} {es : List Expr} {a c : E} {pos : Pos} (ha : PT X e (tB' b W (evT a))) (hb : PW X (.BoolOp .And (f :: es) pos) (tB' b W (evT c))) : PW X (.BoolOp .And (e :: f :: es) pos) (tB' b W (evT (.and a c))) := by
  refine ⟨fun wh pins s σ H Q I q => (pw_and ha hb).run wh pins s σ H Q I ?_⟩
  obtain ⟨RR, F, s, r, q⟩ := q
  simp only [evT] at q
  refine ⟨RR, F, s, r, q.bind fun x s1 R1 F1 H1 p1 e1 r1 q1 => ?_⟩
  cases x with
  | true => exact ⟨R1, F1, s1, r1, q1⟩
  | false => exact q1.now r1
theorem tst_or {e f : Expr} {es : List Expr} {a c : E} {pos : Pos} (ha : PT X e (tB' b W (evT a))) (hb : PW X (.BoolOp .Or (f :: es) pos) (tB' b W (evT c))) : PW X (.BoolOp .Or (e :: f :: es) pos) (tB' b W (evT (.or a c))) := by
  refine ⟨fun wh pins s σ H Q I q => (pw_or ha hb).run wh pins s σ H Q I ?_⟩
  obtain ⟨RR, F, s, r, q⟩ := q
  simp only [evT] at q
  refine ⟨RR, F, s, r, q.bind fun x s1 R1 F1 H1 p1 e1 r1 q1 => ?_⟩
  cases x with
  | false => exact ⟨R1, F1, s1, r1, q1⟩
  | true => exact q1.now r1
theorem snd_and {e f : Expr} {es : List Expr} {a c : E} {pos : Pos} (ha : PE X e (tE b W (ev a))) (hb : PE X (.BoolOp .And (f :: es) pos) (tE b W (ev c))) : PE X (.BoolOp .And (e :: f :: es) pos) (tE b W (ev (.and a c))) := by
  refine (pe_and (snd_opd ha) hb).weak fun σ H Q ⟨RR, F, s, r, q⟩ => ?_
  simp only [ev] at q
  refine ⟨RR, F, s, r, (settled q).imp fun x s1 R1 F1 H1 p1 e1 r1 ⟨n1, q1⟩ v hv => ?_⟩
  split at q1
  · cases hv; exact ⟨true, rfl, R1, F1, s1, r1, q1⟩
  · cases hv; exact ⟨false, rfl, q1.now r1 _ (Rep.bl false)⟩
  · exact q1.elim
theorem snd_or {e f : Expr} {es : List Expr} {a c : E} {pos : Pos} (ha : PE X e (tE b W (ev a))) (hb : PE X (.BoolOp .Or (f :: es) pos) (tE b W (ev c))) : PE X (.BoolOp .Or (e :: f :: es) pos) (tE b W (ev (.or a c))) := by
  refine (pe_or (snd_opd ha) hb).weak fun σ H Q ⟨RR, F, s, r, q⟩ => ?_
  simp only [ev] at q
  refine ⟨RR, F, s, r, (settled q).imp fun x s1 R1 F1 H1 p1 e1 r1 ⟨n1, q1⟩ v hv => ?_⟩
  split at q1
  · cases hv; exact ⟨true, rfl, q1.now r1 _ (Rep.bl true)⟩
  · cases hv; exact ⟨false, rfl, R1, F1, s1, r1, q1⟩
  · exact q1.elim
theorem snd_ifx {e f g : Expr} {a c d : E} {pos : Pos} (ht : PT X e (tB' b W (evT a))) (ha : PE X f (tE b W (ev c))) (hb : PE X g (tE b W (ev d))) : PE X (.IfExp e f g pos) (tE b W (ev (.ifx a c d))) := by
  refine (pe_ifExp ht ha hb).weak fun σ H Q ⟨RR, F, s, r, q⟩ => ?_
  simp only [ev] at q
  refine ⟨RR, F, s, r, q.bind fun x s1 R1 F1 H1 p1 e1 r1 q1 => ?_⟩
  cases x with
  | true => exact ⟨R1, F1, s1, r1, q1⟩
  | false => exact ⟨R1, F1, s1, r1, q1⟩
theorem snd_neg {e : Expr} {a : E} {pos : Pos} (ha : PE X e (tE b W (ev a))) : PE X (.UnaryOp .USub e pos) (tE b W (ev (.neg a))) := by
  refine (pe_un un_neg (snd_opd ha)).weak fun σ H Q ⟨RR, F, s, r, q⟩ => ?_
  simp only [ev] at q
  refine ⟨RR, F, s, r, (settled q).imp fun x s1 R1 F1 H1 p1 e1 r1 ⟨n1, q1⟩ v hv => ?_⟩
  split at q1
  · rename_i i hi
    have := vw_of r1 hv hi
    cases this
    exact ⟨_, rfl, q1.now r1 _ (Rep.int _)⟩
  · exact q1.elim

/-! ### lists of expressions -/
theorem snd_nil : PA X [] (tAs b W (evs .nil)) := pa_nil.weak fun σ H Q ⟨RR, F, s, r, q⟩ => q.now r _ .nil
theorem snd_cons {e : Expr} {es : List Expr} {a : E} {as : Es} (ha : PE X e (tE b W (ev a))) (hb : PA X es (tAs b W (evs as))) (hs : starEach (e :: es) X.env = (false, eval e X.env) :: starEach es X.env) : PA X (e :: es) (tAs b W (evs (.cons a as))) := by
  refine (pa_cons (snd_val ha) hb hs).weak fun σ H Q ⟨RR, F, s, r, q⟩ => ?_
  simp only [evs] at q
  refine ⟨RR, F, s, r, q.bind fun x s1 R1 F1 H1 p1 e1 r1 q1 v hv => ?_⟩
  refine ⟨R1, F1, s1, r1, q1.bind fun l s2 R2 F2 H2 p2 e2 r2 q2 vs hvs => ?_⟩
  exact q2.now r2 _ (.cons (hv.mono e2 p2) hvs)
theorem sndO_nil : PA X [] (tOs b W (evOs .nil)) := pa_nil.weak fun σ H Q ⟨RR, F, s, r, q⟩ => q.now r _ .nil
theorem sndO_cons {e : Expr} {es : List Expr} {a : E} {as : Es} (ha : PE X e (tE b W (ev a))) (hb : PA X es (tOs b W (evOs as))) (hs : starEach (e :: es) X.env = (false, eval e X.env) :: starEach es X.env) : PA X (e :: es) (tOs b W (evOs (.cons a as))) := by
  refine (pa_cons (snd_opd ha) hb hs).weak fun σ H Q ⟨RR, F, s, r, q⟩ => ?_
  simp only [evOs] at q
  refine ⟨RR, F, s, r, (settled q).imp fun x s1 R1 F1 H1 p1 e1 r1 ⟨n1, q1⟩ v hv => ?_⟩
  refine ⟨R1, F1, s1, r1, q1.bind fun l s2 R2 F2 H2 p2 e2 r2 q2 vs hvs => ?_⟩
  exact q2.now r2 _ (.cons ⟨hv.up n1 p2 e2, n1⟩ hvs)
theorem evs_len : ∀ (as : Es) (s : S) (l : List D) (t : S), evs as s = .ok l t → l.length = as.len
  | .nil, s, l, t, h => by cases h; rfl
  | .cons a as, s, l, t, h => by
    simp only [evs] at h
    cases h1 : (ev a s).val with
    | bad => rw [h1] at h; cases h
    | ex e u => rw [h1] at h; cases h
    | ok x u =>
      rw [h1] at h
      cases h2 : evs as u with
      | bad => simp only [O.bind, h2, reduceCtorEq] at h
      | ex e u => simp only [O.bind, h2, reduceCtorEq] at h
      | ok m w =>
        simp only [O.bind, h2, O.ok.injEq] at h
        obtain ⟨rfl, rfl⟩ := h
        rw [List.length_cons, evs_len as u m w h2]; rfl
theorem len_ok {n : Nat} (h : n ≤ 1000) : n ≤ sizeLine := Nat.le_of_lt (small1000 h)
theorem snd_tup {es : List Expr} {as : Es} {j : Nat} {pos : Pos} (h : PA X es (tAs b W (evs as))) (hn : as.len ≤ 1000) : PE X (.Tuple es j pos) (tE b W (ev (.tup as))) := by
  refine (pe_tup h).weak fun σ H Q ⟨RR, F, s, r, q⟩ => ?_
  simp only [ev] at q
  refine ⟨RR, F, s, r, q.bind' fun l s1 R1 F1 H1 ho p1 e1 r1 q1 vs hvs => ⟨?_, fun p hp => ?_⟩⟩
  · rw [← hvs.len, evs_len as s l s1 ho]; exact len_ok hn
  · exact (res_ok q1 r1 fun i z => by cases z).tup r1.fz hvs p hp
theorem snd_lst {es : List Expr} {as : Es} {pos : Pos} (h : PA X es (tAs b W (evs as))) (hn : as.len ≤ 1000) : PE X (.List es pos) (tE b W (ev (.lst as))) := by
  refine (pe_lst h).weak fun σ H Q ⟨RR, F, s, r, q⟩ => ?_
  simp only [ev] at q
  refine ⟨RR, F, s, r, q.bind' fun l s1 R1 F1 H1 ho p1 e1 r1 q1 vs hvs => ⟨?_, fun p hp => ?_⟩⟩
  · rw [← hvs.len, evs_len as s l s1 ho]; exact len_ok hn
  · exact (res_ok q1 r1 fun i z => by cases z).lst hvs p hp
theorem snd_dnil {pos : Pos} : PE X (.Dict [] [] pos) (tE b W (ev .dnil)) := by
  refine pe_dnewK.weak fun σ H Q ⟨RR, F, s, r, q⟩ => fun p hp => ?_
  exact (res_ok q r fun i z => by cases z) p _ hp (same_new hp) (.dK upd_same .nil)

/-! ### items and slices -/
theorem Reps.at {K : PySem.W.Frag} {g : Str → Option Addr} {l : List D} {vs : List V} (h : Reps K g RR F l vs) {i : Int} {d : D} (e : atI l i = some d) : ∃ v, atI vs i = some v ∧ Rep K g RR F d v := by
  unfold atI at e ⊢
  rw [← h.len]
  cases q : ixN l.length i with
  | none => rw [q] at e; cases e
  | some j =>
    rw [q] at e
    exact h.get e
theorem atI_map {α β : Type} (f : α → β) (l : List α) (i : Int) : atI (l.map f) i = (atI l i).map f := by
  unfold atI
  rw [List.length_map]
  cases ixN l.length i with
  | none => rfl
  | some j => simp
theorem snd_ix {e f : Expr} {a c : E} {pos : Pos} (hK : b.K = X.K) (ha : PE X e (tE b W (ev a))) (hb : PE X f (tE b W (ev c))) (hp : PlainIx f) : PE X (.Subscript e f pos) (tE b W (ev (.ix a c))) := by
  refine (pe_ix (ix_seq (X := X)) (snd_opd ha) (snd_opd hb) hp).weak fun σ H Q ⟨RR, F, s, r, q⟩ => ?_
  simp only [ev] at q
  refine snd_bin2 (ea := e) (eb := f) r q fun x y s RR F H v u r hv hu n1 n2 q => ?_
  rw [← O.bind_pure (ixV x y s)] at q
  obtain ⟨x', y', res, h1, h2, h3, q⟩ := rd2 (f := fun x y => (opIx x y).map R.d) r hv hu q
  obtain ⟨d, h4, rfl⟩ := map_some h3
  clear h3
  have h3 := h4
  clear h4
  have q := q.now r
  unfold opIx at h3
  split at h3
  · cases h2
    cases h1 with
    | lst h k =>
      obtain ⟨w, k1, k2⟩ := k.at h3
      exact .inl ⟨_, _, _, w, rfl, rfl, .inl (.inl h), k1, q _ k2⟩
  · cases h2
    cases h1 with
    | tup h k =>
      obtain ⟨w, k1, k2⟩ := k.at h3
      exact .inr (.inl ⟨_, _, _, w, rfl, rfl, hK ▸ r.fz.seqT h, k1, q _ k2⟩)
  · cases h2
    cases h1 with
    | scr h =>
      obtain ⟨i, h4, rfl⟩ := map_some h3
      exact .inl ⟨_, _, _, .int i, rfl, rfl, hK ▸ h, by rw [atI_map, h4]; rfl, q _ (Rep.int i)⟩
  · cases h2
    cases h1
    split at h3
    · rename_i hl
      obtain ⟨i, h4, rfl⟩ := map_some h3
      exact .inr (.inr ⟨_, _, i, rfl, rfl, by rw [big_eq]; exact hl, h4, q _ (Rep.str _)⟩)
    · cases h3
  · cases h3
theorem Reps.cut {K : PySem.W.Frag} {g : Str → Option Addr} {l : List D} {vs : List V} (h : Reps K g RR F l vs) (lo hi : Option Int) : Reps K g RR F (cut l lo hi) (cutV vs lo hi) := by
  unfold G4.cut cutV
  rw [← h.len]
  exact (h.drop _).take _
theorem cut_map {α β : Type} (f : α → β) (l : List α) (lo hi : Option Int) : cut (l.map f) lo hi = (cut l lo hi).map f := by
  unfold cut
  rw [List.length_map, List.map_take, List.map_drop]
theorem cut_ints (l : List Int) (lo hi : Option Int) : cutV (l.map V.int) lo hi = (cut l lo hi).map V.int := cut_map V.int l lo hi
theorem snd_no : PO X none (tOo b W (evo .no)) := by
  refine ⟨fun pins s σ H Q I ⟨RR, F, s0, r, q⟩ => ?_⟩
  exact po_none.run pins s σ H Q I (q.now r)
theorem snd_so {e : Expr} {a : E} (ha : PE X e (tE b W (ev a))) : PO X (some e) (tOo b W (evo (.so a))) := by
  refine ⟨fun pins s σ H Q I ⟨RR, F, s0, r, q⟩ => ?_⟩
  refine (po_some ha).run pins s σ H Q I ⟨RR, F, s0, r, ?_⟩
  simp only [evo] at q
  refine q.bind fun x s1 R1 F1 H1 p1 e1 r1 q1 v hv => ?_
  split at q1
  · cases hv; exact ⟨_, rfl, q1.now r1⟩
  · exact q1.elim
theorem cut_whole {α : Type} {l : List α} {lo hi : Option Int} (h : HT.sIx l.length 0 lo = 0 ∧ HT.sIx l.length l.length hi = l.length) : cut l lo hi = l := by
  unfold G4.cut
  rw [h.1, h.2, List.drop_zero, Nat.sub_zero, List.take_length]
theorem snd_sl {e : Expr} {lo hi : Option Expr} {a : E} {l h : EO} {pos p2 : Pos} (hK : b.K = X.K) (ha : PE X e (tE b W (ev a))) (hl : PO X lo (tOo b W (evo l))) (hh : PO X hi (tOo b W (evo h))) :
    PE X (.Subscript e (.Slice lo hi none p2) pos) (tE b W (ev (.sl a l h))) := by
  refine (pe_slice ((sl_list (X := X)).or (sl_tupA (X := X))) (snd_opd ha) hl hh).weak fun σ H Q ⟨RR, F, s, r, q⟩ => ?_
  simp only [ev] at q
  refine ⟨RR, F, s, r, (settled q).imp fun x s1 R1 F1 H1 p1 e1 r1 ⟨n1, q1⟩ v hv => ?_⟩
  refine ⟨R1, F1, s1, r1, q1.bind fun lv s2 R2 F2 H2 p2 e2 r2 q2 => ?_⟩
  refine ⟨R2, F2, s2, r2, q2.bind fun uv s3 R3 F3 H3 p3 e3 r3 q3 => ?_⟩
  have hv3 := (hv.up (s' := s2) (H' := H2) n1 p2 e2).up (s' := s3) (H' := H3) n1 p3 e3
  cases h1 : s3.rd x with
  | none => rw [h1] at q3; exact q3.elim
  | some x' =>
    rw [h1] at q3
    simp only at q3
    obtain ⟨res, h2, q3⟩ := q3.opt
    have hw := vw_of r3 hv3 h1
    unfold opSl at h2
    split at h2
    · cases h2
      cases hw with
      | lst h k => exact .inl ⟨_, _, rfl, .inl (.inl h), (res_ok q3 r3 fun i z => by cases z).lst (k.cut _ _)⟩
    · cases h2
      cases hw with
      | scr h =>
        refine .inl ⟨_, _, rfl, hK ▸ h, ?_⟩
        rw [cut_ints]
        exact (res_ok q3 r3 fun i z => by cases z).lst (.ofInts _)
    · cases h2
      cases hw with
      | tup h k =>
        have hk := k.len
        refine .inr ⟨_, _, rfl, hK ▸ r3.fz.seqT h, fun hw => ?_, fun _ p hp => (res_ok q3 r3 fun i z => by cases z).tup r3.fz (k.cut _ _) p hp⟩
        refine (res_ok q3 r3 fun i z => by cases z).imm ?_
        rw [cut_whole (by rw [hk]; exact hw)]
        exact .tup h k
    · cases h2
theorem snd_rev {e : Expr} {a : E} {j : Nat} {p1 p2 p3 pos : Pos} (ha : PE X e (tE b W (ev a))) : PE X (.Subscript e (.Slice none none (some (.UnaryOp .USub (.Constant (.int 1) j p1) p2)) p3) pos) (tE b W (ev (.rev a))) := by
  refine (pe_revL (snd_opd ha)).weak fun σ H Q ⟨RR, F, s, r, q⟩ => ?_
  simp only [ev] at q
  refine ⟨RR, F, s, r, (settled q).imp fun x s1 R1 F1 H1 p1 e1 r1 ⟨n1, q1⟩ v hv => ?_⟩
  split at q1
  · rename_i l hl
    cases vw_of r1 hv hl with
    | lst h k => exact ⟨_, _, rfl, .inl (.inl h), (res_ok q1 r1 fun i z => by cases z).lst k.rev⟩
  · exact q1.elim
end
end G4

namespace G4
open PySem PySem.Spec PyProof.Rows L2

/-! ### a def of the text, by what it does in the little Python -/
def spF (K : PySem.W.Frag) (g : Str → Option Addr) (n : Nat) (f : Fn) : Sp := fun vs H Q E => vs.length = n ∧ ∃ RR F ds st, Rel ⟨K, g, H, RR, F⟩ RR F ⟨[], st⟩ [] H ∧ Reps K g RR F ds vs ∧
  match f ds st with
  | .ok r st' => ∀ v RR' F' H', RR <+: RR' → Same F F' → Rel ⟨K, g, H, RR, F⟩ RR' F' ⟨[], st'⟩ [] H' → RRel ⟨K, g, H, RR, F⟩ RR' F' ⟨[], st'⟩ [] H' r v → Q v H'
  | .ex e st' => ∀ cls d F' H', Same F F' → Rel ⟨K, g, H, RR, F⟩ RR F' ⟨[], st'⟩ [] H' → XRel ⟨K, g, H, RR, F⟩ e cls d H' → E cls d H'
  | .bad => False
/-- it is known what the def called x does -/
def Kn (P : Program) (w : World) (K : PySem.W.Frag) (mg : Str → Option Value) (base : Heap) (g : Str → Option Addr) (k : Nat) (x : Str) (f : Fn) (n : Nat) : Prop :=
  ∃ fa fd ps, mg x = some (.ref fa) ∧ PySem.W.keepIn K (.ref fa) = true ∧ FnG P w K mg base k fa fd ps (spF K g n f) ∧ Binds K fd ps []
def permV (pm : List Nat) (l : List Value) : List Value := pm.map fun i => l.getD i .none
/-- .. called by keywords -/
def KnK (P : Program) (w : World) (K : PySem.W.Frag) (mg : Str → Option Value) (base : Heap) (g : Str → Option Addr) (k : Nat) (x : Str) (f : Fn) (pm : List Nat) (ks : List Str) : Prop :=
  ∃ fa fd ps, mg x = some (.ref fa) ∧ PySem.W.keepIn K (.ref fa) = true ∧ FnG P w K mg base k fa fd ps (spF K g pm.length f) ∧
    ∀ us : List Value, us.length = ks.length → bindArgs fd ⟨[], ks.zip us⟩ = pure (ps.zip (permV pm us))
section
variable {X : Cx} {b : Bs} {W : WX} {k : Nat} {σ : L2.St} {RR RR' : List Addr} {F F' H H' : Hp} {s : S} {Q : VK}
theorem Rel.enter (r : Rel b RR F s σ H) : Rel ⟨b.K, b.g, H, RR, F⟩ RR F ⟨[], s.st⟩ [] H :=
  ⟨r.fz, Same.refl _, fun _ _ h => .inl h, fun _ _ h _ => h, List.prefix_refl _, fun a m n => absurd m n, r.nd, r.rf, r.stl, r.st, rfl, fun i x h => by simp at h, fun i c h => by simp at h, fun i j c d a h => by simp at h⟩
theorem Rel.back {st' : List Cell} (r : Rel b RR F s σ H) (r' : Rel ⟨b.K, b.g, H, RR, F⟩ RR' F' ⟨[], st'⟩ [] H') (p : RR <+: RR') (e : Same F F') : Rel b RR' F' ⟨s.sl, st'⟩ σ H' where
  fz := r'.fz
  f0 := r.f0.trans e
  fn := fun a o q => by
    rcases r'.fn a o q with w | w
    · exact r.fn a o w
    · exact .inr (r.lone w).h
  keep := fun a o q n => by
    refine r'.keep a o (r.keep a o q n) fun m => ?_
    have := r.new a m n
    rw [q] at this; cases this
  pre := r.pre.trans p
  new := fun a m n => by
    by_cases h : a ∈ RR
    · exact r.new a h n
    · exact (r.lone (r'.new a m h)).h
  nd := r'.nd
  rf := r'.rf
  stl := r'.stl
  st := r'.st
  len := r.len
  sd := fun i x q => let ⟨v, h1, h2⟩ := r.sd i x q; ⟨v, h1, h2.mono e p⟩
  so := fun i c q => by
    obtain ⟨a, h1, h2, h3, h4, h5⟩ := r.so i c q
    refine ⟨a, h1, h2.mono e p fun o z => r'.keep a o z h4, ?_, fun m => ?_, h5⟩
    · cases z : F' a with
      | none => rfl
      | some o =>
        obtain ⟨o2, ho⟩ := h2.there
        rcases r'.fn a o z with w | w
        · have w : F a = some o := w
          rw [h3] at w; cases w
        · have w : H a = none := w
          rw [ho] at w; cases w
    · obtain ⟨o2, ho⟩ := h2.there
      have w : H a = none := r'.new a m h4
      rw [ho] at w; cases w
  ap := r.ap
theorem RRel.back {st' : List Cell} {x : R} {v : V} (r : Rel b RR F s σ H) (h : RRel ⟨b.K, b.g, H, RR, F⟩ RR' F' ⟨[], st'⟩ [] H' x v) : RRel b RR' F' ⟨s.sl, st'⟩ σ H' x v := by
  cases x with
  | d x => exact h
  | pl i => have h : ([] : L2.St)[i]? = some (some v) := h; simp at h
  | new c =>
    obtain ⟨a, h1, h2, h3⟩ := h
    have hn : H a = none := h3.h
    exact ⟨a, h1, h2, h3.f, h3.r, (r.lone hn).h, (r.lone hn).o⟩
theorem sp_of {f : Fn} {n : Nat} {l : List D} {vs : List V} (r : Rel b RR F s σ H) (hn : l.length = n) (hv : Reps b.K b.g RR F l vs)
    (q : Go b W σ RR F ((f l s.st).toO s.sl) fun r s' RR' F' H' => ∀ v, RRel b RR' F' s' σ H' r v → Q v H') : spF b.K b.g n f vs H Q (WE W σ) := by
  refine ⟨hv.len ▸ hn, RR, F, l, s.st, r.enter, hv, ?_⟩
  cases e : f l s.st with
  | bad => rw [e] at q; exact q.elim
  | ok x st' =>
    rw [e] at q
    exact fun v R' F' H' hp e1 r1 h1 => q R' F' H' hp e1 (r.back r1 hp e1) v (RRel.back r h1)
  | ex x st' =>
    rw [e] at q
    exact fun cls d F' H' e1 r1 h1 => q cls d RR F' H' (List.prefix_refl _) e1 (r.back r1 (List.prefix_refl _) e1) h1
/-- what a lent object's call leaves -/
theorem Rel.lent {st' : List Cell} {sl' : List SV} {τ : L2.St} {F1 : Hp} (r : Rel b RR F s σ H) (e1 : Same F F1) (r' : Rel ⟨b.K, b.g, H, RR, F1⟩ RR' F' ⟨sl', st'⟩ τ H') (p : RR <+: RR') (e : Same F1 F') (hf : st'.all Cell.flat = true) : Rel b RR' F ⟨s.sl, st'⟩ σ H' where
  fz := (e1.trans e).trans r'.fz
  f0 := r.f0
  fn := r.fn
  keep := fun a o q n => by
    refine r'.keep a o (r.keep a o q n) fun m => ?_
    have := r.new a m n
    rw [q] at this; cases this
  pre := r.pre.trans p
  new := fun a m n => by
    by_cases h : a ∈ RR
    · exact r.new a h n
    · exact (r.lone (r'.new a m h)).h
  nd := r'.nd
  rf := fun a m => by
    cases z : F a with
    | none => rfl
    | some o =>
      have := (e1.trans e) _ _ z
      rw [r'.rf a m] at this; cases this
  stl := r'.stl
  st := fun n c a q z => by
    obtain ⟨h1, h2⟩ := r'.st n c a q z
    refine ⟨?_, h2⟩
    have hc := List.all_eq_true.mp hf c (List.mem_of_getElem? q)
    cases h1 with
    | @lst l vs h k =>
      refine .lst h ?_
      have hc2 : l.all D.flat = true := hc
      clear q h2 h hc
      induction l generalizing vs with
      | nil => cases k; exact .nil
      | cons d l ih =>
        rw [List.all_cons, Bool.and_eq_true] at hc2
        cases k with
        | cons a t =>
          refine .cons ?_ (ih t hc2.2)
          have hc1 := hc2.1
          cases a <;> first | exact .non | exact .bl _ | exact .int _ | exact .str _ | cases hc1
    | dK h k => cases hc
  len := r.len
  sd := fun i x q => let ⟨v, h1, h2⟩ := r.sd i x q; ⟨v, h1, h2.mono (Same.refl _) p⟩
  so := fun i c q => by
    obtain ⟨a, h1, h2, h3, h4, h5⟩ := r.so i c q
    refine ⟨a, h1, h2.mono (Same.refl _) p fun o z => r'.keep a o z h4, h3, fun m => ?_, h5⟩
    obtain ⟨o2, ho⟩ := h2.there
    have w : H a = none := r'.new a m h4
    rw [ho] at w; cases w
  ap := r.ap
theorem flat_lent {y : D} {v : V} {K : PySem.W.Frag} {g : Str → Option Addr} {R1 R2 : List Addr} {F1 F2 : Hp} (h : Rep K g R1 F1 y v) (e : y.flat = true) : Rep K g R2 F2 y v := by
  cases h <;> first | exact .non | exact .bl _ | exact .int _ | exact .str _ | cases e
/-- the state with what is lent, other own objects hidden -/
theorem lend_rel : ∀ {l : List Nat} {s s1 : S} {F : Hp}, Rel b RR F s σ H → lendS l s = some s1 → ∃ F1, Same F F1 ∧ Rel ⟨b.K, b.g, H, RR, F1⟩ RR F1 s1 σ H
  | [], s, s1, F, r, h => by
    simp only [lendS, Option.some.injEq] at h
    subst h
    have r1 : Rel b RR F ⟨s.sl.map SV.noOwn, s.st⟩ σ H := r.un (by rw [List.length_map]; exact r.len) fun j y q n => by
      rw [List.getElem?_map] at q
      cases e : s.sl[j]? with
      | none => rw [e] at q; cases q
      | some v =>
        rw [e] at q
        cases v with
        | own c => cases q; exact absurd rfl n
        | un => cases q; exact absurd rfl n
        | d x => cases q; exact ⟨rfl, rfl⟩
    refine ⟨F, Same.refl _, ⟨r1.fz, Same.refl _, fun _ _ h => .inl h, fun _ _ h _ => h, List.prefix_refl _, fun a m n => absurd m n, r1.nd, r1.rf, r1.stl, r1.st, r1.len, r1.sd, fun i c h => ?_, fun i j c d a h => ?_⟩⟩
    · have h : (s.sl.map SV.noOwn)[i]? = some (.own c) := h
      rw [List.getElem?_map] at h
      cases e : s.sl[i]? with
      | none => rw [e] at h; cases h
      | some v => rw [e] at h; cases v <;> cases h
    · have h : (s.sl.map SV.noOwn)[i]? = some (.own c) := h
      rw [List.getElem?_map] at h
      cases e : s.sl[i]? with
      | none => rw [e] at h; cases h
      | some v => rw [e] at h; cases v <;> cases h
  | i :: l, s, s1, F, r, h => by
    simp only [lendS] at h
    split at h
    · rename_i c hc
      split at h
      · rename_i x hx
        obtain ⟨a, F1, g1, e1, rx, r1⟩ := r.frzS hc hx
        obtain ⟨F2, e2, r2⟩ := lend_rel r1 h
        exact ⟨F2, e1.trans e2, r2⟩
      · cases h
    · exact lend_rel r h
    · cases h
theorem snd_callb {x y : Str} {f : Fn} {i : Nat} {p p2 pos : Pos} (A : Amb X b k) (tk : Takes X W) (hk : Kn X.prog X.w X.K X.mg X.base b.g k x f 1) (gl : Gl X x) (hN : X.N[i]? = some y) (hv : Vis X.env.scope y) (hd : (y == ("__debug__" : Str)) = false) (hc : (y == ("__classdict__" : Str)) = false)
    (hdb : (x == ("__debug__" : Str)) = false) (he : starEach [Expr.Name y p2] X.env = (false, eval (Expr.Name y p2) X.env) :: starEach [] X.env) (hpl : (backTo pos (starEach [Expr.Name y p2] X.env)).any (·.1) = false) :
    PE X (.Call (.Name x p) [.Name y p2] [] pos) (tE b W (ev (.callb x f i))) := by
  obtain ⟨fa, fd, ps, h1, h2, h3, h4⟩ := hk
  refine (pe_callG h3 A.room A.gd tk gl h1 h2 h4 (pa_cons (pe_var (pos := p2) hN hv hd hc) pa_nil he) hdb he hpl).weak fun σ H Q ⟨RR, F, s, r, q⟩ => ?_
  simp only [ev] at q
  split at q
  · rename_i c hc
    unfold lendV at q
    split at q
    · rename_i d hd
      obtain ⟨a, F1, g1, e1, rx, r1⟩ := r.frzS hc hd
      refine ⟨.ref a, g1, ?_⟩
      show spF X.K b.g 1 f [.ref a] H Q (WE W σ)
      rw [← A.K]
      refine ⟨rfl, RR, F1, [d], s.st, r1.enter, .cons rx .nil, ?_⟩
      cases ef : f [d] s.st with
      | bad => rw [ef] at q; exact q.elim
      | ex x st' => rw [ef] at q; exact q.elim
      | ok y st' =>
        rw [ef] at q
        cases y with
        | d y =>
          simp only at q
          split at q
          · rename_i hfl
            rw [Bool.and_eq_true] at hfl
            intro v R' F' H' hp e2 r2 hv
            exact q R' F H' hp (Same.refl _) (r.lent e1 r2 hp e2 hfl.2) v (flat_lent hv hfl.1)
          · exact q.elim
        | new c => exact q.elim
        | pl j => exact q.elim
    · exact q.elim
  · exact q.elim
theorem snd_mov {i : Nat} {x : Str} {pos : Pos} (hN : X.N[i]? = some x) (hv : Vis X.env.scope x) (hd : (x == ("__debug__" : Str)) = false) (hc : (x == ("__classdict__" : Str)) = false) : PE X (.Name x pos) (tE b W (ev (.mov i))) := by
  refine (pe_var hN hv hd hc).weak fun σ H Q ⟨RR, F, s, r, q⟩ => ?_
  simp only [ev] at q
  split at q
  · rename_i c e
    split at q
    · rename_i hp
      obtain ⟨a, h1, h2, h3, h4, h5⟩ := r.so i c e
      refine ⟨_, h1, ?_⟩
      have hi : i < s.sl.length := (List.getElem?_eq_some_iff.mp e).1
      have r1 : Rel b RR F ⟨s.sl.set i .un, s.st⟩ σ H := r.un (by simp [r.len]) fun j y q n => by
        rcases set_cases q with ⟨rfl, e, _⟩ | ⟨m, q⟩
        · exact absurd e n
        · exact ⟨q, rfl⟩
      have l1 : Lone b RR F ⟨s.sl.set i .un, s.st⟩ σ a := ⟨h3, h4, h5, fun j d q p => by
        rcases set_cases q with ⟨rfl, e2, _⟩ | ⟨m, q⟩
        · cases e2
        · exact m (r.ap j i d c a q e p h1)⟩
      have r2 := r1.push h2 l1 hp
      have ro : Rep b.K b.g (RR ++ [a]) F (.obj s.st.length) (.ref a) := .obj (by rw [r.stl]; simp)
      have r3 := r2.storeD (i := i) ro
      have hσ : σ.set i (some (.ref a)) = σ := by
        apply List.ext_getElem?
        intro j
        by_cases hj : j = i
        · subst hj
          rw [List.getElem?_set_self (by rw [← r.len]; exact hi), h1]
        · rw [List.getElem?_set_ne (Ne.symm hj)]
      have el : (s.sl.set i SV.un).set i (.d (.obj s.st.length)) = s.sl.set i (.d (.obj s.st.length)) := by rw [List.set_set]
      rw [hσ] at r3
      have r4 : Rel b (RR ++ [a]) F ⟨s.sl.set i (.d (.obj s.st.length)), s.st ++ [c]⟩ σ H := by rw [← el]; exact r3
      exact q _ F H (List.prefix_append _ _) (Same.refl _) r4 _ ro
    · exact q.elim
  · exact q.elim
theorem snd_call {x : Str} {f : Fn} {e : Expr} {es : List Expr} {as : Es} {p pos : Pos} (A : Amb X b k) (tk : Takes X W) (hk : Kn X.prog X.w X.K X.mg X.base b.g k x f as.len) (gl : Gl X x) (ha : PA X (e :: es) (tAs b W (evs as)))
    (hdb : (x == ("__debug__" : Str)) = false) (he : starEach (e :: es) X.env = (false, eval e X.env) :: starEach es X.env) (hpl : (backTo pos (starEach es X.env)).any (·.1) = false) :
    PE X (.Call (.Name x p) (e :: es) [] pos) (tE b W (ev (.call x f as))) := by
  obtain ⟨fa, fd, ps, h1, h2, h3, h4⟩ := hk
  refine (pe_callG h3 A.room A.gd tk gl h1 h2 h4 ha hdb he hpl).weak fun σ H Q ⟨RR, F, s, r, q⟩ => ?_
  simp only [ev] at q
  refine ⟨RR, F, s, r, q.bind' fun l s1 R1 F1 H1 ho p1 e1 r1 q1 vs hv => ?_⟩
  rw [← A.K]
  exact sp_of r1 (evs_len as s l s1 ho) hv q1
theorem snd_call0 {x : Str} {f : Fn} {p pos : Pos} (A : Amb X b k) (tk : Takes X W) (hk : Kn X.prog X.w X.K X.mg X.base b.g k x f 0) (gl : Gl X x) (hdb : (x == ("__debug__" : Str)) = false) :
    PE X (.Call (.Name x p) [] [] pos) (tE b W (ev (.call x f .nil))) := by
  obtain ⟨fa, fd, ps, h1, h2, h3, h4⟩ := hk
  refine (pe_callG0 h3 A.room A.gd tk gl h1 h2 h4 hdb).weak fun σ H Q ⟨RR, F, s, r, q⟩ => ?_
  simp only [ev, evs, O.bind] at q
  show spF X.K b.g 0 f [] H Q (WE W σ)
  rw [← A.K]
  exact sp_of r rfl .nil q
/-! ### keywords -/
theorem sndK_nil : PK X [] (tAs b W (evs .nil)) := pk_nil.weak fun σ H Q ⟨RR, F, s, r, q⟩ => q.now r _ .nil
theorem sndK_cons {nm : Option Str} {kpos : Pos} {e : Expr} {kws : List Keyword} {a : E} {as : Es} (ha : PE X e (tE b W (ev a))) (hb : PK X kws (tAs b W (evs as))) : PK X (⟨nm, e, kpos⟩ :: kws) (tAs b W (evs (.cons a as))) := by
  refine (pk_cons (snd_val ha) hb).weak fun σ H Q ⟨RR, F, s, r, q⟩ => ?_
  simp only [evs] at q
  refine ⟨RR, F, s, r, q.bind fun x s1 R1 F1 H1 p1 e1 r1 q1 v hv => ?_⟩
  refine ⟨R1, F1, s1, r1, q1.bind fun l s2 R2 F2 H2 p2 e2 r2 q2 vs hvs => ?_⟩
  exact q2.now r2 _ (.cons (hv.mono e2 p2) hvs)
theorem permV_ok {vs : List V} {us : List Value} (r : Vals vs us) : ∀ pm : List Nat, Vals (pm.map fun i => vs.getD i .non) (permV pm us)
  | [] => .nil
  | i :: pm => by
    refine .cons ?_ (permV_ok r pm)
    show RelV (vs.getD i .non) (us.getD i .none)
    rw [List.getD_eq_getElem?_getD, List.getD_eq_getElem?_getD]
    cases h : vs[i]? with
    | none => rw [r.none_of h]; rfl
    | some v =>
      obtain ⟨u, h1, h2⟩ := r.get h
      rw [h1]; exact h2
theorem perm_ok {l : List D} {vs : List V} (r : Reps b.K b.g RR F l vs) : ∀ pm : List Nat, Reps b.K b.g RR F (perm pm l) (pm.map fun i => vs.getD i .non)
  | [] => .nil
  | i :: pm => by
    refine .cons ?_ (perm_ok r pm)
    show Rep b.K b.g RR F (l.getD i .non) (vs.getD i .non)
    rw [List.getD_eq_getElem?_getD, List.getD_eq_getElem?_getD]
    cases h : l[i]? with
    | none =>
      have : vs[i]? = none := List.getElem?_eq_none_iff.mpr (by rw [← r.len]; exact List.getElem?_eq_none_iff.mp h)
      rw [this]; exact .non
    | some v =>
      obtain ⟨u, h1, h2⟩ := r.get h
      rw [h1]; exact h2
theorem snd_callk {x : Str} {f : Fn} {kws : List Keyword} {as : Es} {pm : List Nat} {ks : List Str} {p pos : Pos} (A : Amb X b k) (tk : Takes X W) (hk : KnK X.prog X.w X.K X.mg X.base b.g k x f pm ks) (gl : Gl X x) (ha : PK X kws (tAs b W (evs as)))
    (hall : (backToKw pos (keywordEach kws X.env)).all (·.1.isSome) = true) (hks : (backToKw pos (keywordEach kws X.env)).filterMap (·.1) = ks) (hn : as.len = ks.length)
    (hdb : (x == ("__debug__" : Str)) = false) (hpl : (backToKw pos (keywordEach kws X.env)).any (·.1.isNone) = false) :
    PE X (.Call (.Name x p) [] kws pos) (tE b W (ev (.callk x f pm ks as))) := by
  obtain ⟨fa, fd, ps, h1, h2, h3, h4⟩ := hk
  refine ⟨fun pins s σ H Q I ⟨RR, F, s0, r, q⟩ => wpAny_Call_Name_kw (ld_glob I gl h1 ?_ hdb)⟩
  simp only [ev] at q
  refine PySem.W.callWith_KW0 (h₀ := X.base) I.ok.mod.kin h2 hall ?_ hpl
  refine thn (ha.run pos pins s σ H (fun vs H1 => spF b.K b.g pm.length f (pm.map fun i => vs.getD i .non) H1 Q (WE W σ) ∧ vs.length = ks.length) I ⟨RR, F, s0, r, q.bind' fun l s1 R1 F1 H1 ho p1 e1 r1 q1 vs hv => ⟨?_, ?_⟩⟩) fun us s2 ⟨vs, H2, I2, rv, q2, hl⟩ => ⟨I2.kIn, ?_⟩
  · exact sp_of (l := perm pm l) r1 (by unfold perm; rw [List.length_map]) (perm_ok hv pm) q1
  · rw [← hv.len, evs_len as s0 l s1 ho, hn]
  · rw [hks]
    rw [A.K] at q2
    have hb : BindsTo s2 fd ⟨[], ks.zip us⟩ (ps.zip (permV pm us)) := .of_eq (h4 us (by rw [← rv.length]; exact hl))
    refine wpAny_call (codeAny_mono (run_G h3 A.room A.gd tk hb I2 (permV_ok rv pm) q2) fun res s' hq => ?_)
    cases res with
    | error e => exact hq
    | ok fl => cases fl <;> first | exact hq | exact hq.elim

/-! ### built-in functions -/
theorem biSem_pl {B : Bi} {l : List D} {r : R} (h : biSem B l = some r) : ∀ i, r ≠ .pl i := by
  intro i z
  subst z
  cases B <;> simp only [biSem] at h
  · unfold biLen at h; split at h <;> first | (cases h; done) | (split at h <;> cases h)
  · unfold biInt at h; split at h <;> cases h
  · unfold biAbs at h; split at h <;> cases h
  · unfold biMax2 at h; split at h <;> cases h
  · unfold biMin2 at h; split at h <;> cases h
  · unfold biMaxL at h; split at h <;> first | (cases h; done) | (split at h <;> cases h)
  · unfold biMinL at h; split at h <;> first | (cases h; done) | (split at h <;> cases h)
  · unfold biSum at h; split at h <;> first | (cases h; done) | (obtain ⟨_, _, z⟩ := map_some h; cases z)
  · unfold biSorted at h; split at h <;> first | (cases h; done) | (obtain ⟨_, _, z⟩ := map_some h; cases z; done) | (obtain ⟨_, _, z⟩ := Option.bind_eq_some_iff.mp h; split at z <;> cases z; done) | (unfold sortL at h; split at h <;> first | (cases h; done) | (obtain ⟨_, _, z⟩ := Option.bind_eq_some_iff.mp h; unfold sortT at z; split at z <;> cases z))
  · unfold biAll at h; split at h <;> first | (cases h; done) | (obtain ⟨_, _, z⟩ := map_some h; cases z)
  · unfold biAny at h; split at h <;> first | (cases h; done) | (obtain ⟨_, _, z⟩ := map_some h; cases z)
  · unfold biList at h; split at h <;> cases h
  · unfold biTuple at h; split at h <;> cases h
  · unfold biRepr at h; split at h <;> first | (cases h; done) | (obtain ⟨_, _, z⟩ := map_some h; cases z)
  all_goals cases h
theorem rd_all {l : List R} {vs : List V} {xs : List D} (r : Rel b RR F s σ H) (h : Paired (fun r v => RRel b RR F s σ H r v ∧ ∀ c, r ≠ .new c) l vs) (e : l.mapM s.rd = some xs) : Vws b.K b.g RR F H xs vs := by
  induction l generalizing vs xs with
  | nil => cases h; cases e; exact .nil
  | cons x l ih =>
    cases h with
    | cons a t =>
      rw [List.mapM_cons] at e
      cases h1 : s.rd x with
      | none => rw [h1] at e; cases e
      | some y =>
        rw [h1] at e
        cases h2 : l.mapM s.rd with
        | none => rw [h2] at e; cases e
        | some m =>
          rw [h2] at e
          cases e
          exact .cons (vw_of r a.1 h1) (ih t h2)
theorem bi_red {B : Bi} {l : List R} {vs : List V} (r : Rel b RR F s σ H) (h : Paired (fun r v => RRel b RR F s σ H r v ∧ ∀ c, r ≠ .new c) l vs)
    (q : Go b W σ RR F (biV B l s) fun r s' RR' F' H' => ∀ v, RRel b RR' F' s' σ H' r v → Q v H') : rBi b B vs H Q := by
  unfold biV at q
  cases h1 : l.mapM s.rd with
  | none => rw [h1] at q; exact q.elim
  | some xs =>
    rw [h1] at q
    obtain ⟨res, h2, q⟩ := q.opt
    exact ⟨RR, F, xs, res, r.fz, rd_all r h h1, h2, res_ok q r (biSem_pl h2)⟩
theorem ok_bi (A : Amb X b k) : ∀ B : Bi, CallR X B.val (rBi b B) := by
  have no : ∀ {B : Bi} {f : Value}, (∀ l, biSem B l = none) → CallR X f (rBi b B) := fun h => by
    intro pins s σ H x u Q I r1 ⟨RR, F, xs, res, _, _, ho, _⟩
    rw [h] at ho; cases ho
  intro B
  cases B with
  | len => exact ok_len A.K
  | toInt => exact ok_int
  | abs => exact ok_abs
  | max2 => exact ok_max2 A.calm
  | min2 => exact ok_min2 A.calm
  | maxL => exact ok_maxL A.calm
  | minL => exact ok_minL A.calm
  | sum => exact ok_sum A.calm
  | sorted => exact ok_sorted A.K A.calm
  | all => exact ok_all A.calm
  | any => exact ok_any A.calm
  | list => exact ok_list A.K
  | tuple => exact ok_tuple A.K
  | repr => exact ok_repr A.K A.gd A.hu
  | toStr => exact no fun _ => rfl
  | set => exact no fun _ => rfl
theorem snd_bi {B : Bi} {e : Expr} {es : List Expr} {as : Es} {p pos : Pos} (A : Amb X b k) (gl : Gl X B.name) (hm : X.mg B.name = none) (ha : PA X (e :: es) (tOs b W (evOs as)))
    (he : starEach (e :: es) X.env = (false, eval e X.env) :: starEach es X.env) (hpl : (backTo pos (starEach es X.env)).any (·.1) = false) :
    PE X (.Call (.Name B.name p) (e :: es) [] pos) (tE b W (ev (.bi B as))) := by
  have key : PE X (.Call (.Name B.name p) (e :: es) [] pos) (tCB (rBi b B) (tOs b W (evOs as))) := by
    have h := ok_bi A B
    have hb := Bi.boot B
    cases B <;> first
      | exact pe_callB h gl hm hb ha (by decide) (by decide) he hpl
      | exact pe_callTy h gl hm hb ha (by decide) (by decide) he hpl
  refine key.weak fun σ H Q ⟨RR, F, s, r, q⟩ => ?_
  simp only [ev] at q
  exact ⟨RR, F, s, r, q.bind fun l s1 R1 F1 H1 p1 e1 r1 q1 vs hv => bi_red r1 hv q1⟩
/-! ### isinstance -/
def Ty.nm : Ty → String
  | .int => "int" | .bool => "bool" | .str => "str" | .list => "list" | .tuple => "tuple" | .dict => "dict" | .none => "NoneType"
theorem kit_all : ∀ a c : Ty, c ≠ .none → kitB a.nm c.nm = some (a.sub c) := by
  intro a c h
  cases a <;> cases c <;> first | (exact absurd rfl h) | decide +kernel
theorem kind_ty {x : D} {v : V} {t : Ty} (h : Vw b.K b.g RR F H x v) (e : x.kind = some t) (s : Same F H) (hK : b.K = X.K) : TyX X.K H v (.type t.nm) := by
  have sq : ∀ {a : Addr} {vs : List V}, SqT b.K F a vs → TyX X.K H (.ref a) (.type "tuple") := fun {a vs} h => by
    have h := s.seqT h
    rw [hK] at h
    rcases h with (h | ⟨o, h⟩) | ⟨o, its, n, h1, h2, _⟩
    · exact .base (.tup h)
    · exact .fTuple h
    · exact .kTuple h1 h2
  have sl : ∀ {a : Addr} {vs : List V}, SqL b.K H a vs → TyX X.K H (.ref a) (.type "list") := fun {a vs} h => by
    rw [hK] at h
    rcases h with (h | ⟨o, h⟩) | ⟨o, its, n, h1, h2, _⟩
    · exact .base (.lst h)
    · exact .base (.frz h)
    · exact .kList h1 h2
  cases h with
  | non => cases e; exact .base .non
  | bl => cases e; exact .base (.bl _)
  | int => cases e; exact .base (.int _)
  | str => cases e; exact .base (.str _)
  | tup h r => cases e; exact sq h
  | lst h r => cases e; exact .base (.lst h)
  | dct h r => cases e; exact .base (.dK h)
  | obj h => cases e
  | fn h => cases e
  | scr h => cases e; exact sl h
theorem isi_red {α : Type} {ts : List Ty} {x : R} {v : V} {h : Bool → S → O α} {P : α → S → List Addr → Hp → Hp → Prop} (A : Amb X b k) (r : Rel b RR F s σ H) (hv : RRel b RR F s σ H x v) (q : Go b W σ RR F ((isiV ts x s).bind h) P) :
    ∃ t, TyX X.K H v (.type (Ty.nm t)) ∧ Go b W σ RR F (h (ts.any t.sub) s) P := by
  unfold isiV at q
  cases h1 : s.rd x with
  | none => rw [h1] at q; exact q.elim
  | some x' =>
    rw [h1, Option.bind_some] at q
    cases h2 : x'.kind with
    | none => rw [h2] at q; exact q.elim
    | some t =>
      rw [h2] at q
      exact ⟨t, kind_ty (vw_of r hv h1) h2 r.fz A.K, q⟩
end
end G4

namespace G4
open PySem PySem.Spec PyProof.Rows L2

section
variable {X : Cx} {b : Bs} {W : WX} {k : Nat} {σ : L2.St} {RR RR' : List Addr} {F F' H H' : Hp} {s : S} {Q : VK}
/-! ### isinstance -/
theorem asBl_red {α : Type} {o : O Bool} {h : R → S → O α} : (asBl o).bind h = o.bind fun k s => h (.d (.bl k)) s := by cases o <;> rfl
def Ty.py (t : Ty) : Str := t.nm
/-- the names of types, as arguments -/
def TyArgs (X : Cx) (ts : List Ty) (es : List Expr) : Prop := PA X es (fun _ H Q => Q (ts.map fun t => V.ty t.nm) H)
theorem pe_ty {t : Ty} {p : Pos} (ht : t ≠ .none) (gl : Gl X t.py) (hm : X.mg t.py = none) : PE X (.Name t.py p) (tC (.ty t.nm)) := by
  cases t with
  | int => exact pe_bltn gl hm boot_int rfl
  | bool => exact pe_bltn gl hm boot_bool rfl
  | str => exact pe_bltn gl hm boot_str rfl
  | list => exact pe_bltn gl hm boot_list rfl
  | tuple => exact pe_bltn gl hm boot_tuple rfl
  | dict => exact pe_bltn gl hm boot_dict rfl
  | none => exact absurd rfl ht
theorem tyArgs_nil : TyArgs X [] [] := pa_nil
theorem tyArgs_cons {t : Ty} {ts : List Ty} {p : Pos} {es : List Expr} (ht : t ≠ .none) (gl : Gl X t.py) (hm : X.mg t.py = none) (h : TyArgs X ts es) : TyArgs X (t :: ts) (.Name t.py p :: es) :=
  (pa_cons (pe_ty ht gl hm) h rfl).weak fun σ H Q q => q
theorem kit_list {t : Ty} : ∀ ts : List Ty, (∀ u ∈ ts, u ≠ .none) → PySem.W.kitAny X.K (.type t.nm) (ts.map fun u => Value.type u.nm) = some (ts.any t.sub)
  | [], _ => rfl
  | u :: ts, h => by
    refine kitAny_cons (kit_ty (kit_all t u (h u List.mem_cons_self))) (fun e => ?_) fun e => ?_
    · rw [List.any_cons, e, Bool.false_or]
      exact kit_list ts fun v hv => h v (List.mem_cons_of_mem _ hv)
    · rw [List.any_cons, e, Bool.true_or]
theorem cls_list : ∀ ts : List Ty, Paired ClsV (ts.map fun t => V.ty t.nm) (ts.map fun t => Value.type t.nm)
  | [] => .nil
  | t :: ts => .cons (.ty _) (cls_list ts)
theorem snd_isi1 {e : Expr} {a : E} {t : Ty} {p q pos : Pos} (A : Amb X b k) (gl : Gl X "isinstance") (hm : X.mg "isinstance" = none) (ha : PE X e (tE b W (ev a))) (ht : t ≠ .none) (glt : Gl X t.py) (hmt : X.mg t.py = none)
    (he : starEach [e, .Name t.py q] X.env = (false, eval e X.env) :: starEach [.Name t.py q] X.env) (hpl : (backTo pos (starEach [.Name t.py q] X.env)).any (·.1) = false) :
    PE X (.Call (.Name "isinstance" p) [e, .Name t.py q] [] pos) (tE b W (ev (.isi a [t]))) := by
  refine (pe_callB (call_isi (X := X)) gl hm boot_isinstance (pa_cons (snd_opd ha) (pa_cons (pe_ty ht glt hmt) pa_nil rfl) he) (by decide) (by decide) he hpl).weak fun σ H Q ⟨RR, F, s, r, q⟩ => ?_
  simp only [ev] at q
  refine ⟨RR, F, s, r, (settled q).imp fun x s1 R1 F1 H1 p1 e1 r1 ⟨n1, q1⟩ v hv => ?_⟩
  obtain ⟨u, h1, q2⟩ := isi_red A r1 hv q1
  refine ⟨v, _, _, _, _, rfl, .ty _, h1, kit_ty (kit_all u t ht), ?_⟩
  have e2 : [t].any u.sub = u.sub t := by simp
  rw [e2] at q2
  exact q2.now r1 _ (Rep.bl _)
theorem snd_isi {e : Expr} {a : E} {ts : List Ty} {es : List Expr} {p pt pos : Pos} {j : Nat} (A : Amb X b k) (gl : Gl X "isinstance") (hm : X.mg "isinstance" = none) (ha : PE X e (tE b W (ev a))) (ht : ∀ u ∈ ts, u ≠ .none) (hl : ts.length ≤ 1000) (hts : TyArgs X ts es)
    (he : starEach [e, .Tuple es j pt] X.env = (false, eval e X.env) :: starEach [.Tuple es j pt] X.env) (hpl : (backTo pos (starEach [.Tuple es j pt] X.env)).any (·.1) = false) :
    PE X (.Call (.Name "isinstance" p) [e, .Tuple es j pt] [] pos) (tE b W (ev (.isi a ts))) := by
  refine (pe_callB (call_isiT (X := X)) gl hm boot_isinstance (pa_cons (snd_opd ha) (pa_cons (pe_tup hts) pa_nil rfl) he) (by decide) (by decide) he hpl).weak fun σ H Q ⟨RR, F, s, r, q⟩ => ?_
  simp only [ev] at q
  refine ⟨RR, F, s, r, (settled q).imp fun x s1 R1 F1 H1 p1 e1 r1 ⟨n1, q1⟩ v hv => ⟨by rw [List.length_map]; exact len_ok hl, fun T hT => ?_⟩⟩
  have r2 := r1.same (same_new (o := .tup (ts.map fun t => V.ty t.nm)) hT)
  obtain ⟨u, h1, q2⟩ := isi_red A r2 (hv.up (s' := s1) (H' := upd H1 T (.tup (ts.map fun t => V.ty t.nm))) n1 (List.prefix_refl _) (Same.refl _)) q1
  exact ⟨v, T, _, _, _, _, rfl, upd_same, cls_list ts, h1, kit_list ts ht, q2.now r2 _ (Rep.bl _)⟩

/-! ### objects made, and put into the store -/
theorem alc_weak {a : E} : ∀ σ H Q, tE b W (ev (.alc a)) σ H Q → tE b W (ev a) σ H Q := by
  rintro σ H Q ⟨RR, F, s, r, q⟩
  simp only [ev] at q
  refine ⟨RR, F, s, r, q.bind fun x s1 R1 F1 H1 p1 e1 r1 q1 v hv => ?_⟩
  split at q1
  · rename_i c
    split at q1
    · rename_i hp
      obtain ⟨a, rfl, h1, h2⟩ := hv
      refine q1 (R1 ++ [a]) F1 H1 (List.prefix_append _ _) (Same.refl _) (r1.push h1 h2 hp) _ (Rep.obj ?_)
      rw [r1.stl]; simp
    · exact q1.elim
  · exact q1.elim

theorem snd_alc {e : Expr} {a : E} (ha : PE X e (tE b W (ev a))) : PE X e (tE b W (ev (.alc a))) := ha.weak alc_weak

/-! ### methods -/
theorem cell_of {x : R} {v : V} {c : Cell} (r : Rel b RR F s σ H) (hv : RRel b RR F s σ H x v) (hn : ∀ c, x ≠ .new c) (e : s.cell x = some c) :
    ∃ a, v = .ref a ∧ CellAt b.K b.g RR F H a c ∧ ∀ c' o s', CellAt b.K b.g RR F (upd H a o) a c' → s.put c' x = some s' → Rel b RR F s' σ (upd H a o) := by
  have ob : ∀ {n : Nat} {a : Addr}, RR[n]? = some a → s.st[n]? = some c → CellAt b.K b.g RR F H a c ∧ ∀ c' o s', CellAt b.K b.g RR F (upd H a o) a c' → (if c'.pure then some { s with st := s.st.set n c' } else none) = some s' → Rel b RR F s' σ (upd H a o) := fun {n a} h1 h2 =>
    ⟨(r.st n c a h2 h1).1, fun c' o s' k z => by
      split at z
      · rename_i hp
        cases z
        exact r.writeC h1 k hp
      · cases z⟩
  cases x with
  | new c => exact absurd rfl (hn c)
  | d x =>
    cases x <;> simp only [S.cell, reduceCtorEq] at e
    rename_i n
    cases hv with
    | obj h =>
      obtain ⟨h1, h2⟩ := ob h e
      exact ⟨_, rfl, h1, fun c' o s' k z => h2 c' o s' k z⟩
  | pl i =>
    simp only [S.cell] at e
    have hv : σ[i]? = some (some v) := hv
    cases q : s.sl[i]? with
    | none => rw [q] at e; cases e
    | some z =>
      rw [q] at e
      cases z with
      | un => cases e
      | own d =>
        cases e
        obtain ⟨a, h1, h2, _⟩ := r.so i c q
        rw [hv] at h1; cases h1
        refine ⟨a, rfl, h2, fun c' o s' k z => ?_⟩
        simp only [S.put, q, Option.some.injEq] at z
        subst z
        exact r.writeS q hv k
      | d x =>
        cases x <;> simp only [reduceCtorEq] at e
        rename_i n
        obtain ⟨w, h1, h2⟩ := r.sd i _ q
        rw [hv] at h1; cases h1
        cases h2 with
        | obj h =>
          obtain ⟨h3, h4⟩ := ob h e
          refine ⟨_, rfl, h3, fun c' o s' k z => h4 c' o s' k ?_⟩
          simp only [S.put, q] at z
          exact z
theorem lst_of {x : R} {v : V} (r : Rel b RR F s σ H) (hv : RRel b RR F s σ H x v) (e : s.isLst x = true) : (∀ c, x ≠ .new c) ∧ ∃ a l vs, v = .ref a ∧ s.cell x = some (.lst l) ∧ H a = some (.lst vs) := by
  unfold S.isLst at e
  split at e
  · cases e
  · rename_i hn
    refine ⟨fun c z => hn c z, ?_⟩
    split at e
    · rename_i l hl
      obtain ⟨a, rfl, h1, _⟩ := cell_of r hv (fun c z => hn c z) hl
      cases h1 with
      | lst h _ => exact ⟨a, l, _, rfl, hl, h⟩
    · cases e
theorem _root_.L2.MtR.imp {X : Cx} {id : String} {r r' : V → List V → Hp → VK → Prop} (h : MtR X id r) (k : ∀ x xs H Q, r' x xs H Q → r x xs H Q) : MtR X id r' := by
  intro pins s σ H x xs v us Q I r1 r2 q
  exact h pins s σ H x xs v us Q I r1 r2 (k _ _ _ _ q)
/-- a writing method by values -/
def rMu (b : Bs) (W : WX) (σ : L2.St) (m : Mt) : V → List V → Hp → VK → Prop := fun v vs H Q => ∃ RR F s x l, Rel b RR F s σ H ∧ RRel b RR F s σ H x v ∧ (∀ c, x ≠ .new c) ∧ Reps b.K b.g RR F l vs ∧
  Go b W σ RR F (muV m x l s) fun r s' RR' F' H' => ∀ v, RRel b RR' F' s' σ H' r v → Q v H'
theorem mu_red {m : Mt} {x : R} {l : List D} {v : V} (r : Rel b RR F s σ H) (hv : RRel b RR F s σ H x v) (hn : ∀ c, x ≠ .new c)
    (q : Go b W σ RR F (muV m x l s) fun r s' RR' F' H' => ∀ v, RRel b RR' F' s' σ H' r v → Q v H') :
    ∃ a c res c', v = .ref a ∧ CellAt b.K b.g RR F H a c ∧ muSem m c l = some (res, c') ∧ ∀ o, CellAt b.K b.g RR F (upd H a o) a c' → ∀ w x, res = .d x → Rep b.K b.g RR F x w → Q w (upd H a o) := by
  unfold muV at q
  cases h1 : s.cell x with
  | none => rw [h1] at q; exact q.elim
  | some c =>
    rw [h1, Option.bind_some] at q
    cases h2 : muSem m c l with
    | none => rw [h2] at q; exact q.elim
    | some p =>
      obtain ⟨res, c'⟩ := p
      rw [h2] at q
      simp only at q
      cases h3 : s.put c' x with
      | none => rw [h3] at q; exact q.elim
      | some s' =>
        rw [h3] at q
        obtain ⟨a, rfl, h4, h5⟩ := cell_of r hv hn h1
        refine ⟨a, c, res, c', rfl, h4, h2, fun o k w y e hw => ?_⟩
        subst e
        exact q RR F (upd H a o) (List.prefix_refl _) (Same.refl _) (h5 c' o s' k h3) w hw
theorem ok_append : MtR X "list.append" (rMu b W σ .append) := by
  refine MtR.imp (X := X) (mt_append (X := X)) ?_
  rintro v vs H Q ⟨RR, F, s, x, l, r, hv, hn, hl, q⟩
  obtain ⟨a, c, res, c', rfl, h1, h2, h3⟩ := mu_red r hv hn q
  simp only [muSem] at h2
  unfold muApp at h2
  split at h2
  · split at h2
    · rename_i hz
      cases h2
      cases h1 with
      | lst h k =>
        cases hl with
        | cons hy t =>
          cases t
          refine ⟨a, _, _, rfl, rfl, h, ?_, h3 _ (.lst upd_same (k.app (.cons hy .nil))) _ _ rfl .non⟩
          rw [← k.len, big_eq]; exact hz
    · cases h2
  · cases h2
theorem ok_extend : MtR X "list.extend" (rMu b W σ .extend) := by
  refine MtR.imp (X := X) (mt_extend (X := X)) ?_
  rintro v vs H Q ⟨RR, F, s, x, l, r, hv, hn, hl, q⟩
  obtain ⟨a, c, res, c', rfl, h1, h2, h3⟩ := mu_red r hv hn q
  simp only [muSem] at h2
  unfold muExt at h2
  split at h2
  · split at h2
    · rename_i hz
      cases h2
      cases h1 with
      | lst h k =>
        cases hl with
        | cons hy t =>
          cases t
          cases hy with
          | lst h' k' =>
            refine ⟨a, _, _, _, rfl, rfl, h, r.fz _ _ h', ?_, h3 _ (.lst upd_same (k.app k')) _ _ rfl .non⟩
            rw [← k.len, ← k'.len, big_eq]; exact hz
    · cases h2
  · cases h2
theorem Reps.erase {K : PySem.W.Frag} {g : Str → Option Addr} {l : List D} {vs : List V} (h : Reps K g RR F l vs) (i : Nat) : Reps K g RR F (l.eraseIdx i) (vs.eraseIdx i) := by
  rw [List.eraseIdx_eq_take_drop_succ, List.eraseIdx_eq_take_drop_succ]
  exact (h.take _).app (h.drop _)
theorem ok_pop : MtR X "list.pop" (rMu b W σ .pop) := by
  refine MtR.imp (X := X) (mt_popAt (X := X)) ?_
  rintro v vs H Q ⟨RR, F, s, x, l, r, hv, hn, hl, q⟩
  obtain ⟨a, c, res, c', rfl, h1, h2, h3⟩ := mu_red r hv hn q
  simp only [muSem] at h2
  unfold muPop at h2
  split at h2
  · split at h2
    · rename_i j hj
      split at h2
      · rename_i y hy
        split at h2
        · rename_i hz
          cases h2
          cases h1 with
          | lst h k =>
            cases hl with
            | cons hi t =>
              cases t
              cases hi
              obtain ⟨w, h4, h5⟩ := k.get hy
              have hs := ixN_seq hj
              refine ⟨a, _, _, j, w, rfl, rfl, h, by have := small_iff hz; omega, by have := small_iff hz; omega, by rw [← k.len]; exact hs.1, h4, h3 _ (.lst upd_same (k.erase _)) _ _ rfl h5⟩
        · cases h2
      · cases h2
    · cases h2
  · cases h2
theorem ok_insert : MtR X "list.insert" (rMu b W σ .insert) := by
  refine MtR.imp (X := X) (mt_insert (X := X)) ?_
  rintro v vs H Q ⟨RR, F, s, x, l, r, hv, hn, hl, q⟩
  obtain ⟨a, c, res, c', rfl, h1, h2, h3⟩ := mu_red r hv hn q
  simp only [muSem] at h2
  unfold muIns at h2
  split at h2
  · split at h2
    · rename_i hz
      cases h2
      cases h1 with
      | lst h k =>
        cases hl with
        | cons hi t =>
          cases t with
          | cons hy t =>
            cases t
            cases hi
            have hs := small_iff hz.2.1
            refine ⟨a, _, _, _, rfl, rfl, h, by rw [← k.len, big_eq]; exact hz.2.2, hz.1, by omega, h3 _ (.lst upd_same (((k.take _).app (.cons hy .nil)).app (k.drop _))) _ _ rfl .non⟩
    · cases h2
  · cases h2
end
end G4

namespace G4
open PySem PySem.Spec PyProof.Rows L2

/-! ### shapes of expressions -/
def notStar : Expr → Bool
  | .Starred _ _ => false
  | _ => true
def notSet : Expr → Bool
  | .Set _ _ _ => false
  | _ => true
def notSlice : Expr → Bool
  | .Slice _ _ _ _ => false
  | _ => true
def plainObj : Expr → Bool
  | .Call (.Name _ _) [] [] _ => false
  | _ => true
def notComp : Expr → Bool
  | .ListComp _ _ _ _ => false
  | .SetComp _ _ _ _ => false
  | .DictComp _ _ _ _ _ => false
  | _ => true
section
variable {env : Env} {e : Expr} {es : List Expr}
theorem star_cons (h : notStar e = true) : starEach (e :: es) env = (false, eval e env) :: starEach es env := by
  cases e <;> first | rfl | cases h
theorem star_any (pos : Pos) (h : es.all notStar = true) : (backTo pos (starEach es env)).any (·.1) = false := by
  induction es with
  | nil => rfl
  | cons e es ih =>
    rw [List.all_cons, Bool.and_eq_true] at h
    rw [star_cons h.1]
    show (false || (backTo pos (starEach es env)).any (·.1)) = false
    rw [ih h.2]; rfl
theorem star_all (pos : Pos) (h : es.all notStar = true) : (backTo pos (starEach es env)).all (fun x => !x.1) = true := by
  induction es with
  | nil => rfl
  | cons e es ih =>
    rw [List.all_cons, Bool.and_eq_true] at h
    rw [star_cons h.1]
    show (true && (backTo pos (starEach es env)).all (fun x => !x.1)) = true
    rw [ih h.2]; rfl
theorem asg_cons (h : notStar e = true) : assignEach (e :: es) env = (false, assign e env) :: assignEach es env := by
  cases e <;> first | rfl | cases h
theorem asg_len (h : es.all notStar = true) : (assignEach es env).length = es.length := by
  induction es with
  | nil => rfl
  | cons e es ih =>
    rw [List.all_cons, Bool.and_eq_true] at h
    rw [asg_cons h.1, List.length_cons, List.length_cons, ih h.2]
theorem asg_find (h : es.all notStar = true) : (assignEach es env).findIdx? (·.1) = none := by
  induction es with
  | nil => rfl
  | cons e es ih =>
    rw [List.all_cons, Bool.and_eq_true] at h
    rw [asg_cons h.1, List.findIdx?_cons, ih h.2]
    rfl
theorem set_pure (h : notSet e = true) (x : Value) : foldedSetIterable e env x = pure x := by
  cases e <;> first | rfl | cases h
theorem mark_no {op : CmpOp} (h : notSet e = true) : behindInMarks op e = false := by
  cases e <;> first | rfl | cases h
theorem slice_no (h : notSlice e = true) : PlainIx e := fun o i => by
  cases e <;> first | rfl | cases h
theorem base_no {a : Str} {w : Sem Value} (h : plainObj e = true) : attributeBase e a env w = w := by
  unfold attributeBase
  split
  · cases h
  · rfl
theorem swap_no {t : Option Expr} {l : Nat} (h : notComp e = true) : swapsWith e t l env = pure false := by
  cases e <;> first | rfl | cases h
end
section
variable {X : Cx} {b : Bs} {W : WX} {k : Nat} {σ : L2.St} {RR RR' : List Addr} {F F' H H' : Hp} {s : S} {Q : VK}
theorem bm_list {o e : Expr} {name : Str} {id : String} {m : Mt} {a : E} {as : Es} {apos cpos : Pos} (slot : Slot "list" name id) (hty : typeOf (.builtin id) = pure (.type "method_descriptor")) (hm : ∀ σ, MtR X id (rMu b W σ m))
    (ho : PE X o (tE b W (ev a))) (ha : PA X [e] (tAs b W (evs as))) (hp : plainObj o = true) (hs : notStar e = true) (hl : (apos.endLine == cpos.line) = true) : PE X (.Call (.Attribute o name apos) [e] [] cpos) (tE b W (ev (.mu m a as))) := by
  refine ⟨fun pins s σ H Q I ⟨RR, F, s0, r, q⟩ => ?_⟩
  have few : ((backTo cpos (starEach [e] X.env)).all (fun x => !x.1) && (backToKw cpos (keywordEach [] X.env)).all (fun x => x.1.isSome)
      && decide ([e].length + ([] : List Keyword).length + (if ([] : List Keyword).isEmpty then 0 else 1) < 30)) = true := by
    rw [star_all cpos (show [e].all notStar = true by simp [hs])]; rfl
  refine (pe_bm PySem.F.plainAttrs_list slot hty (hm σ) ho ha (base_no hp) few hl (star_cons hs) rfl).run pins s σ H Q I ?_
  simp only [ev] at q
  refine ⟨RR, F, s0, r, q.bind fun x s1 R1 F1 H1 p1 e1 r1 q1 v hv => ?_⟩
  split at q1
  · rename_i hx
    obtain ⟨hn, a2, l2, vs2, rfl, h2, h3⟩ := lst_of r1 hv hx
    refine ⟨.inl ⟨rfl, vs2, .inl (.inl h3)⟩, R1, F1, s1, r1, q1.bind fun l s3 R3 F3 H3 p3 e3 r3 q3 vs hvs => ?_⟩
    exact ⟨R3, F3, s3, x, l, r3, hv.up hn p3 e3, hn, hvs, q3⟩
  · exact q1.elim
theorem bm_list2 {o e f : Expr} {name : Str} {id : String} {m : Mt} {a : E} {as : Es} {apos cpos : Pos} (slot : Slot "list" name id) (hty : typeOf (.builtin id) = pure (.type "method_descriptor")) (hm : ∀ σ, MtR X id (rMu b W σ m))
    (ho : PE X o (tE b W (ev a))) (ha : PA X [e, f] (tAs b W (evs as))) (hp : plainObj o = true) (hs : notStar e = true) (ht : notStar f = true) (hl : (apos.endLine == cpos.line) = true) : PE X (.Call (.Attribute o name apos) [e, f] [] cpos) (tE b W (ev (.mu m a as))) := by
  refine ⟨fun pins s σ H Q I ⟨RR, F, s0, r, q⟩ => ?_⟩
  have few : ((backTo cpos (starEach [e, f] X.env)).all (fun x => !x.1) && (backToKw cpos (keywordEach [] X.env)).all (fun x => x.1.isSome)
      && decide ([e, f].length + ([] : List Keyword).length + (if ([] : List Keyword).isEmpty then 0 else 1) < 30)) = true := by
    rw [star_all cpos (show [e, f].all notStar = true by simp [hs, ht])]; rfl
  refine (pe_bm PySem.F.plainAttrs_list slot hty (hm σ) ho ha (base_no hp) few hl (star_cons hs) (by rw [star_cons ht]; rfl)).run pins s σ H Q I ?_
  simp only [ev] at q
  refine ⟨RR, F, s0, r, q.bind fun x s1 R1 F1 H1 p1 e1 r1 q1 v hv => ?_⟩
  split at q1
  · rename_i hx
    obtain ⟨hn, a2, l2, vs2, rfl, h2, h3⟩ := lst_of r1 hv hx
    refine ⟨.inl ⟨rfl, vs2, .inl (.inl h3)⟩, R1, F1, s1, r1, q1.bind fun l s3 R3 F3 H3 p3 e3 r3 q3 vs hvs => ?_⟩
    exact ⟨R3, F3, s3, x, l, r3, hv.up hn p3 e3, hn, hvs, q3⟩
  · exact q1.elim
theorem snd_insert {o e f : Expr} {a : E} {as : Es} {apos cpos : Pos} (ho : PE X o (tE b W (ev a))) (ha : PA X [e, f] (tAs b W (evs as))) (hp : plainObj o = true) (hs : notStar e = true) (ht : notStar f = true) (hl : (apos.endLine == cpos.line) = true) :
    PE X (.Call (.Attribute o "insert" apos) [e, f] [] cpos) (tE b W (ev (.mu .insert a as))) := bm_list2 PySem.F.slot_list_insert PySem.F.type_list_insert (fun _ => ok_insert) ho ha hp hs ht hl
theorem snd_append {o e : Expr} {a : E} {as : Es} {apos cpos : Pos} (ho : PE X o (tE b W (ev a))) (ha : PA X [e] (tAs b W (evs as))) (hp : plainObj o = true) (hs : notStar e = true) (hl : (apos.endLine == cpos.line) = true) :
    PE X (.Call (.Attribute o "append" apos) [e] [] cpos) (tE b W (ev (.mu .append a as))) := bm_list PySem.F.slot_list_append PySem.F.type_list_append (fun _ => ok_append) ho ha hp hs hl
theorem snd_extend {o e : Expr} {a : E} {as : Es} {apos cpos : Pos} (ho : PE X o (tE b W (ev a))) (ha : PA X [e] (tAs b W (evs as))) (hp : plainObj o = true) (hs : notStar e = true) (hl : (apos.endLine == cpos.line) = true) :
    PE X (.Call (.Attribute o "extend" apos) [e] [] cpos) (tE b W (ev (.mu .extend a as))) := bm_list PySem.F.slot_list_extend PySem.F.type_list_extend (fun _ => ok_extend) ho ha hp hs hl
theorem snd_pop {o e : Expr} {a : E} {as : Es} {apos cpos : Pos} (ho : PE X o (tE b W (ev a))) (ha : PA X [e] (tAs b W (evs as))) (hp : plainObj o = true) (hs : notStar e = true) (hl : (apos.endLine == cpos.line) = true) :
    PE X (.Call (.Attribute o "pop" apos) [e] [] cpos) (tE b W (ev (.mu .pop a as))) := bm_list PySem.F.slot_list_pop PySem.F.type_list_pop (fun _ => ok_pop) ho ha hp hs hl
/-- flat data and flat values -/
theorem flat_rep {d : D} {v : V} {K : PySem.W.Frag} {g : Str → Option Addr} (h : Rep K g RR F d v) (f : d.flat = true) : flatV v = true := by
  cases h <;> first | rfl | cases f
theorem flat_reps {K : PySem.W.Frag} {g : Str → Option Addr} : ∀ {l : List D} {vs : List V}, Reps K g RR F l vs → l.all D.flat = true → vs.all flatV = true
  | [], _, .nil, _ => rfl
  | d :: l, _, .cons h r, f => by
    rw [List.all_cons, Bool.and_eq_true] at f
    rw [List.all_cons, flat_rep h f.1, flat_reps r f.2]; rfl
theorem eqv_flat {d e : D} {v w : V} {K : PySem.W.Frag} {g : Str → Option Addr} (h : Rep K g RR F d v) (k : Rep K g RR F e w) (f : d.flat = true) (f2 : e.flat = true) : eqV v w = D.eqv d e := by
  cases h <;> first | (cases f; done) | (cases k <;> first | (cases f2; done) | rfl | (simp only [eqV, D.eqv, b2i]; done) | (simp only [eqV, D.eqv]; exact (Bool.beq_eq_decide_eq _ _)) | (simp only [eqV, D.eqv]; rfl))
theorem cnt_flat {K : PySem.W.Frag} {g : Str → Option Addr} {e : D} {w : V} (k : Rep K g RR F e w) (f2 : e.flat = true) : ∀ {l : List D} {vs : List V}, Reps K g RR F l vs → l.all D.flat = true → (vs.countP fun y => eqV y w) = l.countP fun y => D.eqv y e
  | [], _, .nil, _ => rfl
  | d :: l, _, .cons h r, f => by
    rw [List.all_cons, Bool.and_eq_true] at f
    rw [List.countP_cons, List.countP_cons, cnt_flat k f2 r f.2, eqv_flat h k f.1 f2]
theorem cnt_eqU {x : V} : ∀ {xs : List V} {us : List Value}, Vals xs us → xs.all flatV = true → us.countP (eqU x) = xs.countP fun y => eqV y x
  | _, _, .nil, _ => rfl
  | y :: xs, u :: us, .cons r t, f => by
    rw [List.all_cons, Bool.and_eq_true] at f
    rw [List.countP_cons, List.countP_cons, cnt_eqU t f.2, eqU_of r f.1]
def rCntF (K : PySem.W.Frag) : V → List V → Hp → VK → Prop := fun x xs H Q => ∃ (p : Addr) (vs : List V) (k : V), x = .ref p ∧ xs = [k] ∧ SqL K H p vs ∧ vs.all flatV = true ∧ flatV k = true ∧ Q (.int (vs.countP fun y => eqV y k : Nat)) H
theorem mt_cntF : MtR X "list.count" (rCntF X.K) := by
  intro pins s σ H x xs v us Q I rx rxs h
  obtain ⟨p, vs, k, rfl, rfl, hs, fs, fk, q⟩ := h
  cases rx
  obtain ⟨u, rfl, ru⟩ := rxs.one
  obtain ⟨its, rv, ⟨⟨cls, dd, data, sl⟩, n, ho, hc, hdn, hd⟩, hlen⟩ := I.list hs
  simp only at hc hd
  subst hc hd
  refine call_meets PySem.F.slot_list_count ⟨_, ho, rfl⟩ PySem.F.entry_list_count (PySem.F.args_list_count_2 _ _)
    (SeqAt.list_countAt p its.toArray n dd sl u (eqU k)) ⟨ho, fun y hy => mem_eqAt ru fk rv fs y (by simpa using hy), ?_⟩
  have ec : its.toArray.toList.countP (eqU k) = vs.countP fun y => eqV y k := cnt_eqU rv fs
  refine ⟨.int (vs.countP fun y => eqV y k : Nat), H, I.tok _, ⟨s.toks, ?_⟩, q⟩
  show Value.int ((its.toArray.toList.countP (eqU k) : Nat) : Int) s.toks = Value.int ((vs.countP fun y => eqV y k : Nat) : Int) s.toks
  rw [ec]
theorem snd_count {o e : Expr} {a : E} {as : Es} {apos cpos : Pos} (ho : PE X o (tE b W (ev a))) (ha : PA X [e] (tAs b W (evs as))) (hp : plainObj o = true) (hs : notStar e = true) (hl : (apos.endLine == cpos.line) = true) :
    PE X (.Call (.Attribute o "count" apos) [e] [] cpos) (tE b W (ev (.mt .count a as))) := by
  have few : ((backTo cpos (starEach [e] X.env)).all (fun x => !x.1) && (backToKw cpos (keywordEach [] X.env)).all (fun x => x.1.isSome)
      && decide ([e].length + ([] : List Keyword).length + (if ([] : List Keyword).isEmpty then 0 else 1) < 30)) = true := by
    rw [star_all cpos (show [e].all notStar = true by simp [hs])]; rfl
  refine (pe_bm PySem.F.plainAttrs_list PySem.F.slot_list_count PySem.F.type_list_count (mt_cntF (X := X)) (snd_opd ho) ha (base_no hp) few hl (star_cons hs) rfl).weak fun σ H Q ⟨RR, F, s, r, q⟩ => ?_
  simp only [ev] at q
  refine ⟨RR, F, s, r, (settled q).imp fun x s1 R1 F1 H1 p1 e1 r1 ⟨n1, q1⟩ v hv => ?_⟩
  split at q1
  · rename_i hx
    unfold S.rdLst at hx
    split at hx
    · rename_i l hl2
      cases vw_of r1 hv hl2 with
      | lst h kk =>
        refine ⟨.inl ⟨rfl, _, .inl (.inl h)⟩, R1, F1, s1, r1, q1.bind fun xs s3 R3 F3 H3 p3 e3 r3 q3 vs hvs => ?_⟩
        unfold mtV at q3
        obtain ⟨res, h3, q3⟩ := q3.opt
        cases h4 : s3.rd x with
        | none => rw [h4] at h3; cases h3
        | some x' =>
          rw [h4, Option.bind_some] at h3
          have hw := vw_of r3 (hv.up (s' := s3) (H' := H3) n1 p3 e3) h4
          simp only [mtSem] at h3
          unfold mtCount at h3
          split at h3
          · rename_i l' y'
            split at h3
            · rename_i hf
              rw [Bool.and_eq_true] at hf
              cases h3
              cases hvs with
              | cons hy t =>
                cases t
                cases hw with
                | lst h5 k5 =>
                  refine ⟨_, _, _, rfl, rfl, .inl (.inl h5), flat_reps k5 hf.2, flat_rep hy hf.1, ?_⟩
                  rw [cnt_flat hy hf.1 k5 hf.2]
                  exact q3.now r3 _ (Rep.int _)
            · cases h3
          · cases h3
    · cases hx
  · exact q1.elim

/-! ### targets -/
def tT (b : Bs) (t : T) : TG := fun v σ H Q => ∃ RR F s x s', Rel b RR F s σ H ∧ Rep b.K b.g RR F x v ∧ T.asg t x s = some s' ∧ ∀ σ', Rel b RR F s' σ' H → σ'.length = σ.length → (∀ j, j ∉ t.ixs → σ'[j]? = σ[j]?) → Q σ' H
def tTs (b : Bs) (t : List T) : TGs := fun v σ H Q => ∃ RR F s x s', Rel b RR F s σ H ∧ Reps b.K b.g RR F x v ∧ T.asgs t x s = some s' ∧ ∀ σ', Rel b RR F s' σ' H → σ'.length = σ.length → (∀ j, j ∉ T.ixss t → σ'[j]? = σ[j]?) → Q σ' H
theorem snd_index {o e : Expr} {a : E} {as : Es} {apos cpos : Pos} (ho : PE X o (tE b W (ev a))) (ha : PA X [e] (tAs b W (evs as))) (hp : plainObj o = true) (hs : notStar e = true) (hl : (apos.endLine == cpos.line) = true) :
    PE X (.Call (.Attribute o "index" apos) [e] [] cpos) (tE b W (ev (.mt .index a as))) := by
  have few : ((backTo cpos (starEach [e] X.env)).all (fun x => !x.1) && (backToKw cpos (keywordEach [] X.env)).all (fun x => x.1.isSome)
      && decide ([e].length + ([] : List Keyword).length + (if ([] : List Keyword).isEmpty then 0 else 1) < 30)) = true := by
    rw [star_all cpos (show [e].all notStar = true by simp [hs])]; rfl
  refine (pe_bm PySem.F.plainAttrs_list PySem.F.slot_list_index PySem.F.type_list_index (L2.mt_index (X := X)) (snd_opd ho) ha (base_no hp) few hl (star_cons hs) rfl).weak fun σ H Q ⟨RR, F, s, r, q⟩ => ?_
  simp only [ev] at q
  refine ⟨RR, F, s, r, (settled q).imp fun x s1 R1 F1 H1 p1 e1 r1 ⟨n1, q1⟩ v hv => ?_⟩
  split at q1
  · rename_i hx
    unfold S.rdLst at hx
    split at hx
    · rename_i l hl2
      cases vw_of r1 hv hl2 with
      | lst h kk =>
        refine ⟨.inl ⟨rfl, _, .inl (.inl h)⟩, R1, F1, s1, r1, q1.bind fun xs s3 R3 F3 H3 p3 e3 r3 q3 vs hvs => ?_⟩
        unfold mtV at q3
        obtain ⟨res, h3, q3⟩ := q3.opt
        cases h4 : s3.rd x with
        | none => rw [h4] at h3; cases h3
        | some x' =>
          rw [h4, Option.bind_some] at h3
          have hw := vw_of r3 (hv.up (s' := s3) (H' := H3) n1 p3 e3) h4
          simp only [mtSem] at h3
          unfold mtIdx at h3
          split at h3
          · rename_i l' y'
            split at h3
            · rename_i hf
              rw [Bool.and_eq_true] at hf
              obtain ⟨j, hj, rfl⟩ := Option.map_eq_some_iff.mp h3
              obtain ⟨hjl, hj1, hj2⟩ := List.findIdx?_eq_some_iff_getElem.mp hj
              cases hvs with
              | cons hy t =>
                cases t
                cases hw with
                | lst h5 k5 =>
                  obtain ⟨w, hw1, hw2⟩ := k5.get (List.getElem?_eq_getElem hjl)
                  have fz : ∀ (m : Nat) (hm : m < l'.length), (l'[m]).flat = true := fun m hm => List.all_eq_true.mp hf.2 _ (List.getElem_mem hm)
                  refine ⟨_, _, _, j, w, rfl, rfl, .inl (.inl h5), flat_rep hy hf.1, flat_reps k5 hf.2, hw1, ?_, fun m z' hm hz => ?_, q3.now r3 _ (Rep.int _)⟩
                  · rw [eqv_flat hw2 hy (fz j hjl) hf.1]; exact hj1
                  · have hml : m < l'.length := by omega
                    obtain ⟨w', hw1', hw2'⟩ := k5.get (List.getElem?_eq_getElem hml)
                    rw [hw1'] at hz
                    cases hz
                    rw [eqv_flat hw2' hy (fz m hml) hf.1]
                    have := hj2 m hm
                    simpa using this
            · cases h3
          · cases h3
    · cases hx
  · exact q1.elim

theorem _root_.L2.PG.weak {X : Cx} {e : Expr} {t t' : TG} (h : PG X e t) (k : ∀ v σ H Q, t' v σ H Q → t v σ H Q) : PG X e t' := ⟨fun pins s σ H v u Q I r q => h.run pins s σ H v u Q I r (k v σ H Q q)⟩
theorem _root_.L2.PGs.weak {X : Cx} {e : List Expr} {t t' : TGs} (h : PGs X e t) (k : ∀ v σ H Q, t' v σ H Q → t v σ H Q) : PGs X e t' := ⟨fun pins s σ H v u Q I r q => h.run pins s σ H v u Q I r (k v σ H Q q)⟩
theorem snd_nm {i : Nat} {x : Str} {pos : Pos} (hN : X.N.Nodup) (hi : X.N[i]? = some x) (hx : Loc X.env.scope x) (hf : X.fn x = true ∨ X.env.scope.names.lookup x = some .local) : PG X (.Name x pos) (tT b (.nm i)) := by
  refine (pg_name hN hi hx hf).weak fun v σ H Q ⟨RR, F, s, y, s', r, hv, h, q⟩ => ?_
  simp only [T.asg, Option.some.injEq] at h
  subst h
  refine q _ (r.storeD hv) (by simp) fun j hj => ?_
  have : j ≠ i := by simpa [T.ixs] using hj
  rw [List.getElem?_set_ne (Ne.symm this)]
theorem snd_tpn : PGs X [] (tTs b []) := by
  refine pgs_nil.weak fun v σ H Q ⟨RR, F, s, y, s', r, hv, h, q⟩ => ?_
  cases hv with
  | nil =>
    simp only [T.asgs, Option.some.injEq] at h
    subst h
    exact ⟨rfl, q σ r rfl fun _ _ => rfl⟩
  | cons _ _ => simp [T.asgs] at h
theorem snd_tpc {t : T} {ts : List T} {e : Expr} {es : List Expr} (h1 : PG X e (tT b t)) (h2 : PGs X es (tTs b ts)) (hs : notStar e = true) : PGs X (e :: es) (tTs b (t :: ts)) := by
  refine (pgs_cons h1 h2 (by rw [asg_cons hs]; rfl)).weak ?_
  rintro v σ H Q ⟨RR, F, s, y, s', r, hv, h, q⟩
  cases hv with
  | nil => simp [T.asgs] at h
  | cons ha hb =>
    rename_i x w xs ws
    simp only [T.asgs] at h
    cases h3 : T.asg t x s with
    | none => rw [h3] at h; cases h
    | some s1 =>
      rw [h3, Option.bind_some] at h
      refine ⟨w, ws, rfl, RR, F, s, x, s1, r, ha, h3, fun σ1 r1 l1 k1 => ?_⟩
      refine ⟨RR, F, s1, xs, s', r1, hb, h, fun σ2 r2 l2 k2 => q σ2 r2 (l2.trans l1) fun j hj => ?_⟩
      simp only [T.ixss, List.mem_append, not_or] at hj
      rw [k2 j hj.2, k1 j hj.1]
theorem snd_tp {ts : List T} {es : List Expr} {j : Nat} {pos : Pos} (A : Amb X b k) (h : PGs X es (tTs b ts)) (hs : es.all notStar = true) (hl : ts.length = es.length) : PG X (.Tuple es j pos) (tT b (.tp ts)) := by
  refine (pg_tup A.calm h (asg_len hs) (asg_find hs)).weak ?_
  clear h
  rintro v σ H Q ⟨RR, F, s, y, s', r, hv, h, q⟩
  cases hv <;> simp only [T.asg, reduceCtorEq] at h
  rename_i l a vs h1 h2
  split at h
  · rename_i hl2
    exact ⟨a, vs, rfl, A.K ▸ r.fz.seqT h1, by rw [← h2.len, hl2, hl], RR, F, s, l, s', r, h2, h, q⟩
  · cases h

/-! ### what a loop walks -/
def WalkD (K : PySem.W.Frag) (g : Str → Option Addr) (RR : List Addr) (F : Hp) (J : It) (L : List D) : Prop :=
  ∀ RR' F' H, RR <+: RR' → Same F F' → Same F' H → (∀ i, i < L.length → J.go i H ∧ ∀ x H', J.yld i H x H' → ∃ F2 d, L[i]? = some d ∧ Same F' F2 ∧ Same H H' ∧ (∀ a o, F2 a = some o → F' a = some o ∨ (H a = none ∧ H' a = some o)) ∧ Rep K g RR' F2 d x) ∧ J.stop L.length H
def tSrc (b : Bs) (W : WX) (f : S → O (List D)) : TI := fun σ H R => ∃ RR F s, Rel b RR F s σ H ∧ Go b W σ RR F (f s) fun L _ RR' F' H' => ∀ J, WalkD b.K b.g RR' F' J L → R J H'
theorem _root_.L2.PI.weak {X : Cx} {tg e : Expr} {t t' : TI} (h : PI X tg e t) (k : ∀ σ H Q, t' σ H Q → t σ H Q) : PI X tg e t' := ⟨fun pins s σ H Q I q => h.run pins s σ H Q I (k σ H Q q)⟩
theorem walk_list {l : List D} {a : Addr} {vs : List V} (h : F a = some (.lst vs)) (r : Reps b.K b.g RR F l vs) : WalkD b.K b.g RR F (Itl b.K a) l := fun RR' F' H p e e2 => by
  have ha : H a = some (.lst vs) := e2 _ _ (e _ _ h)
  refine ⟨fun i hi => ?_, ⟨vs, .inl (.inl ha), by rw [r.len]; exact Nat.le_refl _⟩⟩
  obtain ⟨v, h1, h2⟩ := r.get (List.getElem?_eq_getElem hi)
  refine ⟨⟨vs, v, .inl (.inl ha), h1⟩, fun x H' ⟨e3, hx⟩ => ?_⟩
  have h3 := hx vs (.inl (.inl ha))
  rw [h1] at h3; cases h3
  subst e3
  exact ⟨F', _, List.getElem?_eq_getElem hi, Same.refl _, Same.refl _, fun _ _ z => .inl z, h2.mono e p⟩
theorem walk_tup {l : List D} {a : Addr} {vs : List V} (h : SqT b.K F a vs) (r : Reps b.K b.g RR F l vs) : WalkD b.K b.g RR F (Itt b.K a) l := fun RR' F' H p e e2 => by
  have ha : SqT b.K H a vs := e2.seqT (e.seqT h)
  refine ⟨fun i hi => ?_, ⟨vs, ha, by rw [r.len]; exact Nat.le_refl _⟩⟩
  obtain ⟨v, h1, h2⟩ := r.get (List.getElem?_eq_getElem hi)
  refine ⟨⟨vs, v, ha, h1⟩, fun x H' ⟨e3, hx⟩ => ?_⟩
  have h3 := hx vs ha
  rw [h1] at h3; cases h3
  subst e3
  exact ⟨F', _, List.getElem?_eq_getElem hi, Same.refl _, Same.refl _, fun _ _ z => .inl z, h2.mono e p⟩
theorem rangeD_get : ∀ (n : Nat) (a : Int) (i : Nat), i < n → (rangeD a n)[i]? = some (.int (a + i))
  | 0, _, _, h => absurd h (Nat.not_lt_zero _)
  | n + 1, a, 0, _ => by simp [rangeD]
  | n + 1, a, i + 1, h => by
    rw [rangeD, List.getElem?_cons_succ, rangeD_get n (a + 1) i (by omega)]
    congr 2
    omega
theorem rangeD_len : ∀ (n : Nat) (a : Int), (rangeD a n).length = n
  | 0, _ => rfl
  | n + 1, a => by rw [rangeD, List.length_cons, rangeD_len]
theorem walk_range (a : Int) (n : Nat) : WalkD b.K b.g RR F (Itr a n) (rangeD a n) := fun RR' F' H p e e2 => by
  refine ⟨fun i hi => ?_, by rw [rangeD_len]; exact Nat.le_refl _⟩
  rw [rangeD_len] at hi
  refine ⟨hi, fun x H' ⟨e3, hx⟩ => ?_⟩
  subst e3 hx
  exact ⟨F', _, rangeD_get n a i hi, Same.refl _, Same.refl _, fun _ _ z => .inl z, .int _⟩
/-- a list or a tuple, walked -/
def iAny (K : PySem.W.Frag) (tl : TE) : TI := fun σ H R => tl σ H fun x H1 => ∃ a, x = .ref a ∧ (((∃ xs, SqL K H1 a xs) ∧ R (Itl K a) H1) ∨ ((∃ xs, SqT K H1 a xs) ∧ R (Itt K a) H1))
theorem pi_any {tg l : Expr} {tl : TE} (hl : PE X l tl) : PI X tg l (iAny X.K tl) := by
  refine ⟨fun pins s σ H R I h => ?_⟩
  refine thn (hl.run pins s σ H _ I h) fun v s1 ⟨x, H1, I1, r1, a, e, q⟩ => ?_
  subst e
  cases r1
  have fp : ∀ b ∈ [s1.heap.objs.size], FpOk X pins H1 b := fun b hb => by
    have e : b = s1.heap.objs.size := by simpa using hb
    subst e
    exact I1.fpOk (Nat.le_refl _) (I1.hok.fresh (Nat.le_refl _))
  rcases q with ⟨⟨xs, hq⟩, q⟩ | ⟨⟨xs, hq⟩, q⟩
  · obtain ⟨its, rv, p, hz⟩ := I1.list hq
    refine wpAny_pyIter_list p.isList ⟨s1.heap.objs.size, [s1.heap.objs.size], _, _, H1, rfl, ?_, turn_list a _, ⟨_, Heap.get?_push_size _ rfl, rfl, rfl⟩, fp, q⟩
    exact I1.kept (t' := s1.toks) fun b o e => Heap.get?_push_of_some _ e
  · obtain ⟨its, rv, p, hz⟩ := I1.tuple hq
    refine wpAny_pyIter_tuple (show s1.heap.IsTuple a its.toArray from p) ⟨s1.heap.objs.size, [s1.heap.objs.size], _, _, H1, rfl, ?_, turn_tuple a _, ⟨_, Heap.get?_push_size _ rfl, rfl, rfl⟩, fp, q⟩
    exact I1.kept (t' := s1.toks) fun b o e => Heap.get?_push_of_some _ e
theorem snd_seq {tg e : Expr} {a : E} (hK : b.K = X.K) (ha : PE X e (tE b W (ev a))) : PI X tg e (tSrc b W (evSrc (.seq a))) := by
  refine (pi_any (snd_val ha)).weak fun σ H R ⟨RR, F, s, r, q⟩ => ?_
  simp only [evSrc] at q
  refine ⟨RR, F, s, r, q.bind fun x s1 R1 F1 H1 p1 e1 r1 q1 v hv => ?_⟩
  rw [← hK]
  split at q1
  · cases hv with
    | lst h k => exact ⟨_, rfl, .inl ⟨⟨_, .inl (.inl (r1.fz _ _ h))⟩, q1.now r1 _ (walk_list h k)⟩⟩
  · cases hv with
    | tup h k => exact ⟨_, rfl, .inr ⟨⟨_, r1.fz.seqT h⟩, q1.now r1 _ (walk_tup h k)⟩⟩
  · exact q1.elim
theorem snd_rng1 {tg e : Expr} {a : E} {p pos : Pos} (hg : Gl X "range") (hm : X.mg "range" = none) (ha : PE X e (tE b W (ev a))) (hs : notStar e = true) : PI X tg (.Call (.Name "range" p) [e] [] pos) (tSrc b W (evSrc (.rng1 a))) := by
  refine (pi_range1 hg hm (pa_cons (snd_val ha) pa_nil (star_cons hs)) (star_cons hs)).weak fun σ H R ⟨RR, F, s, r, q⟩ => ?_
  simp only [evSrc] at q
  refine ⟨RR, F, s, r, q.bind fun x s1 R1 F1 H1 p1 e1 r1 q1 v hv => ?_⟩
  obtain ⟨L, h1, q1⟩ := q1.opt
  unfold rng1Sem at h1
  split at h1
  · rename_i j h2
    cases h2
    split at h1
    · rename_i hj
      cases h1
      cases hv
      have := small_iff hj
      exact ⟨j, rfl, this.1, this.2, q1.now r1 _ (walk_range _ _)⟩
    · cases h1
  · cases h1
theorem snd_rng2 {tg e f : Expr} {a c : E} {p pos : Pos} (hg : Gl X "range") (hm : X.mg "range" = none) (ha : PE X e (tE b W (ev a))) (hb : PE X f (tE b W (ev c))) (hs : notStar e = true) (ht : notStar f = true) : PI X tg (.Call (.Name "range" p) [e, f] [] pos) (tSrc b W (evSrc (.rng2 a c))) := by
  have e1 : starEach [e, f] X.env = [(false, eval e X.env), (false, eval f X.env)] := by rw [star_cons hs, star_cons ht]; rfl
  refine (pi_range2 hg hm (pa_cons (snd_val ha) (pa_cons (snd_val hb) pa_nil (star_cons ht)) (star_cons hs)) e1 (star_cons ht)).weak fun σ H R ⟨RR, F, s, r, q⟩ => ?_
  simp only [evSrc] at q
  refine ⟨RR, F, s, r, q.bind fun x s1 R1 F1 H1 p1 e1 r1 q1 v hv => ?_⟩
  refine ⟨R1, F1, s1, r1, q1.bind fun y s2 R2 F2 H2 p2 e2 r2 q2 u hu => ?_⟩
  obtain ⟨L, h1, q2⟩ := q2.opt
  unfold rng2Sem at h1
  split at h1
  · rename_i i j h2
    cases h2
    split at h1
    · rename_i hj
      cases h1
      cases hv; cases hu
      rw [Bool.and_eq_true] at hj
      have k1 := small_iff hj.1
      have k2 := small_iff hj.2
      exact ⟨i, j, rfl, ⟨k1.1, k1.2, k2.1, k2.2⟩, q2.now r2 _ (walk_range _ _)⟩
    · cases h1
  · cases h1
theorem enumFrom_get : ∀ (l : List D) (k i : Nat) (d : D), l[i]? = some d → (enumFrom k l)[i]? = some (.tup [.int ((k + i : Nat) : Int), d])
  | [], _, _, _, h => by simp at h
  | x :: l, k, 0, d, h => by simp at h; subst h; simp [enumFrom]
  | x :: l, k, i + 1, d, h => by
    rw [enumFrom, List.getElem?_cons_succ, enumFrom_get l (k + 1) i d (by simpa using h), Nat.add_right_comm, Nat.add_assoc]
theorem enumFrom_len : ∀ (l : List D) (k : Nat), (enumFrom k l).length = l.length
  | [], _ => rfl
  | _ :: l, k => by rw [enumFrom, List.length_cons, List.length_cons, enumFrom_len]
/-- a new tuple, kept -/
theorem new_tup {K : PySem.W.Frag} {g : Str → Option Addr} {l : List D} {vs : List V} {T : Addr} (e : Same F H) (hT : H T = none) (r : Reps K g RR F l vs) :
    ∃ F2, Same F F2 ∧ Same H (upd H T (.tup vs)) ∧ (∀ a o, F2 a = some o → F a = some o ∨ (H a = none ∧ upd H T (.tup vs) a = some o)) ∧ Rep K g RR F2 (.tup l) (.ref T) := by
  have fp : F T = none := by
    cases z : F T with
    | none => rfl
    | some o => rw [e _ _ z] at hT; cases hT
  have e1 : Same F (upd F T (.tup vs)) := same_new fp
  refine ⟨_, e1, same_new hT, fun a o h => ?_, .tup (.inl (.inl upd_same)) (r.mono e1 (List.prefix_refl _))⟩
  by_cases z : a = T
  · subst z
    rw [upd_same] at h; cases h
    exact .inr ⟨hT, upd_same⟩
  · rw [upd_ne z] at h; exact .inl h
theorem walk_enum {l : List D} {a : Addr} {vs : List V} (h : F a = some (.lst vs)) (r : Reps b.K b.g RR F l vs) : WalkD b.K b.g RR F (Ite b.K a) (enumFrom 0 l) := fun RR' F' H p e e2 => by
  have ha : H a = some (.lst vs) := e2 _ _ (e _ _ h)
  rw [enumFrom_len]
  refine ⟨fun i hi => ?_, ⟨vs, .inl (.inl ha), by rw [r.len]; exact Nat.le_refl _⟩⟩
  have hd := List.getElem?_eq_getElem hi
  obtain ⟨v, h1, h2⟩ := r.get hd
  refine ⟨⟨vs, v, .inl (.inl ha), h1⟩, fun x H' ⟨T, y, hx, hT, hH, hy⟩ => ?_⟩
  have h3 := hy vs (.inl (.inl ha))
  rw [h1] at h3; cases h3
  subst hx hH
  have rr : Reps b.K b.g RR' F' [.int ((0 + i : Nat) : Int), l[i]] [.int (i : Nat), v] := .cons (by rw [Nat.zero_add]; exact .int _) (.cons (h2.mono e p) .nil)
  obtain ⟨F2, k1, k2, k3, k4⟩ := new_tup e2 hT rr
  exact ⟨F2, _, enumFrom_get l 0 i _ hd, k1, k2, k3, k4⟩
theorem snd_enum {e : Expr} {a : E} {p pos tpos : Pos} {elts : List Expr} {kk : Nat} (hK : b.K = X.K) (hg : Gl X "enumerate") (hm : X.mg "enumerate" = none) (ha : PE X e (tE b W (ev a))) (hs : notStar e = true) :
    PI X (.Tuple elts kk tpos) (.Call (.Name "enumerate" p) [e] [] pos) (tSrc b W (evSrc (.enum a))) := by
  refine (pi_enum hg hm (pa_cons (snd_val ha) pa_nil (star_cons hs)) (star_cons hs)).weak fun σ H R ⟨RR, F, s, r, q⟩ => ?_
  simp only [evSrc] at q
  refine ⟨RR, F, s, r, q.bind fun x s1 R1 F1 H1 p1 e1 r1 q1 v hv => ?_⟩
  rw [← hK]
  split at q1
  · cases hv with
    | lst h k => exact ⟨_, _, rfl, .inl (.inl (r1.fz _ _ h)), q1.now r1 _ (walk_enum h k)⟩
  · exact q1.elim
theorem zipD_get : ∀ (l m : List D) (i : Nat) (d e : D), l[i]? = some d → m[i]? = some e → (zipD l m)[i]? = some (.tup [d, e])
  | [], _, _, _, _, h, _ => by simp at h
  | _ :: _, [], _, _, _, _, h => by simp at h
  | x :: l, y :: m, 0, d, e, h, k => by simp at h k; subst h k; simp [zipD]
  | x :: l, y :: m, i + 1, d, e, h, k => by
    rw [zipD, List.getElem?_cons_succ]
    exact zipD_get l m i d e (by simpa using h) (by simpa using k)
theorem zipD_len : ∀ l m : List D, (zipD l m).length = min l.length m.length
  | [], m => by simp [zipD]
  | _ :: _, [] => by simp [zipD]
  | _ :: l, _ :: m => by
    rw [zipD, List.length_cons, zipD_len l m, List.length_cons, List.length_cons]
    omega
theorem walk_zip {l m : List D} {a c : Addr} {vs ws : List V} (h : F a = some (.lst vs)) (r : Reps b.K b.g RR F l vs) (h' : F c = some (.lst ws)) (r' : Reps b.K b.g RR F m ws) : WalkD b.K b.g RR F (Itz b.K a c) (zipD l m) := fun RR' F' H p e e2 => by
  have ha : H a = some (.lst vs) := e2 _ _ (e _ _ h)
  have hc : H c = some (.lst ws) := e2 _ _ (e _ _ h')
  rw [zipD_len]
  have l1 := r.len
  have l2 := r'.len
  refine ⟨fun i hi => ?_, ⟨vs, ws, .inl (.inl ha), .inl (.inl hc), by omega⟩⟩
  have hd : l[i]? = some l[i] := List.getElem?_eq_getElem (by omega)
  have hd' : m[i]? = some m[i] := List.getElem?_eq_getElem (by omega)
  obtain ⟨v, h1, h2⟩ := r.get hd
  obtain ⟨w, h3, h4⟩ := r'.get hd'
  refine ⟨⟨vs, ws, v, w, .inl (.inl ha), .inl (.inl hc), h1, h3⟩, fun x H' ⟨T, y, z, hx, hT, hH, hy, hz⟩ => ?_⟩
  have h5 := hy vs (.inl (.inl ha))
  rw [h1] at h5; cases h5
  have h6 := hz ws (.inl (.inl hc))
  rw [h3] at h6; cases h6
  subst hx hH
  have rr : Reps b.K b.g RR' F' [l[i], m[i]] [v, w] := .cons (h2.mono e p) (.cons (h4.mono e p) .nil)
  obtain ⟨F2, k1, k2, k3, k4⟩ := new_tup e2 hT rr
  exact ⟨F2, _, zipD_get l m i _ _ hd hd', k1, k2, k3, k4⟩
theorem snd_zip {e f : Expr} {a c : E} {p pos tpos : Pos} {elts : List Expr} {kk : Nat} (hK : b.K = X.K) (hg : Gl X "zip") (hm : X.mg "zip" = none) (ha : PE X e (tE b W (ev a))) (hb : PE X f (tE b W (ev c))) (hs : notStar e = true) (ht : notStar f = true) :
    PI X (.Tuple elts kk tpos) (.Call (.Name "zip" p) [e, f] [] pos) (tSrc b W (evSrc (.zip a c))) := by
  refine (pi_zip hg hm (pa_cons (snd_val ha) (pa_cons (snd_val hb) pa_nil (star_cons ht)) (star_cons hs)) (star_cons hs) (star_any pos (by simp [ht]))).weak fun σ H R ⟨RR, F, s, r, q⟩ => ?_
  simp only [evSrc] at q
  refine ⟨RR, F, s, r, q.bind fun x s1 R1 F1 H1 p1 e1 r1 q1 v hv => ?_⟩
  refine ⟨R1, F1, s1, r1, q1.bind fun y s2 R2 F2 H2 p2 e2 r2 q2 u hu => ?_⟩
  rw [← hK]
  have hv := hv.mono e2 p2
  split at q2
  · cases hv with
    | lst h k =>
      cases hu with
      | lst h' k' => exact ⟨_, _, _, _, rfl, .inl (.inl (r2.fz _ _ h)), .inl (.inl (r2.fz _ _ h')), q2.now r2 _ (walk_zip h k h' k')⟩
  · exact q2.elim
end
end G4

namespace G4
open PySem PySem.Spec PyProof.Rows L2
/-! ### dicts -/
section
variable {X : Cx} {b : Bs} {W : WX} {k : Nat} {σ : L2.St} {RR RR' : List Addr} {F F' H H' : Hp} {s : S} {Q : VK}
theorem nosl_no {e : Expr} (h : notSlice e = true) : NoSl e := fun ov iv => by
  cases e <;> first | rfl | cases h
theorem dct_of {x : R} {v : V} {l : List (Key × D)} (r : Rel b RR F s σ H) (hv : RRel b RR F s σ H x v) (e : s.rd x = some (.dct l)) : ∃ a vs, v = .ref a ∧ H a = some (.dK vs) ∧ RepK b.K b.g RR F l vs := by
  cases vw_of r hv e with
  | dct h k => exact ⟨_, _, rfl, h, k⟩
theorem rdDct_of {x : R} (e : s.rdDct x = true) : ∃ l, s.rd x = some (.dct l) := by
  unfold S.rdDct at e
  split at e
  · exact ⟨_, by assumption⟩
  · cases e
theorem key_of' {y : R} {u : V} {kk : Key} (r : Rel b RR F s σ H) (hu : RRel b RR F s σ H y u) (e : (s.rd y).bind keyOf = some kk) : u = kV kk := by
  cases h : s.rd y with
  | none => rw [h] at e; cases e
  | some d =>
    rw [h, Option.bind_some] at e
    exact key_vw (vw_of r hu h) e
theorem snd_dix {e f : Expr} {a c : E} {pos : Pos} (A : Amb X b k) (ha : PE X e (tE b W (ev a))) (hb : PE X f (tE b W (ev c))) (hp : notSlice f = true) : PE X (.Subscript e f pos) (tE b W (ev (.dix a c))) := by
  refine (pe_dget (by have := A.hu; omega) (snd_opd ha) (snd_opd hb) (nosl_no hp)).weak fun σ H Q ⟨RR, F, s, r, q⟩ => ?_
  simp only [ev] at q
  refine ⟨RR, F, s, r, (settled q).imp fun x s1 R1 F1 H1 p1 e1 r1 ⟨n1, q1⟩ v hv => ?_⟩
  refine ⟨R1, F1, s1, r1, (settled q1).imp fun y s2 R2 F2 H2 p2 e2 r2 ⟨n2, q2⟩ u hu => ?_⟩
  have hv2 := hv.up (s' := s2) (H' := H2) n1 p2 e2
  unfold dixV at q2
  split at q2
  · rename_i l kk h1 h2
    obtain ⟨a2, vs, rfl, h3, h4⟩ := dct_of r2 hv2 h1
    have h5 := key_of' r2 hu h2
    subst h5
    obtain ⟨res, h6, q3⟩ := q2.opt
    obtain ⟨d, h7, rfl⟩ := map_some h6
    obtain ⟨w, h8, h9⟩ := (h4.look kk).1 d h7
    refine ⟨a2, w, rfl, ?_, q3.now r2 w h9⟩
    have := DGet.k (k := kk) h3
    rw [h8] at this
    exact this
  · exact q2.elim
theorem snd_dget {o e f : Expr} {a c d : E} {apos cpos : Pos} (A : Amb X b k) (ho : PE X o (tE b W (ev a))) (he : PE X e (tE b W (ev c))) (hf : PE X f (tE b W (ev d))) (hp : plainObj o = true) (hs : notStar e = true) (hs2 : notStar f = true) (hl : (apos.endLine == cpos.line) = true) :
    PE X (.Call (.Attribute o "get" apos) [e, f] [] cpos) (tE b W (ev (.dget a c d))) := by
  have few : ((backTo cpos (starEach [e, f] X.env)).all (fun x => !x.1) && (backToKw cpos (keywordEach [] X.env)).all (fun x => x.1.isSome)
      && decide ([e, f].length + ([] : List Keyword).length + (if ([] : List Keyword).isEmpty then 0 else 1) < 30)) = true := by
    rw [star_all cpos (show [e, f].all notStar = true by simp [hs, hs2])]; rfl
  have tr : backTo cpos (starEach [e, f] X.env) = [(false, eval e X.env), (false, eval f X.env)] := by
    rw [star_cons hs, star_cons hs2]; rfl
  refine (pe_dget2 (by have := A.hu; omega) (snd_opd ho) (snd_opd he) (snd_val hf) ⟨base_no hp, few, hl, tr⟩).weak fun σ H Q ⟨RR, F, s, r, q⟩ => ?_
  simp only [ev] at q
  refine ⟨RR, F, s, r, (settled q).imp fun x s1 R1 F1 H1 p1 e1 r1 ⟨n1, q1⟩ v hv => ?_⟩
  split at q1
  · rename_i hx
    obtain ⟨l0, hl0⟩ := rdDct_of hx
    obtain ⟨a2, vs0, rfl, h3, _⟩ := dct_of r1 hv hl0
    refine ⟨a2, rfl, .inl ⟨vs0, .inl h3⟩, R1, F1, s1, r1, (settled q1).imp fun y s2 R2 F2 H2 p2 e2 r2 ⟨n2, q2⟩ u hu => ?_⟩
    have hv2 := hv.up (s' := s2) (H' := H2) n1 p2 e2
    refine ⟨R2, F2, s2, r2, q2.bind fun z s3 R3 F3 H3 p3 e3 r3 q3 t ht => ?_⟩
    have hv3 := hv2.up (s' := s3) (H' := H3) n1 p3 e3
    have hu3 := hu.up (s' := s3) (H' := H3) n2 p3 e3
    unfold dgetV at q3
    split at q3
    · rename_i l kk h1 h2
      obtain ⟨a3, vs, ea, h4, h5⟩ := dct_of r3 hv3 h1
      cases ea
      have h6 := key_of' r3 hu3 h2
      subst h6
      refine ⟨_, DGet.k h4, ?_⟩
      obtain ⟨g1, g2⟩ := h5.look kk
      cases hq : lookK l kk with
      | some d =>
        obtain ⟨w, h8, h9⟩ := g1 d hq
        rw [h8]
        rw [hq] at q3
        exact q3.now r3 w h9
      | none =>
        rw [g2 hq]
        rw [hq] at q3
        exact q3.now r3 t ht
    · exact q3.elim
  · exact q1.elim
/-! ### op= -/
theorem iop_mulW : OpR X (inplaceOp .Mult) (rI CMulW fun i j => .int (i * j)) := opI fun _ _ _ _ _ _ _ hc q => imul_int q hc.ok
/-- ints by their operator, in place -/
def rIp (o : Operator) : R2 := fun v w H Q => ∃ i j z, v = .int i ∧ w = .int j ∧ o ≠ .Pow ∧ opBin o (.int i) (.int j) = some (.d (.int z)) ∧ Q (.int z) H
theorem ok_ip (o : Operator) : OpR X (inplaceOp o) (rIp o) := by
  have no : ∀ {o}, (∀ i j, opBin o (.int i) (.int j) = none) → OpR X (inplaceOp o) (rIp o) := fun h => by
    intro pins s σ H x y v u Q I r1 r2 ⟨i, j, z, e1, e2, _, ho, q⟩
    rw [h] at ho; cases ho
  cases o with
  | Add => exact (iop_add (X := X)).imp fun v w H Q ⟨i, j, z, h1, h2, _, ho, q⟩ => by cases ho; exact ⟨i, j, h1, h2, q⟩
  | Sub => exact (iop_sub (X := X)).imp fun v w H Q ⟨i, j, z, h1, h2, _, ho, q⟩ => by cases ho; exact ⟨i, j, h1, h2, q⟩
  | Mult =>
    refine (iop_mulW (X := X)).imp fun v w H Q ⟨i, j, z, h1, h2, _, ho, q⟩ => ?_
    simp only [opBin] at ho
    split at ho
    · rename_i hl; cases ho; exact ⟨i, j, h1, h2, hl, q⟩
    · cases ho
  | FloorDiv =>
    refine (iop_fdivW (X := X)).imp fun v w H Q ⟨i, j, z, h1, h2, _, ho, q⟩ => ?_
    simp only [opBin] at ho
    split at ho
    · rename_i hl; cases ho; exact ⟨i, j, h1, h2, hl, q⟩
    · cases ho
  | Mod =>
    refine (iop_mod (X := X)).imp fun v w H Q ⟨i, j, z, h1, h2, _, ho, q⟩ => ?_
    simp only [opBin] at ho
    split at ho
    · rename_i hl; cases ho; exact ⟨i, j, h1, h2, hl, q⟩
    · cases ho
  | LShift =>
    refine (iop_shlW (X := X)).imp fun v w H Q ⟨i, j, z, h1, h2, _, ho, q⟩ => ?_
    simp only [opBin] at ho
    split at ho
    · rename_i hl; cases ho; exact ⟨i, j, h1, h2, hl, q⟩
    · cases ho
  | RShift =>
    refine (iop_shr (X := X)).imp fun v w H Q ⟨i, j, z, h1, h2, _, ho, q⟩ => ?_
    simp only [opBin] at ho
    split at ho
    · rename_i hl; cases ho; exact ⟨i, j, h1, h2, hl, q⟩
    · cases ho
  | BitAnd => exact (iop_and (X := X)).imp fun v w H Q ⟨i, j, z, h1, h2, _, ho, q⟩ => by cases ho; exact ⟨i, j, h1, h2, q⟩
  | BitOr => exact (iop_or (X := X)).imp fun v w H Q ⟨i, j, z, h1, h2, _, ho, q⟩ => by cases ho; exact ⟨i, j, h1, h2, q⟩
  | Pow => intro pins s σ H x y v u Q I r1 r2 ⟨i, j, z, e1, e2, hne, ho, q⟩; exact absurd rfl hne
  | MatMult => exact no fun i j => rfl
  | Div => exact no fun i j => rfl
  | BitXor => exact no fun i j => rfl
end
end G4

namespace G4
open PySem PySem.Spec PyProof.Rows L2

/-! ### slots hidden and brought back -/
theorem hideSl_len (sl : List SV) : ∀ vs : List Nat, (hideSl sl vs).length = sl.length
  | [] => rfl
  | v :: vs => by rw [hideSl, List.length_set, hideSl_len sl vs]
theorem hideSl_get {sl : List SV} {i : Nat} {x : SV} : ∀ {vs : List Nat}, (hideSl sl vs)[i]? = some x → x ≠ .un → sl[i]? = some x ∧ i ∉ vs
  | [], h, _ => ⟨h, by simp⟩
  | v :: vs, h, n => by
    rw [hideSl] at h
    rcases set_cases h with ⟨rfl, e, _⟩ | ⟨m, h⟩
    · exact absurd e n
    · obtain ⟨h1, h2⟩ := hideSl_get h n
      exact ⟨h1, by simp only [List.mem_cons, not_or]; exact ⟨m, h2⟩⟩
theorem hideSl_out {sl : List SV} {i : Nat} : ∀ {vs : List Nat}, i ∉ vs → (hideSl sl vs)[i]? = sl[i]?
  | [], _ => rfl
  | v :: vs, h => by
    simp only [List.mem_cons, not_or] at h
    rw [hideSl, List.getElem?_set_ne (Ne.symm h.1), hideSl_out h.2]
theorem backSl_len (old sl : List SV) : ∀ vs : List Nat, (backSl old sl vs).length = sl.length
  | [] => rfl
  | v :: vs => by rw [backSl, List.length_set, backSl_len old sl vs]
theorem backSl_get {old sl : List SV} {i : Nat} {x : SV} : ∀ {vs : List Nat}, (backSl old sl vs)[i]? = some x → (i ∈ vs ∧ x = old.getD i .un) ∨ (i ∉ vs ∧ sl[i]? = some x)
  | [], h => .inr ⟨by simp, h⟩
  | v :: vs, h => by
    rw [backSl] at h
    rcases set_cases h with ⟨rfl, e, _⟩ | ⟨m, h⟩
    · exact .inl ⟨by simp, e⟩
    · rcases backSl_get h with ⟨h1, h2⟩ | ⟨h1, h2⟩
      · exact .inl ⟨by simp [h1], h2⟩
      · exact .inr ⟨by simp only [List.mem_cons, not_or]; exact ⟨m, h1⟩, h2⟩
theorem wipe_in {σ : L2.St} {i : Nat} : ∀ {vs : List Nat}, i ∈ vs → i < σ.length → (wipe σ vs)[i]? = some none
  | [], h, _ => by simp at h
  | v :: vs, h, hl => by
    unfold wipe
    by_cases e : v = i
    · subst e; rw [List.getElem?_set_self (by rw [wipe_length]; exact hl)]
    · rw [List.getElem?_set_ne e]
      rcases List.mem_cons.mp h with z | z
      · exact absurd z.symm e
      · exact wipe_in z hl
theorem wipe_eq {σ τ : L2.St} {vs : List Nat} (hl : τ.length = σ.length) (h : ∀ j, j ∉ vs → τ[j]? = σ[j]?) : wipe τ vs = wipe σ vs := by
  apply List.ext_getElem?
  intro i
  by_cases hi : i ∈ vs
  · by_cases hb : i < σ.length
    · rw [wipe_in hi hb, wipe_in hi (by rw [hl]; exact hb)]
    · rw [List.getElem?_eq_none (by rw [wipe_length]; omega), List.getElem?_eq_none (by rw [wipe_length]; omega)]
  · rw [wipe_out hi, wipe_out hi, h i hi]
section
variable {X : Cx} {b : Bs} {W : WX} {k : Nat} {σ : L2.St} {RR RR' : List Addr} {F F' H H' : Hp} {s : S} {Q : VK}
theorem Rel.hide (r : Rel b RR F s σ H) (vs : List Nat) : Rel b RR F (s.hide vs) (wipe σ vs) H :=
  r.un (by rw [hideSl_len, wipe_length]; exact r.len) fun i x h n => by
    obtain ⟨h1, h2⟩ := hideSl_get h n
    exact ⟨h1, wipe_out h2⟩
/-- a lone object is written -/
theorem Rel.writeL {a : Addr} {o : HO} (r : Rel b RR F s σ H) (l : Lone b RR F s σ a) : Rel b RR F s σ (upd H a o) where
  fz := fun c x q => by rw [upd_ne fun z => by rw [z, l.f] at q; cases q]; exact r.fz _ _ q
  f0 := r.f0
  fn := r.fn
  keep := fun c x q n => by rw [upd_ne fun z => by rw [z, l.h] at q; cases q]; exact r.keep c x q n
  pre := r.pre
  new := r.new
  nd := r.nd
  rf := r.rf
  stl := r.stl
  st := fun n c x q p => by
    have hx : x ≠ a := fun z => l.r (z ▸ List.mem_of_getElem? p)
    exact ⟨(r.st n c x q p).1.mono (Same.refl _) (List.prefix_refl _) fun o w => by rw [upd_ne hx]; exact w, (r.st n c x q p).2⟩
  len := r.len
  sd := r.sd
  so := fun i c q => by
    obtain ⟨x, h1, h2, h3⟩ := r.so i c q
    have hx : x ≠ a := fun z => l.o i c q (by rw [← z]; exact h1)
    exact ⟨x, h1, h2.mono (Same.refl _) (List.prefix_refl _) fun o w => by rw [upd_ne hx]; exact w, h3⟩
  ap := r.ap
theorem Lone.hide {a : Addr} (l : Lone b RR F s σ a) (vs : List Nat) : Lone b RR F (s.hide vs) (wipe σ vs) a := ⟨l.f, l.r, l.h, fun i c h q => by
  obtain ⟨h1, h2⟩ := hideSl_get h (by intro z; cases z)
  rw [wipe_out h2] at q
  exact l.o i c h1 q⟩
abbrev Wf : WX := fun _ _ _ _ => False
/-- whatever is set aside -/
def anyE (b : Bs) (t : Bs → TE) : TE := fun σ H Q => ∃ c : Bs, c.K = b.K ∧ c.g = b.g ∧ t c σ H Q
def anyT (b : Bs) (t : Bs → TT) : TT := fun σ H Q => ∃ c : Bs, c.K = b.K ∧ c.g = b.g ∧ t c σ H Q
def anyG (b : Bs) (t : Bs → TG) : TG := fun v σ H Q => ∃ c : Bs, c.K = b.K ∧ c.g = b.g ∧ t c v σ H Q
theorem any_e {e : Expr} {t : Bs → TE} (h : ∀ c : Bs, c.K = b.K → c.g = b.g → PE X e (t c)) : PE X e (anyE b t) := ⟨fun pins s σ H Q I ⟨c, h1, h2, q⟩ => (h c h1 h2).run pins s σ H Q I q⟩
theorem any_t {e : List Expr} {t : Bs → TT} (h : ∀ c : Bs, c.K = b.K → c.g = b.g → PTs X e (t c)) : PTs X e (anyT b t) := ⟨fun pins s σ H Q I ⟨c, h1, h2, q⟩ => (h c h1 h2).run pins s σ H Q I q⟩
theorem any_g {e : Expr} {t : Bs → TG} (h : ∀ c : Bs, c.K = b.K → c.g = b.g → PG X e (t c)) : PG X e (anyG b t) := ⟨fun pins s σ H v u Q I r ⟨c, h1, h2, q⟩ => (h c h1 h2).run pins s σ H v u Q I r q⟩
theorem bind_inv {α β : Type} {o : O α} {f : α → S → O β} {y : β} {t : S} (h : o.bind f = .ok y t) : ∃ a s, o = .ok a s ∧ f a s = .ok y t := by
  cases o with
  | ok a s => exact ⟨a, s, rfl, h⟩
  | ex e s => cases h
  | bad => cases h
theorem noex_go {α β : Type} {o : O α} {f : α → S → O β} {P : β → S → List Addr → Hp → Hp → Prop} (q : Go b W σ RR F (o.noex.bind f) P) : ∃ a t, o = .ok a t ∧ Go b W σ RR F (f a t) P := by
  cases o with
  | ok a t => exact ⟨a, t, rfl, q⟩
  | ex e s => exact q.elim
  | bad => exact q.elim
/-- a value known to come -/
theorem go_ok {α : Type} {a : α} {o : O α} {t : S} {P : α → S → List Addr → Hp → Hp → Prop} (h : o = .ok a t) (k : ∀ RR' F' H', RR <+: RR' → Same F F' → Rel b RR' F' t σ H' → P a t RR' F' H') : Go b W σ RR F o P := by
  subst h
  exact k
theorem snd_lc {own : List (Str × Nat)} {e : E} {g : T} {src : Src} {c : EO} {elt tg iter : Expr} {ifs : List Expr} {scope : Scope} {pos : Pos} (A : Amb X b k) (ok : BlkOk X.N X.env.scope scope own) (hix : ∀ i ∈ g.ixs, i ∈ own.map (·.2))
    (hi : PI X tg iter (tSrc b W (evSrc src))) (hs : notSet iter = true)
    (hg : ∀ b' : Bs, b'.K = b.K → b'.g = b.g → ∀ (s : Shared) (H : Hp) (C : Addr) (cl : List (Str × Addr)) (fp : List Addr), PG (X.blk s H scope (compEnvC scope cl C X.env) fp) tg (tT b' g))
    (ht : ∀ b' : Bs, b'.K = b.K → b'.g = b.g → ∀ (s : Shared) (H : Hp) (C : Addr) (cl : List (Str × Addr)) (fp : List Addr), PTs (X.blk s H scope (compEnvC scope cl C X.env) fp) ifs (tB' b' Wf (evc c)))
    (he : ∀ b' : Bs, b'.K = b.K → b'.g = b.g → ∀ (s : Shared) (H : Hp) (C : Addr) (cl : List (Str × Addr)) (fp : List Addr), PE (X.blk s H scope (compEnvC scope cl C X.env) fp) elt (tE b' Wf (ev e))) :
    ∃ wi gg tt te, PI X tg iter wi ∧ (∀ (s : Shared) (H : Hp) (C : Addr) (cl : List (Str × Addr)) (fp : List Addr), PG (X.blk s H scope (compEnvC scope cl C X.env) fp) tg gg) ∧
      (∀ (s : Shared) (H : Hp) (C : Addr) (cl : List (Str × Addr)) (fp : List Addr), PTs (X.blk s H scope (compEnvC scope cl C X.env) fp) ifs tt) ∧
      (∀ (s : Shared) (H : Hp) (C : Addr) (cl : List (Str × Addr)) (fp : List Addr), PE (X.blk s H scope (compEnvC scope cl C X.env) fp) elt te) ∧
      ∀ σ H Q, tE b W (ev (.lc own e g src c)) σ H Q → tLc wi gg tt te (own.map (·.2)) σ H Q := by
  refine ⟨tSrc b W (evSrc src), anyG b fun b' => tT b' g, anyT b fun b' => tB' b' Wf (evc c), anyE b fun b' => tV b' Wf fun s => (ev e s).val, hi,
    fun s H C cl fp => any_g fun b' h1 h2 => hg b' h1 h2 s H C cl fp, fun s H C cl fp => any_t fun b' h1 h2 => ht b' h1 h2 s H C cl fp, fun s H C cl fp => any_e fun b' h1 h2 => snd_val (he b' h1 h2 s H C cl fp), ?_⟩
  rintro σ H Q ⟨RR, F, s, r, q⟩
  simp only [ev] at q
  refine ⟨RR, F, s, r, q.bind fun items s1 R1 F1 H1 p1 e1 r1 q1 J hJ dl hD => ?_⟩
  generalize hvs : own.map (·.2) = vs at q1 hix ⊢
  split at q1
  case isFalse => exact q1.elim
  rename_i hcond
  rw [Bool.and_eq_true] at hcond
  obtain ⟨hown, hsz⟩ := hcond
  have hsz := of_decide_eq_true hsz
  obtain ⟨L, tF, hL, q2⟩ := noex_go q1
  have lD := r1.lone hD
  -- what holds between two turns
  let Pv : Nat → Hp → Prop := fun i Hc => i ≤ items.length ∧ ∃ acc t RR2 F2 ov, R1 <+: RR2 ∧ Same F1 F2 ∧ Rel b RR2 F2 (t.hide vs) (wipe σ vs) Hc ∧ Lone b RR2 F2 (t.hide vs) (wipe σ vs) dl ∧ Hc dl = some (.lst ov) ∧ Reps b.K b.g RR2 F2 acc ov ∧ acc.length ≤ i ∧
    t.sl.length = s1.sl.length ∧ lcLoop vs (fun x s => T.asg g x s) (fun s => evc c s) (fun s => (ev e s).val) (items.drop i) acc t = .ok L tF
  have h0 : Pv 0 (upd H1 dl (.lst [])) := ⟨Nat.zero_le _, [], s1, R1, F1, [], List.prefix_refl _, Same.refl _, (r1.same (same_new hD)).hide vs, lD.hide vs, upd_same, .nil, Nat.le_refl _, rfl, hL⟩
  refine ⟨fun i m Hc => m = items.length - i ∧ Pv i Hc, ⟨_, rfl, h0⟩, ?_⟩
  rintro i m Hc ⟨rfl, hi, acc, t, R2, F2, ov, p2, e2, r2, l2, hov, hacc, hal, htl, hloop⟩
  obtain ⟨hJ1, hJ2⟩ := hJ R2 F2 Hc p2 e2 r2.fz
  by_cases hlt : i < items.length
  · obtain ⟨hgo, hyld⟩ := hJ1 i hlt
    refine .inr ⟨hgo, Pv (i + 1), fun H' p' => ⟨items.length - (i + 1), by omega, rfl, p'⟩, fun x H' hy => ?_⟩
    obtain ⟨F3, d, hd, e3, h3, u3, rd⟩ := hyld x H' hy
    have hdrop : items.drop i = d :: items.drop (i + 1) := by
      obtain ⟨h4, h5⟩ := List.getElem?_eq_some_iff.mp hd
      rw [← h5]
      exact List.drop_eq_getElem_cons h4
    rw [hdrop, lcLoop] at hloop
    cases ha : T.asg g d (t.hide vs) with
    | none => rw [ha] at hloop; cases hloop
    | some t1 =>
      rw [ha] at hloop
      simp only at hloop
      have r3 := r2.upg e3 h3 u3
      have l3 : Lone b R2 F3 (t.hide vs) (wipe σ vs) dl := by
        refine ⟨?_, l2.r, l2.h, l2.o⟩
        cases z : F3 dl with
        | none => rfl
        | some o =>
          rcases u3 dl o z with w | ⟨w, _⟩
          · rw [l2.f] at w; cases w
          · rw [hov] at w; cases w
      have hov3 : H' dl = some (.lst ov) := h3 _ _ hov
      -- the list so far is set aside
      have nf0 : b.F0 dl = none := by
        cases z : b.F0 dl with
        | none => rfl
        | some o => have w := r1.f0 _ _ z; rw [lD.f] at w; cases w
      have nr0 : dl ∉ b.R0 := fun m => lD.r (r1.pre.subset m)
      have r4 := r3.aside l3 hov3
      refine ⟨b.aside dl (.lst ov), rfl, rfl, R2, F3, t.hide vs, d, t1, r4, rd, ha, fun σ2 r5 hl5 k5 => ?_⟩
      have hw : wipe σ2 vs = wipe (wipe σ vs) vs := wipe_eq hl5 fun j hj => k5 j fun z => hj (hix j z)
      have hww : wipe (wipe σ vs) vs = wipe σ vs := wipe_eq (wipe_length _ _) fun j hj => wipe_out hj
      refine ⟨hw.trans hww, b.aside dl (.lst ov), rfl, rfl, R2, F3, t1, r5, ?_⟩
      obtain ⟨kk, t2, hc1, hloop⟩ := bind_inv hloop
      refine go_ok hc1 fun R6 F6 H6 p6 e6 r6 => ?_
      have hw2 := hw.trans hww
      have done : ∀ {R7 F7 H7 t3 acc'} {ov' : List V}, R6 <+: R7 → Same F6 F7 → Rel (b.aside dl (.lst ov)) R7 F7 t3 σ2 H7 → Reps b.K b.g R7 F7 acc' ov' → acc'.length ≤ i + 1 → (ov' = ov ∨ True) → 
          lcLoop vs (fun x s => T.asg g x s) (fun s => evc c s) (fun s => (ev e s).val) (items.drop (i + 1)) acc' t3 = .ok L tF → (∀ o, o = HO.lst ov' → Pv (i + 1) (upd H7 dl o)) ∧ (ov' = ov → Pv (i + 1) H7) ∧ H7 dl = some (.lst ov) := by
        intro R7 F7 H7 t3 acc' ov' p7 e7 r7 ra hl7 _ hl
        obtain ⟨r8, l8, h8⟩ := r7.unaside l2.h nr0 nf0
        have len7 : t3.sl.length = s1.sl.length := by
          have a1 := r8.len
          have a2 := r1.len
          rw [a1, hl5, wipe_length, ← a2]
        refine ⟨fun o ho => ?_, fun ho => ?_, h8⟩
        · subst ho
          have r9 := (r8.writeL (o := .lst ov') l8).hide vs
          rw [hw2] at r9
          have l9 := l8.hide vs
          rw [hw2] at l9
          exact ⟨hlt, acc', t3, R7, F7, ov', (p2.trans p6).trans p7, ((e2.trans e3).trans e6).trans e7, r9, l9, upd_same, ra, hl7, len7, hl⟩
        · subst ho
          have r9 := r8.hide vs
          rw [hw2] at r9
          have l9 := l8.hide vs
          rw [hw2] at l9
          exact ⟨hlt, acc', t3, R7, F7, ov', (p2.trans p6).trans p7, ((e2.trans e3).trans e6).trans e7, r9, l9, h8, ra, hl7, len7, hl⟩
      cases kk with
      | false =>
        rw [if_neg Bool.false_ne_true] at hloop
        refine iteF ?_
        exact (done (List.prefix_refl _) (Same.refl _) r6 (hacc.mono (e3.trans e6) p6) (Nat.le_succ_of_le hal) (.inl rfl) hloop).2.1 rfl
      | true =>
        rw [if_pos rfl] at hloop
        refine iteT ?_
        obtain ⟨y, t3, hy1, hloop⟩ := bind_inv hloop
        refine ⟨b.aside dl (.lst ov), rfl, rfl, R6, F6, t2, r6, go_ok hy1 fun R7 F7 H7 p7 e7 r7 w hw7 => ?_⟩
        have ra : Reps b.K b.g R7 F7 (acc ++ [y]) (ov ++ [w]) := (hacc.mono ((e3.trans e6).trans e7) (p6.trans p7)).app (.cons hw7 .nil)
        obtain ⟨d1, _, d3⟩ := done p7 e7 r7 ra (by rw [List.length_append, List.length_singleton]; omega) (.inr trivial) hloop
        refine ⟨ov, d3, ?_, d1 _ rfl⟩
        rw [← hacc.len, big_eq]
        omega
  · have ei : i = items.length := by omega
    subst ei
    refine .inl ⟨hJ2, ?_⟩
    rw [List.drop_length, lcLoop] at hloop
    cases hloop
    have noOwn : ∀ {j : Nat} {cc : Cell}, (backSl s1.sl tF.sl vs)[j]? = some (.own cc) → j ∉ vs ∧ (hideSl tF.sl vs)[j]? = some (.own cc) := fun {j cc} hx => by
      rcases backSl_get hx with ⟨h1, h2⟩ | ⟨h1, h2⟩
      · rw [← hvs] at h1
        obtain ⟨p, hp, rfl⟩ := List.mem_map.mp h1
        have := List.all_eq_true.mp hown p hp
        rw [← h2] at this
        cases this
      · exact ⟨h1, by rw [hideSl_out h1]; exact h2⟩
    have base : Rel b R2 F2 ⟨hideSl tF.sl vs, tF.st⟩ (wipe σ vs) Hc := r2
    have hf : Rel b R2 F2 ⟨backSl s1.sl tF.sl vs, tF.st⟩ σ Hc := by
      refine ⟨base.fz, base.f0, base.fn, base.keep, base.pre, base.new, base.nd, base.rf, base.stl, base.st, ?_, fun j x hx => ?_, fun j cc hx => ?_, fun j l c1 c2 a h1 h2 h3 h4 => ?_⟩
      · show (backSl s1.sl tF.sl vs).length = σ.length
        rw [backSl_len, htl]; exact r1.len
      · rcases backSl_get hx with ⟨h1, h2⟩ | ⟨h1, h2⟩
        · have h3 : s1.sl[j]? = some (.d x) := by
            rw [List.getD_eq_getElem?_getD] at h2
            cases z : s1.sl[j]? with
            | none => rw [z] at h2; cases h2
            | some w => rw [z] at h2; rw [h2]; rfl
          obtain ⟨v, g1, g2⟩ := r1.sd j x h3
          exact ⟨v, g1, g2.mono e2 p2⟩
        · have h3 : (hideSl tF.sl vs)[j]? = some (.d x) := by rw [hideSl_out h1]; exact h2
          obtain ⟨v, g1, g2⟩ := base.sd j x h3
          rw [wipe_out h1] at g1
          exact ⟨v, g1, g2⟩
      · obtain ⟨h1, h2⟩ := noOwn hx
        obtain ⟨a, g1, g2⟩ := base.so j cc h2
        rw [wipe_out h1] at g1
        exact ⟨a, g1, g2⟩
      · obtain ⟨n1, h1⟩ := noOwn h1
        obtain ⟨n2, h2⟩ := noOwn h2
        exact base.ap j l c1 c2 a h1 h2 (by rw [wipe_out n1]; exact h3) (by rw [wipe_out n2]; exact h4)
    refine q2 R2 F2 Hc p2 e2 hf _ ⟨dl, rfl, .lst hov hacc, l2.f, l2.r, l2.h, fun j cc hx hy => ?_⟩
    obtain ⟨n1, h1⟩ := noOwn hx
    exact l2.o j cc h1 (by rw [wipe_out n1]; exact hy)
theorem snd_lend {e : E} {pe : Expr} {is : List Nat} (h : ∀ b' : Bs, b'.K = b.K → b'.g = b.g → PE X pe (tE b' W (ev e))) : PE X pe (tE b W (ev (.lend is e))) := by
  refine (any_e (b := b) (t := fun b' => tE b' W (ev e)) h).weak fun σ H Q ⟨RR, F, s, r, q⟩ => ?_
  simp only [ev] at q
  split at q
  · rename_i s1 hs
    obtain ⟨F1, e1, r1⟩ := lend_rel r hs
    refine ⟨⟨b.K, b.g, H, RR, F1⟩, rfl, rfl, RR, F1, s1, r1, ?_⟩
    cases he : ev e s1 with
    | bad => rw [he] at q; exact q.elim
    | ex x t => rw [he] at q; exact q.elim
    | ok y t =>
      rw [he] at q
      cases y with
      | new c => exact q.elim
      | pl i => exact q.elim
      | d y =>
        simp only [lendD] at q
        split at q
        · rename_i hf
          rw [Bool.and_eq_true] at hf
          intro R' F' H' hp e2 r2 v hv
          exact q R' F H' hp (Same.refl _) (r.lent e1 r2 hp e2 hf.2) v (flat_lent hv hf.1)
        · exact q.elim
  · exact q.elim
theorem any_pt {e : Expr} {t : Bs → TT} (h : ∀ c : Bs, c.K = b.K → c.g = b.g → PT X e (t c)) : PT X e (anyT b t) := ⟨fun pins s σ H Q I ⟨c, h1, h2, q⟩ => (h c h1 h2).run pins s σ H Q I q⟩
theorem tst_lend {e : E} {pe : Expr} {is : List Nat} (h : ∀ b' : Bs, b'.K = b.K → b'.g = b.g → PT X pe (tB' b' W (evT e))) : PT X pe (tB' b W (evT (.lend is e))) := by
  refine (any_pt (b := b) (t := fun b' => tB' b' W (evT e)) h).weak fun σ H Q ⟨RR, F, s, r, q⟩ => ?_
  simp only [evT] at q
  split at q
  · rename_i s1 hs
    obtain ⟨F1, e1, r1⟩ := lend_rel r hs
    refine ⟨⟨b.K, b.g, H, RR, F1⟩, rfl, rfl, RR, F1, s1, r1, ?_⟩
    cases he : evT e s1 with
    | bad => rw [he] at q; exact q.elim
    | ex x t => rw [he] at q; exact q.elim
    | ok y t =>
      rw [he] at q
      simp only [lendB] at q
      split at q
      · rename_i hf
        intro R' F' H' hp e2 r2
        exact q R' F H' hp (Same.refl _) (r.lent e1 r2 hp e2 hf)
      · exact q.elim
  · exact q.elim
end
end G4

namespace G4
open PySem PySem.Spec PyProof.Rows L2
/-! ### list(zip(three lists)) -/
section
variable {P : Program} {w : World} {A : Around} {E : Value → Shared → Prop} {s : Shared} {z TI TO i1 i2 i3 l1 l2 l3 T : Addr} {xs ys zs : Array Value} {i : Nat}
/-- the three iterators at place i -/
structure Its3 (h : Heap) (TI i1 i2 i3 l1 l2 l3 : Addr) (xs ys zs : Array Value) (i : Nat) : Prop where
  ti : IsTupOf3 h TI (.ref i1) (.ref i2) (.ref i3)
  a : h.IsListIter i1 l1 i ∧ h.IsList l1 xs
  b : h.IsListIter i2 l2 i ∧ h.IsList l2 ys
  c : h.IsListIter i3 l3 i ∧ h.IsList l3 zs
abbrev Sep (z TI TO i1 i2 i3 l1 l2 l3 : Addr) : Prop := ZipSep3 z TI TO i1 i2 i3 [i1, l1] [i2, l2] [i3, l3]
theorem held_item {f : Bool} {oT : Obj} {Q : Value → Shared → Prop} {x y u : Value} (S : Sep z TI TO i1 i2 i3 l1 l2 l3) (e1 : l1 ≠ i1) (e2 : l2 ≠ i2) (e3 : l3 ≠ i3) (hz : IsZipHeld s.heap z TI TO T f) (hT : s.heap.get? T = some oT) (I : Its3 s.heap TI i1 i2 i3 l1 l2 l3 xs ys zs i)
    (hx : xs[i]? = some x) (hy : ys[i]? = some y) (hu : zs[i]? = some u)
    (q : ∀ h', IsZipHeld h' z TI TO T true → Its3 h' TI i1 i2 i3 l1 l2 l3 xs ys zs (i + 1) → IsTupOf3 h' s.heap.objs.size x y u → h'.objs.size = s.heap.objs.size + 1 →
      (∀ c o, c ≠ z → c ≠ i1 → c ≠ i2 → c ≠ i3 → s.heap.get? c = some o → h'.get? c = some o) → Q (.ref s.heap.objs.size) { s with heap := h' }) :
    wpAny (model P w) A (Builtin.«zip.__next__» ⟨[.ref z], []⟩) (fun fin s' => ∃ v, fin = .done (.ret v) ∧ Q v s') E s := by
  have nz1 : z ≠ i1 := fun e => S.zf1 (by rw [e]; simp)
  have nz2 : z ≠ i2 := fun e => S.zf2 (by rw [e]; simp)
  have nz3 : z ≠ i3 := fun e => S.zf3 (by rw [e]; simp)
  have lz1 : l1 ≠ z := fun e => S.zf1 (by rw [e]; simp)
  have lz2 : l2 ≠ z := fun e => S.zf2 (by rw [e]; simp)
  have lz3 : l3 ≠ z := fun e => S.zf3 (by rw [e]; simp)
  have n12 : i1 ≠ i2 := fun e => S.sep1_2 (by rw [e]; simp)
  have n13 : i1 ≠ i3 := fun e => S.sep1_3 (by rw [e]; simp)
  have n23 : i2 ≠ i3 := fun e => S.sep2_3 (by rw [e]; simp)
  have a21 : l2 ≠ i1 := fun e => S.sep1_2 (by rw [← e]; simp)
  have a31 : l3 ≠ i1 := fun e => S.sep1_3 (by rw [← e]; simp)
  have a32 : l3 ≠ i2 := fun e => S.sep2_3 (by rw [← e]; simp)
  have a12 : l1 ≠ i2 := fun e => S.sep2_1 (by rw [← e]; simp)
  have a13 : l1 ≠ i3 := fun e => S.sep3_1 (by rw [← e]; simp)
  have a23 : l2 ≠ i3 := fun e => S.sep3_2 (by rw [← e]; simp)
  show wpAny _ _ (field (.ref z) 2 >>= _) _ _ _
  refine wpAny_bind (wpAny_field hz rfl (x := .bool false) rfl ?_)
  show wpAny _ _ (field (.ref z) 3 >>= _) _ _ _
  refine wpAny_bind (wpAny_field hz rfl (x := .ref TI) rfl (wpAny_bind (wpAny_seqItems I.ti rfl ?_)))
  show wpAny _ _ (Builtin.SmallTypes.ownedTupleIsFree (.ref z) >>= _) _ _ _
  refine wpAny_bind (wpAny_tupleHeld_zip hz hT fun g0 z0 b0 => ?_)
  simp only [Bool.false_eq_true, if_false]
  refine wpAny_bind ?_
  rw [← Array.forIn_toList]
  simp only [List.forIn_cons, List.forIn_nil]
  have r1 := I.a.1.extBut b0.extBut (Ne.symm nz1)
  have r2 := I.b.1.extBut b0.extBut (Ne.symm nz2)
  have r3 := I.c.1.extBut b0.extBut (Ne.symm nz3)
  have k1 := I.a.2.extBut b0.extBut lz1
  have k2 := I.b.2.extBut b0.extBut lz2
  have k3 := I.c.2.extBut b0.extBut lz3
  refine wpAny_bind (wpAny_bind (wpAny_holding ?_))
  show wpAny _ _ (Builtin.SmallTypes.nextOf (.ref i1) >>= _) _ _ _
  refine wpAny_bind (wpAny_nextOf_list_item (s := { s with heap := g0 }) r1 k1 hx fun g1 d1 b1 => wpAny_pure (wpAny_pure ?_))
  refine wpAny_bind (wpAny_bind (wpAny_holding ?_))
  show wpAny _ _ (Builtin.SmallTypes.nextOf (.ref i2) >>= _) _ _ _
  refine wpAny_bind (wpAny_nextOf_list_item (s := { s with heap := g1 }) (r2.extBut b1.extBut n12.symm) (k2.extBut b1.extBut a21) hy fun g2 d2 b2 => wpAny_pure (wpAny_pure ?_))
  refine wpAny_bind (wpAny_bind (wpAny_holding ?_))
  show wpAny _ _ (Builtin.SmallTypes.nextOf (.ref i3) >>= _) _ _ _
  refine wpAny_bind (wpAny_nextOf_list_item (s := { s with heap := g2 }) ((r3.extBut b1.extBut n13.symm).extBut b2.extBut n23.symm) ((k3.extBut b1.extBut a31).extBut b2.extBut a32) hu fun g3 d3 b3 => wpAny_pure (wpAny_pure (wpAny_pure ?_)))
  show wpAny _ _ (newTuple [x, y, u] >>= _) _ _ _
  refine wpAny_bind (wpAny_newTuple (wpAny_pure ⟨_, rfl, ?_⟩))
  have size : g3.objs.size = s.heap.objs.size := by rw [b3.1, b2.1, b1.1, b0.1]
  have up : ∀ c o, c ≠ z → c ≠ i1 → c ≠ i2 → c ≠ i3 → s.heap.get? c = some o → (g3.push { cls := .type "tuple", data := .seq #[x, y, u] }).get? c = some o := fun c o c0 c1 c2 c3 e =>
    Heap.get?_push_of_some _ (b3.extBut _ _ c3 (b2.extBut _ _ c2 (b1.extBut _ _ c1 (b0.extBut _ _ c0 e))))
  have hp : IsTupOf3 (g3.push { cls := .type "tuple", data := .seq #[x, y, u] }) g3.objs.size x y u := Heap.get?_push_size _ rfl
  show Q (.ref g3.objs.size) _
  rw [size] at hp ⊢
  refine q _ (Heap.get?_push_of_some _ (b3.extBut _ _ nz3 (b2.extBut _ _ nz2 (b1.extBut _ _ nz1 z0)))) ⟨up _ _ S.TIz S.TIi1 S.TIi2 S.TIi3 I.ti, ⟨?_, ?_⟩, ⟨?_, ?_⟩, ⟨?_, ?_⟩⟩ hp (by rw [Heap.size_push, size]) up
  · exact ((d1.extBut b2.extBut n12).extBut b3.extBut n13).at fun o e => Heap.get?_push_of_some _ e
  · exact I.a.2.at fun o e => up _ _ lz1 e1 a12 a13 e
  · exact (d2.extBut b3.extBut n23).at fun o e => Heap.get?_push_of_some _ e
  · exact I.b.2.at fun o e => up _ _ lz2 a21 e2 a23 e
  · exact d3.at fun o e => Heap.get?_push_of_some _ e
  · exact I.c.2.at fun o e => up _ _ lz3 a31 a32 e3 e
theorem held_end (hh : A.handled = none) {f : Bool} {oT : Obj} {Q : Fin → Shared → Prop} (S : Sep z TI TO i1 i2 i3 l1 l2 l3) (hz : IsZipHeld s.heap z TI TO T f) (hT : s.heap.get? T = some oT) (I : Its3 s.heap TI i1 i2 i3 l1 l2 l3 xs ys zs i) (hx : xs[i]? = none)
    (q : ∀ h' e, (∀ c o, c ≠ z → c ≠ i1 → s.heap.get? c = some o → h'.get? c = some o) → (∃ o, h'.get? e = some o ∧ o.cls = .type "StopIteration") → E (.ref e) { s with heap := h' }) :
    wpAny (model P w) A (Builtin.«zip.__next__» ⟨[.ref z], []⟩) Q E s := by
  have nz1 : z ≠ i1 := fun e => S.zf1 (by rw [e]; simp)
  have lz1 : l1 ≠ z := fun e => S.zf1 (by rw [e]; simp)
  show wpAny _ _ (field (.ref z) 2 >>= _) _ _ _
  refine wpAny_bind (wpAny_field hz rfl (x := .bool false) rfl ?_)
  show wpAny _ _ (field (.ref z) 3 >>= _) _ _ _
  refine wpAny_bind (wpAny_field hz rfl (x := .ref TI) rfl (wpAny_bind (wpAny_seqItems I.ti rfl ?_)))
  show wpAny _ _ (Builtin.SmallTypes.ownedTupleIsFree (.ref z) >>= _) _ _ _
  refine wpAny_bind (wpAny_tupleHeld_zip hz hT fun g0 z0 b0 => ?_)
  simp only [Bool.false_eq_true, if_false]
  refine wpAny_bind ?_
  rw [← Array.forIn_toList]
  simp only [List.forIn_cons, List.forIn_nil]
  refine wpAny_bind (wpAny_bind (wpAny_holding ?_))
  show wpAny _ _ (Builtin.SmallTypes.nextOf (.ref i1) >>= _) _ _ _
  refine wpAny_bind (wpAny_nextOf_list_end (s := { s with heap := g0 }) hh (I.a.1.extBut b0.extBut (Ne.symm nz1)) (I.a.2.extBut b0.extBut lz1) hx fun g1 e b1 he => ?_)
  exact q g1 e (fun c o c1 c2 x => b1 _ _ c2 (b0.extBut _ _ c1 x)) he
/-- the zip, free or with its last tuple still out -/
def Zs (h : Heap) (z TI TO SS i1 i2 i3 : Addr) : Prop := (IsZip h z TI TO .none ∧ ∃ a1 a2 a3, IsTupOf3 h TO a1 a2 a3) ∨ ∃ T f oT, IsZipHeld h z TI TO T f ∧ h.get? T = some oT ∧ (∃ oO, h.get? TO = some oO) ∧ T ≠ SS ∧ T ≠ z ∧ T ≠ i1 ∧ T ≠ i2 ∧ T ≠ i3
theorem z3_item {SS : Addr} (hh : A.handled = none) {Q : Option Value → Shared → Prop} {x y u : Value} (S : Sep z TI TO i1 i2 i3 l1 l2 l3) (e1 : l1 ≠ i1) (e2 : l2 ≠ i2) (e3 : l3 ≠ i3) (st : Zs s.heap z TI TO SS i1 i2 i3) (I : Its3 s.heap TI i1 i2 i3 l1 l2 l3 xs ys zs i)
    (hx : xs[i]? = some x) (hy : ys[i]? = some y) (hu : zs[i]? = some u) (hS : SS < s.heap.objs.size)
    (q : ∀ h' tk, Zs h' z TI TO SS i1 i2 i3 → Its3 h' TI i1 i2 i3 l1 l2 l3 xs ys zs (i + 1) → IsTupOf3 h' s.heap.objs.size x y u →
      (∀ c o, c ≠ z → c ≠ TO → c ≠ i1 → c ≠ i2 → c ≠ i3 → s.heap.get? c = some o → h'.get? c = some o) → Q (some (.ref s.heap.objs.size)) { s with heap := h', toks := tk }) :
    wpAny (model P w) A (pyNext (.ref z)) Q E s := by
  have ne : s.heap.objs.size ≠ SS := Nat.ne_of_gt hS
  have no : ∀ {b : Addr} {o : Obj}, s.heap.get? b = some o → s.heap.objs.size ≠ b := fun e => Nat.ne_of_gt (Heap.lt_size e)
  have no1 : s.heap.objs.size ≠ i1 := let ⟨o, e, _⟩ := I.a.1; no e
  have no2 : s.heap.objs.size ≠ i2 := let ⟨o, e, _⟩ := I.b.1; no e
  have no3 : s.heap.objs.size ≠ i3 := let ⟨o, e, _⟩ := I.c.1; no e
  rcases st with ⟨hz, a1, a2, a3, hO⟩ | ⟨T, f, oT, hz, hT, ⟨oO, hOO⟩, hne, w0, w1, w2, w3⟩
  · have D1 := Draws.list (prog := P) (w := w) (A := A.in1) (by simp [hh]) i1 l1 e1 xs
    have D2 := Draws.list (prog := P) (w := w) (A := A.in1) (by simp [hh]) i2 l2 e2 ys
    have D3 := Draws.list (prog := P) (w := w) (A := A.in1) (by simp [hh]) i3 l3 e3 zs
    refine wpAny_pyNext_zipD3_item S D1 D2 D3 hz I.ti hO I.a I.b I.c (Array.getElem?_eq_some_iff.mp hx).1 (Array.getElem?_eq_some_iff.mp hy).1 (Array.getElem?_eq_some_iff.mp hu).1 fun x1 x2 x3 h' tk p1 p2 p3 b1 b2 d1 d2 d3 b5 b6 b7 => ?_
    have p1 : xs[i]? = some x1 := p1
    have p2 : ys[i]? = some x2 := p2
    have p3 : zs[i]? = some x3 := p3
    rw [hx] at p1; rw [hy] at p2; rw [hu] at p3
    cases p1; cases p2; cases p3
    exact q h' tk (.inr ⟨_, false, _, b1, b5, ⟨_, b2⟩, ne, no hz, no1, no2, no3⟩) ⟨b7 _ _ S.TIz S.TITO S.TIi1 S.TIi2 S.TIi3 I.ti, d1, d2, d3⟩ b5 b7
  · have typ : s.TypeIs (.ref z) "zip" := ⟨_, hz, rfl⟩
    unfold pyNext
    exact wpAny_bind (wpAny_attempt (wpAny_callSpecial?_slot (name := Str.ofString "__next__") typ F.slot_zip_next
      (wpAny_call_entry F.slot_zip_next typ F.entry_zip_next (held_item S e1 e2 e3 hz hT I hx hy hu fun h' k1 k2 k3 k4 k5 => wpAny_pure (q h' s.toks (.inr ⟨T, true, oT, k1, k5 _ _ w0 w1 w2 w3 hT, ⟨_, k5 _ _ S.TOz (fun e => S.Tf1 (by rw [e]; simp)) (fun e => S.Tf2 (by rw [e]; simp)) (fun e => S.Tf3 (by rw [e]; simp)) hOO⟩, hne, w0, w1, w2, w3⟩) k2 k3 fun c o c0 _ c1 c2 c3 e => k5 c o c0 c1 c2 c3 e)) (F.args_zip_next_1 _))))
theorem z3_end {SS : Addr} (hh : A.handled = none) {Q : Option Value → Shared → Prop} (S : Sep z TI TO i1 i2 i3 l1 l2 l3) (e1 : l1 ≠ i1) (e2 : l2 ≠ i2) (e3 : l3 ≠ i3) (st : Zs s.heap z TI TO SS i1 i2 i3) (I : Its3 s.heap TI i1 i2 i3 l1 l2 l3 xs ys zs i) (hx : i = xs.size) (hy : i = ys.size) (hu : i = zs.size)
    (q : ∀ h' tk, (∀ c o, c ≠ z → c ≠ TO → c ≠ i1 → c ≠ i2 → c ≠ i3 → s.heap.get? c = some o → h'.get? c = some o) → Q none { s with heap := h', toks := tk }) :
    wpAny (model P w) A (pyNext (.ref z)) Q E s := by
  rcases st with ⟨hz, a1, a2, a3, hO⟩ | ⟨T, f, oT, hz, hT, ⟨oO, hOO⟩, hne, w0, w1, w2, w3⟩
  · have D1 := Draws.list (prog := P) (w := w) (A := A.in1) (by simp [hh]) i1 l1 e1 xs
    have D2 := Draws.list (prog := P) (w := w) (A := A.in1) (by simp [hh]) i2 l2 e2 ys
    have D3 := Draws.list (prog := P) (w := w) (A := A.in1) (by simp [hh]) i3 l3 e3 zs
    exact wpAny_pyNext_zipD3_end S D1 D2 D3 hz I.ti hO I.a I.b I.c (Nat.le_of_eq hx) (Nat.le_of_eq hy) (Nat.le_of_eq hu) (.inl hx) q
  · have typ : s.TypeIs (.ref z) "zip" := ⟨_, hz, rfl⟩
    unfold pyNext
    refine wpAny_bind (wpAny_attempt (wpAny_callSpecial?_slot (name := Str.ofString "__next__") typ F.slot_zip_next
      (wpAny_call_entry F.slot_zip_next typ F.entry_zip_next (held_end (by simp [hh]) S hz hT I (by rw [hx]; simp) fun h' e hk he => ?_) (F.args_zip_next_1 _))))
    obtain ⟨o, ho, hc⟩ := he
    exact wpAny_bind (wpAny_isInstance (T := "StopIteration") (b := true) ⟨o, ho, hc⟩ isSubtype_stop (wpAny_pure (q _ s.toks fun c o c0 _ c1 _ _ x => hk c o c0 c1 x)))
/-- the tuples made so far -/
def Tups (h : Heap) (SS : Addr) (L : List Addr) (xs ys zs acc : Array Value) : Prop := acc.toList.Nodup ∧ ∀ (j : Nat) (v : Value), acc[j]? = some v → ∃ T x y u, v = .ref T ∧ xs[j]? = some x ∧ ys[j]? = some y ∧ zs[j]? = some u ∧ IsTupOf3 h T x y u ∧ SS < T ∧ ∀ b ∈ L, T ≠ b
theorem z3_loop {SS : Addr} {R : Result → Shared → Prop} (hh : A.handled = none) (S : Sep z TI TO i1 i2 i3 l1 l2 l3) (e1 : l1 ≠ i1) (e2 : l2 ≠ i2) (e3 : l3 ≠ i3) (h12 : xs.size = ys.size) (h13 : xs.size = zs.size) (hn : xs.size ≤ 1000) (ap : ∀ b ∈ [z, TI, TO, i1, i2, i3, l1, l2, l3], SS ≠ b) (res : Value) :
    ∀ (k i : Nat) (s : Shared) (acc : Array Value) (c : Nat), xs.size - i = k → i ≤ xs.size → Zs s.heap z TI TO SS i1 i2 i3 → Its3 s.heap TI i1 i2 i3 l1 l2 l3 xs ys zs i → s.heap.get? SS = some { cls := .type "list", dict := none, data := .seq acc c, slots := #[] } → acc.size = i → Tups s.heap SS [SS, z, TO, i1, i2, i3] xs ys zs acc →
    (∀ h' tk acc' c', h'.get? SS = some { cls := .type "list", dict := none, data := .seq acc' c', slots := #[] } → acc'.size = xs.size → Tups h' SS [SS, z, TO, i1, i2, i3] xs ys zs acc' → (∀ c o, c ≠ SS → c ≠ z → c ≠ TO → c ≠ i1 → c ≠ i2 → c ≠ i3 → s.heap.get? c = some o → h'.get? c = some o) → R (.ok (.ret res)) { s with heap := h', toks := tk }) →
    codeAny (model P w) A (.builtin "list.extend.loop" ⟨[.ref SS, .ref z, res], []⟩) R s := by
  have aSz : SS ≠ z := ap z (by simp)
  have aTI : SS ≠ TI := ap TI (by simp)
  have aTO : SS ≠ TO := ap TO (by simp)
  have a1 : SS ≠ i1 := ap i1 (by simp)
  have a2 : SS ≠ i2 := ap i2 (by simp)
  have a3 : SS ≠ i3 := ap i3 (by simp)
  have b1 : SS ≠ l1 := ap l1 (by simp)
  have b2 : SS ≠ l2 := ap l2 (by simp)
  have b3 : SS ≠ l3 := ap l3 (by simp)
  intro k
  induction k with
  | zero =>
    intro i s acc c hk hi st I hS hacc ht hR
    have ei : i = xs.size := by omega
    refine codeAny_builtin F.entry_extend_loop ?_
    rw [Around.under_plainId F.plain_extend_loop _]
    show wpAny _ A.in1 (pyNext (.ref z) >>= _) _ _ s
    refine wpAny_bind (z3_end (by simp [hh]) S e1 e2 e3 st I ei (by omega) (by omega) fun h' tk kk => wpAny_pure ?_)
    exact hR h' tk acc c (kk _ _ aSz aTO a1 a2 a3 hS) (by omega) ⟨ht.1, fun j v hj => by
      obtain ⟨T, x, y, u, q1, q2, q3, q4, q5, q7, q6⟩ := ht.2 j v hj
      exact ⟨T, x, y, u, q1, q2, q3, q4, kk _ _ (q6 z (by simp)) (q6 TO (by simp)) (q6 i1 (by simp)) (q6 i2 (by simp)) (q6 i3 (by simp)) q5, q7, q6⟩⟩ fun c o _ c0 cT c1 c2 c3 e => kk c o c0 cT c1 c2 c3 e
  | succ k ih =>
    intro i s acc c hk hi st I hS hacc ht hR
    have hlt : i < xs.size := by omega
    have x0 : xs[i]? = some xs[i] := Array.getElem?_eq_getElem hlt
    have y0 : ys[i]? = some (ys[i]'(by omega)) := Array.getElem?_eq_getElem (by omega)
    have u0 : zs[i]? = some (zs[i]'(by omega)) := Array.getElem?_eq_getElem (by omega)
    have no : ∀ {b : Addr} {o : Obj}, s.heap.get? b = some o → s.heap.objs.size ≠ b := fun e => Nat.ne_of_gt (Heap.lt_size e)
    have nz : s.heap.objs.size ≠ z := by
      rcases st with ⟨e, _⟩ | ⟨_, _, _, e, _⟩
      · exact no e
      · exact no e
    have nTO : s.heap.objs.size ≠ TO := by
      rcases st with ⟨_, _, _, _, e⟩ | ⟨_, _, _, _, _, ⟨_, e⟩, _⟩
      · exact no e
      · exact no e
    refine codeAny_builtin F.entry_extend_loop ?_
    rw [Around.under_plainId F.plain_extend_loop _]
    show wpAny _ A.in1 (pyNext (.ref z) >>= _) _ _ s
    refine wpAny_bind (z3_item (by simp [hh]) S e1 e2 e3 st I x0 y0 u0 (Heap.lt_size hS) fun h' tk st' I' tp kk => ?_)
    have hS' := kk _ _ aSz aTO a1 a2 a3 hS
    show wpAny _ A.in1 (updateSeq SS (·.push (.ref s.heap.objs.size)) >>= _) _ _ _
    refine wpAny_bind ?_
    have up : ∀ b o, b ≠ SS → h'.get? b = some o → (h'.update SS (Obj.mapSeq (·.push (.ref s.heap.objs.size)))).get? b = some o := fun b o hb e => (Heap.get?_update_other _ _ (Ne.symm hb)).trans e
    refine wpAny_updateSeq (s := { s with heap := h', toks := tk }) hS' rfl (wpAny_pure ⟨plainId_quiet F.plain_extend_loop _, ih (i + 1) _ (acc.push (.ref s.heap.objs.size)) _ (by omega) (by omega) ?_ ?_ (Heap.get?_update_self _ hS' rfl) (by rw [Array.size_push, hacc]) ?_ fun h2 tk2 acc2 c2 m1 m2 m3 m4 => ?_⟩)
      (by rw [hacc, sizeLine_eq]; omega) (by show (acc.push _).size ≤ sizeLine + 1; rw [Array.size_push, hacc, sizeLine_eq]; omega)
    · rcases st' with ⟨q1, q2⟩ | ⟨T, f, oT, q1, q2, ⟨oO, qO⟩, q3, q4⟩
      · exact .inl ⟨up _ _ (Ne.symm aSz) q1, let ⟨a, b, c, q⟩ := q2; ⟨a, b, c, up _ _ (Ne.symm aTO) q⟩⟩
      · exact .inr ⟨T, f, oT, up _ _ (Ne.symm aSz) q1, up _ _ q3 q2, ⟨oO, up _ _ (Ne.symm aTO) qO⟩, q3, q4⟩
    · exact ⟨up _ _ (Ne.symm aTI) I'.ti, ⟨I'.a.1.at fun o e => up _ _ (Ne.symm a1) e, I'.a.2.at fun o e => up _ _ (Ne.symm b1) e⟩, ⟨I'.b.1.at fun o e => up _ _ (Ne.symm a2) e, I'.b.2.at fun o e => up _ _ (Ne.symm b2) e⟩, ⟨I'.c.1.at fun o e => up _ _ (Ne.symm a3) e, I'.c.2.at fun o e => up _ _ (Ne.symm b3) e⟩⟩
    · refine ⟨?_, ?_⟩
      · rw [Array.toList_push, List.nodup_append]
        refine ⟨ht.1, by simp, fun v hv v' hv' e => ?_⟩
        rw [List.mem_singleton] at hv'
        obtain ⟨j, hj⟩ := List.mem_iff_getElem?.mp hv
        rw [Array.getElem?_toList] at hj
        obtain ⟨T, x, y, u, q1, _, _, _, q5, _⟩ := ht.2 j v hj
        rw [e, hv'] at q1
        cases q1
        exact no q5 rfl
      intro j v hj
      rw [Array.getElem?_push] at hj
      split at hj
      · rename_i ej
        cases hj
        rw [hacc] at ej
        subst ej
        refine ⟨s.heap.objs.size, _, _, _, rfl, x0, y0, u0, up _ _ (no hS) tp, Heap.lt_size hS, fun b hb => ?_⟩
        simp only [List.mem_cons, List.not_mem_nil, or_false] at hb
        rcases hb with rfl | rfl | rfl | rfl | rfl | rfl
        · exact no hS
        · exact nz
        · exact nTO
        · exact let ⟨o, e, _⟩ := I.a.1; no e
        · exact let ⟨o, e, _⟩ := I.b.1; no e
        · exact let ⟨o, e, _⟩ := I.c.1; no e
      · obtain ⟨T, x, y, u, q1, q2, q3, q4, q5, q7, q6⟩ := ht.2 j v hj
        exact ⟨T, x, y, u, q1, q2, q3, q4, up _ _ (q6 SS (by simp)) (kk _ _ (q6 z (by simp)) (q6 TO (by simp)) (q6 i1 (by simp)) (q6 i2 (by simp)) (q6 i3 (by simp)) q5), q7, q6⟩
    · exact hR h2 tk2 acc2 c2 m1 m2 m3 fun c o cS c0 cT c1 c2 c3 e => m4 c o cS c0 cT c1 c2 c3 (up _ _ cS (kk c o c0 cT c1 c2 c3 e))
theorem no_len_zip : typeLookup (.type "zip") "__len__" = pure none := by rw [typeLookup_type, builtinLookup_eq_fast]; kernel_rfl
theorem no_hint_zip : typeLookup (.type "zip") "__length_hint__" = pure none := by rw [typeLookup_type, builtinLookup_eq_fast]; kernel_rfl
theorem z3_list {Q : Value → Shared → Prop} (hh : A.handled = none) (S : Sep z TI TO i1 i2 i3 l1 l2 l3) (e1 : l1 ≠ i1) (e2 : l2 ≠ i2) (e3 : l3 ≠ i3) (h12 : xs.size = ys.size) (h13 : xs.size = zs.size) (hn : xs.size ≤ 1000)
    (hz : IsZip s.heap z TI TO .none) (hO : IsTupOf3 s.heap TO .none .none .none) (I : Its3 s.heap TI i1 i2 i3 l1 l2 l3 xs ys zs 0)
    (q : ∀ h' tk acc c, h'.get? s.heap.objs.size = some { cls := .type "list", dict := none, data := .seq acc c, slots := #[] } → acc.size = xs.size → Tups h' s.heap.objs.size [s.heap.objs.size, z, TO, i1, i2, i3] xs ys zs acc →
      (∀ c o, c ≠ z → c ≠ TO → c ≠ i1 → c ≠ i2 → c ≠ i3 → s.heap.get? c = some o → h'.get? c = some o) → Q (.ref s.heap.objs.size) { s with heap := h', toks := tk }) :
    wpAny (model P w) A (call (.type "list") [.ref z]) Q E s := by
  have no : ∀ {b : Addr} {o : Obj}, s.heap.get? b = some o → s.heap.objs.size ≠ b := fun e => Nat.ne_of_gt (Heap.lt_size e)
  have noZ := no hz
  have noTI := no I.ti
  have noTO := no hO
  have no1 : s.heap.objs.size ≠ i1 := let ⟨o, e, _⟩ := I.a.1; no e
  have no2 : s.heap.objs.size ≠ i2 := let ⟨o, e, _⟩ := I.b.1; no e
  have no3 : s.heap.objs.size ≠ i3 := let ⟨o, e, _⟩ := I.c.1; no e
  have nl1 : s.heap.objs.size ≠ l1 := let ⟨o, e, _⟩ := I.a.2; no e
  have nl2 : s.heap.objs.size ≠ l2 := let ⟨o, e, _⟩ := I.b.2; no e
  have nl3 : s.heap.objs.size ≠ l3 := let ⟨o, e, _⟩ := I.c.2; no e
  refine callType_codes (Q₁ := fun v t => v = .ref s.heap.objs.size ∧ t = { s with heap := s.heap.push { cls := .type "list", data := .seq #[] } }) F.called_list (F.typeCall_list_1 _) F.entry_list_init (code_list_new _ ⟨rfl, rfl⟩) fun v t ht => ?_
  obtain ⟨rfl, rfl⟩ := ht
  have g0 : (s.heap.push { cls := .type "list", data := .seq #[] }).get? s.heap.objs.size = some { cls := .type "list", data := .seq #[] } := Heap.get?_push_size _ rfl
  refine ⟨⟨_, g0, rfl⟩, F.args_list_init_2 _ _, ?_⟩
  show wpAny _ A.in1.in1 (do let old ← Builtin.List.listItems (.ref s.heap.objs.size); Builtin.List.listUpdate (.ref s.heap.objs.size) (fun _ => #[]); letGo old.toList.reverse; Builtin.List.listExtendWith (.ref s.heap.objs.size) (.ref z) .none) _ _ _
  refine wpAny_bind ?_
  unfold Builtin.List.listItems
  refine wpAny_bind (wpAny_seqItems g0 rfl (wpAny_pure ?_))
  show wpAny _ A.in1.in1 (updateSeq s.heap.objs.size (fun _ => #[]) >>= fun _ => letGo (#[] : Array Value).toList.reverse >>= fun _ => Builtin.List.listExtendWith (.ref s.heap.objs.size) (.ref z) .none) _ _ _
  refine wpAny_bind (wpAny_updateSeq g0 rfl (wpAny_bind (wpAny_letGo ?_)))
  have g1 := Heap.get?_update_self (Obj.mapSeq (fun _ => (#[] : Array Value))) g0 rfl
  generalize hg : (s.heap.push { cls := .type "list", data := .seq #[] }).update s.heap.objs.size (Obj.mapSeq (fun _ => (#[] : Array Value))) = hA at g1 ⊢
  have up1 : ∀ b o, s.heap.get? b = some o → hA.get? b = some o := fun b o e => by
    rw [← hg]
    exact (Heap.get?_update_other _ _ (no e)).trans (Heap.get?_push_of_some _ e)
  have typ : Shared.TypeIs { s with heap := hA } (.ref z) "zip" := ⟨_, up1 _ _ hz, rfl⟩
  unfold Builtin.List.listExtendWith
  refine wpAny_bind (wpAny_typeOf typ ?_)
  have c1 : Builtin.List.listSameRef (.ref s.heap.objs.size) (.ref z) = false := by simp [Builtin.List.listSameRef, noZ]
  have c2 : (Value.type "zip" == Value.type "list") = false := by decide
  have c3 : (Value.type "zip" == Value.type "tuple") = false := by decide
  simp only [c1, c2, c3, Bool.or_false, Bool.false_eq_true, if_false]
  refine wpAny_bind (wpAny_pyIter_zip (s := { s with heap := hA }) (up1 _ _ hz) (wpAny_bind (wpAny_holding ?_)))
  unfold Builtin.List.listLengthHint
  refine wpAny_bind (wpAny_specialOf typ no_len_zip ?_)
  show wpAny _ A.in1.in1 (specialOf (Value.ref z) (Str.ofString "__length_hint__") >>= _) _ _ _
  refine wpAny_bind (wpAny_specialOf typ no_hint_zip (wpAny_pure ?_))
  show wpAny _ A.in1.in1 (rule "list.extend.makes-room" >>= fun _ => Builtin.List.listTouch (.ref s.heap.objs.size) >>= fun _ => again (.builtin "list.extend.loop" ⟨[.ref s.heap.objs.size, .ref z, .none], []⟩)) _ _ _
  refine wpAny_bind (wpAny_rule (wpAny_bind ?_))
  show wpAny _ A.in1.in1 (updateSeq s.heap.objs.size (·.push .none) >>= fun _ => updateSeq s.heap.objs.size (·.pop)) _ _ _
  refine wpAny_bind (wpAny_updateSeq g1 rfl ?_)
  have g2 := Heap.get?_update_self (Obj.mapSeq (·.push Value.none)) g1 rfl
  refine wpAny_updateSeq (hz := by seq_fits) g2 rfl ?_
  have g3 := Heap.get?_update_self (Obj.mapSeq (·.pop)) g2 rfl
  have up2 : ∀ b o, s.heap.get? b = some o → ((hA.update s.heap.objs.size (Obj.mapSeq (·.push Value.none))).update s.heap.objs.size (Obj.mapSeq (·.pop))).get? b = some o := fun b o e =>
    (Heap.get?_update_other _ _ (no e)).trans ((Heap.get?_update_other _ _ (no e)).trans (up1 b o e))
  refine wpAny_pure ⟨plainId_quiet F.plain_extend_loop _, z3_loop (by simp [hh]) S e1 e2 e3 h12 h13 hn (fun b hb => ?_) _ _ 0 _ _ _ rfl (Nat.zero_le _) (.inl ⟨up2 _ _ hz, _, _, _, up2 _ _ hO⟩) ⟨up2 _ _ I.ti, ⟨I.a.1.at fun o e => up2 _ _ e, I.a.2.at fun o e => up2 _ _ e⟩, ⟨I.b.1.at fun o e => up2 _ _ e, I.b.2.at fun o e => up2 _ _ e⟩, ⟨I.c.1.at fun o e => up2 _ _ e, I.c.2.at fun o e => up2 _ _ e⟩⟩ g3 rfl
    ⟨by simp, fun j v hj => by simp at hj⟩ fun h' tk acc c m1 m2 m3 m4 => ⟨rfl, q h' tk acc c m1 m2 m3 fun c o c0 cT c1 c2 c3 e => m4 c o (Ne.symm (no e)) c0 cT c1 c2 c3 (up2 _ _ e)⟩⟩
  simp only [List.mem_cons, List.not_mem_nil, or_false] at hb
  rcases hb with rfl | rfl | rfl | rfl | rfl | rfl | rfl | rfl | rfl <;> assumption
end
/-! ### several objects tracked at once -/
def putO : Hp → List (Addr × HO) → Hp
  | H, [] => H
  | H, (a, o) :: l => upd (putO H l) a o
theorem putO_off {H : Hp} {b : Addr} : ∀ {l : List (Addr × HO)}, b ∉ l.map (·.1) → putO H l b = H b
  | [], _ => rfl
  | (a, o) :: l, h => by
    simp only [List.map_cons, List.mem_cons, not_or] at h
    rw [putO, upd_ne h.1, putO_off h.2]
theorem putO_cases {H : Hp} {b : Addr} {u : HO} : ∀ {l : List (Addr × HO)}, putO H l b = some u → (b, u) ∈ l ∨ (b ∉ l.map (·.1) ∧ H b = some u)
  | [], h => .inr ⟨by simp, h⟩
  | (a, o) :: l, h => by
    rw [putO] at h
    by_cases e : b = a
    · subst e
      rw [upd_same] at h
      cases h
      exact .inl (by simp)
    · rw [upd_ne e] at h
      rcases putO_cases h with q | ⟨q1, q2⟩
      · exact .inl (List.mem_cons_of_mem _ q)
      · exact .inr ⟨by simp only [List.map_cons, List.mem_cons, not_or]; exact ⟨e, q1⟩, q2⟩
theorem putO_in {H : Hp} {p : Addr × HO} : ∀ {l : List (Addr × HO)}, p ∈ l → (l.map (·.1)).Nodup → putO H l p.1 = some p.2
  | (a, o) :: l, h, nd => by
    rw [List.map_cons, List.nodup_cons] at nd
    rw [putO]
    rcases List.mem_cons.mp h with rfl | h
    · exact upd_same
    · have ne : p.1 ≠ a := fun e => nd.1 (by rw [← e]; exact List.mem_map.mpr ⟨p, h, rfl⟩)
      rw [upd_ne ne, putO_in h nd.2]
theorem putO_same {H : Hp} {l : List (Addr × HO)} (h : ∀ p ∈ l, H p.1 = none) : Same H (putO H l) := fun a o e => by
  have : a ∉ l.map (·.1) := fun m => by
    obtain ⟨p, hp, rfl⟩ := List.mem_map.mp m
    rw [h p hp] at e; cases e
  rw [putO_off this]; exact e
section
variable {X : Cx} {b : Bs} {W : WX} {k : Nat} {σ : L2.St} {RR RR' : List Addr} {F F' H H' : Hp} {s : S} {Q : VK}
theorem laid_all {pins : List (Addr × Obj)} {sh : Shared} {h' : Heap} {tk : Nat} {l : List (Addr × HO)} (I : L2.Inv X pins σ H sh) (kp : ∀ b o, sh.heap.get? b = some o → h'.get? b = some o) (hn : ∀ p ∈ l, sh.heap.objs.size ≤ p.1) (ok : ∀ p ∈ l, ∀ H2, ObjOk X.prog X.w H2 h' p.1 p.2) :
    L2.Inv X pins σ (putO H l) { sh with heap := h', toks := tk } := by
  have fresh : ∀ p ∈ l, H p.1 = none := fun p hp => I.hok.fresh (hn p hp)
  have sm : Same H (putO H l) := putO_same fresh
  refine I.call' (ch := []) rfl ⟨fun b o q _ _ _ => kp b o q, fun b o q _ _ _ => ⟨o.slots, kp b o q⟩, fun b o q n _ => ?_, fun b o q _ => ⟨o, kp b o q⟩, fun b _ q => sm b _ q, fun b _ _ q => sm b _ q, fun b ps q => ⟨#[], by rw [sm b _ q]; simp⟩⟩ (fun b u q => ?_) I.bare fun b z => by simp at z
  · have : b ∉ l.map (·.1) := fun m => by
      obtain ⟨p, hp, rfl⟩ := List.mem_map.mp m
      exact Nat.lt_irrefl _ (Nat.lt_of_lt_of_le (Heap.lt_size q) (hn p hp))
    rw [putO_off this]; exact n
  · rcases putO_cases q with q | ⟨_, q⟩
    · exact ok _ q _
    · exact (I.hok b u q).stay (fun c v _ y => kp c v y) (fun c y => sm c _ y) fun c xs y => sm c _ y
def mk3 : List Value → List V → List V → List V → List (Addr × HO)
  | .ref T :: r, a :: l, b :: m, c :: n => (T, .tup [a, b, c]) :: mk3 r l m n
  | _, _, _, _ => []
theorem mk3_all {P : Program} {w : World} {h : Heap} {SS : Addr} : ∀ (L i1 i2 i3 : List Value) (v1 v2 v3 : List V), Vals v1 i1 → Vals v2 i2 → Vals v3 i3 → L.length = v1.length → L.length = v2.length → L.length = v3.length →
    (∀ (j : Nat) (v : Value), L[j]? = some v → ∃ T x y u, v = .ref T ∧ i1[j]? = some x ∧ i2[j]? = some y ∧ i3[j]? = some u ∧ IsTupOf3 h T x y u ∧ SS < T) →
    (∀ p ∈ mk3 L v1 v2 v3, SS < p.1 ∧ ∀ H2, ObjOk P w H2 h p.1 p.2) ∧ (mk3 L v1 v2 v3).map (fun p => Value.ref p.1) = L
  | [], _, _, _, v1, v2, v3, _, _, _, _, _, _, _ => by
    have : mk3 [] v1 v2 v3 = [] := by unfold mk3; rfl
    rw [this]; exact ⟨fun p hp => by simp at hp, rfl⟩
  | x :: L, _, _, _, _, _, _, .nil, _, _, h1, _, _, _ => by simp at h1
  | x :: L, _, _, _, _, _, _, .cons _ _, .nil, _, _, h1, _, _ => by simp at h1
  | x :: L, _, _, _, _, _, _, .cons _ _, .cons _ _, .nil, _, _, h1, _ => by simp at h1
  | x :: L, _, _, _, _, _, _, .cons r1 t1, .cons r2 t2, .cons r3 t3, h1, h2, h3, hh => by
    obtain ⟨T, p, q, u, rfl, e1, e2, e3, tp, lt⟩ := hh 0 x rfl
    cases e1; cases e2; cases e3
    obtain ⟨g1, g2⟩ := mk3_all (P := P) (w := w) L _ _ _ _ _ _ t1 t2 t3 (by simpa using h1) (by simpa using h2) (by simpa using h3) fun j v hj => hh (j + 1) v hj
    refine ⟨fun p hp => ?_, by rw [mk3, List.map_cons, g2]⟩
    rw [mk3] at hp
    rcases List.mem_cons.mp hp with rfl | hp
    · exact ⟨lt, fun H2 => ⟨by show 3 ≤ sizeLine; rw [sizeLine_eq]; omega, _, .cons r1 (.cons r2 (.cons r3 .nil)), ⟨_, tp, rfl, _, rfl⟩⟩⟩
    · exact g1 p hp
theorem mk3_reps {K : PySem.W.Frag} {g : Str → Option Addr} : ∀ (L : List Value) (l m n : List D) (v1 v2 v3 : List V), Reps K g RR F l v1 → Reps K g RR F m v2 → Reps K g RR F n v3 → L.length = v1.length → L.length = v2.length → L.length = v3.length → (∀ v ∈ L, ∃ T, v = .ref T) → Same F F' →
    (∀ p ∈ mk3 L v1 v2 v3, F' p.1 = some p.2) → Reps K g RR F' (zip3D l m n) ((mk3 L v1 v2 v3).map fun p => V.ref p.1)
  | [], _, _, _, _, _, _, .nil, _, _, _, _, _, _, _, _ => by unfold zip3D mk3; exact .nil
  | [], _, _, _, _, _, _, .cons _ _, _, _, h, _, _, _, _, _ => by simp at h
  | _ :: _, _, _, _, _, _, _, .nil, _, _, h, _, _, _, _, _ => by simp at h
  | _ :: _, _, _, _, _, _, _, .cons _ _, .nil, _, _, h, _, _, _, _ => by simp at h
  | _ :: _, _, _, _, _, _, _, .cons _ _, .cons _ _, .nil, _, _, h, _, _, _ => by simp at h
  | x :: L, _, _, _, _, _, _, .cons r1 t1, .cons r2 t2, .cons r3 t3, h1, h2, h3, hr, sm, hF => by
    obtain ⟨T, rfl⟩ := hr x List.mem_cons_self
    rw [mk3] at hF
    rw [zip3D, mk3, List.map_cons]
    refine .cons (.tup (.inl (.inl (hF _ List.mem_cons_self))) (.cons (r1.mono sm (List.prefix_refl _)) (.cons (r2.mono sm (List.prefix_refl _)) (.cons (r3.mono sm (List.prefix_refl _)) .nil)))) ?_
    exact mk3_reps L _ _ _ _ _ _ t1 t2 t3 (by simpa using h1) (by simpa using h2) (by simpa using h3) (fun v hv => hr v (List.mem_cons_of_mem _ hv)) sm fun p hp => hF p (List.mem_cons_of_mem _ hp)
/-- what the three arguments are -/
def Args3 (b : Bs) (W : WX) (σ : L2.St) (Q : VK) : List V → Hp → Prop := fun vs H => ∃ R F s l m n a1 a2 a3 v1 v2 v3, vs = [.ref a1, .ref a2, .ref a3] ∧ Rel b R F s σ H ∧ F a1 = some (.lst v1) ∧ F a2 = some (.lst v2) ∧ F a3 = some (.lst v3) ∧
  Reps b.K b.g R F l v1 ∧ Reps b.K b.g R F m v2 ∧ Reps b.K b.g R F n v3 ∧ l.length = m.length ∧ l.length = n.length ∧ l.length ≤ 1000 ∧ Go b W σ R F (.ok (.new (.lst (zip3D l m n))) s) fun r s' RR' F' H' => ∀ v, RRel b RR' F' s' σ H' r v → Q v H'
theorem snd_zip3 {e f g : Expr} {a c d : E} {p p2 p3 pos : Pos} (A : Amb X b k) (gl : Gl X "list") (hm : X.mg "list" = none) (gl2 : Gl X "zip") (hm2 : X.mg "zip" = none) (ha : PE X e (tE b W (ev a))) (hc : PE X f (tE b W (ev c))) (hd : PE X g (tE b W (ev d)))
    (hs : notStar e = true) (ht : notStar f = true) (hu : notStar g = true) :
    PE X (.Call (.Name "list" p) [.Call (.Name "zip" p2) [e, f, g] [] p3] [] pos) (tE b W (ev (.zip3 a c d))) := by
  have pa := pa_cons (snd_val ha) (pa_cons (snd_val hc) (pa_cons (snd_val hd) pa_nil (star_cons hu)) (star_cons ht)) (star_cons hs)
  refine ⟨fun pins s σ H Q I ⟨RR, F, s0, r, q⟩ => ?_⟩
  simp only [ev] at q
  refine wpAny_Call_Name_kw (ld_blt I gl hm (Bi.boot .list) ?_ (by decide) (by decide))
  refine PyProof.Rows.callWith_type1 (PyProof.Rows.args_cons ?_ rfl) rfl rfl
  refine wpAny_Call_Name_kw (ld_blt I gl2 hm2 (u := .type "zip") (by decide +kernel) ?_ (by decide) (by decide))
  refine PyProof.Rows.callWith_type1 (thn (pa.run p3 pins s σ H (Args3 b W σ Q) I ?_) fun us s1 ⟨vs, H1, I1, rv, q1⟩ => ?_) (star_cons hs) (star_any _ (by simp [ht, hu]))
  · refine ⟨RR, F, s0, r, q.bind fun x s1 R1 F1 H1 p1 e1 r1 q1 v hv => ?_⟩
    refine ⟨R1, F1, s1, r1, q1.bind fun y s2 R2 F2 H2 p2 e2 r2 q2 u hu2 => ?_⟩
    refine ⟨R2, F2, s2, r2, q2.bind fun z s3 R3 F3 H3 p3 e3 r3 q3 t ht2 => ?_⟩
    have hv3 := (hv.mono e2 p2).mono e3 p3
    have hu3 := hu2.mono e3 p3
    split at q3
    · split at q3
      · rename_i hl
        cases hv3 with
        | lst f1 k1 =>
          cases hu3 with
          | lst f2 k2 =>
            cases ht2 with
            | lst f3 k3 => exact ⟨R3, F3, s3, _, _, _, _, _, _, _, _, _, rfl, r3, f1, f2, f3, k1, k2, k3, hl.1, hl.2.1, hl.2.2, q3⟩
      · exact q3.elim
    · exact q3.elim
  · obtain ⟨R, F1, s2, l, m, n, a1, a2, a3, v1, v2, v3, rfl, r1, f1, f2, f3, k1, k2, k3, h12, h13, hl, q2⟩ := q1
    obtain ⟨i1, t1, pl1, z1⟩ := I1.list (.inl (.inl (r1.fz _ _ f1)))
    obtain ⟨i2, t2, pl2, z2⟩ := I1.list (.inl (.inl (r1.fz _ _ f2)))
    obtain ⟨i3, t3, pl3, z3⟩ := I1.list (.inl (.inl (r1.fz _ _ f3)))
    have hus : us = [.ref a1, .ref a2, .ref a3] := by
      cases rv with
      | cons b1 rv => cases rv with
        | cons b2 rv => cases rv with
          | cons b3 rv => cases rv; cases b1; cases b2; cases b3; rfl
    subst hus
    have lt : ∀ {a : Addr} {items : Array Value}, s1.heap.IsList a items → ∀ b ∈ [a], b < s1.heap.objs.size := fun h b hb => by
      rw [List.mem_singleton.mp hb]; obtain ⟨o, e, _⟩ := h; exact Heap.lt_size e
    refine zip_begins3 (begins_list a1 i1.toArray) (begins_list a2 i2.toArray) (begins_list a3 i3.toArray) pl1.isList pl2.isList pl3.isList fun h1 hz hTI hTO g1 g2 g3 hsz kp => PyProof.Rows.args_nil ?_
    have S := zip_sep3 (lt pl1.isList) (lt pl2.isList) (lt pl3.isList)
    have sz1 : i1.toArray.size = l.length := by rw [List.size_toArray, ← t1.length, k1.len]
    have sz2 : i2.toArray.size = m.length := by rw [List.size_toArray, ← t2.length, k2.len]
    have sz3 : i3.toArray.size = n.length := by rw [List.size_toArray, ← t3.length, k3.len]
    have al1 := lt pl1.isList a1 (by simp)
    have al2 := lt pl2.isList a2 (by simp)
    have al3 := lt pl3.isList a3 (by simp)
    refine z3_list (s := { s1 with heap := h1 }) (I1.ok.hd A.calm) S (Nat.ne_of_lt al1) (Nat.ne_of_lt (Nat.lt_succ_of_lt al2)) (Nat.ne_of_lt (Nat.lt_succ_of_lt (Nat.lt_succ_of_lt al3))) (by rw [sz1, sz2, h12]) (by rw [sz1, sz3, h13]) (by rw [sz1]; exact hl) hz hTO
      ⟨hTI, ⟨⟨_, g1, rfl, rfl⟩, pl1.isList.at fun o e => kp _ _ e⟩, ⟨⟨_, g2, rfl, rfl⟩, pl2.isList.at fun o e => kp _ _ e⟩, ⟨⟨_, g3, rfl, rfl⟩, pl3.isList.at fun o e => kp _ _ e⟩⟩ fun h2 tk acc cc hL hn hT kp2 => ?_
    have hsz1 : s1.heap.objs.size ≤ h1.objs.size := by rw [hsz]; omega
    have kp3 : ∀ c o, s1.heap.get? c = some o → h2.get? c = some o := fun c o e => by
      have lc := Heap.lt_size e
      have ne : ∀ j : Nat, c ≠ s1.heap.objs.size + j := fun j => Nat.ne_of_lt (Nat.lt_of_lt_of_le lc (Nat.le_add_right _ _))
      exact kp2 c o (ne 5) (ne 4) (ne 0) (ne 1) (ne 2) (kp c o e)
    have ll1 : acc.toList.length = v1.length := by rw [Array.length_toList, hn, sz1, k1.len]
    have ll2 : acc.toList.length = v2.length := by rw [Array.length_toList, hn, sz1, h12, k2.len]
    have ll3 : acc.toList.length = v3.length := by rw [Array.length_toList, hn, sz1, h13, k3.len]
    obtain ⟨m1, m2⟩ := mk3_all (P := X.prog) (w := X.w) (h := h2) (SS := h1.objs.size) acc.toList i1 i2 i3 v1 v2 v3 t1 t2 t3 ll1 ll2 ll3 fun j v hj => by
      rw [Array.getElem?_toList] at hj
      obtain ⟨T, x, y, u, w1, w2, w3, w4, w5, w6, _⟩ := hT.2 j v hj
      exact ⟨T, x, y, u, w1, by simpa using w2, by simpa using w3, by simpa using w4, w5, w6⟩
    have ndA : ((mk3 acc.toList v1 v2 v3).map (·.1)).Nodup := by
      have h := hT.1
      rw [← m2] at h
      have e : (mk3 acc.toList v1 v2 v3).map (fun p => Value.ref p.1) = ((mk3 acc.toList v1 v2 v3).map (·.1)).map Value.ref := by rw [List.map_map]; rfl
      rw [e] at h
      exact List.Pairwise.of_map Value.ref (fun a b h e => h (by rw [e])) h
    have refs : ∀ v ∈ acc.toList, ∃ T, v = .ref T := fun v hv => by
      obtain ⟨j, hj⟩ := List.mem_iff_getElem?.mp hv
      rw [Array.getElem?_toList] at hj
      obtain ⟨T, _, _, _, w1, _⟩ := hT.2 j v hj
      exact ⟨T, w1⟩
    have vrefs : Vals ((mk3 acc.toList v1 v2 v3).map fun p => V.ref p.1) acc.toList := by
      have : ∀ l : List (Addr × HO), Vals (l.map fun p => V.ref p.1) (l.map fun p => Value.ref p.1) := fun l => by
        induction l with
        | nil => exact .nil
        | cons p l ih => exact .cons rfl ih
      have h := this (mk3 acc.toList v1 v2 v3)
      rw [m2] at h; exact h
    generalize hL3 : mk3 acc.toList v1 v2 v3 = L3 at *
    have big1 : ∀ p ∈ (h1.objs.size, HO.lst (L3.map fun p => V.ref p.1)) :: L3, s1.heap.objs.size ≤ p.1 := fun p hp => by
      rcases List.mem_cons.mp hp with rfl | hp
      · exact hsz1
      · exact Nat.le_of_lt (Nat.lt_of_le_of_lt hsz1 (m1 p hp).1)
    have I2 := laid_all (tk := tk) (l := (h1.objs.size, HO.lst (L3.map fun p => V.ref p.1)) :: L3) I1 kp3 big1 fun p hp H2 => by
      rcases List.mem_cons.mp hp with rfl | hp
      · refine ⟨?_, acc.toList, cc, vrefs, by rw [Array.toArray_toList]; exact hL⟩
        rw [vrefs.length, ll1, ← k1.len, sizeLine_eq]; omega
      · exact (m1 p hp).2 H2
    refine ⟨.ref h1.objs.size, _, I2, rfl, ?_⟩
    have frH : ∀ p ∈ L3, H1 p.1 = none := fun p hp => I1.hok.fresh (big1 p (List.mem_cons_of_mem _ hp))
    have frF : ∀ p ∈ L3, F1 p.1 = none := fun p hp => by
      cases z : F1 p.1 with
      | none => rfl
      | some o => have := r1.fz _ _ z; rw [frH p hp] at this; cases this
    have smF : Same F1 (putO F1 L3) := putO_same frF
    have r2 : Rel b R (putO F1 L3) s2 σ (putO H1 L3) := r1.upg smF (putO_same frH) fun a o q => by
      rcases putO_cases q with q | ⟨_, q⟩
      · exact .inr ⟨frH _ q, putO_in q ndA⟩
      · exact .inl q
    have hp0 : putO H1 L3 h1.objs.size = none := by
      rw [putO_off]
      · exact I1.hok.fresh hsz1
      · intro mm
        obtain ⟨p, hp, e⟩ := List.mem_map.mp mm
        have := (m1 p hp).1
        rw [show p.1 = h1.objs.size from e] at this
        exact Nat.lt_irrefl _ this
    have reps : Reps b.K b.g R (putO F1 L3) (zip3D l m n) (L3.map fun p => V.ref p.1) := by
      have := mk3_reps (F' := putO F1 L3) acc.toList l m n v1 v2 v3 k1 k2 k3 ll1 ll2 ll3 refs smF (by rw [hL3]; exact fun p hp => putO_in hp ndA)
      rw [hL3] at this; exact this
    exact (res_ok (q2.up (List.prefix_refl _) smF) r2 fun i z => by cases z).lst reps _ hp0
end
end G4

namespace G4
open PySem PySem.Spec PyProof.Rows L2
/-! ### set(a list of ints) -/
section
variable {P : Program} {w : World} {A : Around} {E : Value → Shared → Prop}
/-- a set just made -/
def freshSet (w : World) : Obj := { cls := .type "set", dict := none, data := .set #[] 0 (.fresh 0 0 (!w.params.followText "set-order")) }
/-- its start from a list -/
theorem set_start {t : Shared} {S l : Addr} {items : Array Value} (ns : List Int) {R : Value → Shared → Prop} (hA : A.handled = none) (hS : t.heap.get? S = some (freshSet w)) (hl : t.heap.IsList l items) (hn : l ≠ S) (hi : IntsAre items.toList ns) (hb : ns.length + 1 < scanBound)
    (q : ∀ (h' : Heap) (tk c : Nat), SetR w h' S (fun j => decide (j ∈ ns)) c → c ≤ ns.length → (∀ b o, b ≠ S → t.heap.get? b = some o → h'.get? b = some o) → R .none { t with heap := h', toks := tk }) :
    codeAny (model P w) A (.call (.builtin "set.__init__") ⟨[.ref S, .ref l], []⟩) (wants R E) t := by
  have size : items.size = ns.length := by
    have := IntsAre.length hi
    rwa [Array.length_toList] at this
  have typ : t.TypeIs (.ref S) "set" := ⟨_, hS, rfl⟩
  refine codeAny_call_builtin (R := wants R E) F.called_set.init.plain F.entry_set_init (check_set_init_1 typ ?_)
  obtain ⟨⟨k1, k2, k3, k4⟩, hol, hcl, nl, hdl⟩ := hl
  simp only at hcl hdl
  subst hcl hdl
  have z1 := F.sub_list_set
  have z2 := F.sub_list_frozenset
  have z3 : (Value.type "list" == Value.type "dict") = false := by decide
  have isl : t.heap.IsList l items := ⟨_, hol, rfl, nl, rfl⟩
  unfold Builtin.«set.__init__» noKeywords Builtin.Frozenset.updateFrom
  generalize hPI : pyIter = PI
  wp_walk
  subst hPI
  refine wpAny_pyIter_list isl (wpAny_bind (wpAny_runValue ?_))
  have lS := Heap.lt_size hS
  have ll := Heap.lt_size hol
  have out : S ∉ [t.heap.objs.size, l] := by
    simp only [List.mem_cons, List.not_mem_nil, or_false, not_or]
    exact ⟨Nat.ne_of_lt lS, Ne.symm hn⟩
  have val : ∀ (i : Nat) (v : Value), items[i]? = some v → ∃ k u, ns[i]? = some k ∧ v = .int k u := fun i v hv => by
    have lt : i < ns.length := by rw [← size]; exact (Array.getElem?_eq_some_iff.mp hv).1
    obtain ⟨u, e⟩ := IntsAre.int_at hi i v (by rw [Array.getElem?_toList]; exact hv)
    exact ⟨ns[i], u, List.getElem?_eq_getElem lt, by rw [e, List.getD_eq_getElem?_getD, List.getElem?_eq_getElem lt]; rfl⟩
  refine set_update_ints ((Walks.list (by simp [hA]) _ l (Nat.ne_of_lt ll) items).toS) S out ns size hb val _ 0 _ rfl (Nat.zero_le _) ⟨⟨_, Heap.get?_push_size _ rfl, rfl, rfl⟩, isl.push _⟩ ⟨0, Nat.le_refl 0, setR_new_at (Heap.get?_push_of_some _ hS)⟩ fun s' c hm hc hR => ?_
  obtain ⟨h', g2, d2, tk, os2⟩ := s'
  obtain rfl : g2 = t.gens := hm.gens
  obtain rfl : d2 = t.drawn := hm.drawn
  obtain rfl : os2 = t.os := hm.os
  refine wpAny_pure (wpAny_pure ?_)
  refine q h' tk c hR (size ▸ hc) fun b o nb e => hm.heap b o ?_ (Heap.get?_push_of_some _ e)
  simp only [List.mem_cons, List.not_mem_nil, or_false, not_or]
  exact ⟨nb, Nat.ne_of_lt (Heap.lt_size e)⟩
theorem call_setL {s : Shared} {l : Addr} {items : Array Value} (ns : List Int) {Q : Value → Shared → Prop} (hA : A.handled = none) (hl : s.heap.IsList l items) (hi : IntsAre items.toList ns) (hb : ns.length + 1 < scanBound)
    (q : ∀ (h' : Heap) (tk c : Nat), SetR w h' s.heap.objs.size (fun j => decide (j ∈ ns)) c → c ≤ ns.length → (∀ b o, s.heap.get? b = some o → h'.get? b = some o) → Q (.ref s.heap.objs.size) { s with heap := h', toks := tk }) :
    wpAny (model P w) A (call (.type "set") [.ref l]) Q E s := by
  obtain ⟨_, _, mro⟩ := F.called_set.mro
  have f1 := F.called_set.made
  have f2 := F.called_set.sub
  have f3 := F.called_set.notType
  have f4 := F.called_set.canCreate
  have f5 := F.typeCall_set_1 (.ref l)
  refine wpAny_call (codeAny_of_tree ?_)
  show wpAny _ _ (callAny (.type "set") _) _ _ _
  refine wpAny_pure ⟨Code.quiet_builtin _ (by decide +kernel), codeAny_builtin F.entry_type_call ?_⟩
  rw [Around.under_plain (weight_type_call_type "set" [.ref l] []) rfl]
  repeat (any_goals (first | assumption | wp_step))
  refine codeAny_mono (code_set_led1 (.ref l) (E := E) (Q₁ := fun v t => v = .ref s.heap.objs.size ∧ t = { s with heap := s.heap.push (freshSet w) }) ⟨rfl, rfl⟩) fun r t hr => ?_
  cases r with
  | error e => exact hr
  | ok fl =>
    cases fl with
    | next => exact hr.elim
    | brk => exact hr.elim
    | cont => exact hr.elim
    | ret v =>
      obtain ⟨rfl, rfl⟩ := hr
      have hS : (s.heap.push (freshSet w)).get? s.heap.objs.size = some (freshSet w) := Heap.get?_push_size _ rfl
      have typ : Shared.TypeIs { s with heap := s.heap.push (freshSet w) } (.ref s.heap.objs.size) "set" := ⟨_, hS, rfl⟩
      have f6 := F.called_set.init.lookup
      have f7 := F.called_set.init.bind (.ref s.heap.objs.size)
      repeat (any_goals (first | assumption | wp_step))
      obtain ⟨ol, hol, _⟩ := id hl
      have ne : l ≠ s.heap.objs.size := Nat.ne_of_lt (Heap.lt_size hol)
      refine codeAny_mono (set_start (E := E) (t := { s with heap := s.heap.push (freshSet w) }) ns (R := fun v t => v = .none ∧ ∃ h' tk c, t = { s with heap := h', toks := tk } ∧ SetR w h' s.heap.objs.size (fun j => decide (j ∈ ns)) c ∧ c ≤ ns.length ∧ ∀ b o, s.heap.get? b = some o → h'.get? b = some o)
        (by simp [hA]) hS (hl.push _) ne hi hb fun h' tk c a1 a2 a3 => ⟨rfl, h', tk, c, rfl, a1, a2, fun b o e => a3 b o (Nat.ne_of_lt (Heap.lt_size e)) (Heap.get?_push_of_some _ e)⟩) fun r2 t2 h2 => ?_
      cases r2 with
      | error e => exact h2
      | ok fl2 =>
        cases fl2 with
        | next => exact h2.elim
        | brk => exact h2.elim
        | cont => exact h2.elim
        | ret r =>
          obtain ⟨rfl, h', tk, c, rfl, a1, a2, a3⟩ := h2
          repeat (any_goals (first | assumption | wp_step))
          exact q _ _ _ a1 a2 a3
end
/-! ### list(range(a, b, -1)) -/
theorem rangeSize_down (a b : Int) : Builtin.Range.rangeSize a b (-1) = ((a - b).toNat : Int) := by
  unfold Builtin.Range.rangeSize
  rw [if_neg (by decide)]
  split
  · rw [show (-(-1 : Int)) = 1 from rfl, Int.ediv_one]; omega
  · omega
theorem small_down {a b : Int} (ha : -(2 ^ 61) ≤ a) (ha' : a < 2 ^ 61) (hb : -(2 ^ 61) ≤ b) (hb' : b < 2 ^ 61) : Builtin.Range.small a b (-1) = true := by
  unfold Builtin.Range.small
  rw [rangeSize_down]
  simp only [Builtin.Range.rangeFitsLong, Bool.and_eq_true, Bool.or_eq_true, decide_eq_true_eq, beq_iff_eq, show ¬ (-1 : Int) > 0 by decide, if_false]
  omega
def downV (a b : Int) : List V := (List.range (a - b).toNat).map fun i => V.int (a - (i : Nat))
theorem vals_down {a b : Int} {acc : Array Value} (h : ItemsOf (fun i v => ∃ t, v = .int (a + i * (-1)) t) acc (a - b).toNat) : Vals (downV a b) acc.toList := by
  have e : acc.toList.length = (a - b).toNat := by rw [Array.length_toList]; exact h.1
  unfold downV
  rw [← e]
  refine vals_of_get acc.toList _ fun j u hj => ?_
  obtain ⟨t, rfl⟩ := h.2 j u (by rw [← hj, Array.getElem?_toList])
  exact ⟨t, by congr 1; omega⟩
section
variable {X : Cx} {a b c : Expr} {ta : TA}
def tDown (ta : TA) : TE := fun σ H Q => ta σ H fun vs H1 => ∃ i j : Int, vs = [.int i, .int j, .int (-1)] ∧ (-(2 ^ 61) ≤ i ∧ i < 2 ^ 61 ∧ -(2 ^ 61) ≤ j ∧ j < 2 ^ 61 ∧ (i - j).toNat ≤ 2 ^ 24) ∧ ∀ q, H1 q = none → Q (.ref q) (upd H1 q (.lst (downV i j)))
theorem pe_listDown {p p2 p3 pos : Pos} (hc : X.calm = true) (hg : Gl X "list") (hm : X.mg "list" = none) (hg2 : Gl X "range") (hm2 : X.mg "range" = none) (ha : PA X [a, b, c] ta)
    (hs : starEach [a, b, c] X.env = (false, eval a X.env) :: starEach [b, c] X.env := by rfl) (hpl : (backTo p3 (starEach [b, c] X.env)).any (·.1) = false := by rfl)
    (na : starEach [.Call (.Name "range" p2) [a, b, c] [] p3] X.env = (false, eval (.Call (.Name "range" p2) [a, b, c] [] p3) X.env) :: starEach [] X.env := by rfl) :
    PE X (.Call (.Name "list" p) [.Call (.Name "range" p2) [a, b, c] [] p3] [] pos) (tDown ta) := by
  refine ⟨fun pins s σ H Q I h => ?_⟩
  refine Call_ (ld_blt I hg hm boot_list (PyProof.Rows.callWith_type1 (args_cons (thn (Q := fun x s' => ∃ r i j t u v H', x = .ref r ∧ IsRange s'.heap r i j (-1) t u v ∧ Inv X pins σ H' s' ∧ (-(2 ^ 61) ≤ i ∧ i < 2 ^ 61 ∧ -(2 ^ 61) ≤ j ∧ j < 2 ^ 61 ∧ (i - j).toNat ≤ 2 ^ 24) ∧ ∀ q, H' q = none → Q (.ref q) (upd H' q (.lst (downV i j)))) ?_ fun x s1 ⟨r, i, j, t, u, v, H1, ex, hr, I1, ok, q⟩ => args_nil ?_) na) na))
  · refine Call_ (ld_blt I hg2 hm2 boot_range (PyProof.Rows.callWith_type1 (thn (ha.run p3 pins s σ H _ I h) fun us s1 ⟨vs, H1, I1, r1, q1⟩ => ?_) hs hpl))
    obtain ⟨i, j, e, ok, q⟩ := q1
    subst e
    cases r1 with
    | cons r rr =>
      cases rr with
      | cons r' rr =>
        cases rr with
        | cons r'' rr =>
          cases rr
          obtain ⟨t, rfl⟩ := r
          obtain ⟨t', rfl⟩ := r'
          obtain ⟨t'', rfl⟩ := r''
          refine call_range_3 (by decide) ?_ (.inl (PyProof.noPylong_small (by decide)))
          exact ⟨_, i, j, _, _, _, H1, rfl, IsRange.new _ _ _ _ _ _ _, I1.kept (t' := s1.toks) fun b u e => Heap.get?_push_of_some _ e, ok, q⟩
  · subst ex
    obtain ⟨b1, b2, b3, b4, b5⟩ := ok
    refine call_list_range (n := (i - j).toNat) (I1.ok.hd hc) hr (small_down b1 b2 b3 b4) (rangeSize_down i j) b5 fun h' tk acc c' hk e' hi => ?_
    refine ⟨.ref s1.heap.objs.size, upd H1 s1.heap.objs.size (.lst (downV i j)), I1.laid hk (Nat.le_refl _) (show ObjOk X.prog X.w _ _ _ (.lst (downV i j)) from ⟨?_, acc.toList, c', vals_down hi, ?_⟩), rfl, q _ (I1.hok.fresh (Nat.le_refl _))⟩
    · unfold downV
      rw [List.length_map, List.length_range, sizeLine_eq]; omega
    · rw [Array.toArray_toList]; exact e'
end
theorem log61 {i : Int} (h : i.natAbs.log2 < 61) : -(2 ^ 61) ≤ i ∧ i < 2 ^ 61 := by
  by_cases z : i.natAbs = 0
  · omega
  · have := (Nat.log2_lt z).mp h
    omega
section
variable {X : Cx} {b : Bs} {W : WX} {k : Nat} {σ : L2.St} {RR RR' : List Addr} {F F' H H' : Hp} {s : S} {Q : VK}
theorem dd_mem {a : Int} : ∀ l : List Int, a ∈ dd l ↔ a ∈ l
  | [] => Iff.rfl
  | c :: l => by
    rw [dd]
    split
    · rename_i h
      rw [dd_mem l, List.mem_cons]
      exact ⟨.inr, fun z => z.elim (fun e => e ▸ h) id⟩
    · rw [List.mem_cons, List.mem_cons, dd_mem l]
theorem dd_nodup : ∀ l : List Int, (dd l).Nodup
  | [] => List.nodup_nil
  | c :: l => by
    rw [dd]
    split
    · exact dd_nodup l
    · rename_i h
      exact List.nodup_cons.mpr ⟨fun z => h ((dd_mem l).mp z), dd_nodup l⟩
theorem dd_len : ∀ l : List Int, (dd l).length ≤ l.length
  | [] => Nat.le_refl _
  | c :: l => by
    have := dd_len l
    rw [dd]
    split <;> simp only [List.length_cons] <;> omega
theorem setR_dd {w : World} {h : Heap} {a : Addr} {ns : List Int} {c : Nat} (R : SetR w h a (fun j => decide (j ∈ ns)) c) : c = (dd ns).length := by
  obtain ⟨o, es, ep, t, ho, hx, hd, g, nd, hm, hb, hf, hn, _⟩ := R
  have p := (List.perm_ext_iff_of_nodup nd (dd_nodup ns)).mpr fun a => by rw [← hm, decide_eq_true_eq, dd_mem]
  have := p.length_eq
  rw [List.length_map, Array.length_toList] at this
  omega
def rSetL (X : Cx) : List V → Hp → VK → Prop := fun xs H Q => ∃ (l : Addr) (ns : List Int), xs = [.ref l] ∧ SqL X.K H l (ns.map V.int) ∧ ns.length < 4000 ∧ ∀ p c, H p = none → c = (dd ns).length → Q (.ref p) (upd H p (SetO X.w p (fun j => decide (j ∈ ns)) c))
theorem cr_setL (hc : X.calm = true) : CallR X (.type "set") (rSetL X) := by
  intro pins s σ H xs us Q I r h
  obtain ⟨l, ns, rfl, hl, h64, q⟩ := h
  rw [Vals.ref1 r]
  obtain ⟨its, rv, pl, hz⟩ := I.list hl
  refine call_setL ns (I.ok.hd hc) pl.isList (by simpa using RZ.intsAre_vals rv) (by unfold scanBound; omega) fun h' tk c R hcl kk => ?_
  exact ⟨.ref _, _, I.laid (t' := tk) kk (Nat.le_refl _) (setO_new R), rfl, q _ c (I.hok.fresh (Nat.le_refl _)) (setR_dd R)⟩
theorem isort_strict {ns m : List Int} (h1 : m.Pairwise (· < ·)) (h2 : ∀ k : Int, k ∈ m ↔ decide (k ∈ ns) = true) : m = isort (dd ns) := by
  refine isort_only ?_ (h1.imp fun q => Int.le_of_lt q)
  refine (List.perm_ext_iff_of_nodup (h1.imp fun q => Int.ne_of_lt q) (dd_nodup ns)).mpr fun a => ?_
  rw [h2, dd_mem, decide_eq_true_eq]
theorem snd_sset {e : Expr} {a : E} {p p2 p3 pos : Pos} (A : Amb X b k) (gl : Gl X "sorted") (hm : X.mg "sorted" = none) (gl2 : Gl X "set") (hm2 : X.mg "set" = none) (ha : PE X e (tE b W (ev a))) (hs : notStar e = true) :
    PE X (.Call (.Name "sorted" p) [.Call (.Name "set" p2) [e] [] p3] [] pos) (tE b W (ev (.sset a))) := by
  have inner := pe_callTy (pos := p3) (p := p2) (cr_setL (X := X) A.calm) gl2 hm2 (by exact Bi.boot .set) (pa_cons (snd_opd ha) pa_nil (star_cons hs)) (by decide) (by decide) (star_cons hs) rfl
  refine (pe_callB (cr_sortedSet (X := X) A.calm) gl hm (by exact Bi.boot .sorted) (pa_cons inner pa_nil rfl) (by decide) (by decide) rfl rfl).weak fun σ H Q ⟨RR, F, s, r, q⟩ => ?_
  simp only [ev] at q
  refine ⟨RR, F, s, r, (settled q).imp fun x s1 R1 F1 H1 p1 e1 r1 ⟨n1, q1⟩ v hv => ?_⟩
  obtain ⟨res, h1, q1⟩ := q1.opt
  cases h2 : s1.rd x with
  | none => rw [h2] at h1; cases h1
  | some y =>
    rw [h2, Option.bind_some] at h1
    have hw := vw_of r1 hv h2
    have key : ∃ (l : List D) (ns : List Int), y = .lst l ∧ intsD l = some ns ∧ ns.length < 4000 ∧ (dd ns).length < 64 ∧ res = .new (.lst ((isort (dd ns)).map .int)) := by
      unfold ssetD at h1
      split at h1
      · rename_i l
        split at h1
        · rename_i ns hns
          split at h1
          · rename_i hlen
            cases h1
            exact ⟨l, ns, rfl, hns, by omega, Nat.lt_of_le_of_lt (dd_len ns) hlen, rfl⟩
          · split at h1
            · rename_i hlen
              cases h1
              rw [Bool.and_eq_true, decide_eq_true_eq, decide_eq_true_eq] at hlen
              exact ⟨l, ns, rfl, hns, hlen.1, hlen.2, rfl⟩
            · cases h1
        · cases h1
      · cases h1
    obtain ⟨l, ns, ey, hns, hlen, h64, er⟩ := key
    subst ey er
    cases hw with
    | lst h kk =>
      have e5 := kk.toInts hns
      subst e5
      refine ⟨_, ns, rfl, .inl (.inl h), hlen, fun p c hp hcl => ?_⟩
      refine ⟨p, _, c, rfl, upd_same, by omega, fun m o hs hmm _ ho => ?_⟩
      have e6 := isort_strict hs hmm
      subst e6
      have r2 := r1.same (same_new (o := SetO X.w p (fun j => decide (j ∈ ns)) c) hp)
      exact (res_ok (q1.up (List.prefix_refl _) (Same.refl _)) r2 fun i z => by cases z).lst (.ofInts _) o ho
/-! ### repr of a list of objects; len(set(..)) -/
theorem deep_reps {s : S} : ∀ {l l' : List D} {vs : List V}, Rel b RR F s σ H → Reps b.K b.g RR F l vs → l.mapM s.rdD = some l' → Reps b.K b.g RR H l' vs
  | [], l', vs, r, h, e => by
    cases h; cases e; exact .nil
  | d :: l, l', _, r, .cons (v := v) (vs := vs) a t, e => by
    rw [List.mapM_cons] at e
    obtain ⟨x, h1, h2⟩ := Option.bind_eq_some_iff.mp e
    obtain ⟨m, h3, h4⟩ := Option.bind_eq_some_iff.mp h2
    cases h4
    refine .cons ?_ (deep_reps r t h3)
    cases a with
    | @obj n ad hn =>
      simp only [S.rdD] at h1
      obtain ⟨c, g1, g2⟩ := Option.bind_eq_some_iff.mp h1
      exact ((r.st n c ad g1 hn).1.view g2).rep r.fz
    | non => cases h1; exact .non
    | bl => cases h1; exact .bl _
    | int => cases h1; exact .int _
    | str => cases h1; exact .str _
    | tup h k => cases h1; exact (Rep.tup h k).mono r.fz (List.prefix_refl _)
    | lst h k => cases h1; exact (Rep.lst h k).mono r.fz (List.prefix_refl _)
    | dct h k => cases h1; exact (Rep.dct h k).mono r.fz (List.prefix_refl _)
    | fn h => cases h1; exact .fn h
    | scr h => cases h1; exact (Rep.scr h).mono r.fz (List.prefix_refl _)
theorem snd_rpd {e : Expr} {a : E} {p pos : Pos} (A : Amb X b k) (gl : Gl X "repr") (hm : X.mg "repr" = none) (ha : PE X e (tE b W (ev a))) (hs : notStar e = true) :
    PE X (.Call (.Name "repr" p) [e] [] pos) (tE b W (ev (.rpd a))) := by
  have key := pe_callB (pos := pos) (p := p) (ok_repr (b := b) A.K A.gd A.hu) gl hm (by exact Bi.boot .repr) (pa_cons (snd_opd ha) pa_nil (star_cons hs)) (by decide) (by decide) (star_cons hs) rfl
  refine key.weak fun σ H Q ⟨RR, F, s, r, q⟩ => ?_
  simp only [ev] at q
  refine ⟨RR, F, s, r, (settled q).imp fun x s1 R1 F1 H1 p1 e1 r1 ⟨n1, q1⟩ v hv => ?_⟩
  obtain ⟨res, h1, q1⟩ := q1.opt
  obtain ⟨y, h2, h3⟩ := Option.bind_eq_some_iff.mp h1
  obtain ⟨z, h4, h5⟩ := Option.bind_eq_some_iff.mp h2
  have hw := vw_of r1 hv h4
  unfold deepV at h5
  split at h5
  · rename_i l
    obtain ⟨l', h6, rfl⟩ := map_some h5
    cases hw with
    | lst h kk =>
      have h7 := deep_reps r1 kk h6
      obtain ⟨t, h8, rfl⟩ := map_some (show (reprD (.lst l')).map (fun s => R.d (.str s)) = some res from h3)
      have q2 : ResOk b R1 F1 H1 (.d (.str t)) Q := res_ok q1 r1 fun i z => by cases z
      refine ⟨R1, H1, [.lst l'], _, Same.refl _, .cons (.lst h h7) .nil, h3, fun v F' H' _ hH _ hr => ?_⟩
      cases hr
      exact q2 (.str t) F1 H' (Same.refl _) hH (fun _ _ w => .inl w) (.str t)
  · cases h5
theorem snd_lrng {e f g : Expr} {a c d : E} {p p2 p3 pos : Pos} (A : Amb X b k) (gl : Gl X "list") (hm : X.mg "list" = none) (gl2 : Gl X "range") (hm2 : X.mg "range" = none) (ha : PE X e (tE b W (ev a))) (hc : PE X f (tE b W (ev c))) (hd : PE X g (tE b W (ev d)))
    (hs : notStar e = true) (ht : notStar f = true) (hu : notStar g = true) :
    PE X (.Call (.Name "list" p) [.Call (.Name "range" p2) [e, f, g] [] p3] [] pos) (tE b W (ev (.lrng a c d))) := by
  have pa := pa_cons (snd_val ha) (pa_cons (snd_val hc) (pa_cons (snd_val hd) pa_nil (star_cons hu)) (star_cons ht)) (star_cons hs)
  refine (pe_listDown A.calm gl hm gl2 hm2 pa (star_cons hs) (star_any _ (by simp [ht, hu])) rfl).weak fun σ H Q ⟨RR, F, s, r, q⟩ => ?_
  simp only [ev] at q
  refine ⟨RR, F, s, r, q.bind fun x s1 R1 F1 H1 p1 e1 r1 q1 v hv => ?_⟩
  refine ⟨R1, F1, s1, r1, q1.bind fun y s2 R2 F2 H2 p2 e2 r2 q2 u hu2 => ?_⟩
  refine ⟨R2, F2, s2, r2, q2.bind fun z s3 R3 F3 H3 p3 e3 r3 q3 t ht2 => ?_⟩
  obtain ⟨res, h1, q4⟩ := q3.opt
  unfold lrngD at h1
  split at h1
  · split at h1
    · rename_i i j k hok
      cases h1
      cases hv; cases hu2; cases ht2
      simp only [Bool.and_eq_true, decide_eq_true_eq, beq_iff_eq] at hok
      obtain ⟨⟨⟨h1, h2⟩, h3⟩, h4⟩ := hok
      subst h3
      have b1 := log61 h1
      have b2 := log61 h2
      refine ⟨i, j, rfl, ⟨b1.1, b1.2, b2.1, b2.2, by omega⟩, fun o ho => ?_⟩
      have e5 : downV i j = (downL i j).map V.int := by unfold downV downL; rw [List.map_map]; rfl
      rw [e5]
      exact (res_ok q4 r3 fun i z => by cases z).lst (.ofInts _) o ho
    · cases h1
  · cases h1
theorem snd_lset {e : Expr} {a : E} {p p2 p3 pos : Pos} (A : Amb X b k) (gl : Gl X "len") (hm : X.mg "len" = none) (gl2 : Gl X "set") (hm2 : X.mg "set" = none) (ha : PE X e (tE b W (ev a))) (hs : notStar e = true) :
    PE X (.Call (.Name "len" p) [.Call (.Name "set" p2) [e] [] p3] [] pos) (tE b W (ev (.lset a))) := by
  refine (RZ.pe_lenSetI gl hm gl2 hm2 (snd_opd ha) A.calm (star_cons hs)).weak fun σ H Q ⟨RR, F, s, r, q⟩ => ?_
  simp only [ev] at q
  refine ⟨RR, F, s, r, (settled q).imp fun x s1 R1 F1 H1 p1 e1 r1 ⟨n1, q1⟩ v hv => ?_⟩
  obtain ⟨res, h1, q1⟩ := q1.opt
  obtain ⟨y, h2, h3⟩ := Option.bind_eq_some_iff.mp h1
  have hw := vw_of r1 hv h2
  unfold lsetD at h3
  split at h3
  · rename_i l
    split at h3
    · rename_i ns hns
      split at h3
      · rename_i hok
        cases h3
        cases hw with
        | lst h kk =>
          have e5 := kk.toInts hns
          subst e5
          exact ⟨_, ns, rfl, .inl (.inl h), hok.1, by have := hok.2; omega, (res_ok q1 r1 fun i z => by cases z).imm (.int _)⟩
      · cases h3
    · cases h3
  · cases h3
theorem snd_bits {o : Expr} {a : E} {apos cpos : Pos} (ha : PE X o (tE b W (ev a))) (hp : plainObj o = true) (hl : (apos.endLine == cpos.line) = true) :
    PE X (.Call (.Attribute o "bit_length" apos) [] [] cpos) (tE b W (ev (.bits a))) := by
  refine (pe_bits (snd_val ha) (base_no hp) hl).weak fun σ H Q ⟨RR, F, s, r, q⟩ => ?_
  simp only [ev] at q
  refine ⟨RR, F, s, r, q.bind fun x s1 R1 F1 H1 p1 e1 r1 q1 v hv => ?_⟩
  obtain ⟨res, h1, q1⟩ := q1.opt
  unfold bitsD at h1
  split at h1
  · cases h1
    cases hv
    exact ⟨_, rfl, (res_ok q1 r1 fun i z => by cases z).imm (.int _)⟩
  · cases h1
theorem items_seq {x : D} {l : List D} {v : V} {RR : List Addr} {F H : Hp} (hK : b.K = X.K) (hv : Rep b.K b.g RR F x v) (e : Same F H) (h : x.items = some l) : ∃ p xs, v = .ref p ∧ (SqT X.K H p xs ∨ SqL X.K H p xs) ∧ Reps b.K b.g RR F l xs := by
  cases hv with
  | tup h1 h2 => cases h; exact ⟨_, _, rfl, .inl (hK ▸ e.seqT h1), h2⟩
  | lst h1 h2 => cases h; exact ⟨_, _, rfl, .inr (.inl (.inl (e _ _ h1))), h2⟩
  | _ => cases h
theorem small1001 {n : Nat} (h : n < 1000) : n + 1 ≤ sizeLine := by rw [sizeLine_eq]; omega
theorem snd_starT {e f : Expr} {x a : E} {j : Nat} {p pos : Pos} (hK : b.K = X.K) (hx : PE X e (tE b W (ev x))) (ha : PE X f (tE b W (ev a))) (hs : notStar e = true) : PE X (.Tuple [e, .Starred f p] j pos) (tE b W (ev (.starT x a))) := by
  refine (pe_tup (pa_cons (snd_val hx) (StX.pa_star (snd_val ha) pa_nil rfl) (star_cons hs))).weak fun σ H Q ⟨RR, F, s, r, q⟩ => ?_
  simp only [ev] at q
  refine ⟨RR, F, s, r, q.bind fun d s1 R1 F1 H1 p1 e1 r1 q1 v hv => ?_⟩
  refine ⟨R1, F1, s1, r1, q1.bind fun y s2 R2 F2 H2 p2 e2 r2 q2 u hu => ?_⟩
  obtain ⟨res, h1, q3⟩ := q2.opt
  unfold starTD at h1
  obtain ⟨l, h2, h3⟩ := Option.bind_eq_some_iff.mp h1
  split at h3
  · rename_i hl
    cases h3
    obtain ⟨ad, xs, rfl, h4, h5⟩ := items_seq hK hu r2.fz h2
    have hr : Reps b.K b.g R2 F2 (d :: l) (v :: (xs ++ [])) := by rw [List.append_nil]; exact .cons (hv.mono e2 p2) h5
    exact ⟨ad, xs, rfl, h4, by rw [List.length_cons, List.append_nil, ← h5.len]; exact small1001 hl, fun pp hp => (res_ok q3 r2 fun i z => by cases z).tup r2.fz hr pp hp⟩
  · cases h3
theorem snd_starL {e f : Expr} {x a : E} {p pos : Pos} (hK : b.K = X.K) (hx : PE X e (tE b W (ev x))) (ha : PE X f (tE b W (ev a))) (hs : notStar e = true) : PE X (.List [e, .Starred f p] pos) (tE b W (ev (.starL x a))) := by
  refine (pe_lst (pa_cons (snd_val hx) (StX.pa_star (snd_val ha) pa_nil rfl) (star_cons hs))).weak fun σ H Q ⟨RR, F, s, r, q⟩ => ?_
  simp only [ev] at q
  refine ⟨RR, F, s, r, q.bind fun d s1 R1 F1 H1 p1 e1 r1 q1 v hv => ?_⟩
  refine ⟨R1, F1, s1, r1, q1.bind fun y s2 R2 F2 H2 p2 e2 r2 q2 u hu => ?_⟩
  obtain ⟨res, h1, q3⟩ := q2.opt
  unfold starLD at h1
  obtain ⟨l, h2, h3⟩ := Option.bind_eq_some_iff.mp h1
  split at h3
  · rename_i hl
    cases h3
    obtain ⟨ad, xs, rfl, h4, h5⟩ := items_seq hK hu r2.fz h2
    have hr : Reps b.K b.g R2 F2 (d :: l) (v :: (xs ++ [])) := by rw [List.append_nil]; exact .cons (hv.mono e2 p2) h5
    exact ⟨ad, xs, rfl, h4, by rw [List.length_cons, List.append_nil, ← h5.len]; exact small1001 hl, fun pp hp => (res_ok q3 r2 fun i z => by cases z).lst hr pp hp⟩
  · cases h3
theorem Reps.snoc {K : PySem.W.Frag} {g : Str → Option Addr} {RR : List Addr} {F : Hp} : ∀ {l : List D} {vs : List V} {d : D} {v : V}, Reps K g RR F l vs → Rep K g RR F d v → Reps K g RR F (l ++ [d]) (vs ++ [v])
  | _, _, _, _, .nil, h => .cons h .nil
  | _, _, _, _, .cons a r, h => .cons a (Reps.snoc r h)
theorem snd_starR {e f : Expr} {x a : E} {p pos : Pos} (hK : b.K = X.K) (ha : PE X f (tE b W (ev a))) (hx : PE X e (tE b W (ev x))) (hs : notStar e = true) : PE X (.List [.Starred f p, e] pos) (tE b W (ev (.starR a x))) := by
  refine (pe_lst (StX.pa_star (snd_val ha) (pa_cons (snd_val hx) pa_nil (star_cons hs)) rfl)).weak fun σ H Q ⟨RR, F, s, r, q⟩ => ?_
  simp only [ev] at q
  refine ⟨RR, F, s, r, q.bind fun y s1 R1 F1 H1 p1 e1 r1 q1 u hu => ?_⟩
  split at q1
  · rename_i l h2
    obtain ⟨ad, xs, rfl, h4, h5⟩ := items_seq hK hu r1.fz h2
    refine ⟨ad, xs, rfl, h4, R1, F1, s1, r1, q1.bind fun d s2 R2 F2 H2 p2 e2 r2 q2 v hv => ?_⟩
    obtain ⟨res, h1, q3⟩ := q2.opt
    unfold starRD at h1
    split at h1
    · rename_i hl
      cases h1
      have h6 := Reps.mono e2 p2 h5
      exact ⟨by rw [List.length_append, ← h6.len]; exact small1001 hl, fun pp hp => (res_ok q3 r2 fun i z => by cases z).lst (h6.snoc hv) pp hp⟩
    · cases h1
  · exact q1.elim
end
/-! ### max(d.values()) -/
section
variable {X : Cx} {pins : List (Addr × Obj)} {σ : L2.St} {H : Hp} {s : Shared} {a : Addr} {kvs : List (L2.Key × V)}
theorem dK_at (I : Inv X pins σ H s) (h : H a = some (.dK kvs)) : (a == sysModules) = false ∧ ∃ (o : Obj) (es : Array DictEntry) (ep : Nat) (vs : List (L2.Key × Value)), s.heap.get? a = some o ∧ o.data = .dict es ep ∧ es.size = kvs.length ∧ KV kvs vs ∧ Pairs (mixKind X.prog X.w) es.toList vs ∧ s.heap.DictAt (mixKind X.prog X.w) a vs ep := by
  obtain ⟨z, hs, vs, kv, o', es, ep, ho, hx, hdt, r⟩ := I.hok a _ h
  refine ⟨hs, o', es, ep, vs, ho, hdt, ?_, kv, r.2.1, o', es, ho, hx, hdt, r⟩
  have l1 := r.2.1.length
  have l2 : kvs.length = vs.length := Paired.length kv
  rw [Array.length_toList] at l1
  omega
def tDValsK (t : TE) : TE := fun σ H Q => t σ H fun x H1 => ∃ a kvs, x = .ref a ∧ H1 a = some (.dK kvs) ∧ ∀ p, H1 p = none → Q (.ref p) (upd H1 p (viewO "dict_values" p a))
theorem pe_dvalsK {e : Expr} {t : TE} {apos cpos : Pos} (he : PE X e t) (hbase : attributeBase e "values" X.env (eval e X.env) = eval e X.env := by rfl) (hline : (apos.endLine == cpos.line) = true := by rfl) :
    PE X (.Call (.Attribute e "values" apos) [] [] cpos) (tDValsK t) := by
  refine ⟨fun pins s σ H Q I h => ?_⟩
  refine wpAny_Call_method (T := "dict") (id := "dict.values") hbase rfl hline F.plainAttrs_dict F.slot_dict_values F.type_dict_values (thn (he.run pins s σ H _ I h) fun u s1 ⟨x, H1, I1, rx, d, kvs, ex, hd, q⟩ => ?_)
  subst ex
  obtain rfl : u = Value.ref d := rx
  obtain ⟨hs, o, es, ep, vs, hgd, hdt, hsz, kv, prs, hm⟩ := dK_at I1 hd
  refine ⟨hm.dictOf.typeIs, hm.dictOf.mapOf.noDict, ?_⟩
  show wpAny _ _ (callWith cpos (.builtin "dict.values") [.ref d] [] []) _ X.xe s1
  exact method_meetsIn F.slot_dict_values F.entry_dict_values rfl (PySem.evalArgs_none ⟨rfl, hm.dictOf.typeIs, F.args_dict_values_1 _, _, meets_dict_values (mixKind X.prog X.w) d hs, ⟨vs, hm.dictOf⟩, ⟨.ref s1.heap.objs.size, _, I1.laid (t' := s1.toks) (fun b o q => Heap.get?_push_of_some _ q) (Nat.le_refl _) (viewO_ok (Heap.get?_push_size _ rfl)), rfl, q _ (I1.hok.fresh (Nat.le_refl _))⟩⟩)
def rMaxK : List V → Hp → VK → Prop := fun xs H Q => ∃ (p a : Addr) (kvs : List (L2.Key × V)) (ns : List Int), xs = [.ref p] ∧ H p = some (viewO "dict_values" p a) ∧ H a = some (.dK kvs) ∧ kvs.map Prod.snd = ns.map V.int ∧ 0 < ns.length ∧ ∀ m, m ∈ ns → (∀ y, y ∈ ns → y ≤ m) → Q (.int m) H
theorem cr_maxK (hc : X.calm = true) : CallR X (.builtin "max") rMaxK := by
  intro pins s σ H xs us Q I rx h
  obtain ⟨p, a, kvs, ns, rfl, hp, hd, hns, hne, q⟩ := h
  rw [Vals.ref1 rx]
  obtain ⟨hsm, ob, es, ep, vs, hob, hdt, hsz0, kv, prs, hm⟩ := dK_at I hd
  have hv : s.heap.get? p = some (DSub.viewOb "dict_values" a) := (show ObjOk X.prog X.w H s.heap p (viewO "dict_values" p a) from I.hok p _ hp).1
  have hkn : kvs.length = ns.length := by
    have e := congrArg List.length hns
    rw [List.length_map, List.length_map] at e
    exact e
  have hsz : es.size = ns.length := hsz0.trans hkn
  have hP : ∀ (i : Nat) (e : DictEntry), es[i]? = some e → ∃ t, e.val = .int (ns.getD i 0) t := fun i e he => by
    have hi : i < es.size := by
      rcases Nat.lt_or_ge i es.size with z | z
      · exact z
      · rw [Array.getElem?_eq_none z] at he
        cases he
    have hi2 : i < kvs.length := by omega
    have hi3 : i < ns.length := by omega
    obtain ⟨u, hu, r⟩ := kv_get kv (i := i) (k := kvs[i].1) (v := kvs[i].2) (List.getElem?_eq_getElem hi2)
    have he' : es.toList[i]? = some e := by rw [Array.getElem?_toList]; exact he
    obtain ⟨_, h2⟩ := prs.get? he' hu
    have e2 : kvs[i].2 = V.int ns[i] := by
      have z : (kvs.map Prod.snd)[i]? = (ns.map V.int)[i]? := by rw [hns]
      rw [List.getElem?_map, List.getElem?_map, List.getElem?_eq_getElem hi2, List.getElem?_eq_getElem hi3] at z
      exact Option.some.inj z
    have e3 : ns.getD i 0 = ns[i] := by rw [List.getD_eq_getElem?_getD, List.getElem?_eq_getElem hi3] <;> rfl
    rw [e2] at r
    rw [e3, h2]
    exact r
  refine call_max_walk ?_
  refine DSub.iter_vals hv hob hdt ?_
  have ha : a < s.heap.objs.size := Heap.lt_size hob
  refine ⟨s.heap.objs.size, [s.heap.objs.size, a], [s.heap.objs.size], es.size, fun i v => ∃ t, v = .int (ns.getD i 0) t, _, fun i j => decide (ns.getD i 0 > ns.getD j 0), rfl, DSub.walksVal (a := a) (show X.A.in1.handled = none from I.ok.hd hc) (Nat.ne_of_lt ha) hdt hP, ⟨Heap.get?_push_size _ rfl, Heap.get?_push_of_some _ hob⟩, fun b hb => ?_, by omega, CmpOf.ints_gt (fun i => ns.getD i 0) (fun i v z => z), fun v h' tk hv' hk => ?_⟩
  · show b < (s.heap.push _).objs.size
    rw [size_push']
    rcases List.mem_cons.mp hb with z | z
    · rw [z]
      exact Nat.lt_succ_self _
    · rw [List.mem_singleton.mp z]
      exact Nat.lt_succ_of_lt ha
  · obtain ⟨t, rfl⟩ := hv'
    obtain ⟨m1', m2'⟩ := argBest_gt (fun i => ns.getD i 0) (es.size - 1)
    have m1 : argBest (fun i j => decide (ns.getD i 0 > ns.getD j 0)) (es.size - 1) ≤ es.size - 1 := m1'
    have m2 : ∀ j, j ≤ es.size - 1 → ns.getD j 0 ≤ ns.getD (argBest (fun i j => decide (ns.getD i 0 > ns.getD j 0)) (es.size - 1)) 0 := m2'
    have hk2 : ∀ b o, s.heap.get? b = some o → h'.get? b = some o := fun b o e => hk b o (fun z => by rw [List.mem_singleton.mp z] at e; exact absurd (Heap.lt_size e) (Nat.lt_irrefl _)) (Heap.get?_push_of_some _ e)
    refine ⟨.int _, H, I.kept (t' := tk) hk2, ⟨t, rfl⟩, q _ (PySem.getD_mem (by omega)) fun y hy => ?_⟩
    obtain ⟨j, hj, e⟩ := List.mem_iff_getElem.mp hy
    have z := m2 j (by omega)
    have e3 : ns.getD j 0 = y := by rw [List.getD_eq_getElem?_getD, List.getElem?_eq_getElem hj, ← e] <;> rfl
    rw [e3] at z
    exact z
theorem maxI_mem : ∀ (l : List Int) (a : Int), maxI a l ∈ a :: l ∧ ∀ y ∈ a :: l, y ≤ maxI a l
  | [], a => by simp [maxI]
  | b :: l, a => by
    by_cases g : b > a
    · rw [maxI, if_pos g]
      obtain ⟨h1, h2⟩ := maxI_mem l b
      have h3 := h2 _ List.mem_cons_self
      refine ⟨List.mem_cons_of_mem _ h1, fun y hy => ?_⟩
      rcases List.mem_cons.mp hy with z | z
      · subst z; omega
      · exact h2 y z
    · rw [maxI, if_neg g]
      obtain ⟨h1, h2⟩ := maxI_mem l a
      have h3 := h2 _ List.mem_cons_self
      refine ⟨?_, fun y hy => ?_⟩
      · rcases List.mem_cons.mp h1 with z | z
        · rw [z]; simp
        · exact List.mem_cons_of_mem _ (List.mem_cons_of_mem _ z)
      · rcases List.mem_cons.mp hy with z | z
        · subst z; omega
        · rcases List.mem_cons.mp z with z | z
          · subst z; omega
          · exact h2 y (List.mem_cons_of_mem _ z)
end
section
variable {X : Cx} {b : Bs} {W : WX} {k : Nat} {σ : L2.St} {RR RR' : List Addr} {F F' H H' : Hp} {s : S} {Q : VK}
theorem valsI_snd {RR : List Addr} {F : Hp} : ∀ {l : List (L2.Key × D)} {vs : List (L2.Key × V)} {ns : List Int}, RepK b.K b.g RR F l vs → valsI l = some ns → vs.map Prod.snd = ns.map V.int
  | [], _, ns, .nil, h => by cases h; rfl
  | (k2, d) :: l, _, ns, .cons hd r, h => by
    cases d with
    | int i =>
      simp only [valsI] at h
      obtain ⟨m, h1, rfl⟩ := map_some h
      cases hd
      rw [List.map_cons, List.map_cons, valsI_snd r h1]
    | _ => simp only [valsI] at h; cases h
theorem snd_maxv {o : Expr} {a : E} {p apos cpos pos : Pos} (A : Amb X b k) (gl : Gl X "max") (hm : X.mg "max" = none) (ha : PE X o (tE b W (ev a))) (hp : plainObj o = true) (hl : (apos.endLine == cpos.line) = true) :
    PE X (.Call (.Name "max" p) [.Call (.Attribute o "values" apos) [] [] cpos] [] pos) (tE b W (ev (.maxv a))) := by
  have inner := pe_dvalsK (snd_opd ha) (base_no hp) hl
  refine (pe_callB (cr_maxK (X := X) A.calm) gl hm (by exact Bi.boot .max2) (pa_cons inner pa_nil rfl) (by decide) (by decide) rfl rfl).weak fun σ H Q ⟨RR, F, s, r, q⟩ => ?_
  simp only [ev] at q
  refine ⟨RR, F, s, r, (settled q).imp fun x s1 R1 F1 H1 p1 e1 r1 ⟨n1, q1⟩ v hv => ?_⟩
  obtain ⟨res, h1, q1⟩ := q1.opt
  cases h2 : s1.rd x with
  | none => rw [h2] at h1; cases h1
  | some y =>
    rw [h2, Option.bind_some] at h1
    have hw := vw_of r1 hv h2
    have key : ∃ (l : List (L2.Key × D)) (n : Int) (ns : List Int), y = .dct l ∧ valsI l = some (n :: ns) ∧ res = .d (.int (maxI n ns)) := by
      unfold maxvD at h1
      split at h1
      · rename_i l
        split at h1
        · rename_i n ns hns
          cases h1
          exact ⟨l, n, ns, rfl, hns, rfl⟩
        · cases h1
      · cases h1
    obtain ⟨l, n, ns, rfl, hns, rfl⟩ := key
    cases hw with
    | @dct _ ad _ h kk =>
      refine ⟨_, _, rfl, h, fun p hp => ?_⟩
      obtain ⟨m1, m2⟩ := maxI_mem ns n
      refine ⟨p, _, _, n :: ns, rfl, upd_same, ?_, valsI_snd kk hns, by simp, fun m hm hy => ?_⟩
      · rw [upd_ne (fun e => by rw [e, hp] at h; cases h)]
        exact h
      · have em : m = maxI n ns := Int.le_antisymm (m2 m hm) (hy _ m1)
        subst em
        have r2 := r1.same (same_new (o := viewO "dict_values" p ad) hp)
        exact (res_ok (q1.up (List.prefix_refl _) (Same.refl _)) r2 fun i z => by cases z).imm (.int _)
end
/-! ### d != {} -/
section
variable {X : Cx}
def rDne : R2 := fun x y H Q => ∃ a b ks, x = .ref a ∧ y = .ref b ∧ H a = some (.dK ks) ∧ H b = some (.dK []) ∧ Q (.bl (!ks.isEmpty)) H
theorem op_dne (hu : X.A.units < cLine) : OpR X (compareOp .NotEq) rDne := by
  intro pins s σ H x y v u Q I rx ry h
  obtain ⟨a, b, ks, rfl, rfl, ea, eb, q⟩ := h
  obtain rfl : v = Value.ref a := rx
  obtain rfl : u = Value.ref b := ry
  obtain ⟨_, ya, va, ra, da⟩ := (show ObjOk X.prog X.w H s.heap a (.dK ks) from I.hok a _ ea)
  obtain ⟨_, yb, vb, rb, db⟩ := (show ObjOk X.prog X.w H s.heap b (.dK []) from I.hok b _ eb)
  have hb : vb.length = 0 := by rw [← rb.length]; rfl
  have ha : va.length = ks.length := ra.length.symm
  have hvb : vb = [] := List.length_eq_zero_iff.mp hb
  refine PySem.W.keq_ne (knd := mixKind X.prog X.w) (r := true) ya yb da db hu (fun e => ?_) (fin_bl I q ?_)
  · have hk : ks = [] := List.length_eq_zero_iff.mp (by omega)
    subst hk
    exact hits_all rb ra (fun p hp => by cases hp)
  · cases ks with
    | nil =>
      have : va = [] := List.length_eq_zero_iff.mp (by rw [ha]; rfl)
      simp [this, hvb]
    | cons p l =>
      have : va.length ≠ 0 := by rw [ha]; simp
      simp [hb, this]
end
section
variable {X : Cx} {b : Bs} {W : WX} {k : Nat} {σ : L2.St} {RR RR' : List Addr} {F F' H H' : Hp} {s : S} {Q : VK}
theorem dne_key {x : R} {v : V} {kk : Bool} {σ : L2.St} (r1 : Rel b RR F s σ H) (hv : RRel b RR F s σ H x v) (h : (s.rd x).bind dneB = some kk) : ∃ ad vs, v = .ref ad ∧ H ad = some (.dK vs) ∧ kk = !vs.isEmpty := by
  obtain ⟨y, h2, h3⟩ := Option.bind_eq_some_iff.mp h
  have hw := vw_of r1 hv h2
  have e : ∃ l : List (L2.Key × D), y = .dct l ∧ kk = !l.isEmpty := by
    unfold dneB at h3
    split at h3
    · cases h3; exact ⟨_, rfl, rfl⟩
    · cases h3
  obtain ⟨l, rfl, rfl⟩ := e
  cases hw with
  | @dct _ ad vs h kk =>
    have := kk.len
    refine ⟨ad, vs, rfl, h, ?_⟩
    cases l <;> cases vs <;> simp_all
theorem snd_dne {ea : Expr} {a : E} {p pos : Pos} (A : Amb X b k) (ha : PE X ea (tE b W (ev a))) : PE X (.Compare ea [.NotEq] [.Dict [] [] p] pos) (tE b W (ev (.dne a))) := by
  refine (pe_cmpR (op_dne (by have := A.hu; omega)) (snd_opd ha) pe_dnewK rfl).weak fun σ H Q ⟨RR, F, s, r, q⟩ => ?_
  simp only [ev] at q
  refine ⟨RR, F, s, r, (settled q).imp fun x s1 R1 F1 H1 p1 e1 r1 ⟨n1, q1⟩ v hv => ?_⟩
  obtain ⟨res, h1, q1⟩ := q1.opt
  obtain ⟨kk, h2, rfl⟩ := map_some h1
  obtain ⟨ad, vs, rfl, h3, rfl⟩ := dne_key r1 hv h2
  intro p hp
  have r2 := r1.same (same_new (o := .dK []) hp)
  refine ⟨ad, p, vs, rfl, rfl, ?_, upd_same, (res_ok (q1.up (List.prefix_refl _) (Same.refl _)) r2 fun i z => by cases z).imm (.bl _)⟩
  rw [upd_ne (fun e => by rw [e, hp] at h3; cases h3)]
  exact h3
theorem tst_dne {ea : Expr} {a : E} {p pos : Pos} (A : Amb X b k) (ha : PE X ea (tE b W (ev a))) : PT X (.Compare ea [.NotEq] [.Dict [] [] p] pos) (tB' b W (evT (.dne a))) := by
  refine (pt_cmpR (op_dne (by have := A.hu; omega)) (snd_opd ha) pe_dnewK rfl).weak fun σ H Q ⟨RR, F, s, r, q⟩ => ?_
  simp only [evT] at q
  refine ⟨RR, F, s, r, (settled q).imp fun x s1 R1 F1 H1 p1 e1 r1 ⟨n1, q1⟩ v hv => ?_⟩
  obtain ⟨kk, h2, q1⟩ := q1.opt
  obtain ⟨ad, vs, rfl, h3, rfl⟩ := dne_key r1 hv h2
  intro p hp
  have r2 := r1.same (same_new (o := .dK []) hp)
  refine ⟨ad, p, vs, rfl, rfl, ?_, upd_same, _, rfl, (q1.up (List.prefix_refl _) (Same.refl _)).now r2⟩
  rw [upd_ne (fun e => by rw [e, hp] at h3; cases h3)]
  exact h3
end
end G4

namespace G4
open PySem PySem.Spec PyProof.Rows L2

/-! ### is it the text's expression? -/
structure CK where
  N : List Str
  sc : Scope
  bs : List Str
  fc : Str → Bool
def okName (x : Str) : Bool := !(x == ("__debug__" : Str)) && !(x == ("__classdict__" : Str))
def CK.vis (c : CK) (i : Nat) (x : Str) : Bool := decide (c.N[i]? = some x) && (match c.sc.names.lookup x with | some .local => true | some .cell => true | some .free => true | _ => false) && okName x
def CK.gl (c : CK) (x : Str) : Bool := decide (c.sc.names.lookup x = some .globalImplicit) && okName x
def CK.bi (c : CK) (x : Str) : Bool := c.gl x && c.bs.contains x
def CK.loc (c : CK) (i : Nat) (x : Str) : Bool := decide (c.N[i]? = some x) && (match c.sc.names.lookup x with | some .local => true | some .cell => c.fc x | _ => false)
def CK.blk (c : CK) (scope : Scope) : CK := { c with sc := relS scope c.sc, fc := fun x => scope.names.lookup x == some .cell }
mutual
def ckT (c : CK) : T → Expr → Bool
  | .nm i, .Name x _ => c.loc i x
  | .tp l, .Tuple es _ _ => ckTs c l es
  | _, _ => false
def ckTs (c : CK) : List T → List Expr → Bool
  | [], [] => true
  | t :: l, e :: es => ckT c t e && ckTs c l es
  | _, _ => false
end
def ckTy (c : CK) : List Ty → List Expr → Bool
  | [], [] => true
  | t :: l, .Name x _ :: es => decide (x = t.py) && decide (t ≠ .none) && c.bi x && ckTy c l es
  | _, _ => false
def ckM (m : Mt) (n : Str) : Bool := match m with
  | .append => decide (n = ("append" : Str))
  | .extend => decide (n = ("extend" : Str))
  | .pop => decide (n = ("pop" : Str))
  | _ => false
def ckMr (m : Mt) (n : Str) : Bool := match m with
  | .count => decide (n = ("count" : Str))
  | .index => decide (n = ("index" : Str))
  | _ => false
def isStar : Expr → Bool
  | .Starred _ _ => true
  | _ => false
def isTup : Expr → Bool
  | .Tuple _ _ _ => true
  | _ => false
mutual
def ck (c : CK) : E → Expr → Bool
  | .var i, pe => match pe with
    | .Name x _ => c.vis i x
    | _ => false
  | .glo y _, pe => match pe with
    | .Name x _ => decide (x = y) && c.gl x
    | _ => false
  | .int i, pe => match pe with
    | .Constant (.int j) _ _ => decide (i = j)
    | _ => false
  | .str i, pe => match pe with
    | .Constant (.str j) _ _ => decide (i = j)
    | _ => false
  | .bl i, pe => match pe with
    | .Constant (.bool j) _ _ => decide (i = j)
    | _ => false
  | .non, pe => match pe with
    | .Constant .none _ _ => true
    | _ => false
  | .bin o a b, pe => match pe with
    | .BinOp l u r _ => decide (o = u) && ck c a l && ck c b r
    | _ => false
  | .neg a, pe => match pe with
    | .UnaryOp .USub x _ => ck c a x
    | _ => false
  | .not a, pe => match pe with
    | .UnaryOp .Not x _ => ck c a x
    | _ => false
  | .and a b, pe => match pe with
    | .BoolOp .And [x, y] _ => ck c a x && ck c b y
    | .BoolOp .And (x :: y :: z :: r) p => ck c a x && ck c b (.BoolOp .And (y :: z :: r) p)
    | _ => false
  | .or a b, pe => match pe with
    | .BoolOp .Or [x, y] _ => ck c a x && ck c b y
    | .BoolOp .Or (x :: y :: z :: r) p => ck c a x && ck c b (.BoolOp .Or (y :: z :: r) p)
    | _ => false
  | .ifx t a b, pe => match pe with
    | .IfExp u x y _ => ck c t u && ck c a x && ck c b y
    | _ => false
  | .cmp o a b, pe => match pe with
    | .Compare l [u] [r] _ => decide (o = u) && ck c a l && ck c b r && notSet r
    | _ => false
  | .cmp2 o v a b d, pe => match pe with
    | .Compare l [u, w] [r, s] _ => decide (o = u) && decide (v = w) && ck c a l && ck c b r && ck c d s && notSet s
    | _ => false
  | .cmp3 o v u a b d f, pe => match pe with
    | .Compare l [p, q, r] [x, y, z] _ => decide (o = p) && decide (v = q) && decide (u = r) && ck c a l && ck c b x && ck c d y && ck c f z && notSet z
    | _ => false
  | .tup es, pe => match pe with
    | .Tuple xs _ _ => cks c es xs && decide (es.len ≤ 1000)
    | _ => false
  | .lst es, pe => match pe with
    | .List xs _ => cks c es xs && decide (es.len ≤ 1000)
    | _ => false
  | .dnil, pe => match pe with
    | .Dict [] [] _ => true
    | _ => false
  | .ix a b, pe => match pe with
    | .Subscript v i _ => ck c a v && ck c b i && notSlice i
    | _ => false
  | .sl a lo hi, pe => match pe with
    | .Subscript v (.Slice l h none _) _ => ck c a v && cko c lo l && cko c hi h
    | _ => false
  | .rev a, pe => match pe with
    | .Subscript v (.Slice none none (some (.UnaryOp .USub (.Constant (.int 1) _ _) _)) _) _ => ck c a v
    | _ => false
  | .lc own e g src d, pe => match pe with
    | .ListComp elt [⟨tg, iter, ifs, 0⟩] scope _ => blkC c.N c.sc scope own && (g.ixs.all fun i => decide (i ∈ own.map (·.2))) && notSet iter && ckS c src tg iter && ckT (c.blk scope) g tg && ckc (c.blk scope) d ifs && ck (c.blk scope) e elt
    | _ => false
  | .call x _ es, pe => match pe with
    | .Call (.Name y _) args [] _ => decide (x = y) && c.gl x && cks c es args
    | _ => false
  | .callk x _ _ ks ws, pe => match pe with
    | .Call (.Name y _) [] kws _ => decide (x = y) && c.gl x && ckk c ks ws kws
    | _ => false
  | .bi b es, pe => match pe with
    | .Call (.Name y _) args [] _ => decide (y = b.name) && c.bi y && cks c es args && decide (0 < es.len)
    | _ => false
  | .isi a ts, pe => match pe with
    | .Call (.Name y _) [x, .Name u _] [] _ => decide (y = ("isinstance" : Str)) && c.bi y && ck c a x && notStar x && (match ts with
      | [t] => decide (u = t.py) && decide (t ≠ .none) && c.bi u
      | _ => false)
    | .Call (.Name y _) [x, .Tuple es _ _] [] _ => decide (y = ("isinstance" : Str)) && c.bi y && ck c a x && notStar x && ckTy c ts es && decide (ts.length ≤ 1000)
    | _ => false
  | .mt m a es, pe => match pe with
    | .Call (.Attribute o n apos) [x] [] cpos => ckMr m n && ck c a o && cks c es [x] && plainObj o && (apos.endLine == cpos.line)
    | _ => false
  | .mu m a es, pe => match pe with
    | .Call (.Attribute o n apos) [x] [] cpos => ckM m n && ck c a o && cks c es [x] && plainObj o && (apos.endLine == cpos.line)
    | .Call (.Attribute o n apos) [x, y] [] cpos => decide (m = .insert) && decide (n = ("insert" : Str)) && ck c a o && cks c es [x, y] && plainObj o && (apos.endLine == cpos.line)
    | _ => false
  | .alc e, pe => ck c e pe
  | .sset a, pe => match pe with
    | .Call (.Name y _) [.Call (.Name z _) [x] [] _] [] _ => decide (y = ("sorted" : Str)) && c.bi y && decide (z = ("set" : Str)) && c.bi z && ck c a x && notStar x
    | _ => false
  | .zip3 a b d, pe => match pe with
    | .Call (.Name y _) [.Call (.Name z _) [x, u, v] [] _] [] _ => decide (y = ("list" : Str)) && c.bi y && decide (z = ("zip" : Str)) && c.bi z && ck c a x && notStar x && ck c b u && notStar u && ck c d v && notStar v
    | _ => false
  | .dget a e d, pe => match pe with
    | .Call (.Attribute o n apos) [x, y] [] cpos => decide (n = ("get" : Str)) && ck c a o && ck c e x && ck c d y && plainObj o && notStar x && notStar y && (apos.endLine == cpos.line)
    | _ => false
  | .dead, pe => !isStar pe
  | .mov i, pe => match pe with
    | .Name x _ => c.vis i x
    | _ => false
  | .callb x _ i, pe => match pe with
    | .Call (.Name y _) [.Name z _] [] _ => decide (x = y) && c.gl x && c.vis i z
    | _ => false
  | .lend _ e, pe => match pe with
    | .BoolOp _ _ _ => false
    | pe => ck c e pe
  | .rpd a, pe => match pe with
    | .Call (.Name y _) [x] [] _ => decide (y = ("repr" : Str)) && c.bi y && ck c a x && notStar x
    | _ => false
  | .lrng a b d, pe => match pe with
    | .Call (.Name y _) [.Call (.Name z _) [x, u, v] [] _] [] _ => decide (y = ("list" : Str)) && c.bi y && decide (z = ("range" : Str)) && c.bi z && ck c a x && notStar x && ck c b u && notStar u && ck c d v && notStar v
    | _ => false
  | .lset a, pe => match pe with
    | .Call (.Name y _) [.Call (.Name z _) [x] [] _] [] _ => decide (y = ("len" : Str)) && c.bi y && decide (z = ("set" : Str)) && c.bi z && ck c a x && notStar x
    | _ => false
  | .dix a e, pe => match pe with
    | .Subscript v i _ => ck c a v && ck c e i && notSlice i
    | _ => false
  | .dne a, pe => match pe with
    | .Compare l [.NotEq] [.Dict [] [] _] _ => ck c a l
    | _ => false
  | .maxv a, pe => match pe with
    | .Call (.Name y _) [.Call (.Attribute o n apos) [] [] cpos] [] _ => decide (y = ("max" : Str)) && c.bi y && decide (n = ("values" : Str)) && ck c a o && plainObj o && (apos.endLine == cpos.line)
    | _ => false
  | .bits a, pe => match pe with
    | .Call (.Attribute o n apos) [] [] cpos => decide (n = ("bit_length" : Str)) && ck c a o && plainObj o && (apos.endLine == cpos.line)
    | _ => false
  | .starT x a, pe => match pe with
    | .Tuple [u, .Starred v _] _ _ => ck c x u && notStar u && ck c a v
    | _ => false
  | .starL x a, pe => match pe with
    | .List [u, .Starred v _] _ => ck c x u && notStar u && ck c a v
    | _ => false
  | .starR a x, pe => match pe with
    | .List [.Starred v _, u] _ => ck c a v && ck c x u && notStar u
    | _ => false
def cks (c : CK) : Es → List Expr → Bool
  | .nil, l => l.isEmpty
  | .cons a r, l => match l with
    | x :: xs => ck c a x && notStar x && cks c r xs
    | [] => false
def ckk (c : CK) : List Str → Es → List Keyword → Bool
  | ns, .nil, l => ns.isEmpty && l.isEmpty
  | ns, .cons a r, l => match ns, l with
    | n :: ns, ⟨m, x, _⟩ :: kws => decide (m = some n) && ck c a x && ckk c ns r kws
    | _, _ => false
def cko (c : CK) : EO → Option Expr → Bool
  | .no, l => l.isNone
  | .so a, l => match l with
    | some x => ck c a x
    | none => false
def ckc (c : CK) : EO → List Expr → Bool
  | .no, l => l.isEmpty
  | .so a, l => match l with
    | [x] => ck c a x
    | _ => false
def ckS (c : CK) : Src → Expr → Expr → Bool
  | .seq a, _, x => ck c a x
  | .rng1 a, _, pe => match pe with
    | .Call (.Name y _) [x] [] _ => decide (y = ("range" : Str)) && c.bi y && ck c a x && notStar x
    | _ => false
  | .rng2 a b, _, pe => match pe with
    | .Call (.Name y _) [x, z] [] _ => decide (y = ("range" : Str)) && c.bi y && ck c a x && notStar x && ck c b z && notStar z
    | _ => false
  | .enum a, t, pe => match pe with
    | .Call (.Name y _) [x] [] _ => decide (y = ("enumerate" : Str)) && c.bi y && ck c a x && notStar x && isTup t
    | _ => false
  | .zip a b, t, pe => match pe with
    | .Call (.Name y _) [x, z] [] _ => decide (y = ("zip" : Str)) && c.bi y && ck c a x && notStar x && ck c b z && notStar z && isTup t
    | _ => false
end
/-! ### what is known of its calls -/
section
variable (P : Program) (w : World) (K : PySem.W.Frag) (mg : Str → Option Value) (base : Heap) (g : Str → Option Addr) (k : Nat)
mutual
def OkE : E → Prop
  | .glo x d => GK mg K g x d
  | .bin _ a b => OkE a ∧ OkE b
  | .neg a => OkE a
  | .not a => OkE a
  | .and a b => OkE a ∧ OkE b
  | .or a b => OkE a ∧ OkE b
  | .ifx c a b => OkE c ∧ OkE a ∧ OkE b
  | .cmp _ a b => OkE a ∧ OkE b
  | .cmp2 _ _ a b c => OkE a ∧ OkE b ∧ OkE c
  | .cmp3 _ _ _ a b c d => OkE a ∧ OkE b ∧ OkE c ∧ OkE d
  | .tup es => OkEs es
  | .lst es => OkEs es
  | .ix a b => OkE a ∧ OkE b
  | .sl a lo hi => OkE a ∧ OkO lo ∧ OkO hi
  | .rev a => OkE a
  | .lc _ e _ src c => OkE e ∧ OkS src ∧ OkO c
  | .call x f es => Kn P w K mg base g k x f es.len ∧ OkEs es
  | .callk x f pm ks ws => KnK P w K mg base g k x f pm ks ∧ OkEs ws
  | .bi _ es => OkEs es
  | .isi a _ => OkE a
  | .mt _ a es => OkE a ∧ OkEs es
  | .mu _ a es => OkE a ∧ OkEs es
  | .alc a => OkE a
  | .sset a => OkE a
  | .rpd a => OkE a
  | .lend _ a => OkE a
  | .callb x f _ => Kn P w K mg base g k x f 1
  | .lrng a b d => OkE a ∧ OkE b ∧ OkE d
  | .lset a => OkE a
  | .bits a => OkE a
  | .maxv a => OkE a
  | .dne a => OkE a
  | .starT a b => OkE a ∧ OkE b
  | .starL a b => OkE a ∧ OkE b
  | .starR a b => OkE a ∧ OkE b
  | .zip3 a b d => OkE a ∧ OkE b ∧ OkE d
  | .dget a b d => OkE a ∧ OkE b ∧ OkE d
  | .dix a b => OkE a ∧ OkE b
  | _ => True
def OkEs : Es → Prop
  | .nil => True
  | .cons a r => OkE a ∧ OkEs r
def OkO : EO → Prop
  | .no => True
  | .so a => OkE a
def OkS : Src → Prop
  | .seq a => OkE a
  | .rng1 a => OkE a
  | .rng2 a b => OkE a ∧ OkE b
  | .enum a => OkE a
  | .zip a b => OkE a ∧ OkE b
end
end
abbrev OkX (X : Cx) (b : Bs) (k : Nat) (e : E) : Prop := OkE X.prog X.w X.K X.mg X.base b.g k e
abbrev OkXs (X : Cx) (b : Bs) (k : Nat) (e : Es) : Prop := OkEs X.prog X.w X.K X.mg X.base b.g k e
abbrev OkXo (X : Cx) (b : Bs) (k : Nat) (e : EO) : Prop := OkO X.prog X.w X.K X.mg X.base b.g k e
abbrev OkXS (X : Cx) (b : Bs) (k : Nat) (e : Src) : Prop := OkS X.prog X.w X.K X.mg X.base b.g k e
/-- the surroundings are as the check was told -/
structure CkX (c : CK) (X : Cx) : Prop where
  N : X.N = c.N
  sc : X.env.scope = c.sc
  fc : ∀ x, c.fc x = true → X.fn x = true
  bs : ∀ x, c.bs.contains x = true → X.mg x = none
section
variable {c : CK} {X : Cx} {b : Bs} {W : WX} {k : Nat}
theorem CkX.blk (h : CkX c X) (s : Shared) (H : Hp) (scope : Scope) (C : Addr) (cl : List (Str × Addr)) (fp : List Addr) : CkX (c.blk scope) (X.blk s H scope (compEnvC scope cl C X.env) fp) :=
  ⟨h.N, by show relS scope X.env.scope = relS scope c.sc; rw [h.sc], fun x q => q, h.bs⟩
theorem okName_1 {x : Str} (h : okName x = true) : (x == ("__debug__" : Str)) = false := by
  unfold okName at h; rw [Bool.and_eq_true] at h; simpa using h.1
theorem okName_2 {x : Str} (h : okName x = true) : (x == ("__classdict__" : Str)) = false := by
  unfold okName at h; rw [Bool.and_eq_true] at h; simpa using h.2
theorem CkX.vis (h : CkX c X) {i : Nat} {x : Str} (q : c.vis i x = true) : X.N[i]? = some x ∧ Vis X.env.scope x ∧ okName x = true := by
  unfold CK.vis at q
  simp only [Bool.and_eq_true, decide_eq_true_eq] at q
  refine ⟨by rw [h.N]; exact q.1.1, ?_, q.2⟩
  have z := q.1.2
  unfold Vis
  rw [h.sc]
  split at z <;> simp_all
theorem CkX.gl (h : CkX c X) {x : Str} (q : c.gl x = true) : Gl X x ∧ okName x = true := by
  unfold CK.gl at q
  simp only [Bool.and_eq_true, decide_eq_true_eq] at q
  refine ⟨?_, q.2⟩
  show X.env.scope.names.lookup x = _
  rw [h.sc]; exact q.1
theorem CkX.bi (h : CkX c X) {x : Str} (q : c.bi x = true) : Gl X x ∧ X.mg x = none := by
  unfold CK.bi at q
  rw [Bool.and_eq_true] at q
  exact ⟨(h.gl q.1).1, h.bs x q.2⟩
theorem CkX.loc (h : CkX c X) {i : Nat} {x : Str} (q : c.loc i x = true) : X.N[i]? = some x ∧ L2.Loc X.env.scope x ∧ (X.fn x = true ∨ X.env.scope.names.lookup x = some .local) := by
  unfold CK.loc at q
  simp only [Bool.and_eq_true, decide_eq_true_eq] at q
  refine ⟨by rw [h.N]; exact q.1, ?_⟩
  have z := q.2
  unfold L2.Loc
  rw [h.sc]
  split at z
  · rename_i e; exact ⟨.inl e, .inr e⟩
  · rename_i e; exact ⟨.inr e, .inl (h.fc x z)⟩
  · cases z
mutual
theorem ok_T (A : Amb X b k) (C : CkX c X) : ∀ (t : T) (e : Expr), ckT c t e = true → PG X e (tT b t)
  | .nm i, e, h => by
    cases e <;> simp only [ckT, reduceCtorEq] at h
    obtain ⟨h1, h2, h3⟩ := C.loc h
    exact snd_nm A.nd h1 h2 h3
  | .tp l, e, h => by
    cases e <;> simp only [ckT, reduceCtorEq] at h
    obtain ⟨h1, h2, h3⟩ := ok_Ts A C l _ h
    exact snd_tp A h1 h2 h3
theorem ok_Ts (A : Amb X b k) (C : CkX c X) : ∀ (l : List T) (es : List Expr), ckTs c l es = true → PGs X es (tTs b l) ∧ es.all notStar = true ∧ l.length = es.length
  | [], [], _ => ⟨snd_tpn, rfl, rfl⟩
  | [], _ :: _, h => by simp [ckTs] at h
  | _ :: _, [], h => by simp [ckTs] at h
  | t :: l, e :: es, h => by
    simp only [ckTs, Bool.and_eq_true] at h
    have ns : notStar e = true := by
      have := h.1
      cases t <;> cases e <;> first | rfl | (simp [ckT] at this)
    obtain ⟨h1, h2, h3⟩ := ok_Ts A C l es h.2
    exact ⟨snd_tpc (ok_T A C t e h.1) h1 ns, by rw [List.all_cons, ns, h2]; rfl, by rw [List.length_cons, List.length_cons, h3]⟩
end
theorem ok_Ty (C : CkX c X) : ∀ (l : List Ty) (es : List Expr), ckTy c l es = true → TyArgs X l es ∧ ∀ u ∈ l, u ≠ .none
  | [], [], _ => ⟨tyArgs_nil, fun _ h => by simp at h⟩
  | [], _ :: _, h => by simp [ckTy] at h
  | _ :: _, [], h => by simp [ckTy] at h
  | t :: l, e :: es, h => by
    cases e <;> simp only [ckTy, Bool.and_eq_true, decide_eq_true_eq, reduceCtorEq] at h
    obtain ⟨⟨⟨rfl, h1⟩, h2⟩, h3⟩ := h
    obtain ⟨h4, h5⟩ := ok_Ty C l es h3
    obtain ⟨g1, g2⟩ := C.bi h2
    refine ⟨tyArgs_cons h1 g1 g2 h4, fun u hu => ?_⟩
    rcases List.mem_cons.mp hu with rfl | hu
    · exact h1
    · exact h5 u hu
end
end G4

namespace G4
open PySem PySem.Spec PyProof.Rows L2

theorem blk_wf {X : Cx} {s : Shared} {H : Hp} {scope : Scope} {cenv : Env} {fp : List Addr} : Takes (X.blk s H scope cenv fp) Wf := takes0
theorem cks_star {c : CK} : ∀ {l : Es} {es : List Expr}, cks c l es = true → es.all notStar = true ∧ l.len = es.length
  | .nil, es, h => by
    simp only [cks, List.isEmpty_iff] at h
    subst h; exact ⟨rfl, rfl⟩
  | .cons a r, es, h => by
    cases es with
    | nil => simp [cks] at h
    | cons x xs =>
      simp only [cks, Bool.and_eq_true] at h
      obtain ⟨h1, h2⟩ := cks_star h.2
      exact ⟨by rw [List.all_cons, h.1.2, h1]; rfl, by rw [List.length_cons, ← h2]; rfl⟩
theorem kw_red {env : Env} {pos : Pos} {kws : List Keyword} {ks : List Str} {ws : Es} {c : CK} (h : ckk c ks ws kws = true) :
    (backToKw pos (keywordEach kws env)).all (·.1.isSome) = true ∧ (backToKw pos (keywordEach kws env)).filterMap (·.1) = ks ∧ (backToKw pos (keywordEach kws env)).any (·.1.isNone) = false ∧ ws.len = ks.length := by
  induction kws generalizing ks ws with
  | nil =>
    cases ws with
    | nil =>
      simp only [ckk, Bool.and_eq_true, List.isEmpty_iff] at h
      obtain ⟨rfl, _⟩ := h
      exact ⟨rfl, rfl, rfl, rfl⟩
    | cons a r => cases ks <;> simp [ckk] at h
  | cons kw kws ih =>
    cases ws with
    | nil => simp [ckk] at h
    | cons a r =>
      cases ks with
      | nil => simp [ckk] at h
      | cons n ns =>
        obtain ⟨m, x, p⟩ := kw
        simp only [ckk, Bool.and_eq_true, decide_eq_true_eq] at h
        obtain ⟨⟨rfl, h2⟩, h3⟩ := h
        obtain ⟨i1, i2, i3, i4⟩ := ih h3
        refine ⟨?_, ?_, ?_, ?_⟩
        · show (true && (backToKw pos (keywordEach kws env)).all (·.1.isSome)) = true
          rw [i1]; rfl
        · show n :: (backToKw pos (keywordEach kws env)).filterMap (·.1) = n :: ns
          rw [i2]
        · show (false || (backToKw pos (keywordEach kws env)).any (·.1.isNone)) = false
          rw [i3]; rfl
        · show r.len + 1 = ns.length + 1
          rw [i4]
section
variable {X : Cx} {b : Bs} {W : WX} {k : Nat}
/-- what is to be shown of an expression -/
def SE (e : E) : Prop := ∀ (c : CK) (X : Cx) (b : Bs) (W : WX) (k : Nat) (pe : Expr), Amb X b k → CkX c X → Takes X W → ck c e pe = true → OkX X b k e → PE X pe (tE b W (ev e))
def ST (e : E) : Prop := ∀ (c : CK) (X : Cx) (b : Bs) (W : WX) (k : Nat) (pe : Expr), Amb X b k → CkX c X → Takes X W → ck c e pe = true → OkX X b k e → PT X pe (tB' b W (evT e)) ∧ ∀ o l p, pe = .BoolOp o l p → PW X pe (tB' b W (evT e))
def SA (e : Es) : Prop := ∀ (c : CK) (X : Cx) (b : Bs) (W : WX) (k : Nat) (pe : List Expr), Amb X b k → CkX c X → Takes X W → cks c e pe = true → OkXs X b k e → PA X pe (tAs b W (evs e)) ∧ PA X pe (tOs b W (evOs e))
def SK (e : Es) : Prop := ∀ (c : CK) (X : Cx) (b : Bs) (W : WX) (k : Nat) (ks : List Str) (pe : List Keyword), Amb X b k → CkX c X → Takes X W → ckk c ks e pe = true → OkXs X b k e → PK X pe (tAs b W (evs e))
def SO (e : EO) : Prop := ∀ (c : CK) (X : Cx) (b : Bs) (W : WX) (k : Nat) (pe : Option Expr), Amb X b k → CkX c X → Takes X W → cko c e pe = true → OkXo X b k e → PO X pe (tOo b W (evo e))
def SC (e : EO) : Prop := ∀ (c : CK) (X : Cx) (b : Bs) (W : WX) (k : Nat) (pe : List Expr), Amb X b k → CkX c X → Takes X W → ckc c e pe = true → OkXo X b k e → PTs X pe (tB' b W (evc e))
def SS (e : Src) : Prop := ∀ (c : CK) (X : Cx) (b : Bs) (W : WX) (k : Nat) (tg pe : Expr), Amb X b k → CkX c X → Takes X W → ckS c e tg pe = true → OkXS X b k e → PI X tg pe (tSrc b W (evSrc e))
theorem pt_eq {e : Expr} {f g : S → O Bool} (h : PT X e (tB' b W f)) (k : ∀ s, g s = f s) : PT X e (tB' b W g) := by
  have : g = f := funext k
  rw [this]; exact h
/-- a test that is a value -/
theorem t_val {c : CK} {e : E} {pe : Expr} (A : Amb X b k) (ha : PE X pe (tE b W (ev e))) (hn : ∀ o l p, pe ≠ .BoolOp o l p) (he : ∀ whole, isTrue pe X.env whole = (do let v ← whole; standAt pe.pos; holding [v] (truthy v))) (q : ∀ s, evT e s = (ev e s).opd.bind fun r s => truV r s) :
    PT X pe (tB' b W (evT e)) ∧ ∀ o l p, pe = .BoolOp o l p → PW X pe (tB' b W (evT e)) :=
  ⟨pt_eq (tst_val A ha he) q, fun o l p z => absurd z (hn o l p)⟩
theorem t_no {pe : Expr} {e : E} (q : ∀ s, evT e s = .bad) : PT X pe (tB' b W (evT e)) ∧ ∀ o l p, pe = .BoolOp o l p → PW X pe (tB' b W (evT e)) := by
  have z : ∀ σ H Q, ¬ tB' b W (evT e) σ H Q := by
    rintro σ H Q ⟨RR, F, s, r, q'⟩
    rw [q s] at q'
    exact q'
  exact ⟨⟨fun pins s σ H Q I h => absurd h (z _ _ _)⟩, fun o l p _ => ⟨fun wh pins s σ H Q I h => absurd h (z _ _ _)⟩⟩
theorem rm_bind {o : O Bool} : (asBl o).opd.bind (fun r s => truV r s) = o := by
  cases o with
  | ok k s => cases k <;> rfl
  | ex e s => rfl
  | bad => rfl
theorem rm_bind2 {α : Type} {o : O α} {f : α → S → O Bool} : (o.bind fun x s => asBl (f x s)).opd.bind (fun r s => truV r s) = o.bind f := by
  cases o with
  | ok k s => exact rm_bind
  | ex e s => rfl
  | bad => rfl
end
mutual
theorem ok_E : ∀ e : E, SE e
  | .var i, c, X, b, W, k, pe, A, C, tk, h, o => by
    simp only [ck] at h
    split at h <;> first | contradiction | skip
    obtain ⟨h1, h2, h3⟩ := C.vis h
    exact snd_var h1 h2 (okName_1 h3) (okName_2 h3)
  | .glo y d, c, X, b, W, k, pe, A, C, tk, h, o => by
    simp only [ck] at h
    split at h <;> first | contradiction | skip
    rw [Bool.and_eq_true, decide_eq_true_eq] at h
    obtain ⟨rfl, h⟩ := h
    obtain ⟨h1, h3⟩ := C.gl h
    simp only [OkX, OkE] at o
    exact snd_glo h1 (A.K ▸ o) (okName_1 h3)
  | .int i, c, X, b, W, k, pe, A, C, tk, h, o => by
    simp only [ck] at h
    split at h <;> first | contradiction | skip
    obtain rfl := of_decide_eq_true h
    exact snd_int
  | .str i, c, X, b, W, k, pe, A, C, tk, h, o => by
    simp only [ck] at h
    split at h <;> first | contradiction | skip
    obtain rfl := of_decide_eq_true h
    exact snd_str
  | .bl i, c, X, b, W, k, pe, A, C, tk, h, o => by
    simp only [ck] at h
    split at h <;> first | contradiction | skip
    obtain rfl := of_decide_eq_true h
    exact snd_bl
  | .non, c, X, b, W, k, pe, A, C, tk, h, o => by
    simp only [ck] at h
    split at h <;> first | contradiction | skip
    exact snd_non
  | .bin op x y, c, X, b, W, k, pe, A, C, tk, h, o => by
    simp only [ck] at h
    split at h <;> first | contradiction | skip
    simp only [Bool.and_eq_true, decide_eq_true_eq] at h
    obtain ⟨⟨rfl, h1⟩, h2⟩ := h
    simp only [OkX, OkE] at o
    exact snd_bin (ok_E x c X b W k _ A C tk h1 o.1) (ok_E y c X b W k _ A C tk h2 o.2)
  | .neg x, c, X, b, W, k, pe, A, C, tk, h, o => by
    simp only [ck] at h
    split at h <;> first | contradiction | skip
    simp only [OkX, OkE] at o
    exact snd_neg (ok_E x c X b W k _ A C tk h o)
  | .not x, c, X, b, W, k, pe, A, C, tk, h, o => by
    simp only [ck] at h
    split at h <;> first | contradiction | skip
    simp only [OkX, OkE] at o
    exact snd_not A (ok_E x c X b W k _ A C tk h o)
  | .and x y, c, X, b, W, k, pe, A, C, tk, h, o => by
    simp only [OkX, OkE] at o
    simp only [ck] at h
    split at h <;> first | contradiction | skip
    · rw [Bool.and_eq_true] at h
      exact snd_and (ok_E x c X b W k _ A C tk h.1 o.1) (pe_one (ok_E y c X b W k _ A C tk h.2 o.2))
    · rw [Bool.and_eq_true] at h
      exact snd_and (ok_E x c X b W k _ A C tk h.1 o.1) (ok_E y c X b W k _ A C tk h.2 o.2)
  | .or x y, c, X, b, W, k, pe, A, C, tk, h, o => by
    simp only [OkX, OkE] at o
    simp only [ck] at h
    split at h <;> first | contradiction | skip
    · rw [Bool.and_eq_true] at h
      exact snd_or (ok_E x c X b W k _ A C tk h.1 o.1) (pe_one (ok_E y c X b W k _ A C tk h.2 o.2))
    · rw [Bool.and_eq_true] at h
      exact snd_or (ok_E x c X b W k _ A C tk h.1 o.1) (ok_E y c X b W k _ A C tk h.2 o.2)
  | .ifx t x y, c, X, b, W, k, pe, A, C, tk, h, o => by
    simp only [OkX, OkE] at o
    simp only [ck] at h
    split at h <;> first | contradiction | skip
    simp only [Bool.and_eq_true] at h
    exact snd_ifx (ok_T' t c X b W k _ A C tk h.1.1 o.1).1 (ok_E x c X b W k _ A C tk h.1.2 o.2.1) (ok_E y c X b W k _ A C tk h.2 o.2.2)
  | .cmp op x y, c, X, b, W, k, pe, A, C, tk, h, o => by
    simp only [OkX, OkE] at o
    simp only [ck] at h
    split at h <;> first | contradiction | skip
    simp only [Bool.and_eq_true, decide_eq_true_eq] at h
    obtain ⟨⟨⟨rfl, h1⟩, h2⟩, h3⟩ := h
    exact snd_cmp A (ok_E x c X b W k _ A C tk h1 o.1) (ok_E y c X b W k _ A C tk h2 o.2) (mark_no h3)
  | .cmp2 op u x y z, c, X, b, W, k, pe, A, C, tk, h, o => by
    simp only [OkX, OkE] at o
    simp only [ck] at h
    split at h <;> first | contradiction | skip
    simp only [Bool.and_eq_true, decide_eq_true_eq] at h
    obtain ⟨⟨⟨⟨⟨rfl, rfl⟩, h1⟩, h2⟩, h3⟩, h4⟩ := h
    exact snd_cmp2 A (ok_E x c X b W k _ A C tk h1 o.1) (ok_E y c X b W k _ A C tk h2 o.2.1) (ok_E z c X b W k _ A C tk h3 o.2.2) (mark_no h4)
  | .cmp3 op u v x y z d, c, X, b, W, k, pe, A, C, tk, h, o => by
    simp only [OkX, OkE] at o
    simp only [ck] at h
    split at h <;> first | contradiction | skip
    simp only [Bool.and_eq_true, decide_eq_true_eq] at h
    obtain ⟨⟨⟨⟨⟨⟨⟨rfl, rfl⟩, rfl⟩, h1⟩, h2⟩, h3⟩, h5⟩, h4⟩ := h
    exact snd_cmp3 A (ok_E x c X b W k _ A C tk h1 o.1) (ok_E y c X b W k _ A C tk h2 o.2.1) (ok_E z c X b W k _ A C tk h3 o.2.2.1) (ok_E d c X b W k _ A C tk h5 o.2.2.2) (mark_no h4)
  | .tup es, c, X, b, W, k, pe, A, C, tk, h, o => by
    simp only [OkX, OkE] at o
    simp only [ck] at h
    split at h <;> first | contradiction | skip
    simp only [Bool.and_eq_true, decide_eq_true_eq] at h
    exact snd_tup (ok_A es c X b W k _ A C tk h.1 o).1 h.2
  | .lst es, c, X, b, W, k, pe, A, C, tk, h, o => by
    simp only [OkX, OkE] at o
    simp only [ck] at h
    split at h <;> first | contradiction | skip
    simp only [Bool.and_eq_true, decide_eq_true_eq] at h
    exact snd_lst (ok_A es c X b W k _ A C tk h.1 o).1 h.2
  | .dnil, c, X, b, W, k, pe, A, C, tk, h, o => by
    simp only [ck] at h
    split at h <;> first | contradiction | skip
    exact snd_dnil
  | .ix x y, c, X, b, W, k, pe, A, C, tk, h, o => by
    simp only [OkX, OkE] at o
    simp only [ck] at h
    split at h <;> first | contradiction | skip
    simp only [Bool.and_eq_true] at h
    exact snd_ix A.K (ok_E x c X b W k _ A C tk h.1.1 o.1) (ok_E y c X b W k _ A C tk h.1.2 o.2) (slice_no h.2)
  | .sl x lo hi, c, X, b, W, k, pe, A, C, tk, h, o => by
    simp only [OkX, OkE] at o
    simp only [ck] at h
    split at h <;> first | contradiction | skip
    simp only [Bool.and_eq_true] at h
    exact snd_sl A.K (ok_E x c X b W k _ A C tk h.1.1 o.1) (ok_O lo c X b W k _ A C tk h.1.2 o.2.1) (ok_O hi c X b W k _ A C tk h.2 o.2.2)
  | .rev x, c, X, b, W, k, pe, A, C, tk, h, o => by
    simp only [OkX, OkE] at o
    simp only [ck] at h
    split at h <;> first | contradiction | skip
    exact snd_rev (ok_E x c X b W k _ A C tk h o)
  | .lc own e g src d, c, X, b, W, k, pe, A, C, tk, h, o => by
    simp only [OkX, OkE] at o
    simp only [ck] at h
    split at h <;> first | contradiction | skip
    rename_i elt tg iter ifs scope pos
    simp only [Bool.and_eq_true] at h
    obtain ⟨⟨⟨⟨⟨⟨h1, h2⟩, h3⟩, h4⟩, h5⟩, h6⟩, h7⟩ := h
    have ok : BlkOk X.N X.env.scope scope own := by rw [C.N, C.sc]; exact blkOk_by h1
    have hg : ∀ b' : Bs, b'.K = b.K → b'.g = b.g → ∀ (s : Shared) (H : Hp) (Ca : Addr) (cl : List (Str × Addr)) (fp : List Addr), PG (X.blk s H scope (compEnvC scope cl Ca X.env) fp) tg (tT b' g) := fun b' e1 e2 s H Ca cl fp =>
      ok_T (b := b') (k := k) (Amb.blk (b := b') ⟨e1.trans A.K, A.nd, A.calm, A.room, A.gd⟩ s H scope _ fp) (C.blk s H scope Ca cl fp) g tg h5
    have ht : ∀ b' : Bs, b'.K = b.K → b'.g = b.g → ∀ (s : Shared) (H : Hp) (Ca : Addr) (cl : List (Str × Addr)) (fp : List Addr), PTs (X.blk s H scope (compEnvC scope cl Ca X.env) fp) ifs (tB' b' Wf (evc d)) := fun b' e1 e2 s H Ca cl fp =>
      ok_C d (c.blk scope) _ b' Wf k ifs ⟨e1.trans A.K, A.nd, A.calm, A.room, A.gd⟩ (C.blk s H scope Ca cl fp) blk_wf h6 (by unfold OkXo; rw [e2]; exact o.2.2)
    have he : ∀ b' : Bs, b'.K = b.K → b'.g = b.g → ∀ (s : Shared) (H : Hp) (Ca : Addr) (cl : List (Str × Addr)) (fp : List Addr), PE (X.blk s H scope (compEnvC scope cl Ca X.env) fp) elt (tE b' Wf (ev e)) := fun b' e1 e2 s H Ca cl fp =>
      ok_E e (c.blk scope) _ b' Wf k elt ⟨e1.trans A.K, A.nd, A.calm, A.room, A.gd⟩ (C.blk s H scope Ca cl fp) blk_wf h7 (by unfold OkX; rw [e2]; exact o.1)
    obtain ⟨wi, gg, tt, te, g1, g2, g3, g4, g5⟩ := snd_lc (W := W) (pos := pos) A ok (fun i hi => of_decide_eq_true (List.all_eq_true.mp h2 i hi)) (ok_S src c X b W k tg iter A C tk h4 o.2.1) h3 hg ht he
    exact (pe_lc A.calm A.nd g1 ok g2 g3 g4 (fun x => set_pure h3 x)).weak g5
  | .call x f es, c, X, b, W, k, pe, A, C, tk, h, o => by
    simp only [OkX, OkE] at o
    simp only [ck] at h
    split at h <;> first | contradiction | skip
    simp only [Bool.and_eq_true, decide_eq_true_eq] at h
    obtain ⟨⟨rfl, h1⟩, h2⟩ := h
    obtain ⟨h3, h4⟩ := C.gl h1
    have hs := (cks_star h2).1
    cases es with
    | nil =>
      simp only [cks, List.isEmpty_iff] at h2
      subst h2
      exact snd_call0 A tk o.1 h3 (okName_1 h4)
    | cons a r =>
      rename_i args _
      cases args with
      | nil => simp [cks] at h2
      | cons e es =>
        rw [List.all_cons, Bool.and_eq_true] at hs
        exact snd_call A tk o.1 h3 (ok_A (.cons a r) c X b W k _ A C tk h2 o.2).1 (okName_1 h4) (star_cons hs.1) (star_any _ hs.2)
  | .callk x f pm ks ws, c, X, b, W, k, pe, A, C, tk, h, o => by
    simp only [OkX, OkE] at o
    simp only [ck] at h
    split at h <;> first | contradiction | skip
    simp only [Bool.and_eq_true, decide_eq_true_eq] at h
    obtain ⟨⟨rfl, h1⟩, h2⟩ := h
    obtain ⟨h3, h4⟩ := C.gl h1
    obtain ⟨k1, k2, k3, k4⟩ := kw_red (env := X.env) (pos := _) h2
    exact snd_callk A tk o.1 h3 (ok_K ws c X b W k ks _ A C tk h2 o.2) k1 k2 k4 (okName_1 h4) k3
  | .bi B es, c, X, b, W, k, pe, A, C, tk, h, o => by
    simp only [OkX, OkE] at o
    simp only [ck] at h
    split at h <;> first | contradiction | skip
    simp only [Bool.and_eq_true, decide_eq_true_eq] at h
    obtain ⟨⟨⟨rfl, h1⟩, h2⟩, h5⟩ := h
    obtain ⟨h3, h4⟩ := C.bi h1
    obtain ⟨hs, hl⟩ := cks_star h2
    rename_i args _
    cases args with
    | nil => rw [hl] at h5; exact absurd h5 (Nat.lt_irrefl _)
    | cons e es' =>
      rw [List.all_cons, Bool.and_eq_true] at hs
      exact snd_bi A h3 h4 (ok_A es c X b W k _ A C tk h2 o).2 (star_cons hs.1) (star_any _ hs.2)
  | .isi a ts, c, X, b, W, k, pe, A, C, tk, h, o => by
    simp only [OkX, OkE] at o
    simp only [ck] at h
    split at h <;> first | contradiction | skip
    · simp only [Bool.and_eq_true, decide_eq_true_eq] at h
      obtain ⟨⟨⟨⟨rfl, h1⟩, h2⟩, h3⟩, h4⟩ := h
      split at h4 <;> first | contradiction | skip
      simp only [Bool.and_eq_true, decide_eq_true_eq] at h4
      obtain ⟨⟨rfl, h5⟩, h6⟩ := h4
      obtain ⟨g1, g2⟩ := C.bi h1
      obtain ⟨g3, g4⟩ := C.bi h6
      exact snd_isi1 A g1 g2 (ok_E a c X b W k _ A C tk h2 o) h5 g3 g4 (star_cons h3) rfl
    · simp only [Bool.and_eq_true, decide_eq_true_eq] at h
      obtain ⟨⟨⟨⟨⟨rfl, h1⟩, h2⟩, h3⟩, h4⟩, h5⟩ := h
      obtain ⟨g1, g2⟩ := C.bi h1
      obtain ⟨g3, g4⟩ := ok_Ty C ts _ h4
      exact snd_isi A g1 g2 (ok_E a c X b W k _ A C tk h2 o) g4 h5 g3 (star_cons h3) rfl
  | .mt m a es, c, X, b, W, k, pe, A, C, tk, h, o => by
    simp only [OkX, OkE] at o
    simp only [ck] at h
    split at h <;> first | contradiction | skip
    simp only [Bool.and_eq_true, decide_eq_true_eq] at h
    obtain ⟨⟨⟨⟨hm, h1⟩, h2⟩, h3⟩, h4⟩ := h
    have hs := (cks_star h2).1
    rw [List.all_cons, Bool.and_eq_true] at hs
    unfold ckMr at hm
    split at hm <;> first | contradiction | skip
    · obtain rfl := of_decide_eq_true hm
      exact snd_count (ok_E a c X b W k _ A C tk h1 o.1) (ok_A es c X b W k _ A C tk h2 o.2).1 h3 hs.1 h4
    · obtain rfl := of_decide_eq_true hm
      exact snd_index (ok_E a c X b W k _ A C tk h1 o.1) (ok_A es c X b W k _ A C tk h2 o.2).1 h3 hs.1 h4
  | .mu m a es, c, X, b, W, k, pe, A, C, tk, h, o => by
    simp only [OkX, OkE] at o
    simp only [ck] at h
    split at h <;> first | contradiction | skip
    · simp only [Bool.and_eq_true, decide_eq_true_eq] at h
      obtain ⟨⟨⟨⟨hm, h1⟩, h2⟩, h3⟩, h4⟩ := h
      have hs := (cks_star h2).1
      rw [List.all_cons, Bool.and_eq_true] at hs
      have ia := ok_E a c X b W k _ A C tk h1 o.1
      have ie := (ok_A es c X b W k _ A C tk h2 o.2).1
      unfold ckM at hm
      split at hm <;> first | contradiction | skip
      · obtain rfl := of_decide_eq_true hm
        exact snd_append ia ie h3 hs.1 h4
      · obtain rfl := of_decide_eq_true hm
        exact snd_extend ia ie h3 hs.1 h4
      · obtain rfl := of_decide_eq_true hm
        exact snd_pop ia ie h3 hs.1 h4
    · simp only [Bool.and_eq_true, decide_eq_true_eq] at h
      obtain ⟨⟨⟨⟨⟨rfl, rfl⟩, h1⟩, h2⟩, h3⟩, h4⟩ := h
      have hs := (cks_star h2).1
      rw [List.all_cons, Bool.and_eq_true, List.all_cons, Bool.and_eq_true] at hs
      exact snd_insert (ok_E a c X b W k _ A C tk h1 o.1) (ok_A es c X b W k _ A C tk h2 o.2).1 h3 hs.1 hs.2.1 h4
  | .alc e, c, X, b, W, k, pe, A, C, tk, h, o => by
    simp only [OkX, OkE] at o
    simp only [ck] at h
    exact snd_alc (ok_E e c X b W k _ A C tk h o)
  | .dead, c, X, b, W, k, pe, A, C, tk, h, o => ⟨fun pins s σ H Q I ⟨RR, F, s0, r, q⟩ => by
      simp only [ev] at q
      exact q.elim⟩
  | .dget x y z, c, X, b, W, k, pe, A, C, tk, h, o => by
    simp only [OkX, OkE] at o
    simp only [ck] at h
    split at h <;> first | contradiction | skip
    simp only [Bool.and_eq_true, decide_eq_true_eq] at h
    obtain ⟨⟨⟨⟨⟨⟨⟨rfl, h1⟩, h2⟩, h3⟩, h4⟩, h5⟩, h6⟩, h7⟩ := h
    exact snd_dget A (ok_E x c X b W k _ A C tk h1 o.1) (ok_E y c X b W k _ A C tk h2 o.2.1) (ok_E z c X b W k _ A C tk h3 o.2.2) h4 h5 h6 h7
  | .dix x y, c, X, b, W, k, pe, A, C, tk, h, o => by
    simp only [OkX, OkE] at o
    simp only [ck] at h
    split at h <;> first | contradiction | skip
    simp only [Bool.and_eq_true] at h
    exact snd_dix A (ok_E x c X b W k _ A C tk h.1.1 o.1) (ok_E y c X b W k _ A C tk h.1.2 o.2) h.2
  | .sset a, c, X, b, W, k, pe, A, C, tk, h, o => by
    simp only [OkX, OkE] at o
    simp only [ck] at h
    split at h <;> first | contradiction | skip
    simp only [Bool.and_eq_true, decide_eq_true_eq] at h
    obtain ⟨⟨⟨⟨⟨rfl, h1⟩, rfl⟩, h2⟩, h3⟩, h4⟩ := h
    obtain ⟨g1, g2⟩ := C.bi h1
    obtain ⟨g3, g4⟩ := C.bi h2
    exact snd_sset A g1 g2 g3 g4 (ok_E a c X b W k _ A C tk h3 o) h4
  | .mov i, c, X, b, W, k, pe, A, C, tk, h, o => by
    simp only [ck] at h
    split at h <;> first | contradiction | skip
    obtain ⟨h1, h2, h3⟩ := C.vis h
    exact snd_mov h1 h2 (okName_1 h3) (okName_2 h3)
  | .callb x f i, c, X, b, W, k, pe, A, C, tk, h, o => by
    simp only [OkX, OkE] at o
    simp only [ck] at h
    split at h <;> first | contradiction | skip
    simp only [Bool.and_eq_true, decide_eq_true_eq] at h
    obtain ⟨⟨rfl, h1⟩, h2⟩ := h
    obtain ⟨h3, h4⟩ := C.gl h1
    obtain ⟨g1, g2, g3⟩ := C.vis h2
    exact snd_callb A tk o h3 g1 g2 (okName_1 g3) (okName_2 g3) (okName_1 h4) rfl rfl
  | .lend is e, c, X, b, W, k, pe, A, C, tk, h, o => by
    simp only [OkX, OkE] at o
    simp only [ck] at h
    split at h <;> first | contradiction | skip
    exact snd_lend fun b' h1 h2 => ok_E e c X b' W k _ ⟨h1.trans A.K, A.nd, A.calm, A.room, A.gd⟩ C tk h (by rw [OkX, h2]; exact o)
  | .rpd a, c, X, b, W, k, pe, A, C, tk, h, o => by
    simp only [OkX, OkE] at o
    simp only [ck] at h
    split at h <;> first | contradiction | skip
    simp only [Bool.and_eq_true, decide_eq_true_eq] at h
    obtain ⟨⟨⟨rfl, h1⟩, h3⟩, h4⟩ := h
    obtain ⟨g1, g2⟩ := C.bi h1
    exact snd_rpd A g1 g2 (ok_E a c X b W k _ A C tk h3 o) h4
  | .dne a, c, X, b, W, k, pe, A, C, tk, h, o => by
    simp only [OkX, OkE] at o
    simp only [ck] at h
    split at h <;> first | contradiction | skip
    exact snd_dne A (ok_E a c X b W k _ A C tk h o)
  | .maxv a, c, X, b, W, k, pe, A, C, tk, h, o => by
    simp only [OkX, OkE] at o
    simp only [ck] at h
    split at h <;> first | contradiction | skip
    simp only [Bool.and_eq_true, decide_eq_true_eq] at h
    obtain ⟨⟨⟨⟨⟨rfl, h1⟩, rfl⟩, h2⟩, h3⟩, h4⟩ := h
    obtain ⟨g1, g2⟩ := C.bi h1
    exact snd_maxv A g1 g2 (ok_E a c X b W k _ A C tk h2 o) h3 h4
  | .bits a, c, X, b, W, k, pe, A, C, tk, h, o => by
    simp only [OkX, OkE] at o
    simp only [ck] at h
    split at h <;> first | contradiction | skip
    simp only [Bool.and_eq_true, decide_eq_true_eq] at h
    obtain ⟨⟨⟨rfl, h1⟩, h2⟩, h3⟩ := h
    exact snd_bits (ok_E a c X b W k _ A C tk h1 o) h2 h3
  | .starT x a, c, X, b, W, k, pe, A, C, tk, h, o => by
    simp only [OkX, OkE] at o
    simp only [ck] at h
    split at h <;> first | contradiction | skip
    simp only [Bool.and_eq_true] at h
    exact snd_starT A.K (ok_E x c X b W k _ A C tk h.1.1 o.1) (ok_E a c X b W k _ A C tk h.2 o.2) h.1.2
  | .starL x a, c, X, b, W, k, pe, A, C, tk, h, o => by
    simp only [OkX, OkE] at o
    simp only [ck] at h
    split at h <;> first | contradiction | skip
    simp only [Bool.and_eq_true] at h
    exact snd_starL A.K (ok_E x c X b W k _ A C tk h.1.1 o.1) (ok_E a c X b W k _ A C tk h.2 o.2) h.1.2
  | .starR a x, c, X, b, W, k, pe, A, C, tk, h, o => by
    simp only [OkX, OkE] at o
    simp only [ck] at h
    split at h <;> first | contradiction | skip
    simp only [Bool.and_eq_true] at h
    exact snd_starR A.K (ok_E a c X b W k _ A C tk h.1.1 o.1) (ok_E x c X b W k _ A C tk h.1.2 o.2) h.2
  | .lset a, c, X, b, W, k, pe, A, C, tk, h, o => by
    simp only [OkX, OkE] at o
    simp only [ck] at h
    split at h <;> first | contradiction | skip
    simp only [Bool.and_eq_true, decide_eq_true_eq] at h
    obtain ⟨⟨⟨⟨⟨rfl, h1⟩, rfl⟩, h2⟩, h3⟩, h4⟩ := h
    obtain ⟨g1, g2⟩ := C.bi h1
    obtain ⟨g3, g4⟩ := C.bi h2
    exact snd_lset A g1 g2 g3 g4 (ok_E a c X b W k _ A C tk h3 o) h4
  | .lrng a d f, c, X, b, W, k, pe, A, C, tk, h, o => by
    simp only [OkX, OkE] at o
    simp only [ck] at h
    split at h <;> first | contradiction | skip
    simp only [Bool.and_eq_true, decide_eq_true_eq] at h
    obtain ⟨⟨⟨⟨⟨⟨⟨⟨⟨rfl, h1⟩, rfl⟩, h2⟩, h3⟩, h4⟩, h5⟩, h6⟩, h7⟩, h8⟩ := h
    obtain ⟨g1, g2⟩ := C.bi h1
    obtain ⟨g3, g4⟩ := C.bi h2
    exact snd_lrng A g1 g2 g3 g4 (ok_E a c X b W k _ A C tk h3 o.1) (ok_E d c X b W k _ A C tk h5 o.2.1) (ok_E f c X b W k _ A C tk h7 o.2.2) h4 h6 h8
  | .zip3 a d f, c, X, b, W, k, pe, A, C, tk, h, o => by
    simp only [OkX, OkE] at o
    simp only [ck] at h
    split at h <;> first | contradiction | skip
    simp only [Bool.and_eq_true, decide_eq_true_eq] at h
    obtain ⟨⟨⟨⟨⟨⟨⟨⟨⟨rfl, h1⟩, rfl⟩, h2⟩, h3⟩, h4⟩, h5⟩, h6⟩, h7⟩, h8⟩ := h
    obtain ⟨g1, g2⟩ := C.bi h1
    obtain ⟨g3, g4⟩ := C.bi h2
    exact snd_zip3 A g1 g2 g3 g4 (ok_E a c X b W k _ A C tk h3 o.1) (ok_E d c X b W k _ A C tk h5 o.2.1) (ok_E f c X b W k _ A C tk h7 o.2.2) h4 h6 h8
theorem ok_T' : ∀ e : E, ST e
  | .not x, c, X, b, W, k, pe, A, C, tk, h, o => by
    simp only [OkX, OkE] at o
    simp only [ck] at h
    split at h <;> first | contradiction | skip
    exact ⟨tst_not (ok_T' x c X b W k _ A C tk h o).1, fun _ _ _ z => by cases z⟩
  | .and x y, c, X, b, W, k, pe, A, C, tk, h, o => by
    simp only [OkX, OkE] at o
    simp only [ck] at h
    split at h <;> first | contradiction | skip
    · rename_i p
      rw [Bool.and_eq_true] at h
      have w := tst_and (ok_T' x c X b W k _ A C tk h.1 o.1).1 (pw_and1 (pos := p) (ok_T' y c X b W k _ A C tk h.2 o.2).1)
      exact ⟨w.pt, fun _ _ _ _ => w⟩
    · rw [Bool.and_eq_true] at h
      have w := tst_and (ok_T' x c X b W k _ A C tk h.1 o.1).1 ((ok_T' y c X b W k _ A C tk h.2 o.2).2 _ _ _ rfl)
      exact ⟨w.pt, fun _ _ _ _ => w⟩
  | .or x y, c, X, b, W, k, pe, A, C, tk, h, o => by
    simp only [OkX, OkE] at o
    simp only [ck] at h
    split at h <;> first | contradiction | skip
    · rename_i p
      rw [Bool.and_eq_true] at h
      have w := tst_or (ok_T' x c X b W k _ A C tk h.1 o.1).1 (pw_or1 (pos := p) (ok_T' y c X b W k _ A C tk h.2 o.2).1)
      exact ⟨w.pt, fun _ _ _ _ => w⟩
    · rw [Bool.and_eq_true] at h
      have w := tst_or (ok_T' x c X b W k _ A C tk h.1 o.1).1 ((ok_T' y c X b W k _ A C tk h.2 o.2).2 _ _ _ rfl)
      exact ⟨w.pt, fun _ _ _ _ => w⟩
  | .cmp op x y, c, X, b, W, k, pe, A, C, tk, h, o => by
    simp only [OkX, OkE] at o
    simp only [ck] at h
    split at h <;> first | contradiction | skip
    simp only [Bool.and_eq_true, decide_eq_true_eq] at h
    obtain ⟨⟨⟨rfl, h1⟩, h2⟩, h3⟩ := h
    exact ⟨tst_cmp A (ok_E x c X b W k _ A C tk h1 o.1) (ok_E y c X b W k _ A C tk h2 o.2) (mark_no h3), fun _ _ _ z => by cases z⟩
  | .cmp2 op u x y z, c, X, b, W, k, pe, A, C, tk, h, o => by
    simp only [OkX, OkE] at o
    simp only [ck] at h
    split at h <;> first | contradiction | skip
    simp only [Bool.and_eq_true, decide_eq_true_eq] at h
    obtain ⟨⟨⟨⟨⟨rfl, rfl⟩, h1⟩, h2⟩, h3⟩, h4⟩ := h
    exact ⟨tst_cmp2 A (ok_E x c X b W k _ A C tk h1 o.1) (ok_E y c X b W k _ A C tk h2 o.2.1) (ok_E z c X b W k _ A C tk h3 o.2.2) (mark_no h4), fun _ _ _ z => by cases z⟩
  | .cmp3 op u v x y z d, c, X, b, W, k, pe, A, C, tk, h, o => by
    simp only [OkX, OkE] at o
    simp only [ck] at h
    split at h <;> first | contradiction | skip
    simp only [Bool.and_eq_true, decide_eq_true_eq] at h
    obtain ⟨⟨⟨⟨⟨⟨⟨rfl, rfl⟩, rfl⟩, h1⟩, h2⟩, h3⟩, h5⟩, h4⟩ := h
    exact ⟨tst_cmp3 A (ok_E x c X b W k _ A C tk h1 o.1) (ok_E y c X b W k _ A C tk h2 o.2.1) (ok_E z c X b W k _ A C tk h3 o.2.2.1) (ok_E d c X b W k _ A C tk h5 o.2.2.2) (mark_no h4), fun _ _ _ z => by cases z⟩
  | .call x f es, c, X, b, W, k, pe, A, C, tk, h, o => by
    have g := ok_E (.call x f es) c X b W k pe A C tk h o
    simp only [ck] at h
    split at h <;> first | contradiction | skip
    exact t_val (c := c) A g (fun _ _ _ z => by cases z) (fun _ => rfl) fun s => by simp only [ev, evT]
  | .var i, c, X, b, W, k, pe, A, C, tk, h, o => by
    have g := ok_E (.var i) c X b W k pe A C tk h o
    simp only [ck] at h
    split at h <;> first | contradiction | skip
    refine t_val (c := c) A g (fun _ _ _ z => by cases z) (fun _ => rfl) fun s => ?_
    simp only [ev, evT]
    cases s.sl[i]? with
    | none => rfl
    | some z => cases z <;> rfl
  | .bi B es, c, X, b, W, k, pe, A, C, tk, h, o => by
    have g := ok_E (.bi B es) c X b W k pe A C tk h o
    simp only [ck] at h
    split at h <;> first | contradiction | skip
    exact t_val (c := c) A g (fun _ _ _ z => by cases z) (fun _ => rfl) fun s => by simp only [ev, evT]
  | .ix x y, c, X, b, W, k, pe, A, C, tk, h, o => by
    have g := ok_E (.ix x y) c X b W k pe A C tk h o
    simp only [ck] at h
    split at h <;> first | contradiction | skip
    exact t_val (c := c) A g (fun _ _ _ z => by cases z) (fun _ => rfl) fun s => by simp only [ev, evT]
  | .isi a ts, c, X, b, W, k, pe, A, C, tk, h, o => by
    have g := ok_E (.isi a ts) c X b W k pe A C tk h o
    simp only [ck] at h
    split at h <;> first | contradiction | skip
    · exact t_val (c := c) A g (fun _ _ _ z => by cases z) (fun _ => rfl) fun s => by simp only [ev, evT, rm_bind2]
    · exact t_val (c := c) A g (fun _ _ _ z => by cases z) (fun _ => rfl) fun s => by simp only [ev, evT, rm_bind2]
  | .bl v, c, X, b, W, k, pe, A, C, tk, h, o => by
    have g := ok_E (.bl v) c X b W k pe A C tk h o
    simp only [ck] at h
    split at h <;> first | contradiction | skip
    refine t_val (c := c) A g (fun _ _ _ z => by cases z) (fun _ => rfl) fun s => ?_
    simp only [ev, evT]
    cases v <;> rfl
  | .glo _ _, c, X, b, W, k, pe, A, C, tk, h, o => t_no fun s => by simp only [evT]
  | .int _, c, X, b, W, k, pe, A, C, tk, h, o => t_no fun s => by simp only [evT]
  | .str _, c, X, b, W, k, pe, A, C, tk, h, o => t_no fun s => by simp only [evT]
  | .non, c, X, b, W, k, pe, A, C, tk, h, o => t_no fun s => by simp only [evT]
  | .bin _ _ _, c, X, b, W, k, pe, A, C, tk, h, o => t_no fun s => by simp only [evT]
  | .neg _, c, X, b, W, k, pe, A, C, tk, h, o => t_no fun s => by simp only [evT]
  | .ifx _ _ _, c, X, b, W, k, pe, A, C, tk, h, o => t_no fun s => by simp only [evT]
  | .tup _, c, X, b, W, k, pe, A, C, tk, h, o => t_no fun s => by simp only [evT]
  | .lst _, c, X, b, W, k, pe, A, C, tk, h, o => t_no fun s => by simp only [evT]
  | .dnil, c, X, b, W, k, pe, A, C, tk, h, o => t_no fun s => by simp only [evT]
  | .sl _ _ _, c, X, b, W, k, pe, A, C, tk, h, o => t_no fun s => by simp only [evT]
  | .rev _, c, X, b, W, k, pe, A, C, tk, h, o => t_no fun s => by simp only [evT]
  | .lc _ _ _ _ _, c, X, b, W, k, pe, A, C, tk, h, o => t_no fun s => by simp only [evT]
  | .callk _ _ _ _ _, c, X, b, W, k, pe, A, C, tk, h, o => t_no fun s => by simp only [evT]
  | .mt _ _ _, c, X, b, W, k, pe, A, C, tk, h, o => t_no fun s => by simp only [evT]
  | .mu _ _ _, c, X, b, W, k, pe, A, C, tk, h, o => t_no fun s => by simp only [evT]
  | .alc _, c, X, b, W, k, pe, A, C, tk, h, o => t_no fun s => by simp only [evT]
  | .sset _, c, X, b, W, k, pe, A, C, tk, h, o => t_no fun s => by simp only [evT]
  | .zip3 _ _ _, c, X, b, W, k, pe, A, C, tk, h, o => t_no fun s => by simp only [evT]
  | .dget _ _ _, c, X, b, W, k, pe, A, C, tk, h, o => t_no fun s => by simp only [evT]
  | .dead, c, X, b, W, k, pe, A, C, tk, h, o => t_no fun s => by simp only [evT]
  | .rpd _, c, X, b, W, k, pe, A, C, tk, h, o => t_no fun s => by simp only [evT]
  | .lend is e, c, X, b, W, k, pe, A, C, tk, h, o => by
    simp only [OkX, OkE] at o
    simp only [ck] at h
    split at h <;> first | contradiction | skip
    rename_i hne
    exact ⟨tst_lend fun b' h1 h2 => (ok_T' e c X b' W k _ ⟨h1.trans A.K, A.nd, A.calm, A.room, A.gd⟩ C tk h (by rw [OkX, h2]; exact o)).1, fun o l p z => absurd z (hne o l p)⟩
  | .mov _, c, X, b, W, k, pe, A, C, tk, h, o => t_no fun s => by simp only [evT]
  | .callb _ _ _, c, X, b, W, k, pe, A, C, tk, h, o => t_no fun s => by simp only [evT]
  | .lset _, c, X, b, W, k, pe, A, C, tk, h, o => t_no fun s => by simp only [evT]
  | .bits _, c, X, b, W, k, pe, A, C, tk, h, o => t_no fun s => by simp only [evT]
  | .maxv _, c, X, b, W, k, pe, A, C, tk, h, o => t_no fun s => by simp only [evT]
  | .dne a, c, X, b, W, k, pe, A, C, tk, h, o => by
    simp only [OkX, OkE] at o
    simp only [ck] at h
    split at h <;> first | contradiction | skip
    exact ⟨tst_dne A (ok_E a c X b W k _ A C tk h o), fun _ _ _ z => by cases z⟩
  | .starT _ _, c, X, b, W, k, pe, A, C, tk, h, o => t_no fun s => by simp only [evT]
  | .starL _ _, c, X, b, W, k, pe, A, C, tk, h, o => t_no fun s => by simp only [evT]
  | .starR _ _, c, X, b, W, k, pe, A, C, tk, h, o => t_no fun s => by simp only [evT]
  | .lrng _ _ _, c, X, b, W, k, pe, A, C, tk, h, o => t_no fun s => by simp only [evT]
  | .dix _ _, c, X, b, W, k, pe, A, C, tk, h, o => t_no fun s => by simp only [evT]
theorem ok_A : ∀ e : Es, SA e
  | .nil, c, X, b, W, k, pe, A, C, tk, h, o => by
    simp only [cks, List.isEmpty_iff] at h
    subst h
    exact ⟨snd_nil, sndO_nil⟩
  | .cons a r, c, X, b, W, k, pe, A, C, tk, h, o => by
    simp only [OkXs, OkEs] at o
    simp only [cks] at h
    split at h <;> first | contradiction | skip
    simp only [Bool.and_eq_true] at h
    have i1 := ok_E a c X b W k _ A C tk h.1.1 o.1
    have i2 := ok_A r c X b W k _ A C tk h.2 o.2
    exact ⟨snd_cons i1 i2.1 (star_cons h.1.2), sndO_cons i1 i2.2 (star_cons h.1.2)⟩
theorem ok_K : ∀ e : Es, SK e
  | .nil, c, X, b, W, k, ks, pe, A, C, tk, h, o => by
    simp only [ckk, Bool.and_eq_true, List.isEmpty_iff] at h
    obtain ⟨rfl, rfl⟩ := h
    exact sndK_nil
  | .cons a r, c, X, b, W, k, ks, pe, A, C, tk, h, o => by
    simp only [OkXs, OkEs] at o
    cases ks with
    | nil => simp [ckk] at h
    | cons n ns =>
      cases pe with
      | nil => simp [ckk] at h
      | cons kw kws =>
        obtain ⟨m, x, p⟩ := kw
        simp only [ckk, Bool.and_eq_true, decide_eq_true_eq] at h
        exact sndK_cons (ok_E a c X b W k _ A C tk h.1.2 o.1) (ok_K r c X b W k ns _ A C tk h.2 o.2)
theorem ok_O : ∀ e : EO, SO e
  | .no, c, X, b, W, k, pe, A, C, tk, h, o => by
    simp only [cko, Option.isNone_iff_eq_none] at h
    subst h
    exact snd_no
  | .so a, c, X, b, W, k, pe, A, C, tk, h, o => by
    simp only [OkXo, OkO] at o
    simp only [cko] at h
    split at h <;> first | contradiction | skip
    exact snd_so (ok_E a c X b W k _ A C tk h o)
theorem ok_C : ∀ e : EO, SC e
  | .no, c, X, b, W, k, pe, A, C, tk, h, o => by
    simp only [ckc, List.isEmpty_iff] at h
    subst h
    refine ⟨fun pins s σ H Q I ⟨RR, F, s0, r, q⟩ => pts_nil.run pins s σ H Q I ?_⟩
    simp only [evc] at q
    exact q.now r
  | .so a, c, X, b, W, k, pe, A, C, tk, h, o => by
    simp only [OkXo, OkO] at o
    simp only [ckc] at h
    split at h <;> first | contradiction | skip
    have i := pts_one (ok_T' a c X b W k _ A C tk h o).1
    refine ⟨fun pins s σ H Q I ⟨RR, F, s0, r, q⟩ => i.run pins s σ H Q I ⟨RR, F, s0, r, ?_⟩⟩
    simp only [evc] at q
    exact q
theorem ok_S : ∀ e : Src, SS e
  | .seq a, c, X, b, W, k, tg, pe, A, C, tk, h, o => by
    simp only [OkXS, OkS] at o
    simp only [ckS] at h
    exact snd_seq A.K (ok_E a c X b W k _ A C tk h o)
  | .rng1 a, c, X, b, W, k, tg, pe, A, C, tk, h, o => by
    simp only [OkXS, OkS] at o
    simp only [ckS] at h
    split at h <;> first | contradiction | skip
    simp only [Bool.and_eq_true, decide_eq_true_eq] at h
    obtain ⟨⟨⟨rfl, h1⟩, h2⟩, h3⟩ := h
    obtain ⟨g1, g2⟩ := C.bi h1
    exact snd_rng1 g1 g2 (ok_E a c X b W k _ A C tk h2 o) h3
  | .rng2 a d, c, X, b, W, k, tg, pe, A, C, tk, h, o => by
    simp only [OkXS, OkS] at o
    simp only [ckS] at h
    split at h <;> first | contradiction | skip
    simp only [Bool.and_eq_true, decide_eq_true_eq] at h
    obtain ⟨⟨⟨⟨⟨rfl, h1⟩, h2⟩, h3⟩, h4⟩, h5⟩ := h
    obtain ⟨g1, g2⟩ := C.bi h1
    exact snd_rng2 g1 g2 (ok_E a c X b W k _ A C tk h2 o.1) (ok_E d c X b W k _ A C tk h4 o.2) h3 h5
  | .enum a, c, X, b, W, k, tg, pe, A, C, tk, h, o => by
    simp only [OkXS, OkS] at o
    simp only [ckS] at h
    split at h <;> first | contradiction | skip
    simp only [Bool.and_eq_true, decide_eq_true_eq] at h
    obtain ⟨⟨⟨⟨rfl, h1⟩, h2⟩, h3⟩, h4⟩ := h
    obtain ⟨g1, g2⟩ := C.bi h1
    unfold isTup at h4
    split at h4 <;> first | contradiction | skip
    exact snd_enum A.K g1 g2 (ok_E a c X b W k _ A C tk h2 o) h3
  | .zip a d, c, X, b, W, k, tg, pe, A, C, tk, h, o => by
    simp only [OkXS, OkS] at o
    simp only [ckS] at h
    split at h <;> first | contradiction | skip
    simp only [Bool.and_eq_true, decide_eq_true_eq] at h
    obtain ⟨⟨⟨⟨⟨⟨rfl, h1⟩, h2⟩, h3⟩, h4⟩, h5⟩, h6⟩ := h
    obtain ⟨g1, g2⟩ := C.bi h1
    unfold isTup at h6
    split at h6 <;> first | contradiction | skip
    exact snd_zip A.K g1 g2 (ok_E a c X b W k _ A C tk h2 o.1) (ok_E d c X b W k _ A C tk h4 o.2) h3 h5
end
end G4

namespace G4
open PySem PySem.Spec PyProof.Rows L2

/-! ### objects of the store forgotten -/
mutual
theorem under_pure (n : Nat) : ∀ d : D, d.pure = true → d.under n = true
  | .non, _ => by rw [D.under]
  | .bl _, _ => by rw [D.under]
  | .int _, _ => by rw [D.under]
  | .str _, _ => by rw [D.under]
  | .tup l, h => by rw [D.under]; exact unders_pure n l (by rw [D.pure] at h; exact h)
  | .lst l, h => by rw [D.under]; exact unders_pure n l (by rw [D.pure] at h; exact h)
  | .dct l, h => by rw [D.under]; exact underK_pure n l (by rw [D.pure] at h; exact h)
  | .obj k, h => by rw [D.pure] at h; cases h
  | .fn _, _ => by rw [D.under]
  | .scr _, _ => by rw [D.under]
theorem unders_pure (n : Nat) : ∀ l : List D, D.pures l = true → D.unders n l = true
  | [], _ => by rw [D.unders]
  | d :: l, h => by
    rw [D.pures, Bool.and_eq_true] at h
    rw [D.unders, under_pure n d h.1, unders_pure n l h.2]; rfl
theorem underK_pure (n : Nat) : ∀ l : List (Key × D), D.pureK l = true → D.underK n l = true
  | [], _ => by rw [D.underK]
  | (k, d) :: l, h => by
    rw [D.pureK, Bool.and_eq_true] at h
    rw [D.underK, under_pure n d h.1, underK_pure n l h.2]; rfl
end
section
variable {K : PySem.W.Frag} {g : Str → Option Addr} {RR : List Addr} {F H : Hp} {n : Nat}
mutual
theorem Rep.low : ∀ {d : D} {v : V}, Rep K g RR F d v → d.under n = true → Rep K g (RR.take n) F d v
  | .non, _, .non, _ => .non
  | .bl _, _, .bl _, _ => .bl _
  | .int _, _, .int _, _ => .int _
  | .str _, _, .str _, _ => .str _
  | .tup l, _, .tup h r, u => .tup h (Reps.low r (by rw [D.under] at u; exact u))
  | .lst l, _, .lst h r, u => .lst h (Reps.low r (by rw [D.under] at u; exact u))
  | .dct l, _, .dct h r, u => .dct h (RepK.low r (by rw [D.under] at u; exact u))
  | .obj k, _, .obj h, u => .obj (by rw [D.under] at u; rw [List.getElem?_take_of_lt (of_decide_eq_true u)]; exact h)
  | .fn _, _, .fn h, _ => .fn h
  | .scr _, _, .scr h, _ => .scr h
theorem Reps.low : ∀ {l : List D} {vs : List V}, Reps K g RR F l vs → D.unders n l = true → Reps K g (RR.take n) F l vs
  | [], _, .nil, _ => .nil
  | d :: l, _, .cons h r, u => by
    rw [D.unders, Bool.and_eq_true] at u
    exact .cons (Rep.low h u.1) (Reps.low r u.2)
theorem RepK.low : ∀ {l : List (Key × D)} {vs : List (Key × V)}, RepK K g RR F l vs → D.underK n l = true → RepK K g (RR.take n) F l vs
  | [], _, .nil, _ => .nil
  | (k, d) :: l, _, .cons h r, u => by
    rw [D.underK, Bool.and_eq_true] at u
    exact .cons (Rep.low h u.1) (RepK.low r u.2)
end
theorem CellAt.low {a : Addr} {c : Cell} (h : CellAt K g RR F H a c) (p : c.pure = true) : CellAt K g (RR.take n) F H a c := by
  cases h with
  | lst h r => exact .lst h (r.low (unders_pure n _ p))
  | dK h r => exact .dK h (r.low (underK_pure n _ p))
end
section
variable {X : Cx} {b : Bs} {W : WX} {k : Nat} {σ : L2.St} {RR RR' : List Addr} {F F' H H' : Hp} {s : S} {Q : VK} {n : Nat}
theorem take_pre {α : Type} {l m : List α} (h : l <+: m) : m.take l.length = l := by
  obtain ⟨r, rfl⟩ := h
  simp
theorem keepSl {sl : List SV} {i : Nat} {x : SV} (h : (sl.map (SV.keep n))[i]? = some x) : ∃ y, sl[i]? = some y ∧ y.keep n = x := by
  rw [List.getElem?_map] at h
  cases q : sl[i]? with
  | none => rw [q] at h; cases h
  | some y => rw [q] at h; cases h; exact ⟨y, rfl, rfl⟩
theorem keep_d {y : SV} {x : D} (h : y.keep n = .d x) : y = .d x ∧ x.under n = true := by
  cases y with
  | un => cases h
  | d z =>
    simp only [SV.keep] at h
    split at h
    · cases h; exact ⟨rfl, by assumption⟩
    · cases h
  | own c => simp only [SV.keep] at h; split at h <;> cases h
theorem keep_o {y : SV} {c : Cell} (h : y.keep n = .own c) : y = .own c ∧ c.pure = true := by
  cases y with
  | un => cases h
  | d z => simp only [SV.keep] at h; split at h <;> cases h
  | own d =>
    simp only [SV.keep] at h
    split at h
    · cases h; exact ⟨rfl, by assumption⟩
    · cases h
theorem Rel.gc (r : Rel b RR F s σ H) (h0 : b.R0.length ≤ n) (hn : n ≤ RR.length) : Rel b (RR.take n) F (s.gc n) σ H := by
  unfold S.gc
  split
  · rename_i e
    have : RR.take n = RR := List.take_of_length_le (by rw [← r.stl, e]; exact Nat.le_refl _)
    rw [this]; exact r
  · have sub : ∀ {a}, a ∈ RR.take n → a ∈ RR := fun h => (List.take_sublist n RR).subset h
    refine ⟨r.fz, r.f0, r.fn, r.keep, ?_, fun a m => r.new a (sub m), r.nd.sublist (List.take_sublist n RR), fun a m => r.rf a (sub m), ?_, fun m c a h1 h2 => ?_, ?_, fun i x h => ?_, fun i c h => ?_, fun i j c d a h1 h2 h3 h4 => ?_⟩
    · rw [List.prefix_take_iff]; exact ⟨r.pre, h0⟩
    · show (s.st.take n).length = (RR.take n).length
      rw [List.length_take, List.length_take, r.stl]
    · have hm : m < n := by
        have := (List.getElem?_eq_some_iff.mp h2).1
        rw [List.length_take] at this; omega
      rw [List.getElem?_take_of_lt hm] at h1 h2
      obtain ⟨g1, g2⟩ := r.st m c a h1 h2
      exact ⟨g1.low g2, g2⟩
    · show (s.sl.map (SV.keep n)).length = σ.length
      rw [List.length_map]; exact r.len
    · obtain ⟨y, h1, h2⟩ := keepSl h
      obtain ⟨rfl, hu⟩ := keep_d h2
      obtain ⟨v, g1, g2⟩ := r.sd i x h1
      exact ⟨v, g1, g2.low hu⟩
    · obtain ⟨y, h1, h2⟩ := keepSl h
      obtain ⟨rfl, hu⟩ := keep_o h2
      obtain ⟨a, g1, g2, g3, g4, g5⟩ := r.so i c h1
      exact ⟨a, g1, g2.low hu, g3, fun m => g4 (sub m), g5⟩
    · obtain ⟨y, k1, k2⟩ := keepSl h1
      obtain ⟨z, k3, k4⟩ := keepSl h2
      obtain ⟨rfl, _⟩ := keep_o k2
      obtain ⟨rfl, _⟩ := keep_o k4
      exact r.ap i j c d a k1 k3 h3 h4
theorem Lone.setD {a : Addr} (l : Lone b RR F s σ a) {i : Nat} {x : D} {v : V} : Lone b RR F ⟨s.sl.set i (.d x), s.st⟩ (σ.set i (some v)) a := ⟨l.f, l.r, l.h, fun j c h q => by
  rcases set_cases h with ⟨_, e, _⟩ | ⟨m, h⟩
  · cases e
  · rw [List.getElem?_set_ne (Ne.symm m)] at q; exact l.o j c h q⟩
theorem Lone.setO {a a' : Addr} (l : Lone b RR F s σ a) (ne : a ≠ a') {i : Nat} {x : Cell} : Lone b RR F ⟨s.sl.set i (.own x), s.st⟩ (σ.set i (some (.ref a'))) a := ⟨l.f, l.r, l.h, fun j c h q => by
  rcases set_cases h with ⟨rfl, e, hl⟩ | ⟨m, h⟩
  · rw [List.getElem?_set] at q
    split at q
    · split at q
      · cases q; exact ne rfl
      · cases q
    · rename_i z; exact z rfl
  · rw [List.getElem?_set_ne (Ne.symm m)] at q; exact l.o j c h q⟩
theorem Rel.lonePop (r : Rel b RR F s σ H) (h0 : b.R0.length ≤ n) (hn : n ≤ RR.length) {m : Nat} {a : Addr} (hm : n ≤ m) (ha : RR[m]? = some a) : Lone b (RR.take n) F (s.gc n) σ a := by
  have ha' := List.mem_of_getElem? ha
  have nr : a ∉ RR.take n := fun z => by
    obtain ⟨j, hj, e⟩ := List.getElem_of_mem z
    rw [List.length_take] at hj
    have e2 : RR[j]? = some a := by rw [← e, List.getElem_take]; exact List.getElem?_eq_getElem (by omega)
    obtain ⟨h1, e1⟩ := List.getElem?_eq_some_iff.mp ha
    obtain ⟨h2, e3⟩ := List.getElem?_eq_some_iff.mp e2
    have := (List.getElem_inj r.nd).mp (e1.trans e3.symm)
    omega
  refine ⟨r.rf a ha', nr, r.new a ha' fun z => nr ((List.prefix_take_iff.mpr ⟨r.pre, h0⟩).subset z), fun i c h q => ?_⟩
  have h2 : s.sl[i]? = some (.own c) := by
    unfold S.gc at h
    split at h
    · exact h
    · obtain ⟨y, k1, k2⟩ := keepSl h
      obtain ⟨rfl, _⟩ := keep_o k2
      exact k1
  obtain ⟨x, g1, _, _, g4, _⟩ := r.so i c h2
  rw [q] at g1; cases g1
  exact g4 ha'

/-! ### a, b = x, y -/
def setAll : L2.St → List Nat → List V → L2.St
  | σ, i :: l, v :: vs => setAll (σ.set i (some v)) l vs
  | σ, _, _ => σ
theorem put_ok {stF : List Cell} {st0 : List Cell} {R0 : List Addr} (pend : Nat → Addr → Prop)
    (hp : ∀ m a c, RR[m]? = some a → stF[m]? = some c → n ≤ m → CellAt b.K b.g R0 F H a c) (hR : R0 = RR.take n) (hnd : RR.Nodup) : ∀ (l : List Nat) (xs : List D) (vs : List V) (sl sl' : List SV) (σ : L2.St), Rel b R0 F ⟨sl, st0⟩ σ H → Reps b.K b.g RR F xs vs →
      (∀ m, m ∈ xs.filterMap (D.isNew n) → ∀ a, RR[m]? = some a → Lone b R0 F ⟨sl, st0⟩ σ a) → (xs.filterMap (D.isNew n)).Nodup → putPar n stF l xs sl = some sl' → Rel b R0 F ⟨sl', st0⟩ (setAll σ l vs) H ∧ vs.length = l.length
  | [], [], _, sl, sl', σ, r, .nil, hl, nd, h => by
    simp only [putPar, Option.some.injEq] at h
    subst h
    exact ⟨r, rfl⟩
  | [], _ :: _, _, _, _, _, _, _, _, _, h => by simp [putPar] at h
  | _ :: _, [], _, _, _, _, _, _, _, _, h => by simp [putPar] at h
  | i :: l, x :: xs, _, sl, sl', σ, r, .cons (v := v) (vs := vs) hv hvs, hl, nd, h => by
    rw [putPar] at h
    cases e : x.isNew n with
    | none =>
      rw [e] at h
      simp only at h
      have ef : (x :: xs).filterMap (D.isNew n) = xs.filterMap (D.isNew n) := by rw [List.filterMap_cons, e]
      rw [ef] at hl nd
      split at h
      · rename_i hu
        have hv' : Rep b.K b.g R0 F x v := hR ▸ hv.low hu
        obtain ⟨g1, g2⟩ := put_ok pend hp hR hnd l xs vs _ sl' _ (r.storeD (i := i) hv') hvs (fun m hm a ha => (hl m hm a ha).setD) nd h
        exact ⟨g1, by rw [List.length_cons, List.length_cons, g2]⟩
      · cases h
    | some m =>
      rw [e] at h
      simp only at h
      have ef : (x :: xs).filterMap (D.isNew n) = m :: xs.filterMap (D.isNew n) := by rw [List.filterMap_cons, e]
      rw [ef] at hl nd
      cases hc : stF[m]? with
      | none => rw [hc] at h; cases h
      | some c =>
        rw [hc] at h
        simp only at h
        have hx : x = .obj m ∧ n ≤ m := by
          cases x <;> simp only [D.isNew, reduceCtorEq] at e
          split at e
          · cases e
          · cases e; exact ⟨rfl, by omega⟩
        obtain ⟨rfl, hm⟩ := hx
        cases hv with
        | @obj _ a ha =>
          have lone := hl m List.mem_cons_self a ha
          rw [List.nodup_cons] at nd
          obtain ⟨g1, g2⟩ := put_ok pend hp hR hnd l xs vs _ sl' _ (r.storeO (i := i) (hp m a c ha hc hm) lone) hvs (fun m' hm' a' ha' => (hl m' (List.mem_cons_of_mem _ hm') a' ha').setO fun z => by
            subst z
            obtain ⟨h1, e1⟩ := List.getElem?_eq_some_iff.mp ha
            obtain ⟨h2, e3⟩ := List.getElem?_eq_some_iff.mp ha'
            have := (List.getElem_inj hnd).mp (e1.trans e3.symm)
            exact nd.1 (this ▸ hm')) nd.2 h
          exact ⟨g1, by rw [List.length_cons, List.length_cons, g2]⟩
/-- what stands behind a, b = x, y -/
theorem par_ok {t : S} {l : List Nat} {xs : List D} {vs : List V} {sl : List SV} (r : Rel b RR F t σ H) (h0 : b.R0.length ≤ n) (hn : n ≤ RR.length) (hx : Reps b.K b.g RR F xs vs) (nd : (xs.filterMap (D.isNew n)).Nodup) (h : putPar n t.st l xs (t.gc n).sl = some sl) :
    Rel b (RR.take n) F ⟨sl, t.st.take n⟩ (setAll σ l vs) H ∧ vs.length = l.length := by
  have r0 := r.gc h0 hn
  have est : (t.gc n).st = t.st.take n := by
    unfold S.gc
    split
    · rename_i e; rw [← e, List.take_length]
    · rfl
  have r0 : Rel b (RR.take n) F ⟨(t.gc n).sl, t.st.take n⟩ σ H := by rw [← est]; exact r0
  refine put_ok (fun _ _ => True) (fun m a c h1 h2 h3 => ?_) rfl r.nd l xs vs _ sl σ r0 hx (fun m hm a ha => ?_) nd h
  · obtain ⟨g1, g2⟩ := r.st m c a h2 h1
    exact g1.low g2
  · have hm' : n ≤ m := by
      obtain ⟨d, _, e⟩ := List.mem_filterMap.mp hm
      cases d <;> simp only [D.isNew, reduceCtorEq] at e
      split at e
      · cases e
      · cases e; omega
    have l1 := r.lonePop h0 hn hm' ha
    exact ⟨l1.f, l1.r, l1.h, l1.o⟩
end

/-! ### statements -/
def GoS (b : Bs) (W : WX) (RR : List Addr) (F : Hp) (D : Ends) : OS → Prop
  | .nx s => ∀ RR' F' σ' H', RR <+: RR' → Same F F' → Rel b RR' F' s σ' H' → D.nx σ' H'
  | .bk s => ∀ RR' F' σ' H', RR <+: RR' → Same F F' → Rel b RR' F' s σ' H' → D.bk σ' H'
  | .ct s => ∀ RR' F' σ' H', RR <+: RR' → Same F F' → Rel b RR' F' s σ' H' → D.ct σ' H'
  | .rt x s => ∀ RR' F' σ' H' v, RR <+: RR' → Same F F' → Rel b RR' F' s σ' H' → RRel b RR' F' s σ' H' x v → D.rt v H'
  | .ex e s => ∀ cls d RR' F' σ' H', RR <+: RR' → Same F F' → Rel b RR' F' s σ' H' → XRel b e cls d H' → W cls d σ' H'
  | .bad => False
def tS (b : Bs) (W : WX) (f : S → OS) : TS := fun D σ H => ∃ RR F s, Rel b RR F s σ H ∧ GoS b W RR F D (f s)
section
variable {X : Cx} {b : Bs} {W : WX} {k : Nat} {σ : L2.St} {RR RR' : List Addr} {F F' H H' : Hp} {s : S} {Q : VK} {n : Nat} {D D' : Ends}
theorem GoS.up {o : OS} (h : GoS b W RR F D o) (p : RR <+: RR') (e : Same F F') : GoS b W RR' F' D o := by
  cases o with
  | nx s => exact fun R2 F2 σ2 H2 q f r => h R2 F2 σ2 H2 (p.trans q) (e.trans f) r
  | bk s => exact fun R2 F2 σ2 H2 q f r => h R2 F2 σ2 H2 (p.trans q) (e.trans f) r
  | ct s => exact fun R2 F2 σ2 H2 q f r => h R2 F2 σ2 H2 (p.trans q) (e.trans f) r
  | rt x s => exact fun R2 F2 σ2 H2 v q f r => h R2 F2 σ2 H2 v (p.trans q) (e.trans f) r
  | ex x s => exact fun c d R2 F2 σ2 H2 q f r => h c d R2 F2 σ2 H2 (p.trans q) (e.trans f) r
  | bad => exact h
theorem GoS.of {α : Type} {o : O α} {f : α → S → OS} (h : GoS b W RR F D (OS.of o f)) : Go b W σ RR F o fun a s RR' F' _ => GoS b W RR' F' D (f a s) := by
  cases o with
  | ok a s => exact fun R2 F2 H2 q e r => GoS.up h q e
  | ex x s => exact fun c d R2 F2 H2 q e r => h c d R2 F2 σ H2 q e r
  | bad => exact h
theorem GoS.of' {α : Type} {o : O α} {f : α → S → OS} (h : GoS b W RR F D (OS.of o f)) : Go b W σ RR F o fun a s RR' F' _ => o = .ok a s ∧ GoS b W RR' F' D (f a s) := by
  cases o with
  | ok a s => exact fun R2 F2 H2 q e r => ⟨rfl, GoS.up h q e⟩
  | ex x s => exact fun c d R2 F2 H2 q e r => h c d R2 F2 σ H2 q e r
  | bad => exact h
theorem GoS.of0 {α : Type} {o : O α} {f : α → S → OS} (h : GoS b W RR F D (OS.of o f)) : Go b W σ RR F o fun a s _ F' _ => GoS b W RR F' D (f a s) := by
  cases o with
  | ok a s => exact fun R2 F2 H2 q e r => GoS.up h (List.prefix_refl _) e
  | ex x s => exact fun c d R2 F2 H2 q e r => h c d R2 F2 σ H2 q e r
  | bad => exact h
theorem GoS.now {s : S} (h : GoS b W RR F D (.nx s)) (r : Rel b RR F s σ H) : D.nx σ H := h RR F σ H (List.prefix_refl _) (Same.refl _) r
theorem GoS.opt {o : Option S} (h : GoS b W RR F D (OS.opt o)) : ∃ s, o = some s ∧ GoS b W RR F D (.nx s) := by
  cases o with
  | none => exact h.elim
  | some s => exact ⟨s, rfl, h⟩
theorem _root_.L2.PS.weak {X : Cx} {e : Stmt} {t t' : TS} (h : PS X e t) (k : ∀ D σ H, t' D σ H → t D σ H) : PS X e t' := ⟨fun pins s σ H D I q => h.run pins s σ H D I (k D σ H q)⟩
theorem _root_.L2.PSs.weak {X : Cx} {e : List Stmt} {t t' : TS} (h : PSs X e t) (k : ∀ D σ H, t' D σ H → t D σ H) : PSs X e t' := ⟨fun pins s σ H D I q => h.run pins s σ H D I (k D σ H q)⟩
theorem sns_nil : PSs X [] (tS b W (exms .nil)) := pss_nil.weak fun D σ H ⟨RR, F, s, r, q⟩ => by
  simp only [exms] at q
  exact q.now r
theorem sns_cons {st : Stmt} {rest : List Stmt} {a : Sm} {r : Sms} (h1 : PS X st (tS b W (exm a))) (h2 : PSs X rest (tS b W (exms r))) : PSs X (st :: rest) (tS b W (exms (.cons a r))) := by
  refine (pss_cons h1 h2).weak fun D σ H ⟨RR, F, s, rl, q⟩ => ?_
  simp only [exms] at q
  refine ⟨RR, F, s, rl, ?_⟩
  cases e : exm a s with
  | nx s' =>
    rw [e] at q
    exact fun R2 F2 σ2 H2 p2 e2 r2 => ⟨R2, F2, s', r2, GoS.up q p2 e2⟩
  | bk s' => rw [e] at q; exact q
  | ct s' => rw [e] at q; exact q
  | rt x s' => rw [e] at q; exact q
  | ex x s' => rw [e] at q; exact q
  | bad => rw [e] at q; exact q
theorem sn_pass {pos : Pos} : PS X (.Pass pos) (tS b W (exm .pass)) := ps_pass.weak fun D σ H ⟨RR, F, s, r, q⟩ => by
  simp only [exm] at q; exact q.now r
theorem sn_doc {x : Str} {j : Nat} {p pos : Pos} : PS X (.Expr (.Constant (.str x) j p) pos) (tS b W (exm .pass)) := ps_doc.weak fun D σ H ⟨RR, F, s, r, q⟩ => by
  simp only [exm] at q; exact q.now r
theorem sn_brk {pos : Pos} : PS X (.Break pos) (tS b W (exm .brk)) := ps_break.weak fun D σ H ⟨RR, F, s, r, q⟩ => by
  simp only [exm] at q; exact q RR F σ H (List.prefix_refl _) (Same.refl _) r
theorem sn_cont {pos : Pos} : PS X (.Continue pos) (tS b W (exm .cont)) := ps_continue.weak fun D σ H ⟨RR, F, s, r, q⟩ => by
  simp only [exm] at q; exact q RR F σ H (List.prefix_refl _) (Same.refl _) r
theorem sn_retN {pos : Pos} : PS X (.Return none pos) (tS b W (exm .retN)) := ps_retN.weak fun D σ H ⟨RR, F, s, r, q⟩ => by
  simp only [exm] at q; exact q RR F σ H .non (List.prefix_refl _) (Same.refl _) r .non
theorem sn_ret {e : Expr} {a : E} {pos : Pos} (ha : PE X e (tE b W (ev a))) : PS X (.Return (some e) pos) (tS b W (exm (.ret a))) := (ps_ret ha).weak fun D σ H ⟨RR, F, s, r, q⟩ => by
  simp only [exm] at q
  exact ⟨RR, F, s, r, q.of.imp fun x s1 R1 F1 H1 p1 e1 r1 q1 v hv => q1 R1 F1 σ H1 v (List.prefix_refl _) (Same.refl _) r1 hv⟩
theorem sn_expr {e : Expr} {a : E} {pos : Pos} (ha : PE X e (tE b W (ev a))) (hn : notComp e = true) : PS X (.Expr e pos) (tS b W (exm (.expr a))) := (ps_expr ha (swap_no hn)).weak fun D σ H ⟨RR, F, s, r, q⟩ => by
  simp only [exm] at q
  exact ⟨RR, F, s, r, q.of.imp fun x s1 R1 F1 H1 p1 e1 r1 q1 v hv => q1.now r1⟩
/-- a name is given what an expression gave -/
theorem store_go {x : R} {v : V} {i : Nat} (r : Rel b RR F s σ H) (hv : RRel b RR F s σ H x v) (q : GoS b W RR F D (OS.opt (s.store i x))) : D.nx (σ.set i (some v)) H := by
  obtain ⟨s', h1, q⟩ := q.opt
  cases x with
  | d x =>
    simp only [S.store, Option.some.injEq] at h1
    subst h1
    exact q.now (r.storeD hv)
  | new c =>
    simp only [S.store, Option.some.injEq] at h1
    subst h1
    obtain ⟨a, rfl, k1, k2⟩ := hv
    exact q.now (r.storeO k1 k2)
  | pl j =>
    simp only [S.store, S.fz] at h1
    have hv : σ[j]? = some (some v) := hv
    cases e : s.sl[j]? with
    | none => rw [e] at h1; cases h1
    | some z =>
      rw [e] at h1
      cases z with
      | un => cases h1
      | d x =>
        cases h1
        obtain ⟨w, g1, g2⟩ := r.sd j x e
        rw [hv] at g1; cases g1
        exact q.now (r.storeD g2)
      | own c =>
        cases ev : c.view with
        | none => simp [ev] at h1
        | some x =>
          simp only [ev, Option.map_some, Option.some.injEq] at h1
          subst h1
          obtain ⟨a, F', g1, e1, k1, r1⟩ := r.frzS e ev
          rw [hv] at g1; cases g1
          exact q RR F' _ H (List.prefix_refl _) e1 (r1.storeD k1)
theorem sn_set {i : Nat} {x : Str} {e : Expr} {a : E} {pos p : Pos} (hN : X.N.Nodup) (hi : X.N[i]? = some x) (hx : L2.Loc X.env.scope x) (hf : X.fn x = true ∨ X.env.scope.names.lookup x = some .local) (ha : PE X e (tE b W (ev a))) (hs : swapsWith e (some (.Name x p)) pos.line X.env = pure false) :
    PS X (.Assign [.Name x p] e pos) (tS b W (exm (.set i a))) := (ps_set hN hi hx ha hs hf).weak fun D σ H ⟨RR, F, s, r, q⟩ => by
  simp only [exm] at q
  exact ⟨RR, F, s, r, q.of.imp fun x s1 R1 F1 H1 p1 e1 r1 q1 v hv => store_go r1 hv q1⟩
theorem sn_unp {tg e : Expr} {t : T} {a : E} {pos : Pos} (ha : PE X e (tE b W (ev a))) (hg : PG X tg (tT b t)) (hs : swapsWithSole [tg] e pos.line X.env = pure false) (hw : swappedStores [tg] e X.env = pure none) (h1 : (assignEach [tg] X.env).map (·.2) = [assign tg X.env]) :
    PS X (.Assign [tg] e pos) (tS b W (exm (.unp t a))) := (ps_asg (snd_val ha) hg hs hw h1).weak fun D σ H ⟨RR, F, s, r, q⟩ => by
  simp only [exm] at q
  refine ⟨RR, F, s, r, q.of.imp fun x s1 R1 F1 H1 p1 e1 r1 q1 v hv => ?_⟩
  obtain ⟨s', h2, q1⟩ := q1.opt
  exact ⟨R1, F1, s1, x, s', r1, hv, h2, fun σ' r' _ _ => q1.now r'⟩
theorem _root_.L2.PSet.or {X : Cx} {t u : TSet} (h : PSet X t) (h' : PSet X u) : PSet X (fun o i v H Q => t o i v H Q ∨ u o i v H Q) := by
  intro pins s σ H o i v ov iv w Q I r1 r2 r3 q
  rcases q with q | q
  · exact h pins s σ H o i v ov iv w Q I r1 r2 r3 q
  · exact h' pins s σ H o i v ov iv w Q I r1 r2 r3 q
theorem wr_of {x : R} (e : (s.isLst x || s.isDct x) = true) : ∀ c, x ≠ .new c := fun c z => by
  subst z
  cases e
/-- o[k] = x, the object written -/
theorem setix_go {y : R} {z x : G4.D} {w u v : V} {cc c' : Cell} {s s' : S} (r3 : Rel b RR F s σ H) (hw3 : RRel b RR F s σ H y w) (hn : ∀ c, y ≠ .new c) (hu : Rep b.K b.g RR F z u) (hv : Rep b.K b.g RR F x v) (h4 : s.cell y = some cc) (h5 : setIx cc z x = some c') (h6 : s.put c' y = some s')
    (q : ∀ H', Rel b RR F s' σ H' → D.nx σ H') : L2.rSetL w u v H (fun H' => D.nx σ H') ∨ L2.rSetD w u v H (fun H' => D.nx σ H') := by
  obtain ⟨a2, rfl, h7, h8⟩ := cell_of r3 hw3 hn h4
  unfold setIx at h5
  split at h5
  · rename_i l kk
    split at h5
    · rename_i hlt
      obtain ⟨kk, h9, rfl⟩ := map_some h5
      cases h7 with
      | dK h k =>
        have h10 := key_rep hu h9
        subst h10
        refine .inr ⟨a2, _, rfl, DPut.k h (by rw [← k.len, big_eq]; exact hlt), ?_⟩
        exact q _ (h8 _ _ s' (.dK upd_same (k.put hv kk)) h6)
    · cases h5
  · obtain ⟨j, h9, rfl⟩ := map_some h5
    cases h7 with
    | lst h k =>
      cases hu
      refine .inl ⟨a2, _, _, j, rfl, rfl, h, by rw [← k.len]; exact h9, ?_⟩
      exact q _ (h8 _ _ s' (.lst upd_same (k.set hv _)) h6)
  · cases h5
theorem sn_setix {o i e : Expr} {a c d : E} {pos p : Pos} (A : Amb X b k) (ho : PE X o (tE b W (ev a))) (hi : PE X i (tE b W (ev c))) (he : PE X e (tE b W (ev d))) (hp : notSlice i = true) (hs : swapsWithSole [.Subscript o i p] e pos.line X.env = pure false) :
    PS X (.Assign [.Subscript o i p] e pos) (tS b W (exm (.setix a c d))) := by
  have hg := pg_sub (pos := p) ho (snd_val hi) ((set_list (X := X)).or (set_dict (by have := A.hu; omega))) (by intro v; cases i <;> first | rfl | cases hp)
  refine (ps_asg (snd_val he) hg hs (by rfl) (by rfl)).weak fun D σ H ⟨RR, F, s, r, q⟩ => ?_
  simp only [exm] at q
  refine ⟨RR, F, s, r, q.of.imp fun x s1 R1 F1 H1 p1 e1 r1 q1 v hv => ?_⟩
  refine ⟨R1, F1, s1, r1, q1.of.imp fun y s2 R2 F2 H2 p2 e2 r2 q2 w hw => ?_⟩
  split at q2
  · rename_i hl
    have hn := wr_of hl
    refine ⟨R2, F2, s2, r2, q2.of.imp fun z s3 R3 F3 H3 p3 e3 r3 q3 u hu => ?_⟩
    have hw3 := hw.up (s' := s3) (H' := H3) hn p3 e3
    cases h4 : s3.cell y with
    | none => rw [h4] at q3; exact q3.elim
    | some cc =>
      rw [h4, Option.bind_some] at q3
      cases h5 : setIx cc z x with
      | none => rw [h5] at q3; exact q3.elim
      | some c' =>
        rw [h5] at q3
        simp only at q3
        obtain ⟨s', h6, q4⟩ := q3.opt
        exact setix_go r3 hw3 hn hu ((hv.mono e2 p2).mono e3 p3) h4 h5 h6 fun H' r4 => q4.now r4
  · exact q2.elim
theorem sn_if {c : Expr} {x : E} {sa sb : List Stmt} {p q : Sms} {pos : Pos} (hc : PT X c (tB' b W (evT x))) (h1 : PSs X sa (tS b W (exms p))) (h2 : PSs X sb (tS b W (exms q))) : PS X (.If c sa sb pos) (tS b W (exm (.ifs x p q))) := by
  refine (ps_if hc h1 h2).weak fun D σ H ⟨RR, F, s, r, q⟩ => ?_
  simp only [exm] at q
  refine ⟨RR, F, s, r, q.of.imp fun y s1 R1 F1 H1 p1 e1 r1 q1 => ?_⟩
  cases y with
  | true => exact ⟨R1, F1, s1, r1, q1⟩
  | false => exact ⟨R1, F1, s1, r1, q1⟩
/-! ### a, b = x, y -/
theorem par_nil : PA X [] (tAs b W (evPar .nil)) := pa_nil.weak fun σ H Q ⟨RR, F, s, r, q⟩ => by
  simp only [evPar] at q
  exact q.now r _ .nil
theorem par_cons {e : Expr} {es : List Expr} {a : E} {as : Es} (ha : PE X e (tE b W (ev a))) (hb : PA X es (tAs b W (evPar as))) (hs : starEach (e :: es) X.env = (false, eval e X.env) :: starEach es X.env) : PA X (e :: es) (tAs b W (evPar (.cons a as))) := by
  refine (pa_cons ha hb hs).weak fun σ H Q ⟨RR, F, s, r, q⟩ => ?_
  simp only [evPar] at q
  refine ⟨RR, F, s, r, q.bind fun x s1 R1 F1 H1 p1 e1 r1 q1 v hv => ?_⟩
  have rest : ∀ {R1 F1 s1 x}, Rel b R1 F1 s1 σ H1 → Rep b.K b.g R1 F1 x v → Go b W σ R1 F1 ((evPar as s1).bind fun l t => .ok (x :: l) t) (fun x _ RR' F' H' => ∀ vs, Reps b.K b.g RR' F' x vs → Q vs H') → tAs b W (evPar as) σ H1 fun vs H2 => Q (v :: vs) H2 := fun {R1 F1 s1 x} r1 hv q1 =>
    ⟨R1, F1, s1, r1, q1.bind fun l s2 R2 F2 H2 p2 e2 r2 q2 vs hvs => q2.now r2 _ (.cons (hv.mono e2 p2) hvs)⟩
  cases x with
  | new c =>
    simp only at q1
    split at q1
    · rename_i hp
      obtain ⟨a, rfl, h1, h2⟩ := hv
      have rp := r1.push h1 h2 hp
      exact rest rp (Rep.obj (by rw [r1.stl]; simp)) (q1.up (List.prefix_append _ _) (Same.refl _))
    · exact q1.elim
  | d x => exact rest r1 hv q1
  | pl j =>
    simp only [S.fz] at q1
    have hv : σ[j]? = some (some v) := hv
    cases e : s1.sl[j]? with
    | none => rw [e] at q1; exact q1.elim
    | some z =>
      rw [e] at q1
      cases z with
      | un => exact q1.elim
      | d x =>
        obtain ⟨w, g1, g2⟩ := r1.sd j x e
        rw [hv] at g1; cases g1
        exact rest r1 g2 q1
      | own c =>
        cases ev : c.view with
        | none => simp only [ev, Option.map_none] at q1; exact q1.elim
        | some x =>
          simp only [ev, Option.map_some] at q1
          obtain ⟨a, F', g1, e1, k1, r2⟩ := r1.frzS e ev
          rw [hv] at g1; cases g1
          exact rest r2 k1 (q1.up (List.prefix_refl _) e1)
/-- the values, then all names at once -/
theorem par_go {l : List Nat} {es : Es} (q : GoS b W RR F D (exm (.par l es) s)) (r : Rel b RR F s σ H) : tAs b W (evPar es) σ H fun vs H1 => vs.length = l.length ∧ ∀ H2, Same H1 H2 → D.nx (setAll σ l vs) H2 := by
  simp only [exm] at q
  refine ⟨RR, F, s, r, q.of0.imp fun xs t R1 F1 H1 p1 e1 r1 q1 vs hvs => ?_⟩
  split at q1
  · rename_i hc
    cases h1 : putPar s.st.length t.st l xs (t.gc s.st.length).sl with
    | none => rw [h1] at q1; exact q1.elim
    | some sl =>
      rw [h1] at q1
      have el : RR.length = s.st.length := r.stl.symm
      have hn : s.st.length ≤ R1.length := by rw [← el]; exact p1.length_le
      have h0 : b.R0.length ≤ s.st.length := by rw [← el]; exact r.pre.length_le
      obtain ⟨g1, g2⟩ := par_ok r1 h0 hn hvs hc.2 h1
      have eR : R1.take s.st.length = RR := by rw [← el]; exact take_pre p1
      rw [eR] at g1
      exact ⟨g2, fun H2 e2 => q1.now (g1.same e2)⟩
  · exact q1.elim
/-- targets that are names, all at once -/
def gAll (l : List Nat) : TGs := fun vs σ H Q => vs.length = l.length ∧ Q (setAll σ l vs) H
def NamesOk (X : Cx) : List Nat → List Expr → Prop
  | [], [] => True
  | i :: l, .Name x _ :: es => X.N[i]? = some x ∧ L2.Loc X.env.scope x ∧ (X.fn x = true ∨ X.env.scope.names.lookup x = some .local) ∧ NamesOk X l es
  | _, _ => False
theorem names_all (hN : X.N.Nodup) : ∀ (l : List Nat) (es : List Expr), NamesOk X l es → PGs X es (gAll l) ∧ es.all notStar = true ∧ l.length = es.length
  | [], [], _ => ⟨pgs_nil.weak fun vs σ H Q ⟨h1, h2⟩ => by
      cases vs with
      | nil => exact ⟨rfl, h2⟩
      | cons _ _ => simp at h1, rfl, rfl⟩
  | [], _ :: _, h => by simp [NamesOk] at h
  | _ :: _, [], h => by simp [NamesOk] at h
  | i :: l, e :: es, h => by
    cases e <;> simp only [NamesOk] at h
    obtain ⟨h1, h2, h3, h4⟩ := h
    obtain ⟨g1, g2, g3⟩ := names_all hN l es h4
    refine ⟨(pgs_cons (pg_name hN h1 h2 h3) g1 (by rfl)).weak fun vs σ H Q ⟨q1, q2⟩ => ?_, by rw [List.all_cons, g2]; rfl, by rw [List.length_cons, List.length_cons, g3]⟩
    cases vs with
    | nil => simp at q1
    | cons v vs =>
      refine ⟨v, vs, rfl, ?_⟩
      exact ⟨by simpa using q1, q2⟩
theorem sn_par {l : List Nat} {ts es : List Expr} {as : Es} {kt k2 : Nat} {pt p2 pos : Pos} (A : Amb X b k) (hn : NamesOk X l ts) (ha : PA X es (tAs b W (evPar as))) (hs : es.all notStar = true)
    (hw : swappedStores [.Tuple ts kt pt] (.Tuple es k2 p2) X.env = pure none) (hl : l.length ≤ 1000) :
    PS X (.Assign [.Tuple ts kt pt] (.Tuple es k2 p2) pos) (tS b W (exm (.par l as))) := by
  obtain ⟨g1, g2, g3⟩ := names_all A.nd l ts hn
  refine (ps_asg (pe_tup ha) (pg_tup A.calm g1 (asg_len g2) (asg_find g2)) (by rfl) hw (by rfl)).weak fun D σ H ⟨RR, F, s, r, q⟩ => ?_
  obtain ⟨RR, F, s, r, q⟩ := par_go q r
  refine ⟨RR, F, s, r, q.imp fun xs s1 R1 F1 H1 p1 e1 r1 q1 vs hvs => ?_⟩
  obtain ⟨h1, h2⟩ := q1 vs hvs
  refine ⟨by rw [h1]; exact len_ok hl, fun T hT => ?_⟩
  exact ⟨T, vs, rfl, .inl (.inl upd_same), by rw [h1, g3], h1, h2 _ (same_new hT)⟩
theorem sn_par2 {i j : Nat} {x y : Str} {a c : Expr} {as : Es} {px py pt p2 pos : Pos} {kt k2 : Nat} (A : Amb X b k) (hi : X.N[i]? = some x) (hj : X.N[j]? = some y) (hij : i ≠ j) (hx : X.env.scope.names.lookup x = some .local) (hy : X.env.scope.names.lookup y = some .local)
    (ha : PA X [a, c] (tAs b W (evPar as))) (hw : swappedStores [.Tuple [.Name x px, .Name y py] kt pt] (.Tuple [a, c] k2 p2) X.env = pure (some [x, y])) :
    PS X (.Assign [.Tuple [.Name x px, .Name y py] kt pt] (.Tuple [a, c] k2 p2) pos) (tS b W (exm (.par [i, j] as))) := by
  refine (ps_par A.calm A.nd hi hj hij hx hy ha hw).weak fun D σ H ⟨RR, F, s, r, q⟩ => ?_
  obtain ⟨RR, F, s, r, q⟩ := par_go q r
  refine ⟨RR, F, s, r, q.imp fun xs s1 R1 F1 H1 p1 e1 r1 q1 vs hvs => ?_⟩
  obtain ⟨h1, h2⟩ := q1 vs hvs
  match vs, h1, h2 with
  | [v, w], _, h2 => exact ⟨v, w, rfl, h2 _ (Same.refl _)⟩
theorem sn_par3 {i j l : Nat} {x y z : Str} {a c d : Expr} {as : Es} {px py pz pt p2 pos : Pos} {kt k2 : Nat} (A : Amb X b k) (hi : X.N[i]? = some x) (hj : X.N[j]? = some y) (hl : X.N[l]? = some z) (hij : i ≠ j) (hil : i ≠ l) (hjl : j ≠ l)
    (hx : X.env.scope.names.lookup x = some .local) (hy : X.env.scope.names.lookup y = some .local) (hz : X.env.scope.names.lookup z = some .local)
    (ha : PA X [a, c, d] (tAs b W (evPar as))) (hw : swappedStores [.Tuple [.Name x px, .Name y py, .Name z pz] kt pt] (.Tuple [a, c, d] k2 p2) X.env = pure (some [x, y, z])) :
    PS X (.Assign [.Tuple [.Name x px, .Name y py, .Name z pz] kt pt] (.Tuple [a, c, d] k2 p2) pos) (tS b W (exm (.par [i, j, l] as))) := by
  refine (ps_par3 A.calm A.nd hi hj hl hij hil hjl hx hy hz ha hw).weak fun D σ H ⟨RR, F, s, r, q⟩ => ?_
  obtain ⟨RR, F, s, r, q⟩ := par_go q r
  refine ⟨RR, F, s, r, q.imp fun xs s1 R1 F1 H1 p1 e1 r1 q1 vs hvs => ?_⟩
  obtain ⟨h1, h2⟩ := q1 vs hvs
  match vs, h1, h2 with
  | [u, v, w], _, h2 => exact ⟨u, v, w, rfl, h2 _ (Same.refl _)⟩

/-! ### for -/
theorem sn_for {t : T} {src : Src} {tg iter : Expr} {body : List Stmt} {p : Sms} {pos : Pos} (A : Amb X b k) (hp : PassesOwn (model X.prog X.w) X.A X.env X.xe) (hi : PI X tg iter (tSrc b W (evSrc src))) (hs : notSet iter = true) (hg : PG X tg (tT b t)) (hb : PSs X body (tS b W (exms p))) :
    PS X (.For tg iter body [] pos) (tS b W (exm (.fors t src p))) := by
  refine (ps_for hp A.calm hi hg hb (fun x => set_pure hs x)).weak fun D σ H ⟨RR, F, s, r, q⟩ => ?_
  simp only [exm] at q
  refine ⟨RR, F, s, r, q.of.imp fun L s1 R1 F1 H1 p1 e1 r1 q1 J hJ => ?_⟩
  have el : R1.length = s1.st.length := r1.stl.symm
  have h0 : b.R0.length ≤ s1.st.length := by rw [← el]; exact r1.pre.length_le
  have gcd : ∀ {R2 F2 s2 σ2 H2}, R1 <+: R2 → Rel b R2 F2 s2 σ2 H2 → Rel b R1 F2 (s2.gc s1.st.length) σ2 H2 := fun {R2 F2 s2 σ2 H2} p2 r2 => by
    have := r2.gc h0 (by rw [← el]; exact p2.length_le)
    rw [← el, take_pre p2, el] at this
    exact this
  let Pv : Nat → L2.St → Hp → Prop := fun i σ2 H2 => i ≤ L.length ∧ ∃ s2 F2, Same F1 F2 ∧ Rel b R1 F2 s2 σ2 H2 ∧ GoS b W R1 F2 D (forLoop (fun x s => T.asg t x s) (fun s => exms p s) s1.st.length (L.drop i) s2)
  refine ⟨fun i m σ2 H2 => m = L.length - i ∧ Pv i σ2 H2, ⟨_, rfl, Nat.zero_le _, s1, F1, Same.refl _, r1, q1⟩, ?_⟩
  rintro i m σ2 H2 ⟨rfl, hi, s2, F2, e2, r2, q2⟩
  obtain ⟨hJ1, hJ2⟩ := hJ R1 F2 H2 (List.prefix_refl _) e2 r2.fz
  by_cases hlt : i < L.length
  · obtain ⟨hgo, hyld⟩ := hJ1 i hlt
    refine .inr ⟨hgo, Pv (i + 1), fun σ' H' p' => ⟨L.length - (i + 1), by omega, rfl, p'⟩, fun x H' hy => ?_⟩
    obtain ⟨F3, d, hd, e3, h3, u3, rd⟩ := hyld x H' hy
    have hdrop : L.drop i = d :: L.drop (i + 1) := by
      obtain ⟨h4, h5⟩ := List.getElem?_eq_some_iff.mp hd
      rw [← h5]
      exact List.drop_eq_getElem_cons h4
    rw [hdrop, forLoop] at q2
    cases ha : T.asg t d s2 with
    | none => rw [ha] at q2; exact q2.elim
    | some t1 =>
      rw [ha] at q2
      simp only at q2
      have r3 := r2.upg e3 h3 u3
      refine ⟨R1, F3, s2, d, t1, r3, rd, ha, fun σ4 r4 _ _ => ⟨R1, F3, t1, r4, ?_⟩⟩
      have q3 := GoS.up q2 (List.prefix_refl _) e3
      cases eb : exms p t1 with
      | nx s5 =>
        rw [eb] at q3
        exact fun R5 F5 σ5 H5 p5 e5 r5 => ⟨hlt, _, F5, (e2.trans e3).trans e5, gcd p5 r5, GoS.up q3 (List.prefix_refl _) e5⟩
      | ct s5 =>
        rw [eb] at q3
        exact fun R5 F5 σ5 H5 p5 e5 r5 => ⟨hlt, _, F5, (e2.trans e3).trans e5, gcd p5 r5, GoS.up q3 (List.prefix_refl _) e5⟩
      | bk s5 =>
        rw [eb] at q3
        exact fun R5 F5 σ5 H5 p5 e5 r5 => q3 R1 F5 σ5 H5 (List.prefix_refl _) e5 (gcd p5 r5)
      | rt x s5 => rw [eb] at q3; exact q3
      | ex x s5 => rw [eb] at q3; exact q3
      | bad => rw [eb] at q3; exact q3
  · have ei : i = L.length := by omega
    subst ei
    refine .inl ⟨hJ2, ?_⟩
    rw [List.drop_length, forLoop] at q2
    exact q2.now r2

/-! ### values given to targets, one after the other -/
/-- the layer's targets for the little Python's -/
def gTs (b : Bs) (W : WX) : List Tg → TGs
  | [] => gNil
  | .nm i :: l => gCons (gName i) (gTs b W l)
  | .sub a c :: l => gCons (gSub (tE b W (ev a)) (tV b W fun s => (ev c s).val) fun o i v H Q => L2.rSetL o i v H Q ∨ L2.rSetD o i v H Q) (gTs b W l)
theorem putTs_go : ∀ (l : List Tg) (xs : List G4.D) (vs : List V) (s : S) (RR : List Addr) (F : Hp) (σ : L2.St) (H : Hp), Rel b RR F s σ H → Reps b.K b.g RR F xs vs → GoS b W RR F D (putTs l xs s) → gTs b W l vs σ H fun σ' H' => D.nx σ' H'
  | [], [], _, s, RR, F, σ, H, r, .nil, q => by
    rw [putTs] at q
    exact ⟨rfl, q.now r⟩
  | [], _ :: _, _, s, RR, F, σ, H, r, .cons _ _, q => by simp [putTs] at q; exact q.elim
  | .nm i :: l, [], _, s, RR, F, σ, H, r, .nil, q => by simp [putTs] at q; exact q.elim
  | .sub a c :: l, [], _, s, RR, F, σ, H, r, .nil, q => by simp [putTs] at q; exact q.elim
  | .nm i :: l, x :: xs, _, s, RR, F, σ, H, r, .cons (v := v) (vs := vs) hx hxs, q => by
    rw [putTs] at q
    exact ⟨v, vs, rfl, putTs_go l xs vs _ RR F (σ.set i (some v)) H (r.storeD hx) hxs q⟩
  | .sub a c :: l, x :: xs, _, s, RR, F, σ, H, r, .cons (v := v) (vs := vs) hx hxs, q => by
    rw [putTs] at q
    refine ⟨v, vs, rfl, RR, F, s, r, q.of.imp fun p s1 R1 F1 H1 p1 e1 r1 q1 w hw => ?_⟩
    split at q1
    · rename_i hl
      have hn := wr_of hl
      refine ⟨R1, F1, s1, r1, q1.of.imp fun z s2 R2 F2 H2 p2 e2 r2 q2 u hu => ?_⟩
      have hw2 := hw.up (s' := s2) (H' := H2) hn p2 e2
      cases h4 : s2.cell p with
      | none => rw [h4] at q2; exact q2.elim
      | some cc =>
        rw [h4, Option.bind_some] at q2
        cases h5 : setIx cc z x with
        | none => rw [h5] at q2; exact q2.elim
        | some c' =>
          rw [h5] at q2
          simp only at q2
          cases h6 : s2.put c' p with
          | none => rw [h6] at q2; exact q2.elim
          | some s' =>
            rw [h6] at q2
            exact setix_go (D := { D with nx := fun σ' H' => gTs b W l vs σ' H' fun σ'' H'' => D.nx σ'' H'' }) r2 hw2 hn hu ((hx.mono e1 p1).mono e2 p2) h4 h5 h6 fun H' r4 =>
              putTs_go l xs vs s' R2 F2 σ H' r4 (hxs.mono (e1.trans e2) (p1.trans p2)) q2
    · exact q1.elim
/-- targets of the text -/
def TgsOk (X : Cx) (b : Bs) (W : WX) : List Tg → List Expr → Prop
  | [], [] => True
  | .nm i :: l, .Name x _ :: es => X.N[i]? = some x ∧ L2.Loc X.env.scope x ∧ (X.fn x = true ∨ X.env.scope.names.lookup x = some .local) ∧ TgsOk X b W l es
  | .sub a c :: l, .Subscript o i _ :: es => PE X o (tE b W (ev a)) ∧ PE X i (tE b W (ev c)) ∧ notSlice i = true ∧ TgsOk X b W l es
  | _, _ => False
theorem tgs_all (A : Amb X b k) : ∀ (l : List Tg) (es : List Expr), TgsOk X b W l es → PGs X es (gTs b W l) ∧ es.all notStar = true ∧ l.length = es.length
  | [], [], _ => ⟨pgs_nil, rfl, rfl⟩
  | [], _ :: _, h => by simp [TgsOk] at h
  | .nm _ :: _, [], h => by simp [TgsOk] at h
  | .sub _ _ :: _, [], h => by simp [TgsOk] at h
  | .nm i :: l, e :: es, h => by
    cases e <;> simp only [TgsOk] at h
    obtain ⟨h1, h2, h3, h4⟩ := h
    obtain ⟨g1, g2, g3⟩ := tgs_all A l es h4
    exact ⟨pgs_cons (pg_name A.nd h1 h2 h3) g1 (by rfl), by rw [List.all_cons, g2]; rfl, by rw [List.length_cons, List.length_cons, g3]⟩
  | .sub a c :: l, e :: es, h => by
    cases e <;> simp only [TgsOk] at h
    rename_i o i p
    obtain ⟨h1, h2, h3, h4⟩ := h
    obtain ⟨g1, g2, g3⟩ := tgs_all A l es h4
    have hg := pg_sub (pos := p) h1 (snd_val h2) ((set_list (X := X)).or (set_dict (by have := A.hu; omega))) (by intro v; cases i <;> first | rfl | cases h3)
    exact ⟨pgs_cons hg g1 (by rfl), by rw [List.all_cons, g2]; rfl, by rw [List.length_cons, List.length_cons, g3]⟩
theorem sn_parT {l : List Tg} {ts es : List Expr} {as : Es} {kt k2 : Nat} {pt p2 pos : Pos} (A : Amb X b k) (hn : TgsOk X b W l ts) (ha : PA X es (tAs b W (evs as))) (hw : swappedStores [.Tuple ts kt pt] (.Tuple es k2 p2) X.env = pure none) (hl : l.length ≤ 1000) :
    PS X (.Assign [.Tuple ts kt pt] (.Tuple es k2 p2) pos) (tS b W (exm (.parT l as))) := by
  obtain ⟨g1, g2, g3⟩ := tgs_all A l ts hn
  refine (ps_asg (pe_tup ha) (pg_tup A.calm g1 (asg_len g2) (asg_find g2)) (by rfl) hw (by rfl)).weak fun D σ H ⟨RR, F, s, r, q⟩ => ?_
  simp only [exm] at q
  refine ⟨RR, F, s, r, q.of.imp fun xs s1 R1 F1 H1 p1 e1 r1 q1 vs hvs => ?_⟩
  split at q1
  · rename_i hx
    refine ⟨by rw [← hvs.len, hx]; exact len_ok hl, fun T hT => ?_⟩
    exact ⟨T, vs, rfl, .inl (.inl upd_same), by rw [← hvs.len, hx, g3], putTs_go l xs vs s1 R1 F1 σ _ (r1.same (same_new hT)) hvs q1⟩
  · exact q1.elim
/-- a, b = f(..): what was made by the call stands in the store, and goes to the names -/
theorem sn_unpO {l : List Nat} {ts : List Expr} {e : Expr} {a : E} {kt : Nat} {pt pos : Pos} (A : Amb X b k) (hn : NamesOk X l ts) (ha : PE X e (tE b W (ev a))) (hs : swapsWithSole [.Tuple ts kt pt] e pos.line X.env = pure false) (hw : swappedStores [.Tuple ts kt pt] e X.env = pure none) :
    PS X (.Assign [.Tuple ts kt pt] e pos) (tS b W (exm (.unpO l a))) := by
  obtain ⟨g1, g2, g3⟩ := names_all A.nd l ts hn
  refine (ps_asg (snd_val ha) (pg_tup A.calm g1 (asg_len g2) (asg_find g2)) hs hw (by rfl)).weak fun D σ H ⟨RR, F, s, r, q⟩ => ?_
  simp only [exm] at q
  refine ⟨RR, F, s, r, q.of0.imp fun x t R1 F1 H1 p1 e1 r1 q1 v hv => ?_⟩
  split at q1
  · rename_i xs
    split at q1
    · rename_i hc
      cases hv with
      | @tup _ ad vs hT hvs =>
        cases h1 : putPar s.st.length t.st l xs (t.gc s.st.length).sl with
        | none => rw [h1] at q1; exact q1.elim
        | some sl =>
          rw [h1] at q1
          have el : RR.length = s.st.length := r.stl.symm
          have hn' : s.st.length ≤ R1.length := by rw [← el]; exact p1.length_le
          have h0 : b.R0.length ≤ s.st.length := by rw [← el]; exact r.pre.length_le
          obtain ⟨k1, k2⟩ := par_ok r1 h0 hn' hvs hc.2 h1
          have eR : R1.take s.st.length = RR := by rw [← el]; exact take_pre p1
          rw [eR] at k1
          exact ⟨ad, vs, rfl, A.K ▸ r1.fz.seqT hT, by rw [k2, g3], k2, q1.now k1⟩
    · exact q1.elim
  · exact q1.elim
/-! ### o[i] op= e, ints of a list -/
theorem get_listN : PGet X (fun o i H Q => ∃ (p : Addr) (xs : List V) (j : Int) (z : V), o = .ref p ∧ i = .int j ∧ H p = some (.lst xs) ∧ 0 ≤ j ∧ xs[j.toNat]? = some z ∧ Q z H) := by
  intro pins s σ H o i ov iv Q I r1 r2 ⟨p, xs, j, z, e1, e2, hp, h0, hz, q⟩
  subst e1; subst e2
  cases r1
  obtain ⟨t, rfl⟩ := r2
  obtain ⟨its, r, pl, hsz⟩ := I.list (.inl (.inl hp))
  obtain ⟨u, hu, ru⟩ := r.get hz
  have hl := r.length
  have hn := line63
  have hj := (List.getElem?_eq_some_iff.mp hz).1
  exact wpAny_getItem_list pl.isList h0 (by omega) (by simpa using hu) ⟨z, H, I, ru, q⟩
theorem sn_augs {x j v : Expr} {a c e : E} {o : Operator} {tpos pos : Pos} (A : Amb X b k) (hx : PE X x (tE b W (ev a))) (hj : PE X j (tE b W (ev c))) (hp : notSlice j = true) (hv : PE X v (tE b W (ev e))) :
    PS X (.AugAssign (.Subscript x j tpos) o v pos) (tS b W (exm (.augs a c o e))) := by
  refine (ps_augS hx (snd_val hj) get_listN (snd_opd hv) (show PIp X o (rIp o) from ok_ip o) ((set_list (X := X)).or (set_dict (by have := A.hu; omega))) (by intro ov iv new; cases j <;> first | rfl | cases hp)).weak fun D σ H ⟨RR, F, s, r, q⟩ => ?_
  simp only [exm] at q
  refine ⟨RR, F, s, r, q.of.imp fun y s1 R1 F1 H1 p1 e1 r1 q1 w hw => ?_⟩
  split at q1
  · rename_i hl
    have hn := wr_of (s := s1) (x := y) (by rw [hl]; rfl)
    refine ⟨R1, F1, s1, r1, q1.of.imp fun z s2 R2 F2 H2 p2 e2 r2 q2 u hu => ?_⟩
    have hw2 := hw.up (s' := s2) (H' := H2) hn p2 e2
    split at q2
    · rename_i l jj hc
      split at q2
      · rename_i h0
        split at q2
        · rename_i m hm
          cases hu
          obtain ⟨ad, rfl, hca, _⟩ := cell_of r2 hw2 hn hc
          cases hca with
          | @lst _ vs hH hk =>
            obtain ⟨vv, hvv, hrep⟩ := hk.get hm
            cases hrep
            refine ⟨ad, vs, jj, .int m, rfl, rfl, hH, h0, hvv, R2, F2, s2, r2, q2.of.imp fun y3 s3 R3 F3 H3 p3 e3 r3 q3 u3 hu3 => ?_⟩
            have hw3 := hw2.up (s' := s3) (H' := H3) hn p3 e3
            split at q3
            · rename_i n hnn
              split at q3
              · exact q3.elim
              · rename_i ho
                split at q3
                · rename_i zz hzz
                  have : u3 = .int n := by
                    cases vw_of r3 hu3 hnn
                    rfl
                  subst this
                  refine ⟨m, n, zz, rfl, rfl, ho, hzz, ?_⟩
                  cases h4 : s3.cell y with
                  | none => rw [h4] at q3; exact q3.elim
                  | some cc =>
                    rw [h4, Option.bind_some] at q3
                    cases h5 : setIx cc (.int jj) (.int zz) with
                    | none => rw [h5] at q3; exact q3.elim
                    | some c' =>
                      rw [h5] at q3
                      simp only at q3
                      obtain ⟨s', h6, q4⟩ := q3.opt
                      exact setix_go r3 hw3 hn (.int jj) (.int zz) h4 h5 h6 fun H' r4 => q4.now r4
                · exact q3.elim
            · exact q3.elim
        · exact q2.elim
      · exact q2.elim
    · exact q2.elim
  · exact q1.elim
/-! ### name op= e; while -/
theorem sn_aug {i : Nat} {o : Operator} {x : Str} {e : Expr} {a : E} {pos p : Pos} (hN : X.N.Nodup) (hi : X.N[i]? = some x) (hx : L2.Loc X.env.scope x) (hf : X.fn x = true ∨ X.env.scope.names.lookup x = some .local) (ha : PE X e (tE b W (ev a))) :
    PS X (.AugAssign (.Name x p) o e pos) (tS b W (exm (.aug i o a))) := by
  refine (ps_aug hN hi hx (snd_opd ha) (show PIp X o (rIp o) from ok_ip o) hf).weak fun D σ H ⟨RR, F, s, r, q⟩ => ?_
  simp only [exm] at q
  split at q
  · rename_i m hm
    obtain ⟨v, h1, h2⟩ := r.sd i _ hm
    cases h2
    refine ⟨.int m, h1, RR, F, s, r, q.of.imp fun y s1 R1 F1 H1 p1 e1 r1 q1 u hu => ?_⟩
    unfold augV at q1
    split at q1
    · rename_i n hn
      split at q1
      · exact q1.elim
      · rename_i ho
        split at q1
        · rename_i z hz
          have : u = .int n := by
            cases vw_of r1 hu hn
            rfl
          subst this
          exact ⟨m, n, z, rfl, rfl, ho, hz, q1.now (r1.storeD (.int z))⟩
        · exact q1.elim
    · exact q1.elim
  · exact q.elim
theorem sn_whl {n : Nat} {c : Expr} {x : E} {body : List Stmt} {p : Sms} {pos : Pos} (hp : PassesOwn (model X.prog X.w) X.A X.env X.xe) (hc : PT X c (tB' b W (evT x))) (hb : PSs X body (tS b W (exms p))) : PS X (.While c body [] pos) (tS b W (exm (.whl n x p))) := by
  refine (ps_while hp hc hb).weak fun D σ H ⟨RR, F, s, r, q⟩ => ?_
  simp only [exm] at q
  have el : RR.length = s.st.length := r.stl.symm
  have h0 : b.R0.length ≤ s.st.length := by rw [← el]; exact r.pre.length_le
  have gcd : ∀ {R2 F2 s2 σ2 H2}, RR <+: R2 → Rel b R2 F2 s2 σ2 H2 → Rel b RR F2 (s2.gc s.st.length) σ2 H2 := fun {R2 F2 s2 σ2 H2} p2 r2 => by
    have := r2.gc h0 (by rw [← el]; exact p2.length_le)
    rw [← el, take_pre p2, el] at this
    exact this
  let Wf : Nat → L2.St → Hp → Prop := fun m σ2 H2 => ∃ s2 F2, Same F F2 ∧ Rel b RR F2 s2 σ2 H2 ∧ GoS b W RR F2 D (whLoop (fun s => evT x s) (fun s => exms p s) s.st.length m s2)
  refine ⟨Wf, ⟨n, s, F, Same.refl _, r, q⟩, ?_⟩
  rintro m σ2 H2 ⟨s2, F2, e2, r2, q2⟩
  cases m with
  | zero => rw [whLoop] at q2; exact q2.elim
  | succ m =>
    rw [whLoop] at q2
    refine ⟨RR, F2, s2, r2, q2.of0.imp fun y s3 R3 F3 H3 p3 e3 r3 q3 => ?_⟩
    cases y with
    | false =>
      rw [if_neg Bool.false_ne_true] at q3 ⊢
      exact q3 R3 F3 σ2 H3 p3 (Same.refl _) r3
    | true =>
      rw [if_pos rfl] at q3 ⊢
      refine ⟨fun σ' H' => Wf m σ' H', fun σ' H' h => ⟨m, Nat.lt_succ_self m, h⟩, R3, F3, s3, r3, ?_⟩
      cases eb : exms p s3 with
      | nx s5 =>
        rw [eb] at q3
        exact fun R5 F5 σ5 H5 p5 e5 r5 => ⟨_, F5, (e2.trans e3).trans e5, gcd (p3.trans p5) r5, GoS.up q3 (List.prefix_refl _) e5⟩
      | ct s5 =>
        rw [eb] at q3
        exact fun R5 F5 σ5 H5 p5 e5 r5 => ⟨_, F5, (e2.trans e3).trans e5, gcd (p3.trans p5) r5, GoS.up q3 (List.prefix_refl _) e5⟩
      | bk s5 =>
        rw [eb] at q3
        exact fun R5 F5 σ5 H5 p5 e5 r5 => q3 RR F5 σ5 H5 (List.prefix_refl _) e5 (gcd (p3.trans p5) r5)
      | rt z s5 => rw [eb] at q3; exact GoS.up q3 p3 (Same.refl _)
      | ex z s5 => rw [eb] at q3; exact GoS.up q3 p3 (Same.refl _)
      | bad => rw [eb] at q3; exact q3

/-! ### raise -/
/-- an exception class of the text -/
def XK (K : PySem.W.Frag) (mg : Str → Option Value) (g : Str → Option Addr) (x : Str) : Prop := ∃ C B newId initId bmB, ExcBaseFacts B newId initId bmB ∧ PySem.W.excIn K C bmB newId = true ∧ mg x = some (.ref C) ∧ PySem.W.keepIn K (.ref C) = true ∧
  PySem.W.subIn K (.ref C) (.type "BaseException") = some true ∧ PySem.W.typeIn K (.ref C) = some (.type "type") ∧ g x = some C
theorem sn_rais {x m : Str} {j : Nat} {p p2 p3 pos : Pos} (A : Amb X b k) (tk : Takes X W) (hk : XK X.K X.mg b.g x) (hg : Gl X x) (hdb : (x == ("__debug__" : Str)) = false) :
    PS X (.Raise (some (.Call (.Name x p) [.Constant (.str m) j p2] [] p3)) none pos) (tS b W (exm (.rais x m))) := by
  obtain ⟨C, B, newId, initId, bmB, h1, h2, h3, h4, h5, h6, h7⟩ := hk
  refine (ps_raise A.calm tk (pmk_own h1 h2 h3 h4 (raises_own h5 h6) hg hdb)).weak fun D σ H ⟨RR, F, s, r, q⟩ => ?_
  simp only [exm] at q
  exact q (.ref C) none RR F σ H (List.prefix_refl _) (Same.refl _) r ⟨C, h7, rfl, .inl ⟨rfl, rfl⟩⟩
/-! ### name = [..] -/
theorem sn_setLc {own : List (Str × Nat)} {e' : E} {i : Nat} {y : Str} {py pos spos : Pos} {elt tg iter : Expr} {ifs : List Expr} {scope : Scope} {wi gg tt te} (A : Amb X b k) (hy : X.N[i]? = some y) (hyl : X.env.scope.names.lookup y = some .local)
    (hsw : swapsWith (.ListComp elt [⟨tg, iter, ifs, 0⟩] scope pos) (some (.Name y py)) spos.line X.env = pure true) (hi : PI X tg iter wi) (ok : BlkOk X.N X.env.scope scope own)
    (hg : ∀ (s : Shared) (H : Hp) (C : Addr) (cl : List (Str × Addr)) (fp : List Addr), PG (X.blk s H scope (compEnvC scope cl C X.env) fp) tg gg) (ht : ∀ (s : Shared) (H : Hp) (C : Addr) (cl : List (Str × Addr)) (fp : List Addr), PTs (X.blk s H scope (compEnvC scope cl C X.env) fp) ifs tt)
    (he : ∀ (s : Shared) (H : Hp) (C : Addr) (cl : List (Str × Addr)) (fp : List Addr), PE (X.blk s H scope (compEnvC scope cl C X.env) fp) elt te) (hs : notSet iter = true)
    (hq : ∀ σ H Q, tE b W (ev e') σ H Q → tLc wi gg tt te (own.map (·.2)) σ H Q) :
    PS X (.Assign [.Name y py] (.ListComp elt [⟨tg, iter, ifs, 0⟩] scope pos) spos) (tS b W (exm (.set i e'))) := by
  refine (ps_setLc A.calm A.nd hy hyl hsw hi ok hg ht he (fun x => set_pure hs x)).weak fun D σ H ⟨RR, F, s, r, q⟩ => ?_
  refine hq _ _ _ ?_
  simp only [exm] at q
  exact ⟨RR, F, s, r, q.of.imp fun x s1 R1 F1 H1 p1 e1 r1 q1 v hv => store_go r1 hv q1⟩
end
end G4

namespace G4
open PySem PySem.Spec PyProof.Rows L2

/-! ### try -/
section
variable {X : Cx} {b : Bs} {W W' : WX} {k : Nat} {σ : L2.St} {RR RR' : List Addr} {F F' H H' : Hp} {s : S} {Dn : Ends}
theorem Amb.tr (A : Amb X b k) (pn : List (Addr × Obj)) (xe : Value → Shared → Prop) : Amb (X.tr pn xe) b k := ⟨A.K, A.nd, A.calm, A.room, A.gd⟩
/-- a class that is caught by its own name -/
def XC (K : PySem.W.Frag) (mg : Str → Option Value) (g : Str → Option Addr) (x : Str) : Prop := ∃ C, mg x = some (.ref C) ∧ g x = some C ∧ PySem.W.exmOne K (.ref C) (.ref C) = some true
/-- .. whose instances' fields are read -/
def XD (K : PySem.W.Frag) (g : Str → Option Addr) (x : Str) (f : Str) : Prop := ∃ C, g x = some C ∧ XfC K C ∧ PySem.W.findIn K (.ref C) f = some none
theorem GoS.try0 {c : Str} {h : Hd} {o : OS} (q : GoS b W RR F Dn (o.tryB c h)) (k : ∀ e s, e.c = c → GoS b W RR F Dn (hdS h e s) → GoS b W' RR F Dn (.ex e s)) : GoS b W' RR F Dn o := by
  cases o with
  | ex e s =>
    simp only [OS.tryB] at q
    split at q
    · rename_i hc
      exact k e s hc q
    · exact q.elim
  | nx s => exact q
  | bk s => exact q
  | ct s => exact q
  | rt x s => exact q
  | bad => exact q
theorem sn_tryB {x y : Str} {i j : Nat} {v : Bool} {m : Sms} {body : List Stmt} {np yp vp ap hp pos : Pos} (A : Amb X b k) (hs : X.stack = X.env :: X.outer) (hf : X.env.frame = some X.env.locals) (tk : Takes X W)
    (hx : XC X.K X.mg b.g x) (hg : Gl X x) (hdb : (x == ("__debug__" : Str)) = false) (hy : X.N[i]? = some y) (hyl : Loc X.env.scope y) (hfn : X.fn y = true ∨ X.env.scope.names.lookup y = some .local)
    (hb : ∀ (W : WX) (pn : List (Addr × Obj)) (xe : Value → Shared → Prop), Takes (X.tr pn xe) W → PassesOwn (model X.prog X.w) X.A X.env xe → PSs (X.tr pn xe) body (tS b W (exms m))) :
    PS X (.Try body [.ExceptHandler (some (.Name x np)) none [.Assign [.Name y yp] (.Constant (.bool v) j vp) ap] hp] [] [] pos) (tS b W (exm (.tryc m x (.setB i v)))) := by
  obtain ⟨C, h1, h2, h3⟩ := hx
  refine (ps_try_only (tb := fun W' => tS b W' (exms m)) (ts := fun _ _ _ => tSeq (tAsg (tC (.bl v)) (gName i)) tNext) hs hf ⟨hg, hdb, .inl h1⟩ tk hb
    (fun a oe cls d pn hz hvs => pss_cons (ps_set A.nd hy hyl pe_bl (by rfl) hfn) pss_nil)).weak fun D σ H ⟨RR, F, s, r, q⟩ => ⟨RR, F, s, r, ?_⟩
  simp only [exm] at q
  refine GoS.try0 q fun e s' hc q2 => fun cls d R2 F2 σ2 H2 p2 e2 r2 xr => ?_
  obtain ⟨C', c1, rfl, _⟩ := xr
  have : C' = C := by rw [hc, h2] at c1; exact (Option.some.inj c1).symm
  subst this
  exact ⟨true, h3, fun _ a na => q2 R2 F2 _ H2 p2 e2 (r2.storeD (.bl v)), fun z => by cases z⟩
theorem toV_rep {x : D} {v : V} (h : x.toV = some v) : Rep b.K b.g RR F x v := by
  cases x <;> simp only [D.toV, Option.some.injEq, reduceCtorEq] at h <;> subst h
  · exact .non
  · exact .bl _
  · exact .int _
  · exact .str _
theorem Rel.tup2 (r : Rel b RR F s σ H) {x y : D} {v u : V} (hx : x.toV = some v) (hy : y.toV = some u) {p : Addr} (hp : H p = none) :
    ∃ F', Same F F' ∧ Rel b RR F' s σ (upd H p (.tup [v, u])) ∧ Rep b.K b.g RR F' (.tup [x, y]) (.ref p) := by
  have r1 := r.same (same_new (o := .tup [v, u]) hp)
  have l1 : Lone b RR F s σ p := r.lone hp
  obtain ⟨r2, e2⟩ := r1.frz l1 upd_same
  exact ⟨_, e2, r2, .tup (.inl (.inl upd_same)) (.cons (toV_rep hx) (.cons (toV_rep hy) .nil))⟩
theorem Rel.gone (r : Rel b RR F s σ H) {j : Nat} (z : Option V) : Rel b RR F ⟨s.sl.set j .un, s.st⟩ (σ.set j z) H :=
  r.un (by rw [List.length_set, List.length_set]; exact r.len) fun i x hi hx => by
    rcases set_cases hi with ⟨_, h, _⟩ | ⟨h1, h2⟩
    · exact absurd h hx
    · exact ⟨h2, List.getElem?_set_ne (Ne.symm h1)⟩
theorem sn_tryS {x y n f g : Str} {i j jt : Nat} {m : Sms} {body : List Stmt} {np yp ep fp ep2 gp tp ap hp pos : Pos} (A : Amb X b k) (hs : X.stack = X.env :: X.outer) (hf : X.env.frame = some X.env.locals) (tk : Takes X W)
    (hx : XC X.K X.mg b.g x) (hxf : XD X.K b.g x f) (hxg : XD X.K b.g x g) (hg : Gl X x) (hdb : (x == ("__debug__" : Str)) = false) (hy : X.N[i]? = some y) (hyl : Loc X.env.scope y) (hfn : X.fn y = true ∨ X.env.scope.names.lookup y = some .local)
    (hn : X.N[j]? = some n) (hln : X.env.kindOf n = some .local) (hv : Vis X.env.scope n) (hnd : (n == ("__debug__" : Str)) = false) (hnc : (n == ("__classdict__" : Str)) = false)
    (hb : ∀ (W : WX) (pn : List (Addr × Obj)) (xe : Value → Shared → Prop), Takes (X.tr pn xe) W → PassesOwn (model X.prog X.w) X.A X.env xe → PSs (X.tr pn xe) body (tS b W (exms m))) :
    PS X (.Try body [.ExceptHandler (some (.Name x np)) (some n) [.Assign [.Name y yp] (.Tuple [.Attribute (.Name n ep) f fp, .Attribute (.Name n ep2) g gp] jt tp) ap] hp] [] [] pos) (tS b W (exm (.tryc m x (.setT j i f g)))) := by
  obtain ⟨C, h1, h2, h3⟩ := hx
  obtain ⟨C1, k1, k2, k3⟩ := hxf
  obtain ⟨C2, l1, l2, l3⟩ := hxg
  obtain rfl : C1 = C := by rw [h2] at k1; exact (Option.some.inj k1).symm
  obtain rfl : C2 = C1 := by rw [h2] at l1; exact (Option.some.inj l1).symm
  refine (ps_try_as (tb := fun W' => tS b W' (exms m)) (ts := fun a cls d => tSeq (tAsg (tTup (tCons (tXf a cls d C2 f (tVar j)) (tCons (tXf a cls d C2 g (tVar j)) tNil))) (gName i)) tNext) hs hf A.nd hn hln ⟨hg, hdb, .inl h1⟩ tk hb
    (fun a oe cls d pn hz hvs => pss_cons (ps_set A.nd hy hyl (pe_tup (pa_cons (pe_xf k2 k3 hz hvs (pe_var hn hv hnd hnc)) (pa_cons (pe_xf l2 l3 hz hvs (pe_var hn hv hnd hnc)) pa_nil))) (by rfl) hfn) pss_nil)).weak fun D σ H ⟨RR, F, s, r, q⟩ => ⟨RR, F, s, r, ?_⟩
  simp only [exm] at q
  refine GoS.try0 q fun e s' hc q2 => fun cls d R2 F2 σ2 H2 p2 e2 r2 xr => ?_
  obtain ⟨C', c1, rfl, c2⟩ := xr
  obtain rfl : C' = C2 := by rw [hc, h2] at c1; exact (Option.some.inj c1).symm
  refine ⟨true, h3, fun _ a na => ?_, fun z => by cases z⟩
  simp only [hdS] at q2
  split at q2
  · rename_i x1 x2 g0 g1 g2
    rcases c2 with ⟨c3, _⟩ | ⟨dd, ws, rfl, c4, c5⟩
    · rw [c3] at g1; cases g1
    · obtain ⟨v1, t1, w1⟩ := c5 _ _ g1
      obtain ⟨v2, t2, w2⟩ := c5 _ _ g2
      have hj : j < σ2.length := by rw [← r2.len]; exact (List.getElem?_eq_some_iff.mp g0).1
      have gj : (σ2.set j (some (V.ref a)))[j]? = some (some (.ref a)) := by rw [List.getElem?_set_self hj]
      refine ⟨_, gj, rfl, rfl, dd, ws, v1, rfl, c4, w1, _, gj, rfl, rfl, dd, ws, v2, rfl, c4, w2, ⟨by show 2 ≤ sizeLine; rw [sizeLine_eq]; decide, fun p hp => ?_⟩⟩
      obtain ⟨F3, e3, r3, r4⟩ := (r2.gone (j := j) (some (V.ref a))).tup2 t1 t2 hp
      exact q2 R2 F3 _ _ p2 (e2.trans e3) ((r3.storeD (i := i) r4).gone (j := j) none)
  · exact q2.elim
theorem sn_tryR {x n f g : Str} {j jt : Nat} {m : Sms} {body : List Stmt} {np ep fp ep2 gp tp ap hp pos : Pos} (A : Amb X b k) (hs : X.stack = X.env :: X.outer) (hf : X.env.frame = some X.env.locals) (tk : Takes X W)
    (hx : XC X.K X.mg b.g x) (hxf : XD X.K b.g x f) (hxg : XD X.K b.g x g) (hg : Gl X x) (hdb : (x == ("__debug__" : Str)) = false)
    (hn : X.N[j]? = some n) (hln : X.env.kindOf n = some .local) (hv : Vis X.env.scope n) (hnd : (n == ("__debug__" : Str)) = false) (hnc : (n == ("__classdict__" : Str)) = false)
    (hb : ∀ (W : WX) (pn : List (Addr × Obj)) (xe : Value → Shared → Prop), Takes (X.tr pn xe) W → PassesOwn (model X.prog X.w) X.A X.env xe → PSs (X.tr pn xe) body (tS b W (exms m))) :
    PS X (.Try body [.ExceptHandler (some (.Name x np)) (some n) [.Return (some (.Tuple [.Attribute (.Name n ep) f fp, .Attribute (.Name n ep2) g gp] jt tp)) ap] hp] [] [] pos) (tS b W (exm (.tryc m x (.retT j f g)))) := by
  obtain ⟨C, h1, h2, h3⟩ := hx
  obtain ⟨C1, k1, k2, k3⟩ := hxf
  obtain ⟨C2, l1, l2, l3⟩ := hxg
  obtain rfl : C1 = C := by rw [h2] at k1; exact (Option.some.inj k1).symm
  obtain rfl : C2 = C1 := by rw [h2] at l1; exact (Option.some.inj l1).symm
  refine (ps_try_as (tb := fun W' => tS b W' (exms m)) (ts := fun a cls d => tSeq (fun D σ H => tTup (tCons (tXf a cls d C2 f (tVar j)) (tCons (tXf a cls d C2 g (tVar j)) tNil)) σ H D.rt) tNext) hs hf A.nd hn hln ⟨hg, hdb, .inl h1⟩ tk hb
    (fun a oe cls d pn hz hvs => pss_cons (ps_ret (pe_tup (pa_cons (pe_xf k2 k3 hz hvs (pe_var hn hv hnd hnc)) (pa_cons (pe_xf l2 l3 hz hvs (pe_var hn hv hnd hnc)) pa_nil)))) pss_nil)).weak fun D σ H ⟨RR, F, s, r, q⟩ => ⟨RR, F, s, r, ?_⟩
  simp only [exm] at q
  refine GoS.try0 q fun e s' hc q2 => fun cls d R2 F2 σ2 H2 p2 e2 r2 xr => ?_
  obtain ⟨C', c1, rfl, c2⟩ := xr
  obtain rfl : C' = C2 := by rw [hc, h2] at c1; exact (Option.some.inj c1).symm
  refine ⟨true, h3, fun _ a na => ?_, fun z => by cases z⟩
  simp only [hdS] at q2
  split at q2
  · rename_i x1 x2 g0 g1 g2
    rcases c2 with ⟨c3, _⟩ | ⟨dd, ws, rfl, c4, c5⟩
    · rw [c3] at g1; cases g1
    · obtain ⟨v1, t1, w1⟩ := c5 _ _ g1
      obtain ⟨v2, t2, w2⟩ := c5 _ _ g2
      have hj : j < σ2.length := by rw [← r2.len]; exact (List.getElem?_eq_some_iff.mp g0).1
      have gj : (σ2.set j (some (V.ref a)))[j]? = some (some (.ref a)) := by rw [List.getElem?_set_self hj]
      refine ⟨_, gj, rfl, rfl, dd, ws, v1, rfl, c4, w1, _, gj, rfl, rfl, dd, ws, v2, rfl, c4, w2, ⟨by show 2 ≤ sizeLine; rw [sizeLine_eq]; decide, fun p hp => ?_⟩⟩
      obtain ⟨F3, e3, r3, r4⟩ := (r2.gone (j := j) (some (V.ref a))).tup2 t1 t2 hp
      exact q2 R2 F3 _ _ _ p2 (e2.trans e3) r3 r4
  · exact q2.elim
end
end G4

namespace G4
open PySem PySem.Spec PyProof.Rows L2

/-! ### raise C(a, b): a class with an __init__ of its own that keeps two fields -/
section
variable {X : Cx} {o e : Expr} {es : List Expr} {to te : TE} {ta : TA} {p p' p1 p2 pos : Pos}
/-- B.__init__(self, ..), B a class of the text that takes ValueError's -/
theorem pe_binit {x : Str} {B : Addr} {pl : Sem Bool} (hg : Gl X x) (hm : X.mg x = some (.ref B)) (hdb : (x == ("__debug__" : Str)) = false) (hr : PySem.W.readsIn X.K B (.type "type") = true) (hf : PySem.W.findCls X.K (.ref B) (.type "type") "__init__" = some (.val (.builtin "ValueError.__init__")))
    (hs : PySem.W.specialIn X.K (.ref B) "__getattribute__" = some (some (.builtin "type.__getattribute__"))) (ha : PA X (e :: es) ta)
    (hc : eval (.Call (.Attribute (.Name x p1) "__init__" p2) (e :: es) [] pos) X.env = (do
      let ov ← eval (.Name x p1) X.env
      standAt p2.atName
      let (f, first) ← holding [ov] (getMethod ov "__init__" pl)
      callWith pos f first (backTo pos (starEach (e :: es) X.env)) (backToKw pos (keywordEach [] X.env))) := by rfl)
    (he : starEach (e :: es) X.env = (false, eval e X.env) :: starEach es X.env := by rfl) (hpl : (backTo pos (starEach es X.env)).any (·.1) = false := by rfl) :
    PE X (.Call (.Attribute (.Name x p1) "__init__" p2) (e :: es) [] pos) (tVeI X.K ta) := by
  refine ⟨fun pins s σ H Q I h => ?_⟩
  refine PySem.W.methodCall_KW (ld_glob I hg hm ?_ hdb) hc
  refine PySem.W.method_cls I.kIn hs (PySem.W.cls_value I.kIn hr hf (by decide +kernel) ?_)
  show wpAny _ _ (callWith pos (Value.builtin "ValueError.__init__") [] (backTo pos (starEach (e :: es) X.env)) []) _ _ _
  refine PyProof.Rows.callWith_method1 (thn (ha.run pos pins _ σ H _ (I.tok _) h) fun us s1 ⟨vs, H1, I1, r1, a, C, ws, ev, hl, T, ea, q⟩ => ?_) he hpl
  subst ev
  cases r1 with
  | @cons _ u0 _ ur ra rw' =>
    obtain rfl : u0 = Value.ref a := ra
    have hlen : ur.length ≤ sizeLine := by
      rw [← Paired.length rw', sizeLine_eq]
      omega
    exact oinit_ok T I1 ea hlen fun s' J => ⟨.non, H1, J, rfl, q⟩
end
theorem hc_name {env : Env} {x nm : Str} {p1 p2 p5 : Pos} {es : List Expr} (hp : (p2.endLine == p5.line) = true) (hf : methodCallForm (es.length + 0) (backTo p5 (starEach es env)) (backToKw p5 (keywordEach [] env)) = true) : eval (.Call (.Attribute (.Name x p1) nm p2) es [] p5) env = (do
      let ov ← eval (.Name x p1) env
      standAt p2.atName
      let (f, first) ← holding [ov] (getMethod ov nm (do return (← importBound (.Name x p1) env).getD true))
      callWith p5 f first (backTo p5 (starEach es env)) (backToKw p5 (keywordEach [] env))) := by
  have e : eval (.Call (.Attribute (.Name x p1) nm p2) es [] p5) env = (do
    let ov ← attributeBase (.Name x p1) nm env (eval (.Name x p1) env)
    standAt p2.atName
    methodCall (.Name x p1) nm p2 p5 env ov (es.length + 0) (backTo p5 (starEach es env)) (backToKw p5 (keywordEach [] env))) := by
    rw [eval]; rfl
  rw [e]
  unfold methodCall methodCallPos calleeOf
  simp only [hf, hp, Bool.or_true, if_true, pure_bind]
  rfl
/-- what that __init__ does -/
def spI (C : Addr) (f g : Str) : Sp := fun vs H Q _ => ∃ (a : Addr) (v u : V), vs = [.ref a, v, u] ∧ H a = some (exo a C none) ∧
  ∀ dx, H dx = none → dx ≠ a → Q .non (upd (upd (upd H dx (exd dx [(f, v)])) a (exo a C (some dx))) dx (exd dx [(g, u), (f, v)]))
section
variable {P : Program} {w : World} {K : PySem.W.Frag} {mg : Str → Option Value} {base : Heap}
theorem init2_ok {f g N1 N2 m qual : Str} {B C fI : Addr} {fd : FuncData} {st : Stmt} {j : Nat} {p1 p2 p3 p4 p5 p6 p7 p8 p9 q1 q2 q3 q4 q5 : Pos} (D : Fun K "__init__" qual st fI fd) (S : FnScope ["self", N1, N2] ["self", N1, N2] (defScope st))
    (hbody : defBody st = [.Expr (.Call (.Attribute (.Name "ClubError" p1) "__init__" p2) [.Name "self" p3, .Constant (.str m) j p4] [] p5) p6, .Assign [.Attribute (.Name "self" p7) f p8] (.Name N1 p9) q1, .Assign [.Attribute (.Name "self" q2) g q3] (.Name N2 q4) q5])
    (l0 : (defScope st).names.lookup ("self" : Str) = some .local) (l1 : (defScope st).names.lookup N1 = some .local) (l2 : (defScope st).names.lookup N2 = some .local) (lg : (defScope st).names.lookup ("ClubError" : Str) = some .globalImplicit)
    (n1 : (N1 == ("__debug__" : Str)) = false) (n2 : (N2 == ("__debug__" : Str)) = false) (n3 : (N1 == ("__classdict__" : Str)) = false) (n4 : (N2 == ("__classdict__" : Str)) = false)
    (hpos : (p2.endLine == p5.line) = true) (hm : mg "ClubError" = some (.ref B)) (hr : PySem.W.readsIn K B (.type "type") = true) (hf : PySem.W.findCls K (.ref B) (.type "type") "__init__" = some (.val (.builtin "ValueError.__init__")))
    (hs : PySem.W.specialIn K (.ref B) "__getattribute__" = some (some (.builtin "type.__getattribute__"))) (T : OexC K C) (hf1 : PySem.W.findIn K (.ref C) f = some none) (hf2 : PySem.W.findIn K (.ref C) g = some none) :
    FnOk P w K mg base (L2.CX P w) 1 fI fd ["self", N1, N2] (spI C f g) := by
  obtain ⟨oc, od, kV, doc, pm, an, cdv, ct, osl, rfl, lk, hcd⟩ := D.ex
  refine fn_of lk hcd S (fun vs H Q E ⟨a, v, u, e, _⟩ => by rw [e]; rfl) fun A outer s H vs Q E hr' ⟨a, v, u, e, ha, hq⟩ => ?_
  subst e
  rw [hbody]
  have v0 : ∀ pos, PE (cxOf (L2.CX P w) P w K mg base ["self", N1, N2] qual (defScope st) fI cdv A outer s H E) (.Name "self" pos) (tVar 0) := fun pos => pe_var rfl (.inl l0) (by decide) (by decide)
  have v1 : ∀ pos, PE (cxOf (L2.CX P w) P w K mg base ["self", N1, N2] qual (defScope st) fI cdv A outer s H E) (.Name N1 pos) (tVar 1) := fun pos => pe_var rfl (.inl l1) n1 n3
  have v2 : ∀ pos, PE (cxOf (L2.CX P w) P w K mg base ["self", N1, N2] qual (defScope st) fI cdv A outer s H E) (.Name N2 pos) (tVar 2) := fun pos => pe_var rfl (.inl l2) n2 n4
  refine ⟨_, pss_cons (ps_expr (pe_binit lg hm (by decide) hr hf hs (pa_cons (v0 _) (pa_cons pe_str pa_nil)) (hc_name hpos rfl))) (pss_cons (ps_ost (v0 _) (v1 _)) (pss_cons (ps_ost (v0 _) (v2 _)) pss_nil)), ?_⟩
  refine ⟨.ref a, rfl, a, C, [.str m], rfl, by show 1 ≤ 1000; decide, T, ha, ?_⟩
  refine ⟨v, rfl, .ref a, rfl, a, C, rfl, T, hf1, .inl ⟨ha, fun dx h1 h2 => ?_⟩⟩
  refine ⟨u, rfl, .ref a, rfl, a, C, rfl, T, hf2, .inr ⟨dx, [(f, v)], ?_, ?_, by show 1 ≤ 900; decide, hq dx h1 h2⟩⟩
  · rw [upd_same]
  · rw [upd_ne h2, upd_same]
end
/-- a class with such an __init__ -/
def XO (P : Program) (w : World) (K : PySem.W.Frag) (mg : Str → Option Value) (base : Heap) (gg : Str → Option Addr) (k : Nat) (x f g : Str) : Prop := ∃ (C fI : Addr) (fd : FuncData) (ps : List Str), mg x = some (.ref C) ∧ gg x = some C ∧ OexC K C ∧
  PySem.W.findIn K (.ref C) "__init__" = some (some (.ref fI)) ∧ PySem.W.typeIn K (.ref fI) = some (.type "function") ∧ FnOk P w K mg base (L2.CX P w) 1 fI fd ps (spI C f g) ∧ Binds K fd ps [] ∧ f ≠ g ∧ 2 ≤ k
theorem flat_toV {b : Bs} {RR : List Addr} {F : Hp} {x : D} {v : V} (h : Rep b.K b.g RR F x v) (hf : x.flat = true) : x.toV = some v := by
  cases h <;> first | rfl | (simp only [D.flat, Bool.false_eq_true] at hf)
section
variable {X : Cx} {b : Bs} {W : WX} {k : Nat}
theorem sn_raisO {x f g : Str} {e1 e2 : Expr} {es : Es} {p p2 pos : Pos} (A : Amb X b k) (tk : Takes X W) (hk : XO X.prog X.w X.K X.mg X.base b.g k x f g) (hg : Gl X x) (hdb : (x == ("__debug__" : Str)) = false)
    (ha : PA X [e1, e2] (tAs b W (evs es))) (hst : starEach [e1, e2] X.env = (false, eval e1 X.env) :: starEach [e2] X.env) (hpl : (backTo p2 (starEach [e2] X.env)).any (·.1) = false) :
    PS X (.Raise (some (.Call (.Name x p) [e1, e2] [] p2)) none pos) (tS b W (exm (.raisO x f g es))) := by
  obtain ⟨C, fI, fd, ps, h1, h2, T, h3, h4, h5, h6, hfg, hk2⟩ := hk
  refine (ps_raise A.calm tk (pmk_oex (k := 1) (dvs := []) (ds := []) T h3 h4 h5 (A.room.mono hk2) h6 .nil passL hg h1 ha hdb hst hpl)).weak fun D σ H ⟨RR, F, s, r, q⟩ => ?_
  simp only [exm] at q
  refine ⟨RR, F, s, r, q.of.imp fun l s1 R1 F1 H1 p1 e1' r1 q1 vs hvs => ?_⟩
  match l, hvs, q1 with
  | [x1, x2], .cons (v := v) w1 (.cons (v := u) w2 .nil), q1 =>
    simp only at q1
    split at q1
    · rename_i hf
      rw [Bool.and_eq_true] at hf
      have t1 := flat_toV w1 hf.1
      have t2 := flat_toV w2 hf.2
      refine ⟨by show 2 ≤ 1000; decide, fun a na => ⟨a, v, u, rfl, upd_same, fun dx h7 h8 => ?_⟩⟩
      rw [upd_ne h8] at h7
      refine ⟨rfl, dx, [(g, u), (f, v)], ?_, upd_same, h7, ?_⟩
      · rw [upd_ne (Ne.symm h8), upd_same]
      · have e : upd (del (upd (upd (upd (upd H1 a (exo a C none)) dx (exd dx [(f, v)])) a (exo a C (some dx))) dx (exd dx [(g, u), (f, v)])) a) dx (.xd [(g, u), (f, v)]) = upd H1 dx (.xd [(g, u), (f, v)]) := by
          funext y
          by_cases hy : y = dx
          · subst hy; rw [upd_same, upd_same]
          · rw [upd_ne hy, upd_ne hy]
            by_cases hya : y = a
            · subst hya; rw [del_same, na]
            · rw [del_ne hya, upd_ne hy, upd_ne hya, upd_ne hy, upd_ne hya]
        rw [e]
        have r2 := r1.same (same_new (o := .xd [(g, u), (f, v)]) h7)
        refine q1 _ _ R1 F1 _ _ (List.prefix_refl _) (Same.refl _) r2 ⟨C, h2, rfl, .inr ⟨dx, _, rfl, upd_same, fun y z hz => ?_⟩⟩
        have hz : ([(f, x1), (g, x2)] : List (Str × G4.D)).lookup y = some z := hz
        rw [List.lookup_cons] at hz
        by_cases hy : y = f
        · subst hy
          rw [beq_self_eq_true] at hz
          cases hz
          have e3 : (y == g) = false := by simpa using hfg
          exact ⟨v, t1, by rw [List.lookup_cons, e3, List.lookup_cons, beq_self_eq_true]⟩
        · have e4 : (y == f) = false := by simpa using hy
          rw [e4] at hz
          have hz : ([(g, x2)] : List (Str × G4.D)).lookup y = some z := hz
          rw [List.lookup_cons] at hz
          by_cases hy2 : y = g
          · subst hy2
            rw [beq_self_eq_true] at hz
            cases hz
            exact ⟨u, t2, by rw [List.lookup_cons, beq_self_eq_true]⟩
          · have e5 : (y == g) = false := by simpa using hy2
            rw [e5] at hz
            cases hz
    · exact q1.elim
  | [], _, q1 => exact q1.elim
  | [_], _, q1 => exact q1.elim
  | _ :: _ :: _ :: _, _, q1 => exact q1.elim
end
/-- an error of a class is what a clause that names the class takes -/
theorem exm_own {K : PySem.W.Frag} {C : Addr} (h1 : PySem.W.subIn K (.ref C) (.type "BaseException") = some true) (h2 : PySem.W.isClsIn K C = true) (h3 : PySem.W.typeIn K (.ref C) = some (.type "type")) (h4 : PySem.W.subIn K (.ref C) (.ref C) = some true) : PySem.W.exmOne K (.ref C) (.ref C) = some true := by
  have e1 : (PySem.W.subIn K (.ref C) (.type "BaseException") == some true) = true := by rw [h1] <;> rfl
  have e2 : ((PySem.W.clsIn K C).isSome && PySem.W.typeIn K (.ref C) == some (.type "type")) = true := by
    have q : (PySem.W.clsIn K C).isSome = true := h2
    rw [q, h3] <;> rfl
  show (if (PySem.W.subIn K (.ref C) (.type "BaseException") == some true) = true then (if ((PySem.W.clsIn K C).isSome && PySem.W.typeIn K (.ref C) == some (.type "type")) = true then PySem.W.subIn K (.ref C) (.ref C) else none) else none) = some true
  rw [if_pos e1, if_pos e2]
  exact h4
/-- a def in a class's body -/
def methS (st : Stmt) (i : Nat) : Stmt := match st with
  | .ClassDef _ _ _ body _ _ _ _ _ _ _ => body.getD i (.Pass ⟨0, 0, 0, 0⟩)
  | _ => .Pass ⟨0, 0, 0, 0⟩
end G4

namespace G4
open PySem PySem.Spec PyProof.Rows L2

/-! ### which stores are exchanged -/
def CK.lo (c : CK) (x : Str) : Bool := decide (c.sc.names.lookup x = some .local)
def isFn (sc : Scope) : Bool := match sc.kind with
  | .function => true
  | _ => false
def notSD : Expr → Bool
  | .SetComp _ _ _ _ => false
  | .DictComp _ _ _ _ _ => false
  | _ => true
/-- is a comprehension's value taken straight by the name? -/
def swC (c : CK) (e : Expr) (x : Str) (p : Pos) : Bool := match e with
  | .ListComp _ _ sc pos => c.lo x && p.line == pos.line && !(sc.names.any fun (n, k) => n == x && (k == .local || k == .cell))
  | _ => false
theorem blockKind_fn {env : Env} (h : isFn env.scope = true) : env.blockKind = .function := by
  unfold isFn at h
  unfold Env.blockKind
  split at h
  · rename_i e; rw [e]; rfl
  · cases h
theorem lo_beq {o : Option NameKind} : (o == some NameKind.local) = decide (o = some .local) := by
  cases o with
  | none => rfl
  | some k => cases k <;> rfl
theorem swC_eq {c : CK} {e : Expr} {x : Str} {p : Pos} {l : Nat} {env : Env} (hs : env.scope = c.sc) (hf : isFn c.sc = true) (hc : notSD e = true) : swapsWith e (some (.Name x p)) l env = pure (swC c e x p) := by
  have hb := blockKind_fn (env := env) (by rw [hs]; exact hf)
  cases e
  case ListComp elt gs sc pos =>
    unfold swapsWith swC
    simp only [hb, Expr.pos]
    have : env.kindOf x = c.sc.names.lookup x := by unfold Env.kindOf; rw [hs]
    rw [this, lo_beq]
    rfl
  case SetComp => cases hc
  case DictComp => cases hc
  all_goals rfl
def isLo (c : CK) (l : Nat) : Expr → Bool
  | .Name x p => c.lo x && p.line == l
  | _ => false
def sw0 (c : CK) (ts vs : List Expr) : Bool := decide (3 < ts.length) || vs.all (foldedForSure 8) || !(ts.all (isLo c ((ts.head?.map (·.pos.line)).getD 0)))
theorem filterMap_len {α β : Type} {f : α → Option β} {g : α → Bool} (h : ∀ a, (f a).isSome = g a) : ∀ l : List α, (l.filterMap f).length ≤ l.length ∧ ((l.filterMap f).length = l.length → l.all g = true)
  | [] => ⟨Nat.le_refl _, fun _ => rfl⟩
  | a :: l => by
    obtain ⟨h1, h2⟩ := filterMap_len h l
    rw [List.filterMap_cons]
    have ha := h a
    cases e : f a with
    | none =>
      rw [e] at ha
      exact ⟨Nat.le_succ_of_le h1, fun z => by have z : (l.filterMap f).length = l.length + 1 := z; omega⟩
    | some b =>
      rw [e] at ha
      refine ⟨by rw [List.length_cons, List.length_cons]; omega, fun z => ?_⟩
      rw [List.all_cons, ← ha, h2 (by rw [List.length_cons, List.length_cons] at z; omega)]
      rfl
theorem sw0_eq {c : CK} {ts vs : List Expr} {k k2 : Nat} {p p2 : Pos} {env : Env} (hs : env.scope = c.sc) (h : sw0 c ts vs = true) : swappedStores [.Tuple ts k p] (.Tuple vs k2 p2) env = pure none := by
  have hk : ∀ x, env.kindOf x = c.sc.names.lookup x := fun x => by unfold Env.kindOf; rw [hs]
  have hf : ∀ l (e : Expr), (match e with
      | Expr.Name id pos => if (env.kindOf id == some NameKind.local && pos.line == l) = true then some id else none
      | x => none : Option Str).isSome = isLo c l e := fun l e => by
    cases e <;> first | rfl | skip
    simp only [isLo, hk, lo_beq, CK.lo]
    split
    · rename_i z; rw [z]; rfl
    · rename_i z; rw [Bool.not_eq_true] at z; rw [z]; rfl
  unfold swappedStores
  dsimp only
  split
  · rfl
  rename_i h1
  split
  · rfl
  split
  · rfl
  rename_i h2
  split
  · rfl
  rename_i h3
  exfalso
  unfold sw0 at h
  rw [Bool.or_eq_true, Bool.or_eq_true] at h
  rcases h with (h | h) | h
  · have := of_decide_eq_true h
    apply h1
    have e2 : (ts.length == 2) = false := by rw [beq_eq_false_iff_ne]; omega
    have e3 : (ts.length == 3) = false := by rw [beq_eq_false_iff_ne]; omega
    rw [e2, e3]; rfl
  · exact h3 h
  · apply h2
    have hl := filterMap_len (hf ((ts.head?.map (·.pos.line)).getD 0)) ts
    have ne : ∀ {n m : Nat}, n ≠ m → (n != m) = true := fun h => by simpa using h
    rw [Bool.or_eq_true]
    refine .inl (ne fun z => ?_)
    rw [hl.2 z] at h
    cases h
theorem sw2_eq {c : CK} {x y : Str} {px py p p2 : Pos} {vs : List Expr} {k k2 : Nat} {env : Env} (hs : env.scope = c.sc) (hf : isFn c.sc = true) (hx : c.lo x = true) (hy : c.lo y = true) (hl : (py.line == px.line) = true) (hne : x ≠ y) (hv : vs.length = 2) (hst : vs.all notStar = true)
    (h1 : vs.all (foldedForSure 8) = false) (h2 : vs.all (constantsAlone 8) = false) : swappedStores [.Tuple [.Name x px, .Name y py] k p] (.Tuple vs k2 p2) env = pure (some [x, y]) := by
  have hk : ∀ x, env.kindOf x = c.sc.names.lookup x := fun x => by unfold Env.kindOf; rw [hs]
  have hb := blockKind_fn (env := env) (by rw [hs]; exact hf)
  have na : (vs.any fun e => match e with
      | .Starred .. => true
      | _ => false) = false := by
    rw [List.any_eq_false]
    intro e he
    have := List.all_eq_true.mp hst e he
    cases e <;> first | (cases this; done) | simp
  unfold CK.lo at hx hy
  unfold swappedStores
  simp only [hv, hb, na, h1, h2, List.length_cons, List.length_nil, List.head?_cons, Option.map_some, Option.getD_some, Expr.pos, List.filterMap_cons, List.filterMap_nil, hk, lo_beq, hx, hy, hl, Bool.and_self, if_true, beq_self_eq_true, Bool.and_true]
  have e1 : ([x, y] : List Str).eraseDups.length = 2 := by
    have : (y == x) = false := by rw [beq_eq_false_iff_ne]; exact Ne.symm hne
    simp [List.eraseDups_cons, this]
  rw [e1]
  refine (if_neg (by decide)).trans ((if_neg fun h => ?_).trans rfl)
  exact Bool.noConfusion (h.symm.trans na)
theorem sw3_eq {c : CK} {x y z : Str} {px py pz p p2 : Pos} {vs : List Expr} {k k2 : Nat} {env : Env} (hs : env.scope = c.sc) (hf : isFn c.sc = true) (hx : c.lo x = true) (hy : c.lo y = true) (hz : c.lo z = true) (hl : (py.line == px.line) = true) (hl2 : (pz.line == px.line) = true) (hne : x ≠ y) (hne2 : x ≠ z) (hne3 : y ≠ z) (hv : vs.length = 3) (hst : vs.all notStar = true)
    (h1 : vs.all (foldedForSure 8) = false) (h2 : vs.all (constantsAlone 8) = false) : swappedStores [.Tuple [.Name x px, .Name y py, .Name z pz] k p] (.Tuple vs k2 p2) env = pure (some [x, y, z]) := by
  have hk : ∀ x, env.kindOf x = c.sc.names.lookup x := fun x => by unfold Env.kindOf; rw [hs]
  have hb := blockKind_fn (env := env) (by rw [hs]; exact hf)
  have na : (vs.any fun e => match e with
      | .Starred .. => true
      | _ => false) = false := by
    rw [List.any_eq_false]
    intro e he
    have := List.all_eq_true.mp hst e he
    cases e <;> first | (cases this; done) | simp
  unfold CK.lo at hx hy hz
  unfold swappedStores
  simp only [hv, hb, na, h1, h2, List.length_cons, List.length_nil, List.head?_cons, Option.map_some, Option.getD_some, Expr.pos, List.filterMap_cons, List.filterMap_nil, hk, lo_beq, hx, hy, hz, hl, hl2, Bool.and_self, if_true, beq_self_eq_true, Bool.and_true]
  have e1 : ([x, y, z] : List Str).eraseDups.length = 3 := by
    have a1 : (y == x) = false := by rw [beq_eq_false_iff_ne]; exact Ne.symm hne
    have a2 : (z == x) = false := by rw [beq_eq_false_iff_ne]; exact Ne.symm hne2
    have a3 : (z == y) = false := by rw [beq_eq_false_iff_ne]; exact Ne.symm hne3
    simp [List.eraseDups_cons, a1, a2, a3]
  rw [e1]
  refine (if_neg (by decide)).trans ((if_neg fun h => ?_).trans rfl)
  exact Bool.noConfusion (h.symm.trans na)
end G4

namespace G4
open PySem PySem.Spec PyProof.Rows L2

/-! ### is it the text's statement? -/
def notTup : Expr → Bool
  | .Tuple _ _ _ => false
  | _ => true
def isLc : E → Bool
  | .lc _ _ _ _ _ => true
  | .alc (.lc _ _ _ _ _) => true
  | _ => false
def ckNames (c : CK) : List Nat → List Expr → Bool
  | [], [] => true
  | i :: l, .Name x _ :: es => c.loc i x && ckNames c l es
  | _, _ => false
def sw23 (c : CK) : List Nat → List Expr → List Expr → Bool
  | [i, j], [.Name x px, .Name y py], [a, b] => c.lo x && c.lo y && py.line == px.line && decide (x ≠ y) && decide (i ≠ j) && !([a, b].all (foldedForSure 8)) && !([a, b].all (constantsAlone 8))
  | [i, j, l], [.Name x px, .Name y py, .Name z pz], [a, b, d] => c.lo x && c.lo y && c.lo z && py.line == px.line && pz.line == px.line && decide (x ≠ y) && decide (x ≠ z) && decide (y ≠ z) && decide (i ≠ j) && decide (i ≠ l) && decide (j ≠ l) && !([a, b, d].all (foldedForSure 8)) && !([a, b, d].all (constantsAlone 8))
  | _, _, _ => false
def ckTgs (c : CK) : List Tg → List Expr → Bool
  | [], [] => true
  | .nm i :: l, .Name x _ :: es => c.loc i x && ckTgs c l es
  | .sub a i :: l, .Subscript o j _ :: es => ck c a o && ck c i j && notSlice j && ckTgs c l es
  | _, _ => false
/-- is it the clause? -/
def ckHd (c : CK) : Hd → Option Str → List Stmt → Bool
  | .setB i v, nm, su => match nm, su with
    | none, [.Assign [.Name y _] (.Constant (.bool u) _ _) _] => c.loc i y && decide (u = v)
    | _, _ => false
  | .setT j i f g, nm, su => match nm, su with
    | some n, [.Assign [.Name y _] (.Tuple [.Attribute (.Name n1 _) f1 _, .Attribute (.Name n2 _) g1 _] _ _) _] => c.loc i y && c.vis j n && decide (c.sc.names.lookup n = some .local) && decide (n1 = n) && decide (n2 = n) && decide (f1 = f) && decide (g1 = g)
    | _, _ => false
  | .retT j f g, nm, su => match nm, su with
    | some n, [.Return (some (.Tuple [.Attribute (.Name n1 _) f1 _, .Attribute (.Name n2 _) g1 _] _ _)) _] => c.vis j n && decide (c.sc.names.lookup n = some .local) && decide (n1 = n) && decide (n2 = n) && decide (f1 = f) && decide (g1 = g)
    | _, _ => false
mutual
def ckm (c : CK) : Sm → Stmt → Bool
  | .dead, _ => true
  | .parT l es, st => match st with
    | .Assign [.Tuple ts _ _] (.Tuple vs _ _) _ => cks c es vs && ckTgs c l ts && decide (l.length ≤ 1000) && sw0 c ts vs
    | _ => false
  | .pass, st => match st with
    | .Pass _ => true
    | .Expr (.Constant (.str _) _ _) _ => true
    | _ => false
  | .expr e, st => match st with
    | .Expr x _ => ck c e x && notComp x
    | _ => false
  | .set i e, st => match st with
    | .Assign [.Name x p] v _ => c.loc i x && notSD v && ck c e v && (!(swC c v x p) || isLc e)
    | _ => false
  | .par l es, st => match st with
    | .Assign [.Tuple ts _ _] (.Tuple vs _ _) _ => cks c es vs && ckNames c l ts && decide (l.length ≤ 1000) && (sw0 c ts vs || sw23 c l ts vs)
    | _ => false
  | .unp t e, st => match st with
    | .Assign [.Tuple ts k p] v _ => ckT c t (.Tuple ts k p) && ck c e v && notComp v && notTup v
    | _ => false
  | .augs a i o e, st => match st with
    | .AugAssign (.Subscript x j _) u v _ => ck c a x && ck c i j && notSlice j && decide (o = u) && ck c e v
    | _ => false
  | .unpO l e, st => match st with
    | .Assign [.Tuple ts _ _] v _ => ckNames c l ts && ck c e v && notComp v && notTup v
    | _ => false
  | .setix a b e, st => match st with
    | .Assign [.Subscript o i _] v _ => ck c a o && ck c b i && ck c e v && notSlice i && notComp v
    | _ => false
  | .ifs e a b, st => match st with
    | .If t x y _ => ck c e t && ckms c a x && ckms c b y
    | _ => false
  | .fors t src b, st => match st with
    | .For tg it body [] _ => ckT c t tg && ckS c src tg it && notSet it && ckms c b body
    | _ => false
  | .ret e, st => match st with
    | .Return (some v) _ => ck c e v
    | _ => false
  | .retN, st => match st with
    | .Return none _ => true
    | _ => false
  | .brk, st => match st with
    | .Break _ => true
    | _ => false
  | .cont, st => match st with
    | .Continue _ => true
    | _ => false
  | .rais x m, st => match st with
    | .Raise (some (.Call (.Name y _) [.Constant (.str n) _ _] [] _)) none _ => decide (x = y) && decide (m = n) && c.gl y
    | _ => false
  | .raisO x _ _ es, st => match st with
    | .Raise (some (.Call (.Name y _) [e1, e2] [] _)) none _ => decide (x = y) && c.gl y && cks c es [e1, e2]
    | _ => false
  | .tryc b x h, st => match st with
    | .Try body [.ExceptHandler (some (.Name y _)) nm suite _] [] [] _ => decide (x = y) && c.gl y && ckms c b body && ckHd c h nm suite
    | _ => false
  | .aug i o e, st => match st with
    | .AugAssign (.Name x _) u v _ => c.loc i x && decide (o = u) && ck c e v
    | _ => false
  | .whl _ e b, st => match st with
    | .While t body [] _ => ck c e t && ckms c b body
    | _ => false
def ckms (c : CK) : Sms → List Stmt → Bool
  | .nil, l => l.isEmpty
  | .cons a r, l => match l with
    | x :: xs => ckm c a x && ckms c r xs
    | [] => false
end
section
variable (P : Program) (w : World) (K : PySem.W.Frag) (mg : Str → Option Value) (base : Heap) (g : Str → Option Addr) (k : Nat)
def OkTgs : List Tg → Prop
  | [] => True
  | .nm _ :: l => OkTgs l
  | .sub a i :: l => OkE P w K mg base g k a ∧ OkE P w K mg base g k i ∧ OkTgs l
def OkH (x : Str) : Hd → Prop
  | .setB _ _ => True
  | .setT _ _ a d => XD K g x a ∧ XD K g x d
  | .retT _ a d => XD K g x a ∧ XD K g x d
mutual
def OkM : Sm → Prop
  | .parT l es => OkTgs P w K mg base g k l ∧ OkEs P w K mg base g k es
  | .expr e => OkE P w K mg base g k e
  | .set _ e => OkE P w K mg base g k e
  | .par _ es => OkEs P w K mg base g k es
  | .unp _ e => OkE P w K mg base g k e
  | .unpO _ e => OkE P w K mg base g k e
  | .augs a i _ e => OkE P w K mg base g k a ∧ OkE P w K mg base g k i ∧ OkE P w K mg base g k e
  | .setix a b e => OkE P w K mg base g k a ∧ OkE P w K mg base g k b ∧ OkE P w K mg base g k e
  | .ifs e a b => OkE P w K mg base g k e ∧ OkMs a ∧ OkMs b
  | .fors _ src b => OkS P w K mg base g k src ∧ OkMs b
  | .ret e => OkE P w K mg base g k e
  | .rais x _ => XK K mg g x
  | .raisO x a d es => XO P w K mg base g k x a d ∧ OkEs P w K mg base g k es
  | .tryc b x h => OkMs b ∧ XC K mg g x ∧ OkH K g x h
  | .aug _ _ e => OkE P w K mg base g k e
  | .whl _ e b => OkE P w K mg base g k e ∧ OkMs b
  | _ => True
def OkMs : Sms → Prop
  | .nil => True
  | .cons a r => OkM a ∧ OkMs r
end
end
section
variable {X : Cx} {b : Bs} {W : WX} {k : Nat} {c : CK}
theorem names_ok (C : CkX c X) : ∀ (l : List Nat) (ts : List Expr), ckNames c l ts = true → NamesOk X l ts
  | [], [], _ => trivial
  | [], _ :: _, h => by simp [ckNames] at h
  | _ :: _, [], h => by simp [ckNames] at h
  | i :: l, e :: es, h => by
    cases e <;> simp only [ckNames, Bool.and_eq_true, reduceCtorEq, Bool.false_eq_true] at h
    obtain ⟨h1, h2, h3⟩ := C.loc h.1
    exact ⟨h1, h2, h3, names_ok C l es h.2⟩
theorem tgs_ok (A : Amb X b k) (C : CkX c X) (tk : Takes X W) : ∀ (l : List Tg) (ts : List Expr), ckTgs c l ts = true → OkTgs X.prog X.w X.K X.mg X.base b.g k l → TgsOk X b W l ts
  | [], [], _, _ => trivial
  | [], _ :: _, h, _ => by simp [ckTgs] at h
  | .nm _ :: _, [], h, _ => by simp [ckTgs] at h
  | .sub _ _ :: _, [], h, _ => by simp [ckTgs] at h
  | .nm i :: l, e :: es, h, o => by
    cases e <;> simp only [ckTgs, Bool.and_eq_true, reduceCtorEq, Bool.false_eq_true] at h
    obtain ⟨h1, h2, h3⟩ := C.loc h.1
    exact ⟨h1, h2, h3, tgs_ok A C tk l es h.2 o⟩
  | .sub a i :: l, e :: es, h, o => by
    cases e <;> simp only [ckTgs, Bool.and_eq_true, reduceCtorEq, Bool.false_eq_true] at h
    exact ⟨ok_E a c X b W k _ A C tk h.1.1.1 o.1, ok_E i c X b W k _ A C tk h.1.1.2 o.2.1, h.1.2, tgs_ok A C tk l es h.2 o.2.2⟩
/-- the values of a, b = x, y -/
theorem ok_Pa (A : Amb X b k) (C : CkX c X) (tk : Takes X W) : ∀ (e : Es) (pe : List Expr), cks c e pe = true → OkXs X b k e → PA X pe (tAs b W (evPar e))
  | .nil, pe, h, o => by
    simp only [cks, List.isEmpty_iff] at h
    subst h
    exact par_nil
  | .cons a r, pe, h, o => by
    simp only [OkXs, OkEs] at o
    simp only [cks] at h
    split at h <;> first | contradiction | skip
    simp only [Bool.and_eq_true] at h
    exact par_cons (ok_E a c X b W k _ A C tk h.1.1 o.1) (ok_Pa A C tk r _ h.2 o.2) (star_cons h.1.2)
/-- the parts of a comprehension -/
theorem lc_parts {own : List (Str × Nat)} {e : E} {g : T} {src : Src} {d : EO} {elt tg iter : Expr} {ifs : List Expr} {scope : Scope} {pos : Pos} (A : Amb X b k) (C : CkX c X) (tk : Takes X W)
    (h : ck c (.lc own e g src d) (.ListComp elt [⟨tg, iter, ifs, 0⟩] scope pos) = true) (o : OkX X b k (.lc own e g src d)) :
    ∃ wi gg tt te, BlkOk X.N X.env.scope scope own ∧ notSet iter = true ∧ PI X tg iter wi ∧ (∀ (s : Shared) (H : Hp) (C : Addr) (cl : List (Str × Addr)) (fp : List Addr), PG (X.blk s H scope (compEnvC scope cl C X.env) fp) tg gg) ∧
      (∀ (s : Shared) (H : Hp) (C : Addr) (cl : List (Str × Addr)) (fp : List Addr), PTs (X.blk s H scope (compEnvC scope cl C X.env) fp) ifs tt) ∧
      (∀ (s : Shared) (H : Hp) (C : Addr) (cl : List (Str × Addr)) (fp : List Addr), PE (X.blk s H scope (compEnvC scope cl C X.env) fp) elt te) ∧
      ∀ σ H Q, tE b W (ev (.lc own e g src d)) σ H Q → tLc wi gg tt te (own.map (·.2)) σ H Q := by
  simp only [OkX, OkE] at o
  simp only [ck, Bool.and_eq_true] at h
  obtain ⟨⟨⟨⟨⟨⟨h1, h2⟩, h3⟩, h4⟩, h5⟩, h6⟩, h7⟩ := h
  have ok : BlkOk X.N X.env.scope scope own := by rw [C.N, C.sc]; exact blkOk_by h1
  have hg : ∀ b' : Bs, b'.K = b.K → b'.g = b.g → ∀ (s : Shared) (H : Hp) (Ca : Addr) (cl : List (Str × Addr)) (fp : List Addr), PG (X.blk s H scope (compEnvC scope cl Ca X.env) fp) tg (tT b' g) := fun b' e1 e2 s H Ca cl fp =>
    ok_T (b := b') (k := k) (Amb.blk (b := b') ⟨e1.trans A.K, A.nd, A.calm, A.room, A.gd⟩ s H scope _ fp) (C.blk s H scope Ca cl fp) g tg h5
  have ht : ∀ b' : Bs, b'.K = b.K → b'.g = b.g → ∀ (s : Shared) (H : Hp) (Ca : Addr) (cl : List (Str × Addr)) (fp : List Addr), PTs (X.blk s H scope (compEnvC scope cl Ca X.env) fp) ifs (tB' b' Wf (evc d)) := fun b' e1 e2 s H Ca cl fp =>
    ok_C d (c.blk scope) _ b' Wf k ifs ⟨e1.trans A.K, A.nd, A.calm, A.room, A.gd⟩ (C.blk s H scope Ca cl fp) blk_wf h6 (by unfold OkXo; rw [e2]; exact o.2.2)
  have he : ∀ b' : Bs, b'.K = b.K → b'.g = b.g → ∀ (s : Shared) (H : Hp) (Ca : Addr) (cl : List (Str × Addr)) (fp : List Addr), PE (X.blk s H scope (compEnvC scope cl Ca X.env) fp) elt (tE b' Wf (ev e)) := fun b' e1 e2 s H Ca cl fp =>
    ok_E e (c.blk scope) _ b' Wf k elt ⟨e1.trans A.K, A.nd, A.calm, A.room, A.gd⟩ (C.blk s H scope Ca cl fp) blk_wf h7 (by unfold OkX; rw [e2]; exact o.1)
  obtain ⟨wi, gg, tt, te, g1, g2, g3, g4, g5⟩ := snd_lc (W := W) (pos := pos) A ok (fun i hi => of_decide_eq_true (List.all_eq_true.mp h2 i hi)) (ok_S src c X b W k tg iter A C tk h4 o.2.1) h3 hg ht he
  exact ⟨wi, gg, tt, te, ok, h3, g1, g2, g3, g4, g5⟩
theorem sole_no {tg v : Expr} {l : Nat} {env : Env} (h : notComp v = true) : swapsWithSole [tg] v l env = pure false := swap_no h
theorem swC_inv {e : Expr} {x : Str} {p : Pos} (h : swC c e x p = true) : ∃ elt gs sc pos, e = .ListComp elt gs sc pos ∧ c.lo x = true := by
  unfold swC at h
  split at h
  · simp only [Bool.and_eq_true] at h
    exact ⟨_, _, _, _, rfl, h.1.1⟩
  · cases h
theorem lc_shape {own : List (Str × Nat)} {e : E} {g : T} {src : Src} {d : EO} {elt : Expr} {gs : List Comprehension} {sc : Scope} {pos : Pos} (h : ck c (.lc own e g src d) (.ListComp elt gs sc pos) = true) : ∃ tg iter ifs, gs = [⟨tg, iter, ifs, 0⟩] := by
  simp only [ck] at h
  split at h <;> first | contradiction | skip
  rename_i z
  cases z
  exact ⟨_, _, _, rfl⟩
end
section
variable {X : Cx} {b : Bs} {W : WX} {k : Nat} {c : CK}
mutual
theorem ok_M : ∀ (m : Sm) (X : Cx) (b : Bs) (W : WX) (k : Nat) (c : CK) (A : Amb X b k) (C : CkX c X) (tk : Takes X W) (hp : PassesOwn (model X.prog X.w) X.A X.env X.xe) (hf : isFn c.sc = true) (hst0 : X.stack = X.env :: X.outer) (hfr0 : X.env.frame = some X.env.locals) (st : Stmt), ckm c m st = true → OkM X.prog X.w X.K X.mg X.base b.g k m → PS X st (tS b W (exm m))
  | .pass, X, b, W, k, c, A, C, tk, hp, hf, hst0, hfr0, st, h, o => by
    simp only [ckm] at h
    split at h <;> first | contradiction | skip
    · exact sn_pass
    · exact sn_doc
  | .expr e, X, b, W, k, c, A, C, tk, hp, hf, hst0, hfr0, st, h, o => by
    simp only [OkM] at o
    simp only [ckm] at h
    split at h <;> first | contradiction | skip
    rw [Bool.and_eq_true] at h
    exact sn_expr (ok_E e c X b W k _ A C tk h.1 o) h.2
  | .set i e, X, b, W, k, c, A, C, tk, hp, hf, hst0, hfr0, st, h, o => by
    simp only [OkM] at o
    simp only [ckm] at h
    split at h <;> first | contradiction | skip
    rename_i x p v spos
    simp only [Bool.and_eq_true, Bool.or_eq_true] at h
    obtain ⟨⟨⟨h1, h2⟩, h3⟩, h4⟩ := h
    obtain ⟨g1, g2, g3⟩ := C.loc h1
    have hs := swC_eq (x := x) (p := p) (l := spos.line) C.sc hf h2
    cases e5 : swC c v x p with
    | false => exact sn_set A.nd g1 g2 g3 (ok_E e c X b W k _ A C tk h3 o) (by rw [hs, e5])
    | true =>
      rw [e5] at hs h4
      obtain ⟨elt, gs, sc, pos, rfl, hl⟩ := swC_inv e5
      have hl' : X.env.scope.names.lookup x = some .local := by rw [C.sc]; exact of_decide_eq_true hl
      have h4 : isLc e = true := by simpa using h4
      have fin : ∀ {own e1 g src d} (e' : E), (∀ σ H Q, tE b W (ev e') σ H Q → tE b W (ev (.lc own e1 g src d)) σ H Q) → ck c (.lc own e1 g src d) (.ListComp elt gs sc pos) = true → OkX X b k (.lc own e1 g src d) → PS X (.Assign [.Name x p] (.ListComp elt gs sc pos) spos) (tS b W (exm (.set i e'))) := fun {own e1 g src d} e' hw h o => by
        obtain ⟨tg, iter, ifs, rfl⟩ := lc_shape h
        obtain ⟨wi, gg, tt, te, k1, k2, k3, k4, k5, k6, k7⟩ := lc_parts A C tk h o
        exact sn_setLc A g1 hl' hs k3 k1 k4 k5 k6 k2 fun σ H Q q => k7 σ H Q (hw σ H Q q)
      unfold isLc at h4
      split at h4
      · exact fin _ (fun _ _ _ q => q) h3 o
      · simp only [ck] at h3
        simp only [OkE] at o
        exact fin _ alc_weak (by simp only [ck]; exact h3) (by simp only [OkX, OkE]; exact o)
      · cases h4
  | .par l es, X, b, W, k, c, A, C, tk, hp, hf, hst0, hfr0, st, h, o => by
    simp only [OkM] at o
    simp only [ckm] at h
    split at h <;> first | contradiction | skip
    simp only [Bool.and_eq_true, Bool.or_eq_true, decide_eq_true_eq] at h
    obtain ⟨⟨⟨h1, h2⟩, h3⟩, h4⟩ := h
    have hn := names_ok C l _ h2
    have ha := ok_Pa A C tk es _ h1 o
    have hs := (cks_star h1).1
    rcases h4 with h4 | h4
    · exact sn_par A hn ha hs (sw0_eq C.sc h4) h3
    · unfold sw23 at h4
      split at h4
      · simp only [Bool.and_eq_true, Bool.not_eq_true', decide_eq_true_eq] at h4
        obtain ⟨⟨⟨⟨⟨⟨a1, a2⟩, a3⟩, a4⟩, a5⟩, a6⟩, a7⟩ := h4
        simp only [NamesOk] at hn
        exact sn_par2 A hn.1 hn.2.2.2.1 a5 (by rw [C.sc]; exact of_decide_eq_true a1) (by rw [C.sc]; exact of_decide_eq_true a2) ha (sw2_eq C.sc hf a1 a2 a3 a4 rfl hs a6 a7)
      · simp only [Bool.and_eq_true, Bool.not_eq_true', decide_eq_true_eq] at h4
        obtain ⟨⟨⟨⟨⟨⟨⟨⟨⟨⟨⟨⟨a1, a2⟩, a3⟩, a4⟩, a5⟩, a6⟩, a7⟩, a8⟩, a9⟩, b1⟩, b2⟩, b3⟩, b4⟩ := h4
        simp only [NamesOk] at hn
        exact sn_par3 A hn.1 hn.2.2.2.1 hn.2.2.2.2.2.2.1 a9 b1 b2 (by rw [C.sc]; exact of_decide_eq_true a1) (by rw [C.sc]; exact of_decide_eq_true a2) (by rw [C.sc]; exact of_decide_eq_true a3) ha (sw3_eq C.sc hf a1 a2 a3 a4 a5 a6 a7 a8 rfl hs b3 b4)
      · cases h4
  | .unp t e, X, b, W, k, c, A, C, tk, hp, hf, hst0, hfr0, st, h, o => by
    simp only [OkM] at o
    simp only [ckm] at h
    split at h <;> first | contradiction | skip
    rename_i v _
    simp only [Bool.and_eq_true] at h
    obtain ⟨⟨⟨h1, h2⟩, h3⟩, h4⟩ := h
    exact sn_unp (ok_E e c X b W k _ A C tk h2 o) (ok_T A C t _ h1) (sole_no h3) (by cases v <;> first | rfl | cases h4) (by rfl)
  | .augs a i u e, X, b, W, k, c, A, C, tk, hp, hf, hst0, hfr0, st, h, o => by
    simp only [OkM] at o
    simp only [ckm] at h
    split at h <;> first | contradiction | skip
    simp only [Bool.and_eq_true, decide_eq_true_eq] at h
    obtain ⟨⟨⟨⟨h1, h2⟩, h3⟩, rfl⟩, h4⟩ := h
    exact sn_augs A (ok_E a c X b W k _ A C tk h1 o.1) (ok_E i c X b W k _ A C tk h2 o.2.1) h3 (ok_E e c X b W k _ A C tk h4 o.2.2)
  | .unpO l e, X, b, W, k, c, A, C, tk, hp, hf, hst0, hfr0, st, h, o => by
    simp only [OkM] at o
    simp only [ckm] at h
    split at h <;> first | contradiction | skip
    rename_i v _
    simp only [Bool.and_eq_true] at h
    obtain ⟨⟨⟨h1, h2⟩, h3⟩, h4⟩ := h
    exact sn_unpO A (names_ok C l _ h1) (ok_E e c X b W k _ A C tk h2 o) (sole_no h3) (by cases v <;> first | rfl | cases h4)
  | .setix x y e, X, b, W, k, c, A, C, tk, hp, hf, hst0, hfr0, st, h, o => by
    simp only [OkM] at o
    simp only [ckm] at h
    split at h <;> first | contradiction | skip
    simp only [Bool.and_eq_true] at h
    obtain ⟨⟨⟨⟨h1, h2⟩, h3⟩, h4⟩, h5⟩ := h
    exact sn_setix A (ok_E x c X b W k _ A C tk h1 o.1) (ok_E y c X b W k _ A C tk h2 o.2.1) (ok_E e c X b W k _ A C tk h3 o.2.2) h4 (sole_no h5)
  | .ifs e p q, X, b, W, k, c, A, C, tk, hp, hf, hst0, hfr0, st, h, o => by
    simp only [OkM] at o
    simp only [ckm] at h
    split at h <;> first | contradiction | skip
    simp only [Bool.and_eq_true] at h
    exact sn_if (ok_T' e c X b W k _ A C tk h.1.1 o.1).1 (ok_Ms p _ _ _ _ _ A C tk hp hf hst0 hfr0 _ h.1.2 o.2.1) (ok_Ms q _ _ _ _ _ A C tk hp hf hst0 hfr0 _ h.2 o.2.2)
  | .fors t src p, X, b, W, k, c, A, C, tk, hp, hf, hst0, hfr0, st, h, o => by
    simp only [OkM] at o
    simp only [ckm] at h
    split at h <;> first | contradiction | skip
    simp only [Bool.and_eq_true] at h
    obtain ⟨⟨⟨h1, h2⟩, h3⟩, h4⟩ := h
    exact sn_for A hp (ok_S src c X b W k _ _ A C tk h2 o.1) h3 (ok_T A C t _ h1) (ok_Ms p _ _ _ _ _ A C tk hp hf hst0 hfr0 _ h4 o.2)
  | .ret e, X, b, W, k, c, A, C, tk, hp, hf, hst0, hfr0, st, h, o => by
    simp only [OkM] at o
    simp only [ckm] at h
    split at h <;> first | contradiction | skip
    exact sn_ret (ok_E e c X b W k _ A C tk h o)
  | .retN, X, b, W, k, c, A, C, tk, hp, hf, hst0, hfr0, st, h, o => by
    simp only [ckm] at h
    split at h <;> first | contradiction | skip
    exact sn_retN
  | .brk, X, b, W, k, c, A, C, tk, hp, hf, hst0, hfr0, st, h, o => by
    simp only [ckm] at h
    split at h <;> first | contradiction | skip
    exact sn_brk
  | .cont, X, b, W, k, c, A, C, tk, hp, hf, hst0, hfr0, st, h, o => by
    simp only [ckm] at h
    split at h <;> first | contradiction | skip
    exact sn_cont
  | .rais x m, X, b, W, k, c, A, C, tk, hp, hf, hst0, hfr0, st, h, o => by
    simp only [OkM] at o
    simp only [ckm] at h
    split at h <;> first | contradiction | skip
    simp only [Bool.and_eq_true, decide_eq_true_eq] at h
    obtain ⟨⟨rfl, rfl⟩, h1⟩ := h
    obtain ⟨h3, h4⟩ := C.gl h1
    exact sn_rais A tk o h3 (okName_1 h4)
  | .raisO x f g es, X, b, W, k, c, A, C, tk, hp, hf, hst0, hfr0, st, h, o => by
    simp only [OkM] at o
    simp only [ckm] at h
    split at h <;> first | contradiction | skip
    simp only [Bool.and_eq_true, decide_eq_true_eq] at h
    obtain ⟨⟨rfl, h1⟩, h2⟩ := h
    obtain ⟨h3, h4⟩ := C.gl h1
    have hs := (cks_star h2).1
    rw [List.all_cons, Bool.and_eq_true] at hs
    exact sn_raisO A tk o.1 h3 (okName_1 h4) (ok_A es c X b W k _ A C tk h2 o.2).1 (star_cons hs.1) (star_any _ hs.2)
  | .tryc m x hd, X, b, W, k, c, A, C, tk, hp, hf, hst0, hfr0, st, h, o => by
    simp only [OkM] at o
    simp only [ckm] at h
    split at h <;> first | contradiction | skip
    simp only [Bool.and_eq_true, decide_eq_true_eq] at h
    obtain ⟨⟨⟨rfl, h1⟩, h2⟩, h5⟩ := h
    obtain ⟨h3, h4⟩ := C.gl h1
    obtain ⟨o1, o2, o3⟩ := o
    have hb : ∀ (W' : WX) (pn : List (Addr × Obj)) (xe : Value → Shared → Prop), Takes (X.tr pn xe) W' → PassesOwn (model X.prog X.w) X.A X.env xe → PSs (X.tr pn xe) _ (tS b W' (exms m)) := fun W' pn xe t1 t2 =>
      ok_Ms m (X.tr pn xe) b W' k c (A.tr pn xe) ⟨C.N, C.sc, C.fc, C.bs⟩ t1 t2 hf hst0 hfr0 _ h2 o1
    cases hd with
    | setB i v =>
      simp only [ckHd] at h5
      split at h5 <;> first | contradiction | skip
      simp only [Bool.and_eq_true, decide_eq_true_eq] at h5
      obtain ⟨h6, rfl⟩ := h5
      obtain ⟨g1, g2, g3⟩ := C.loc h6
      exact sn_tryB A hst0 hfr0 tk o2 h3 (okName_1 h4) g1 g2 g3 hb
    | setT j i f g =>
      simp only [ckHd] at h5
      split at h5 <;> first | contradiction | skip
      simp only [Bool.and_eq_true, decide_eq_true_eq] at h5
      obtain ⟨⟨⟨⟨⟨⟨h6, h7⟩, h8⟩, rfl⟩, rfl⟩, rfl⟩, rfl⟩ := h5
      obtain ⟨g1, g2, g3⟩ := C.loc h6
      obtain ⟨v1, v2, v3⟩ := C.vis h7
      exact sn_tryS A hst0 hfr0 tk o2 o3.1 o3.2 h3 (okName_1 h4) g1 g2 g3 v1 (by rw [← C.sc] at h8; exact h8) v2 (okName_1 v3) (okName_2 v3) hb
    | retT j f g =>
      simp only [ckHd] at h5
      split at h5 <;> first | contradiction | skip
      simp only [Bool.and_eq_true, decide_eq_true_eq] at h5
      obtain ⟨⟨⟨⟨⟨h7, h8⟩, rfl⟩, rfl⟩, rfl⟩, rfl⟩ := h5
      obtain ⟨v1, v2, v3⟩ := C.vis h7
      exact sn_tryR A hst0 hfr0 tk o2 o3.1 o3.2 h3 (okName_1 h4) v1 (by rw [← C.sc] at h8; exact h8) v2 (okName_1 v3) (okName_2 v3) hb
  | .dead, X, b, W, k, c, A, C, tk, hp, hf, hst0, hfr0, st, h, o => ⟨fun pins s σ H D I ⟨RR, F, s0, r, q⟩ => by
      simp only [exm] at q
      exact q.elim⟩
  | .parT l es, X, b, W, k, c, A, C, tk, hp, hf, hst0, hfr0, st, h, o => by
    simp only [OkM] at o
    simp only [ckm] at h
    split at h <;> first | contradiction | skip
    simp only [Bool.and_eq_true, decide_eq_true_eq] at h
    obtain ⟨⟨⟨h1, h2⟩, h3⟩, h4⟩ := h
    exact sn_parT A (tgs_ok A C tk l _ h2 o.1) (ok_A es c X b W k _ A C tk h1 o.2).1 (sw0_eq C.sc h4) h3
  | .aug i u e, X, b, W, k, c, A, C, tk, hp, hf, hst0, hfr0, st, h, o => by
    simp only [OkM] at o
    simp only [ckm] at h
    split at h <;> first | contradiction | skip
    simp only [Bool.and_eq_true, decide_eq_true_eq] at h
    obtain ⟨⟨h1, rfl⟩, h2⟩ := h
    obtain ⟨g1, g2, g3⟩ := C.loc h1
    exact sn_aug A.nd g1 g2 g3 (ok_E e c X b W k _ A C tk h2 o)
  | .whl n e p, X, b, W, k, c, A, C, tk, hp, hf, hst0, hfr0, st, h, o => by
    simp only [OkM] at o
    simp only [ckm] at h
    split at h <;> first | contradiction | skip
    simp only [Bool.and_eq_true] at h
    exact sn_whl hp (ok_T' e c X b W k _ A C tk h.1 o.1).1 (ok_Ms p _ _ _ _ _ A C tk hp hf hst0 hfr0 _ h.2 o.2)
theorem ok_Ms : ∀ (m : Sms) (X : Cx) (b : Bs) (W : WX) (k : Nat) (c : CK) (A : Amb X b k) (C : CkX c X) (tk : Takes X W) (hp : PassesOwn (model X.prog X.w) X.A X.env X.xe) (hf : isFn c.sc = true) (hst0 : X.stack = X.env :: X.outer) (hfr0 : X.env.frame = some X.env.locals) (st : List Stmt), ckms c m st = true → OkMs X.prog X.w X.K X.mg X.base b.g k m → PSs X st (tS b W (exms m))
  | .nil, X, b, W, k, c, A, C, tk, hp, hf, hst0, hfr0, st, h, o => by
    simp only [ckms, List.isEmpty_iff] at h
    subst h
    exact sns_nil
  | .cons a r, X, b, W, k, c, A, C, tk, hp, hf, hst0, hfr0, st, h, o => by
    simp only [OkMs] at o
    simp only [ckms] at h
    split at h <;> first | contradiction | skip
    rw [Bool.and_eq_true] at h
    exact sns_cons (ok_M a _ _ _ _ _ A C tk hp hf hst0 hfr0 _ h.1 o.1) (ok_Ms r _ _ _ _ _ A C tk hp hf hst0 hfr0 _ h.2 o.2)
end
end
end G4

namespace G4
open PySem PySem.Spec PyProof.Rows L2

/-! ### a def's end -/
section
variable {K : PySem.W.Frag} {g : Str → Option Addr} {RR RR' : List Addr} {F F' H H' : Hp} {s : S} {σ : L2.St} {Q : VK}
theorem Rel.leave {n : Nat} (r : Rel ⟨K, g, H, RR, F⟩ RR' F' s σ H') (hn : RR.length = n) : Rel ⟨K, g, H, RR, F⟩ RR F' ⟨[], s.st.take n⟩ [] H' := by
  have er : RR'.take n = RR := by rw [← hn]; exact take_pre r.pre
  have hl : n ≤ RR'.length := by rw [← hn]; exact r.pre.length_le
  have h1 := r.gc (n := n) (by show RR.length ≤ n; omega) hl
  rw [er] at h1
  have est : (s.gc n).st = s.st.take n := by
    unfold S.gc
    split
    · rename_i e; rw [← e, List.take_length]
    · rfl
  refine ⟨h1.fz, h1.f0, h1.fn, h1.keep, h1.pre, h1.new, h1.nd, h1.rf, ?_, fun m c a p q => ?_, rfl, fun i x h => by simp at h, fun i c h => by simp at h, fun i j c d a h => by simp at h⟩
  · have := h1.stl; rw [est] at this; exact this
  · exact h1.st m c a (by rw [est]; exact p) q
theorem lone_out {n : Nat} {a : Addr} {st : List Cell} (r : Rel ⟨K, g, H, RR, F⟩ RR' F' s σ H') (hf : F' a = none) (hr : a ∉ RR) (h0 : H a = none) : Lone ⟨K, g, H, RR, F⟩ RR F' ⟨[], st⟩ [] a := ⟨hf, hr, h0, fun i c h => by simp at h⟩
theorem cell_low {n : Nat} {a : Addr} {c : Cell} (hp : RR <+: RR') (hn : RR.length = n) (h : CellAt K g RR' F' H' a c) (p : c.pure = true) : CellAt K g RR F' H' a c := by
  have er : RR'.take n = RR := by rw [← hn]; exact take_pre hp
  have := h.low (n := n) p
  rw [er] at this; exact this
theorem finish_ok {n : Nat} {x r' : R} {st' : List Cell} {v : V} (r : Rel ⟨K, g, H, RR, F⟩ RR' F' s σ H') (hn : RR.length = n) (hv : RRel ⟨K, g, H, RR, F⟩ RR' F' s σ H' x v) (h : finish n x s = .ok r' st') :
    ∃ R2, RR <+: R2 ∧ Rel ⟨K, g, H, RR, F⟩ R2 F' ⟨[], st'⟩ [] H' ∧ RRel ⟨K, g, H, RR, F⟩ R2 F' ⟨[], st'⟩ [] H' r' v := by
  have er : RR'.take n = RR := by rw [← hn]; exact take_pre r.pre
  have lv := r.leave hn
  have new_of : ∀ {c : Cell} {a : Addr} {st : List Cell}, CellAt K g RR' F' H' a c → c.pure = true → F' a = none → a ∉ RR → H a = none → RRel ⟨K, g, H, RR, F⟩ RR F' ⟨[], st⟩ [] H' (.new c) (.ref a) := fun h p h1 h2 h3 =>
    ⟨_, rfl, cell_low r.pre hn h p, lone_out (n := n) r h1 h2 h3⟩
  have dat : ∀ {y : D}, RRel ⟨K, g, H, RR, F⟩ RR' F' s σ H' (.d y) v → (if y.pure then FO.ok (.d y) (s.st.take n) else .ok (.d y) s.st) = .ok r' st' → ∃ R2, RR <+: R2 ∧ Rel ⟨K, g, H, RR, F⟩ R2 F' ⟨[], st'⟩ [] H' ∧ RRel ⟨K, g, H, RR, F⟩ R2 F' ⟨[], st'⟩ [] H' r' v := fun {y} hv h => by
    split at h
    · rename_i hp
      cases h
      refine ⟨RR, List.prefix_refl _, lv, ?_⟩
      have := Rep.low (n := n) hv (under_pure n _ hp)
      rw [er] at this
      exact this
    · cases h
      exact ⟨RR', r.pre, ⟨r.fz, r.f0, r.fn, r.keep, r.pre, r.new, r.nd, r.rf, r.stl, r.st, rfl, fun i x h => by simp at h, fun i c h => by simp at h, fun i j c d a h => by simp at h⟩, hv⟩
  cases x with
  | d y =>
    cases y
    case obj k =>
      simp only [finish] at h
      cases hv with
      | @obj _ a ha =>
        split at h
        · rename_i hk
          cases h
          refine ⟨RR, List.prefix_refl _, lv, ?_⟩
          have : RR[k]? = some a := by rw [← er, List.getElem?_take_of_lt hk]; exact ha
          exact Rep.obj this
        · rename_i hk
          split at h
          · rename_i c hc
            cases h
            obtain ⟨h1, h2⟩ := r.st k c a hc ha
            have nr : a ∉ RR := fun z => by
              obtain ⟨j, hj, e⟩ := List.getElem_of_mem z
              have e2 : RR'[j]? = some a := by
                have := List.getElem?_take_of_lt (l := RR') (i := j) (j := n) (by omega)
                rw [er, List.getElem?_eq_getElem hj, e] at this
                exact this.symm
              obtain ⟨g1, e1⟩ := List.getElem?_eq_some_iff.mp ha
              obtain ⟨g2, e3⟩ := List.getElem?_eq_some_iff.mp e2
              have := (List.getElem_inj r.nd).mp (e1.trans e3.symm)
              omega
            exact ⟨RR, List.prefix_refl _, lv, new_of h1 h2 (r.rf a (List.mem_of_getElem? ha)) nr (r.new a (List.mem_of_getElem? ha) nr)⟩
          · cases h
    all_goals exact dat hv (by simpa only [finish] using h)
  | new c =>
    simp only [finish] at h
    split at h
    · rename_i hp
      cases h
      obtain ⟨a, rfl, h1, h2⟩ := hv
      exact ⟨RR, List.prefix_refl _, lv, new_of h1 hp h2.f (fun z => h2.r (r.pre.subset z)) h2.h⟩
    · cases h
  | pl i =>
    simp only [finish] at h
    split at h
    · rename_i c hc
      split at h
      · rename_i hp
        cases h
        obtain ⟨a, h1, h2, h3, h4, h5⟩ := r.so i c hc
        have hv : σ[i]? = some (some v) := hv
        rw [hv] at h1; cases h1
        exact ⟨RR, List.prefix_refl _, lv, new_of h2 hp h3 (fun z => h4 (r.pre.subset z)) h5⟩
      · cases h
    · cases h
end
/-- what the text says of a def: its names, its parameters -/
def ckDef (N ps : List Str) (bs : List Str) (body : Sms) (st : Stmt) : Bool := C8.scC N ps (defScope st) && isFn (defScope st) && ckms ⟨N, defScope st, bs, fun _ => true⟩ body (defBody st)
section
variable {P : Program} {w : World} {K : PySem.W.Frag} {mg : Str → Option Value} {base : Heap} {g : Str → Option Addr}
theorem def_ok {k n : Nat} {x qual : Str} {st : Stmt} {f : Addr} {fd : FuncData} {N ps bs : List Str} {body : Sms} (D : Fun K x qual st f fd) (hck : ckDef N ps bs body st = true) (hb : ∀ y, bs.contains y = true → mg y = none) (o : OkMs P w K mg base g k body) (hn : ps.length = n) :
    FnG P w K mg base (k + 1) f fd ps (spF K g n (runDef N.length body)) := by
  unfold ckDef at hck
  simp only [Bool.and_eq_true] at hck
  obtain ⟨⟨h1, h2⟩, h3⟩ := hck
  have Sc := C8.fnScope_by h1
  refine fn_ofG D Sc (fun vs H Q E h => by rw [h.1, hn]) fun cdv A outer s H vs Q E hr hg h => ?_
  obtain ⟨hl, RR, F, ds, st0, r, hv, q⟩ := h
  let b : Bs := ⟨K, g, H, RR, F⟩
  let X := cxOf (L2.CX P w) P w K mg base N qual (defScope st) f cdv A outer s H E
  have am : Amb X b k := ⟨rfl, Sc.nd, rfl, hr, hg⟩
  have cx : CkX ⟨N, defScope st, bs, fun _ => true⟩ X := ⟨rfl, rfl, fun _ _ => rfl, hb⟩
  have tk : Takes X (fun cls d _ H' => E cls d H') := takes_of rfl rfl rfl rfl
  refine ⟨_, ok_Ms body _ b (fun cls d _ H' => E cls d H') _ _ am cx tk (passes_of rfl) h2 rfl rfl _ h3 o, RR, F, ⟨ds.map .d ++ List.replicate (N.length - ds.length) .un, st0⟩, ?_, ?_⟩
  · have hlen := hv.len
    refine ⟨r.fz, r.f0, r.fn, r.keep, r.pre, r.new, r.nd, r.rf, r.stl, r.st, ?_, fun i x hx => ?_, fun i c hx => ?_, fun i j c d a hx => ?_⟩
    · show (ds.map SV.d ++ List.replicate (N.length - ds.length) SV.un).length = (L2.start N vs).length
      unfold L2.start
      simp only [List.length_append, List.length_map, List.length_replicate, hlen]
    · have hx : (ds.map SV.d ++ List.replicate (N.length - ds.length) SV.un)[i]? = some (.d x) := hx
      by_cases hi : i < ds.length
      · rw [List.getElem?_append_left (by rw [List.length_map]; exact hi), List.getElem?_map, List.getElem?_eq_getElem hi] at hx
        have hx : SV.d ds[i] = SV.d x := Option.some.inj hx
        cases hx
        obtain ⟨v, k1, k2⟩ := hv.get (List.getElem?_eq_getElem hi)
        refine ⟨v, ?_, k2⟩
        unfold L2.start
        rw [List.getElem?_append_left (by rw [List.length_map]; omega), List.getElem?_map, k1]
        rfl
      · rw [List.getElem?_append_right (by rw [List.length_map]; omega), List.getElem?_replicate] at hx
        split at hx <;> cases hx
    · have hx : (ds.map SV.d ++ List.replicate (N.length - ds.length) SV.un)[i]? = some (.own c) := hx
      by_cases hi : i < ds.length
      · rw [List.getElem?_append_left (by rw [List.length_map]; exact hi), List.getElem?_map, List.getElem?_eq_getElem hi] at hx
        cases hx
      · rw [List.getElem?_append_right (by rw [List.length_map]; omega), List.getElem?_replicate] at hx
        split at hx <;> cases hx
    · have hx : (ds.map SV.d ++ List.replicate (N.length - ds.length) SV.un)[i]? = some (.own c) := hx
      by_cases hi : i < ds.length
      · rw [List.getElem?_append_left (by rw [List.length_map]; exact hi), List.getElem?_map, List.getElem?_eq_getElem hi] at hx
        cases hx
      · rw [List.getElem?_append_right (by rw [List.length_map]; omega), List.getElem?_replicate] at hx
        split at hx <;> cases hx
  · have en : RR.length = st0.length := r.stl.symm
    unfold runDef at q
    cases e : exms body ⟨ds.map .d ++ List.replicate (N.length - ds.length) .un, st0⟩ with
    | nx s' =>
      rw [e] at q
      exact fun R2 F2 σ2 H2 p2 e2 r2 => q _ RR F2 H2 (List.prefix_refl _) e2 (r2.leave en) .non
    | rt y s' =>
      rw [e] at q
      simp only at q
      intro R2 F2 σ2 H2 v p2 e2 r2 hv2
      show Q v H2
      cases ef : finish st0.length y s' with
      | ok r' st' =>
        rw [ef] at q
        obtain ⟨R3, p3, r3, k1⟩ := finish_ok r2 en hv2 ef
        exact q v R3 F2 H2 p3 e2 r3 k1
      | ex e st' => unfold finish at ef; split at ef <;> (try split at ef) <;> (try split at ef) <;> cases ef
      | bad => rw [ef] at q; exact q.elim
    | ex y s' =>
      rw [e] at q
      exact fun cls d R2 F2 σ2 H2 p2 e2 r2 xr => q cls d F2 H2 e2 (r2.leave en) xr
    | bk s' => rw [e] at q; exact q.elim
    | ct s' => rw [e] at q; exact q.elim
    | bad => rw [e] at q; exact q.elim
def badF : Fn := fun _ _ => .bad
theorem bad_fn {k n : Nat} {fa : Addr} {fd : FuncData} {ps : List Str} (hn : ps.length = n) : FnG P w K mg base k fa fd ps (spF K g n badF) :=
  ⟨fun vs H Q E h => by rw [h.1, hn], fun A outer s H args us vs Q E hr hg he hb hv h => by
    obtain ⟨_, RR, F, ds, st, _, _, z⟩ := h
    exact z.elim⟩
theorem kn_of {k n : Nat} {x : Str} {f : Fn} {fa : Addr} {fd : FuncData} {ps : List Str} (G : FnG P w K mg base k fa fd ps (spF K g n f)) (m : mg x = some (.ref fa)) (kp : PySem.W.keepIn K (.ref fa) = true) (b : Binds K fd ps []) : Kn P w K mg base g k x f n := ⟨fa, fd, ps, m, kp, G, b⟩
theorem Kn.mono {j k n : Nat} {x : Str} {f : Fn} (h : Kn P w K mg base g j x f n) (l : j ≤ k) : Kn P w K mg base g k x f n := by
  obtain ⟨fa, fd, ps, h1, h2, h3, h4⟩ := h
  exact ⟨fa, fd, ps, h1, h2, h3.mono l, h4⟩
theorem KnK.mono {j k : Nat} {x : Str} {f : Fn} {pm : List Nat} {ks : List Str} (h : KnK P w K mg base g j x f pm ks) (l : j ≤ k) : KnK P w K mg base g k x f pm ks := by
  obtain ⟨fa, fd, ps, h1, h2, h3, h4⟩ := h
  exact ⟨fa, fd, ps, h1, h2, h3.mono l, h4⟩
end

/-! ### the law's own end -/
theorem noCX {P : Program} {w : World} {st : List Env} {H : Hp} {s : Shared} {e : Value} {s' : Shared} (h : L2.CX P w st H s (fun _ _ _ => False) e s') : False := by
  obtain ⟨_, _, _, _, _, _, _, _, _, _, _, _, z⟩ := h
  exact z.elim
theorem law_callG {P : Program} {w : World} {K : PySem.W.Frag} {mg mb : Str → Option Value} {k : Nat} {fa a : Addr} {fd : FuncData} {x : Str} {sp : Sp} {s₁ : Shared} {vs : List Value} {ns : List Int}
    (KX : K.In s₁.heap) (hns : s₁.heap.Ns mainGlobals mg) (hb : s₁.heap.Ns builtinsNs mb) (hbb : ∀ x : Str, x ≠ "__name__" → mb x = bootBuiltins x) (hlim : s₁.heap.NoLimit) (hg : s₁.gens = #[])
    (ha : s₁.heap.get? a = some { cls := .type "list", data := .seq vs.toArray }) (hi : IntsAre vs ns) (hl : ns.length ≤ sizeLine) (hr : Room k callerA)
    (F : ∀ base : Heap, K.In base → base.Ns mainGlobals mg → FnG P w K mg base k fa fd [x] sp) (hbind : ∀ (s : Shared) (u : Value), BindsTo s fd ⟨[u], []⟩ [(x, u)])
    (hsp : ∀ H : Hp, Only H → SqL K H a (ns.map V.int) → sp [.ref a] H (fun v _ => v = .bl true) fun _ _ _ => False) :
    codeAny (model P w) callerA (.call (.ref fa) ⟨[.ref a], []⟩) (fun r s' => r = .ok (.ret (.bool true)) ∧ OldK s₁.heap s'.heap ∧ s'.os = s₁.os ∧ AllBare s'.gens) s₁ := by
  have rv := vals_ints hi
  have lenV := hi.length
  have core : ∀ H : Hp, Only H → SqL K H a (ns.map V.int) → HOk P w H s₁.heap → (∀ b, H b ≠ none → b = a) → (H a ≠ none → K.lookup a = none) →
      codeAny (model P w) callerA (.call (.ref fa) ⟨[.ref a], []⟩) (fun r s' => r = .ok (.ret (.bool true)) ∧ OldK s₁.heap s'.heap ∧ s'.os = s₁.os ∧ AllBare s'.gens) s₁ := by
    intro H hO hS hok hA hK
    have base_of : ∀ {b : Addr} {o : Obj}, s₁.heap.get? b = some o → H b = none → (hidT s₁.heap H).get? b = some o := fun e n => hidT_get e n
    have noA : ∀ {b : Addr} {o : Obj} {es : Array DictEntry} {ep : Nat}, s₁.heap.get? b = some o → o.data = .dict es ep → H b = none := fun {b o es ep} e d => by
      cases q : H b with
      | none => rfl
      | some u =>
        have e' : b = a := hA b (by rw [q]; simp)
        subst e'
        rw [ha] at e; cases e
        have d' : Data.seq vs.toArray _ = Data.dict es ep := d
        cases d'
    have nsK : ∀ {b : Addr} {m : Str → Option Value}, s₁.heap.Ns b m → (hidT s₁.heap H).Ns b m := fun {b m} ⟨o, es, ep, e, d, r⟩ => ⟨o, es, ep, base_of e (noA e d), d, r⟩
    have hKb : K.In (hidT s₁.heap H) := fun b o e => base_of (KX b o e) (by
      cases q : H b with
      | none => rfl
      | some u =>
        have e' : b = a := hA b (by rw [q]; simp)
        subst e'
        rw [hK (by rw [q]; simp)] at e; cases e)
    have hM : Mod K mg (hidT s₁.heap H) := ⟨hKb, nsK hns, ⟨mb, nsK hb, hbb⟩, let ⟨mc, h1, h2⟩ := hlim; ⟨mc, nsK h1, h2⟩⟩
    have e0 : Env0 P w K mg (hidT s₁.heap H) callerA [] s₁ H := ⟨rfl, hM, fun b o e => of_hidT e, Nat.le_of_eq (hidT_size _ _), trivial, fun b hb => absurd (show b ∈ ([] : List Addr) from hb) (by simp), hok, .of_eq hg⟩
    refine codeAny_mono ((F _ hKb (nsK hns)).run callerA [] s₁ H ⟨[.ref a], []⟩ [.ref a] [.ref a] _ _ hr rfl e0 (hbind s₁ (.ref a)) (.cons rfl .nil) (hsp H hO hS)) fun r s' h => ?_
    cases r with
    | error e => exact (noCX h).elim
    | ok fl =>
      cases fl with
      | next => exact False.elim h
      | brk => exact False.elim h
      | cont => exact False.elim h
      | ret u =>
        obtain ⟨v, H', os, bare, un, hok', r', q⟩ := h
        have q' : v = .bl true := q
        subst q'
        obtain rfl : u = Value.bool true := r'
        refine ⟨rfl, OldK.of_keep fun b o e => ?_, os, bare⟩
        cases q : H b with
        | none => exact un.keep b o e q (by intro z; exact absurd (show b ∈ ([] : List Addr) from z) (by simp)) (by simp)
        | some u =>
          rcases hO b with z | ⟨ob, xs, z⟩
          · rw [q] at z; cases z
          · have z2 := un.frzs b ob _ z
            obtain ⟨e1, _⟩ := hok b _ z
            obtain ⟨e2, _⟩ := hok' b _ z2
            rw [e] at e1; cases e1
            exact e2
  cases hk : K.lookup a with
  | some o =>
    have e := KX a o hk
    rw [ha] at e
    cases e
    refine core (fun _ => none) (fun _ => .inl rfl) (.inr ⟨_, vs.toArray, _, hk, rfl, rfl, rfl, by rw [List.size_toArray, lenV]; exact hl, by simpa using rv⟩) (fun b u z => by have z' : (none : Option HO) = some u := z; cases z') (fun b z => absurd rfl z) fun z => absurd rfl z
  | none =>
    refine core (fun b => if b = a then some (.frz { cls := .type "list", data := .seq vs.toArray } (.lst (ns.map V.int))) else none) (fun b => ?_) (.inl (.inr ⟨{ cls := .type "list", data := .seq vs.toArray }, if_pos rfl⟩)) (fun b u z => ?_) (fun b z => ?_) fun _ => hk
    · by_cases hb : b = a
      · exact .inr ⟨_, _, if_pos hb⟩
      · exact .inl (if_neg hb)
    · by_cases hb : b = a
      · have z' := (if_pos hb).symm.trans z
        cases z'
        subst hb
        exact ⟨ha, by rw [List.length_map]; exact hl, vs, _, rv, ha⟩
      · have z' := (if_neg hb).symm.trans z
        cases z'
    · by_cases hb : b = a
      · exact hb
      · exact absurd (if_neg hb) z
/-- the law's value, by the little Python, is the law's value -/
theorem sp_law {K : PySem.W.Frag} {g : Str → Option Addr} {f : Fn} {H : Hp} {a : Addr} {ns : List Int} {st : List Cell} (hS : SqL K H a (ns.map V.int)) (h : f [.scr ns] [] = .ok (.d (.bl true)) st) : spF K g 1 f [.ref a] H (fun v _ => v = .bl true) fun _ _ _ => False := by
  refine ⟨rfl, [], H, [.scr ns], [], ?_, .cons (.scr hS) .nil, ?_⟩
  · exact ⟨Same.refl _, Same.refl _, fun _ _ h => .inl h, fun _ _ h _ => h, List.prefix_refl _, fun _ m => by simp at m, List.nodup_nil, fun _ m => by simp at m, rfl, fun n c a h => by simp at h, rfl, fun i x h => by simp at h, fun i c h => by simp at h, fun i j c d a h => by simp at h⟩
  · rw [h]
    intro v R' F' H' _ _ _ hv
    cases hv
    rfl
theorem walk_ofG {l : PySem.W.OpenLaw} {n k : Nat} {q : Program} {loose : List Str} {XP : (Str → Option Value) → Heap → Prop} {YP : World → Heap → Prop} {d : DefRec} {K : Params → PySem.W.Frag} {f : Fn} {x : Str}
    (hn : l.most = some n) (hn2 : n ≤ sizeLine) (hdf : d.params.defaults = []) (hr : Room k callerA)
    (hY : ∀ (w : World) (h : Heap), YP w h → (K w.params).In h)
    (F : ∀ (w : World) (mg : Str → Option Value) (fa : Addr) (h : Heap), (K w.params).In h → h.Ns mainGlobals mg → mg d.name = some (.ref fa) →
      ∃ (fd : FuncData) (g : Str → Option Addr), (∀ (s : Shared) (u : Value), BindsTo s fd ⟨[u], []⟩ [(x, u)]) ∧
        ∀ base : Heap, (K w.params).In base → base.Ns mainGlobals mg → FnG l.prog w (K w.params) mg base k fa fd [x] (spF (K w.params) g 1 f))
    (hf : ∀ ns : List Int, ns.length ≤ n → (∀ i ∈ ns, Builtin.Int.intBits i ≤ 1048576) → ∃ st, f [.scr ns] [] = .ok (.d (.bl true)) st) :
    PySem.W.WalkO q loose XP YP l.row.toRowW d [] (fun f vs => PySem.call f vs) := by
  refine Att.attach_callB hn hdf fun w s₀ s₁ mg mb fa o pm cd doc a vs ns G Y ho hd hcd hmg hobj hints hlen hbits hg => ?_
  have KX := hY w _ Y
  obtain ⟨fd, g, hb, hF⟩ := F w mg fa _ KX G.T.g hmg
  obtain ⟨st, hv⟩ := hf ns hlen hbits
  exact law_callG KX G.T.g G.T.b G.T.builtins G.T.nolimit hg hobj hints (Nat.le_trans hlen hn2) hr hF hb fun H hO hS => sp_law hS hv
end G4

namespace G4
open PySem L2
/-! ### how the little Python runs: comprehensions, loops -/
theorem hideSl_twice (sl : List SV) (vs : List Nat) : hideSl (hideSl sl vs) vs = hideSl sl vs := by
  apply List.ext_getElem?
  intro i
  by_cases h : i ∈ vs
  · have key : ∀ (sl : List SV) (vs : List Nat), i ∈ vs → (hideSl sl vs)[i]? = if i < sl.length then some .un else none := fun sl vs h => by
      induction vs with
      | nil => simp at h
      | cons v vs ih =>
        rw [hideSl]
        by_cases e : v = i
        · subst e
          rw [List.getElem?_set]
          simp [hideSl_len]
        · rw [List.getElem?_set_ne e]
          exact ih (by simpa [Ne.symm e] using h)
    rw [key _ _ h, key _ _ h, hideSl_len]
  · rw [hideSl_out h]
theorem back_eq {old sl : List SV} {vs : List Nat} (h : hideSl sl vs = hideSl old vs) : backSl old sl vs = old := by
  have hl : sl.length = old.length := by rw [← hideSl_len sl vs, h, hideSl_len]
  apply List.ext_getElem?
  intro i
  have key : ∀ (vs : List Nat), i ∈ vs → (backSl old sl vs)[i]? = if i < sl.length then some (old.getD i .un) else none := fun vs h => by
    induction vs with
    | nil => simp at h
    | cons v vs ih =>
      rw [backSl]
      by_cases e : v = i
      · subst e
        rw [List.getElem?_set]
        simp [backSl_len]
      · rw [List.getElem?_set_ne e]
        exact ih (by simpa [Ne.symm e] using h)
  have key2 : ∀ (vs : List Nat), i ∉ vs → (backSl old sl vs)[i]? = sl[i]? := fun vs h => by
    induction vs with
    | nil => rfl
    | cons v vs ih =>
      rw [backSl, List.getElem?_set_ne (by intro e; exact h (by simp [e]))]
      exact ih fun z => h (List.mem_cons_of_mem _ z)
  by_cases hi : i ∈ vs
  · rw [key vs hi, hl]
    split
    · rename_i h3
      rw [List.getD_eq_getElem?_getD, List.getElem?_eq_getElem h3]; rfl
    · rename_i h3
      rw [List.getElem?_eq_none (by omega)]
  · have e := congrArg (fun l => l[i]?) h
    simp only [hideSl_out hi] at e
    rw [key2 vs hi, e]
/-- a comprehension's loop: each turn begins at S0 -/
theorem lcLoop_eq {vs : List Nat} {tgt : D → S → Option S} {cond : S → O Bool} {elt : S → O D} {S0 : S} (f : D → Option D) :
    ∀ (items acc : List D) (s : S), s.hide vs = S0 → (∀ x ∈ items, ∃ s1, tgt x S0 = some s1 ∧ ((f x = none ∧ ∃ s2, cond s1 = .ok false s2 ∧ s2.hide vs = S0) ∨ ∃ y s2 s3, f x = some y ∧ cond s1 = .ok true s2 ∧ elt s2 = .ok y s3 ∧ s3.hide vs = S0)) →
    ∃ t, lcLoop vs tgt cond elt items acc s = .ok (acc ++ items.filterMap f) t ∧ t.hide vs = S0
  | [], acc, s, hs, _ => ⟨s, by simp [lcLoop], hs⟩
  | x :: l, acc, s, hs, h => by
    obtain ⟨s1, h1, h2⟩ := h x List.mem_cons_self
    have rest := fun acc s hs => lcLoop_eq f l acc s hs fun y hy => h y (List.mem_cons_of_mem _ hy)
    rw [lcLoop, hs, h1]
    rcases h2 with ⟨h2, s2, h3, h4⟩ | ⟨y, s2, s3, h2, h3, h4, h5⟩
    · obtain ⟨t, g1, g2⟩ := rest acc s2 h4
      refine ⟨t, ?_, g2⟩
      simp only [h3, O.bind, List.filterMap_cons, h2]
      rw [if_neg Bool.false_ne_true]; exact g1
    · obtain ⟨t, g1, g2⟩ := rest (acc ++ [y]) s3 h5
      refine ⟨t, ?_, g2⟩
      simp only [h3, O.bind, h4, List.filterMap_cons, h2]
      simp only [if_true]; rw [g1]; simp
/-- a comprehension -/
theorem ev_lc {own : List (Str × Nat)} {e : E} {g : T} {src : Src} {c : EO} {s : S} {items : List D} (f : D → Option D) (h1 : evSrc src s = .ok items s) (h2 : items.length ≤ big) (h3 : (own.all fun p => !(s.sl.getD p.2 .un).isOwn) = true)
    (h : ∀ x ∈ items, ∃ s1, T.asg g x (s.hide (own.map (·.2))) = some s1 ∧ ((f x = none ∧ ∃ s2, evc c s1 = .ok false s2 ∧ s2.hide (own.map (·.2)) = s.hide (own.map (·.2))) ∨
      ∃ y s2 s3, f x = some y ∧ evc c s1 = .ok true s2 ∧ (ev e s2).val = .ok y s3 ∧ s3.hide (own.map (·.2)) = s.hide (own.map (·.2)))) :
    ev (.lc own e g src c) s = .ok (.new (.lst (items.filterMap f))) s := by
  obtain ⟨t, g1, g2⟩ := lcLoop_eq (vs := own.map (·.2)) (tgt := fun x s => T.asg g x s) (cond := fun s => evc c s) (elt := fun s => (ev e s).val) f items [] s rfl h
  simp only [ev, h1, O.bind, h3, h2, decide_true, Bool.and_self, if_true]
  rw [g1]
  simp only [O.noex, List.nil_append]
  have e1 : (S.hide (own.map (·.2)) t).st = (S.hide (own.map (·.2)) s).st := by rw [g2]
  have e2 : (S.hide (own.map (·.2)) t).sl = (S.hide (own.map (·.2)) s).sl := by rw [g2]
  have e1 : t.st = s.st := e1
  have e2 : hideSl t.sl (own.map (·.2)) = hideSl s.sl (own.map (·.2)) := e2
  rw [back_eq e2, e1]
end G4
namespace G4
open PySem L2
/-! ### the little Python runs: the first part of a sequence alone is looked at -/
section
variable {α β : Type}
/-- what comes behind is held: simp does not look into it -/
inductive Hold {γ : Type} (f : γ) : Type where
  | mk
def O.bnd (o : O α) (f : α → S → O β) (_ : Hold f) : O β := o.bind f
def OS.off (o : O α) (f : α → S → OS) (_ : Hold f) : OS := OS.of o f
def OS.thn (o : OS) (f : S → OS) (_ : Hold f) : OS := o.then f
theorem bnd_eq (o : O α) (f : α → S → O β) : o.bind f = o.bnd f .mk := rfl
theorem off_eq (o : O α) (f : α → S → OS) : OS.of o f = OS.off o f .mk := rfl
theorem thn_eq (o : OS) (f : S → OS) : o.then f = o.thn f .mk := rfl
theorem hb_ok (a : α) (s : S) (f : α → S → O β) (h : Hold f) : (O.ok a s).bnd f h = f a s := rfl
theorem hb_ex (e : Exn) (s : S) (f : α → S → O β) (h : Hold f) : (O.ex e s : O α).bnd f h = .ex e s := rfl
theorem ho_ok (a : α) (s : S) (f : α → S → OS) (h : Hold f) : OS.off (O.ok a s) f h = f a s := rfl
theorem ho_ex (e : Exn) (s : S) (f : α → S → OS) (h : Hold f) : OS.off (O.ex e s : O α) f h = .ex e s := rfl
theorem ht_nx (s : S) (f : S → OS) (h : Hold f) : (OS.nx s).thn f h = f s := rfl
theorem ht_rt (r : R) (s : S) (f : S → OS) (h : Hold f) : (OS.rt r s).thn f h = .rt r s := rfl
theorem ht_ex (r : Exn) (s : S) (f : S → OS) (h : Hold f) : (OS.ex r s).thn f h = .ex r s := rfl
theorem b_ok (a : α) (s : S) (f : α → S → O β) : (O.ok a s).bind f = f a s := rfl
theorem b_ex (e : Exn) (s : S) (f : α → S → O β) : (O.ex e s : O α).bind f = .ex e s := rfl
theorem o_ok (a : α) (s : S) (f : α → S → OS) : OS.of (O.ok a s) f = f a s := rfl
theorem o_ex (e : Exn) (s : S) (f : α → S → OS) : OS.of (O.ex e s : O α) f = .ex e s := rfl
theorem t_nx (s : S) (f : S → OS) : (OS.nx s).then f = f s := rfl
theorem t_rt (r : R) (s : S) (f : S → OS) : (OS.rt r s).then f = .rt r s := rfl
theorem t_ex (r : Exn) (s : S) (f : S → OS) : (OS.ex r s).then f = .ex r s := rfl
theorem opd_d (x : D) (s : S) : (O.ok (R.d x) s).opd = .ok (.d x) s := rfl
theorem opd_pl (x : Nat) (s : S) : (O.ok (R.pl x) s).opd = .ok (.pl x) s := rfl
theorem opd_lst (l : List D) (s : S) : (O.ok (R.new (.lst l)) s).opd = .ok (.d (.lst l)) s := rfl
theorem opd_ex (e : Exn) (s : S) : (O.ex e s : O R).opd = .ex e s := rfl
theorem val_d (x : D) (s : S) : (O.ok (R.d x) s).val = .ok x s := rfl
theorem val_lst (l : List D) (s : S) : (O.ok (R.new (.lst l)) s).val = .ok (.lst l) s := rfl
theorem val_ex (e : Exn) (s : S) : (O.ex e s : O R).val = .ex e s := rfl
theorem opt_some (a : α) (s : S) : O.ofOpt (some a) s = .ok a s := rfl
theorem toO_ok (sl : List SV) (r : R) (st : List Cell) : (FO.ok r st).toO sl = .ok r ⟨sl, st⟩ := rfl
theorem toO_ex (sl : List SV) (r : Exn) (st : List Cell) : (FO.ex r st).toO sl = .ex r ⟨sl, st⟩ := rfl
theorem asBl_ok (b : Bool) (s : S) : asBl (.ok b s) = .ok (.d (.bl b)) s := rfl
/-- a comprehension whose turns leave all as it is -/
theorem ev_lcp {own : List (Str × Nat)} {e : E} {g : T} {src : Src} {c : EO} {s : S} {items : List D} (f : D → Option D) (h1 : evSrc src s = .ok items s) (h2 : items.length ≤ big) (h3 : (own.all fun p => !(s.sl.getD p.2 .un).isOwn) = true)
    (h : ∀ x ∈ items, ∃ s1, T.asg g x (s.hide (own.map (·.2))) = some s1 ∧ s1.hide (own.map (·.2)) = s.hide (own.map (·.2)) ∧ ((f x = none ∧ evc c s1 = .ok false s1) ∨ ∃ y, f x = some y ∧ evc c s1 = .ok true s1 ∧ (ev e s1).val = .ok y s1)) :
    ev (.lc own e g src c) s = .ok (.new (.lst (items.filterMap f))) s := by
  refine ev_lc f h1 h2 h3 fun x hx => ?_
  obtain ⟨s1, g1, g2, g3⟩ := h x hx
  refine ⟨s1, g1, ?_⟩
  rcases g3 with ⟨q1, q2⟩ | ⟨y, q1, q2, q3⟩
  · exact .inl ⟨q1, s1, q2, g2⟩
  · exact .inr ⟨y, s1, s1, q1, q2, q3, g2⟩
end
section
theorem ev_var (i : Nat) (s : S) : ev (.var i) s = match s.sl[i]? with
    | some (.d x) => .ok (.d x) s
    | some (.own _) => .ok (.pl i) s
    | _ => .bad := by first | (simp only [ev]; done) | (simp only [ev]; rfl)
theorem ev_glo (x : Str) (d : D) (s : S) : ev (.glo x d) s = .ok (.d d) s := by first | (simp only [ev]; done) | (simp only [ev]; rfl)
theorem ev_int (i : Int) (s : S) : ev (.int i) s = .ok (.d (.int i)) s := by first | (simp only [ev]; done) | (simp only [ev]; rfl)
theorem ev_str (i : Str) (s : S) : ev (.str i) s = .ok (.d (.str i)) s := by first | (simp only [ev]; done) | (simp only [ev]; rfl)
theorem ev_bl (i : Bool) (s : S) : ev (.bl i) s = .ok (.d (.bl i)) s := by first | (simp only [ev]; done) | (simp only [ev]; rfl)
theorem ev_non (s : S) : ev .non s = .ok (.d .non) s := by first | (simp only [ev]; done) | (simp only [ev]; rfl)
theorem ev_bin (o : Operator) (a b : E) (s : S) : ev (.bin o a b) s = (ev a s).opd.bind fun x s => (ev b s).opd.bind fun y s => binV o x y s := by first | (simp only [ev]; done) | (simp only [ev]; rfl)
theorem ev_not (a : E) (s : S) : ev (.not a) s = (ev a s).opd.bind fun x s => (truV x s).bind fun b s => .ok (.d (.bl (!b))) s := by first | (simp only [ev]; done) | (simp only [ev]; rfl)
theorem ev_and (a b : E) (s : S) : ev (.and a b) s = (ev a s).opd.bind fun x s => match x with
    | .d (.bl true) => ev b s
    | .d (.bl false) => .ok (.d (.bl false)) s
    | _ => .bad := by first | (simp only [ev]; done) | (simp only [ev]; rfl)
theorem ev_or (a b : E) (s : S) : ev (.or a b) s = (ev a s).opd.bind fun x s => match x with
    | .d (.bl true) => .ok (.d (.bl true)) s
    | .d (.bl false) => ev b s
    | _ => .bad := by first | (simp only [ev]; done) | (simp only [ev]; rfl)
theorem ev_ifx (c a b : E) (s : S) : ev (.ifx c a b) s = (evT c s).bind fun k s => if k then ev a s else ev b s := by first | (simp only [ev]; done) | (simp only [ev]; rfl)
theorem ev_cmp (o : CmpOp) (a b : E) (s : S) : ev (.cmp o a b) s = (ev a s).opd.bind fun x s => (ev b s).opd.bind fun y s => asBl (cmpV o x y s) := by first | (simp only [ev]; done) | (simp only [ev]; rfl)
theorem ev_cmp2 (o u : CmpOp) (a b c : E) (s : S) : ev (.cmp2 o u a b c) s = (ev a s).opd.bind fun x s => (ev b s).opd.bind fun y s => (cmpV o x y s).bind fun k s => if k then (ev c s).opd.bind fun z s => asBl (cmpV u y z s) else .ok (.d (.bl false)) s := by first | (simp only [ev]; done) | (simp only [ev]; rfl)
theorem ev_tup (es : Es) (s : S) : ev (.tup es) s = (evs es s).bind fun l s => .ok (.d (.tup l)) s := by first | (simp only [ev]; done) | (simp only [ev]; rfl)
theorem ev_lst (es : Es) (s : S) : ev (.lst es) s = (evs es s).bind fun l s => .ok (.new (.lst l)) s := by first | (simp only [ev]; done) | (simp only [ev]; rfl)
theorem ev_ix (a b : E) (s : S) : ev (.ix a b) s = (ev a s).opd.bind fun x s => (ev b s).opd.bind fun y s => ixV x y s := by first | (simp only [ev]; done) | (simp only [ev]; rfl)
theorem ev_call (x : Str) (F : Fn) (es : Es) (s : S) : ev (.call x F es) s = (evs es s).bind fun l s => (F l s.st).toO s.sl := by first | (simp only [ev]; done) | (simp only [ev]; rfl)
theorem ev_callk (x : Str) (F : Fn) (pm : List Nat) (ks : List Str) (es : Es) (s : S) : ev (.callk x F pm ks es) s = (evs es s).bind fun l s => (F (perm pm l) s.st).toO s.sl := by first | (simp only [ev]; done) | (simp only [ev]; rfl)
theorem ev_bi (b : Bi) (es : Es) (s : S) : ev (.bi b es) s = (evOs es s).bind fun l s => biV b l s := by first | (simp only [ev]; done) | (simp only [ev]; rfl)
theorem ev_isi (a : E) (ts : List Ty) (s : S) : ev (.isi a ts) s = (ev a s).opd.bind fun x s => asBl (isiV ts x s) := by first | (simp only [ev]; done) | (simp only [ev]; rfl)
theorem ev_sset (a : E) (s : S) : ev (.sset a) s = (ev a s).opd.bind fun x s => .ofOpt ((s.rd x).bind ssetD) s := by first | (simp only [ev]; done) | (simp only [ev]; rfl)
end
end G4

namespace G4
open PySem L2
/-! ### comprehensions over told lists, loops with invariants -/
theorem S.hide_st (vs : List Nat) (s : S) : (s.hide vs).st = s.st := rfl
/-- a comprehension over a list of a type -/
theorem lc_gen {α : Type} {own : List (Str × Nat)} {e : E} {g : T} {src : Src} {c : EO} {s : S} {s0 : S} (l : List α) (h : α → D) (F : α → Option D) (h1 : evSrc src s = .ok (l.map h) s0) (h2 : l.length ≤ big) (h3 : (own.all fun p => !(s0.sl.getD p.2 .un).isOwn) = true)
    (k : ∀ a ∈ l, ∃ s1, T.asg g (h a) (s0.hide (own.map (·.2))) = some s1 ∧ s1.hide (own.map (·.2)) = s0.hide (own.map (·.2)) ∧ ((F a = none ∧ evc c s1 = .ok false s1) ∨ ∃ y, F a = some y ∧ evc c s1 = .ok true s1 ∧ (ev e s1).val = .ok y s1)) :
    ev (.lc own e g src c) s = .ok (.new (.lst (l.filterMap F))) s0 := by
  have key : ∀ (l : List α) (acc : List D) (t : S), t.hide (own.map (·.2)) = s0.hide (own.map (·.2)) → (∀ a ∈ l, ∃ s1, T.asg g (h a) (s0.hide (own.map (·.2))) = some s1 ∧ s1.hide (own.map (·.2)) = s0.hide (own.map (·.2)) ∧ ((F a = none ∧ evc c s1 = .ok false s1) ∨ ∃ y, F a = some y ∧ evc c s1 = .ok true s1 ∧ (ev e s1).val = .ok y s1)) →
      ∃ t', lcLoop (own.map (·.2)) (fun x s => T.asg g x s) (fun s => evc c s) (fun s => (ev e s).val) (l.map h) acc t = .ok (acc ++ l.filterMap F) t' ∧ t'.hide (own.map (·.2)) = s0.hide (own.map (·.2)) := by
    intro l
    induction l with
    | nil => exact fun acc t ht _ => ⟨t, by simp [lcLoop], ht⟩
    | cons a l ih =>
      intro acc t ht k
      obtain ⟨s1, g1, g2, g3⟩ := k a List.mem_cons_self
      have k' : ∀ b ∈ l, _ := fun b hb => k b (List.mem_cons_of_mem _ hb)
      rw [List.map_cons, lcLoop, ht, g1]
      rcases g3 with ⟨q1, q2⟩ | ⟨y, q1, q2, q3⟩
      · obtain ⟨t', w1, w2⟩ := ih acc s1 g2 k'
        refine ⟨t', ?_, w2⟩
        simp only [q2, O.bind, List.filterMap_cons, q1]
        rw [if_neg Bool.false_ne_true]; exact w1
      · obtain ⟨t', w1, w2⟩ := ih (acc ++ [y]) s1 g2 k'
        refine ⟨t', ?_, w2⟩
        simp only [q2, O.bind, q3, List.filterMap_cons, q1]
        simp only [if_true]; rw [w1]; simp
  obtain ⟨t, g1, g2⟩ := key l [] s0 rfl k
  simp only [ev, h1, O.bind, h3, List.length_map, h2, decide_true, Bool.and_self, if_true]
  rw [g1]
  simp only [O.noex, List.nil_append]
  have e1 : (S.hide (own.map (·.2)) t).st = (S.hide (own.map (·.2)) s0).st := by rw [g2]
  have e2 : (S.hide (own.map (·.2)) t).sl = (S.hide (own.map (·.2)) s0).sl := by rw [g2]
  have e1 : t.st = s0.st := e1
  have e2 : hideSl t.sl (own.map (·.2)) = hideSl s0.sl (own.map (·.2)) := e2
  rw [back_eq e2, e1]
/-- all of them, mapped -/
theorem lc_map {α : Type} {own : List (Str × Nat)} {e : E} {g : T} {src : Src} {s s0 : S} (l : List α) (h : α → D) (v : α → D) (h1 : evSrc src s = .ok (l.map h) s0) (h2 : l.length ≤ big) (h3 : (own.all fun p => !(s0.sl.getD p.2 .un).isOwn) = true)
    (k : ∀ a ∈ l, ∃ s1, T.asg g (h a) (s0.hide (own.map (·.2))) = some s1 ∧ s1.hide (own.map (·.2)) = s0.hide (own.map (·.2)) ∧ (ev e s1).val = .ok (v a) s1) :
    ev (.lc own e g src .no) s = .ok (.new (.lst (l.map v))) s0 := by
  have := lc_gen (c := .no) l h (fun a => some (v a)) h1 h2 h3 fun a ha => by
    obtain ⟨s1, g1, g2, g3⟩ := k a ha
    exact ⟨s1, g1, g2, .inr ⟨_, rfl, by simp only [evc], g3⟩⟩
  rw [this]; simp
/-- some of them, mapped -/
theorem lc_filt {α : Type} {own : List (Str × Nat)} {e : E} {g : T} {src : Src} {c : E} {s s0 : S} (l : List α) (h : α → D) (p : α → Bool) (v : α → D) (h1 : evSrc src s = .ok (l.map h) s0) (h2 : l.length ≤ big) (h3 : (own.all fun p => !(s0.sl.getD p.2 .un).isOwn) = true)
    (k : ∀ a ∈ l, ∃ s1, T.asg g (h a) (s0.hide (own.map (·.2))) = some s1 ∧ s1.hide (own.map (·.2)) = s0.hide (own.map (·.2)) ∧ evT c s1 = .ok (p a) s1 ∧ (p a = true → (ev e s1).val = .ok (v a) s1)) :
    ev (.lc own e g src (.so c)) s = .ok (.new (.lst ((l.filter p).map v))) s0 := by
  have := lc_gen (c := .so c) l h (fun a => if p a then some (v a) else none) h1 h2 h3 fun a ha => by
    obtain ⟨s1, g1, g2, g3, g4⟩ := k a ha
    refine ⟨s1, g1, g2, ?_⟩
    simp only [evc]
    cases q : p a with
    | false => exact .inl ⟨by simp, by rw [g3, q]⟩
    | true => exact .inr ⟨_, by simp, by rw [g3, q], g4 q⟩
  rw [this]
  congr 3
  clear this k h1 h2
  induction l with
  | nil => rfl
  | cons a l ih => rw [List.filterMap_cons, List.filter_cons, ih]; cases p a <;> rfl
/-- a loop by its invariant -/
theorem for_inv {tgt : D → S → Option S} {body : S → OS} {n : Nat} (I : Nat → S → Prop) : ∀ (items : List D) (j : Nat) (s : S),
    (∀ (i : Nat) (x : D) (s : S), items[i]? = some x → I (j + i) s → ∃ s1 s2, tgt x s = some s1 ∧ (body s1 = .nx s2 ∨ body s1 = .ct s2) ∧ I (j + i + 1) (s2.gc n)) → I j s → ∃ s', forLoop tgt body n items s = .nx s' ∧ I (j + items.length) s'
  | [], j, s, _, h => ⟨s, rfl, h⟩
  | x :: l, j, s, k, h => by
    obtain ⟨s1, s2, g1, g2, g3⟩ := k 0 x s rfl h
    obtain ⟨s', w1, w2⟩ := for_inv I l (j + 1) (s2.gc n) (fun i y t hy ht => by
      have := k (i + 1) y t (by simpa using hy) (by rw [show j + (i + 1) = j + 1 + i by omega]; exact ht)
      rw [show j + (i + 1) = j + 1 + i by omega] at this
      exact this) g3
    refine ⟨s', ?_, by rw [List.length_cons, show j + (l.length + 1) = j + 1 + l.length by omega]; exact w2⟩
    rw [forLoop, g1]
    rcases g2 with g2 | g2 <;> simp only [g2] <;> exact w1
theorem gc_same {s : S} {n : Nat} (h : s.st.length = n) : s.gc n = s := by unfold S.gc; rw [if_pos h]
theorem rangeD_map (n : Nat) : ∀ a : Int, rangeD a n = (List.range n).map fun i : Nat => D.int (a + i) := by
  induction n with
  | zero => intro a; rfl
  | succ n ih =>
    intro a
    rw [rangeD, ih, List.range_succ_eq_map, List.map_cons, List.map_map]
    congr 1
    · simp
    · refine List.map_congr_left fun i _ => ?_
      show D.int _ = D.int _
      congr 1
      simp only [Nat.succ_eq_add_one]
      omega
theorem rangeD0 (n : Nat) : rangeD 0 n = (List.range n).map fun i : Nat => D.int i := by
  rw [rangeD_map]
  refine List.map_congr_left fun i _ => ?_
  rw [Int.zero_add]
/-! ### plain data -/
theorem plainsN_iff (n : Nat) : ∀ l : List D, D.plainsN n l = true ↔ ∀ d ∈ l, D.plainN n d = true
  | [] => by simp [D.plainsN]
  | d :: l => by simp [D.plainsN, plainsN_iff n l]
theorem plain_int' (n : Nat) (i : Int) : D.plainN n (.int i) = true := by cases n <;> rfl
theorem plain_lst (n : Nat) (l : List D) : D.plainN (n + 1) (.lst l) = D.plainsN n l := rfl
theorem plain_tup (n : Nat) (l : List D) : D.plainN (n + 1) (.tup l) = D.plainsN n l := rfl
theorem plain_ints (n : Nat) (l : List Int) : D.plainsN n (l.map D.int) = true := (plainsN_iff n _).mpr fun d hd => by
  obtain ⟨i, _, rfl⟩ := List.mem_map.mp hd
  exact plain_int' n i
mutual
theorem eqv_refl : ∀ (n : Nat) (d : D), D.plainN n d = true → D.eqv d d = true
  | _, .non, _ => rfl
  | _, .bl b, _ => by cases b <;> rfl
  | _, .int i, _ => by simp [D.eqv]
  | _, .str x, _ => by simp [D.eqv]
  | n + 1, .tup l, h => by rw [D.eqv]; exact eqvs_refl n l h
  | n + 1, .lst l, h => by rw [D.eqv]; exact eqvs_refl n l h
  | 0, .tup l, h => by cases h
  | 0, .lst l, h => by cases h
  | 0, .dct l, h => by cases h
  | n + 1, .dct l, h => by cases h
  | 0, .obj l, h => by cases h
  | n + 1, .obj l, h => by cases h
  | 0, .fn l, h => by cases h
  | n + 1, .fn l, h => by cases h
  | 0, .scr l, h => by cases h
  | n + 1, .scr l, h => by cases h
theorem eqvs_refl : ∀ (n : Nat) (l : List D), D.plainsN n l = true → D.eqvs l l = true
  | _, [], _ => rfl
  | n, d :: l, h => by
    simp only [D.plainsN, Bool.and_eq_true] at h
    rw [D.eqvs, eqv_refl n d h.1, eqvs_refl n l h.2]; rfl
end
theorem opEq_str (x y : Str) : opEq (.str x) (.str y) = some (decide (x = y)) := rfl
theorem opEq_int (i : Int) (d : D) : opEq (.int i) d = if (D.int i).plain && d.plain then some ((D.int i).eqv d) else none := rfl
theorem opEq_bl (i : Bool) (d : D) : opEq (.bl i) d = if (D.bl i).plain && d.plain then some ((D.bl i).eqv d) else none := rfl
theorem opEq_non (d : D) : opEq .non d = if D.plain .non && d.plain then some (D.eqv .non d) else none := rfl
theorem opEq_lst (i : List D) (d : D) : opEq (.lst i) d = if (D.lst i).plain && d.plain then some ((D.lst i).eqv d) else none := rfl
theorem opEq_tup (i : List D) (d : D) : opEq (.tup i) d = if (D.tup i).plain && d.plain then some ((D.tup i).eqv d) else none := rfl
theorem opEq_self {d : D} (h : d.plain = true) : opEq d d = some true := by
  cases d <;> simp [opEq, h, eqv_refl 60 _ h]
theorem eqv_int (i j : Int) : (D.int i).eqv (D.int j) = (i == j) := by simp only [D.eqv]
end G4
namespace G4
open PySem L2
def valPl (i : Nat) (sl : List SV) (st : List Cell) : Option SV → O D
  | some (.own c) => match c.view with
    | some x => .ok x ⟨sl.set i (.d x), st⟩
    | none => .bad
  | some (.d x) => .ok x ⟨sl, st⟩
  | _ => .bad
theorem val_pl (i : Nat) (sl : List SV) (st : List Cell) : (O.ok (R.pl i) ⟨sl, st⟩).val = valPl i sl st sl[i]? := by
  simp only [O.val, O.bind, S.fz]
  cases h : sl[i]? with
  | none => rfl
  | some v => cases v with
    | un => rfl
    | d x => rfl
    | own c =>
      simp only [valPl]
      cases c.view <;> rfl
theorem valPl_lst (i : Nat) (sl : List SV) (st : List Cell) (l : List D) : valPl i sl st (some (.own (.lst l))) = .ok (.lst l) ⟨sl.set i (.d (.lst l)), st⟩ := rfl
theorem valPl_d (i : Nat) (sl : List SV) (st : List Cell) (l : D) : valPl i sl st (some (.d l)) = .ok l ⟨sl, st⟩ := rfl
theorem plain_non (n : Nat) : D.plainN n .non = true := by cases n <;> rfl
theorem plain_bl (n : Nat) (b : Bool) : D.plainN n (.bl b) = true := by cases n <;> rfl
theorem pures_ints (l : List Int) : D.pures (l.map D.int) = true := by
  induction l with
  | nil => rfl
  | cons i l ih => rw [List.map_cons, D.pures, D.pure, ih]; rfl
theorem at1 (x : D) : atI [x] 0 = some x := rfl
theorem at2 (x y : D) : atI [x, y] 0 = some x ∧ atI [x, y] 1 = some y := ⟨rfl, rfl⟩
theorem at3 (x y z : D) : atI [x, y, z] 0 = some x ∧ atI [x, y, z] 1 = some y ∧ atI [x, y, z] 2 = some z := ⟨rfl, rfl, rfl⟩
theorem at4 (x y z u : D) : atI [x, y, z, u] 0 = some x ∧ atI [x, y, z, u] 1 = some y ∧ atI [x, y, z, u] 2 = some z ∧ atI [x, y, z, u] 3 = some u := ⟨rfl, rfl, rfl, rfl⟩
theorem at5 (x y z u v : D) : atI [x, y, z, u, v] 0 = some x ∧ atI [x, y, z, u, v] 1 = some y ∧ atI [x, y, z, u, v] 2 = some z ∧ atI [x, y, z, u, v] 3 = some u ∧ atI [x, y, z, u, v] 4 = some v := ⟨rfl, rfl, rfl, rfl, rfl⟩
theorem intsD_map (l : List Int) : intsD (l.map D.int) = some l := by
  induction l with
  | nil => rfl
  | cons i l ih => rw [List.map_cons, intsD, ih]; rfl
theorem blsD_map (l : List Bool) : blsD (l.map D.bl) = some l := by
  induction l with
  | nil => rfl
  | cons i l ih => rw [List.map_cons, blsD, ih]; rfl
theorem cut1 (l : List D) : cut l (some 1) none = l.drop 1 := by
  unfold cut
  rw [show HT.sIx l.length 0 (some 1) = min 1 l.length from HT.sIx_nat l.length 0 1, HT.sIx_none]
  cases l with
  | nil => rfl
  | cons x r =>
    rw [show min 1 (x :: r).length = 1 by rw [List.length_cons]; omega]
    rw [List.take_of_length_le]
    rw [List.length_drop]
    exact Nat.le_refl _
theorem big_le {n : Nat} (h : n ≤ 1000000) : n ≤ big := by show n ≤ 16777216; omega
/-- a def's end -/
def OS.fin (n : Nat) : OS → FO
  | .nx s => .ok (.d .non) (s.st.take n)
  | .rt r s => finish n r s
  | .ex e s => .ex e (s.st.take n)
  | _ => .bad
theorem tb_nx (c : Str) (h : Hd) (s : S) : OS.tryB c h (.nx s) = .nx s := rfl
theorem tb_rt (c : Str) (h : Hd) (x : R) (s : S) : OS.tryB c h (.rt x s) = .rt x s := rfl
theorem tb_ex (c : Str) (h : Hd) (e : Exn) (s : S) : OS.tryB c h (.ex e s) = if e.c = c then hdS h e s else .bad := rfl
theorem hd_setB (i : Nat) (k : Bool) (e : Exn) (s : S) : hdS (.setB i k) e s = .nx ⟨s.sl.set i (.d (.bl k)), s.st⟩ := rfl
theorem hd_setT (j i : Nat) (x y : D) (c : Str) (s : S) : hdS (.setT j i "word" "number") ⟨c, [("word", x), ("number", y)]⟩ s = match s.sl[j]? with
    | some .un => .nx ⟨((s.sl.set j .un).set i (.d (.tup [x, y]))).set j .un, s.st⟩
    | _ => .bad := by
  have h1 : (([("word", x), ("number", y)] : List (Str × D)).lookup ("word" : Str)) = some x := by rw [List.lookup_cons, beq_self_eq_true]
  have h2 : (([("word", x), ("number", y)] : List (Str × D)).lookup ("number" : Str)) = some y := by rw [List.lookup_cons, show (("number" : Str) == "word") = false by decide, List.lookup_cons, beq_self_eq_true]
  simp only [hdS, h1, h2]
  cases s.sl[j]? with
  | none => rfl
  | some z => cases z <;> rfl
theorem hd_retT (j : Nat) (x y : D) (c : Str) (s : S) : hdS (.retT j "word" "number") ⟨c, [("word", x), ("number", y)]⟩ s = match s.sl[j]? with
    | some .un => .rt (.d (.tup [x, y])) ⟨s.sl.set j .un, s.st⟩
    | _ => .bad := by
  have h1 : (([("word", x), ("number", y)] : List (Str × D)).lookup ("word" : Str)) = some x := by rw [List.lookup_cons, beq_self_eq_true]
  have h2 : (([("word", x), ("number", y)] : List (Str × D)).lookup ("number" : Str)) = some y := by rw [List.lookup_cons, show (("number" : Str) == "word") = false by decide, List.lookup_cons, beq_self_eq_true]
  simp only [hdS, h1, h2]
  cases s.sl[j]? with
  | none => rfl
  | some z => cases z <;> rfl
theorem run_eq (m : Nat) (body : Sms) (args : List D) (st : List Cell) : runDef m body args st = OS.fin st.length (exms body ⟨args.map .d ++ List.replicate (m - args.length) .un, st⟩) := by
  unfold runDef
  generalize exms body ⟨args.map .d ++ List.replicate (m - args.length) .un, st⟩ = o
  cases o <;> rfl
theorem fin_nx (n : Nat) (s : S) : OS.fin n (.nx s) = .ok (.d .non) (s.st.take n) := rfl
theorem fin_rt (n : Nat) (r : R) (s : S) : OS.fin n (.rt r s) = finish n r s := rfl
theorem fin_ex (n : Nat) (r : Exn) (s : S) : OS.fin n (.ex r s) = .ex r (s.st.take n) := rfl
theorem small_of {i : Int} (h : -(2 ^ 62) < i ∧ i < 2 ^ 62) : small i = true := by
  refine decide_eq_true ?_
  by_cases z : i.natAbs = 0
  · rw [z]; decide
  · exact (Nat.log2_lt z).mpr (by omega)
theorem small_nat {j : Nat} (h : j ≤ 1000000) : small (j : Int) = true := small_of (by omega)
theorem rng1_eq (i : Int) : rng1Sem [.int i] = (bif small i then some (rangeD 0 i.toNat) else none) := by
  show (if small i = true then some (rangeD 0 i.toNat) else none) = _
  cases small i <;> rfl
theorem rng1_nat {j : Nat} (h : j ≤ 1000000) : rng1Sem [.int (j : Int)] = some ((List.range j).map fun i : Nat => D.int i) := by
  rw [rng1_eq, small_nat h, Int.toNat_natCast, rangeD0]; rfl
theorem ixN_nat' {n j : Nat} (hj : j < n) : ixN n (j : Int) = some j := by
  unfold ixN
  rw [if_pos (by omega), if_pos (by omega)]
  simp
/-! ### several names at once: the store in between -/
theorem gc_push {sl : List SV} {a l : List Cell} {c : Cell} {n : Nat} (h : a.length = n) : S.gc n ⟨sl, a ++ c :: l⟩ = ⟨sl.map (SV.keep n), a⟩ := by
  unfold S.gc
  rw [if_neg (by show ¬ (a ++ c :: l).length = n; rw [List.length_append, List.length_cons]; omega)]
  rw [List.take_left' h]
theorem gc_id {sl : List SV} {a : List Cell} {n : Nat} (h : a.length = n) : S.gc n ⟨sl, a⟩ = ⟨sl, a⟩ := gc_same h
theorem take_push {a l : List Cell} {c : Cell} {n : Nat} (h : a.length = n) : (a ++ c :: l).take n = a := List.take_left' h
theorem take_id {a : List Cell} {n : Nat} (h : a.length = n) : a.take n = a := by rw [← h, List.take_length]
theorem get_app0 {a l : List Cell} {c : Cell} {n : Nat} (h : a.length = n) : (a ++ c :: l)[n]? = some c := by
  rw [List.getElem?_append_right (by omega), h, Nat.sub_self]; rfl
theorem get_app1 {a l : List Cell} {c d : Cell} {n : Nat} (h : a.length = n) : (a ++ c :: d :: l)[n + 1]? = some d := by
  rw [List.getElem?_append_right (by omega), h, Nat.add_sub_cancel_left]; rfl
theorem get_app2 {a l : List Cell} {c d e : Cell} {n : Nat} (h : a.length = n) : (a ++ c :: d :: e :: l)[n + 2]? = some e := by
  rw [List.getElem?_append_right (by omega), h, Nat.add_sub_cancel_left]; rfl
theorem isNew0 (n : Nat) : D.isNew n (.obj n) = some n := by simp only [D.isNew, Nat.lt_irrefl, if_false]
theorem isNew1 (n k : Nat) : D.isNew n (.obj (n + k)) = some (n + k) := by simp only [D.isNew, show ¬ (n + k < n) by omega, if_false]
theorem isNew_int (n : Nat) (i : Int) : D.isNew n (.int i) = none := rfl
theorem isNew_str (n : Nat) (i : Str) : D.isNew n (.str i) = none := rfl
theorem isNew_bl (n : Nat) (i : Bool) : D.isNew n (.bl i) = none := rfl
theorem isNew_non (n : Nat) : D.isNew n .non = none := rfl
theorem isNew_tup (n : Nat) (l : List D) : D.isNew n (.tup l) = none := rfl
theorem isNew_lst (n : Nat) (l : List D) : D.isNew n (.lst l) = none := rfl
theorem keep_un (n : Nat) : SV.keep n .un = .un := rfl
theorem keep_int (n : Nat) (i : Int) : SV.keep n (.d (.int i)) = .d (.int i) := rfl
theorem keep_bl (n : Nat) (i : Bool) : SV.keep n (.d (.bl i)) = .d (.bl i) := rfl
theorem keep_non (n : Nat) : SV.keep n (.d .non) = .d .non := rfl
theorem keep_str (n : Nat) (i : Str) : SV.keep n (.d (.str i)) = .d (.str i) := rfl
theorem keep_scr (n : Nat) (i : List Int) : SV.keep n (.d (.scr i)) = .d (.scr i) := rfl
theorem keep_obj {n p : Nat} (h : p < n) : SV.keep n (.d (.obj p)) = .d (.obj p) := by
  simp only [SV.keep, D.under, h, decide_true, if_true]
theorem keep_own {n : Nat} {c : Cell} (h : c.pure = true) : SV.keep n (.own c) = .own c := by simp only [SV.keep, h, if_true]
theorem nodup2 (n : Nat) : [n, n + 1].Nodup := by simp
theorem nodup3 (n : Nat) : [n, n + 1, n + 2].Nodup := by simp
theorem ne_succ (n k : Nat) : (n = n + (k + 1)) = False := by simp
theorem ne_succ1 (n : Nat) : (n = n + 1) = False := by simp
theorem keep_own_lst (n : Nat) (l : List D) : SV.keep n (.own (.lst l)) = if D.pures l then .own (.lst l) else .un := rfl
theorem keep_lst (n : Nat) (l : List D) : SV.keep n (.d (.lst l)) = if D.unders n l then .d (.lst l) else .un := rfl
theorem keep_tup (n : Nat) (l : List D) : SV.keep n (.d (.tup l)) = if D.unders n l then .d (.tup l) else .un := rfl
theorem bits10 : Builtin.Int.intBits 10 = 4 := by decide +kernel
theorem asg_nm (i : Nat) (x : D) (s : S) : T.asg (.nm i) x s = some ⟨s.sl.set i (.d x), s.st⟩ := by rw [T.asg]
theorem asg_tp (l : List T) (xs : List D) (s : S) : T.asg (.tp l) (.tup xs) s = if xs.length = l.length then T.asgs l xs s else none := by rw [T.asg]
theorem asgs_nil (s : S) : T.asgs [] [] s = some s := by rw [T.asgs]
theorem asgs_cons (t : T) (l : List T) (x : D) (xs : List D) (s : S) : T.asgs (t :: l) (x :: xs) s = (T.asg t x s).bind fun s => T.asgs l xs s := by rw [T.asgs]
/-- a loop over a list of a type -/
theorem for_lst {α : Type} {t : T} {body : S → OS} {n : Nat} (l : List α) (h : α → D) (I : Nat → S → Prop) (s : S) (h0 : I 0 s)
    (k : ∀ (j : Nat) (a : α) (s : S), l[j]? = some a → I j s → ∃ s1 s2, T.asg t (h a) s = some s1 ∧ (body s1 = .nx s2 ∨ body s1 = .ct s2) ∧ I (j + 1) (s2.gc n)) :
    ∃ s', forLoop (fun x s => T.asg t x s) body n (l.map h) s = .nx s' ∧ I l.length s' := by
  obtain ⟨s', e1, e2⟩ := for_inv (tgt := fun x s => T.asg t x s) (body := body) (n := n) I (l.map h) 0 s (fun i x s hx hI => by
    rw [Nat.zero_add] at hI ⊢
    rw [List.getElem?_map] at hx
    cases q : l[i]? with
    | none => rw [q] at hx; cases hx
    | some a =>
      rw [q] at hx
      cases hx
      exact k i a s q hI) h0
  refine ⟨s', e1, ?_⟩
  rw [Nat.zero_add, List.length_map] at e2
  exact e2
theorem for_rng {v : Nat} {body : S → OS} {n : Nat} (m : Nat) (I : Nat → S → Prop) (s : S) (h0 : I 0 s)
    (k : ∀ (j : Nat) (s : S), j < m → I j s → ∃ s2, (body ⟨s.sl.set v (.d (.int j)), s.st⟩ = .nx s2 ∨ body ⟨s.sl.set v (.d (.int j)), s.st⟩ = .ct s2) ∧ I (j + 1) (s2.gc n)) :
    ∃ s', forLoop (fun x s => T.asg (.nm v) x s) body n ((List.range m).map fun i : Nat => D.int i) s = .nx s' ∧ I m s' := by
  obtain ⟨s', e1, e2⟩ := for_lst (t := .nm v) (body := body) (n := n) (List.range m) (fun i : Nat => D.int i) I s h0 fun j a s ha hI => by
    have hj : j < m := by
      have := (List.getElem?_eq_some_iff.mp ha).1
      simpa using this
    rw [List.getElem?_range hj] at ha
    cases ha
    obtain ⟨s2, g1, g2⟩ := k j s hj hI
    exact ⟨_, s2, asg_nm _ _ _, g1, g2⟩
  rw [List.length_range] at e2
  exact ⟨s', e1, e2⟩
end G4
namespace G4
open PySem L2
/-! ### more of data: equality, membership, repr, what stays under a line -/
theorem eqv_lst (a b : List D) : D.eqv (.lst a) (.lst b) = D.eqvs a b := by rw [D.eqv]
theorem eqv_tup (a b : List D) : D.eqv (.tup a) (.tup b) = D.eqvs a b := by rw [D.eqv]
theorem eqvs_nil : D.eqvs [] [] = true := by rw [D.eqvs]
theorem eqvs_cons (a b : D) (l m : List D) : D.eqvs (a :: l) (b :: m) = (D.eqv a b && D.eqvs l m) := by rw [D.eqvs]
theorem eqv_str (a b : Str) : D.eqv (.str a) (.str b) = decide (a = b) := by rw [D.eqv]
theorem eqvs_ints : ∀ l m : List Int, D.eqvs (l.map .int) (m.map .int) = (l == m)
  | [], [] => by simp [D.eqvs]
  | [], b :: m => by simp [D.eqvs]
  | a :: l, [] => by simp [D.eqvs]
  | a :: l, b :: m => by rw [List.map_cons, List.map_cons, eqvs_cons, eqv_int, eqvs_ints l m]; rfl
theorem mem_ints (i : Int) (l : List Int) : D.mem (.int i) (l.map .int) = decide (i ∈ l) := by
  unfold D.mem
  induction l with
  | nil => simp
  | cons a l ih =>
    rw [List.map_cons, List.any_cons, ih, eqv_int]
    by_cases h : i = a
    · subst h; simp
    · have : (a == i) = false := by simpa using fun e => h e.symm
      simp [this, h]
theorem opIn_ints (i : Int) (l : List Int) : opIn (.int i) (.lst (l.map .int)) = some (decide (i ∈ l)) := by
  have h : ((D.int i).plain && D.plains (l.map D.int)) = true := by rw [show (D.int i).plain = true from rfl, show D.plains (l.map D.int) = true from plain_ints 60 l]; rfl
  show (if (D.int i).plain && D.plains (l.map D.int) then some (D.mem (.int i) (l.map .int)) else none) = _
  rw [if_pos h, mem_ints]
theorem unders_iff (n : Nat) : ∀ l : List D, D.unders n l = true ↔ ∀ d ∈ l, D.under n d = true
  | [] => by simp [D.unders]
  | d :: l => by simp [D.unders, unders_iff n l]
theorem unders_ints (n : Nat) (l : List Int) : D.unders n (l.map .int) = true := (unders_iff n _).mpr fun d hd => by
  obtain ⟨i, _, rfl⟩ := List.mem_map.mp hd
  rfl
theorem set_app {a l : List Cell} {p : Nat} {c : Cell} (h : p < a.length) : a.set p c ++ l = (a ++ l).set p c := by rw [List.set_append_left _ _ h]
theorem set_app0 {a l : List Cell} {c d : Cell} {n : Nat} (h : a.length = n) : (a ++ c :: l).set n d = a ++ d :: l := by
  subst h
  rw [List.set_append_right _ _ (Nat.le_refl _), Nat.sub_self]; rfl
theorem set_app1 {a l : List Cell} {c d e : Cell} {n : Nat} (h : a.length = n) : (a ++ c :: d :: l).set (n + 1) e = a ++ c :: e :: l := by
  subst h
  rw [List.set_append_right _ _ (by omega), Nat.add_sub_cancel_left]; rfl
/-- an int of some 75 digits at most -/
def Fit (i : Int) : Prop := -(2 ^ 250) < i ∧ i < 2 ^ 250
theorem Fit.log {i : Int} (h : Fit i) : i.natAbs.log2 < 250 := by
  obtain ⟨h1, h2⟩ := h
  by_cases z : i.natAbs = 0
  · rw [z]; decide
  · exact (Nat.log2_lt z).mpr (by omega)
theorem fit_int {i : Int} (h : Fit i) : (D.int i).shows = true ∧ (D.int i).cost ≤ 260 := by
  have := h.log
  refine ⟨?_, ?_⟩
  · show decide (i.natAbs.log2 < 1920) = true
    exact decide_eq_true (by omega)
  · show i.natAbs.log2 + 3 ≤ 260
    omega
theorem fit_list {k : Nat} : ∀ l : List D, (∀ d ∈ l, d.shows = true ∧ d.cost ≤ k) → D.showss l = true ∧ D.costs l ≤ (k + 2) * l.length
  | [], _ => ⟨rfl, by simp [D.costs]⟩
  | d :: l, h => by
    obtain ⟨h1, h2⟩ := h d List.mem_cons_self
    obtain ⟨h3, h4⟩ := fit_list l fun x hx => h x (List.mem_cons_of_mem _ hx)
    refine ⟨?_, ?_⟩
    · rw [D.showss, h1, h3]; rfl
    · rw [D.costs, List.length_cons, Nat.mul_add, Nat.mul_one]; omega
theorem fit_ints {l : List Int} (h : ∀ i ∈ l, Fit i) : D.showss (l.map .int) = true ∧ D.costs (l.map .int) ≤ 262 * l.length := by
  have := fit_list (k := 260) (l.map D.int) fun d hd => by
    obtain ⟨i, hi, rfl⟩ := List.mem_map.mp hd
    exact fit_int (h i hi)
  rw [List.length_map] at this
  exact this
theorem repr_lst {l : List D} (hp : D.plainsN 59 l = true) (hs : D.showss l = true) (hc : D.costs l ≤ 1000000) : biRepr [.lst l] = some (.d (.str (toPD (.lst l)).shown)) := by
  have hb : D.costs l + 2 ≤ big := by show D.costs l + 2 ≤ 16777216; omega
  have h : (D.plainsN 59 l && D.showss l && decide (D.costs l + 2 ≤ big)) = true := by
    rw [hp, hs, decide_eq_true hb]; rfl
  show (reprD (.lst l)).map _ = _
  rw [reprD, if_pos h]; rfl
theorem repr_eq (d : D) : biRepr [d] = (reprD d).map fun s => R.d (.str s) := rfl
theorem repr_bl (b : Bool) : reprD (.bl b) = (some (if b then "True" else "False") : Option Str) := rfl
theorem eqv_bl (a b : Bool) : D.eqv (.bl a) (.bl b) = (a == b) := by rw [D.eqv]
end G4
namespace G4
theorem pures_app : ∀ a b : List D, D.pures (a ++ b) = (D.pures a && D.pures b)
  | [], b => by simp [D.pures]
  | d :: a, b => by rw [List.cons_append, D.pures, D.pures, pures_app a b, Bool.and_assoc]
theorem enum_map {α : Type} (h : α → D) : ∀ (l : List α) (k : Nat), enumFrom k (l.map h) = (l.zipIdx k).map fun p => .tup [.int p.2, h p.1]
  | [], _ => rfl
  | a :: l, k => by rw [List.map_cons, enumFrom, enum_map h l (k + 1), List.zipIdx_cons, List.map_cons]
theorem val_dK (l : List (L2.Key × D)) (s : S) : (O.ok (R.new (.dK l)) s).val = .ok (.dct l) s := rfl
theorem putTs_nil (s : S) : putTs [] [] s = .nx s := rfl
theorem putTs_nm (i : Nat) (l : List Tg) (x : D) (xs : List D) (s : S) : putTs (.nm i :: l) (x :: xs) s = putTs l xs ⟨s.sl.set i (.d x), s.st⟩ := rfl
theorem putTs_sub (a b : E) (l : List Tg) (x : D) (xs : List D) (s : S) : putTs (.sub a b :: l) (x :: xs) s = OS.of (ev a s) fun p s => if s.isLst p || s.isDct p then .of (ev b s).val fun k s => match (s.cell p).bind fun c => setIx c k x with
    | some c => match s.put c p with
      | some s => putTs l xs s
      | none => .bad
    | none => .bad else .bad := rfl
/-! ### sorted lists -/
theorem sorted_ext : ∀ l m : List Int, l.Pairwise (· < ·) → m.Pairwise (· < ·) → (∀ x, x ∈ l ↔ x ∈ m) → l = m
  | [], [], _, _, _ => rfl
  | [], b :: m, _, _, h => absurd ((h b).mpr List.mem_cons_self) (by simp)
  | a :: l, [], _, _, h => absurd ((h a).mp List.mem_cons_self) (by simp)
  | a :: l, b :: m, hl, hm, h => by
    obtain ⟨l1, l2⟩ := List.pairwise_cons.mp hl
    obtain ⟨m1, m2⟩ := List.pairwise_cons.mp hm
    have e : a = b := by
      rcases List.mem_cons.mp ((h a).mp List.mem_cons_self) with e | e
      · exact e
      · rcases List.mem_cons.mp ((h b).mpr List.mem_cons_self) with f | f
        · exact f.symm
        · have := m1 a e; have := l1 b f; omega
    subst e
    congr 1
    refine sorted_ext l m l2 m2 fun x => ⟨fun hx => ?_, fun hx => ?_⟩
    · rcases List.mem_cons.mp ((h x).mp (List.mem_cons_of_mem _ hx)) with e | e
      · have := l1 x hx; omega
      · exact e
    · rcases List.mem_cons.mp ((h x).mpr (List.mem_cons_of_mem _ hx)) with e | e
      · have := m1 x hx; omega
      · exact e
theorem isort_lt {l : List Int} (h : l.Nodup) : (isort l).Pairwise (· < ·) := by
  have p : (isort l).Perm l := List.mergeSort_perm l _
  have n : (isort l).Nodup := p.nodup_iff.mpr h
  have s : (isort l).Pairwise fun a b => decide (a ≤ b) = true := List.pairwise_mergeSort (fun a b c h1 h2 => by simp at *; omega) (fun a b => by simp; omega) l
  refine (s.and n).imp fun {a b} ⟨h1, h2⟩ => ?_
  have := of_decide_eq_true h1
  omega
theorem keep_own_dK (n : Nat) (l : List (L2.Key × D)) : SV.keep n (.own (.dK l)) = if D.pureK l then .own (.dK l) else .un := rfl
theorem pureK_nil : D.pureK [] = true := by rw [D.pureK]
theorem back_hide (old sl : List SV) : ∀ vs : List Nat, backSl old (hideSl sl vs) vs = backSl old sl vs := fun vs => by
  have key : ∀ (sl : List SV) (vs : List Nat) (i : Nat), i ∈ vs → (backSl old sl vs)[i]? = if i < sl.length then some (old.getD i .un) else none := fun sl vs i h => by
    induction vs with
    | nil => simp at h
    | cons v vs ih =>
      rw [backSl]
      by_cases e : v = i
      · subst e
        rw [List.getElem?_set]
        simp [backSl_len]
      · rw [List.getElem?_set_ne e]
        exact ih (by simpa [Ne.symm e] using h)
  have key2 : ∀ (sl : List SV) (vs : List Nat) (i : Nat), i ∉ vs → (backSl old sl vs)[i]? = sl[i]? := fun sl vs i h => by
    induction vs with
    | nil => rfl
    | cons v vs ih =>
      rw [backSl, List.getElem?_set_ne (by intro e; exact h (by simp [e]))]
      exact ih fun z => h (List.mem_cons_of_mem _ z)
  apply List.ext_getElem?
  intro i
  by_cases hi : i ∈ vs
  · rw [key _ vs i hi, key _ vs i hi, hideSl_len]
  · rw [key2 _ vs i hi, key2 _ vs i hi, hideSl_out hi]
/-- a comprehension in which a name's own object is kept from the first turn on: sA ahead, sB behind -/
theorem lc_frz {α : Type} {own : List (PySem.Str × Nat)} {e : E} {g : T} {src : Src} {c : EO} {s sA sB : S} (l : List α) (h : α → D) (p : α → Bool) (v : α → D) (h1 : evSrc src s = .ok (l.map h) sA) (h2 : l.length ≤ big) (h3 : (own.all fun p => !(sA.sl.getD p.2 .un).isOwn) = true)
    (hAB : backSl sA.sl (hideSl sB.sl (own.map (·.2))) (own.map (·.2)) = sB.sl)
    (k : ∀ a ∈ l, ∀ s0, (s0 = sA ∨ s0 = sB) → ∃ s1 s2, T.asg g (h a) (s0.hide (own.map (·.2))) = some s1 ∧ evc c s1 = .ok (p a) s2 ∧ ((p a = false ∧ s2.hide (own.map (·.2)) = sB.hide (own.map (·.2))) ∨ (p a = true ∧ ∃ s3, (ev e s2).val = .ok (v a) s3 ∧ s3.hide (own.map (·.2)) = sB.hide (own.map (·.2))))) :
    ev (.lc own e g src c) s = .ok (.new (.lst ((l.filter p).map v))) (if l.isEmpty then sA else sB) := by
  have key : ∀ (l : List α) (acc : List D) (t s0 : S), (s0 = sA ∨ s0 = sB) → t.hide (own.map (·.2)) = s0.hide (own.map (·.2)) →
      (∀ a ∈ l, ∀ s0, (s0 = sA ∨ s0 = sB) → ∃ s1 s2, T.asg g (h a) (s0.hide (own.map (·.2))) = some s1 ∧ evc c s1 = .ok (p a) s2 ∧ ((p a = false ∧ s2.hide (own.map (·.2)) = sB.hide (own.map (·.2))) ∨ (p a = true ∧ ∃ s3, (ev e s2).val = .ok (v a) s3 ∧ s3.hide (own.map (·.2)) = sB.hide (own.map (·.2))))) →
      ∃ t', lcLoop (own.map (·.2)) (fun x s => T.asg g x s) (fun s => evc c s) (fun s => (ev e s).val) (l.map h) acc t = .ok (acc ++ (l.filter p).map v) t' ∧ t'.hide (own.map (·.2)) = (if l.isEmpty then s0 else sB).hide (own.map (·.2)) := by
    intro l
    induction l with
    | nil => exact fun acc t s0 _ ht _ => ⟨t, by simp [lcLoop], ht⟩
    | cons a l ih =>
      intro acc t s0 hs ht k
      obtain ⟨s1, s2, g1, g2, g3⟩ := k a List.mem_cons_self s0 hs
      have k' : ∀ b ∈ l, _ := fun b hb => k b (List.mem_cons_of_mem _ hb)
      have fin : ∀ s' : S, (if l.isEmpty then sB else sB) = sB := fun _ => by split <;> rfl
      rw [List.map_cons, lcLoop, ht, g1]
      rcases g3 with ⟨q1, q2⟩ | ⟨q1, s3, q2, q3⟩
      · obtain ⟨t', w1, w2⟩ := ih acc s2 sB (.inr rfl) q2 k'
        refine ⟨t', ?_, by rw [w2, fin t']; rfl⟩
        simp only [g2, q1, O.bind, List.filter_cons]
        rw [if_neg Bool.false_ne_true, if_neg Bool.false_ne_true]; exact w1
      · obtain ⟨t', w1, w2⟩ := ih (acc ++ [v a]) s3 sB (.inr rfl) q3 k'
        refine ⟨t', ?_, by rw [w2, fin t']; rfl⟩
        simp only [g2, q1, O.bind, q2, List.filter_cons, if_true]
        rw [w1]; simp
  obtain ⟨t, g1, g2⟩ := key l [] sA sA (.inl rfl) rfl k
  simp only [ev, h1, O.bind, h3, List.length_map, h2, decide_true, Bool.and_self, if_true]
  rw [g1]
  simp only [O.noex, List.nil_append]
  cases hl : l.isEmpty
  · rw [hl] at g2
    have e1 : (S.hide (own.map (·.2)) t).st = (S.hide (own.map (·.2)) sB).st := by rw [g2]; rfl
    have e2 : (S.hide (own.map (·.2)) t).sl = (S.hide (own.map (·.2)) sB).sl := by rw [g2]; rfl
    have e1 : t.st = sB.st := e1
    have e2 : hideSl t.sl (own.map (·.2)) = hideSl sB.sl (own.map (·.2)) := e2
    have e3 : backSl sA.sl t.sl (own.map (·.2)) = backSl sA.sl (hideSl t.sl (own.map (·.2))) (own.map (·.2)) := (back_hide _ _ _).symm
    rw [e3, e2, hAB, e1]; rfl
  · rw [hl] at g2
    have e1 : (S.hide (own.map (·.2)) t).st = (S.hide (own.map (·.2)) sA).st := by rw [g2]; rfl
    have e2 : (S.hide (own.map (·.2)) t).sl = (S.hide (own.map (·.2)) sA).sl := by rw [g2]; rfl
    have e1 : t.st = sA.st := e1
    have e2 : hideSl t.sl (own.map (·.2)) = hideSl sA.sl (own.map (·.2)) := e2
    rw [back_eq e2, e1]; rfl
end G4

namespace G4
open PySem PySem.Spec PyProof.Rows L2
def topS (i : Nat) : Stmt := PySem.Challenge.pw_broughtin_k02_clubs_that_cannot_be.main.body.getD i (.Pass ⟨0, 0, 0, 0⟩)
def k_MOST_MEMBERS : D := (.int 60)
def k_MOST_NUMBER : D := (.int 1000000000000000000000000000000)
def k_WORDS : D := (.tup [(.str "alone"), (.str "brought")])
def N_is_integer : List Str := ["thing"]
def b_is_integer : Sms := (.cons (.ret (.and (.isi (.var 0) [.int]) (.not (.isi (.var 0) [.bool]))))
  .nil)
def f_is_integer : Fn := runDef 1 b_is_integer
theorem c_is_integer : ckDef N_is_integer ["thing"] ["isinstance", "bool", "int"] b_is_integer (topS 8) = true := by decide +kernel
def N_is_count : List Str := ["thing"]
def b_is_count : Sms := (.cons (.ret (.and (.call "is_integer" f_is_integer (.cons (.var 0) .nil)) (.cmp2 .LtE .LtE (.int 0) (.var 0) (.glo "MOST_NUMBER" k_MOST_NUMBER))))
  .nil)
def f_is_count : Fn := runDef 1 b_is_count
theorem c_is_count : ckDef N_is_count ["thing"] [] b_is_count (topS 9) = true := by decide +kernel
def N_is_told_member : List Str := ["thing", "words"]
def b_is_told_member : Sms := (.cons (.ifs (.or (.not (.isi (.var 0) [.tuple])) (.or (.cmp .NotEq (.bi .len (.cons (.var 0) .nil)) (.int 3)) (.not (.isi (.ix (.var 0) (.int 1)) [.str])))) (.cons (.ret (.bl false))
  .nil) .nil)
  (.cons (.ret (.and (.call "is_count" f_is_count (.cons (.ix (.var 0) (.int 0)) .nil)) (.and (.cmp .In (.ix (.var 0) (.int 1)) (.var 1)) (.call "is_count" f_is_count (.cons (.ix (.var 0) (.int 2)) .nil)))))
  .nil))
def f_is_told_member : Fn := runDef 2 b_is_told_member
theorem c_is_told_member : ckDef N_is_told_member ["thing", "words"] ["isinstance", "str", "len", "tuple"] b_is_told_member (topS 10) = true := by decide +kernel
def N_is_club_of : List Str := ["thing", "words", "earlier", "later", "item"]
def lc_is_club_of_1 : E := (.lc [("earlier", 2), ("later", 3)] (.cmp .LtE (.ix (.var 2) (.int 0)) (.ix (.var 3) (.int 0))) (.tp [(.nm 2), (.nm 3)]) (.zip (.var 0) (.sl (.var 0) (.so (.int 1)) .no)) .no)
def lc_is_club_of_2 : E := (.lc [("item", 4)] (.call "is_told_member" f_is_told_member (.cons (.var 4) (.cons (.var 1) .nil))) (.nm 4) (.seq (.var 0)) .no)
def b_is_club_of : Sms := (.cons (.ifs (.or (.not (.isi (.var 0) [.list])) (.not (.cmp2 .LtE .LtE (.int 1) (.bi .len (.cons (.var 0) .nil)) (.glo "MOST_MEMBERS" k_MOST_MEMBERS)))) (.cons (.ret (.bl false))
  .nil) .nil)
  (.cons (.ifs (.not (.bi .all (.cons lc_is_club_of_2 .nil))) (.cons (.ret (.bl false))
  .nil) .nil)
  (.cons (.ret (.bi .all (.cons lc_is_club_of_1 .nil)))
  .nil)))
def f_is_club_of : Fn := runDef 5 b_is_club_of
theorem c_is_club_of : ckDef N_is_club_of ["thing", "words"] ["all", "zip", "len", "isinstance", "list"] b_is_club_of (topS 11) = true := by decide +kernel
def N_need_club : List Str := ["thing"]
def b_need_club : Sms := (.cons (.ifs (.not (.call "is_club_of" f_is_club_of (.cons (.var 0) (.cons (.glo "WORDS" k_WORDS) .nil)))) (.cons (.rais "InvalidClub" "not a club")
  .nil) .nil)
  .nil)
def f_need_club : Fn := runDef 1 b_need_club
theorem c_need_club : ckDef N_need_club ["thing"] [] b_need_club (topS 12) = true := by decide +kernel
def N_brought_of : List Str := ["club", "member", "one"]
def lc_brought_of_1 : E := (.lc [("member", 1), ("one", 2)] (.var 1) (.tp [(.nm 1), (.nm 2)]) (.enum (.var 0)) (.so (.cmp .Eq (.ix (.var 2) (.int 1)) (.str "brought"))))
def b_brought_of : Sms := (.cons (.ret lc_brought_of_1)
  .nil)
def f_brought_of : Fn := runDef 3 b_brought_of
theorem c_brought_of : ckDef N_brought_of ["club"] ["enumerate"] b_brought_of (topS 13) = true := by decide +kernel
def N_table_of : List Str := ["club", "slots", "brought", "day", "came", "number", "found", "free", "slack"]
def fb_table_of_1 : Sms := (.cons (.set 8 (.bin .Sub (.var 7) (.dix (.var 2) (.var 3))))
  (.cons (.expr (.mu .append (.var 6) (.cons (.tup (.cons (.var 3) (.cons (.var 7) (.cons (.var 8) .nil)))) .nil)))
  (.cons (.set 7 (.bin .Add (.var 8) (.dix (.var 1) (.var 3))))
  .nil)))
def tl_table_of_1 : Sms := (.cons (.fors (.nm 3) (.seq (.bi .sorted (.cons (.var 1) .nil))) fb_table_of_1)
  (.cons (.ret (.var 6))
  .nil))
def tl_table_of_2 : Sms := (.cons (.par [6, 7] (.cons (.lst .nil) (.cons (.int 0) .nil)))
  tl_table_of_1)
def fb_table_of_2 : Sms := (.cons (.setix (.var 1) (.var 3) (.bin .Add (.dget (.var 1) (.var 3) (.int 0)) (.var 5)))
  (.cons (.setix (.var 2) (.var 3) (.bin .Add (.dget (.var 2) (.var 3) (.int 0)) (.bi .toInt (.cons (.cmp .Eq (.var 4) (.str "brought")) .nil))))
  .nil))
def tl_table_of_3 : Sms := (.cons (.fors (.tp [(.nm 3), (.nm 4), (.nm 5)]) (.seq (.var 0)) fb_table_of_2)
  tl_table_of_2)
def b_table_of : Sms := (.cons (.par [1, 2] (.cons .dnil (.cons .dnil .nil)))
  tl_table_of_3)
def f_table_of : Fn := runDef 9 b_table_of
theorem c_table_of : ckDef N_table_of ["club"] ["sorted", "int"] b_table_of (topS 14) = true := by decide +kernel
def N_left_over : List Str := ["club", "day", "came", "number"]
def lc_left_over_1 : E := (.lc [("day", 1), ("came", 2), ("number", 3)] (.var 3) (.tp [(.nm 1), (.nm 2), (.nm 3)]) (.seq (.var 0)) .no)
def b_left_over : Sms := (.cons (.ret (.bin .Sub (.bi .sum (.cons lc_left_over_1 .nil)) (.bi .len (.cons (.call "brought_of" f_brought_of (.cons (.var 0) .nil)) .nil))))
  .nil)
def f_left_over : Fn := runDef 4 b_left_over
theorem c_left_over : ckDef N_left_over ["club"] ["sum", "len"] b_left_over (topS 15) = true := by decide +kernel
def N_conflict_in : List Str := ["club", "days", "day", "free", "slack"]
def lc_conflict_in_1 : E := (.lc [("day", 2), ("free", 3), ("slack", 4)] (.var 2) (.tp [(.nm 2), (.nm 3), (.nm 4)]) (.seq (.call "table_of" f_table_of (.cons (.var 0) .nil))) (.so (.cmp .Lt (.var 4) (.int 0))))
def b_conflict_in : Sms := (.cons (.set 1 lc_conflict_in_1)
  (.cons (.ifs (.cmp .NotEq (.var 1) (.lst .nil)) (.cons (.ret (.tup (.cons (.str "day") (.cons (.ix (.var 1) (.int 0)) .nil))))
  .nil) .nil)
  (.cons (.ret (.ifx (.cmp .NotEq (.call "left_over" f_left_over (.cons (.var 0) .nil)) (.int 0)) (.tup (.cons (.str "left") (.cons (.call "left_over" f_left_over (.cons (.var 0) .nil)) .nil))) .non))
  .nil)))
def f_conflict_in : Fn := runDef 5 b_conflict_in
theorem c_conflict_in : ckDef N_conflict_in ["club"] [] b_conflict_in (topS 16) = true := by decide +kernel
def N_need_possible : List Str := ["club", "conflict"]
def b_need_possible : Sms := (.cons (.set 1 (.call "conflict_in" f_conflict_in (.cons (.var 0) .nil)))
  (.cons (.ifs (.cmp .IsNot (.var 1) .non) (.cons (.raisO "Impossible" "word" "number" (.cons (.ix (.var 1) (.int 0)) (.cons (.ix (.var 1) (.int 1)) .nil)))
  .nil) .nil)
  .nil))
def f_need_possible : Fn := runDef 2 b_need_possible
theorem c_need_possible : ckDef N_need_possible ["club"] [] b_need_possible (topS 17) = true := by decide +kernel
def N_conflict_of : List Str := ["club"]
def b_conflict_of : Sms := (.cons (.expr (.call "need_club" f_need_club (.cons (.var 0) .nil)))
  (.cons (.ret (.call "conflict_in" f_conflict_in (.cons (.var 0) .nil)))
  .nil))
def f_conflict_of : Fn := runDef 1 b_conflict_of
theorem c_conflict_of : ckDef N_conflict_of ["club"] [] b_conflict_of (topS 18) = true := by decide +kernel
def N_ways_of : List Str := ["club", "found", "day", "free", "slack", "came", "number", "factor"]
def fb_ways_of_1 : Sms := (.cons (.aug 1 .FloorDiv (.var 7))
  .nil)
def fb_ways_of_2 : Sms := (.cons (.fors (.nm 7) (.rng2 (.int 2) (.bin .Add (.var 6) (.int 1))) fb_ways_of_1)
  .nil)
def tl_ways_of_1 : Sms := (.cons (.fors (.tp [(.nm 2), (.nm 5), (.nm 6)]) (.seq (.var 0)) fb_ways_of_2)
  (.cons (.ret (.var 1))
  .nil))
def fb_ways_of_3 : Sms := (.cons (.aug 1 .Mult (.var 7))
  .nil)
def fb_ways_of_4 : Sms := (.cons (.fors (.nm 7) (.rng2 (.bin .Add (.var 4) (.int 1)) (.bin .Add (.var 3) (.int 1))) fb_ways_of_3)
  .nil)
def tl_ways_of_2 : Sms := (.cons (.fors (.tp [(.nm 2), (.nm 3), (.nm 4)]) (.seq (.call "table_of" f_table_of (.cons (.var 0) .nil))) fb_ways_of_4)
  tl_ways_of_1)
def b_ways_of : Sms := (.cons (.set 1 (.int 1))
  tl_ways_of_2)
def f_ways_of : Fn := runDef 8 b_ways_of
theorem c_ways_of : ckDef N_ways_of ["club"] ["range"] b_ways_of (topS 20) = true := by decide +kernel
def N_count_ways : List Str := ["club"]
def b_count_ways : Sms := (.cons (.expr (.call "need_club" f_need_club (.cons (.var 0) .nil)))
  (.cons (.expr (.call "need_possible" f_need_possible (.cons (.var 0) .nil)))
  (.cons (.ret (.call "ways_of" f_ways_of (.cons (.var 0) .nil)))
  .nil)))
def f_count_ways : Fn := runDef 1 b_count_ways
theorem c_count_ways : ckDef N_count_ways ["club"] [] b_count_ways (topS 21) = true := by decide +kernel
def N__law_purse : List Str := ["script", "k", "cell_here"]
def b__law_purse : Sms := (.cons (.set 2 (.ifx (.cmp .Lt (.var 1) (.bi .len (.cons (.var 0) .nil))) (.ix (.var 0) (.var 1)) (.int 0)))
  (.cons (.ret (.lst (.cons (.bi .max2 (.cons (.int 0) (.cons (.bin .Sub (.bi .abs (.cons (.var 2) .nil)) (.bin .Pow (.int 10) (.int 18))) .nil))) (.cons (.bin .Add (.bin .Mult (.bin .Mod (.bi .toInt (.cons (.var 2) .nil)) (.bin .Add (.bin .Pow (.int 10) (.int 41)) (.int 37))) (.int 89)) (.bin .Mult (.int 60013) (.var 1))) (.cons (.int 0) .nil)))))
  .nil))
def f__law_purse : Fn := runDef 3 b__law_purse
theorem c__law_purse : ckDef N__law_purse ["script", "k"] ["int", "max", "abs", "len"] b__law_purse (topS 23) = true := by decide +kernel
def N__law_toss : List Str := ["purse", "many", "mixed", "side"]
def tl__law_toss_1 : Sms := (.cons (.set 2 (.bin .Mod (.bi .toInt (.cons (.bin .Pow (.bin .Add (.var 2) (.bin .Mult (.int 25000009) (.ix (.var 0) (.int 2)))) (.int 3)) .nil)) (.bin .Add (.bin .Pow (.int 10) (.int 46)) (.int 121))))
  (.cons (.ret (.bin .Mod (.bi .toInt (.cons (.bin .FloorDiv (.var 2) (.int 1073741789)) .nil)) (.var 1)))
  .nil))
def tl__law_toss_2 : Sms := (.cons (.set 2 (.bin .Mod (.bi .toInt (.cons (.bin .Pow (.bin .Add (.ix (.var 0) (.int 1)) (.bin .Mult (.int 50000017) (.ix (.var 0) (.int 2)))) (.int 3)) .nil)) (.bin .Add (.bin .Pow (.int 10) (.int 45)) (.int 9))))
  tl__law_toss_1)
def tl__law_toss_3 : Sms := (.cons (.setix (.var 0) (.int 2) (.bin .Add (.ix (.var 0) (.int 2)) (.int 1)))
  tl__law_toss_2)
def b__law_toss : Sms := (.cons (.ifs (.cmp .Gt (.ix (.var 0) (.int 0)) (.int 0)) (.cons (.set 3 (.bin .Mod (.bi .toInt (.cons (.ix (.var 0) (.int 0)) .nil)) (.var 1)))
  (.cons (.setix (.var 0) (.int 0) (.bin .FloorDiv (.ix (.var 0) (.int 0)) (.var 1)))
  (.cons (.ret (.var 3))
  .nil))) .nil)
  tl__law_toss_3)
def f__law_toss : Fn := runDef 4 b__law_toss
theorem c__law_toss : ckDef N__law_toss ["purse", "many"] ["int"] b__law_toss (topS 24) = true := by decide +kernel
def N__law_made : List Str := ["purse", "size", "far", "style", "today", "rows_here", "bringers_here", "numbers_here", "spot", "words_here", "earlier", "some", "one"]
def lc__law_made_1 : E := (.lc [("one", 12)] (.ix (.lst (.cons (.str "brought") (.cons (.str "alone") .nil))) (.bi .toInt (.cons (.cmp .Is (.var 12) .non) .nil))) (.nm 12) (.seq (.var 6)) .no)
def tl__law_made_1 : Sms := (.cons (.set 9 lc__law_made_1)
  (.cons (.ret (.tup (.cons (.zip3 (.var 5) (.var 9) (.var 7)) (.cons (.var 6) .nil))))
  .nil))
def tl__law_made_2 : Sms := (.cons (.setix (.var 6) (.var 8) (.var 12))
  (.cons (.setix (.var 7) (.var 12) (.bin .Add (.ix (.var 7) (.var 12)) (.int 1)))
  .nil))
def tl__law_made_3 : Sms := (.cons (.set 12 (.ix (.var 11) (.call "_law_toss" f__law_toss (.cons (.var 0) (.cons (.bi .len (.cons (.var 11) .nil)) .nil)))))
  tl__law_made_2)
def tl__law_made_4 : Sms := (.cons (.expr (.mu .append (.var 6) (.cons .non .nil)))
  (.cons (.ifs (.and (.cmp .NotEq (.var 10) (.lst .nil)) (.cmp .Gt (.call "_law_toss" f__law_toss (.cons (.var 0) (.cons (.int 5) .nil))) (.int 0))) (.cons (.set 11 (.ix (.lst (.cons (.var 10) (.cons (.sl (.var 10) (.so (.neg (.int 2))) .no) (.cons (.sl (.var 10) .no (.so (.int 3))) (.cons (.sl (.var 10) (.so (.neg (.int 1))) .no) .nil))))) (.var 3)))
  tl__law_made_3) .nil)
  .nil))
def lc__law_made_2 : E := (.lc [("one", 12)] (.var 12) (.nm 12) (.rng1 (.var 8)) (.so (.cmp .Lt (.ix (.var 5) (.var 12)) (.var 4))))
def tl__law_made_5 : Sms := (.cons (.set 10 lc__law_made_2)
  tl__law_made_4)
def tl__law_made_6 : Sms := (.cons (.expr (.mu .append (.var 5) (.cons (.var 4) .nil)))
  tl__law_made_5)
def fb__law_made_1 : Sms := (.cons (.set 4 (.bin .Add (.var 4) (.bin .Mult (.ix (.lst (.cons (.int 0) (.cons (.int 1) (.cons (.bin .Add (.int 1) (.call "_law_toss" f__law_toss (.cons (.var 0) (.cons (.var 2) .nil)))) .nil)))) (.call "_law_toss" f__law_toss (.cons (.var 0) (.cons (.int 3) .nil)))) (.bi .toInt (.cons (.cmp .Gt (.var 8) (.int 0)) .nil)))))
  tl__law_made_6)
def tl__law_made_7 : Sms := (.cons (.fors (.nm 8) (.rng1 (.var 1)) fb__law_made_1)
  tl__law_made_1)
def tl__law_made_8 : Sms := (.cons (.par [6, 7] (.cons (.lst .nil) (.cons (.bin .Mult (.lst (.cons (.int 0) .nil)) (.var 1)) .nil)))
  tl__law_made_7)
def b__law_made : Sms := (.cons (.par [3, 4, 5] (.cons (.call "_law_toss" f__law_toss (.cons (.var 0) (.cons (.int 4) .nil))) (.cons (.call "_law_toss" f__law_toss (.cons (.var 0) (.cons (.var 2) .nil))) (.cons (.lst .nil) .nil))))
  tl__law_made_8)
def f__law_made : Fn := runDef 13 b__law_made
theorem c__law_made : ckDef N__law_made ["purse", "size", "far"] ["list", "zip", "int", "range", "len"] b__law_made (topS 25) = true := by decide +kernel
def N__law_bent : List Str := ["purse", "club_here", "found", "turn", "spot", "joined", "word_here", "size", "other_word", "more", "told_here"]
def tl__law_bent_1 : Sms := (.cons (.set 10 (.tup (.cons (.var 5) (.cons (.var 6) (.cons (.bi .min2 (.cons (.bin .Pow (.int 10) (.int 30)) (.cons (.var 9) .nil))) .nil)))))
  (.cons (.setix (.var 2) (.var 4) (.ix (.lst (.cons (.var 10) (.cons (.var 10) (.cons (.tup (.cons (.var 5) (.cons (.var 8) (.cons (.var 7) .nil)))) .nil)))) (.call "_law_toss" f__law_toss (.cons (.var 0) (.cons (.int 3) .nil)))))
  .nil))
def tl__law_bent_2 : Sms := (.cons (.set 9 (.ix (.lst (.cons (.bin .Add (.var 7) (.int 1)) (.cons (.bi .max2 (.cons (.int 0) (.cons (.bin .Sub (.var 7) (.int 1)) .nil))) (.cons (.int 0) (.cons (.bin .Add (.var 7) (.int 2)) (.cons (.bin .Pow (.int 10) (.int 30)) .nil)))))) (.call "_law_toss" f__law_toss (.cons (.var 0) (.cons (.int 5) .nil)))))
  tl__law_bent_1)
def tl__law_bent_3 : Sms := (.cons (.set 8 (.ix (.lst (.cons (.str "alone") (.cons (.str "brought") .nil))) (.bi .toInt (.cons (.cmp .Eq (.var 6) (.str "alone")) .nil))))
  tl__law_bent_2)
def tl__law_bent_4 : Sms := (.cons (.unp (.tp [(.nm 5), (.nm 6), (.nm 7)]) (.ix (.var 2) (.var 4)))
  tl__law_bent_3)
def fb__law_bent_1 : Sms := (.cons (.set 4 (.call "_law_toss" f__law_toss (.cons (.var 0) (.cons (.bi .len (.cons (.var 2) .nil)) .nil))))
  tl__law_bent_4)
def b__law_bent : Sms := (.cons (.set 2 (.bi .list (.cons (.var 1) .nil)))
  (.cons (.fors (.nm 3) (.rng1 (.bin .Add (.int 1) (.call "_law_toss" f__law_toss (.cons (.var 0) (.cons (.int 3) .nil))))) fb__law_bent_1)
  (.cons (.ret (.var 2))
  .nil)))
def f__law_bent : Fn := runDef 11 b__law_bent
theorem c__law_bent : ckDef N__law_bent ["purse", "club_here"] ["range", "min", "max", "int", "len", "list"] b__law_bent (topS 26) = true := by decide +kernel
def N__law_all_ways : List Str := ["club_here", "rows_here", "spot", "one", "later", "taken", "left", "other", "fewer"]
def lc__law_all_ways_1 : E := (.lc [("taken", 5), ("left", 6)] (.var 5) (.tp [(.nm 5), (.nm 6)]) (.seq (.var 1)) (.so (.cmp .Eq (.bi .sum (.cons (.var 6) .nil)) (.int 0))))
def fb__law_all_ways_1 : Sms := (.cons (.ifs (.and (.cmp .Lt (.ix (.ix (.var 0) (.var 7)) (.int 0)) (.ix (.var 3) (.int 0))) (.cmp .Gt (.ix (.var 6) (.var 7)) (.int 0))) (.cons (.set 8 (.bi .list (.cons (.var 6) .nil)))
  (.cons (.setix (.var 8) (.var 7) (.bin .Sub (.ix (.var 8) (.var 7)) (.int 1)))
  (.cons (.expr (.mu .append (.var 4) (.cons (.tup (.cons (.bin .Add (.var 5) (.lst (.cons (.var 7) .nil))) (.cons (.var 8) .nil))) .nil)))
  .nil))) .nil)
  .nil)
def fb__law_all_ways_2 : Sms := (.cons (.ifs (.cmp .Eq (.ix (.var 3) (.int 1)) (.str "alone")) (.cons (.expr (.mu .append (.var 4) (.cons (.tup (.cons (.bin .Add (.var 5) (.lst (.cons .non .nil))) (.cons (.var 6) .nil))) .nil)))
  .nil) .nil)
  (.cons (.fors (.nm 7) (.rng1 (.bin .Mult (.var 2) (.bi .toInt (.cons (.cmp .Eq (.ix (.var 3) (.int 1)) (.str "brought")) .nil)))) fb__law_all_ways_1)
  .nil))
def fb__law_all_ways_3 : Sms := (.cons (.set 4 (.lst .nil))
  (.cons (.fors (.tp [(.nm 5), (.nm 6)]) (.seq (.var 1)) fb__law_all_ways_2)
  (.cons (.set 1 (.var 4))
  .nil)))
def lc__law_all_ways_2 : E := (.lc [("one", 3)] (.ix (.var 3) (.int 2)) (.nm 3) (.seq (.var 0)) .no)
def b__law_all_ways : Sms := (.cons (.set 1 (.lst (.cons (.tup (.cons (.lst .nil) (.cons lc__law_all_ways_2 .nil))) .nil)))
  (.cons (.fors (.tp [(.nm 2), (.nm 3)]) (.enum (.var 0)) fb__law_all_ways_3)
  (.cons (.ret lc__law_all_ways_1)
  .nil)))
def f__law_all_ways : Fn := runDef 9 b__law_all_ways
theorem c__law_all_ways : ckDef N__law_all_ways ["club_here"] ["sum", "enumerate", "range", "int", "list"] b__law_all_ways (topS 27) = true := by decide +kernel
def N__law_conflict : List Str := ["club_here", "one", "more", "slots_here", "other"]
def lc__law_conflict_1 : E := (.lc [("one", 1)] (.ix (.var 1) (.int 2)) (.nm 1) (.seq (.var 0)) .no)
def lc__law_conflict_2 : E := (.lc [("one", 1)] (.int 1) (.nm 1) (.seq (.var 0)) (.so (.cmp .Eq (.ix (.var 1) (.int 1)) (.str "brought"))))
def lc__law_conflict_3 : E := (.lc [("other", 4)] (.int 1) (.nm 4) (.seq (.var 0)) (.so (.and (.cmp .LtE (.ix (.var 4) (.int 0)) (.ix (.var 1) (.int 0))) (.cmp .Eq (.ix (.var 4) (.int 1)) (.str "brought")))))
def lc__law_conflict_4 : E := (.lc [("other", 4)] (.ix (.var 4) (.int 2)) (.nm 4) (.seq (.var 0)) (.so (.cmp .Lt (.ix (.var 4) (.int 0)) (.ix (.var 1) (.int 0)))))
def fb__law_conflict_1 : Sms := (.cons (.set 3 (.bi .sum (.cons lc__law_conflict_4 .nil)))
  (.cons (.ifs (.cmp .Lt (.var 3) (.bi .len (.cons lc__law_conflict_3 .nil))) (.cons (.ret (.tup (.cons (.str "day") (.cons (.ix (.var 1) (.int 0)) .nil))))
  .nil) .nil)
  .nil))
def b__law_conflict : Sms := (.cons (.fors (.nm 1) (.seq (.var 0)) fb__law_conflict_1)
  (.cons (.set 2 (.bin .Sub (.bi .sum (.cons lc__law_conflict_1 .nil)) (.bi .len (.cons lc__law_conflict_2 .nil))))
  (.cons (.ret (.ifx (.cmp .NotEq (.var 2) (.int 0)) (.tup (.cons (.str "left") (.cons (.var 2) .nil))) .non))
  .nil)))
def f__law_conflict : Fn := runDef 5 b__law_conflict
theorem c__law_conflict : ckDef N__law_conflict ["club_here"] ["sum", "len"] b__law_conflict (topS 28) = true := by decide +kernel
def N__law_told : List Str := ["club_here", "told", "e"]
def b__law_told : Sms := (.cons (.set 1 .non)
  (.cons (.tryc (.cons (.expr (.call "count_ways" f_count_ways (.cons (.var 0) .nil)))
  .nil) "Impossible" (.setT 2 1 "word" "number"))
  (.cons (.ret (.var 1))
  .nil)))
def f__law_told : Fn := runDef 3 b__law_told
theorem c__law_told : ckDef N__law_told ["club_here"] [] b__law_told (topS 29) = true := by decide +kernel
def N__law_right : List Str := ["club_here", "before", "due"]
def tl__law_right_1 : Sms := (.cons (.ifs (.and (.cmp .LtE (.bi .len (.cons (.var 0) .nil)) (.int 6)) (.cmp .NotEq (.cmp .Is (.var 2) .non) (.cmp .NotEq (.call "_law_all_ways" f__law_all_ways (.cons (.var 0) .nil)) (.lst .nil)))) (.cons (.ret (.bl false))
  .nil) .nil)
  (.cons (.ret (.and (.cmp .Eq (.call "conflict_of" f_conflict_of (.cons (.var 0) .nil)) (.var 2)) (.cmp .Eq (.bi .repr (.cons (.var 0) .nil)) (.var 1))))
  .nil))
def tl__law_right_2 : Sms := (.cons (.ifs (.or (.cmp .NotEq (.bi .repr (.cons (.callk "conflict_of" f_conflict_of [0] ["club"] (.cons (.var 0) .nil)) .nil)) (.bi .repr (.cons (.var 2) .nil))) (.cmp .NotEq (.bi .repr (.cons (.call "_law_told" f__law_told (.cons (.var 0) .nil)) .nil)) (.bi .repr (.cons (.var 2) .nil)))) (.cons (.ret (.bl false))
  .nil) .nil)
  tl__law_right_1)
def b__law_right : Sms := (.cons (.par [1, 2] (.cons (.bi .repr (.cons (.var 0) .nil)) (.cons (.call "_law_conflict" f__law_conflict (.cons (.var 0) .nil)) .nil)))
  tl__law_right_2)
def f__law_right : Fn := runDef 3 b__law_right
theorem c__law_right : ckDef N__law_right ["club_here"] ["repr", "len"] b__law_right (topS 30) = true := by decide +kernel
def N_law : List Str := ["script", "k", "six", "some", "told", "purse", "sizes", "size", "club_here", "made", "bent", "one"]
def lc_law_1 : E := (.lc [("one", 11)] (.call "conflict_of" f_conflict_of (.cons (.var 11) .nil)) (.nm 11) (.seq (.var 3)) .no)
def tl_law_1 : Sms := (.cons (.set 4 (.lst (.cons .non (.cons (.tup (.cons (.str "left") (.cons (.int 1) .nil))) (.cons (.tup (.cons (.str "day") (.cons (.int 1) .nil))) (.cons (.tup (.cons (.str "day") (.cons (.int 0) .nil))) (.cons (.tup (.cons (.str "left") (.cons (.int 3) .nil))) (.cons (.tup (.cons (.str "day") (.cons (.int 0) .nil))) (.cons (.tup (.cons (.str "left") (.cons (.bin .Add (.bin .Pow (.int 10) (.int 30)) (.int 1)) .nil))) (.cons (.tup (.cons (.str "day") (.cons (.int 3) .nil))) .nil))))))))))
  (.cons (.ret (.cmp .Eq lc_law_1 (.var 4)))
  .nil))
def tl_law_2 : Sms := (.cons (.set 3 (.bin .Add (.var 3) (.lst (.cons (.lst (.cons (.tup (.cons (.int 0) (.cons (.str "alone") (.cons (.int 2) .nil)))) (.cons (.tup (.cons (.int 1) (.cons (.str "brought") (.cons (.bin .Pow (.int 10) (.int 30)) .nil)))) .nil))) (.cons (.lst (.cons (.tup (.cons (.int 0) (.cons (.str "alone") (.cons (.int 0) .nil)))) (.cons (.tup (.cons (.int 3) (.cons (.str "brought") (.cons (.int 1) .nil)))) (.cons (.tup (.cons (.int 3) (.cons (.str "alone") (.cons (.int 0) .nil)))) .nil)))) .nil)))))
  tl_law_1)
def tl_law_3 : Sms := (.cons (.set 3 (.lst (.cons (.var 2) (.cons (.sl (.var 2) .no (.so (.int 5))) (.cons (.sl (.var 2) (.so (.int 1)) .no) (.cons (.lst (.cons (.tup (.cons (.int 0) (.cons (.str "brought") (.cons (.int 0) .nil)))) .nil)) (.cons (.lst (.cons (.tup (.cons (.int 5) (.cons (.str "alone") (.cons (.int 3) .nil)))) .nil)) (.cons (.lst (.cons (.tup (.cons (.int 0) (.cons (.str "alone") (.cons (.int 1) .nil)))) (.cons (.tup (.cons (.int 0) (.cons (.str "brought") (.cons (.int 0) .nil)))) .nil))) .nil))))))))
  tl_law_2)
def tl_law_4 : Sms := (.cons (.set 2 (.lst (.cons (.tup (.cons (.int 0) (.cons (.str "alone") (.cons (.int 2) .nil)))) (.cons (.tup (.cons (.int 0) (.cons (.str "alone") (.cons (.int 1) .nil)))) (.cons (.tup (.cons (.int 1) (.cons (.str "brought") (.cons (.int 1) .nil)))) (.cons (.tup (.cons (.int 1) (.cons (.str "brought") (.cons (.int 0) .nil)))) (.cons (.tup (.cons (.int 2) (.cons (.str "brought") (.cons (.int 0) .nil)))) (.cons (.tup (.cons (.int 3) (.cons (.str "brought") (.cons (.int 0) .nil)))) .nil))))))))
  tl_law_3)
def tl_law_5 : Sms := (.cons (.ifs (.or (.cmp .IsNot (.call "conflict_of" f_conflict_of (.cons (.var 8) .nil)) .non) (.not (.call "_law_right" f__law_right (.cons (.var 8) .nil)))) (.cons (.ret (.bl false))
  .nil) .nil)
  (.cons (.ifs (.or (.not (.call "_law_right" f__law_right (.cons (.var 10) .nil))) (.not (.call "_law_right" f__law_right (.cons (.call "_law_bent" f__law_bent (.cons (.var 5) (.cons (.var 10) .nil))) .nil)))) (.cons (.ret (.bl false))
  .nil) .nil)
  .nil))
def tl_law_6 : Sms := (.cons (.set 10 (.call "_law_bent" f__law_bent (.cons (.var 5) (.cons (.var 8) .nil))))
  tl_law_5)
def fb_law_1 : Sms := (.cons (.unp (.tp [(.nm 8), (.nm 9)]) (.call "_law_made" f__law_made (.cons (.var 5) (.cons (.var 7) (.cons (.ix (.lst (.cons (.int 4) (.cons (.bin .Pow (.int 10) (.int 28)) .nil))) (.call "_law_toss" f__law_toss (.cons (.var 5) (.cons (.int 2) .nil)))) .nil)))))
  tl_law_6)
def fb_law_2 : Sms := (.cons (.set 5 (.alc (.call "_law_purse" f__law_purse (.cons (.var 0) (.cons (.var 1) .nil)))))
  (.cons (.set 6 (.lst (.cons (.bin .Add (.int 1) (.call "_law_toss" f__law_toss (.cons (.var 5) (.cons (.int 6) .nil)))) (.cons (.bin .Add (.int 1) (.call "_law_toss" f__law_toss (.cons (.var 5) (.cons (.int 6) .nil)))) (.cons (.ix (.lst (.cons (.int 60) (.cons (.bin .Add (.int 10) (.call "_law_toss" f__law_toss (.cons (.var 5) (.cons (.int 50) .nil)))) .nil))) (.call "_law_toss" f__law_toss (.cons (.var 5) (.cons (.int 2) .nil)))) .nil)))))
  (.cons (.fors (.nm 7) (.seq (.var 6)) fb_law_1)
  .nil)))
def b_law : Sms := (.cons (.fors (.nm 1) (.rng1 (.bi .max2 (.cons (.int 1) (.cons (.bi .min2 (.cons (.int 5) (.cons (.bi .len (.cons (.var 0) .nil)) .nil))) .nil)))) fb_law_2)
  tl_law_4)
def f_law : Fn := runDef 12 b_law
theorem c_law : ckDef N_law ["script"] ["range", "max", "min", "len"] b_law (topS 31) = true := by decide +kernel
end G4

namespace G4
open PySem PySem.Spec PyProof.Rows L2
local macro_rules
  | `(tactic| simp_arith [$as,*]) => `(tactic| simp -implicitDefEqProofs only [tl_table_of_1, tl_table_of_2, tl_table_of_3, tl_ways_of_1, tl_ways_of_2, tl__law_toss_1, tl__law_toss_2, tl__law_toss_3, tl__law_made_1, tl__law_made_2, tl__law_made_3, tl__law_made_4, tl__law_made_5, tl__law_made_6, tl__law_made_7, tl__law_made_8, tl__law_bent_1, tl__law_bent_2, tl__law_bent_3, tl__law_bent_4, tl__law_right_1, tl__law_right_2, tl_law_1, tl_law_2, tl_law_3, tl_law_4, tl_law_5, tl_law_6, ↓bnd_eq, ↓off_eq, ↓thn_eq, run_eq, fin_nx, fin_rt, fin_ex, S.hide, hideSl, exms, exm, ev, evT, evs, evOs, evo, evc, evSrc, evPar, hb_ok, hb_ex, ho_ok, ho_ex, ht_nx, ht_rt, ht_ex, tb_nx, tb_rt, tb_ex, hd_setB, hd_setT, hd_retT, D.flat, opd_d, opd_pl, opd_lst, opd_ex, val_d, val_lst, List.append_assoc, List.length_set, gc_push, gc_id, take_push, take_id, get_app0, get_app1, get_app2, isNew0, isNew1, isNew_int, isNew_str, isNew_bl, isNew_non, isNew_tup, isNew_lst, keep_un, keep_int, keep_bl, keep_non, keep_str, keep_scr, keep_obj, keep_own_lst, keep_own_dK, pureK_nil, keep_lst, keep_tup, D.unders, ne_succ, ne_succ1, eq_self, nodup2, nodup3, List.filterMap_cons, List.filterMap_nil, putPar, D.under, List.nodup_cons, List.mem_cons, List.not_mem_nil, or_self, or_false, Nat.reduceEqDiff, List.nodup_nil, true_and, and_true, bits10, Int.reduceMul, Int.reduceLE, Int.reduceLT, Int.reducePow, Int.reduceAdd, Int.reduceSub, Int.reduceNeg, Int.reduceToNat, val_dK, putTs_nil, putTs_nm, putTs_sub, val_ex, val_pl, valPl_lst, valPl_d, opt_some, toO_ok, toO_ex, asBl_ok, List.map_cons, List.map_nil, List.length_cons, List.length_nil, Nat.reduceAdd, Nat.reduceSub, Nat.zero_add, List.replicate, List.cons_append, List.nil_append, List.getElem?_cons_zero, List.getElem?_cons_succ, List.set_cons_zero, List.set_cons_succ, S.rd, S.rdD, S.store, OS.opt, Option.bind_some, Option.map_some, Cell.view, S.cell, S.isLst, S.isDct, S.rdDct, dgetV, dixV, augV, S.put, S.rdLst, cmpV, opCmp, opEq_str, opEq_int, opEq_bl, opEq_non, opEq_lst, opEq_tup, pures_app, eqv_int, eqv_bl, eqv_lst, eqv_tup, eqvs_nil, eqvs_ints, eqvs_cons, eqv_str, opIn_ints, unders_ints, set_app0, set_app1, binV, opBin, ixV, opIx, biV, biSem, biLen, biInt, biAbs, biMax2, biMin2, biSum, biAll, biAny, biList, biTuple, List.mapM_cons, List.mapM_nil, bind, pure, Option.bind, truV, D.tru, isiV, D.kind, Ty.sub, List.any_cons, List.any_nil, decide_true, decide_false, Int.cast_ofNat_Int, beq_self_eq_true, Bool.false_and, Bool.true_or, Bool.false_or, Bool.or_false, Bool.and_true, Bool.true_and, Bool.and_self, if_true, if_false, Bool.false_eq_true, reduceCtorEq, Bool.not_true, Bool.not_false, finish, D.pure, D.pures, Cell.pure, List.take_length, and_self, not_true_eq_false, not_false_eq_true, plain_int', plain_lst, plain_tup, plain_non, plain_bl, D.plainsN, pures_ints, plain_ints, List.length_map, List.length_append, at1, at2, at3, at4, at5, muV, muSem, muApp, setIx, S.fz, perm, List.getD_cons_zero, List.getD_cons_succ, $as,*])
def pcell (a b c : Int) : Cell := .lst [.int a, .int b, .int c]
theorem ix3 : ixN 3 0 = some 0 ∧ ixN 3 1 = some 1 ∧ ixN 3 2 = some 2 := ⟨rfl, rfl, rfl⟩
/-- a number of no more than 4000 bits or so -/
def Sm4 (i : Int) : Prop := 0 ≤ i ∧ i < 2 ^ 250
theorem Sm4.log {i : Int} (h : Sm4 i) : i.natAbs.log2 < 250 := by
  obtain ⟨h1, h2⟩ := h
  by_cases z : i.natAbs = 0
  · rw [z]; decide
  · refine (Nat.log2_lt z).mpr ?_
    have h3 : ((i.natAbs : Nat) : Int) = i := Int.natAbs_of_nonneg h1
    have h4 : ((i.natAbs : Nat) : Int) < ((2 ^ 250 : Nat) : Int) := by rw [h3]; exact_mod_cast h2
    exact Int.ofNat_lt.mp h4
theorem pow_ok {i : Int} (h : Sm4 i) : (Builtin.Int.intBits i : Int) * 3 ≤ 2 ^ 27 := by
  have := h.log
  unfold Builtin.Int.intBits
  split <;> omega
theorem toss_a {st : List Cell} {p : Nat} {a b c m : Int} (h : st[p]? = some (pcell a b c)) (hm : 0 < m) (hm2 : m.natAbs.log2 < 9000) (ha : 0 < a) : f__law_toss [.obj p, .int m] st = .ok (.d (.int (a % m))) (st.set p (pcell (a / m) b c)) := by
  unfold f__law_toss runDef
  simp only [b__law_toss, tl__law_toss_1, tl__law_toss_2, tl__law_toss_3, exms, exm, evT, ev, evs, evOs, b_ok, o_ok, t_nx, t_rt, opd_d, opd_pl, opd_lst, val_d, val_lst, opt_some, toO_ok, asBl_ok, List.map_cons, List.map_nil, List.length_cons, List.length_nil, List.cons_append, List.nil_append, List.replicate, List.getElem?_cons_zero, List.getElem?_cons_succ, ixV, S.rd, S.rdD, h, pcell, Option.bind_some, Cell.view,
    cmpV, opCmp, opIx, at3, ix3, Nat.reduceAdd, Option.map_some, ha, decide_true, if_true, biV, List.mapM_cons, List.mapM_nil, biSem, biInt, binV, opBin, hm, hm2, and_self, OS.opt, S.store, List.set_cons_succ, List.set_cons_zero, S.isLst, S.cell, setIx, S.put, Cell.pure, D.pures, D.pure, finish, Bool.true_or, bind, pure, Option.bind, Bool.and_self, Bool.and_true, List.length_set]
  rw [List.take_of_length_le (by simp)]
def tossX (b c : Int) : Int := (b + 50000017 * (c + 1)) ^ 3 % (10 ^ 45 + 9)
def tossV (b c : Int) : Int := ((tossX b c + 25000009 * (c + 1)) ^ 3 % (10 ^ 46 + 121)) / 1073741789
theorem toss_b {st : List Cell} {p : Nat} {a b c m : Int} (h : st[p]? = some (pcell a b c)) (hm : 0 < m) (ha : ¬ 0 < a) (hb : 0 ≤ b ∧ b < 2 ^ 200) (hc : 0 ≤ c ∧ c < 2 ^ 100) : f__law_toss [.obj p, .int m] st = .ok (.d (.int (tossV b c % m))) (st.set p (pcell a b (c + 1))) := by
  have hp : p < st.length := (List.getElem?_eq_some_iff.mp h).1
  have k1 : (50000017 : Int).natAbs.log2 + (c + 1).natAbs.log2 < 1000000 := by
    have := Sm4.log (i := c + 1) ⟨by omega, by omega⟩
    have e : (50000017 : Int).natAbs.log2 < 30 := by decide +kernel
    omega
  have k2 : (25000009 : Int).natAbs.log2 + (c + 1).natAbs.log2 < 1000000 := by
    have := Sm4.log (i := c + 1) ⟨by omega, by omega⟩
    have e : (25000009 : Int).natAbs.log2 < 30 := by decide +kernel
    omega
  have k3 : (Builtin.Int.intBits (b + 50000017 * (c + 1)) : Int) * 3 ≤ 2 ^ 27 := pow_ok ⟨by omega, by omega⟩
  have x1 : 0 ≤ tossX b c := Int.emod_nonneg _ (by decide)
  have x2 : tossX b c < 10 ^ 45 + 9 := Int.emod_lt_of_pos _ (by decide)
  have k4 : (Builtin.Int.intBits (tossX b c + 25000009 * (c + 1)) : Int) * 3 ≤ 2 ^ 27 := pow_ok ⟨by omega, by omega⟩
  have k5 : (0 : Int) ≤ 3 := by decide
  have k6 : (Builtin.Int.intBits 10 : Int) * 45 ≤ 2 ^ 27 := by decide +kernel
  have k7 : (Builtin.Int.intBits 10 : Int) * 46 ≤ 2 ^ 27 := by decide +kernel
  have k8 : (1073741789 : Int).natAbs.log2 < 9000 := by decide +kernel
  unfold tossX at k4
  unfold f__law_toss runDef
  simp only [b__law_toss, tl__law_toss_1, tl__law_toss_2, tl__law_toss_3, exms, exm, evT, ev, evs, evOs, b_ok, o_ok, t_nx, t_rt, opd_d, opd_pl, opd_lst, val_d, val_lst, opt_some, toO_ok, asBl_ok, List.map_cons, List.map_nil, List.length_cons, List.length_nil, List.cons_append, List.nil_append, List.replicate, List.getElem?_cons_zero, List.getElem?_cons_succ, ixV, S.rd, S.rdD, h, pcell, Option.bind_some, Cell.view,
    cmpV, opCmp, opIx, at3, ix3, Nat.reduceAdd, Option.map_some, ha, decide_true, decide_false, if_true, Bool.false_eq_true, if_false, biV, List.mapM_cons, List.mapM_nil, biSem, biInt, binV, opBin, hm, and_self, OS.opt, S.store, List.set_cons_succ, List.set_cons_zero, S.isLst, S.cell, setIx, S.put, Cell.pure, D.pures, D.pure, finish, Bool.true_or, bind, pure, Option.bind, Bool.and_self, Bool.and_true, List.length_set, List.getElem?_set_self hp,
    k1, k2, k3, k4, k5, k6, k7, k8, show (0 : Int) ≤ 45 by decide, show (0 : Int) ≤ 46 by decide, show Int.toNat 3 = 3 from rfl, show Int.toNat 45 = 45 from rfl, show Int.toNat 46 = 46 from rfl, show (0 : Int) < 10 ^ 45 + 9 by decide, show (0 : Int) < 10 ^ 46 + 121 by decide, show (0 : Int) < 1073741789 by decide]
  rw [List.take_of_length_le (by simp)]
  rfl
/-- a drawn number: some number below; the purse's counter rises by one at most -/
theorem toss_ok {st : List Cell} {p : Nat} {a b c m : Int} (h : st[p]? = some (pcell a b c)) (hm : 0 < m) (hm2 : m.natAbs.log2 < 9000) (hb : 0 ≤ b ∧ b < 2 ^ 200) (hc : 0 ≤ c ∧ c < 2 ^ 100) :
    ∃ r a' c', f__law_toss [.obj p, .int m] st = .ok (.d (.int r)) (st.set p (pcell a' b c')) ∧ 0 ≤ r ∧ r < m ∧ c ≤ c' ∧ c' ≤ c + 1 := by
  by_cases ha : 0 < a
  · exact ⟨_, _, _, toss_a h hm hm2 ha, Int.emod_nonneg _ (by omega), Int.emod_lt_of_pos _ hm, Int.le_refl _, by omega⟩
  · exact ⟨_, _, _, toss_b h hm ha hb hc, Int.emod_nonneg _ (by omega), Int.emod_lt_of_pos _ hm, by omega, Int.le_refl _⟩

end G4

namespace G4
open PySem PySem.Spec PyProof.Rows L2
local macro_rules
  | `(tactic| simp_arith [$as,*]) => `(tactic| simp -implicitDefEqProofs only [tl_table_of_1, tl_table_of_2, tl_table_of_3, tl_ways_of_1, tl_ways_of_2, tl__law_toss_1, tl__law_toss_2, tl__law_toss_3, tl__law_made_1, tl__law_made_2, tl__law_made_3, tl__law_made_4, tl__law_made_5, tl__law_made_6, tl__law_made_7, tl__law_made_8, tl__law_bent_1, tl__law_bent_2, tl__law_bent_3, tl__law_bent_4, tl__law_right_1, tl__law_right_2, tl_law_1, tl_law_2, tl_law_3, tl_law_4, tl_law_5, tl_law_6, ↓bnd_eq, ↓off_eq, ↓thn_eq, run_eq, fin_nx, fin_rt, fin_ex, S.hide, hideSl, exms, exm, ev, evT, evs, evOs, evo, evc, evSrc, evPar, hb_ok, hb_ex, ho_ok, ho_ex, ht_nx, ht_rt, ht_ex, tb_nx, tb_rt, tb_ex, hd_setB, hd_setT, hd_retT, D.flat, opd_d, opd_pl, opd_lst, opd_ex, val_d, val_lst, List.append_assoc, List.length_set, gc_push, gc_id, take_push, take_id, get_app0, get_app1, get_app2, isNew0, isNew1, isNew_int, isNew_str, isNew_bl, isNew_non, isNew_tup, isNew_lst, keep_un, keep_int, keep_bl, keep_non, keep_str, keep_scr, keep_obj, keep_own_lst, keep_own_dK, pureK_nil, keep_lst, keep_tup, D.unders, ne_succ, ne_succ1, eq_self, nodup2, nodup3, List.filterMap_cons, List.filterMap_nil, putPar, D.under, List.nodup_cons, List.mem_cons, List.not_mem_nil, or_self, or_false, Nat.reduceEqDiff, List.nodup_nil, true_and, and_true, bits10, Int.reduceMul, Int.reduceLE, Int.reduceLT, Int.reducePow, Int.reduceAdd, Int.reduceSub, Int.reduceNeg, Int.reduceToNat, val_dK, putTs_nil, putTs_nm, putTs_sub, val_ex, val_pl, valPl_lst, valPl_d, opt_some, toO_ok, toO_ex, asBl_ok, List.map_cons, List.map_nil, List.length_cons, List.length_nil, Nat.reduceAdd, Nat.reduceSub, Nat.zero_add, List.replicate, List.cons_append, List.nil_append, List.getElem?_cons_zero, List.getElem?_cons_succ, List.set_cons_zero, List.set_cons_succ, S.rd, S.rdD, S.store, OS.opt, Option.bind_some, Option.map_some, Cell.view, S.cell, S.isLst, S.isDct, S.rdDct, dgetV, dixV, augV, S.put, S.rdLst, cmpV, opCmp, opEq_str, opEq_int, opEq_bl, opEq_non, opEq_lst, opEq_tup, pures_app, eqv_int, eqv_bl, eqv_lst, eqv_tup, eqvs_nil, eqvs_ints, eqvs_cons, eqv_str, opIn_ints, unders_ints, set_app0, set_app1, binV, opBin, ixV, opIx, biV, biSem, biLen, biInt, biAbs, biMax2, biMin2, biSum, biAll, biAny, biList, biTuple, List.mapM_cons, List.mapM_nil, bind, pure, Option.bind, truV, D.tru, isiV, D.kind, Ty.sub, List.any_cons, List.any_nil, decide_true, decide_false, Int.cast_ofNat_Int, beq_self_eq_true, Bool.false_and, Bool.true_or, Bool.false_or, Bool.or_false, Bool.and_true, Bool.true_and, Bool.and_self, if_true, if_false, Bool.false_eq_true, reduceCtorEq, Bool.not_true, Bool.not_false, finish, D.pure, D.pures, Cell.pure, List.take_length, and_self, not_true_eq_false, not_false_eq_true, plain_int', plain_lst, plain_tup, plain_non, plain_bl, D.plainsN, pures_ints, plain_ints, List.length_map, List.length_append, at1, at2, at3, at4, at5, muV, muSem, muApp, setIx, S.fz, perm, List.getD_cons_zero, List.getD_cons_succ, $as,*])
theorem purse_ok {st : List Cell} {ns : List Int} {k : Nat} (hk : k ≤ 63) : ∃ a b, f__law_purse [.scr ns, .int k] st = .ok (.new (pcell a b 0)) st ∧ 0 ≤ b ∧ b < 2 ^ 160 := by
  obtain ⟨x, hx⟩ : ∃ x : Int, ∀ s : S, s.sl[0]? = some (.d (.scr ns)) → s.sl[1]? = some (.d (.int k)) → ev (.ifx (.cmp .Lt (.var 1) (.bi .len (.cons (.var 0) .nil))) (.ix (.var 0) (.var 1)) (.int 0)) s = .ok (.d (.int x)) s := by
    by_cases h : k < ns.length
    · refine ⟨ns[k], fun s h0 h1 => ?_⟩
      have e1 : decide ((k : Int) < (ns.length : Int)) = true := decide_eq_true (by omega)
      have e2 : atI ns (k : Int) = some ns[k] := atI_nat (List.getElem?_eq_getElem h)
      simp only [ev_ifx, evT, ev_bi, evOs, ev_ix, ev_var, h0, h1, opd_d, b_ok, biV, List.mapM_cons, List.mapM_nil, S.rd, S.rdD, bind, pure, Option.bind, biSem, biLen, opt_some, cmpV, opCmp, e1, if_true, ixV, opIx, e2, Option.map_some]
    · refine ⟨0, fun s h0 h1 => ?_⟩
      have e1 : decide ((k : Int) < (ns.length : Int)) = false := decide_eq_false (by omega)
      simp only [ev_ifx, evT, ev_bi, evOs, ev_int, ev_var, h0, h1, opd_d, b_ok, biV, List.mapM_cons, List.mapM_nil, S.rd, S.rdD, bind, pure, Option.bind, biSem, biLen, opt_some, cmpV, opCmp, e1, Bool.false_eq_true, if_false]
  have e0 := hx ⟨[SV.d (.scr ns), .d (.int k), .un], st⟩ rfl rfl
  have m0 : 0 ≤ x % (10 ^ 41 + 37) := Int.emod_nonneg _ (by decide)
  have m1 : x % (10 ^ 41 + 37) < 10 ^ 41 + 37 := Int.emod_lt_of_pos _ (by decide)
  have k1 : (x % (10 ^ 41 + 37)).natAbs.log2 + (89 : Int).natAbs.log2 < 1000000 := by
    have := Sm4.log (i := x % (10 ^ 41 + 37)) ⟨m0, by omega⟩
    have e : (89 : Int).natAbs.log2 < 10 := by decide +kernel
    omega
  have k2 : (60013 : Int).natAbs.log2 + (k : Int).natAbs.log2 < 1000000 := by
    have := Sm4.log (i := (k : Int)) ⟨by omega, by omega⟩
    have e : (60013 : Int).natAbs.log2 < 20 := by decide +kernel
    omega
  refine ⟨if (if x < 0 then -x else x) - 10 ^ 18 > 0 then (if x < 0 then -x else x) - 10 ^ 18 else 0, x % (10 ^ 41 + 37) * 89 + 60013 * k, ?_, by omega, by omega⟩
  unfold f__law_purse runDef
  simp only [b__law_purse, exms, exm, e0, List.map_cons, List.map_nil, List.length_cons, List.length_nil, Nat.reduceAdd, Nat.reduceSub, List.replicate, List.cons_append, List.nil_append, Nat.zero_add, o_ok, OS.opt, S.store, List.set_cons_succ, List.set_cons_zero, t_nx, ev_lst, evs, ev_bi, evOs, ev_bin, ev_int, ev_var, List.getElem?_cons_zero, List.getElem?_cons_succ, opd_d, val_d, b_ok, biV, List.mapM_cons, List.mapM_nil, S.rd, S.rdD, bind, pure, Option.bind, biSem, biMax2, biAbs, biInt, opt_some, binV, opBin, k1, k2, show (0 : Int) ≤ 18 by decide, show (0 : Int) ≤ 41 by decide, show (Builtin.Int.intBits 10 : Int) * 18 ≤ 2 ^ 27 by decide +kernel, show (Builtin.Int.intBits 10 : Int) * 41 ≤ 2 ^ 27 by decide +kernel, and_self, if_true, show Int.toNat 18 = 18 from rfl, show Int.toNat 41 = 41 from rfl, show (0 : Int) < 10 ^ 41 + 37 by decide, t_rt, finish, Cell.pure, D.pures, D.pure, Bool.and_self, List.take_length, pcell]

end G4

namespace G4
open PySem PySem.Spec PyProof.Rows L2
local macro_rules
  | `(tactic| simp_arith [$as,*]) => `(tactic| simp -implicitDefEqProofs only [tl_table_of_1, tl_table_of_2, tl_table_of_3, tl_ways_of_1, tl_ways_of_2, tl__law_toss_1, tl__law_toss_2, tl__law_toss_3, tl__law_made_1, tl__law_made_2, tl__law_made_3, tl__law_made_4, tl__law_made_5, tl__law_made_6, tl__law_made_7, tl__law_made_8, tl__law_bent_1, tl__law_bent_2, tl__law_bent_3, tl__law_bent_4, tl__law_right_1, tl__law_right_2, tl_law_1, tl_law_2, tl_law_3, tl_law_4, tl_law_5, tl_law_6, ↓bnd_eq, ↓off_eq, ↓thn_eq, run_eq, fin_nx, fin_rt, fin_ex, S.hide, hideSl, exms, exm, ev, evT, evs, evOs, evo, evc, evSrc, evPar, hb_ok, hb_ex, ho_ok, ho_ex, ht_nx, ht_rt, ht_ex, tb_nx, tb_rt, tb_ex, hd_setB, hd_setT, hd_retT, D.flat, opd_d, opd_pl, opd_lst, opd_ex, val_d, val_lst, List.append_assoc, List.length_set, gc_push, gc_id, take_push, take_id, get_app0, get_app1, get_app2, isNew0, isNew1, isNew_int, isNew_str, isNew_bl, isNew_non, isNew_tup, isNew_lst, keep_un, keep_int, keep_bl, keep_non, keep_str, keep_scr, keep_obj, keep_own_lst, keep_own_dK, pureK_nil, keep_lst, keep_tup, D.unders, ne_succ, ne_succ1, eq_self, nodup2, nodup3, List.filterMap_cons, List.filterMap_nil, putPar, D.under, List.nodup_cons, List.mem_cons, List.not_mem_nil, or_self, or_false, Nat.reduceEqDiff, List.nodup_nil, true_and, and_true, bits10, Int.reduceMul, Int.reduceLE, Int.reduceLT, Int.reducePow, Int.reduceAdd, Int.reduceSub, Int.reduceNeg, Int.reduceToNat, val_dK, putTs_nil, putTs_nm, putTs_sub, val_ex, val_pl, valPl_lst, valPl_d, opt_some, toO_ok, toO_ex, asBl_ok, List.map_cons, List.map_nil, List.length_cons, List.length_nil, Nat.reduceAdd, Nat.reduceSub, Nat.zero_add, List.replicate, List.cons_append, List.nil_append, List.getElem?_cons_zero, List.getElem?_cons_succ, List.set_cons_zero, List.set_cons_succ, S.rd, S.rdD, S.store, OS.opt, Option.bind_some, Option.map_some, Cell.view, S.cell, S.isLst, S.isDct, S.rdDct, dgetV, dixV, augV, S.put, S.rdLst, cmpV, opCmp, opEq_str, opEq_int, opEq_bl, opEq_non, opEq_lst, opEq_tup, pures_app, eqv_int, eqv_bl, eqv_lst, eqv_tup, eqvs_nil, eqvs_ints, eqvs_cons, eqv_str, opIn_ints, unders_ints, set_app0, set_app1, binV, opBin, ixV, opIx, biV, biSem, biLen, biInt, biAbs, biMax2, biMin2, biSum, biAll, biAny, biList, biTuple, List.mapM_cons, List.mapM_nil, bind, pure, Option.bind, truV, D.tru, isiV, D.kind, Ty.sub, List.any_cons, List.any_nil, decide_true, decide_false, Int.cast_ofNat_Int, beq_self_eq_true, Bool.false_and, Bool.true_or, Bool.false_or, Bool.or_false, Bool.and_true, Bool.true_and, Bool.and_self, if_true, if_false, Bool.false_eq_true, reduceCtorEq, Bool.not_true, Bool.not_false, finish, D.pure, D.pures, Cell.pure, List.take_length, and_self, not_true_eq_false, not_false_eq_true, plain_int', plain_lst, plain_tup, plain_non, plain_bl, D.plainsN, pures_ints, plain_ints, List.length_map, List.length_append, at1, at2, at3, at4, at5, muV, muSem, muApp, setIx, S.fz, perm, List.getD_cons_zero, List.getD_cons_succ, $as,*])
/-! ### clubs -/
structure Mem where
  d : Int
  w : Bool
  n : Int
def wd (w : Bool) : Str := if w then "brought" else "alone"
def Mem.D (m : Mem) : D := .tup [.int m.d, .str (wd m.w), .int m.n]
def clubD (c : List Mem) : D := .lst (c.map Mem.D)
theorem wd_br (w : Bool) : decide (wd w = "brought") = w := by cases w <;> decide +kernel
theorem wd_al (w : Bool) : decide (wd w = "alone") = !w := by cases w <;> decide +kernel
theorem plain_wd (n : Nat) (w : Bool) : D.plainN n (.str (wd w)) = true := by cases w <;> cases n <;> exact (show strOk _ = true by decide +kernel)
theorem plain_br (n : Nat) : D.plainN n (.str "brought") = true := by cases n <;> exact (show strOk _ = true by decide +kernel)
theorem plain_al (n : Nat) : D.plainN n (.str "alone") = true := by cases n <;> exact (show strOk _ = true by decide +kernel)
theorem Mem.plain (n : Nat) (m : Mem) : D.plainN (n + 1) m.D = true := by
  simp only [Mem.D, plain_tup, D.plainsN, plain_int', plain_wd, Bool.and_self]
theorem plain_mems (n : Nat) (c : List Mem) : D.plainsN (n + 1) (c.map Mem.D) = true := (plainsN_iff _ _).mpr fun d hd => by
  obtain ⟨m, _, rfl⟩ := List.mem_map.mp hd
  exact m.plain n
theorem plain_club (n : Nat) (c : List Mem) : D.plainN (n + 2) (clubD c) = true := plain_mems n c
theorem Mem.pure (m : Mem) : D.pure m.D = true := by simp only [Mem.D, D.pure, D.pures, Bool.and_self]
theorem pure_mems (c : List Mem) : D.pures (c.map Mem.D) = true := by
  induction c with
  | nil => rfl
  | cons m c ih => rw [List.map_cons, D.pures, m.pure, ih]; rfl
theorem pure_club (c : List Mem) : D.pure (clubD c) = true := pure_mems c
def slotsB (c : List Mem) (t : Int) : Int := ((c.filter fun m => decide (m.d < t)).map (·.n)).sum
def cntB (c : List Mem) (t : Int) : Nat := (c.filter fun m => decide (m.d < t) && m.w).length
def cntL (c : List Mem) (t : Int) : Nat := (c.filter fun m => decide (m.d ≤ t) && m.w).length
section
variable {st : List Cell} {c : List Mem} {t : Int}
theorem is_integer_int (i : Int) : f_is_integer [.int i] st = .ok (.d (.bl true)) st := by
  unfold f_is_integer
  simp_arith [b_is_integer]
theorem is_count_ok {i : Int} (h : 0 ≤ i ∧ i ≤ 10 ^ 30) : f_is_count [.int i] st = .ok (.d (.bl true)) st := by
  have h1 := h.1
  have h2 : i ≤ 1000000000000000000000000000000 := h.2
  unfold f_is_count
  simp_arith [b_is_count, is_integer_int, k_MOST_NUMBER, h1, h2]
/-- a member that may be told -/
def Mem.ok (m : Mem) : Prop := (0 ≤ m.d ∧ m.d ≤ 10 ^ 30) ∧ (0 ≤ m.n ∧ m.n ≤ 10 ^ 30)
abbrev WORDS : D := .tup [.str "alone", .str "brought"]
theorem words_in (w : Bool) : opIn (.str (wd w)) WORDS = some true := by cases w <;> decide +kernel
theorem is_told_ok {m : Mem} (h : m.ok) : f_is_told_member [m.D, WORDS] st = .ok (.d (.bl true)) st := by
  unfold f_is_told_member
  simp_arith [b_is_told_member, Mem.D, is_count_ok h.1, is_count_ok h.2, words_in]
theorem all_told (hc : ∀ m ∈ c, m.ok) (hl : c.length ≤ 1000) : ev lc_is_club_of_2 ⟨[SV.d (clubD c), .d WORDS, .un, .un, .un], st⟩ = .ok (.new (.lst ((c.map fun _ => true).map .bl))) ⟨[SV.d (clubD c), .d WORDS, .un, .un, .un], st⟩ := by
  rw [List.map_map]
  refine lc_map c Mem.D (fun _ => .bl true) ?_ (big_le (by omega)) rfl fun m hm => ⟨_, rfl, rfl, ?_⟩
  · simp_arith [clubD]
  · simp_arith [is_told_ok (hc m hm)]
/-- in the sequence of days -/
def Asc (c : List Mem) : Prop := c.Pairwise fun a b => a.d ≤ b.d
theorem zip_pairs : ∀ c : List Mem, zipD (c.map Mem.D) ((c.drop 1).map Mem.D) = (c.zip (c.drop 1)).map fun p => .tup [p.1.D, p.2.D]
  | [] => rfl
  | [a] => rfl
  | a :: b :: r => by
    have := zip_pairs (b :: r)
    simp only [List.drop_succ_cons, List.drop_zero, List.map_cons, zipD, List.zip_cons_cons] at this ⊢
    rw [this]
theorem zip_asc : ∀ (c : List Mem), Asc c → ∀ p ∈ c.zip (c.drop 1), p.1.d ≤ p.2.d
  | [], _, x, hx => by simp at hx
  | [a], _, x, hx => by simp at hx
  | a :: b :: r, h, x, hx => by
    obtain ⟨h1, h2⟩ := List.pairwise_cons.mp h
    simp only [List.drop_succ_cons, List.drop_zero, List.zip_cons_cons, List.mem_cons] at hx
    rcases hx with rfl | hx
    · exact h1 b List.mem_cons_self
    · exact zip_asc (b :: r) h2 x (by simpa using hx)
theorem all_asc (hc : Asc c) (hl : c.length ≤ 1000) : ev lc_is_club_of_1 ⟨[SV.d (clubD c), .d WORDS, .un, .un, .un], st⟩ = .ok (.new (.lst (((c.zip (c.drop 1)).map fun _ => true).map .bl))) ⟨[SV.d (clubD c), .d WORDS, .un, .un, .un], st⟩ := by
  rw [List.map_map]
  refine lc_map (c.zip (c.drop 1)) (fun p => .tup [p.1.D, p.2.D]) (fun _ => .bl true) ?_ (big_le (by rw [List.length_zip]; omega)) rfl fun p hp => ⟨_, rfl, rfl, ?_⟩
  · simp_arith [clubD, opSl, cut1, ← List.map_drop, zip_pairs]
  · have h := zip_asc c hc p hp
    simp_arith [Mem.D, h]
/-- a club -/
structure Club (c : List Mem) : Prop where
  some : c ≠ []
  few : c.length ≤ 60
  ok : ∀ m ∈ c, m.ok
  asc : Asc c
theorem all_trues {α : Type} (l : List α) : (l.map fun _ => true).all id = true := by simp
theorem is_club_of_ok (h : Club c) : f_is_club_of [clubD c, WORDS] st = .ok (.d (.bl true)) st := by
  have l1 : ((1 : Int) ≤ (c.length : Int)) := by
    have := List.length_pos_iff.mpr h.some
    omega
  have l2 : ((c.length : Int) ≤ 60) := by have := h.few; omega
  have e1 := all_told (st := st) h.ok (by have := h.few; omega)
  have e2 := all_asc (st := st) h.asc (by have := h.few; omega)
  unfold clubD at e1 e2
  unfold f_is_club_of
  simp_arith [b_is_club_of, k_MOST_MEMBERS, clubD, e1, e2, l1, l2, blsD_map, all_trues]
theorem need_club_ok (h : Club c) : f_need_club [clubD c] st = .ok (.d .non) st := by
  unfold f_need_club
  simp_arith [b_need_club, k_WORDS, is_club_of_ok h]
end
theorem Mem.fits {m : Mem} (h : m.ok) : m.D.shows = true ∧ m.D.cost ≤ 600 := by
  obtain ⟨a1, a2⟩ := fit_int (i := m.d) ⟨by have := h.1; omega, by have := h.1; omega⟩
  obtain ⟨b1, b2⟩ := fit_int (i := m.n) ⟨by have := h.2; omega, by have := h.2; omega⟩
  have w2 : (D.str (wd m.w)).cost ≤ 20 := by
    show (reprText (wd m.w)).length ≤ 20
    cases m.w <;> decide +kernel
  refine ⟨?_, ?_⟩
  · show ((D.int m.d).shows && (true && ((D.int m.n).shows && true))) = true
    rw [a1, b1]; rfl
  · show ((D.int m.d).cost + 2 + ((D.str (wd m.w)).cost + 2 + ((D.int m.n).cost + 2 + 0))) + 3 ≤ 600
    omega
theorem club_fits {c : List Mem} (h : Club c) : D.showss (c.map Mem.D) = true ∧ D.costs (c.map Mem.D) ≤ 100000 := by
  have := fit_list (k := 600) (c.map Mem.D) fun d hd => by
    obtain ⟨m, hm, rfl⟩ := List.mem_map.mp hd
    exact Mem.fits (h.ok m hm)
  rw [List.length_map] at this
  refine ⟨this.1, ?_⟩
  have h1 := this.2
  have := h.few
  have : (600 + 2) * c.length ≤ 602 * 60 := Nat.mul_le_mul_left 602 this
  omega
theorem repr_club {c : List Mem} (h : Club c) : biRepr [.lst (c.map Mem.D)] = some (.d (.str (toPD (clubD c)).shown)) :=
  repr_lst (plain_mems 58 c) (club_fits h).1 (Nat.le_trans (club_fits h).2 (by omega))
theorem unders_mems (n : Nat) (c : List Mem) : D.unders n (c.map Mem.D) = true := (unders_iff n _).mpr fun d hd => by
  obtain ⟨m, _, rfl⟩ := List.mem_map.mp hd
  simp only [Mem.D, D.under, D.unders, Bool.and_self]
/-- a member by its place -/
def mAt (c : List Mem) (i : Nat) : Mem := c.getD i ⟨0, false, 0⟩
theorem mAt_get {c : List Mem} {i : Nat} (h : i < c.length) : (c.map Mem.D)[i]? = some (mAt c i).D := by
  rw [List.getElem?_map, List.getElem?_eq_getElem h, mAt, List.getD_eq_getElem?_getD, List.getElem?_eq_getElem h]; rfl
theorem mAt_at {c : List Mem} {i : Nat} (h : i < c.length) : atI (c.map Mem.D) (i : Int) = some (mAt c i).D := atI_nat (mAt_get h)
theorem mAt_int {c : List Mem} {b : Int} (h0 : 0 ≤ b) (h : b < c.length) : atI (c.map Mem.D) b = some (mAt c b.toNat).D := by
  have := mAt_at (c := c) (i := b.toNat) (by omega)
  rwa [Int.toNat_of_nonneg h0] at this

end G4

namespace G4
open PySem PySem.Spec PyProof.Rows L2
local macro_rules
  | `(tactic| simp_arith [$as,*]) => `(tactic| simp -implicitDefEqProofs only [tl_table_of_1, tl_table_of_2, tl_table_of_3, tl_ways_of_1, tl_ways_of_2, tl__law_toss_1, tl__law_toss_2, tl__law_toss_3, tl__law_made_1, tl__law_made_2, tl__law_made_3, tl__law_made_4, tl__law_made_5, tl__law_made_6, tl__law_made_7, tl__law_made_8, tl__law_bent_1, tl__law_bent_2, tl__law_bent_3, tl__law_bent_4, tl__law_right_1, tl__law_right_2, tl_law_1, tl_law_2, tl_law_3, tl_law_4, tl_law_5, tl_law_6, ↓bnd_eq, ↓off_eq, ↓thn_eq, run_eq, fin_nx, fin_rt, fin_ex, S.hide, hideSl, exms, exm, ev, evT, evs, evOs, evo, evc, evSrc, evPar, hb_ok, hb_ex, ho_ok, ho_ex, ht_nx, ht_rt, ht_ex, tb_nx, tb_rt, tb_ex, hd_setB, hd_setT, hd_retT, D.flat, opd_d, opd_pl, opd_lst, opd_ex, val_d, val_lst, List.append_assoc, List.length_set, gc_push, gc_id, take_push, take_id, get_app0, get_app1, get_app2, isNew0, isNew1, isNew_int, isNew_str, isNew_bl, isNew_non, isNew_tup, isNew_lst, keep_un, keep_int, keep_bl, keep_non, keep_str, keep_scr, keep_obj, keep_own_lst, keep_own_dK, pureK_nil, keep_lst, keep_tup, D.unders, ne_succ, ne_succ1, eq_self, nodup2, nodup3, List.filterMap_cons, List.filterMap_nil, putPar, D.under, List.nodup_cons, List.mem_cons, List.not_mem_nil, or_self, or_false, Nat.reduceEqDiff, List.nodup_nil, true_and, and_true, bits10, Int.reduceMul, Int.reduceLE, Int.reduceLT, Int.reducePow, Int.reduceAdd, Int.reduceSub, Int.reduceNeg, Int.reduceToNat, val_dK, putTs_nil, putTs_nm, putTs_sub, val_ex, val_pl, valPl_lst, valPl_d, opt_some, toO_ok, toO_ex, asBl_ok, List.map_cons, List.map_nil, List.length_cons, List.length_nil, Nat.reduceAdd, Nat.reduceSub, Nat.zero_add, List.replicate, List.cons_append, List.nil_append, List.getElem?_cons_zero, List.getElem?_cons_succ, List.set_cons_zero, List.set_cons_succ, S.rd, S.rdD, S.store, OS.opt, Option.bind_some, Option.map_some, Cell.view, S.cell, S.isLst, S.isDct, S.rdDct, dgetV, dixV, augV, S.put, S.rdLst, cmpV, opCmp, opEq_str, opEq_int, opEq_bl, opEq_non, opEq_lst, opEq_tup, pures_app, eqv_int, eqv_bl, eqv_lst, eqv_tup, eqvs_nil, eqvs_ints, eqvs_cons, eqv_str, opIn_ints, unders_ints, set_app0, set_app1, binV, opBin, ixV, opIx, biV, biSem, biLen, biInt, biAbs, biMax2, biMin2, biSum, biAll, biAny, biList, biTuple, List.mapM_cons, List.mapM_nil, bind, pure, Option.bind, truV, D.tru, isiV, D.kind, Ty.sub, List.any_cons, List.any_nil, decide_true, decide_false, Int.cast_ofNat_Int, beq_self_eq_true, Bool.false_and, Bool.true_or, Bool.false_or, Bool.or_false, Bool.and_true, Bool.true_and, Bool.and_self, if_true, if_false, Bool.false_eq_true, reduceCtorEq, Bool.not_true, Bool.not_false, finish, D.pure, D.pures, Cell.pure, List.take_length, and_self, not_true_eq_false, not_false_eq_true, plain_int', plain_lst, plain_tup, plain_non, plain_bl, D.plainsN, pures_ints, plain_ints, List.length_map, List.length_append, at1, at2, at3, at4, at5, muV, muSem, muApp, setIx, S.fz, perm, List.getD_cons_zero, List.getD_cons_succ, $as,*])
/-! ### made clubs: plain law -/
def obD : Option Nat → D
  | none => .non
  | some b => .int b
def numsOf (n : Nat) (w : List (Option Nat)) : List Int := (List.range n).map fun i => ((w.count (some i) : Nat) : Int)
theorem numsOf_none (n : Nat) (w : List (Option Nat)) : numsOf n (w ++ [none]) = numsOf n w := by
  unfold numsOf
  refine List.map_congr_left fun i _ => ?_
  rw [List.count_append]
  simp
theorem numsOf_get {n i : Nat} (w : List (Option Nat)) (h : i < n) : (numsOf n w)[i]? = some ((w.count (some i) : Nat) : Int) := by
  unfold numsOf
  rw [List.getElem?_map, List.getElem?_range h]; rfl
theorem numsOf_len (n : Nat) (w : List (Option Nat)) : (numsOf n w).length = n := by simp [numsOf]
theorem numsOf_some {n o : Nat} (w : List (Option Nat)) (h : o < n) : (numsOf n w).set o (((w.count (some o) : Nat) : Int) + 1) = numsOf n (w ++ [some o]) := by
  apply List.ext_getElem?
  intro i
  by_cases hi : i < n
  · rw [numsOf_get _ hi]
    by_cases e : o = i
    · subst e
      rw [List.getElem?_set_self (by rw [numsOf_len]; exact h), List.count_append]
      simp
    · rw [List.getElem?_set_ne e, numsOf_get _ hi, List.count_append]
      simp [e]
  · rw [List.getElem?_eq_none (by rw [List.length_set, numsOf_len]; omega), List.getElem?_eq_none (by rw [numsOf_len]; omega)]
/-- what is made so far -/
structure MadeI (rows : List Int) (w : List (Option Nat)) (t : Int) : Prop where
  asc : rows.Pairwise (· ≤ ·)
  all : ∀ d ∈ rows, 0 ≤ d ∧ d ≤ t
  len : w.length = rows.length
  br : ∀ i b : Nat, w[i]? = some (some b) → ∃ db di, rows[b]? = some db ∧ rows[i]? = some di ∧ db < di
theorem MadeI.push {rows : List Int} {w : List (Option Nat)} {t t' : Int} (h : MadeI rows w t) (ht : t ≤ t') (h0 : 0 ≤ t) (o : Option Nat) (ho : ∀ b, o = some b → ∃ db, rows[b]? = some db ∧ db < t') : MadeI (rows ++ [t']) (w ++ [o]) t' := by
  refine ⟨?_, ?_, by simp [h.len], fun i b q => ?_⟩
  · rw [List.pairwise_append]
    refine ⟨h.asc, by simp, fun a ha b hb => ?_⟩
    rw [List.mem_singleton.mp hb]
    have := (h.all a ha).2; omega
  · intro d hd
    rcases List.mem_append.mp hd with hd | hd
    · have := h.all d hd; omega
    · rw [List.mem_singleton.mp hd]; omega
  · by_cases hi : i < w.length
    · rw [List.getElem?_append_left hi] at q
      obtain ⟨db, di, h1, h2, h3⟩ := h.br i b q
      refine ⟨db, di, ?_, ?_, h3⟩
      · rw [List.getElem?_append_left (List.getElem?_eq_some_iff.mp h1).1]; exact h1
      · rw [List.getElem?_append_left (List.getElem?_eq_some_iff.mp h2).1]; exact h2
    · have e : i = w.length := by
        have := (List.getElem?_eq_some_iff.mp q).1
        simp at this; omega
      subst e
      rw [List.getElem?_concat_length] at q
      obtain ⟨db, h1, h2⟩ := ho b (Option.some.inj q)
      refine ⟨db, t', ?_, ?_, h2⟩
      · rw [List.getElem?_append_left (List.getElem?_eq_some_iff.mp h1).1]; exact h1
      · rw [h.len, List.getElem?_concat_length]
def mkC : List Int → List (Option Nat) → List Int → List Mem
  | d :: r, b :: w, n :: m => ⟨d, b.isSome, n⟩ :: mkC r w m
  | _, _, _ => []
theorem mkC_zip : ∀ (r : List Int) (w : List (Option Nat)) (m : List Int), zip3D (r.map D.int) (w.map fun o => .str (wd o.isSome)) (m.map D.int) = (mkC r w m).map Mem.D
  | [], w, m => by simp [zip3D, mkC]
  | d :: r, [], m => by simp [zip3D, mkC]
  | d :: r, b :: w, [] => by simp [zip3D, mkC]
  | d :: r, b :: w, n :: m => by
    rw [List.map_cons, List.map_cons, List.map_cons, zip3D, mkC_zip r w m]; rfl
theorem mkC_get : ∀ (r : List Int) (w : List (Option Nat)) (m : List Int), w.length = r.length → m.length = r.length → ∀ (i : Nat) (x : Mem), (mkC r w m)[i]? = some x → ∃ b, r[i]? = some x.d ∧ w[i]? = some b ∧ x.w = b.isSome ∧ m[i]? = some x.n
  | [], [], [], _, _, i, x, h => by simp [mkC] at h
  | d :: r, b :: w, n :: m, h1, h2, 0, x, h => by
    simp [mkC] at h
    subst h
    exact ⟨b, rfl, rfl, rfl, rfl⟩
  | d :: r, b :: w, n :: m, h1, h2, i + 1, x, h => mkC_get r w m (by simpa using h1) (by simpa using h2) i x (by simpa [mkC] using h)
theorem mkC_len : ∀ (r : List Int) (w : List (Option Nat)) (m : List Int), w.length = r.length → m.length = r.length → (mkC r w m).length = r.length
  | [], [], [], _, _ => rfl
  | d :: r, b :: w, n :: m, h1, h2 => by rw [mkC, List.length_cons, List.length_cons, mkC_len r w m (by simpa using h1) (by simpa using h2)]
theorem mkC_days : ∀ (r : List Int) (w : List (Option Nat)) (m : List Int), w.length = r.length → m.length = r.length → (mkC r w m).map (·.d) = r
  | [], [], [], _, _ => rfl
  | d :: r, b :: w, n :: m, h1, h2 => by rw [mkC, List.map_cons, mkC_days r w m (by simpa using h1) (by simpa using h2)]
/-- a way of a club -/
structure IsWay (c : List Mem) (w : List (Option Nat)) : Prop where
  len : w.length = c.length
  br : ∀ (i b : Nat), w[i]? = some (some b) → ∃ x y, c[b]? = some x ∧ c[i]? = some y ∧ x.d < y.d
  mem : ∀ (i : Nat) (x : Mem) (o : Option Nat), c[i]? = some x → w[i]? = some o → x.w = o.isSome
  cnt : ∀ (i : Nat) (x : Mem), c[i]? = some x → x.n = (w.count (some i) : Nat)
theorem made_way {rows : List Int} {w : List (Option Nat)} {t : Int} (h : MadeI rows w t) (n : Nat) (hn : rows.length = n) (h1 : 1 ≤ n) (h2 : n ≤ 60) (ht : t ≤ 10 ^ 30) :
    Club (mkC rows w (numsOf n w)) ∧ IsWay (mkC rows w (numsOf n w)) w ∧ (mkC rows w (numsOf n w)).length = n ∧ ∀ x ∈ mkC rows w (numsOf n w), x.n ≤ 60 := by
  have l1 : (numsOf n w).length = rows.length := by rw [numsOf_len, hn]
  have L := mkC_len rows w (numsOf n w) h.len l1
  have G := mkC_get rows w (numsOf n w) h.len l1
  have hcnt : ∀ i : Nat, w.count (some i) ≤ 60 := fun i => by
    have := List.count_le_length (a := some i) (l := w)
    have := h.len
    omega
  have N : ∀ (i : Nat) (x : Mem), (mkC rows w (numsOf n w))[i]? = some x → x.n = (w.count (some i) : Nat) := fun i x hx => by
    obtain ⟨b, _, _, _, h4⟩ := G i x hx
    have hi := (List.getElem?_eq_some_iff.mp hx).1
    rw [L, hn] at hi
    rw [numsOf_get w hi] at h4
    exact (Option.some.inj h4).symm
  refine ⟨⟨fun e => ?_, by rw [L, hn]; exact h2, fun m hm => ?_, ?_⟩, ⟨by rw [L, h.len], fun i b q => ?_, fun i x o hx ho => ?_, N⟩, by rw [L, hn], fun x hx => ?_⟩
  · rw [e] at L; simp at L; omega
  · obtain ⟨i, hi, e⟩ := List.getElem_of_mem hm
    have q : (mkC rows w (numsOf n w))[i]? = some m := by rw [List.getElem?_eq_getElem hi, e]
    have := N i m q
    have := hcnt i
    obtain ⟨b, h1, _⟩ := G i m q
    have := h.all m.d (List.mem_of_getElem? h1)
    exact ⟨⟨by omega, by omega⟩, by omega, by omega⟩
  · have : (mkC rows w (numsOf n w)).map (·.d) = rows := mkC_days rows w (numsOf n w) h.len l1
    have q := h.asc
    rw [← this, List.pairwise_map] at q
    exact q
  · obtain ⟨db, di, g1, g2, g3⟩ := h.br i b q
    have hb : b < (mkC rows w (numsOf n w)).length := by rw [L]; exact (List.getElem?_eq_some_iff.mp g1).1
    have hi : i < (mkC rows w (numsOf n w)).length := by rw [L]; exact (List.getElem?_eq_some_iff.mp g2).1
    refine ⟨_, _, List.getElem?_eq_getElem hb, List.getElem?_eq_getElem hi, ?_⟩
    obtain ⟨_, e1, _⟩ := G b _ (List.getElem?_eq_getElem hb)
    obtain ⟨_, e2, _⟩ := G i _ (List.getElem?_eq_getElem hi)
    rw [g1] at e1; rw [g2] at e2
    rw [← Option.some.inj e1, ← Option.some.inj e2]; exact g3
  · obtain ⟨b, e1, e2, e3, _⟩ := G i x hx
    rw [ho] at e2
    rw [e3, Option.some.inj e2]
  · obtain ⟨i, hi, e⟩ := List.getElem_of_mem hx
    have := N i x (by rw [List.getElem?_eq_getElem hi, e])
    have := hcnt i
    omega

end G4

namespace G4
open PySem PySem.Spec PyProof.Rows L2
local macro_rules
  | `(tactic| simp_arith [$as,*]) => `(tactic| simp -implicitDefEqProofs only [tl_table_of_1, tl_table_of_2, tl_table_of_3, tl_ways_of_1, tl_ways_of_2, tl__law_toss_1, tl__law_toss_2, tl__law_toss_3, tl__law_made_1, tl__law_made_2, tl__law_made_3, tl__law_made_4, tl__law_made_5, tl__law_made_6, tl__law_made_7, tl__law_made_8, tl__law_bent_1, tl__law_bent_2, tl__law_bent_3, tl__law_bent_4, tl__law_right_1, tl__law_right_2, tl_law_1, tl_law_2, tl_law_3, tl_law_4, tl_law_5, tl_law_6, ↓bnd_eq, ↓off_eq, ↓thn_eq, run_eq, fin_nx, fin_rt, fin_ex, S.hide, hideSl, exms, exm, ev, evT, evs, evOs, evo, evc, evSrc, evPar, hb_ok, hb_ex, ho_ok, ho_ex, ht_nx, ht_rt, ht_ex, tb_nx, tb_rt, tb_ex, hd_setB, hd_setT, hd_retT, D.flat, opd_d, opd_pl, opd_lst, opd_ex, val_d, val_lst, List.append_assoc, List.length_set, gc_push, gc_id, take_push, take_id, get_app0, get_app1, get_app2, isNew0, isNew1, isNew_int, isNew_str, isNew_bl, isNew_non, isNew_tup, isNew_lst, keep_un, keep_int, keep_bl, keep_non, keep_str, keep_scr, keep_obj, keep_own_lst, keep_own_dK, pureK_nil, keep_lst, keep_tup, D.unders, ne_succ, ne_succ1, eq_self, nodup2, nodup3, List.filterMap_cons, List.filterMap_nil, putPar, D.under, List.nodup_cons, List.mem_cons, List.not_mem_nil, or_self, or_false, Nat.reduceEqDiff, List.nodup_nil, true_and, and_true, bits10, Int.reduceMul, Int.reduceLE, Int.reduceLT, Int.reducePow, Int.reduceAdd, Int.reduceSub, Int.reduceNeg, Int.reduceToNat, val_dK, putTs_nil, putTs_nm, putTs_sub, val_ex, val_pl, valPl_lst, valPl_d, opt_some, toO_ok, toO_ex, asBl_ok, List.map_cons, List.map_nil, List.length_cons, List.length_nil, Nat.reduceAdd, Nat.reduceSub, Nat.zero_add, List.replicate, List.cons_append, List.nil_append, List.getElem?_cons_zero, List.getElem?_cons_succ, List.set_cons_zero, List.set_cons_succ, S.rd, S.rdD, S.store, OS.opt, Option.bind_some, Option.map_some, Cell.view, S.cell, S.isLst, S.isDct, S.rdDct, dgetV, dixV, augV, S.put, S.rdLst, cmpV, opCmp, opEq_str, opEq_int, opEq_bl, opEq_non, opEq_lst, opEq_tup, pures_app, eqv_int, eqv_bl, eqv_lst, eqv_tup, eqvs_nil, eqvs_ints, eqvs_cons, eqv_str, opIn_ints, unders_ints, set_app0, set_app1, binV, opBin, ixV, opIx, biV, biSem, biLen, biInt, biAbs, biMax2, biMin2, biSum, biAll, biAny, biList, biTuple, List.mapM_cons, List.mapM_nil, bind, pure, Option.bind, truV, D.tru, isiV, D.kind, Ty.sub, List.any_cons, List.any_nil, decide_true, decide_false, Int.cast_ofNat_Int, beq_self_eq_true, Bool.false_and, Bool.true_or, Bool.false_or, Bool.or_false, Bool.and_true, Bool.true_and, Bool.and_self, if_true, if_false, Bool.false_eq_true, reduceCtorEq, Bool.not_true, Bool.not_false, finish, D.pure, D.pures, Cell.pure, List.take_length, and_self, not_true_eq_false, not_false_eq_true, plain_int', plain_lst, plain_tup, plain_non, plain_bl, D.plainsN, pures_ints, plain_ints, List.length_map, List.length_append, at1, at2, at3, at4, at5, muV, muSem, muApp, setIx, S.fz, perm, List.getD_cons_zero, List.getD_cons_succ, $as,*])
/-! ### the purse by its budget -/
/-- a purse from which n more numbers can be drawn -/
def Pu (x : Cell) (n : Nat) : Prop := ∃ a b c, x = pcell a b c ∧ (0 ≤ b ∧ b < 2 ^ 200) ∧ 0 ≤ c ∧ c + n ≤ 2 ^ 90
theorem Pu.mono {x : Cell} {m n : Nat} (h : Pu x n) (k : m ≤ n) : Pu x m := by
  obtain ⟨a, b, c, h1, h2, h3, h4⟩ := h
  exact ⟨a, b, c, h1, h2, h3, by omega⟩
theorem log_small {m : Int} {k : Nat} (h0 : 0 < m) (h : m < 2 ^ k) : m.natAbs.log2 < k := by
  refine (Nat.log2_lt (by omega)).mpr ?_
  have h3 : ((m.natAbs : Nat) : Int) = m := Int.natAbs_of_nonneg (by omega)
  have h4 : ((m.natAbs : Nat) : Int) < ((2 ^ k : Nat) : Int) := by rw [h3]; exact_mod_cast h
  exact Int.ofNat_lt.mp h4
theorem toss {st : List Cell} {p n : Nat} {x : Cell} {m : Int} (hp : p < st.length) (h : Pu x (n + 1)) (hm : 0 < m) (hm2 : m < 2 ^ 200) :
    ∃ r y, f__law_toss [.obj p, .int m] (st.set p x) = .ok (.d (.int r)) (st.set p y) ∧ 0 ≤ r ∧ r < m ∧ Pu y n := by
  obtain ⟨a, b, c, rfl, h2, h3, h4⟩ := h
  obtain ⟨r, a', c', e, r0, r1, c1, c2⟩ := toss_ok (st := st.set p (pcell a b c)) (p := p) (List.getElem?_set_self hp) hm (by have := log_small hm hm2; omega) h2 ⟨h3, by omega⟩
  refine ⟨r, pcell a' b c', ?_, r0, r1, a', b, c', rfl, h2, by omega, by omega⟩
  rw [e, List.set_set]

end G4

namespace G4
open PySem PySem.Spec PyProof.Rows L2
local macro_rules
  | `(tactic| simp_arith [$as,*]) => `(tactic| simp -implicitDefEqProofs only [tl_table_of_1, tl_table_of_2, tl_table_of_3, tl_ways_of_1, tl_ways_of_2, tl__law_toss_1, tl__law_toss_2, tl__law_toss_3, tl__law_made_1, tl__law_made_2, tl__law_made_3, tl__law_made_4, tl__law_made_5, tl__law_made_6, tl__law_made_7, tl__law_made_8, tl__law_bent_1, tl__law_bent_2, tl__law_bent_3, tl__law_bent_4, tl__law_right_1, tl__law_right_2, tl_law_1, tl_law_2, tl_law_3, tl_law_4, tl_law_5, tl_law_6, ↓bnd_eq, ↓off_eq, ↓thn_eq, run_eq, fin_nx, fin_rt, fin_ex, S.hide, hideSl, exms, exm, ev, evT, evs, evOs, evo, evc, evSrc, evPar, hb_ok, hb_ex, ho_ok, ho_ex, ht_nx, ht_rt, ht_ex, tb_nx, tb_rt, tb_ex, hd_setB, hd_setT, hd_retT, D.flat, opd_d, opd_pl, opd_lst, opd_ex, val_d, val_lst, List.append_assoc, List.length_set, gc_push, gc_id, take_push, take_id, get_app0, get_app1, get_app2, isNew0, isNew1, isNew_int, isNew_str, isNew_bl, isNew_non, isNew_tup, isNew_lst, keep_un, keep_int, keep_bl, keep_non, keep_str, keep_scr, keep_obj, keep_own_lst, keep_own_dK, pureK_nil, keep_lst, keep_tup, D.unders, ne_succ, ne_succ1, eq_self, nodup2, nodup3, List.filterMap_cons, List.filterMap_nil, putPar, D.under, List.nodup_cons, List.mem_cons, List.not_mem_nil, or_self, or_false, Nat.reduceEqDiff, List.nodup_nil, true_and, and_true, bits10, Int.reduceMul, Int.reduceLE, Int.reduceLT, Int.reducePow, Int.reduceAdd, Int.reduceSub, Int.reduceNeg, Int.reduceToNat, val_dK, putTs_nil, putTs_nm, putTs_sub, val_ex, val_pl, valPl_lst, valPl_d, opt_some, toO_ok, toO_ex, asBl_ok, List.map_cons, List.map_nil, List.length_cons, List.length_nil, Nat.reduceAdd, Nat.reduceSub, Nat.zero_add, List.replicate, List.cons_append, List.nil_append, List.getElem?_cons_zero, List.getElem?_cons_succ, List.set_cons_zero, List.set_cons_succ, S.rd, S.rdD, S.store, OS.opt, Option.bind_some, Option.map_some, Cell.view, S.cell, S.isLst, S.isDct, S.rdDct, dgetV, dixV, augV, S.put, S.rdLst, cmpV, opCmp, opEq_str, opEq_int, opEq_bl, opEq_non, opEq_lst, opEq_tup, pures_app, eqv_int, eqv_bl, eqv_lst, eqv_tup, eqvs_nil, eqvs_ints, eqvs_cons, eqv_str, opIn_ints, unders_ints, set_app0, set_app1, binV, opBin, ixV, opIx, biV, biSem, biLen, biInt, biAbs, biMax2, biMin2, biSum, biAll, biAny, biList, biTuple, List.mapM_cons, List.mapM_nil, bind, pure, Option.bind, truV, D.tru, isiV, D.kind, Ty.sub, List.any_cons, List.any_nil, decide_true, decide_false, Int.cast_ofNat_Int, beq_self_eq_true, Bool.false_and, Bool.true_or, Bool.false_or, Bool.or_false, Bool.and_true, Bool.true_and, Bool.and_self, if_true, if_false, Bool.false_eq_true, reduceCtorEq, Bool.not_true, Bool.not_false, finish, D.pure, D.pures, Cell.pure, List.take_length, and_self, not_true_eq_false, not_false_eq_true, plain_int', plain_lst, plain_tup, plain_non, plain_bl, D.plainsN, pures_ints, plain_ints, List.length_map, List.length_append, at1, at2, at3, at4, at5, muV, muSem, muApp, setIx, S.fz, perm, List.getD_cons_zero, List.getD_cons_succ, $as,*])
def mS (p : Nat) (size far style t : Int) (rows : List Int) (w : List (Option Nat)) (nums : List Int) (v8 v10 v11 v12 : SV) : List SV :=
  [.d (.obj p), .d (.int size), .d (.int far), .d (.int style), .d (.int t), .own (.lst (rows.map .int)), .own (.lst (w.map obD)), .own (.lst (nums.map .int)), v8, .un, v10, v11, v12]
theorem cut_sub (l : List D) (lo hi : Option Int) : ∀ x ∈ cut l lo hi, x ∈ l := fun x hx => by
  unfold cut at hx
  exact List.mem_of_mem_drop (List.mem_of_mem_take hx)
theorem cut_len (l : List D) (lo hi : Option Int) : (cut l lo hi).length = min (HT.sIx l.length l.length hi - HT.sIx l.length 0 lo) (l.length - HT.sIx l.length 0 lo) := by
  unfold cut; rw [List.length_take, List.length_drop]
theorem cut_pos {l : List D} (h : l ≠ []) : cut l (some (-2)) none ≠ [] ∧ cut l none (some 3) ≠ [] ∧ cut l (some (-1)) none ≠ [] := by
  have hl := List.length_pos_iff.mpr h
  have e3 : HT.sIx l.length l.length (some 3) = min 3 l.length := HT.sIx_nat l.length l.length 3
  refine ⟨fun e => ?_, fun e => ?_, fun e => ?_⟩
  · have := cut_len l (some (-2)) none
    rw [e, HT.sIx_none] at this
    have k : HT.sIx l.length 0 (some (-2)) < l.length := by unfold HT.sIx; simp; omega
    simp only [List.length_nil] at this
    omega
  · have := cut_len l none (some 3)
    rw [e, HT.sIx_none, e3] at this
    simp only [List.length_nil] at this
    omega
  · have := cut_len l (some (-1)) none
    rw [e, HT.sIx_none] at this
    have k : HT.sIx l.length 0 (some (-1)) < l.length := by unfold HT.sIx; simp; omega
    simp only [List.length_nil] at this
    omega
/-- who joined earlier -/
def earl (rows : List Int) (j : Nat) (t : Int) : List Nat := (List.range j).filter fun i => decide (rows.getD i 0 < t)
theorem made_earlier {st : List Cell} {p j : Nat} {size far style t : Int} {rows : List Int} {w : List (Option Nat)} {nums : List Int} {v10 v11 v12 : SV} (hj : j ≤ rows.length) (hj2 : j ≤ 1000) (h : v12.isOwn = false) :
    ev lc__law_made_2 ⟨mS p size far style t rows w nums (.d (.int j)) v10 v11 v12, st⟩ = .ok (.new (.lst ((earl rows j t).map fun i : Nat => D.int i))) ⟨mS p size far style t rows w nums (.d (.int j)) v10 v11 v12, st⟩ := by
  unfold mS
  refine lc_filt (List.range j) (fun i : Nat => D.int i) (fun i => decide (rows.getD i 0 < t)) (fun i : Nat => D.int i) ?_ (big_le (by rw [List.length_range]; omega)) ?_ fun i hi => ⟨_, rfl, rfl, ?_, fun _ => ?_⟩
  · simp_arith [rng1_nat (show j ≤ 1000000 by omega)]
  · simp [mS, h]
  · have hi : i < rows.length := by have := List.mem_range.mp hi; omega
    have e : atI (rows.map D.int) (i : Int) = some (.int (rows.getD i 0)) := atI_nat (by rw [List.getElem?_map, List.getElem?_eq_getElem hi, List.getD_eq_getElem?_getD, List.getElem?_eq_getElem hi]; rfl)
    simp_arith [mS, e]
  · simp_arith [mS]
theorem earl_mem {rows : List Int} {j : Nat} {t : Int} {i : Nat} (h : i ∈ earl rows j t) : i < j ∧ rows.getD i 0 < t := by
  unfold earl at h
  simp only [List.mem_filter, List.mem_range, decide_eq_true_eq] at h
  exact h
theorem ne_nil_eq (l : List Nat) : D.eqvs (l.map fun i : Nat => D.int i) [] = l.isEmpty := by
  cases l <;> simp [D.eqvs]
theorem plain_nats (n : Nat) (l : List Nat) : D.plainsN n (l.map fun i : Nat => D.int i) = true := (plainsN_iff n _).mpr fun d hd => by
  obtain ⟨i, _, rfl⟩ := List.mem_map.mp hd
  exact plain_int' n i
theorem obD_none (w : List (Option Nat)) : w.map obD ++ [D.non] = (w ++ [none]).map obD := by simp [obD]
theorem obD_set (w : List (Option Nat)) (o : Nat) : ((w ++ [none]).map obD).set w.length (.int o) = (w ++ [some o]).map obD := by
  simp [obD, List.map_append]
theorem ints_push (l : List Int) (t : Int) : l.map D.int ++ [D.int t] = (l ++ [t]).map D.int := by simp
theorem made_step {st : List Cell} {p n j size : Nat} {x : Cell} {far style t : Int} {rows : List Int} {w : List (Option Nat)} {v10 v11 v12 : SV} (hp : p < st.length) (hx : Pu x (n + 4)) (hj : j < size) (hs : size ≤ 60) (f1 : 1 ≤ far) (f2 : far ≤ 10 ^ 28)
    (s1 : 0 ≤ style) (s2 : style < 4) (M : MadeI rows w t) (t0 : 0 ≤ t) (t1 : t ≤ 10 ^ 30) (hr : rows.length = j) (h12 : v12.isOwn = false) :
    ∃ t' o y u10 u11 u12, exms fb__law_made_1 ⟨mS p size far style t rows w (numsOf size w) (.d (.int j)) v10 v11 v12, st.set p x⟩ = .nx ⟨mS p size far style t' (rows ++ [t']) (w ++ [o]) (numsOf size (w ++ [o])) (.d (.int j)) u10 u11 u12, st.set p y⟩ ∧
      Pu y n ∧ MadeI (rows ++ [t']) (w ++ [o]) t' ∧ t ≤ t' ∧ t' ≤ t + far ∧ u12.isOwn = false := by
  obtain ⟨r1, y1, e1, a1, b1, q1⟩ := toss hp hx (m := far) (by omega) (by omega)
  obtain ⟨r2, y2, e2, a2, b2, q2⟩ := toss hp q1 (m := 3) (by omega) (by omega)
  obtain ⟨u, hu, u0, u1⟩ : ∃ u, atI [D.int 0, D.int 1, D.int (1 + r1)] r2 = some (.int u) ∧ 0 ≤ u ∧ u ≤ far := by
    have : r2 = 0 ∨ r2 = 1 ∨ r2 = 2 := by omega
    rcases this with rfl | rfl | rfl
    · exact ⟨0, rfl, by omega, by omega⟩
    · exact ⟨1, rfl, by omega, by omega⟩
    · exact ⟨1 + r1, rfl, by omega, by omega⟩
  obtain ⟨z, hz, z0⟩ : ∃ z, b2i (decide ((0 : Int) < (j : Int))) = z ∧ (z = 0 ∨ z = 1) := ⟨_, rfl, by unfold b2i; split <;> simp⟩
  have hl : u.natAbs.log2 + z.natAbs.log2 < 1000000 := by
    have k1 : z.natAbs.log2 = 0 := by rcases z0 with rfl | rfl <;> decide
    have k2 := Sm4.log (i := u) ⟨u0, by omega⟩
    omega
  obtain ⟨t', ht', t2, t3⟩ : ∃ t', t + u * z = t' ∧ t ≤ t' ∧ t' ≤ t + far := ⟨_, rfl, by rcases z0 with rfl | rfl <;> omega, by rcases z0 with rfl | rfl <;> omega⟩
  have hrl : rows.length < big := by have := big_le (show rows.length + 1 ≤ 1000000 by omega); omega
  have hwl : w.length < big := by have := M.len; omega
  have E := fun st => made_earlier (st := st) (p := p) (size := size) (far := far) (style := style) (t := t') (rows := rows ++ [t']) (w := w) (nums := numsOf size w) (v10 := v10) (v11 := v11) (j := j) (by simp; omega) (by omega) h12
  unfold mS at E
  generalize hG : earl (rows ++ [t']) j t' = G at E
  have gm : ∀ i ∈ G, i < j ∧ (rows ++ [t']).getD i 0 < t' := fun i hi => earl_mem (hG ▸ hi)
  have hpush : ∀ i ∈ G, ∃ db, rows[i]? = some db ∧ db < t' := fun i hi => by
    obtain ⟨g1, g2⟩ := gm i hi
    have hi2 : i < rows.length := by omega
    refine ⟨rows[i], List.getElem?_eq_getElem hi2, ?_⟩
    rw [List.getD_eq_getElem?_getD, List.getElem?_append_left hi2, List.getElem?_eq_getElem hi2] at g2
    exact g2
  unfold mS fb__law_made_1
  by_cases hGe : G = []
  ·
    refine ⟨t', none, y2, .own (.lst []), v11, v12, ?_, q2.mono (by omega), M.push t2 t0 none (fun b hb => by cases hb), t2, t3, h12⟩
    rw [hGe] at E
    simp_arith [e1, e2, hu, hz, hl, ht', hrl, ints_push, E, hwl, obD_none, show D.eqv (.lst []) (.lst []) = true from rfl, numsOf_none]
  · have hne := hGe
    have hne2 : G.isEmpty = false := by simpa using hGe
    obtain ⟨r3, y3, e3, a3, b3, q3⟩ := toss hp q2 (m := 5) (by omega) (by omega)
    by_cases h3 : 0 < r3
    · obtain ⟨l', hl', hl3, hn', hm'⟩ : ∃ l', atI [D.lst (G.map fun i : Nat => D.int i), .lst (cut (G.map fun i : Nat => D.int i) (some (-2)) none), .lst (cut (G.map fun i : Nat => D.int i) none (some 3)), .lst (cut (G.map fun i : Nat => D.int i) (some (-1)) none)] style = some (.lst l') ∧ l'.length < 2 ^ 100 ∧ l' ≠ [] ∧ ∀ d ∈ l', d ∈ G.map fun i : Nat => D.int i := by
        have hne3 : (G.map fun i : Nat => D.int i) ≠ [] := by intro z; exact hne (List.map_eq_nil_iff.mp z)
        obtain ⟨c1, c2, c3⟩ := cut_pos hne3
        have glen : (G.map fun i : Nat => D.int i).length < 2 ^ 100 := by
          rw [List.length_map, ← hG]
          have := List.length_filter_le (fun i => decide ((rows ++ [t']).getD i 0 < t')) (List.range j)
          rw [List.length_range] at this
          unfold earl; omega
        have clen : ∀ lo hi, (cut (G.map fun i : Nat => D.int i) lo hi).length < 2 ^ 100 := fun lo hi => by
          rw [cut_len]; omega
        have : style = 0 ∨ style = 1 ∨ style = 2 ∨ style = 3 := by omega
        rcases this with rfl | rfl | rfl | rfl
        · exact ⟨_, rfl, glen, hne3, fun d h => h⟩
        · exact ⟨_, rfl, clen _ _, c1, cut_sub _ _ _⟩
        · exact ⟨_, rfl, clen _ _, c2, cut_sub _ _ _⟩
        · exact ⟨_, rfl, clen _ _, c3, cut_sub _ _ _⟩
      have hlp := List.length_pos_iff.mpr hn'
      have hlb : l'.length < 2 ^ 100 := hl3
      obtain ⟨r4, y4, e4, a4, b4, q4⟩ := toss hp q3 (m := l'.length) (by omega) (by omega)
      obtain ⟨o, ho, hoG⟩ : ∃ o : Nat, atI l' r4 = some (.int o) ∧ o ∈ G := by
        have h4 : r4.toNat < l'.length := by omega
        have e : atI l' (r4.toNat : Int) = some l'[r4.toNat] := atI_nat (List.getElem?_eq_getElem h4)
        rw [Int.toNat_of_nonneg a4] at e
        obtain ⟨o, h5, h6⟩ := List.mem_map.mp (hm' _ (List.getElem_mem h4))
        exact ⟨o, by rw [e, ← h6], h5⟩
      have hoj := (gm o hoG).1
      have hno : atI ((numsOf size w).map D.int) (o : Int) = some (.int (w.count (some o) : Nat)) := atI_nat (by rw [List.getElem?_map, numsOf_get w (by omega)]; rfl)
      have hx1 : ixN (w.length + 1) (j : Int) = some w.length := by
        have : j = w.length := by have := M.len; omega
        rw [this]; exact ixN_nat' (by omega)
      have hx2 : ixN size (o : Int) = some o := ixN_nat' (by omega)
      refine ⟨t', some o, y4, .d (.lst (G.map fun i : Nat => D.int i)), .d (.lst l'), .d (.int o), ?_, q4, M.push t2 t0 (some o) (fun b hb => by cases hb; exact hpush o hoG), t2, t3, rfl⟩
      simp_arith [e1, e2, hu, hz, hl, ht', hrl, ints_push, E, hwl, ne_nil_eq, hne2, plain_nats, e3, h3, opSl, hl', e4, ho, hx1, hno, numsOf_len, hx2]
      rw [obD_none, obD_set, ← numsOf_some w (show o < size by omega), List.map_set]
    · refine ⟨t', none, y3, .own (.lst (G.map fun i : Nat => D.int i)), v11, v12, ?_, q3.mono (by omega), M.push t2 t0 none (fun b hb => by cases hb), t2, t3, h12⟩
      simp_arith [e1, e2, hu, hz, hl, ht', hrl, ints_push, E, hwl, obD_none, ne_nil_eq, hne2, plain_nats, e3, h3, numsOf_none]
theorem pure_obs (w : List (Option Nat)) : D.pures (w.map obD) = true := by
  induction w with
  | nil => rfl
  | cons o w ih => rw [List.map_cons, D.pures, ih]; cases o <;> rfl
theorem made_words {st : List Cell} {p : Nat} {size far style t : Int} {rows : List Int} {w : List (Option Nat)} {nums : List Int} {v8 v10 v11 v12 : SV} (hw : w.length ≤ 1000) (h : v12.isOwn = false) :
    ev lc__law_made_1 ⟨mS p size far style t rows w nums v8 v10 v11 v12, st⟩ = .ok (.new (.lst (w.map fun o => .str (wd o.isSome)))) ⟨(mS p size far style t rows w nums v8 v10 v11 v12).set 6 (.d (.lst (w.map obD))), st⟩ := by
  unfold mS
  refine lc_map w obD (fun o => .str (wd o.isSome)) ?_ (big_le (by omega)) ?_ fun o ho => ⟨_, rfl, rfl, ?_⟩
  · simp_arith [S.rd]
  · simp [h]
  · cases o <;> simp_arith [obD, opIs, D.isNon, b2i, wd, Option.isSome] <;> rfl
theorem made_ok {st : List Cell} {p n size : Nat} {x : Cell} {far : Int} (hp : p < st.length) (hx : Pu x (n + 300)) (hs1 : 1 ≤ size) (hs : size ≤ 60) (f1 : 1 ≤ far) (f2 : far ≤ 10 ^ 28) :
    ∃ c w y, f__law_made [.obj p, .int size, .int far] (st.set p x) = .ok (.d (.tup [clubD c, .lst (w.map obD)])) (st.set p y) ∧ Pu y n ∧ Club c ∧ IsWay c w ∧ c.length = size ∧ ∀ m ∈ c, m.n ≤ 60 := by
  obtain ⟨r1, y1, e1, a1, b1, q1⟩ := toss hp (n := n + 299) hx (m := 4) (by omega) (by omega)
  obtain ⟨r2, y2, e2, a2, b2, q2⟩ := toss hp q1 (m := far) (by omega) (by omega)
  have hn0 : numsOf size [] = List.replicate size 0 := by
    unfold numsOf
    rw [show (fun i : Nat => ((List.count (some i) ([] : List (Option Nat)) : Nat) : Int)) = fun _ => 0 from funext fun i => by simp]
    simp [List.map_const']
  let I : Nat → S → Prop := fun j s => ∃ t rows w v8 v10 v11 v12 y, s = ⟨mS p size far r1 t rows w (numsOf size w) v8 v10 v11 v12, st.set p y⟩ ∧ Pu y (n + 4 * (size - j)) ∧ MadeI rows w t ∧ 0 ≤ t ∧ t ≤ far * (j + 1) ∧ rows.length = j ∧ v12.isOwn = false
  obtain ⟨s', l1, t, rows, w, v8, v10, v11, v12, y, rfl, l2, l3, l4, l5, l6, l7⟩ := for_inv (tgt := fun x s => T.asg (.nm 8) x s) (body := fun s => exms fb__law_made_1 s) (n := st.length) I ((List.range size).map fun i : Nat => D.int i) 0
    ⟨mS p size far r1 r2 [] [] (numsOf size []) .un .un .un .un, st.set p y2⟩ (fun i x s hi hI => by
      rw [Nat.zero_add] at hI ⊢
      obtain ⟨t, rows, w, v8, v10, v11, v12, y, rfl, h2, h3, h4, h5, h6, h7⟩ := hI
      have hi2 : i < size := by
        have := (List.getElem?_eq_some_iff.mp hi).1
        simpa using this
      have hx2 : x = .int i := by
        rw [List.getElem?_map, List.getElem?_range hi2] at hi
        exact (Option.some.inj hi).symm
      subst hx2
      have hb : far * (i + 1) ≤ 10 ^ 30 := by
        have : far * ((i : Int) + 1) ≤ 10 ^ 28 * 60 := Int.mul_le_mul f2 (by omega) (by omega) (by omega)
        omega
      obtain ⟨t', o, y', u10, u11, u12, k1, k2, k3, k4, k5, k6⟩ := made_step (n := n + 4 * (size - (i + 1))) (far := far) (style := r1) (rows := rows) (w := w) (t := t) (v10 := v10) (v11 := v11) hp (h2.mono (by omega)) hi2 hs f1 f2 a1 b1 h3 h4 (by omega) h6 h7
      refine ⟨_, _, rfl, .inl k1, t', rows ++ [t'], w ++ [o], .d (.int i), u10, u11, u12, y', ?_, k2, k3, by omega, ?_, by simp [h6], k6⟩
      · exact gc_same (by simp)
      · have : far * (((i + 1 : Nat) : Int) + 1) = far * ((i : Int) + 1) + far := by
          rw [show (((i + 1 : Nat) : Int) + 1) = ((i : Int) + 1) + 1 by omega, Int.mul_add, Int.mul_one]
        omega) ⟨r2, [], [], .un, .un, .un, .un, y2, rfl, q2.mono (by omega), ⟨.nil, (by simp), rfl, fun i b h => by simp at h⟩, a2, by rw [show ((0 : Nat) : Int) + 1 = 1 by omega]; omega, rfl, rfl⟩
  rw [Nat.zero_add, List.length_map, List.length_range] at l2 l5 l6
  have ht30 : t ≤ 10 ^ 30 := by
    have : far * ((size : Int) + 1) ≤ 10 ^ 28 * 61 := Int.mul_le_mul f2 (by omega) (by omega) (by omega)
    omega
  obtain ⟨z1, z2, z3, z4⟩ := made_way l3 size l6 hs1 hs ht30
  refine ⟨mkC rows w (numsOf size w), w, y, ?_, l2.mono (by omega), z1, z2, z3, z4⟩
  unfold f__law_made
  have hsz : size ≤ big := big_le (by omega)
  have hrep : repD size [D.int 0] = (numsOf size []).map .int := by
    unfold repD; rw [hn0]; clear hsz; simp
  have hwl := l3.len
  have w1 := made_words (st := st.set p y) (p := p) (size := size) (far := far) (style := r1) (t := t) (rows := rows) (w := w) (nums := numsOf size w) (v8 := v8) (v10 := v10) (v11 := v11) (by omega) l7
  unfold mS at l1
  simp only [List.map_nil] at l1
  have hle : rows.length ≤ 1000 := by omega
  simp_arith [b__law_made, e1, e2, hp, Int.toNat_natCast, Nat.one_mul, hsz, small_nat (show size ≤ 1000000 by omega), hrep, rng1_nat (show size ≤ 1000000 by omega)]
  unfold mS at w1
  simp only [List.set_cons_zero, List.set_cons_succ] at w1
  rw [l1]
  have c1 : rows.length = w.length := hwl.symm
  have c2 : rows.length = (numsOf size w).length := by rw [numsOf_len, l6]
  have hpo : D.pures (w.map obD) = true := pure_obs w
  have hpc : D.pures ((mkC rows w (numsOf size w)).map Mem.D) = true := pure_mems _
  simp_arith [w1]
  rw [if_pos ⟨c1, c2, hle⟩]
  simp_arith [mkC_zip, hpo, hpc, clubD]

end G4

namespace G4
open PySem PySem.Spec PyProof.Rows L2
local macro_rules
  | `(tactic| simp_arith [$as,*]) => `(tactic| simp -implicitDefEqProofs only [tl_table_of_1, tl_table_of_2, tl_table_of_3, tl_ways_of_1, tl_ways_of_2, tl__law_toss_1, tl__law_toss_2, tl__law_toss_3, tl__law_made_1, tl__law_made_2, tl__law_made_3, tl__law_made_4, tl__law_made_5, tl__law_made_6, tl__law_made_7, tl__law_made_8, tl__law_bent_1, tl__law_bent_2, tl__law_bent_3, tl__law_bent_4, tl__law_right_1, tl__law_right_2, tl_law_1, tl_law_2, tl_law_3, tl_law_4, tl_law_5, tl_law_6, ↓bnd_eq, ↓off_eq, ↓thn_eq, run_eq, fin_nx, fin_rt, fin_ex, S.hide, hideSl, exms, exm, ev, evT, evs, evOs, evo, evc, evSrc, evPar, hb_ok, hb_ex, ho_ok, ho_ex, ht_nx, ht_rt, ht_ex, tb_nx, tb_rt, tb_ex, hd_setB, hd_setT, hd_retT, D.flat, opd_d, opd_pl, opd_lst, opd_ex, val_d, val_lst, List.append_assoc, List.length_set, gc_push, gc_id, take_push, take_id, get_app0, get_app1, get_app2, isNew0, isNew1, isNew_int, isNew_str, isNew_bl, isNew_non, isNew_tup, isNew_lst, keep_un, keep_int, keep_bl, keep_non, keep_str, keep_scr, keep_obj, keep_own_lst, keep_own_dK, pureK_nil, keep_lst, keep_tup, D.unders, ne_succ, ne_succ1, eq_self, nodup2, nodup3, List.filterMap_cons, List.filterMap_nil, putPar, D.under, List.nodup_cons, List.mem_cons, List.not_mem_nil, or_self, or_false, Nat.reduceEqDiff, List.nodup_nil, true_and, and_true, bits10, Int.reduceMul, Int.reduceLE, Int.reduceLT, Int.reducePow, Int.reduceAdd, Int.reduceSub, Int.reduceNeg, Int.reduceToNat, val_dK, putTs_nil, putTs_nm, putTs_sub, val_ex, val_pl, valPl_lst, valPl_d, opt_some, toO_ok, toO_ex, asBl_ok, List.map_cons, List.map_nil, List.length_cons, List.length_nil, Nat.reduceAdd, Nat.reduceSub, Nat.zero_add, List.replicate, List.cons_append, List.nil_append, List.getElem?_cons_zero, List.getElem?_cons_succ, List.set_cons_zero, List.set_cons_succ, S.rd, S.rdD, S.store, OS.opt, Option.bind_some, Option.map_some, Cell.view, S.cell, S.isLst, S.isDct, S.rdDct, dgetV, dixV, augV, S.put, S.rdLst, cmpV, opCmp, opEq_str, opEq_int, opEq_bl, opEq_non, opEq_lst, opEq_tup, pures_app, eqv_int, eqv_bl, eqv_lst, eqv_tup, eqvs_nil, eqvs_ints, eqvs_cons, eqv_str, opIn_ints, unders_ints, set_app0, set_app1, binV, opBin, ixV, opIx, biV, biSem, biLen, biInt, biAbs, biMax2, biMin2, biSum, biAll, biAny, biList, biTuple, List.mapM_cons, List.mapM_nil, bind, pure, Option.bind, truV, D.tru, isiV, D.kind, Ty.sub, List.any_cons, List.any_nil, decide_true, decide_false, Int.cast_ofNat_Int, beq_self_eq_true, Bool.false_and, Bool.true_or, Bool.false_or, Bool.or_false, Bool.and_true, Bool.true_and, Bool.and_self, if_true, if_false, Bool.false_eq_true, reduceCtorEq, Bool.not_true, Bool.not_false, finish, D.pure, D.pures, Cell.pure, List.take_length, and_self, not_true_eq_false, not_false_eq_true, plain_int', plain_lst, plain_tup, plain_non, plain_bl, D.plainsN, pures_ints, plain_ints, List.length_map, List.length_append, at1, at2, at3, at4, at5, muV, muSem, muApp, setIx, S.fz, perm, List.getD_cons_zero, List.getD_cons_succ, $as,*])
theorem club_set {c : List Mem} (h : Club c) {i : Nat} {m m' : Mem} (hm : c[i]? = some m) (hd : m'.d = m.d) (ho : m'.ok) : Club (c.set i m') := by
  refine ⟨fun e => h.some (by simpa using e), by rw [List.length_set]; exact h.few, fun x hx => ?_, ?_⟩
  · rcases List.mem_or_eq_of_mem_set hx with hx | rfl
    · exact h.ok x hx
    · exact ho
  · have e : (c.set i m').map (·.d) = c.map (·.d) := by
      rw [List.map_set, hd]
      apply List.ext_getElem?
      intro k
      by_cases hk : i = k
      · subst hk
        have hi := (List.getElem?_eq_some_iff.mp hm).1
        rw [List.getElem?_set_self (by simpa using hi), List.getElem?_map, hm]; rfl
      · rw [List.getElem?_set_ne hk]
    have k : (c.map (·.d)).Pairwise (· ≤ ·) := List.pairwise_map.mpr h.asc
    rw [← e] at k
    exact List.pairwise_map.mp k
theorem set_days {c : List Mem} {i : Nat} {m m' : Mem} (hm : c[i]? = some m) (hd : m'.d = m.d) : (c.set i m').map (·.d) = c.map (·.d) := by
  rw [List.map_set, hd]
  apply List.ext_getElem?
  intro k
  by_cases hk : i = k
  · subst hk
    have hi := (List.getElem?_eq_some_iff.mp hm).1
    rw [List.getElem?_set_self (by simpa using hi), List.getElem?_map, hm]; rfl
  · rw [List.getElem?_set_ne hk]
theorem at_wd (w : Bool) : atI [D.str "alone", D.str "brought"] (b2i (!w)) = some (.str (wd (!w))) := by cases w <;> rfl
theorem bent_step {st : List Cell} {p n : Nat} {k : Int} {x : Cell} {c : List Mem} {c0 : D} {v4 v5 v6 v7 v8 v9 v10 : SV} (hp : p < st.length) (hx : Pu x (n + 3)) (hc : Club c) :
    ∃ c' y u4 u5 u6 u7 u8 u9 u10, exms fb__law_bent_1 ⟨[.d (.obj p), .d c0, .own (.lst (c.map Mem.D)), .d (.int k), v4, v5, v6, v7, v8, v9, v10], st.set p x⟩ = .nx ⟨[.d (.obj p), .d c0, .own (.lst (c'.map Mem.D)), .d (.int k), u4, u5, u6, u7, u8, u9, u10], st.set p y⟩ ∧
      Pu y n ∧ Club c' ∧ c'.length = c.length ∧ c'.map (·.d) = c.map (·.d) := by
  have hl := List.length_pos_iff.mpr hc.some
  have hl2 := hc.few
  obtain ⟨r1, y1, e1, a1, b1, q1⟩ := toss hp hx (m := c.length) (by omega) (by omega)
  obtain ⟨r2, y2, e2, a2, b2, q2⟩ := toss hp q1 (m := 5) (by omega) (by omega)
  obtain ⟨r3, y3, e3, a3, b3, q3⟩ := toss hp q2 (m := 3) (by omega) (by omega)
  obtain ⟨i, rfl⟩ : ∃ i : Nat, r1 = i := ⟨r1.toNat, by omega⟩
  have hi : i < c.length := by omega
  have hm : c[i]? = some c[i] := List.getElem?_eq_getElem hi
  generalize hmm : c[i] = m at hm
  have hat : atI (c.map Mem.D) (i : Int) = some m.D := atI_nat (by rw [List.getElem?_map, hm]; rfl)
  have hok := hc.ok m (List.mem_of_getElem? hm)
  obtain ⟨v, hv, v0⟩ : ∃ v, atI [D.int (m.n + 1), .int (if m.n - 1 > 0 then m.n - 1 else 0), .int 0, .int (m.n + 2), .int 1000000000000000000000000000000] r2 = some (.int v) ∧ 0 ≤ v := by
    have : r2 = 0 ∨ r2 = 1 ∨ r2 = 2 ∨ r2 = 3 ∨ r2 = 4 := by omega
    have h9 := hok.2.1
    rcases this with rfl | rfl | rfl | rfl | rfl
    · exact ⟨_, rfl, by omega⟩
    · exact ⟨_, rfl, by omega⟩
    · exact ⟨_, rfl, by omega⟩
    · exact ⟨_, rfl, by omega⟩
    · exact ⟨_, rfl, by omega⟩
  obtain ⟨u, hu, u0, u1⟩ : ∃ u, (if v < 1000000000000000000000000000000 then v else 1000000000000000000000000000000) = u ∧ 0 ≤ u ∧ u ≤ 10 ^ 30 := ⟨_, rfl, by split <;> omega, by split <;> omega⟩
  obtain ⟨m', hm', d', o'⟩ : ∃ m' : Mem, atI [(D.tup [.int m.d, .str (wd m.w), .int u]), (D.tup [.int m.d, .str (wd m.w), .int u]), (D.tup [.int m.d, .str (wd (!m.w)), .int m.n])] r3 = some m'.D ∧ m'.d = m.d ∧ m'.ok := by
    have : r3 = 0 ∨ r3 = 1 ∨ r3 = 2 := by omega
    rcases this with rfl | rfl | rfl
    · exact ⟨⟨m.d, m.w, u⟩, rfl, rfl, hok.1, u0, u1⟩
    · exact ⟨⟨m.d, m.w, u⟩, rfl, rfl, hok.1, u0, u1⟩
    · exact ⟨⟨m.d, !m.w, m.n⟩, rfl, rfl, hok⟩
  have hix := ixN_nat' hi
  refine ⟨c.set i m', y3, .d (.int i), .d (.int m.d), .d (.str (wd m.w)), .d (.int m.n), .d (.str (wd (!m.w))), .d (.int v), .d (.tup [.int m.d, .str (wd m.w), .int u]), ?_, q3, club_set hc hm d' o', by rw [List.length_set], set_days hm d'⟩
  unfold fb__law_bent_1
  simp_arith [e1, e2, e3, hat, Mem.D, wd_al, at_wd, hv, hu, hm', hix, asg_nm, asg_tp, asgs_nil, asgs_cons]
  rw [List.map_set]
  rfl
theorem bent_okD {st : List Cell} {p n : Nat} {x : Cell} {c : List Mem} (hp : p < st.length) (hx : Pu x (n + 20)) (hc : Club c) :
    ∃ c' y, f__law_bent [.obj p, clubD c] (st.set p x) = .ok (.new (.lst (c'.map Mem.D))) (st.set p y) ∧ Pu y n ∧ Club c' ∧ c'.length = c.length ∧ c'.map (·.d) = c.map (·.d) := by
  obtain ⟨r1, y1, e1, a1, b1, q1⟩ := toss hp (n := n + 19) hx (m := 3) (by omega) (by omega)
  obtain ⟨k, hk⟩ : ∃ k : Nat, 1 + r1 = k := ⟨(1 + r1).toNat, by omega⟩
  obtain ⟨s', l1, c', y, v3, v4, v5, v6, v7, v8, v9, v10, rfl, l2, l3, l4, l5⟩ := for_rng (v := 3) (body := fun s => exms fb__law_bent_1 s) (n := st.length) k (fun j s => ∃ c' y v3 v4 v5 v6 v7 v8 v9 v10, s = ⟨[.d (.obj p), .d (clubD c), .own (.lst (c'.map Mem.D)), v3, v4, v5, v6, v7, v8, v9, v10], st.set p y⟩ ∧ Pu y (n + 3 * (k - j)) ∧ Club c' ∧ c'.length = c.length ∧ c'.map (·.d) = c.map (·.d))
    ⟨[.d (.obj p), .d (clubD c), .own (.lst (c.map Mem.D)), .un, .un, .un, .un, .un, .un, .un, .un], st.set p y1⟩ ⟨c, y1, _, _, _, _, _, _, _, _, rfl, q1.mono (by omega), hc, rfl, rfl⟩ fun j s hj hI => by
      obtain ⟨c', y, v3, v4, v5, v6, v7, v8, v9, v10, rfl, h2, h3, h4, h5⟩ := hI
      obtain ⟨c2, y2, u4, u5, u6, u7, u8, u9, u10, k1, k2, k3, k4, k5⟩ := bent_step (n := n + 3 * (k - (j + 1))) (k := j) (x := y) (c0 := clubD c) (v4 := v4) (v5 := v5) (v6 := v6) (v7 := v7) (v8 := v8) (v9 := v9) (v10 := v10) hp (h2.mono (by omega)) h3
      exact ⟨_, .inl k1, c2, y2, _, u4, u5, u6, u7, u8, u9, u10, gc_same (by simp), k2, k3, by omega, k5.trans h5⟩
  refine ⟨c', y, ?_, l2.mono (by omega), l3, l4, l5⟩
  unfold f__law_bent
  unfold clubD at l1
  simp_arith [b__law_bent, clubD, e1, hk, rng1_nat (show k ≤ 1000000 by omega)]
  rw [l1]
  simp_arith [pure_mems]

theorem bent_ok {st : List Cell} {p n : Nat} {x : Cell} {c : List Mem} (hp : p < st.length) (hx : Pu x (n + 20)) (hc : Club c) :
    ∃ c' y, f__law_bent [.obj p, clubD c] (st.set p x) = .ok (.new (.lst (c'.map Mem.D))) (st.set p y) ∧ Pu y n ∧ Club c' ∧ c'.length = c.length := by
  obtain ⟨c', y, h1, h2, h3, h4, _⟩ := bent_okD (st := st) hp hx hc
  exact ⟨c', y, h1, h2, h3, h4⟩

end G4

namespace G4
open PySem PySem.Spec PyProof.Rows L2
local macro_rules
  | `(tactic| simp_arith [$as,*]) => `(tactic| simp -implicitDefEqProofs only [tl_table_of_1, tl_table_of_2, tl_table_of_3, tl_ways_of_1, tl_ways_of_2, tl__law_toss_1, tl__law_toss_2, tl__law_toss_3, tl__law_made_1, tl__law_made_2, tl__law_made_3, tl__law_made_4, tl__law_made_5, tl__law_made_6, tl__law_made_7, tl__law_made_8, tl__law_bent_1, tl__law_bent_2, tl__law_bent_3, tl__law_bent_4, tl__law_right_1, tl__law_right_2, tl_law_1, tl_law_2, tl_law_3, tl_law_4, tl_law_5, tl_law_6, ↓bnd_eq, ↓off_eq, ↓thn_eq, run_eq, fin_nx, fin_rt, fin_ex, S.hide, hideSl, exms, exm, ev, evT, evs, evOs, evo, evc, evSrc, evPar, hb_ok, hb_ex, ho_ok, ho_ex, ht_nx, ht_rt, ht_ex, tb_nx, tb_rt, tb_ex, hd_setB, hd_setT, hd_retT, D.flat, opd_d, opd_pl, opd_lst, opd_ex, val_d, val_lst, List.append_assoc, List.length_set, gc_push, gc_id, take_push, take_id, get_app0, get_app1, get_app2, isNew0, isNew1, isNew_int, isNew_str, isNew_bl, isNew_non, isNew_tup, isNew_lst, keep_un, keep_int, keep_bl, keep_non, keep_str, keep_scr, keep_obj, keep_own_lst, keep_own_dK, pureK_nil, keep_lst, keep_tup, D.unders, ne_succ, ne_succ1, eq_self, nodup2, nodup3, List.filterMap_cons, List.filterMap_nil, putPar, D.under, List.nodup_cons, List.mem_cons, List.not_mem_nil, or_self, or_false, Nat.reduceEqDiff, List.nodup_nil, true_and, and_true, bits10, Int.reduceMul, Int.reduceLE, Int.reduceLT, Int.reducePow, Int.reduceAdd, Int.reduceSub, Int.reduceNeg, Int.reduceToNat, val_dK, putTs_nil, putTs_nm, putTs_sub, val_ex, val_pl, valPl_lst, valPl_d, opt_some, toO_ok, toO_ex, asBl_ok, List.map_cons, List.map_nil, List.length_cons, List.length_nil, Nat.reduceAdd, Nat.reduceSub, Nat.zero_add, List.replicate, List.cons_append, List.nil_append, List.getElem?_cons_zero, List.getElem?_cons_succ, List.set_cons_zero, List.set_cons_succ, S.rd, S.rdD, S.store, OS.opt, Option.bind_some, Option.map_some, Cell.view, S.cell, S.isLst, S.isDct, S.rdDct, dgetV, dixV, augV, S.put, S.rdLst, cmpV, opCmp, opEq_str, opEq_int, opEq_bl, opEq_non, opEq_lst, opEq_tup, pures_app, eqv_int, eqv_bl, eqv_lst, eqv_tup, eqvs_nil, eqvs_ints, eqvs_cons, eqv_str, opIn_ints, unders_ints, set_app0, set_app1, binV, opBin, ixV, opIx, biV, biSem, biLen, biInt, biAbs, biMax2, biMin2, biSum, biAll, biAny, biList, biTuple, List.mapM_cons, List.mapM_nil, bind, pure, Option.bind, truV, D.tru, isiV, D.kind, Ty.sub, List.any_cons, List.any_nil, decide_true, decide_false, Int.cast_ofNat_Int, beq_self_eq_true, Bool.false_and, Bool.true_or, Bool.false_or, Bool.or_false, Bool.and_true, Bool.true_and, Bool.and_self, if_true, if_false, Bool.false_eq_true, reduceCtorEq, Bool.not_true, Bool.not_false, finish, D.pure, D.pures, Cell.pure, List.take_length, and_self, not_true_eq_false, not_false_eq_true, plain_int', plain_lst, plain_tup, plain_non, plain_bl, D.plainsN, pures_ints, plain_ints, List.length_map, List.length_append, at1, at2, at3, at4, at5, muV, muSem, muApp, setIx, S.fz, perm, List.getD_cons_zero, List.getD_cons_succ, $as,*])
/-! ### things that may be ways -/
/-- a short value -/
def scalB : D → Bool
  | .non => true
  | .bl _ => true
  | .int i => decide (i.natAbs.log2 < 250)
  | .str x => strOk x && decide ((reprText x).length ≤ 100)
  | _ => false
def itemB : D → Bool
  | .lst l => decide (l.length ≤ 200) && l.all scalB
  | .tup l => decide (l.length ≤ 200) && l.all scalB
  | x => scalB x
def thingB : D → Bool
  | .lst l => decide (l.length ≤ 200) && l.all itemB
  | .tup l => decide (l.length ≤ 200) && l.all itemB
  | .dct l => l.isEmpty
  | x => scalB x
theorem scal_facts {d : D} (h : scalB d = true) : (∀ n, D.plainN n d = true) ∧ d.shows = true ∧ d.cost ≤ 260 ∧ d.pure = true ∧ (∀ n, d.under n = true) ∧ (∃ s, reprD d = some s) ∧ ∃ t, d.kind = some t := by
  cases d <;> simp only [scalB, Bool.false_eq_true, Bool.and_eq_true, decide_eq_true_eq] at h
  · exact ⟨fun n => plain_non n, rfl, by decide, rfl, fun _ => rfl, ⟨_, rfl⟩, ⟨_, rfl⟩⟩
  · exact ⟨fun n => plain_bl n _, rfl, by show 5 ≤ 260; omega, rfl, fun _ => rfl, ⟨_, rfl⟩, ⟨_, rfl⟩⟩
  · rename_i i
    refine ⟨fun n => plain_int' n _, ?_, ?_, rfl, fun _ => rfl, ?_, ⟨_, rfl⟩⟩
    · show decide (i.natAbs.log2 < 1920) = true
      exact decide_eq_true (by omega)
    · show i.natAbs.log2 + 3 ≤ 260
      omega
    · exact ⟨_, by rw [reprD, if_pos (by omega)]⟩
  · rename_i x
    refine ⟨fun n => by cases n <;> exact h.1, rfl, by show (reprText x).length ≤ 260; omega, rfl, fun _ => rfl, ?_, ⟨_, rfl⟩⟩
    exact ⟨_, by rw [reprD, if_pos (by have := h.2; show _ ≤ 16777216; omega)]⟩
theorem scals_facts : ∀ {l : List D}, l.all scalB = true → (∀ n, D.plainsN n l = true) ∧ D.showss l = true ∧ D.costs l ≤ 262 * l.length ∧ D.pures l = true ∧ ∀ n, D.unders n l = true
  | [], _ => ⟨fun _ => rfl, rfl, by simp [D.costs], rfl, fun _ => rfl⟩
  | d :: l, h => by
    rw [List.all_cons, Bool.and_eq_true] at h
    obtain ⟨a1, a2, a3, a4, a5, _⟩ := scal_facts h.1
    obtain ⟨b1, b2, b3, b4, b5⟩ := scals_facts h.2
    refine ⟨fun n => by rw [D.plainsN, a1 n, b1 n]; rfl, by rw [D.showss, a2, b2]; rfl, ?_, by rw [D.pures, a4, b4]; rfl, fun n => by rw [D.unders, a5 n, b5 n]; rfl⟩
    rw [D.costs, List.length_cons]; omega
theorem item_facts {d : D} (h : itemB d = true) : (∀ n, D.plainN (n + 1) d = true) ∧ d.shows = true ∧ d.cost ≤ 52500 ∧ d.pure = true ∧ (∀ n, d.under n = true) ∧ ∃ t, d.kind = some t := by
  by_cases hs : scalB d = true
  · obtain ⟨a1, a2, a3, a4, a5, _, a7⟩ := scal_facts hs
    exact ⟨fun n => a1 _, a2, by omega, a4, a5, a7⟩
  · cases d <;> simp only [itemB, Bool.and_eq_true, decide_eq_true_eq] at h <;> first | exact absurd h hs | skip
    · obtain ⟨b1, b2, b3, b4, b5⟩ := scals_facts h.2
      refine ⟨fun n => b1 n, b2, ?_, by rw [D.pure]; exact b4, fun n => by rw [D.under]; exact b5 n, ⟨_, rfl⟩⟩
      show D.costs _ + 3 ≤ 52500
      have := Nat.mul_le_mul_left 262 h.1
      omega
    · obtain ⟨b1, b2, b3, b4, b5⟩ := scals_facts h.2
      refine ⟨fun n => b1 n, b2, ?_, by rw [D.pure]; exact b4, fun n => by rw [D.under]; exact b5 n, ⟨_, rfl⟩⟩
      show D.costs _ + 2 ≤ 52500
      have := Nat.mul_le_mul_left 262 h.1
      omega
theorem items_facts : ∀ {l : List D}, l.all itemB = true → (∀ n, D.plainsN (n + 1) l = true) ∧ D.showss l = true ∧ D.costs l ≤ 52502 * l.length ∧ D.pures l = true ∧ ∀ n, D.unders n l = true
  | [], _ => ⟨fun _ => rfl, rfl, by simp [D.costs], rfl, fun _ => rfl⟩
  | d :: l, h => by
    rw [List.all_cons, Bool.and_eq_true] at h
    obtain ⟨a1, a2, a3, a4, a5, _⟩ := item_facts h.1
    obtain ⟨b1, b2, b3, b4, b5⟩ := items_facts h.2
    refine ⟨fun n => by rw [D.plainsN, a1 n, b1 n]; rfl, by rw [D.showss, a2, b2]; rfl, ?_, by rw [D.pures, a4, b4]; rfl, fun n => by rw [D.unders, a5 n, b5 n]; rfl⟩
    rw [D.costs, List.length_cons]; omega
theorem thing_facts {d : D} (h : thingB d = true) : d.pure = true ∧ (∀ n, d.under n = true) ∧ (∃ s, reprD d = some s) ∧ ∃ t, d.kind = some t := by
  by_cases hs : scalB d = true
  · obtain ⟨a1, a2, a3, a4, a5, a6, a7⟩ := scal_facts hs
    exact ⟨a4, a5, a6, a7⟩
  · cases d <;> simp only [thingB, Bool.and_eq_true, decide_eq_true_eq] at h <;> first | exact absurd h hs | skip
    · obtain ⟨b1, b2, b3, b4, b5⟩ := items_facts h.2
      refine ⟨by rw [D.pure]; exact b4, fun n => by rw [D.under]; exact b5 n, ?_, ⟨_, rfl⟩⟩
      have := Nat.mul_le_mul_left 52502 h.1
      exact ⟨_, by rw [reprD, if_pos (by rw [b1 58, b2, decide_eq_true (show _ ≤ big by show _ ≤ 16777216; omega)]; rfl)]⟩
    · obtain ⟨b1, b2, b3, b4, b5⟩ := items_facts h.2
      refine ⟨by rw [D.pure]; exact b4, fun n => by rw [D.under]; exact b5 n, ?_, ⟨_, rfl⟩⟩
      have := Nat.mul_le_mul_left 52502 h.1
      exact ⟨_, by rw [reprD, if_pos (by rw [b1 58, b2, decide_eq_true (show _ ≤ big by show _ ≤ 16777216; omega)]; rfl)]⟩
    · rename_i l
      rw [List.isEmpty_iff] at h
      subst h
      exact ⟨rfl, fun _ => rfl, ⟨_, rfl⟩, ⟨_, rfl⟩⟩
/-! ### a loop that may end early -/
theorem for_find {α : Type} {t : T} {body : S → OS} {n : Nat} (h : α → D) (ok : Nat → α → Bool) (I : Nat → S → Prop) (r : R) (J : S → Prop) : ∀ (l : List α) (j : Nat) (s : S), I j s →
    (∀ (i : Nat) (a : α) (s : S), l[i]? = some a → I (j + i) s → ∃ s1, T.asg t (h a) s = some s1 ∧ ((ok (j + i) a = true ∧ ∃ s2, body s1 = .nx s2 ∧ I (j + i + 1) (s2.gc n)) ∨ (ok (j + i) a = false ∧ ∃ s2, body s1 = .rt r s2 ∧ J s2))) →
    (((l.zipIdx j).all (fun p => ok p.2 p.1) = true ∧ ∃ s', forLoop (fun x s => T.asg t x s) body n (l.map h) s = .nx s' ∧ I (j + l.length) s') ∨
      ((l.zipIdx j).all (fun p => ok p.2 p.1) = false ∧ ∃ s', forLoop (fun x s => T.asg t x s) body n (l.map h) s = .rt r s' ∧ J s'))
  | [], j, s, hI, _ => .inl ⟨rfl, s, rfl, hI⟩
  | a :: l, j, s, hI, k => by
    obtain ⟨s1, h1, h2⟩ := k 0 a s rfl hI
    rw [List.map_cons, forLoop, h1, List.zipIdx_cons, List.all_cons]
    rcases h2 with ⟨h2, s2, h3, h4⟩ | ⟨h2, s2, h3, h4⟩
    · have h2 : ok j a = true := h2
      simp only [h3, h2, Bool.true_and]
      have := for_find h ok I r J l (j + 1) (s2.gc n) h4 fun i b s hb hs => by
        have := k (i + 1) b s (by simpa using hb) (by rw [show j + (i + 1) = j + 1 + i by omega]; exact hs)
        rw [show j + (i + 1) = j + 1 + i by omega] at this
        exact this
      rw [List.length_cons, show j + (l.length + 1) = j + 1 + l.length by omega]
      exact this
    · have h2 : ok j a = false := h2
      simp only [h3, h2, Bool.false_and]
      exact .inr ⟨trivial, s2, rfl, h4⟩
/-! ### is_way -/
def isInt : D → Bool
  | .int _ => true
  | _ => false
theorem is_integer_ok {st : List Cell} {x : D} (h : ∃ t, x.kind = some t) : f_is_integer [x] st = .ok (.d (.bl (isInt x))) st := by
  obtain ⟨t, h⟩ := h
  unfold f_is_integer
  cases x <;> first | (cases h; done) | (simp_arith [b_is_integer, isInt]; done) | (simp_arith [b_is_integer, isInt] <;> rfl)
def okI (n : Nat) : D → Bool
  | .non => true
  | .int b => decide (0 ≤ b) && decide (b < n)
  | _ => false
def itW (c : List Mem) (i : Nat) : D → Bool
  | .non => !(mAt c i).w
  | .int b => (mAt c i).w && decide ((mAt c b.toNat).d < (mAt c i).d)
  | _ => false
def cntAt (l : List D) (i : Nat) : Int := (l.countP fun y => D.eqv y (.int i) : Nat)
def cntOk (c : List Mem) (l : List D) : Bool := ((List.range c.length).map (cntAt l) == c.map (·.n))
def wayB (c : List Mem) : D → Bool
  | .lst l => (l.length == c.length) && ((l.zipIdx.all fun p => okI c.length p.1 && itW c p.2 p.1) && cntOk c l)
  | _ => false
theorem okI_cases {n : Nat} {x : D} (h : okI n x = true) : x = .non ∨ ∃ b : Int, x = .int b ∧ 0 ≤ b ∧ b < n := by
  cases x <;> simp only [okI, Bool.false_eq_true, Bool.and_eq_true, decide_eq_true_eq] at h
  · exact .inl rfl
  · exact .inr ⟨_, rfl, h.1, h.2⟩
theorem okI_flat {n : Nat} {x : D} (h : okI n x = true) : x.flat = true := by
  rcases okI_cases h with rfl | ⟨b, rfl, _⟩ <;> rfl
/-- the numbers of the bringers, told from those that are none -/
theorem cnt_filter (l : List D) (i : Nat) : ((l.filter fun x => !x.isNon).countP fun y => D.eqv y (.int i)) = l.countP fun y => D.eqv y (.int i) := by
  induction l with
  | nil => rfl
  | cons a l ih =>
    rw [List.filter_cons, List.countP_cons]
    cases hn : a.isNon
    · rw [Bool.not_false, if_pos rfl, List.countP_cons, ih]
    · rw [Bool.not_true, if_neg Bool.false_ne_true, ih]
      cases a <;> first | (cases hn; done) | (simp only [D.eqv]; simp)
theorem cntOk_zip (c : List Mem) (l : List D) : (c.zipIdx.all fun p => cntAt l p.2 == p.1.n) = cntOk c l := by
  unfold cntOk
  have key : ∀ (c : List Mem) (k : Nat), ((c.zipIdx k).all fun p => cntAt l p.2 == p.1.n) = ((List.range' k c.length).map (cntAt l) == c.map (·.n)) := fun c => by
    induction c with
    | nil => intro k; rfl
    | cons m c ih =>
      intro k
      rw [List.zipIdx_cons, List.all_cons, ih (k + 1), List.length_cons, List.range'_succ, List.map_cons, List.map_cons]
      rfl
  rw [key c 0, List.range_eq_range']
theorem flat_filter {n : Nat} {l : List D} (h : l.all (okI n) = true) : (l.filter fun x => !x.isNon).all D.flat = true := by
  rw [List.all_eq_true] at h ⊢
  exact fun x hx => okI_flat (h x (List.mem_filter.mp hx).1)
end G4

namespace G4
open PySem PySem.Spec PyProof.Rows L2
local macro_rules
  | `(tactic| simp_arith [$as,*]) => `(tactic| simp -implicitDefEqProofs only [tl_table_of_1, tl_table_of_2, tl_table_of_3, tl_ways_of_1, tl_ways_of_2, tl__law_toss_1, tl__law_toss_2, tl__law_toss_3, tl__law_made_1, tl__law_made_2, tl__law_made_3, tl__law_made_4, tl__law_made_5, tl__law_made_6, tl__law_made_7, tl__law_made_8, tl__law_bent_1, tl__law_bent_2, tl__law_bent_3, tl__law_bent_4, tl__law_right_1, tl__law_right_2, tl_law_1, tl_law_2, tl_law_3, tl_law_4, tl_law_5, tl_law_6, ↓bnd_eq, ↓off_eq, ↓thn_eq, run_eq, fin_nx, fin_rt, fin_ex, S.hide, hideSl, exms, exm, ev, evT, evs, evOs, evo, evc, evSrc, evPar, hb_ok, hb_ex, ho_ok, ho_ex, ht_nx, ht_rt, ht_ex, tb_nx, tb_rt, tb_ex, hd_setB, hd_setT, hd_retT, D.flat, opd_d, opd_pl, opd_lst, opd_ex, val_d, val_lst, List.append_assoc, List.length_set, gc_push, gc_id, take_push, take_id, get_app0, get_app1, get_app2, isNew0, isNew1, isNew_int, isNew_str, isNew_bl, isNew_non, isNew_tup, isNew_lst, keep_un, keep_int, keep_bl, keep_non, keep_str, keep_scr, keep_obj, keep_own_lst, keep_own_dK, pureK_nil, keep_lst, keep_tup, D.unders, ne_succ, ne_succ1, eq_self, nodup2, nodup3, List.filterMap_cons, List.filterMap_nil, putPar, D.under, List.nodup_cons, List.mem_cons, List.not_mem_nil, or_self, or_false, Nat.reduceEqDiff, List.nodup_nil, true_and, and_true, bits10, Int.reduceMul, Int.reduceLE, Int.reduceLT, Int.reducePow, Int.reduceAdd, Int.reduceSub, Int.reduceNeg, Int.reduceToNat, val_dK, putTs_nil, putTs_nm, putTs_sub, val_ex, val_pl, valPl_lst, valPl_d, opt_some, toO_ok, toO_ex, asBl_ok, List.map_cons, List.map_nil, List.length_cons, List.length_nil, Nat.reduceAdd, Nat.reduceSub, Nat.zero_add, List.replicate, List.cons_append, List.nil_append, List.getElem?_cons_zero, List.getElem?_cons_succ, List.set_cons_zero, List.set_cons_succ, S.rd, S.rdD, S.store, OS.opt, Option.bind_some, Option.map_some, Cell.view, S.cell, S.isLst, S.isDct, S.rdDct, dgetV, dixV, augV, S.put, S.rdLst, cmpV, opCmp, opEq_str, opEq_int, opEq_bl, opEq_non, opEq_lst, opEq_tup, pures_app, eqv_int, eqv_bl, eqv_lst, eqv_tup, eqvs_nil, eqvs_ints, eqvs_cons, eqv_str, opIn_ints, unders_ints, set_app0, set_app1, binV, opBin, ixV, opIx, biV, biSem, biLen, biInt, biAbs, biMax2, biMin2, biSum, biAll, biAny, biList, biTuple, List.mapM_cons, List.mapM_nil, bind, pure, Option.bind, truV, D.tru, isiV, D.kind, Ty.sub, List.any_cons, List.any_nil, decide_true, decide_false, Int.cast_ofNat_Int, beq_self_eq_true, Bool.false_and, Bool.true_or, Bool.false_or, Bool.or_false, Bool.and_true, Bool.true_and, Bool.and_self, if_true, if_false, Bool.false_eq_true, reduceCtorEq, Bool.not_true, Bool.not_false, finish, D.pure, D.pures, Cell.pure, List.take_length, and_self, not_true_eq_false, not_false_eq_true, plain_int', plain_lst, plain_tup, plain_non, plain_bl, D.plainsN, pures_ints, plain_ints, List.length_map, List.length_append, at1, at2, at3, at4, at5, muV, muSem, muApp, setIx, S.fz, perm, List.getD_cons_zero, List.getD_cons_succ, $as,*])
/-! ### dicts from days to ints -/
def mapK (ds : List Int) (f : Int → Int) : List (L2.Key × D) := ds.map fun d => (Sum.inl d, D.int (f d))
theorem mapK_look (ds : List Int) (f : Int → Int) (d : Int) : lookK (mapK ds f) (.inl d) = if d ∈ ds then some (.int (f d)) else none := by
  induction ds with
  | nil => rfl
  | cons a ds ih =>
    unfold lookK mapK at ih ⊢
    rw [List.map_cons, List.find?_cons]
    by_cases h : a = d
    · subst h
      simp
    · have h1 : decide ((Sum.inl a : L2.Key) = Sum.inl d) = false := decide_eq_false fun e => h (Sum.inl.inj e)
      simp only [h1]
      rw [ih]
      simp [Ne.symm h]
theorem mapK_get (ds : List Int) (f : Int → Int) (d : Int) (h : d ∉ ds → f d = 0) : (lookK (mapK ds f) (.inl d)).getD (.int 0) = .int (f d) := by
  rw [mapK_look]
  by_cases q : d ∈ ds
  · rw [if_pos q]; rfl
  · rw [if_neg q, h q]; rfl
theorem mapK_any (ds : List Int) (f : Int → Int) (d : Int) : ((mapK ds f).any fun kv => decide (kv.1 = Sum.inl d)) = decide (d ∈ ds) := by
  induction ds with
  | nil => rfl
  | cons a ds ih =>
    unfold mapK at ih ⊢
    rw [List.map_cons, List.any_cons, ih]
    by_cases h : a = d
    · subst h; simp
    · have h1 : decide ((Sum.inl a : L2.Key) = Sum.inl d) = false := decide_eq_false fun e => h (Sum.inl.inj e)
      simp only [h1, Bool.false_or]
      simp [Ne.symm h]
theorem mapK_put (ds : List Int) (f g : Int → Int) (d v : Int) (hv : g d = v) (h : ∀ x, x ≠ d → g x = f x) : putD (mapK ds f) (.inl d) (.int v) = mapK (if d ∈ ds then ds else ds ++ [d]) g := by
  unfold putD
  rw [mapK_any]
  by_cases q : d ∈ ds
  · rw [if_pos (decide_eq_true q), if_pos q]
    unfold mapK
    rw [List.map_map]
    refine List.map_congr_left fun x _ => ?_
    show (if (Sum.inl x : L2.Key) = Sum.inl d then _ else _) = _
    by_cases e : x = d
    · subst e; rw [if_pos rfl, hv]
    · rw [if_neg fun z => e (Sum.inl.inj z), h x e]
  · rw [if_neg (by rw [decide_eq_false q]; exact Bool.false_ne_true), if_neg q]
    unfold mapK
    rw [List.map_append]
    congr 1
    · refine List.map_congr_left fun x hx => ?_
      rw [h x fun e => q (e ▸ hx)]
    · rw [List.map_cons, List.map_nil, hv]
theorem mapK_keys (ds : List Int) (f : Int → Int) : keysI (mapK ds f) = some ds := by
  induction ds with
  | nil => rfl
  | cons a ds ih =>
    unfold mapK at ih ⊢
    rw [List.map_cons, keysI, ih]; rfl
theorem mapK_len (ds : List Int) (f : Int → Int) : (mapK ds f).length = ds.length := by unfold mapK; rw [List.length_map]
/-! ### the table of a club -/
/-- the numbers, and the brought ones, of one day -/
def onD (c : List Mem) (t : Int) : Int := ((c.filter fun m => m.d == t).map (·.n)).sum
def brD (c : List Mem) (t : Int) : Int := ((c.filter fun m => (m.d == t) && m.w).length : Nat)
theorem onD_app (c : List Mem) (m : Mem) (t : Int) : onD (c ++ [m]) t = onD c t + if m.d = t then m.n else 0 := by
  unfold onD
  rw [List.filter_append, List.map_append, List.sum_append]
  by_cases h : m.d = t
  · simp [h]
  · have : (m.d == t) = false := by simpa using h
    simp [this, h]
theorem brD_app (c : List Mem) (m : Mem) (t : Int) : brD (c ++ [m]) t = brD c t + if m.d = t ∧ m.w = true then 1 else 0 := by
  unfold brD
  rw [List.filter_append, List.length_append]
  by_cases h : m.d = t
  · cases hw : m.w <;> simp [h, hw]
  · have : (m.d == t) = false := by simpa using h
    simp [this, h]
def dayF (acc : List Int) (m : Mem) : List Int := if m.d ∈ acc then acc else acc ++ [m.d]
theorem onD_none {c : List Mem} {t : Int} (h : ∀ m ∈ c, m.d ≠ t) : onD c t = 0 ∧ brD c t = 0 := by
  unfold onD brD
  have h1 : (c.filter fun m => m.d == t) = [] := List.filter_eq_nil_iff.mpr fun m hm => by simpa using h m hm
  have h2 : (c.filter fun m => (m.d == t) && m.w) = [] := List.filter_eq_nil_iff.mpr fun m hm => by simp [h m hm]
  rw [h1, h2]
  exact ⟨rfl, rfl⟩
theorem mem_dayF : ∀ (c : List Mem) (acc : List Int) (x : Int), x ∈ c.foldl dayF acc ↔ (x ∈ acc ∨ ∃ m ∈ c, m.d = x)
  | [], acc, x => by simp
  | m :: c, acc, x => by
    rw [List.foldl_cons, mem_dayF c]
    unfold dayF
    split
    · rename_i h
      constructor
      · rintro (q | ⟨y, hy, e⟩)
        · exact .inl q
        · exact .inr ⟨y, List.mem_cons_of_mem _ hy, e⟩
      · rintro (q | ⟨y, hy, e⟩)
        · exact .inl q
        · rcases List.mem_cons.mp hy with rfl | hy
          · exact .inl (e ▸ h)
          · exact .inr ⟨y, hy, e⟩
    · rw [List.mem_append, List.mem_singleton]
      constructor
      · rintro ((q | q) | ⟨y, hy, e⟩)
        · exact .inl q
        · exact .inr ⟨m, List.mem_cons_self, q.symm⟩
        · exact .inr ⟨y, List.mem_cons_of_mem _ hy, e⟩
      · rintro (q | ⟨y, hy, e⟩)
        · exact .inl (.inl q)
        · rcases List.mem_cons.mp hy with rfl | hy
          · exact .inl (.inr e.symm)
          · exact .inr ⟨y, hy, e⟩
theorem nodup_dayF : ∀ (c : List Mem) (acc : List Int), acc.Nodup → (c.foldl dayF acc).Nodup
  | [], acc, h => h
  | m :: c, acc, h => by
    rw [List.foldl_cons]
    refine nodup_dayF c _ ?_
    unfold dayF
    split
    · exact h
    · rename_i q
      rw [List.nodup_append]
      exact ⟨h, by simp, fun a ha b hb e => q (by rw [List.mem_singleton.mp hb] at e; exact e ▸ ha)⟩
theorem len_dayF : ∀ (c : List Mem) (acc : List Int), (c.foldl dayF acc).length ≤ acc.length + c.length
  | [], acc => Nat.le_refl _
  | m :: c, acc => by
    rw [List.foldl_cons, List.length_cons]
    have h1 := len_dayF c (dayF acc m)
    have h2 : (dayF acc m).length ≤ acc.length + 1 := by unfold dayF; split <;> simp
    omega
/-- a turn of the first loop -/
theorem table_turn {st : List Cell} {c p : List Mem} {m : Mem} {v6 v7 v8 : SV} (hl : p.length ≤ 1000) :
    exms fb_table_of_2 ⟨[.d (clubD c), .own (.dK (mapK (p.foldl dayF []) (onD p))), .own (.dK (mapK (p.foldl dayF []) (brD p))), .d (.int m.d), .d (.str (wd m.w)), .d (.int m.n), v6, v7, v8], st⟩ =
      .nx ⟨[.d (clubD c), .own (.dK (mapK ((p ++ [m]).foldl dayF []) (onD (p ++ [m])))), .own (.dK (mapK ((p ++ [m]).foldl dayF []) (brD (p ++ [m])))), .d (.int m.d), .d (.str (wd m.w)), .d (.int m.n), v6, v7, v8], st⟩ := by
  have e1 : (p ++ [m]).foldl dayF [] = if m.d ∈ p.foldl dayF [] then p.foldl dayF [] else p.foldl dayF [] ++ [m.d] := by rw [List.foldl_append]; rfl
  have hno : m.d ∉ p.foldl dayF [] → onD p m.d = 0 ∧ brD p m.d = 0 := fun h => onD_none fun x hx e => h ((mem_dayF p [] m.d).mpr (.inr ⟨x, hx, e⟩))
  have g1 := mapK_get (p.foldl dayF []) (onD p) m.d fun h => (hno h).1
  have g2 := mapK_get (p.foldl dayF []) (brD p) m.d fun h => (hno h).2
  have p1 := mapK_put (p.foldl dayF []) (onD p) (onD (p ++ [m])) m.d (onD p m.d + m.n) (by rw [onD_app, if_pos rfl]) fun x hx => by rw [onD_app, if_neg (Ne.symm hx), Int.add_zero]
  have p2 := mapK_put (p.foldl dayF []) (brD p) (brD (p ++ [m])) m.d (brD p m.d + b2i m.w) (by rw [brD_app]; cases m.w <;> simp [b2i]) fun x hx => by rw [brD_app, if_neg (fun z => hx z.1.symm), Int.add_zero]
  rw [← e1] at p1 p2
  have hk := len_dayF p []
  have hb1 : (mapK (p.foldl dayF []) (onD p)).length < big := by rw [mapK_len]; show _ < 16777216; simp at hk; omega
  have hb2 : (mapK (p.foldl dayF []) (brD p)).length < big := by rw [mapK_len]; show _ < 16777216; simp at hk; omega
  unfold fb_table_of_2
  simp_arith [keyOf, g1, g2, p1, p2, hb1, hb2, wd_br]

end G4

namespace G4
open PySem PySem.Spec PyProof.Rows L2
local macro_rules
  | `(tactic| simp_arith [$as,*]) => `(tactic| simp -implicitDefEqProofs only [tl_table_of_1, tl_table_of_2, tl_table_of_3, tl_ways_of_1, tl_ways_of_2, tl__law_toss_1, tl__law_toss_2, tl__law_toss_3, tl__law_made_1, tl__law_made_2, tl__law_made_3, tl__law_made_4, tl__law_made_5, tl__law_made_6, tl__law_made_7, tl__law_made_8, tl__law_bent_1, tl__law_bent_2, tl__law_bent_3, tl__law_bent_4, tl__law_right_1, tl__law_right_2, tl_law_1, tl_law_2, tl_law_3, tl_law_4, tl_law_5, tl_law_6, ↓bnd_eq, ↓off_eq, ↓thn_eq, run_eq, fin_nx, fin_rt, fin_ex, S.hide, hideSl, exms, exm, ev, evT, evs, evOs, evo, evc, evSrc, evPar, hb_ok, hb_ex, ho_ok, ho_ex, ht_nx, ht_rt, ht_ex, tb_nx, tb_rt, tb_ex, hd_setB, hd_setT, hd_retT, D.flat, opd_d, opd_pl, opd_lst, opd_ex, val_d, val_lst, List.append_assoc, List.length_set, gc_push, gc_id, take_push, take_id, get_app0, get_app1, get_app2, isNew0, isNew1, isNew_int, isNew_str, isNew_bl, isNew_non, isNew_tup, isNew_lst, keep_un, keep_int, keep_bl, keep_non, keep_str, keep_scr, keep_obj, keep_own_lst, keep_own_dK, pureK_nil, keep_lst, keep_tup, D.unders, ne_succ, ne_succ1, eq_self, nodup2, nodup3, List.filterMap_cons, List.filterMap_nil, putPar, D.under, List.nodup_cons, List.mem_cons, List.not_mem_nil, or_self, or_false, Nat.reduceEqDiff, List.nodup_nil, true_and, and_true, bits10, Int.reduceMul, Int.reduceLE, Int.reduceLT, Int.reducePow, Int.reduceAdd, Int.reduceSub, Int.reduceNeg, Int.reduceToNat, val_dK, putTs_nil, putTs_nm, putTs_sub, val_ex, val_pl, valPl_lst, valPl_d, opt_some, toO_ok, toO_ex, asBl_ok, List.map_cons, List.map_nil, List.length_cons, List.length_nil, Nat.reduceAdd, Nat.reduceSub, Nat.zero_add, List.replicate, List.cons_append, List.nil_append, List.getElem?_cons_zero, List.getElem?_cons_succ, List.set_cons_zero, List.set_cons_succ, S.rd, S.rdD, S.store, OS.opt, Option.bind_some, Option.map_some, Cell.view, S.cell, S.isLst, S.isDct, S.rdDct, dgetV, dixV, augV, S.put, S.rdLst, cmpV, opCmp, opEq_str, opEq_int, opEq_bl, opEq_non, opEq_lst, opEq_tup, pures_app, eqv_int, eqv_bl, eqv_lst, eqv_tup, eqvs_nil, eqvs_ints, eqvs_cons, eqv_str, opIn_ints, unders_ints, set_app0, set_app1, binV, opBin, ixV, opIx, biV, biSem, biLen, biInt, biAbs, biMax2, biMin2, biSum, biAll, biAny, biList, biTuple, List.mapM_cons, List.mapM_nil, bind, pure, Option.bind, truV, D.tru, isiV, D.kind, Ty.sub, List.any_cons, List.any_nil, decide_true, decide_false, Int.cast_ofNat_Int, beq_self_eq_true, Bool.false_and, Bool.true_or, Bool.false_or, Bool.or_false, Bool.and_true, Bool.true_and, Bool.and_self, if_true, if_false, Bool.false_eq_true, reduceCtorEq, Bool.not_true, Bool.not_false, finish, D.pure, D.pures, Cell.pure, List.take_length, and_self, not_true_eq_false, not_false_eq_true, plain_int', plain_lst, plain_tup, plain_non, plain_bl, D.plainsN, pures_ints, plain_ints, List.length_map, List.length_append, at1, at2, at3, at4, at5, muV, muSem, muApp, setIx, S.fz, perm, List.getD_cons_zero, List.getD_cons_succ, $as,*])
def freeT (c : List Mem) (t : Int) : Int := ((c.filter fun m => decide (m.d < t)).map (·.n)).sum - ((c.filter fun m => decide (m.d < t) && m.w).length : Nat)
def slackT (c : List Mem) (t : Int) : Int := ((c.filter fun m => decide (m.d < t)).map (·.n)).sum - ((c.filter fun m => decide (m.d ≤ t) && m.w).length : Nat)
/-- the days of a club, ascending -/
def dayS (c : List Mem) : List Int := isort (c.foldl dayF [])
theorem mem_dayS {c : List Mem} {t : Int} : t ∈ dayS c ↔ ∃ m ∈ c, m.d = t := by
  unfold dayS isort
  rw [List.mem_mergeSort, mem_dayF]
  simp
theorem dayS_strict (c : List Mem) : (dayS c).Pairwise (· < ·) := isort_lt (nodup_dayF c [] List.nodup_nil)
theorem slack_free (c : List Mem) (t : Int) : slackT c t = freeT c t - brD c t := by
  unfold slackT freeT brD
  have : (c.filter fun m => decide (m.d ≤ t) && m.w).length = (c.filter fun m => decide (m.d < t) && m.w).length + (c.filter fun m => (m.d == t) && m.w).length := by
    induction c with
    | nil => rfl
    | cons m c ih =>
      simp only [List.filter_cons]
      rcases Int.lt_trichotomy m.d t with h | h | h
      · have h1 : m.d ≤ t := by omega
        have h2 : (m.d == t) = false := by simp; omega
        cases m.w <;> simp [h, h1, h2] <;> omega
      · have h1 : m.d ≤ t := by omega
        have h2 : (m.d == t) = true := by simp; omega
        have h3 : ¬ m.d < t := by omega
        cases m.w <;> simp [h1, h2, h3] <;> omega
      · have h1 : ¬ m.d ≤ t := by omega
        have h2 : (m.d == t) = false := by simp; omega
        have h3 : ¬ m.d < t := by omega
        cases m.w <;> simp [h1, h2, h3] <;> omega
  rw [this]
  omega
theorem onD_cons (m : Mem) (c : List Mem) (t : Int) : onD (m :: c) t - brD (m :: c) t = (if m.d = t then m.n - b2i m.w else 0) + (onD c t - brD c t) := by
  unfold onD brD
  by_cases h : m.d = t
  · cases hw : m.w <;> simp [List.filter_cons, h, hw, b2i] <;> omega
  · have : (m.d == t) = false := by simpa using h
    simp [List.filter_cons, this, h]
theorem sum_days (m : Mem) (c : List Mem) : ∀ P : List Int, P.Nodup → (P.map fun d => onD (m :: c) d - brD (m :: c) d).sum = (if m.d ∈ P then m.n - b2i m.w else 0) + (P.map fun d => onD c d - brD c d).sum
  | [], _ => by simp
  | d :: P, h => by
    obtain ⟨h1, h2⟩ := List.nodup_cons.mp h
    rw [List.map_cons, List.sum_cons, List.map_cons, List.sum_cons, sum_days m c P h2, onD_cons]
    by_cases e : m.d = d
    · subst e
      simp [h1]; omega
    · by_cases q : m.d ∈ P
      · simp [e, q]; omega
      · simp [e, q]
theorem freeT_cons (m : Mem) (c : List Mem) (t : Int) : freeT (m :: c) t = (if m.d < t then m.n - b2i m.w else 0) + freeT c t := by
  unfold freeT
  by_cases h : m.d < t
  · cases hw : m.w <;> simp [List.filter_cons, h, hw, b2i] <;> omega
  · simp [List.filter_cons, h]
theorem free_sum (t : Int) (P : List Int) (hP : P.Nodup) : ∀ c : List Mem, (∀ m ∈ c, m.d ∈ P ↔ m.d < t) → freeT c t = (P.map fun d => onD c d - brD c d).sum
  | [], h => by
    clear h
    have : (P.map fun d => onD [] d - brD [] d) = P.map fun _ => 0 := List.map_congr_left fun d _ => rfl
    rw [this]
    clear hP this
    induction P with
    | nil => rfl
    | cons d P ih => rw [List.map_cons, List.sum_cons, ← ih]; rfl
  | m :: c, h => by
    rw [sum_days m c P hP, freeT_cons, free_sum t P hP c fun x hx => h x (List.mem_cons_of_mem _ hx)]
    have := h m List.mem_cons_self
    by_cases q : m.d < t
    · rw [if_pos q, if_pos (this.mpr q)]
    · rw [if_neg q, if_neg fun z => q (this.mp z)]
/-- a row of the table -/
def rowD (c : List Mem) (t : Int) : D := .tup [.int t, .int (freeT c t), .int (slackT c t)]
theorem table_row {st : List Cell} {c0 : D} {c : List Mem} {ds : List Int} {t f : Int} {L : List D} {v4 v5 v8 : SV} (ht : t ∈ ds) (hL : L.length < 1000) (hf : f = freeT c t) :
    exms fb_table_of_1 ⟨[.d c0, .own (.dK (mapK ds (onD c))), .own (.dK (mapK ds (brD c))), .d (.int t), v4, v5, .own (.lst L), .d (.int f), v8], st⟩ =
      .nx ⟨[.d c0, .own (.dK (mapK ds (onD c))), .own (.dK (mapK ds (brD c))), .d (.int t), v4, v5, .own (.lst (L ++ [rowD c t])), .d (.int (f + (onD c t - brD c t))), .d (.int (slackT c t))], st⟩ := by
  have g1 : lookK (mapK ds (onD c)) (.inl t) = some (.int (onD c t)) := by rw [mapK_look, if_pos ht]
  have g2 : lookK (mapK ds (brD c)) (.inl t) = some (.int (brD c t)) := by rw [mapK_look, if_pos ht]
  have hb : L.length < big := by show _ < 16777216; omega
  have hs : f - brD c t = slackT c t := by rw [slack_free, hf]
  have hs2 : slackT c t + onD c t = f + (onD c t - brD c t) := by rw [← hs]; omega
  unfold fb_table_of_1
  simp_arith [keyOf, g1, g2, hb, hs, hs2]
  simp only [rowD, ← hf]
theorem table_ok {st : List Cell} {c : List Mem} (hl : c.length ≤ 60) : f_table_of [clubD c] st = .ok (.new (.lst ((dayS c).map (rowD c)))) st := by
  obtain ⟨s1, k1, v3, v4, v5, rfl⟩ := for_lst (t := .tp [.nm 3, .nm 4, .nm 5]) (body := fun s => exms fb_table_of_2 s) (n := st.length) c Mem.D
    (fun j s => ∃ v3 v4 v5, s = ⟨[.d (clubD c), .own (.dK (mapK ((c.take j).foldl dayF []) (onD (c.take j)))), .own (.dK (mapK ((c.take j).foldl dayF []) (brD (c.take j)))), v3, v4, v5, .un, .un, .un], st⟩)
    ⟨[.d (clubD c), .own (.dK []), .own (.dK []), .un, .un, .un, .un, .un, .un], st⟩ ⟨_, _, _, rfl⟩ fun j m s ha hI => by
      obtain ⟨v3, v4, v5, rfl⟩ := hI
      have ht : c.take (j + 1) = c.take j ++ [m] := by rw [List.take_succ, ha]; rfl
      have e := table_turn (st := st) (c := c) (p := c.take j) (m := m) (v6 := .un) (v7 := .un) (v8 := .un) (by rw [List.length_take]; omega)
      exact ⟨_, _, rfl, .inl e, .d (.int m.d), .d (.str (wd m.w)), .d (.int m.n), by rw [ht]; exact gc_id rfl⟩
  rw [List.take_length] at k1
  generalize hds : c.foldl dayF [] = ds at k1
  have hdl : ds.length < 64 := by
    rw [← hds]
    have := len_dayF c []
    simp at this; omega
  have hS : isort ds = dayS c := by rw [← hds]; rfl
  have hmem : ∀ t ∈ dayS c, t ∈ ds := fun t ht => by rw [← hds, mem_dayF]; exact .inr (mem_dayS.mp ht)
  have hst := dayS_strict c
  have hlen : (dayS c).length < 64 := by
    rw [← hS]; unfold isort; rw [List.length_mergeSort]; exact hdl
  have K2 := fun v3 v4 v5 => for_lst (t := .nm 3) (body := fun s => exms fb_table_of_1 s) (n := st.length) (dayS c) D.int
    (fun j s => ∃ v3 v8, s = ⟨[.d (clubD c), .own (.dK (mapK ds (onD c))), .own (.dK (mapK ds (brD c))), v3, v4, v5, .own (.lst (((dayS c).take j).map (rowD c))), .d (.int ((((dayS c).take j).map fun d => onD c d - brD c d).sum)), v8], st⟩)
    ⟨[.d (clubD c), .own (.dK (mapK ds (onD c))), .own (.dK (mapK ds (brD c))), v3, v4, v5, .own (.lst []), .d (.int 0), .un], st⟩ ⟨_, _, rfl⟩ fun j t s ha hI => by
      obtain ⟨v3, v8, rfl⟩ := hI
      have ht : (dayS c).take (j + 1) = (dayS c).take j ++ [t] := by rw [List.take_succ, ha]; rfl
      have hf : (((dayS c).take j).map fun d => onD c d - brD c d).sum = freeT c t := by
        refine (free_sum t _ ((hst.imp fun h => Int.ne_of_lt h).sublist (List.take_sublist _ _)) c fun m hm => ?_).symm
        have hmd : m.d ∈ dayS c := mem_dayS.mpr ⟨m, hm, rfl⟩
        obtain ⟨h1, h2⟩ := List.getElem?_eq_some_iff.mp ha
        obtain ⟨i, hi, hi2⟩ := List.getElem_of_mem hmd
        have hlt := List.pairwise_iff_getElem.mp hst
        constructor
        · intro h
          obtain ⟨i', hi', e'⟩ := List.getElem_of_mem h
          rw [List.getElem_take] at e'
          rw [List.length_take] at hi'
          have := hlt i' j (by omega) h1 (by omega)
          rw [e', h2] at this
          exact this
        · intro h
          rw [List.mem_iff_getElem]
          by_cases q : i < j
          · exact ⟨i, by rw [List.length_take]; omega, by rw [List.getElem_take]; exact hi2⟩
          · exfalso
            by_cases q2 : i = j
            · subst q2; rw [hi2] at h2; omega
            · have := hlt j i h1 hi (by omega)
              rw [hi2, h2] at this; omega
      have e := table_row (st := st) (c0 := clubD c) (c := c) (ds := ds) (t := t) (L := ((dayS c).take j).map (rowD c)) (v4 := v4) (v5 := v5) (v8 := v8) (hmem t (List.mem_of_getElem? ha)) (by rw [List.length_map, List.length_take]; omega) hf
      refine ⟨_, _, rfl, .inl e, .d (.int t), .d (.int (slackT c t)), ?_⟩
      rw [ht, List.map_append, List.map_append, List.sum_append]
      simp only [List.map_cons, List.map_nil, List.sum_cons, List.sum_nil, Int.add_zero]
      exact gc_id rfl
  have pr : D.pures ((dayS c).map (rowD c)) = true := by
    generalize dayS c = l
    induction l with
    | nil => rfl
    | cons t l ih => rw [List.map_cons, D.pures, ih]; rfl
  obtain ⟨s2, k2, v3', v8, rfl⟩ := K2 (SV.keep st.length v3) (SV.keep st.length v4) (SV.keep st.length v5)
  rw [List.take_length] at k2
  unfold clubD at k1 k2
  unfold f_table_of
  have hin : intsD ((dayS c).map .int) = some (dayS c) := intsD_map _
  have e0 : (mapK ds (onD c)).length = ds.length := mapK_len _ _
  have pk : ∀ f, D.pureK (mapK ds f) = true := fun f => by
    clear hdl hS hmem k1 k2 hin e0 hds K2
    induction ds with
    | nil => rfl
    | cons t l ih =>
      unfold mapK at ih ⊢
      rw [List.map_cons, D.pureK, ih]; rfl
  simp_arith [b_table_of, clubD, unders_mems]
  rw [k1]
  simp_arith [biSorted, mapK_keys, hdl, hS, unders_mems, pk]
  rw [k2]
  simp_arith [pr]

end G4

namespace G4
open PySem PySem.Spec PyProof.Rows L2
local macro_rules
  | `(tactic| simp_arith [$as,*]) => `(tactic| simp -implicitDefEqProofs only [tl_table_of_1, tl_table_of_2, tl_table_of_3, tl_ways_of_1, tl_ways_of_2, tl__law_toss_1, tl__law_toss_2, tl__law_toss_3, tl__law_made_1, tl__law_made_2, tl__law_made_3, tl__law_made_4, tl__law_made_5, tl__law_made_6, tl__law_made_7, tl__law_made_8, tl__law_bent_1, tl__law_bent_2, tl__law_bent_3, tl__law_bent_4, tl__law_right_1, tl__law_right_2, tl_law_1, tl_law_2, tl_law_3, tl_law_4, tl_law_5, tl_law_6, ↓bnd_eq, ↓off_eq, ↓thn_eq, run_eq, fin_nx, fin_rt, fin_ex, S.hide, hideSl, exms, exm, ev, evT, evs, evOs, evo, evc, evSrc, evPar, hb_ok, hb_ex, ho_ok, ho_ex, ht_nx, ht_rt, ht_ex, tb_nx, tb_rt, tb_ex, hd_setB, hd_setT, hd_retT, D.flat, opd_d, opd_pl, opd_lst, opd_ex, val_d, val_lst, List.append_assoc, List.length_set, gc_push, gc_id, take_push, take_id, get_app0, get_app1, get_app2, isNew0, isNew1, isNew_int, isNew_str, isNew_bl, isNew_non, isNew_tup, isNew_lst, keep_un, keep_int, keep_bl, keep_non, keep_str, keep_scr, keep_obj, keep_own_lst, keep_own_dK, pureK_nil, keep_lst, keep_tup, D.unders, ne_succ, ne_succ1, eq_self, nodup2, nodup3, List.filterMap_cons, List.filterMap_nil, putPar, D.under, List.nodup_cons, List.mem_cons, List.not_mem_nil, or_self, or_false, Nat.reduceEqDiff, List.nodup_nil, true_and, and_true, bits10, Int.reduceMul, Int.reduceLE, Int.reduceLT, Int.reducePow, Int.reduceAdd, Int.reduceSub, Int.reduceNeg, Int.reduceToNat, val_dK, putTs_nil, putTs_nm, putTs_sub, val_ex, val_pl, valPl_lst, valPl_d, opt_some, toO_ok, toO_ex, asBl_ok, List.map_cons, List.map_nil, List.length_cons, List.length_nil, Nat.reduceAdd, Nat.reduceSub, Nat.zero_add, List.replicate, List.cons_append, List.nil_append, List.getElem?_cons_zero, List.getElem?_cons_succ, List.set_cons_zero, List.set_cons_succ, S.rd, S.rdD, S.store, OS.opt, Option.bind_some, Option.map_some, Cell.view, S.cell, S.isLst, S.isDct, S.rdDct, dgetV, dixV, augV, S.put, S.rdLst, cmpV, opCmp, opEq_str, opEq_int, opEq_bl, opEq_non, opEq_lst, opEq_tup, pures_app, eqv_int, eqv_bl, eqv_lst, eqv_tup, eqvs_nil, eqvs_ints, eqvs_cons, eqv_str, opIn_ints, unders_ints, set_app0, set_app1, binV, opBin, ixV, opIx, biV, biSem, biLen, biInt, biAbs, biMax2, biMin2, biSum, biAll, biAny, biList, biTuple, List.mapM_cons, List.mapM_nil, bind, pure, Option.bind, truV, D.tru, isiV, D.kind, Ty.sub, List.any_cons, List.any_nil, decide_true, decide_false, Int.cast_ofNat_Int, beq_self_eq_true, Bool.false_and, Bool.true_or, Bool.false_or, Bool.or_false, Bool.and_true, Bool.true_and, Bool.and_self, if_true, if_false, Bool.false_eq_true, reduceCtorEq, Bool.not_true, Bool.not_false, finish, D.pure, D.pures, Cell.pure, List.take_length, and_self, not_true_eq_false, not_false_eq_true, plain_int', plain_lst, plain_tup, plain_non, plain_bl, D.plainsN, pures_ints, plain_ints, List.length_map, List.length_append, at1, at2, at3, at4, at5, muV, muSem, muApp, setIx, S.fz, perm, List.getD_cons_zero, List.getD_cons_succ, $as,*])
/-! ### a club with a way is possible -/
theorem sum_one (b : Nat) : ∀ (l : List Nat), l.Nodup → ∀ f g : Nat → Int, g b = f b + 1 → (∀ x, x ≠ b → g x = f x) → (l.map g).sum = (l.map f).sum + if b ∈ l then 1 else 0
  | [], _, f, g, _, _ => by simp
  | a :: l, h, f, g, h1, h2 => by
    obtain ⟨n1, n2⟩ := List.nodup_cons.mp h
    rw [List.map_cons, List.map_cons, List.sum_cons, List.sum_cons, sum_one b l n2 f g h1 h2]
    by_cases e : a = b
    · subst e
      rw [h1]; simp [n1]; omega
    · rw [h2 a e]
      by_cases q : b ∈ l
      · simp [q]; omega
      · simp [q, Ne.symm e]
def pO (p : Nat → Bool) : Option Nat → Bool
  | some b => p b
  | none => false
theorem sum_counts (p : Nat → Bool) (n : Nat) : ∀ w : List (Option Nat), (∀ b, some b ∈ w → b < n) → (((List.range n).filter p).map fun b => ((w.count (some b) : Nat) : Int)).sum = ((w.countP (pO p) : Nat) : Int)
  | [], _ => by
    simp only [List.count_nil, List.countP_nil]
    generalize (List.range n).filter p = l
    induction l with
    | nil => rfl
    | cons a l ih => rw [List.map_cons, List.sum_cons, ih]; rfl
  | none :: w, h => by
    have ih := sum_counts p n w fun b hb => h b (List.mem_cons_of_mem _ hb)
    rw [List.countP_cons]
    have : ∀ b : Nat, (none :: w).count (some b) = w.count (some b) := fun b => by rw [List.count_cons]; simp
    simp only [this, ih, pO]
    simp
  | some b :: w, h => by
    have ih := sum_counts p n w fun b hb => h b (List.mem_cons_of_mem _ hb)
    have hb := h b List.mem_cons_self
    rw [List.countP_cons, sum_one b _ (List.nodup_range.sublist List.filter_sublist) (fun x => ((w.count (some x) : Nat) : Int)) _ (by simp) (fun x hx => by
      rw [List.count_cons]
      have : (some b == some x) = false := by simp; omega
      simp [this])]
    rw [ih]
    by_cases q : p b = true
    · simp [pO, q, hb]
    · simp only [Bool.not_eq_true] at q
      simp [pO, q]
theorem club_range (c : List Mem) : c = (List.range c.length).map fun i => c.getD i ⟨0, false, 0⟩ := by
  apply List.ext_getElem?
  intro i
  by_cases h : i < c.length
  · rw [List.getElem?_map, List.getElem?_range h, List.getElem?_eq_getElem h]
    show some c[i] = some (c.getD i ⟨0, false, 0⟩)
    rw [List.getD_eq_getElem?_getD, List.getElem?_eq_getElem h]; rfl
  · rw [List.getElem?_eq_none (by omega), List.getElem?_eq_none (by simp; omega)]
theorem sum_range (c : List Mem) (q : Mem → Bool) : ((c.filter q).map (·.n)).sum = ((((List.range c.length).filter fun i => q (c.getD i ⟨0, false, 0⟩)).map fun i => (c.getD i ⟨0, false, 0⟩).n)).sum := by
  conv => lhs; rw [club_range c, List.filter_map, List.map_map]
  rfl
theorem len_range (c : List Mem) (q : Mem → Bool) : (c.filter q).length = (List.range c.length).countP fun i => q (c.getD i ⟨0, false, 0⟩) := by
  conv => lhs; rw [club_range c, List.filter_map, List.length_map]
  rw [List.countP_eq_length_filter]; rfl
section
variable {c : List Mem} {w : List (Option Nat)}
theorem IsWay.lt (h : IsWay c w) : ∀ b, some b ∈ w → b < c.length := fun b hb => by
  obtain ⟨i, hi, e⟩ := List.getElem_of_mem hb
  obtain ⟨x, y, g1, _⟩ := h.br i b (by rw [List.getElem?_eq_getElem hi, e])
  exact (List.getElem?_eq_some_iff.mp g1).1
theorem way_range (h : IsWay c w) : w = (List.range c.length).map fun i => w.getD i none := by
  apply List.ext_getElem?
  intro i
  by_cases hi : i < c.length
  · have hi2 : i < w.length := by rw [h.len]; exact hi
    rw [List.getElem?_map, List.getElem?_range hi, List.getElem?_eq_getElem hi2]
    show some w[i] = some (w.getD i none)
    rw [List.getD_eq_getElem?_getD, List.getElem?_eq_getElem hi2]; rfl
  · rw [List.getElem?_eq_none (by rw [h.len]; omega), List.getElem?_eq_none (by simp; omega)]
/-- the numbers of those who fulfil p, together: how many were brought by such ones -/
theorem way_sum (h : IsWay c w) (q : Mem → Bool) : ((c.filter q).map (·.n)).sum = ((((List.range c.length).countP fun i => pO (fun b => q (c.getD b ⟨0, false, 0⟩)) (w.getD i none)) : Nat) : Int) := by
  rw [sum_range]
  have e : (((List.range c.length).filter fun i => q (c.getD i ⟨0, false, 0⟩)).map fun i => (c.getD i ⟨0, false, 0⟩).n) = (((List.range c.length).filter fun i => q (c.getD i ⟨0, false, 0⟩)).map fun i => ((w.count (some i) : Nat) : Int)) := by
    refine List.map_congr_left fun i hi => ?_
    have hi : i < c.length := by simpa using (List.mem_filter.mp hi).1
    exact h.cnt i _ (by rw [List.getD_eq_getElem?_getD, List.getElem?_eq_getElem hi]; rfl)
  rw [e, sum_counts _ _ w h.lt]
  conv => lhs; rw [way_range h, List.countP_map]
  rfl
theorem way_at (h : IsWay c w) {i : Nat} (hi : i < c.length) : (c.getD i ⟨0, false, 0⟩).w = (w.getD i none).isSome ∧ ∀ b, w.getD i none = some b → b < c.length ∧ (c.getD b ⟨0, false, 0⟩).d < (c.getD i ⟨0, false, 0⟩).d := by
  have hi2 : i < w.length := by rw [h.len]; exact hi
  have e1 : c[i]? = some (c.getD i ⟨0, false, 0⟩) := by rw [List.getD_eq_getElem?_getD, List.getElem?_eq_getElem hi]; rfl
  have e2 : w[i]? = some (w.getD i none) := by rw [List.getD_eq_getElem?_getD, List.getElem?_eq_getElem hi2]; rfl
  refine ⟨h.mem i _ _ e1 e2, fun b hb => ?_⟩
  rw [hb] at e2
  obtain ⟨x, y, g1, g2, g3⟩ := h.br i b e2
  rw [e1] at g2
  cases g2
  refine ⟨(List.getElem?_eq_some_iff.mp g1).1, ?_⟩
  rw [List.getD_eq_getElem?_getD, g1]
  exact g3
theorem way_slack (h : IsWay c w) (t : Int) : 0 ≤ slackT c t := by
  unfold slackT
  rw [way_sum h fun m => decide (m.d < t), len_range]
  have : ((List.range c.length).countP fun i => decide ((c.getD i ⟨0, false, 0⟩).d ≤ t) && (c.getD i ⟨0, false, 0⟩).w) ≤ (List.range c.length).countP fun i => pO (fun b => decide ((c.getD b ⟨0, false, 0⟩).d < t)) (w.getD i none) := by
    refine List.countP_mono_left fun i hi hp => ?_
    have hi : i < c.length := by simpa using hi
    obtain ⟨h1, h2⟩ := way_at h hi
    simp only [Bool.and_eq_true, decide_eq_true_eq] at hp
    rw [h1, Option.isSome_iff_exists] at hp
    obtain ⟨h3, b, hb⟩ := hp
    rw [hb]
    have := (h2 b hb).2
    exact decide_eq_true (by omega)
  omega
/-- how many numbers are left over -/
def leftN (c : List Mem) : Int := (c.map (·.n)).sum - ((c.filter fun m => m.w).length : Nat)
theorem way_left (h : IsWay c w) : leftN c = 0 := by
  unfold leftN
  have e := way_sum h fun _ => true
  rw [List.filter_eq_self.mpr fun _ _ => rfl] at e
  rw [e, len_range]
  have : ((List.range c.length).countP fun i => (c.getD i ⟨0, false, 0⟩).w) = (List.range c.length).countP fun i => pO (fun _ => true) (w.getD i none) := by
    refine List.countP_congr fun i hi => ?_
    have hi : i < c.length := by simpa using hi
    rw [(way_at h hi).1]
    cases w.getD i none <;> simp [pO]
  omega
end

end G4

namespace G4
open PySem PySem.Spec PyProof.Rows L2
local macro_rules
  | `(tactic| simp_arith [$as,*]) => `(tactic| simp -implicitDefEqProofs only [tl_table_of_1, tl_table_of_2, tl_table_of_3, tl_ways_of_1, tl_ways_of_2, tl__law_toss_1, tl__law_toss_2, tl__law_toss_3, tl__law_made_1, tl__law_made_2, tl__law_made_3, tl__law_made_4, tl__law_made_5, tl__law_made_6, tl__law_made_7, tl__law_made_8, tl__law_bent_1, tl__law_bent_2, tl__law_bent_3, tl__law_bent_4, tl__law_right_1, tl__law_right_2, tl_law_1, tl_law_2, tl_law_3, tl_law_4, tl_law_5, tl_law_6, ↓bnd_eq, ↓off_eq, ↓thn_eq, run_eq, fin_nx, fin_rt, fin_ex, S.hide, hideSl, exms, exm, ev, evT, evs, evOs, evo, evc, evSrc, evPar, hb_ok, hb_ex, ho_ok, ho_ex, ht_nx, ht_rt, ht_ex, tb_nx, tb_rt, tb_ex, hd_setB, hd_setT, hd_retT, D.flat, opd_d, opd_pl, opd_lst, opd_ex, val_d, val_lst, List.append_assoc, List.length_set, gc_push, gc_id, take_push, take_id, get_app0, get_app1, get_app2, isNew0, isNew1, isNew_int, isNew_str, isNew_bl, isNew_non, isNew_tup, isNew_lst, keep_un, keep_int, keep_bl, keep_non, keep_str, keep_scr, keep_obj, keep_own_lst, keep_own_dK, pureK_nil, keep_lst, keep_tup, D.unders, ne_succ, ne_succ1, eq_self, nodup2, nodup3, List.filterMap_cons, List.filterMap_nil, putPar, D.under, List.nodup_cons, List.mem_cons, List.not_mem_nil, or_self, or_false, Nat.reduceEqDiff, List.nodup_nil, true_and, and_true, bits10, Int.reduceMul, Int.reduceLE, Int.reduceLT, Int.reducePow, Int.reduceAdd, Int.reduceSub, Int.reduceNeg, Int.reduceToNat, val_dK, putTs_nil, putTs_nm, putTs_sub, val_ex, val_pl, valPl_lst, valPl_d, opt_some, toO_ok, toO_ex, asBl_ok, List.map_cons, List.map_nil, List.length_cons, List.length_nil, Nat.reduceAdd, Nat.reduceSub, Nat.zero_add, List.replicate, List.cons_append, List.nil_append, List.getElem?_cons_zero, List.getElem?_cons_succ, List.set_cons_zero, List.set_cons_succ, S.rd, S.rdD, S.store, OS.opt, Option.bind_some, Option.map_some, Cell.view, S.cell, S.isLst, S.isDct, S.rdDct, dgetV, dixV, augV, S.put, S.rdLst, cmpV, opCmp, opEq_str, opEq_int, opEq_bl, opEq_non, opEq_lst, opEq_tup, pures_app, eqv_int, eqv_bl, eqv_lst, eqv_tup, eqvs_nil, eqvs_ints, eqvs_cons, eqv_str, opIn_ints, unders_ints, set_app0, set_app1, binV, opBin, ixV, opIx, biV, biSem, biLen, biInt, biAbs, biMax2, biMin2, biSum, biAll, biAny, biList, biTuple, List.mapM_cons, List.mapM_nil, bind, pure, Option.bind, truV, D.tru, isiV, D.kind, Ty.sub, List.any_cons, List.any_nil, decide_true, decide_false, Int.cast_ofNat_Int, beq_self_eq_true, Bool.false_and, Bool.true_or, Bool.false_or, Bool.or_false, Bool.and_true, Bool.true_and, Bool.and_self, if_true, if_false, Bool.false_eq_true, reduceCtorEq, Bool.not_true, Bool.not_false, finish, D.pure, D.pures, Cell.pure, List.take_length, and_self, not_true_eq_false, not_false_eq_true, plain_int', plain_lst, plain_tup, plain_non, plain_bl, D.plainsN, pures_ints, plain_ints, List.length_map, List.length_append, at1, at2, at3, at4, at5, muV, muSem, muApp, setIx, S.fz, perm, List.getD_cons_zero, List.getD_cons_succ, $as,*])
section
variable {st : List Cell} {c : List Mem} {t : Int}
/-- the places of the brought ones, from k on -/
def brL : Nat → List Mem → List Int
  | _, [] => []
  | k, m :: c => if m.w then (k : Int) :: brL (k + 1) c else brL (k + 1) c
theorem br_map : ∀ (c : List Mem) (k : Nat), (((c.zipIdx k).filter fun p => p.1.w).map fun p => D.int p.2) = (brL k c).map D.int
  | [], _ => rfl
  | m :: c, k => by
    rw [List.zipIdx_cons, List.filter_cons, brL]
    cases m.w
    · rw [if_neg Bool.false_ne_true, if_neg Bool.false_ne_true, br_map c (k + 1)]
    · rw [if_pos rfl, if_pos rfl, List.map_cons, List.map_cons, br_map c (k + 1)]
theorem brought_of_ok (hl : c.length ≤ 1000) : f_brought_of [clubD c] st = .ok (.new (.lst ((brL 0 c).map .int))) st := by
  have key : ev lc_brought_of_1 ⟨[SV.d (clubD c), .un, .un], st⟩ = .ok (.new (.lst ((brL 0 c).map .int))) ⟨[SV.d (clubD c), .un, .un], st⟩ := by
    rw [← br_map]
    refine lc_filt (c.zipIdx 0) (fun p => .tup [.int p.2, p.1.D]) (fun p => p.1.w) (fun p => D.int p.2) ?_ (big_le (by rw [List.length_zipIdx]; omega)) rfl fun m hm => ⟨_, rfl, rfl, ?_, fun _ => ?_⟩
    · simp_arith [clubD, enum_map]
    · simp_arith [Mem.D, wd_br]
    · simp_arith [List.getElem?_cons_zero]
  unfold f_brought_of
  simp_arith [b_brought_of, key]
theorem brL_count : ∀ (c : List Mem) (k : Nat), (brL k c).length = (c.filter fun m => m.w).length
  | [], _ => rfl
  | m :: c, k => by
    rw [brL, List.filter_cons]
    cases m.w
    · rw [if_neg Bool.false_ne_true, if_neg Bool.false_ne_true, brL_count c (k + 1)]
    · rw [if_pos rfl, if_pos rfl, List.length_cons, List.length_cons, brL_count c (k + 1)]
end

end G4

namespace G4
open PySem PySem.Spec PyProof.Rows L2
local macro_rules
  | `(tactic| simp_arith [$as,*]) => `(tactic| simp -implicitDefEqProofs only [tl_table_of_1, tl_table_of_2, tl_table_of_3, tl_ways_of_1, tl_ways_of_2, tl__law_toss_1, tl__law_toss_2, tl__law_toss_3, tl__law_made_1, tl__law_made_2, tl__law_made_3, tl__law_made_4, tl__law_made_5, tl__law_made_6, tl__law_made_7, tl__law_made_8, tl__law_bent_1, tl__law_bent_2, tl__law_bent_3, tl__law_bent_4, tl__law_right_1, tl__law_right_2, tl_law_1, tl_law_2, tl_law_3, tl_law_4, tl_law_5, tl_law_6, ↓bnd_eq, ↓off_eq, ↓thn_eq, run_eq, fin_nx, fin_rt, fin_ex, S.hide, hideSl, exms, exm, ev, evT, evs, evOs, evo, evc, evSrc, evPar, hb_ok, hb_ex, ho_ok, ho_ex, ht_nx, ht_rt, ht_ex, tb_nx, tb_rt, tb_ex, hd_setB, hd_setT, hd_retT, D.flat, opd_d, opd_pl, opd_lst, opd_ex, val_d, val_lst, List.append_assoc, List.length_set, gc_push, gc_id, take_push, take_id, get_app0, get_app1, get_app2, isNew0, isNew1, isNew_int, isNew_str, isNew_bl, isNew_non, isNew_tup, isNew_lst, keep_un, keep_int, keep_bl, keep_non, keep_str, keep_scr, keep_obj, keep_own_lst, keep_own_dK, pureK_nil, keep_lst, keep_tup, D.unders, ne_succ, ne_succ1, eq_self, nodup2, nodup3, List.filterMap_cons, List.filterMap_nil, putPar, D.under, List.nodup_cons, List.mem_cons, List.not_mem_nil, or_self, or_false, Nat.reduceEqDiff, List.nodup_nil, true_and, and_true, bits10, Int.reduceMul, Int.reduceLE, Int.reduceLT, Int.reducePow, Int.reduceAdd, Int.reduceSub, Int.reduceNeg, Int.reduceToNat, val_dK, putTs_nil, putTs_nm, putTs_sub, val_ex, val_pl, valPl_lst, valPl_d, opt_some, toO_ok, toO_ex, asBl_ok, List.map_cons, List.map_nil, List.length_cons, List.length_nil, Nat.reduceAdd, Nat.reduceSub, Nat.zero_add, List.replicate, List.cons_append, List.nil_append, List.getElem?_cons_zero, List.getElem?_cons_succ, List.set_cons_zero, List.set_cons_succ, S.rd, S.rdD, S.store, OS.opt, Option.bind_some, Option.map_some, Cell.view, S.cell, S.isLst, S.isDct, S.rdDct, dgetV, dixV, augV, S.put, S.rdLst, cmpV, opCmp, opEq_str, opEq_int, opEq_bl, opEq_non, opEq_lst, opEq_tup, pures_app, eqv_int, eqv_bl, eqv_lst, eqv_tup, eqvs_nil, eqvs_ints, eqvs_cons, eqv_str, opIn_ints, unders_ints, set_app0, set_app1, binV, opBin, ixV, opIx, biV, biSem, biLen, biInt, biAbs, biMax2, biMin2, biSum, biAll, biAny, biList, biTuple, List.mapM_cons, List.mapM_nil, bind, pure, Option.bind, truV, D.tru, isiV, D.kind, Ty.sub, List.any_cons, List.any_nil, decide_true, decide_false, Int.cast_ofNat_Int, beq_self_eq_true, Bool.false_and, Bool.true_or, Bool.false_or, Bool.or_false, Bool.and_true, Bool.true_and, Bool.and_self, if_true, if_false, Bool.false_eq_true, reduceCtorEq, Bool.not_true, Bool.not_false, finish, D.pure, D.pures, Cell.pure, List.take_length, and_self, not_true_eq_false, not_false_eq_true, plain_int', plain_lst, plain_tup, plain_non, plain_bl, D.plainsN, pures_ints, plain_ints, List.length_map, List.length_append, at1, at2, at3, at4, at5, muV, muSem, muApp, setIx, S.fz, perm, List.getD_cons_zero, List.getD_cons_succ, $as,*])
section
variable {st : List Cell} {c : List Mem}
/-- the closing days -/
def closeL (c : List Mem) : List Int := ((dayS c).drop 1).filter fun t => slackT c t == 0
theorem dayS_len {c : List Mem} (hl : c.length ≤ 60) : (dayS c).length ≤ 60 := by
  unfold dayS isort
  rw [List.length_mergeSort]
  have := len_dayF c []
  simp at this; omega
theorem left_over_ok (hl : c.length ≤ 60) : f_left_over [clubD c] st = .ok (.d (.int (leftN c))) st := by
  have e := brought_of_ok (st := st) (c := c) (by omega)
  unfold clubD at e
  have key : ev lc_left_over_1 ⟨[.d (.lst (c.map Mem.D)), .un, .un, .un], st⟩ = .ok (.new (.lst ((c.map (·.n)).map .int))) ⟨[.d (.lst (c.map Mem.D)), .un, .un, .un], st⟩ := by
    rw [List.map_map]
    refine lc_map c Mem.D (fun m => .int m.n) ?_ (big_le (by omega)) rfl fun m hm => ⟨_, rfl, rfl, ?_⟩
    · simp_arith [hideSl]
    · simp_arith [hideSl]
  unfold f_left_over
  simp_arith [b_left_over, clubD, key, e, intsD_map, brL_count]
  rfl
/-- why there is no way -/
def conflictD (c : List Mem) : D := match (dayS c).filter fun t => decide (slackT c t < 0) with
  | t :: _ => .tup [.str "day", .int t]
  | [] => if leftN c = 0 then .non else .tup [.str "left", .int (leftN c)]
theorem conflict_in_ok (hl : c.length ≤ 60) : f_conflict_in [clubD c] st = .ok (.d (conflictD c)) st := by
  have e := table_ok (st := st) hl
  have hd := dayS_len hl
  have e2 := left_over_ok (st := st) hl
  unfold clubD at e e2
  have key : ev lc_conflict_in_1 ⟨[.d (.lst (c.map Mem.D)), .un, .un, .un, .un], st⟩ = .ok (.new (.lst (((dayS c).filter fun t => decide (slackT c t < 0)).map .int))) ⟨[.d (.lst (c.map Mem.D)), .un, .un, .un, .un], st⟩ := by
    refine lc_filt (dayS c) (rowD c) (fun t => decide (slackT c t < 0)) D.int ?_ (big_le (by omega)) rfl fun t ht => ⟨_, rfl, rfl, ?_, fun _ => ?_⟩
    · simp_arith [e]
    · simp_arith [rowD]
    · simp_arith [rowD]
  unfold f_conflict_in conflictD
  cases h : (dayS c).filter fun t => decide (slackT c t < 0) with
  | cons t r =>
    rw [h] at key
    have a0 : ∀ l : List D, atI (D.int t :: l) 0 = some (.int t) := fun l => atI_nat (xs := D.int t :: l) (j := 0) rfl
    have nz : D.eqvs (D.int t :: r.map .int) [] = false := rfl
    rw [List.map_cons] at key
    simp_arith [b_conflict_in, clubD, key, nz, a0]
  | nil =>
    rw [h, List.map_nil] at key
    by_cases hz : leftN c = 0
    · have hz2 : (leftN c == 0) = true := by simp [hz]
      simp_arith [b_conflict_in, clubD, key, e2, hz, hz2]
    · have hz2 : (leftN c == 0) = false := by simp [hz]
      simp_arith [b_conflict_in, clubD, key, e2, hz, hz2]
/-- a possible club -/
structure Poss (c : List Mem) : Prop extends Club c where
  slack : ∀ t ∈ dayS c, 0 ≤ slackT c t
  left : leftN c = 0
theorem Poss.none (h : Poss c) : conflictD c = .non := by
  unfold conflictD
  rw [List.filter_eq_nil_iff.mpr fun t ht => by have := h.slack t ht; simp; omega]
  show (if leftN c = 0 then _ else _) = _
  rw [if_pos h.left]
theorem IsWay.poss {w : List (Option Nat)} (h : IsWay c w) (hc : Club c) : Poss c := ⟨hc, fun t _ => way_slack h t, way_left h⟩
theorem need_possible_ok (h : Poss c) : f_need_possible [clubD c] st = .ok (.d .non) st := by
  have e := conflict_in_ok (st := st) h.few
  rw [h.none] at e
  unfold f_need_possible
  simp_arith [b_need_possible, e, opIs, D.isNon]
end

end G4

namespace G4
open PySem PySem.Spec PyProof.Rows L2
local macro_rules
  | `(tactic| simp_arith [$as,*]) => `(tactic| simp -implicitDefEqProofs only [tl_table_of_1, tl_table_of_2, tl_table_of_3, tl_ways_of_1, tl_ways_of_2, tl__law_toss_1, tl__law_toss_2, tl__law_toss_3, tl__law_made_1, tl__law_made_2, tl__law_made_3, tl__law_made_4, tl__law_made_5, tl__law_made_6, tl__law_made_7, tl__law_made_8, tl__law_bent_1, tl__law_bent_2, tl__law_bent_3, tl__law_bent_4, tl__law_right_1, tl__law_right_2, tl_law_1, tl_law_2, tl_law_3, tl_law_4, tl_law_5, tl_law_6, ↓bnd_eq, ↓off_eq, ↓thn_eq, run_eq, fin_nx, fin_rt, fin_ex, S.hide, hideSl, exms, exm, ev, evT, evs, evOs, evo, evc, evSrc, evPar, hb_ok, hb_ex, ho_ok, ho_ex, ht_nx, ht_rt, ht_ex, tb_nx, tb_rt, tb_ex, hd_setB, hd_setT, hd_retT, D.flat, opd_d, opd_pl, opd_lst, opd_ex, val_d, val_lst, List.append_assoc, List.length_set, gc_push, gc_id, take_push, take_id, get_app0, get_app1, get_app2, isNew0, isNew1, isNew_int, isNew_str, isNew_bl, isNew_non, isNew_tup, isNew_lst, keep_un, keep_int, keep_bl, keep_non, keep_str, keep_scr, keep_obj, keep_own_lst, keep_own_dK, pureK_nil, keep_lst, keep_tup, D.unders, ne_succ, ne_succ1, eq_self, nodup2, nodup3, List.filterMap_cons, List.filterMap_nil, putPar, D.under, List.nodup_cons, List.mem_cons, List.not_mem_nil, or_self, or_false, Nat.reduceEqDiff, List.nodup_nil, true_and, and_true, bits10, Int.reduceMul, Int.reduceLE, Int.reduceLT, Int.reducePow, Int.reduceAdd, Int.reduceSub, Int.reduceNeg, Int.reduceToNat, val_dK, putTs_nil, putTs_nm, putTs_sub, val_ex, val_pl, valPl_lst, valPl_d, opt_some, toO_ok, toO_ex, asBl_ok, List.map_cons, List.map_nil, List.length_cons, List.length_nil, Nat.reduceAdd, Nat.reduceSub, Nat.zero_add, List.replicate, List.cons_append, List.nil_append, List.getElem?_cons_zero, List.getElem?_cons_succ, List.set_cons_zero, List.set_cons_succ, S.rd, S.rdD, S.store, OS.opt, Option.bind_some, Option.map_some, Cell.view, S.cell, S.isLst, S.isDct, S.rdDct, dgetV, dixV, augV, S.put, S.rdLst, cmpV, opCmp, opEq_str, opEq_int, opEq_bl, opEq_non, opEq_lst, opEq_tup, pures_app, eqv_int, eqv_bl, eqv_lst, eqv_tup, eqvs_nil, eqvs_ints, eqvs_cons, eqv_str, opIn_ints, unders_ints, set_app0, set_app1, binV, opBin, ixV, opIx, biV, biSem, biLen, biInt, biAbs, biMax2, biMin2, biSum, biAll, biAny, biList, biTuple, List.mapM_cons, List.mapM_nil, bind, pure, Option.bind, truV, D.tru, isiV, D.kind, Ty.sub, List.any_cons, List.any_nil, decide_true, decide_false, Int.cast_ofNat_Int, beq_self_eq_true, Bool.false_and, Bool.true_or, Bool.false_or, Bool.or_false, Bool.and_true, Bool.true_and, Bool.and_self, if_true, if_false, Bool.false_eq_true, reduceCtorEq, Bool.not_true, Bool.not_false, finish, D.pure, D.pures, Cell.pure, List.take_length, and_self, not_true_eq_false, not_false_eq_true, plain_int', plain_lst, plain_tup, plain_non, plain_bl, D.plainsN, pures_ints, plain_ints, List.length_map, List.length_append, at1, at2, at3, at4, at5, muV, muSem, muApp, setIx, S.fz, perm, List.getD_cons_zero, List.getD_cons_succ, $as,*])
section
variable {st : List Cell} {c : List Mem} {cl : List Int}
def openB (cl : List Int) (a b : Int) : Bool := cl.all fun t => !(decide (a < t) && decide (t < b))
/-- whether some way has the link, by its closing days -/
def mayB (c : List Mem) (cl : List Int) (b m : Nat) : Bool := decide (0 < (mAt c b).n) && ((mAt c m).w && (decide ((mAt c b).d < (mAt c m).d) && openB cl (mAt c b).d (mAt c m).d))
theorem closeL_len (hl : c.length ≤ 60) : (closeL c).length ≤ 60 := by
  unfold closeL
  have h1 := List.length_filter_le (fun t => slackT c t == 0) ((dayS c).drop 1)
  have h2 := dayS_len hl
  rw [List.length_drop] at h1
  omega
end

end G4

namespace G4
open PySem PySem.Spec PyProof.Rows L2
local macro_rules
  | `(tactic| simp_arith [$as,*]) => `(tactic| simp -implicitDefEqProofs only [tl_table_of_1, tl_table_of_2, tl_table_of_3, tl_ways_of_1, tl_ways_of_2, tl__law_toss_1, tl__law_toss_2, tl__law_toss_3, tl__law_made_1, tl__law_made_2, tl__law_made_3, tl__law_made_4, tl__law_made_5, tl__law_made_6, tl__law_made_7, tl__law_made_8, tl__law_bent_1, tl__law_bent_2, tl__law_bent_3, tl__law_bent_4, tl__law_right_1, tl__law_right_2, tl_law_1, tl_law_2, tl_law_3, tl_law_4, tl_law_5, tl_law_6, ↓bnd_eq, ↓off_eq, ↓thn_eq, run_eq, fin_nx, fin_rt, fin_ex, S.hide, hideSl, exms, exm, ev, evT, evs, evOs, evo, evc, evSrc, evPar, hb_ok, hb_ex, ho_ok, ho_ex, ht_nx, ht_rt, ht_ex, tb_nx, tb_rt, tb_ex, hd_setB, hd_setT, hd_retT, D.flat, opd_d, opd_pl, opd_lst, opd_ex, val_d, val_lst, List.append_assoc, List.length_set, gc_push, gc_id, take_push, take_id, get_app0, get_app1, get_app2, isNew0, isNew1, isNew_int, isNew_str, isNew_bl, isNew_non, isNew_tup, isNew_lst, keep_un, keep_int, keep_bl, keep_non, keep_str, keep_scr, keep_obj, keep_own_lst, keep_own_dK, pureK_nil, keep_lst, keep_tup, D.unders, ne_succ, ne_succ1, eq_self, nodup2, nodup3, List.filterMap_cons, List.filterMap_nil, putPar, D.under, List.nodup_cons, List.mem_cons, List.not_mem_nil, or_self, or_false, Nat.reduceEqDiff, List.nodup_nil, true_and, and_true, bits10, Int.reduceMul, Int.reduceLE, Int.reduceLT, Int.reducePow, Int.reduceAdd, Int.reduceSub, Int.reduceNeg, Int.reduceToNat, val_dK, putTs_nil, putTs_nm, putTs_sub, val_ex, val_pl, valPl_lst, valPl_d, opt_some, toO_ok, toO_ex, asBl_ok, List.map_cons, List.map_nil, List.length_cons, List.length_nil, Nat.reduceAdd, Nat.reduceSub, Nat.zero_add, List.replicate, List.cons_append, List.nil_append, List.getElem?_cons_zero, List.getElem?_cons_succ, List.set_cons_zero, List.set_cons_succ, S.rd, S.rdD, S.store, OS.opt, Option.bind_some, Option.map_some, Cell.view, S.cell, S.isLst, S.isDct, S.rdDct, dgetV, dixV, augV, S.put, S.rdLst, cmpV, opCmp, opEq_str, opEq_int, opEq_bl, opEq_non, opEq_lst, opEq_tup, pures_app, eqv_int, eqv_bl, eqv_lst, eqv_tup, eqvs_nil, eqvs_ints, eqvs_cons, eqv_str, opIn_ints, unders_ints, set_app0, set_app1, binV, opBin, ixV, opIx, biV, biSem, biLen, biInt, biAbs, biMax2, biMin2, biSum, biAll, biAny, biList, biTuple, List.mapM_cons, List.mapM_nil, bind, pure, Option.bind, truV, D.tru, isiV, D.kind, Ty.sub, List.any_cons, List.any_nil, decide_true, decide_false, Int.cast_ofNat_Int, beq_self_eq_true, Bool.false_and, Bool.true_or, Bool.false_or, Bool.or_false, Bool.and_true, Bool.true_and, Bool.and_self, if_true, if_false, Bool.false_eq_true, reduceCtorEq, Bool.not_true, Bool.not_false, finish, D.pure, D.pures, Cell.pure, List.take_length, and_self, not_true_eq_false, not_false_eq_true, plain_int', plain_lst, plain_tup, plain_non, plain_bl, D.plainsN, pures_ints, plain_ints, List.length_map, List.length_append, at1, at2, at3, at4, at5, muV, muSem, muApp, setIx, S.fz, perm, List.getD_cons_zero, List.getD_cons_succ, $as,*])
section
variable {st : List Cell} {c : List Mem} {cl : List Int}
theorem rangeD_nat (n : Nat) : ∀ a : Nat, rangeD (a : Int) n = (List.range' a n).map fun i : Nat => D.int i := by
  induction n with
  | zero => intro a; rfl
  | succ n ih =>
    intro a
    rw [rangeD, List.range'_succ, List.map_cons]
    have := ih (a + 1)
    rw [show ((a + 1 : Nat) : Int) = (a : Int) + 1 by omega] at this
    rw [this]
theorem rng2_succ {a b : Nat} (ha : a ≤ 100000) (hb : b ≤ 100000) : rng2Sem [.int ((a : Int) + 1), .int (b : Int)] = some ((List.range' (a + 1) (b - (a + 1))).map fun i : Nat => D.int i) := by
  have h1 : small ((a : Int) + 1) = true := small_of (by omega)
  have h2 : small (b : Int) = true := small_of (by omega)
  have h3 := rangeD_nat (b - (a + 1)) (a + 1)
  rw [show ((a + 1 : Nat) : Int) = (a : Int) + 1 by omega] at h3
  show (if small ((a : Int) + 1) && small (b : Int) then some (rangeD ((a : Int) + 1) ((b : Int) - ((a : Int) + 1)).toNat) else none) = _
  rw [h1, h2, show ((b : Int) - ((a : Int) + 1)).toNat = b - (a + 1) by omega, h3]
  rfl
theorem pure_nats (l : List Nat) : D.pures (l.map fun b : Nat => D.int b) = true := by
  induction l with
  | nil => rfl
  | cons a l ih => rw [List.map_cons, D.pures, ih]; rfl
/-- whom one can have brought -/
def byL (c : List Mem) (b : Nat) : List Nat := (List.range' (b + 1) (c.length - (b + 1))).filter fun m => mayB c (closeL c) b m
/-- why a link cannot be -/
def paperD (c : List Mem) (b m : Nat) : D :=
  if (mAt c m).w = false then .tup [.str "alone"] else if (mAt c b).n = 0 then .tup [.str "none"] else if (mAt c m).d ≤ (mAt c b).d then .tup [.str "days"] else
    match (closeL c).filter fun t => decide ((mAt c b).d < t) && decide (t < (mAt c m).d) with
    | t :: _ => .tup [.str "closing", .int t]
    | [] => .non
end

end G4

namespace G4
open PySem PySem.Spec PyProof.Rows L2
local macro_rules
  | `(tactic| simp_arith [$as,*]) => `(tactic| simp -implicitDefEqProofs only [tl_table_of_1, tl_table_of_2, tl_table_of_3, tl_ways_of_1, tl_ways_of_2, tl__law_toss_1, tl__law_toss_2, tl__law_toss_3, tl__law_made_1, tl__law_made_2, tl__law_made_3, tl__law_made_4, tl__law_made_5, tl__law_made_6, tl__law_made_7, tl__law_made_8, tl__law_bent_1, tl__law_bent_2, tl__law_bent_3, tl__law_bent_4, tl__law_right_1, tl__law_right_2, tl_law_1, tl_law_2, tl_law_3, tl_law_4, tl_law_5, tl_law_6, ↓bnd_eq, ↓off_eq, ↓thn_eq, run_eq, fin_nx, fin_rt, fin_ex, S.hide, hideSl, exms, exm, ev, evT, evs, evOs, evo, evc, evSrc, evPar, hb_ok, hb_ex, ho_ok, ho_ex, ht_nx, ht_rt, ht_ex, tb_nx, tb_rt, tb_ex, hd_setB, hd_setT, hd_retT, D.flat, opd_d, opd_pl, opd_lst, opd_ex, val_d, val_lst, List.append_assoc, List.length_set, gc_push, gc_id, take_push, take_id, get_app0, get_app1, get_app2, isNew0, isNew1, isNew_int, isNew_str, isNew_bl, isNew_non, isNew_tup, isNew_lst, keep_un, keep_int, keep_bl, keep_non, keep_str, keep_scr, keep_obj, keep_own_lst, keep_own_dK, pureK_nil, keep_lst, keep_tup, D.unders, ne_succ, ne_succ1, eq_self, nodup2, nodup3, List.filterMap_cons, List.filterMap_nil, putPar, D.under, List.nodup_cons, List.mem_cons, List.not_mem_nil, or_self, or_false, Nat.reduceEqDiff, List.nodup_nil, true_and, and_true, bits10, Int.reduceMul, Int.reduceLE, Int.reduceLT, Int.reducePow, Int.reduceAdd, Int.reduceSub, Int.reduceNeg, Int.reduceToNat, val_dK, putTs_nil, putTs_nm, putTs_sub, val_ex, val_pl, valPl_lst, valPl_d, opt_some, toO_ok, toO_ex, asBl_ok, List.map_cons, List.map_nil, List.length_cons, List.length_nil, Nat.reduceAdd, Nat.reduceSub, Nat.zero_add, List.replicate, List.cons_append, List.nil_append, List.getElem?_cons_zero, List.getElem?_cons_succ, List.set_cons_zero, List.set_cons_succ, S.rd, S.rdD, S.store, OS.opt, Option.bind_some, Option.map_some, Cell.view, S.cell, S.isLst, S.isDct, S.rdDct, dgetV, dixV, augV, S.put, S.rdLst, cmpV, opCmp, opEq_str, opEq_int, opEq_bl, opEq_non, opEq_lst, opEq_tup, pures_app, eqv_int, eqv_bl, eqv_lst, eqv_tup, eqvs_nil, eqvs_ints, eqvs_cons, eqv_str, opIn_ints, unders_ints, set_app0, set_app1, binV, opBin, ixV, opIx, biV, biSem, biLen, biInt, biAbs, biMax2, biMin2, biSum, biAll, biAny, biList, biTuple, List.mapM_cons, List.mapM_nil, bind, pure, Option.bind, truV, D.tru, isiV, D.kind, Ty.sub, List.any_cons, List.any_nil, decide_true, decide_false, Int.cast_ofNat_Int, beq_self_eq_true, Bool.false_and, Bool.true_or, Bool.false_or, Bool.or_false, Bool.and_true, Bool.true_and, Bool.and_self, if_true, if_false, Bool.false_eq_true, reduceCtorEq, Bool.not_true, Bool.not_false, finish, D.pure, D.pures, Cell.pure, List.take_length, and_self, not_true_eq_false, not_false_eq_true, plain_int', plain_lst, plain_tup, plain_non, plain_bl, D.plainsN, pures_ints, plain_ints, List.length_map, List.length_append, at1, at2, at3, at4, at5, muV, muSem, muApp, setIx, S.fz, perm, List.getD_cons_zero, List.getD_cons_succ, $as,*])
/-! ### a link known: the club that is left -/
/-- b's number is one less, m came alone -/
def linkC (c : List Mem) (b m : Nat) : List Mem := (c.set b ⟨(mAt c b).d, (mAt c b).w, (mAt c b).n - 1⟩).set m ⟨(mAt c m).d, false, (mAt c m).n⟩
theorem mAt_some {c : List Mem} {i : Nat} {x : Mem} (h : c[i]? = some x) : mAt c i = x := by
  rw [mAt, List.getD_eq_getElem?_getD, h]; rfl
theorem linkC_len (c : List Mem) (b m : Nat) : (linkC c b m).length = c.length := by unfold linkC; simp
theorem linkC_get {c : List Mem} {b m k : Nat} {x : Mem} (hbm : b ≠ m) (h : c[k]? = some x) : (linkC c b m)[k]? = some ⟨x.d, if k = m then false else x.w, if k = b then x.n - 1 else x.n⟩ := by
  have hk := (List.getElem?_eq_some_iff.mp h).1
  have hx := mAt_some h
  unfold linkC
  by_cases h1 : m = k
  · subst h1
    rw [List.getElem?_set_self (by simpa using hk), hx, if_pos rfl, if_neg (Ne.symm hbm)]
  · rw [List.getElem?_set_ne h1]
    by_cases h2 : b = k
    · subst h2
      rw [List.getElem?_set_self hk, hx, if_neg hbm, if_pos rfl]
    · rw [List.getElem?_set_ne h2, h, if_neg (Ne.symm h1), if_neg (Ne.symm h2)]
theorem linkC_back {c : List Mem} {b m k : Nat} {y : Mem} (hbm : b ≠ m) (h : (linkC c b m)[k]? = some y) : ∃ x, c[k]? = some x ∧ y = ⟨x.d, if k = m then false else x.w, if k = b then x.n - 1 else x.n⟩ := by
  have hk : k < c.length := by rw [← linkC_len c b m]; exact (List.getElem?_eq_some_iff.mp h).1
  have e := linkC_get (k := k) hbm (List.getElem?_eq_getElem hk)
  rw [e] at h
  exact ⟨_, List.getElem?_eq_getElem hk, (Option.some.inj h).symm⟩
theorem count_link {w : List (Option Nat)} {m b : Nat} (h : w[m]? = some (some b)) (i : Nat) : ((w.set m none).count (some i) : Int) = (w.count (some i) : Nat) - if i = b then 1 else 0 := by
  induction w generalizing m with
  | nil => simp at h
  | cons o w ih =>
    cases m with
    | zero =>
      simp at h
      subst h
      rw [List.set_cons_zero, List.count_cons, List.count_cons]
      by_cases e : i = b
      · subst e; simp
      · simp [e, Ne.symm e]
    | succ m =>
      rw [List.set_cons_succ, List.count_cons, List.count_cons]
      have := ih (by simpa using h)
      omega
/-- a way with the link is, but for it, a way of the club that is left -/
theorem link_way {c : List Mem} {w : List (Option Nat)} {b m : Nat} (h : IsWay c w) (hm : w[m]? = some (some b)) : b ≠ m ∧ IsWay (linkC c b m) (w.set m none) := by
  obtain ⟨xb, xm, g1, g2, g3⟩ := h.br m b hm
  have hbm : b ≠ m := fun e => by subst e; rw [g1] at g2; cases g2; omega
  refine ⟨hbm, by rw [List.length_set, linkC_len]; exact h.len, fun i b' q => ?_, fun i y o hy ho => ?_, fun i y hy => ?_⟩
  · have hi : m ≠ i := fun e => by
      subst e
      rw [List.getElem?_set_self (List.getElem?_eq_some_iff.mp hm).1] at q
      cases q
    rw [List.getElem?_set_ne hi] at q
    obtain ⟨x, y, k1, k2, k3⟩ := h.br i b' q
    exact ⟨_, _, linkC_get hbm k1, linkC_get hbm k2, k3⟩
  · obtain ⟨x, hx, rfl⟩ := linkC_back hbm hy
    by_cases e : m = i
    · subst e
      rw [List.getElem?_set_self (List.getElem?_eq_some_iff.mp hm).1] at ho
      cases ho
      show (if m = m then false else x.w) = false
      rw [if_pos rfl]
    · rw [List.getElem?_set_ne e] at ho
      show (if i = m then false else x.w) = _
      rw [if_neg (Ne.symm e)]
      exact h.mem i x o hx ho
  · obtain ⟨x, hx, rfl⟩ := linkC_back hbm hy
    show (if i = b then x.n - 1 else x.n) = _
    rw [count_link hm, h.cnt i x hx]
    split <;> omega
theorem set_back {w : List (Option Nat)} {m : Nat} {o : Option Nat} (h : w[m]? = some none) : (w.set m o).set m none = w := by
  rw [List.set_set]
  apply List.ext_getElem?
  intro i
  by_cases e : m = i
  · subst e
    rw [List.getElem?_set_self (List.getElem?_eq_some_iff.mp h).1, h]
  · rw [List.getElem?_set_ne e]
/-- a way of the club that is left is, with the link, a way -/
theorem way_link {c : List Mem} {w : List (Option Nat)} {b m : Nat} {xb xm : Mem} (h : IsWay (linkC c b m) w) (hb : c[b]? = some xb) (hm : c[m]? = some xm) (hd : xb.d < xm.d) (hw : xm.w = true) :
    w[m]? = some none ∧ IsWay c (w.set m (some b)) := by
  have hbm : b ≠ m := fun e => by subst e; rw [hb] at hm; cases hm; omega
  have hml : m < w.length := by rw [h.len, linkC_len]; exact (List.getElem?_eq_some_iff.mp hm).1
  have hnone : w[m]? = some none := by
    have e := h.mem m _ w[m] (linkC_get hbm hm) (List.getElem?_eq_getElem hml)
    have e : false = w[m].isSome := by rw [← e]; show false = (if m = m then false else xm.w); rw [if_pos rfl]
    rw [List.getElem?_eq_getElem hml]
    cases hq : w[m] with
    | none => rfl
    | some z => rw [hq] at e; cases e
  refine ⟨hnone, by rw [List.length_set, h.len, linkC_len], fun i b' q => ?_, fun i x o hx ho => ?_, fun i x hx => ?_⟩
  · by_cases e : m = i
    · subst e
      rw [List.getElem?_set_self hml] at q
      cases q
      exact ⟨xb, xm, hb, hm, hd⟩
    · rw [List.getElem?_set_ne e] at q
      obtain ⟨x, y, k1, k2, k3⟩ := h.br i b' q
      obtain ⟨x', j1, rfl⟩ := linkC_back hbm k1
      obtain ⟨y', j2, rfl⟩ := linkC_back hbm k2
      exact ⟨x', y', j1, j2, k3⟩
  · by_cases e : m = i
    · subst e
      rw [List.getElem?_set_self hml] at ho
      cases ho
      rw [hm] at hx
      cases hx
      exact hw
    · rw [List.getElem?_set_ne e] at ho
      have := h.mem i _ o (linkC_get hbm hx) ho
      have this : (if i = m then false else x.w) = o.isSome := this
      rwa [if_neg (Ne.symm e)] at this
  · have e := count_link (w := w.set m (some b)) (m := m) (b := b) (by rw [List.getElem?_set_self hml]) i
    rw [set_back hnone] at e
    have k := h.cnt i _ (linkC_get hbm hx)
    have k : (if i = b then x.n - 1 else x.n) = ((w.count (some i) : Nat) : Int) := k
    rw [e] at k
    split at k <;> omega

end G4

namespace G4
open PySem PySem.Spec PyProof.Rows L2
local macro_rules
  | `(tactic| simp_arith [$as,*]) => `(tactic| simp -implicitDefEqProofs only [tl_table_of_1, tl_table_of_2, tl_table_of_3, tl_ways_of_1, tl_ways_of_2, tl__law_toss_1, tl__law_toss_2, tl__law_toss_3, tl__law_made_1, tl__law_made_2, tl__law_made_3, tl__law_made_4, tl__law_made_5, tl__law_made_6, tl__law_made_7, tl__law_made_8, tl__law_bent_1, tl__law_bent_2, tl__law_bent_3, tl__law_bent_4, tl__law_right_1, tl__law_right_2, tl_law_1, tl_law_2, tl_law_3, tl_law_4, tl_law_5, tl_law_6, ↓bnd_eq, ↓off_eq, ↓thn_eq, run_eq, fin_nx, fin_rt, fin_ex, S.hide, hideSl, exms, exm, ev, evT, evs, evOs, evo, evc, evSrc, evPar, hb_ok, hb_ex, ho_ok, ho_ex, ht_nx, ht_rt, ht_ex, tb_nx, tb_rt, tb_ex, hd_setB, hd_setT, hd_retT, D.flat, opd_d, opd_pl, opd_lst, opd_ex, val_d, val_lst, List.append_assoc, List.length_set, gc_push, gc_id, take_push, take_id, get_app0, get_app1, get_app2, isNew0, isNew1, isNew_int, isNew_str, isNew_bl, isNew_non, isNew_tup, isNew_lst, keep_un, keep_int, keep_bl, keep_non, keep_str, keep_scr, keep_obj, keep_own_lst, keep_own_dK, pureK_nil, keep_lst, keep_tup, D.unders, ne_succ, ne_succ1, eq_self, nodup2, nodup3, List.filterMap_cons, List.filterMap_nil, putPar, D.under, List.nodup_cons, List.mem_cons, List.not_mem_nil, or_self, or_false, Nat.reduceEqDiff, List.nodup_nil, true_and, and_true, bits10, Int.reduceMul, Int.reduceLE, Int.reduceLT, Int.reducePow, Int.reduceAdd, Int.reduceSub, Int.reduceNeg, Int.reduceToNat, val_dK, putTs_nil, putTs_nm, putTs_sub, val_ex, val_pl, valPl_lst, valPl_d, opt_some, toO_ok, toO_ex, asBl_ok, List.map_cons, List.map_nil, List.length_cons, List.length_nil, Nat.reduceAdd, Nat.reduceSub, Nat.zero_add, List.replicate, List.cons_append, List.nil_append, List.getElem?_cons_zero, List.getElem?_cons_succ, List.set_cons_zero, List.set_cons_succ, S.rd, S.rdD, S.store, OS.opt, Option.bind_some, Option.map_some, Cell.view, S.cell, S.isLst, S.isDct, S.rdDct, dgetV, dixV, augV, S.put, S.rdLst, cmpV, opCmp, opEq_str, opEq_int, opEq_bl, opEq_non, opEq_lst, opEq_tup, pures_app, eqv_int, eqv_bl, eqv_lst, eqv_tup, eqvs_nil, eqvs_ints, eqvs_cons, eqv_str, opIn_ints, unders_ints, set_app0, set_app1, binV, opBin, ixV, opIx, biV, biSem, biLen, biInt, biAbs, biMax2, biMin2, biSum, biAll, biAny, biList, biTuple, List.mapM_cons, List.mapM_nil, bind, pure, Option.bind, truV, D.tru, isiV, D.kind, Ty.sub, List.any_cons, List.any_nil, decide_true, decide_false, Int.cast_ofNat_Int, beq_self_eq_true, Bool.false_and, Bool.true_or, Bool.false_or, Bool.or_false, Bool.and_true, Bool.true_and, Bool.and_self, if_true, if_false, Bool.false_eq_true, reduceCtorEq, Bool.not_true, Bool.not_false, finish, D.pure, D.pures, Cell.pure, List.take_length, and_self, not_true_eq_false, not_false_eq_true, plain_int', plain_lst, plain_tup, plain_non, plain_bl, D.plainsN, pures_ints, plain_ints, List.length_map, List.length_append, at1, at2, at3, at4, at5, muV, muSem, muApp, setIx, S.fz, perm, List.getD_cons_zero, List.getD_cons_succ, $as,*])
/-! ### a possible club has a way -/
def slackF (t : Int) (m : Mem) : Int := (if m.d < t then m.n else 0) - (if m.d ≤ t ∧ m.w = true then 1 else 0)
theorem slackT_sum (c : List Mem) (t : Int) : slackT c t = (c.map (slackF t)).sum := by
  unfold slackT
  induction c with
  | nil => rfl
  | cons m c ih =>
    rw [List.map_cons, List.sum_cons, ← ih]
    unfold slackF
    by_cases h : m.d < t
    · have h2 : m.d ≤ t := by omega
      cases hw : m.w <;> simp [List.filter_cons, h, h2, hw] <;> omega
    · by_cases h2 : m.d ≤ t
      · cases hw : m.w <;> simp [List.filter_cons, h, h2, hw] <;> omega
      · simp [List.filter_cons, h, h2]
def leftF (m : Mem) : Int := m.n - (if m.w = true then 1 else 0)
theorem leftN_sum (c : List Mem) : leftN c = (c.map leftF).sum := by
  unfold leftN
  induction c with
  | nil => rfl
  | cons m c ih =>
    rw [show ((m :: c).map leftF).sum = leftF m + (c.map leftF).sum by simp, ← ih]
    unfold leftF
    cases hw : m.w <;> simp [List.filter_cons, hw] <;> omega
theorem sum_set {f : Mem → Int} : ∀ {c : List Mem} {i : Nat} {x : Mem} (y : Mem), c[i]? = some x → ((c.set i y).map f).sum = (c.map f).sum - f x + f y
  | [], i, x, y, h => by simp at h
  | a :: c, 0, x, y, h => by
    simp at h
    subst h
    rw [List.set_cons_zero, List.map_cons, List.sum_cons, List.map_cons, List.sum_cons]; omega
  | a :: c, i + 1, x, y, h => by
    rw [List.set_cons_succ, List.map_cons, List.sum_cons, List.map_cons, List.sum_cons, sum_set (i := i) y (by simpa using h)]; omega
theorem sum_link {f : Mem → Int} {c : List Mem} {b m : Nat} {xb xm : Mem} (hbm : b ≠ m) (hb : c[b]? = some xb) (hm : c[m]? = some xm) :
    ((linkC c b m).map f).sum = (c.map f).sum - f xb + f ⟨xb.d, xb.w, xb.n - 1⟩ - f xm + f ⟨xm.d, false, xm.n⟩ := by
  unfold linkC
  rw [mAt_some hb, mAt_some hm, sum_set (x := xm) _ (by rw [List.getElem?_set_ne hbm]; exact hm), sum_set _ hb]
theorem slack_link {c : List Mem} {b m : Nat} {xb xm : Mem} (hbm : b ≠ m) (hb : c[b]? = some xb) (hm : c[m]? = some xm) (hw : xm.w = true) (t : Int) :
    slackT (linkC c b m) t = slackT c t - (if xb.d < t then 1 else 0) + (if xm.d ≤ t then 1 else 0) := by
  rw [slackT_sum, slackT_sum, sum_link hbm hb hm]
  simp only [slackF, hw]
  by_cases h1 : xb.d < t <;> by_cases h2 : xm.d ≤ t <;> by_cases h3 : xm.d < t <;> simp [h1, h2, h3] <;> omega
theorem left_link {c : List Mem} {b m : Nat} {xb xm : Mem} (hbm : b ≠ m) (hb : c[b]? = some xb) (hm : c[m]? = some xm) (hw : xm.w = true) : leftN (linkC c b m) = leftN c := by
  rw [leftN_sum, leftN_sum, sum_link hbm hb hm]
  simp only [leftF, hw]
  split <;> simp <;> omega
/-- numbers that may be, slack on all days, nothing left over -/
structure Fine (c : List Mem) : Prop where
  num : ∀ m ∈ c, 0 ≤ m.n
  slack : ∀ m ∈ c, 0 ≤ slackT c m.d
  left : leftN c = 0
theorem sum_pos : ∀ (l : List Int), 0 < l.sum → ∃ x ∈ l, 0 < x
  | [], h => by simp at h
  | a :: l, h => by
    rw [List.sum_cons] at h
    by_cases ha : 0 < a
    · exact ⟨a, List.mem_cons_self, ha⟩
    · obtain ⟨x, h1, h2⟩ := sum_pos l (by omega)
      exact ⟨x, List.mem_cons_of_mem _ h1, h2⟩
theorem sum_ge {f : Mem → Int} : ∀ {c : List Mem} {x : Mem}, (∀ m ∈ c, 0 ≤ f m) → x ∈ c → f x ≤ (c.map f).sum
  | [], x, _, h => by simp at h
  | a :: c, x, hn, h => by
    rw [List.map_cons, List.sum_cons]
    have nn : 0 ≤ (c.map f).sum := by
      have : ∀ l : List Mem, (∀ m ∈ l, 0 ≤ f m) → 0 ≤ (l.map f).sum := fun l => by
        induction l with
        | nil => intro _; simp
        | cons m l ih =>
          intro hl
          rw [List.map_cons, List.sum_cons]
          have := hl m List.mem_cons_self
          have := ih fun x hx => hl x (List.mem_cons_of_mem _ hx)
          omega
      exact this c fun m hm => hn m (List.mem_cons_of_mem _ hm)
    rcases List.mem_cons.mp h with rfl | h
    · omega
    · have := sum_ge (fun m hm => hn m (List.mem_cons_of_mem _ hm)) h
      have := hn a List.mem_cons_self
      omega
theorem fine_link {c : List Mem} {b m : Nat} {xb xm : Mem} (F : Fine c) (hb : c[b]? = some xb) (hm : c[m]? = some xm) (hd : xb.d < xm.d) (hn : 0 < xb.n) (hw : xm.w = true) (first : ∀ x ∈ c, x.w = true → xm.d ≤ x.d) : Fine (linkC c b m) := by
  have hbm : b ≠ m := fun e => by subst e; rw [hb] at hm; cases hm; omega
  refine ⟨fun y hy => ?_, fun y hy => ?_, by rw [left_link hbm hb hm hw]; exact F.left⟩
  · obtain ⟨k, hk, e⟩ := List.getElem_of_mem hy
    obtain ⟨x, hx, rfl⟩ := linkC_back hbm (by rw [List.getElem?_eq_getElem hk, e])
    have h0 := F.num x (List.mem_of_getElem? hx)
    show 0 ≤ (if k = b then x.n - 1 else x.n)
    split
    · rename_i e; subst e; rw [hb] at hx; cases hx; omega
    · exact h0
  · obtain ⟨k, hk, e⟩ := List.getElem_of_mem hy
    obtain ⟨x, hx, rfl⟩ := linkC_back hbm (by rw [List.getElem?_eq_getElem hk, e])
    have h0 := F.slack x (List.mem_of_getElem? hx)
    show 0 ≤ slackT (linkC c b m) x.d
    rw [slack_link hbm hb hm hw]
    by_cases h1 : xb.d < x.d
    · by_cases h2 : xm.d ≤ x.d
      · rw [if_pos h1, if_pos h2]; omega
      · rw [if_pos h1, if_neg h2, slackT_sum]
        have hf : ∀ z ∈ c, 0 ≤ slackF x.d z := fun z hz => by
          unfold slackF
          have := F.num z hz
          have h3 : ¬ (z.d ≤ x.d ∧ z.w = true) := fun q => by have := first z hz q.2; omega
          rw [if_neg h3]
          split <;> omega
        have h4 := sum_ge hf (List.mem_of_getElem? hb)
        have h5 : slackF x.d xb = xb.n := by
          unfold slackF
          have h3 : ¬ (xb.d ≤ x.d ∧ xb.w = true) := fun q => by have := first xb (List.mem_of_getElem? hb) q.2; omega
          rw [if_neg h3, if_pos h1]; omega
        omega
    · have h2 : ¬ xm.d ≤ x.d := by omega
      rw [if_neg h1, if_neg h2]; omega
theorem least_day : ∀ (l : List Mem), l ≠ [] → ∃ x ∈ l, ∀ y ∈ l, x.d ≤ y.d
  | [], h => absurd rfl h
  | [a], _ => ⟨a, List.mem_cons_self, fun y hy => by rw [List.mem_singleton.mp hy]; exact Int.le_refl _⟩
  | a :: b :: l, _ => by
    obtain ⟨x, h1, h2⟩ := least_day (b :: l) (by simp)
    by_cases h : a.d ≤ x.d
    · refine ⟨a, List.mem_cons_self, fun y hy => ?_⟩
      rcases List.mem_cons.mp hy with rfl | hy
      · exact Int.le_refl _
      · have := h2 y hy; omega
    · refine ⟨x, List.mem_cons_of_mem _ h1, fun y hy => ?_⟩
      rcases List.mem_cons.mp hy with rfl | hy
      · omega
      · exact h2 y hy
def wF (m : Mem) : Int := if m.w = true then 1 else 0
/-- R1: a club that is fine has a way -/
theorem fine_way : ∀ (k : Nat) (c : List Mem), (c.map wF).sum = k → Fine c → ∃ w, IsWay c w
  | 0, c, hk, F => by
    have h0 : ∀ m ∈ c, 0 ≤ wF m := fun m _ => by unfold wF; split <;> omega
    have hw : ∀ m ∈ c, m.w = false := fun m hm => by
      have h1 := sum_ge h0 hm
      unfold wF at h1 hk
      cases q : m.w with
      | false => rfl
      | true => rw [q, if_pos rfl] at h1; omega
    have hn : ∀ m ∈ c, m.n = 0 := fun m hm => by
      have h1 := sum_ge (f := (·.n)) F.num hm
      have h2 := F.left
      unfold leftN at h2
      rw [List.filter_eq_nil_iff.mpr fun x hx => by rw [hw x hx]; simp] at h2
      have := F.num m hm
      simp at h2
      omega
    refine ⟨List.replicate c.length none, by simp, fun i b q => ?_, fun i x o hx ho => ?_, fun i x hx => ?_⟩
    · have := List.mem_of_getElem? q
      rw [List.mem_replicate] at this
      cases this.2
    · have := List.mem_of_getElem? ho
      rw [List.mem_replicate] at this
      rw [this.2, hw x (List.mem_of_getElem? hx)]; rfl
    · rw [hn x (List.mem_of_getElem? hx)]
      simp [List.count_replicate]
  | k + 1, c, hk, F => by
    have hne : (c.filter fun m => m.w) ≠ [] := fun e => by
      have : (c.map wF).sum = 0 := by
        have h1 : c.map wF = c.map fun _ => 0 := List.map_congr_left fun m hm => by
          have := List.filter_eq_nil_iff.mp e m hm
          unfold wF
          rw [if_neg this]
        rw [h1]
        clear hk F e h1
        induction c with
        | nil => rfl
        | cons m c ih => rw [List.map_cons, List.sum_cons, ih]; rfl
      omega
    obtain ⟨xm, h1, h2⟩ := least_day _ hne
    obtain ⟨h3, h4⟩ := List.mem_filter.mp h1
    have first : ∀ x ∈ c, x.w = true → xm.d ≤ x.d := fun x hx hw => h2 x (List.mem_filter.mpr ⟨hx, hw⟩)
    obtain ⟨m, hm, em⟩ := List.getElem_of_mem h3
    have hm' : c[m]? = some xm := by rw [List.getElem?_eq_getElem hm, em]
    have hs := F.slack xm h3
    have hpos : 0 < (c.map fun x => if x.d < xm.d then x.n else 0).sum := by
      rw [slackT_sum] at hs
      have split : (c.map (slackF xm.d)).sum = (c.map fun x => if x.d < xm.d then x.n else 0).sum - (c.map fun x => if x.d ≤ xm.d ∧ x.w = true then 1 else 0).sum := by
        clear hk F hne h1 h2 h3 first hm' hm em hs
        induction c with
        | nil => rfl
        | cons a c ih => rw [List.map_cons, List.sum_cons, ih, List.map_cons, List.sum_cons, List.map_cons, List.sum_cons]; unfold slackF; omega
      have h5 := sum_ge (c := c) (f := fun x => if x.d ≤ xm.d ∧ x.w = true then 1 else 0) (fun x _ => by split <;> omega) h3
      rw [if_pos ⟨Int.le_refl _, h4⟩] at h5
      omega
    obtain ⟨v, hv, hv2⟩ := sum_pos _ hpos
    obtain ⟨xb, hxb, rfl⟩ := List.mem_map.mp hv
    have hd : xb.d < xm.d := by
      by_cases q : xb.d < xm.d
      · exact q
      · rw [if_neg q] at hv2; omega
    rw [if_pos hd] at hv2
    obtain ⟨b, hb, eb⟩ := List.getElem_of_mem hxb
    have hb' : c[b]? = some xb := by rw [List.getElem?_eq_getElem hb, eb]
    have hbm : b ≠ m := fun e => by subst e; rw [hb'] at hm'; cases hm'; omega
    obtain ⟨w, hw⟩ := fine_way k (linkC c b m) (by
      rw [sum_link hbm hb' hm', hk]
      simp only [wF, h4]
      simp) (fine_link F hb' hm' hd hv2 h4 first)
    exact ⟨_, (way_link hw hb' hm' hd h4).2⟩

end G4

namespace G4
open PySem PySem.Spec PyProof.Rows L2
local macro_rules
  | `(tactic| simp_arith [$as,*]) => `(tactic| simp -implicitDefEqProofs only [tl_table_of_1, tl_table_of_2, tl_table_of_3, tl_ways_of_1, tl_ways_of_2, tl__law_toss_1, tl__law_toss_2, tl__law_toss_3, tl__law_made_1, tl__law_made_2, tl__law_made_3, tl__law_made_4, tl__law_made_5, tl__law_made_6, tl__law_made_7, tl__law_made_8, tl__law_bent_1, tl__law_bent_2, tl__law_bent_3, tl__law_bent_4, tl__law_right_1, tl__law_right_2, tl_law_1, tl_law_2, tl_law_3, tl_law_4, tl_law_5, tl_law_6, ↓bnd_eq, ↓off_eq, ↓thn_eq, run_eq, fin_nx, fin_rt, fin_ex, S.hide, hideSl, exms, exm, ev, evT, evs, evOs, evo, evc, evSrc, evPar, hb_ok, hb_ex, ho_ok, ho_ex, ht_nx, ht_rt, ht_ex, tb_nx, tb_rt, tb_ex, hd_setB, hd_setT, hd_retT, D.flat, opd_d, opd_pl, opd_lst, opd_ex, val_d, val_lst, List.append_assoc, List.length_set, gc_push, gc_id, take_push, take_id, get_app0, get_app1, get_app2, isNew0, isNew1, isNew_int, isNew_str, isNew_bl, isNew_non, isNew_tup, isNew_lst, keep_un, keep_int, keep_bl, keep_non, keep_str, keep_scr, keep_obj, keep_own_lst, keep_own_dK, pureK_nil, keep_lst, keep_tup, D.unders, ne_succ, ne_succ1, eq_self, nodup2, nodup3, List.filterMap_cons, List.filterMap_nil, putPar, D.under, List.nodup_cons, List.mem_cons, List.not_mem_nil, or_self, or_false, Nat.reduceEqDiff, List.nodup_nil, true_and, and_true, bits10, Int.reduceMul, Int.reduceLE, Int.reduceLT, Int.reducePow, Int.reduceAdd, Int.reduceSub, Int.reduceNeg, Int.reduceToNat, val_dK, putTs_nil, putTs_nm, putTs_sub, val_ex, val_pl, valPl_lst, valPl_d, opt_some, toO_ok, toO_ex, asBl_ok, List.map_cons, List.map_nil, List.length_cons, List.length_nil, Nat.reduceAdd, Nat.reduceSub, Nat.zero_add, List.replicate, List.cons_append, List.nil_append, List.getElem?_cons_zero, List.getElem?_cons_succ, List.set_cons_zero, List.set_cons_succ, S.rd, S.rdD, S.store, OS.opt, Option.bind_some, Option.map_some, Cell.view, S.cell, S.isLst, S.isDct, S.rdDct, dgetV, dixV, augV, S.put, S.rdLst, cmpV, opCmp, opEq_str, opEq_int, opEq_bl, opEq_non, opEq_lst, opEq_tup, pures_app, eqv_int, eqv_bl, eqv_lst, eqv_tup, eqvs_nil, eqvs_ints, eqvs_cons, eqv_str, opIn_ints, unders_ints, set_app0, set_app1, binV, opBin, ixV, opIx, biV, biSem, biLen, biInt, biAbs, biMax2, biMin2, biSum, biAll, biAny, biList, biTuple, List.mapM_cons, List.mapM_nil, bind, pure, Option.bind, truV, D.tru, isiV, D.kind, Ty.sub, List.any_cons, List.any_nil, decide_true, decide_false, Int.cast_ofNat_Int, beq_self_eq_true, Bool.false_and, Bool.true_or, Bool.false_or, Bool.or_false, Bool.and_true, Bool.true_and, Bool.and_self, if_true, if_false, Bool.false_eq_true, reduceCtorEq, Bool.not_true, Bool.not_false, finish, D.pure, D.pures, Cell.pure, List.take_length, and_self, not_true_eq_false, not_false_eq_true, plain_int', plain_lst, plain_tup, plain_non, plain_bl, D.plainsN, pures_ints, plain_ints, List.length_map, List.length_append, at1, at2, at3, at4, at5, muV, muSem, muApp, setIx, S.fz, perm, List.getD_cons_zero, List.getD_cons_succ, $as,*])
theorem sum_wF (c : List Mem) : ∃ k : Nat, (c.map wF).sum = k := by
  induction c with
  | nil => exact ⟨0, rfl⟩
  | cons m c ih =>
    obtain ⟨k, hk⟩ := ih
    rw [List.map_cons, List.sum_cons, hk]
    unfold wF
    split
    · exact ⟨k + 1, by omega⟩
    · exact ⟨k, by omega⟩
/-- R3: a link can be exactly if no day strictly between has slack 0 -/
theorem link_iff {c : List Mem} {b m : Nat} {xb xm : Mem} (F : Fine c) (hb : c[b]? = some xb) (hm : c[m]? = some xm) :
    (∃ w, IsWay c w ∧ w[m]? = some (some b)) ↔ (0 < xb.n ∧ xm.w = true ∧ xb.d < xm.d ∧ ∀ x ∈ c, xb.d < x.d → x.d < xm.d → 0 < slackT c x.d) := by
  constructor
  · rintro ⟨w, h, q⟩
    obtain ⟨hbm, h2⟩ := link_way h q
    obtain ⟨y, z, g1, g2, g3⟩ := h.br m b q
    rw [hb] at g1; cases g1
    rw [hm] at g2; cases g2
    have hw : xm.w = true := h.mem m xm _ hm q
    refine ⟨?_, hw, g3, fun x hx h3 h4 => ?_⟩
    · rw [h.cnt b xb hb]
      have : 0 < w.count (some b) := List.count_pos_iff.mpr (List.mem_of_getElem? q)
      omega
    · have := way_slack h2 x.d
      rw [slack_link hbm hb hm hw, if_pos h3, if_neg (by omega)] at this
      omega
  · rintro ⟨hn, hw, hd, hs⟩
    have hbm : b ≠ m := fun e => by subst e; rw [hb] at hm; cases hm; omega
    have F2 : Fine (linkC c b m) := by
      refine ⟨fun y hy => ?_, fun y hy => ?_, by rw [left_link hbm hb hm hw]; exact F.left⟩
      · obtain ⟨k, hk, e⟩ := List.getElem_of_mem hy
        obtain ⟨x, hx, rfl⟩ := linkC_back hbm (by rw [List.getElem?_eq_getElem hk, e])
        have h0 := F.num x (List.mem_of_getElem? hx)
        show 0 ≤ (if k = b then x.n - 1 else x.n)
        split
        · rename_i e; subst e; rw [hb] at hx; cases hx; omega
        · exact h0
      · obtain ⟨k, hk, e⟩ := List.getElem_of_mem hy
        obtain ⟨x, hx, rfl⟩ := linkC_back hbm (by rw [List.getElem?_eq_getElem hk, e])
        have hxm := List.mem_of_getElem? hx
        have h0 := F.slack x hxm
        show 0 ≤ slackT (linkC c b m) x.d
        rw [slack_link hbm hb hm hw]
        by_cases h1 : xb.d < x.d
        · by_cases h2 : xm.d ≤ x.d
          · rw [if_pos h1, if_pos h2]; omega
          · have := hs x hxm h1 (by omega)
            rw [if_pos h1, if_neg h2]; omega
        · have h2 : ¬ xm.d ≤ x.d := by omega
          rw [if_neg h1, if_neg h2]; omega
    obtain ⟨k, hk⟩ := sum_wF (linkC c b m)
    obtain ⟨w, h⟩ := fine_way k _ hk F2
    obtain ⟨g1, g2⟩ := way_link h hb hm hd hw
    exact ⟨_, g2, by rw [List.getElem?_set_self (List.getElem?_eq_some_iff.mp g1).1]⟩

end G4

namespace G4
open PySem PySem.Spec PyProof.Rows L2
local macro_rules
  | `(tactic| simp_arith [$as,*]) => `(tactic| simp -implicitDefEqProofs only [tl_table_of_1, tl_table_of_2, tl_table_of_3, tl_ways_of_1, tl_ways_of_2, tl__law_toss_1, tl__law_toss_2, tl__law_toss_3, tl__law_made_1, tl__law_made_2, tl__law_made_3, tl__law_made_4, tl__law_made_5, tl__law_made_6, tl__law_made_7, tl__law_made_8, tl__law_bent_1, tl__law_bent_2, tl__law_bent_3, tl__law_bent_4, tl__law_right_1, tl__law_right_2, tl_law_1, tl_law_2, tl_law_3, tl_law_4, tl_law_5, tl_law_6, ↓bnd_eq, ↓off_eq, ↓thn_eq, run_eq, fin_nx, fin_rt, fin_ex, S.hide, hideSl, exms, exm, ev, evT, evs, evOs, evo, evc, evSrc, evPar, hb_ok, hb_ex, ho_ok, ho_ex, ht_nx, ht_rt, ht_ex, tb_nx, tb_rt, tb_ex, hd_setB, hd_setT, hd_retT, D.flat, opd_d, opd_pl, opd_lst, opd_ex, val_d, val_lst, List.append_assoc, List.length_set, gc_push, gc_id, take_push, take_id, get_app0, get_app1, get_app2, isNew0, isNew1, isNew_int, isNew_str, isNew_bl, isNew_non, isNew_tup, isNew_lst, keep_un, keep_int, keep_bl, keep_non, keep_str, keep_scr, keep_obj, keep_own_lst, keep_own_dK, pureK_nil, keep_lst, keep_tup, D.unders, ne_succ, ne_succ1, eq_self, nodup2, nodup3, List.filterMap_cons, List.filterMap_nil, putPar, D.under, List.nodup_cons, List.mem_cons, List.not_mem_nil, or_self, or_false, Nat.reduceEqDiff, List.nodup_nil, true_and, and_true, bits10, Int.reduceMul, Int.reduceLE, Int.reduceLT, Int.reducePow, Int.reduceAdd, Int.reduceSub, Int.reduceNeg, Int.reduceToNat, val_dK, putTs_nil, putTs_nm, putTs_sub, val_ex, val_pl, valPl_lst, valPl_d, opt_some, toO_ok, toO_ex, asBl_ok, List.map_cons, List.map_nil, List.length_cons, List.length_nil, Nat.reduceAdd, Nat.reduceSub, Nat.zero_add, List.replicate, List.cons_append, List.nil_append, List.getElem?_cons_zero, List.getElem?_cons_succ, List.set_cons_zero, List.set_cons_succ, S.rd, S.rdD, S.store, OS.opt, Option.bind_some, Option.map_some, Cell.view, S.cell, S.isLst, S.isDct, S.rdDct, dgetV, dixV, augV, S.put, S.rdLst, cmpV, opCmp, opEq_str, opEq_int, opEq_bl, opEq_non, opEq_lst, opEq_tup, pures_app, eqv_int, eqv_bl, eqv_lst, eqv_tup, eqvs_nil, eqvs_ints, eqvs_cons, eqv_str, opIn_ints, unders_ints, set_app0, set_app1, binV, opBin, ixV, opIx, biV, biSem, biLen, biInt, biAbs, biMax2, biMin2, biSum, biAll, biAny, biList, biTuple, List.mapM_cons, List.mapM_nil, bind, pure, Option.bind, truV, D.tru, isiV, D.kind, Ty.sub, List.any_cons, List.any_nil, decide_true, decide_false, Int.cast_ofNat_Int, beq_self_eq_true, Bool.false_and, Bool.true_or, Bool.false_or, Bool.or_false, Bool.and_true, Bool.true_and, Bool.and_self, if_true, if_false, Bool.false_eq_true, reduceCtorEq, Bool.not_true, Bool.not_false, finish, D.pure, D.pures, Cell.pure, List.take_length, and_self, not_true_eq_false, not_false_eq_true, plain_int', plain_lst, plain_tup, plain_non, plain_bl, D.plainsN, pures_ints, plain_ints, List.length_map, List.length_append, at1, at2, at3, at4, at5, muV, muSem, muApp, setIx, S.fz, perm, List.getD_cons_zero, List.getD_cons_succ, $as,*])
/-! ### all ways, listed -/
theorem eq_of_sorted {α : Type} {R : α → α → Prop} (irr : ∀ a, ¬ R a a) (asy : ∀ a b, R a b → ¬ R b a) : ∀ {l m : List α}, l.Pairwise R → m.Pairwise R → (∀ x, x ∈ l ↔ x ∈ m) → l = m := by
  intro l
  induction l with
  | nil =>
    intro m _ _ h
    cases m with
    | nil => rfl
    | cons b m => exact absurd ((h b).mpr (List.mem_cons_self ..)) (by simp)
  | cons a l ih =>
    intro m hl hm h
    cases m with
    | nil => exact absurd ((h a).mp (List.mem_cons_self ..)) (by simp)
    | cons b m =>
      obtain ⟨l1, l2⟩ := List.pairwise_cons.mp hl
      obtain ⟨m1, m2⟩ := List.pairwise_cons.mp hm
      have e : a = b := by
        rcases List.mem_cons.mp ((h a).mp (List.mem_cons_self ..)) with e | e
        · exact e
        · rcases List.mem_cons.mp ((h b).mpr (List.mem_cons_self ..)) with e' | e'
          · exact e'.symm
          · exact absurd (m1 a e) (asy _ _ (l1 b e'))
      subst e
      rw [ih l2 m2 fun x => ⟨fun hx => ?_, fun hx => ?_⟩]
      · rcases List.mem_cons.mp ((h x).mp (List.mem_cons_of_mem _ hx)) with e | e
        · subst e; exact absurd (l1 _ hx) (irr _)
        · exact e
      · rcases List.mem_cons.mp ((h x).mpr (List.mem_cons_of_mem _ hx)) with e | e
        · subst e; exact absurd (m1 _ hx) (irr _)
        · exact e
/-- one way ahead of another one: a lesser bringer at the first place where they are unlike -/
def wLt : List (Option Nat) → List (Option Nat) → Prop
  | o :: a, p :: b => (∃ i j, o = some i ∧ p = some j ∧ i < j) ∨ (o = p ∧ wLt a b)
  | _, _ => False
theorem wLt.irr : ∀ a, ¬ wLt a a
  | [] => fun h => h
  | o :: a => fun h => by
    rcases h with ⟨i, j, e1, e2, h⟩ | ⟨_, h⟩
    · rw [e1] at e2; cases e2; omega
    · exact wLt.irr a h
theorem wLt.asy : ∀ a b, wLt a b → ¬ wLt b a
  | [], _ => fun h => absurd h (by simp [wLt])
  | _ :: _, [] => fun h => absurd h (by simp [wLt])
  | o :: a, p :: b => fun h k => by
    rcases h with ⟨i, j, e1, e2, h⟩ | ⟨e, h⟩
    · rcases k with ⟨i', j', e1', e2', k⟩ | ⟨e', k⟩
      · rw [e2] at e1'; rw [e1] at e2'; cases e1'; cases e2'; omega
      · rw [e1, e2] at e'; cases e'; omega
    · rcases k with ⟨i', j', e1', e2', k⟩ | ⟨e', k⟩
      · rw [e, e1'] at e2'; cases e2'; omega
      · exact wLt.asy a b h k
theorem wLt_app {a b : List (Option Nat)} (x y : List (Option Nat)) (h : wLt a b) : wLt (a ++ x) (b ++ y) := by
  induction a generalizing b with
  | nil => exact absurd h (by simp [wLt])
  | cons o a ih =>
    cases b with
    | nil => exact absurd h (by simp [wLt])
    | cons p b =>
      rcases h with h | ⟨e, h⟩
      · exact .inl h
      · exact .inr ⟨e, ih h⟩
theorem wLt_same (a : List (Option Nat)) {x y : List (Option Nat)} (h : wLt x y) : wLt (a ++ x) (a ++ y) := by
  induction a with
  | nil => exact h
  | cons o a ih => exact .inr ⟨rfl, ih⟩
/-- bringers of the next member that have a number left -/
def nextB (c : List Mem) (k : Nat) (l : List Int) : List Nat := (List.range k).filter fun b => decide ((mAt c b).d < (mAt c k).d) && decide (0 < l.getD b 0)
def stepW (c : List Mem) (k : Nat) (r : List (Option Nat) × List Int) : List (List (Option Nat) × List Int) :=
  if (mAt c k).w then (nextB c k r.2).map fun b => (r.1 ++ [some b], r.2.set b (r.2.getD b 0 - 1)) else [(r.1 ++ [none], r.2)]
def rowsW (c : List Mem) : Nat → List (List (Option Nat) × List Int)
  | 0 => [([], c.map (·.n))]
  | k + 1 => (rowsW c k).flatMap (stepW c k)
/-- as the laws list them -/
def allW (c : List Mem) : List (List (Option Nat)) := ((rowsW c c.length).filter fun r => r.2.sum == 0).map (·.1)
theorem rowsW_len (c : List Mem) : ∀ k, ∀ r ∈ rowsW c k, r.1.length = k ∧ r.2.length = c.length
  | 0 => fun r h => by
    cases List.mem_singleton.mp h
    exact ⟨rfl, by simp⟩
  | k + 1 => fun r h => by
    obtain ⟨s, hs, h⟩ := List.mem_flatMap.mp h
    obtain ⟨h1, h2⟩ := rowsW_len c k s hs
    unfold stepW at h
    split at h
    · obtain ⟨b, _, rfl⟩ := List.mem_map.mp h
      exact ⟨by simp [h1], by simp [h2]⟩
    · cases List.mem_singleton.mp h
      exact ⟨by simp [h1], h2⟩
theorem pw_range (p : Nat → Bool) (n : Nat) : ((List.range n).filter p).Pairwise (· < ·) := List.Pairwise.filter _ List.pairwise_lt_range
theorem rowsW_asc (c : List Mem) : ∀ k, (rowsW c k).Pairwise fun r s => wLt r.1 s.1
  | 0 => List.pairwise_singleton _ _
  | k + 1 => by
    refine List.pairwise_flatMap.mpr ⟨fun r _ => ?_, (rowsW_asc c k).imp_of_mem fun {r s} hr hs h => fun x hx y hy => ?_⟩
    · unfold stepW
      split
      · refine List.pairwise_map.mpr ((pw_range _ _).imp fun {a b} h => ?_)
        exact wLt_same _ (.inl ⟨a, b, rfl, rfl, h⟩)
      · exact List.pairwise_singleton _ _
    · have g : ∀ r z, z ∈ stepW c k r → ∃ t, z.1 = r.1 ++ t := fun r z hz => by
        unfold stepW at hz
        split at hz
        · obtain ⟨b, _, rfl⟩ := List.mem_map.mp hz
          exact ⟨_, rfl⟩
        · cases List.mem_singleton.mp hz
          exact ⟨_, rfl⟩
      obtain ⟨t, e1⟩ := g r x hx
      obtain ⟨u, e2⟩ := g s y hy
      rw [e1, e2]
      exact wLt_app _ _ h
theorem allW_asc (c : List Mem) : (allW c).Pairwise wLt := List.pairwise_map.mpr ((rowsW_asc c _).filter _)

end G4

namespace G4
open PySem PySem.Spec PyProof.Rows L2
local macro_rules
  | `(tactic| simp_arith [$as,*]) => `(tactic| simp -implicitDefEqProofs only [tl_table_of_1, tl_table_of_2, tl_table_of_3, tl_ways_of_1, tl_ways_of_2, tl__law_toss_1, tl__law_toss_2, tl__law_toss_3, tl__law_made_1, tl__law_made_2, tl__law_made_3, tl__law_made_4, tl__law_made_5, tl__law_made_6, tl__law_made_7, tl__law_made_8, tl__law_bent_1, tl__law_bent_2, tl__law_bent_3, tl__law_bent_4, tl__law_right_1, tl__law_right_2, tl_law_1, tl_law_2, tl_law_3, tl_law_4, tl_law_5, tl_law_6, ↓bnd_eq, ↓off_eq, ↓thn_eq, run_eq, fin_nx, fin_rt, fin_ex, S.hide, hideSl, exms, exm, ev, evT, evs, evOs, evo, evc, evSrc, evPar, hb_ok, hb_ex, ho_ok, ho_ex, ht_nx, ht_rt, ht_ex, tb_nx, tb_rt, tb_ex, hd_setB, hd_setT, hd_retT, D.flat, opd_d, opd_pl, opd_lst, opd_ex, val_d, val_lst, List.append_assoc, List.length_set, gc_push, gc_id, take_push, take_id, get_app0, get_app1, get_app2, isNew0, isNew1, isNew_int, isNew_str, isNew_bl, isNew_non, isNew_tup, isNew_lst, keep_un, keep_int, keep_bl, keep_non, keep_str, keep_scr, keep_obj, keep_own_lst, keep_own_dK, pureK_nil, keep_lst, keep_tup, D.unders, ne_succ, ne_succ1, eq_self, nodup2, nodup3, List.filterMap_cons, List.filterMap_nil, putPar, D.under, List.nodup_cons, List.mem_cons, List.not_mem_nil, or_self, or_false, Nat.reduceEqDiff, List.nodup_nil, true_and, and_true, bits10, Int.reduceMul, Int.reduceLE, Int.reduceLT, Int.reducePow, Int.reduceAdd, Int.reduceSub, Int.reduceNeg, Int.reduceToNat, val_dK, putTs_nil, putTs_nm, putTs_sub, val_ex, val_pl, valPl_lst, valPl_d, opt_some, toO_ok, toO_ex, asBl_ok, List.map_cons, List.map_nil, List.length_cons, List.length_nil, Nat.reduceAdd, Nat.reduceSub, Nat.zero_add, List.replicate, List.cons_append, List.nil_append, List.getElem?_cons_zero, List.getElem?_cons_succ, List.set_cons_zero, List.set_cons_succ, S.rd, S.rdD, S.store, OS.opt, Option.bind_some, Option.map_some, Cell.view, S.cell, S.isLst, S.isDct, S.rdDct, dgetV, dixV, augV, S.put, S.rdLst, cmpV, opCmp, opEq_str, opEq_int, opEq_bl, opEq_non, opEq_lst, opEq_tup, pures_app, eqv_int, eqv_bl, eqv_lst, eqv_tup, eqvs_nil, eqvs_ints, eqvs_cons, eqv_str, opIn_ints, unders_ints, set_app0, set_app1, binV, opBin, ixV, opIx, biV, biSem, biLen, biInt, biAbs, biMax2, biMin2, biSum, biAll, biAny, biList, biTuple, List.mapM_cons, List.mapM_nil, bind, pure, Option.bind, truV, D.tru, isiV, D.kind, Ty.sub, List.any_cons, List.any_nil, decide_true, decide_false, Int.cast_ofNat_Int, beq_self_eq_true, Bool.false_and, Bool.true_or, Bool.false_or, Bool.or_false, Bool.and_true, Bool.true_and, Bool.and_self, if_true, if_false, Bool.false_eq_true, reduceCtorEq, Bool.not_true, Bool.not_false, finish, D.pure, D.pures, Cell.pure, List.take_length, and_self, not_true_eq_false, not_false_eq_true, plain_int', plain_lst, plain_tup, plain_non, plain_bl, D.plainsN, pures_ints, plain_ints, List.length_map, List.length_append, at1, at2, at3, at4, at5, muV, muSem, muApp, setIx, S.fz, perm, List.getD_cons_zero, List.getD_cons_succ, $as,*])
/-! ### what all ways are -/
structure Part (c : List Mem) (k : Nat) (t : List (Option Nat)) : Prop where
  len : t.length = k
  at_ : ∀ i o, t[i]? = some o → (mAt c i).w = o.isSome ∧ ∀ b, o = some b → b < i ∧ (mAt c b).d < (mAt c i).d
  cnt : ∀ b, b < c.length → ((t.count (some b) : Nat) : Int) ≤ (mAt c b).n
def restL (c : List Mem) (t : List (Option Nat)) : List Int := (List.range c.length).map fun b => (mAt c b).n - ((t.count (some b) : Nat) : Int)
theorem restL_get {c : List Mem} (t : List (Option Nat)) {b : Nat} (h : b < c.length) : (restL c t).getD b 0 = (mAt c b).n - ((t.count (some b) : Nat) : Int) := by
  unfold restL
  rw [List.getD_eq_getElem?_getD, List.getElem?_map, List.getElem?_range h]
  rfl
theorem restL_none (c : List Mem) (t : List (Option Nat)) : restL c (t ++ [none]) = restL c t := by
  unfold restL
  refine List.map_congr_left fun b _ => ?_
  rw [List.count_append]
  simp
theorem restL_some {c : List Mem} (t : List (Option Nat)) {b : Nat} (h : b < c.length) : restL c (t ++ [some b]) = (restL c t).set b ((restL c t).getD b 0 - 1) := by
  apply List.ext_getElem?
  intro i
  rw [restL_get t h]
  by_cases e : b = i
  · subst e
    rw [List.getElem?_set_self (by simp [restL]; exact h)]
    unfold restL
    rw [List.getElem?_map, List.getElem?_range h]
    show some ((mAt c b).n - (((t ++ [some b]).count (some b) : Nat) : Int)) = _
    rw [List.count_append]
    simp
    omega
  · rw [List.getElem?_set_ne e]
    unfold restL
    rw [List.getElem?_map, List.getElem?_map]
    by_cases q : i < c.length
    · rw [List.getElem?_range q]
      show some ((mAt c i).n - (((t ++ [some b]).count (some i) : Nat) : Int)) = some _
      rw [List.count_append]
      simp [e]
    · rw [List.getElem?_eq_none (by simp; omega)]
      rfl
theorem rows_zero (c : List Mem) : c.map (·.n) = restL c [] := by
  apply List.ext_getElem?
  intro i
  unfold restL
  rw [List.getElem?_map, List.getElem?_map]
  by_cases q : i < c.length
  · rw [List.getElem?_range q, List.getElem?_eq_getElem q]
    simp [mAt, q]
  · rw [List.getElem?_eq_none (by omega), List.getElem?_eq_none (by simp; omega)]
    rfl
theorem mem_rows (c : List Mem) (N : ∀ b, b < c.length → 0 ≤ (mAt c b).n) : ∀ k, k ≤ c.length → ∀ r, r ∈ rowsW c k ↔ (Part c k r.1 ∧ r.2 = restL c r.1)
  | 0, _, r => by
    constructor
    · intro h
      cases List.mem_singleton.mp h
      exact ⟨⟨rfl, fun i o e => by simp at e, fun b hb => by simpa using N b hb⟩, rows_zero c⟩
    · rintro ⟨h, e⟩
      have e0 : r.1 = [] := List.eq_nil_of_length_eq_zero h.len
      obtain ⟨t, l⟩ := r
      cases e0
      rw [← rows_zero] at e
      cases e
      exact List.mem_singleton.mpr rfl
  | k + 1, hk, r => by
    have ih := mem_rows c N k (by omega)
    constructor
    · intro h
      obtain ⟨s, hs, h⟩ := List.mem_flatMap.mp h
      obtain ⟨P, e⟩ := (ih s).mp hs
      unfold stepW at h
      split at h
      · rename_i hw
        obtain ⟨b, hb, rfl⟩ := List.mem_map.mp h
        unfold nextB at hb
        obtain ⟨hb, h2⟩ := List.mem_filter.mp hb
        rw [Bool.and_eq_true, decide_eq_true_eq, decide_eq_true_eq] at h2
        have hb : b < k := List.mem_range.mp hb
        rw [e] at h2 ⊢
        refine ⟨⟨by simp [P.len], fun i o q => ?_, fun b' hb' => ?_⟩, (restL_some s.1 (by omega)).symm⟩
        · by_cases z : i < k
          · rw [List.getElem?_append_left (by rw [P.len]; exact z)] at q
            exact P.at_ i o q
          · have zi : i = k := by
              have := (List.getElem?_eq_some_iff.mp q).1
              simp [P.len] at this
              omega
            subst zi
            rw [List.getElem?_append_right (by rw [P.len]; exact Nat.le_refl _), P.len, Nat.sub_self] at q
            cases q
            exact ⟨hw, fun b' e' => by cases e'; exact ⟨hb, h2.1⟩⟩
        · have h3 := h2.2
          rw [restL_get s.1 (by omega)] at h3
          have h4 := P.cnt b' hb'
          show (((s.1 ++ [some b]).count (some b') : Nat) : Int) ≤ _
          rw [List.count_append]
          by_cases z : b = b'
          · subst z; simp; omega
          · simp [z]; omega
      · rename_i hw
        cases List.mem_singleton.mp h
        refine ⟨⟨by simp [P.len], fun i o q => ?_, fun b' hb' => ?_⟩, by rw [restL_none]; exact e⟩
        · by_cases z : i < k
          · rw [List.getElem?_append_left (by rw [P.len]; exact z)] at q
            exact P.at_ i o q
          · have zi : i = k := by
              have := (List.getElem?_eq_some_iff.mp q).1
              simp [P.len] at this
              omega
            subst zi
            rw [List.getElem?_append_right (by rw [P.len]; exact Nat.le_refl _), P.len, Nat.sub_self] at q
            cases q
            exact ⟨by simpa using hw, fun b' e' => by cases e'⟩
        · show (((s.1 ++ [none]).count (some b') : Nat) : Int) ≤ _
          rw [List.count_append]
          simpa using P.cnt b' hb'
    · rintro ⟨P, e⟩
      obtain ⟨t, l⟩ := r
      have P : Part c (k + 1) t := P
      have e : l = restL c t := e
      subst e
      have ht : t ≠ [] := fun z => by have := P.len; rw [z] at this; simp at this
      obtain ⟨t', o, rfl⟩ : ∃ t' o, t = t' ++ [o] := ⟨t.dropLast, t.getLast ht, (List.dropLast_concat_getLast ht).symm⟩
      have l' : t'.length = k := by have := P.len; simpa using this
      have P' : Part c k t' := ⟨l', fun i o' q => P.at_ i o' (by rw [List.getElem?_append_left (List.getElem?_eq_some_iff.mp q).1]; exact q), fun b hb => by
        have := P.cnt b hb
        rw [List.count_append] at this
        omega⟩
      obtain ⟨a1, a2⟩ := P.at_ k o (by rw [List.getElem?_append_right (by omega), l', Nat.sub_self]; rfl)
      refine List.mem_flatMap.mpr ⟨(t', restL c t'), (ih _).mpr ⟨P', rfl⟩, ?_⟩
      unfold stepW
      cases o with
      | none =>
        rw [if_neg (by rw [a1]; decide), restL_none]
        exact List.mem_singleton.mpr rfl
      | some b =>
        obtain ⟨b1, b2⟩ := a2 b rfl
        rw [if_pos (by rw [a1]; rfl)]
        refine List.mem_map.mpr ⟨b, List.mem_filter.mpr ⟨List.mem_range.mpr b1, ?_⟩, by rw [restL_some t' (by omega)]⟩
        rw [Bool.and_eq_true, decide_eq_true_eq, decide_eq_true_eq, restL_get t' (by omega)]
        refine ⟨b2, ?_⟩
        have := P.cnt b (by omega)
        rw [List.count_append] at this
        simp at this
        omega

end G4

namespace G4
open PySem PySem.Spec PyProof.Rows L2
local macro_rules
  | `(tactic| simp_arith [$as,*]) => `(tactic| simp -implicitDefEqProofs only [tl_table_of_1, tl_table_of_2, tl_table_of_3, tl_ways_of_1, tl_ways_of_2, tl__law_toss_1, tl__law_toss_2, tl__law_toss_3, tl__law_made_1, tl__law_made_2, tl__law_made_3, tl__law_made_4, tl__law_made_5, tl__law_made_6, tl__law_made_7, tl__law_made_8, tl__law_bent_1, tl__law_bent_2, tl__law_bent_3, tl__law_bent_4, tl__law_right_1, tl__law_right_2, tl_law_1, tl_law_2, tl_law_3, tl_law_4, tl_law_5, tl_law_6, ↓bnd_eq, ↓off_eq, ↓thn_eq, run_eq, fin_nx, fin_rt, fin_ex, S.hide, hideSl, exms, exm, ev, evT, evs, evOs, evo, evc, evSrc, evPar, hb_ok, hb_ex, ho_ok, ho_ex, ht_nx, ht_rt, ht_ex, tb_nx, tb_rt, tb_ex, hd_setB, hd_setT, hd_retT, D.flat, opd_d, opd_pl, opd_lst, opd_ex, val_d, val_lst, List.append_assoc, List.length_set, gc_push, gc_id, take_push, take_id, get_app0, get_app1, get_app2, isNew0, isNew1, isNew_int, isNew_str, isNew_bl, isNew_non, isNew_tup, isNew_lst, keep_un, keep_int, keep_bl, keep_non, keep_str, keep_scr, keep_obj, keep_own_lst, keep_own_dK, pureK_nil, keep_lst, keep_tup, D.unders, ne_succ, ne_succ1, eq_self, nodup2, nodup3, List.filterMap_cons, List.filterMap_nil, putPar, D.under, List.nodup_cons, List.mem_cons, List.not_mem_nil, or_self, or_false, Nat.reduceEqDiff, List.nodup_nil, true_and, and_true, bits10, Int.reduceMul, Int.reduceLE, Int.reduceLT, Int.reducePow, Int.reduceAdd, Int.reduceSub, Int.reduceNeg, Int.reduceToNat, val_dK, putTs_nil, putTs_nm, putTs_sub, val_ex, val_pl, valPl_lst, valPl_d, opt_some, toO_ok, toO_ex, asBl_ok, List.map_cons, List.map_nil, List.length_cons, List.length_nil, Nat.reduceAdd, Nat.reduceSub, Nat.zero_add, List.replicate, List.cons_append, List.nil_append, List.getElem?_cons_zero, List.getElem?_cons_succ, List.set_cons_zero, List.set_cons_succ, S.rd, S.rdD, S.store, OS.opt, Option.bind_some, Option.map_some, Cell.view, S.cell, S.isLst, S.isDct, S.rdDct, dgetV, dixV, augV, S.put, S.rdLst, cmpV, opCmp, opEq_str, opEq_int, opEq_bl, opEq_non, opEq_lst, opEq_tup, pures_app, eqv_int, eqv_bl, eqv_lst, eqv_tup, eqvs_nil, eqvs_ints, eqvs_cons, eqv_str, opIn_ints, unders_ints, set_app0, set_app1, binV, opBin, ixV, opIx, biV, biSem, biLen, biInt, biAbs, biMax2, biMin2, biSum, biAll, biAny, biList, biTuple, List.mapM_cons, List.mapM_nil, bind, pure, Option.bind, truV, D.tru, isiV, D.kind, Ty.sub, List.any_cons, List.any_nil, decide_true, decide_false, Int.cast_ofNat_Int, beq_self_eq_true, Bool.false_and, Bool.true_or, Bool.false_or, Bool.or_false, Bool.and_true, Bool.true_and, Bool.and_self, if_true, if_false, Bool.false_eq_true, reduceCtorEq, Bool.not_true, Bool.not_false, finish, D.pure, D.pures, Cell.pure, List.take_length, and_self, not_true_eq_false, not_false_eq_true, plain_int', plain_lst, plain_tup, plain_non, plain_bl, D.plainsN, pures_ints, plain_ints, List.length_map, List.length_append, at1, at2, at3, at4, at5, muV, muSem, muApp, setIx, S.fz, perm, List.getD_cons_zero, List.getD_cons_succ, $as,*])
/-! ### all ways are just the ways, once each, ascending -/
theorem sum_zero : ∀ l : List Int, (∀ x ∈ l, 0 ≤ x) → (l.sum = 0 ↔ ∀ x ∈ l, x = 0)
  | [], _ => by simp
  | a :: l, h => by
    have h1 := h a (List.mem_cons_self ..)
    have h2 := sum_zero l fun x hx => h x (List.mem_cons_of_mem _ hx)
    have h3 : 0 ≤ l.sum := by
      clear h2
      have : ∀ m : List Int, (∀ x ∈ m, 0 ≤ x) → 0 ≤ m.sum := by
        intro m
        induction m with
        | nil => intro _; simp
        | cons b m ih =>
          intro hm
          rw [List.sum_cons]
          have := hm b (List.mem_cons_self ..)
          have := ih fun x hx => hm x (List.mem_cons_of_mem _ hx)
          omega
      exact this l fun x hx => h x (List.mem_cons_of_mem _ hx)
    rw [List.sum_cons]
    constructor
    · intro e x hx
      rcases List.mem_cons.mp hx with rfl | hx
      · omega
      · exact h2.mp (by omega) x hx
    · intro e
      have := e a (List.mem_cons_self ..)
      have := h2.mpr fun x hx => e x (List.mem_cons_of_mem _ hx)
      omega
theorem mAt_g {c : List Mem} {i : Nat} (h : i < c.length) : c[i]? = some (mAt c i) := by
  rw [mAt, List.getD_eq_getElem?_getD, List.getElem?_eq_getElem h]; rfl
theorem asc_lt {c : List Mem} (h : Asc c) {a b : Nat} (ha : a < c.length) (hb : b < c.length) (hd : (mAt c a).d < (mAt c b).d) : a < b := by
  rcases Nat.lt_trichotomy a b with z | z | z
  · exact z
  · subst z; omega
  · have := List.pairwise_iff_getElem.mp h b a hb ha z
    have e1 : mAt c a = c[a] := by have := mAt_g ha; rw [List.getElem?_eq_getElem ha] at this; exact (Option.some.inj this).symm
    have e2 : mAt c b = c[b] := by have := mAt_g hb; rw [List.getElem?_eq_getElem hb] at this; exact (Option.some.inj this).symm
    rw [e1, e2] at hd
    omega
theorem mem_allW {c : List Mem} (hA : Asc c) (N : ∀ b, b < c.length → 0 ≤ (mAt c b).n) (w : List (Option Nat)) : w ∈ allW c ↔ IsWay c w := by
  constructor
  · intro h
    obtain ⟨r, hr, rfl⟩ := List.mem_map.mp h
    obtain ⟨h1, h2⟩ := List.mem_filter.mp hr
    obtain ⟨P, e⟩ := (mem_rows c N _ (Nat.le_refl _) r).mp h1
    have h2 : r.2.sum = 0 := by simpa using h2
    have z := (sum_zero r.2 (by
      rw [e]
      intro x hx
      obtain ⟨b, hb, rfl⟩ := List.mem_map.mp hx
      have := P.cnt b (List.mem_range.mp hb)
      omega)).mp h2
    refine ⟨P.len, fun i b q => ?_, fun i x o hx ho => ?_, fun i x hx => ?_⟩
    · obtain ⟨a1, a2⟩ := P.at_ i _ q
      obtain ⟨b1, b2⟩ := a2 b rfl
      have hi : i < c.length := by rw [← P.len]; exact (List.getElem?_eq_some_iff.mp q).1
      exact ⟨_, _, mAt_g (by omega), mAt_g hi, b2⟩
    · have := (P.at_ i o ho).1
      rwa [mAt_some hx] at this
    · have hi := (List.getElem?_eq_some_iff.mp hx).1
      have := z _ (by rw [e]; exact List.mem_map.mpr ⟨i, List.mem_range.mpr hi, rfl⟩)
      rw [mAt_some hx] at this
      omega
  · intro h
    have c0 : ∀ b, b < c.length → (mAt c b).n = ((w.count (some b) : Nat) : Int) := fun b hb => h.cnt b _ (mAt_g hb)
    have P : Part c c.length w := ⟨h.len, fun i o q => ?_, fun b hb => by rw [c0 b hb]; omega⟩
    · refine List.mem_map.mpr ⟨(w, restL c w), List.mem_filter.mpr ⟨(mem_rows c N _ (Nat.le_refl _) _).mpr ⟨P, rfl⟩, ?_⟩, rfl⟩
      rw [beq_iff_eq]
      refine (sum_zero _ ?_).mpr ?_
      · intro x hx
        obtain ⟨b, hb, rfl⟩ := List.mem_map.mp hx
        rw [c0 b (List.mem_range.mp hb)]; omega
      · intro x hx
        obtain ⟨b, hb, rfl⟩ := List.mem_map.mp hx
        rw [c0 b (List.mem_range.mp hb)]; omega
    · have hi : i < c.length := by rw [← h.len]; exact (List.getElem?_eq_some_iff.mp q).1
      refine ⟨h.mem i _ o (mAt_g hi) q, fun b e => ?_⟩
      subst e
      obtain ⟨x, y, g1, g2, g3⟩ := h.br i b q
      have hd : (mAt c b).d < (mAt c i).d := by rw [mAt_some g1, mAt_some g2]; exact g3
      exact ⟨asc_lt hA (List.getElem?_eq_some_iff.mp g1).1 hi hd, hd⟩

end G4

namespace G4
open PySem PySem.Spec PyProof.Rows L2
local macro_rules
  | `(tactic| simp_arith [$as,*]) => `(tactic| simp -implicitDefEqProofs only [tl_table_of_1, tl_table_of_2, tl_table_of_3, tl_ways_of_1, tl_ways_of_2, tl__law_toss_1, tl__law_toss_2, tl__law_toss_3, tl__law_made_1, tl__law_made_2, tl__law_made_3, tl__law_made_4, tl__law_made_5, tl__law_made_6, tl__law_made_7, tl__law_made_8, tl__law_bent_1, tl__law_bent_2, tl__law_bent_3, tl__law_bent_4, tl__law_right_1, tl__law_right_2, tl_law_1, tl_law_2, tl_law_3, tl_law_4, tl_law_5, tl_law_6, ↓bnd_eq, ↓off_eq, ↓thn_eq, run_eq, fin_nx, fin_rt, fin_ex, S.hide, hideSl, exms, exm, ev, evT, evs, evOs, evo, evc, evSrc, evPar, hb_ok, hb_ex, ho_ok, ho_ex, ht_nx, ht_rt, ht_ex, tb_nx, tb_rt, tb_ex, hd_setB, hd_setT, hd_retT, D.flat, opd_d, opd_pl, opd_lst, opd_ex, val_d, val_lst, List.append_assoc, List.length_set, gc_push, gc_id, take_push, take_id, get_app0, get_app1, get_app2, isNew0, isNew1, isNew_int, isNew_str, isNew_bl, isNew_non, isNew_tup, isNew_lst, keep_un, keep_int, keep_bl, keep_non, keep_str, keep_scr, keep_obj, keep_own_lst, keep_own_dK, pureK_nil, keep_lst, keep_tup, D.unders, ne_succ, ne_succ1, eq_self, nodup2, nodup3, List.filterMap_cons, List.filterMap_nil, putPar, D.under, List.nodup_cons, List.mem_cons, List.not_mem_nil, or_self, or_false, Nat.reduceEqDiff, List.nodup_nil, true_and, and_true, bits10, Int.reduceMul, Int.reduceLE, Int.reduceLT, Int.reducePow, Int.reduceAdd, Int.reduceSub, Int.reduceNeg, Int.reduceToNat, val_dK, putTs_nil, putTs_nm, putTs_sub, val_ex, val_pl, valPl_lst, valPl_d, opt_some, toO_ok, toO_ex, asBl_ok, List.map_cons, List.map_nil, List.length_cons, List.length_nil, Nat.reduceAdd, Nat.reduceSub, Nat.zero_add, List.replicate, List.cons_append, List.nil_append, List.getElem?_cons_zero, List.getElem?_cons_succ, List.set_cons_zero, List.set_cons_succ, S.rd, S.rdD, S.store, OS.opt, Option.bind_some, Option.map_some, Cell.view, S.cell, S.isLst, S.isDct, S.rdDct, dgetV, dixV, augV, S.put, S.rdLst, cmpV, opCmp, opEq_str, opEq_int, opEq_bl, opEq_non, opEq_lst, opEq_tup, pures_app, eqv_int, eqv_bl, eqv_lst, eqv_tup, eqvs_nil, eqvs_ints, eqvs_cons, eqv_str, opIn_ints, unders_ints, set_app0, set_app1, binV, opBin, ixV, opIx, biV, biSem, biLen, biInt, biAbs, biMax2, biMin2, biSum, biAll, biAny, biList, biTuple, List.mapM_cons, List.mapM_nil, bind, pure, Option.bind, truV, D.tru, isiV, D.kind, Ty.sub, List.any_cons, List.any_nil, decide_true, decide_false, Int.cast_ofNat_Int, beq_self_eq_true, Bool.false_and, Bool.true_or, Bool.false_or, Bool.or_false, Bool.and_true, Bool.true_and, Bool.and_self, if_true, if_false, Bool.false_eq_true, reduceCtorEq, Bool.not_true, Bool.not_false, finish, D.pure, D.pures, Cell.pure, List.take_length, and_self, not_true_eq_false, not_false_eq_true, plain_int', plain_lst, plain_tup, plain_non, plain_bl, D.plainsN, pures_ints, plain_ints, List.length_map, List.length_append, at1, at2, at3, at4, at5, muV, muSem, muApp, setIx, S.fz, perm, List.getD_cons_zero, List.getD_cons_succ, $as,*])
/-! ### all ways, by the bringer of the first brought member -/
theorem wLt_at : ∀ {a b : List (Option Nat)} {m i j : Nat}, (∀ k < m, a[k]? = b[k]?) → a[m]? = some (some i) → b[m]? = some (some j) → i < j → wLt a b
  | [], _, _, _, _, _, h, _, _ => by simp at h
  | _ :: _, [], _, _, _, _, _, h, _ => by simp at h
  | o :: a, p :: b, 0, i, j, _, h1, h2, h => by
    simp at h1 h2
    exact .inl ⟨i, j, h1, h2, h⟩
  | o :: a, p :: b, m + 1, i, j, h0, h1, h2, h => by
    refine .inr ⟨?_, wLt_at (m := m) (fun k hk => ?_) (by simpa using h1) (by simpa using h2) h⟩
    · have := h0 0 (by omega)
      simpa using this
    · have := h0 (k + 1) (by omega)
      simpa using this
theorem wLt_set : ∀ {a b : List (Option Nat)} {m : Nat} (o : Option Nat), a[m]? = b[m]? → wLt a b → wLt (a.set m o) (b.set m o)
  | [], _, _, _, _, h => absurd h (by simp [wLt])
  | _ :: _, [], _, _, _, h => absurd h (by simp [wLt])
  | x :: a, y :: b, 0, o, e, h => by
    simp at e
    subst e
    rcases h with ⟨i, j, e1, e2, h⟩ | ⟨_, h⟩
    · rw [e1] at e2; cases e2; omega
    · exact .inr ⟨rfl, h⟩
  | x :: a, y :: b, m + 1, o, e, h => by
    rcases h with h | ⟨e', h⟩
    · exact .inl h
    · exact .inr ⟨e', wLt_set o (by simpa using e) h⟩
/-- who may have brought the first brought member -/
def firstB (c : List Mem) (m : Nat) : List Nat := (List.range m).filter fun b => decide ((mAt c b).d < (mAt c m).d) && decide (0 < (mAt c b).n)
theorem linkC_at {c : List Mem} {b m k : Nat} (hbm : b ≠ m) (hk : k < c.length) : mAt (linkC c b m) k = ⟨(mAt c k).d, if k = m then false else (mAt c k).w, if k = b then (mAt c k).n - 1 else (mAt c k).n⟩ :=
  mAt_some (linkC_get hbm (mAt_g hk))
theorem linkC_asc {c : List Mem} {b m : Nat} (hbm : b ≠ m) (h : Asc c) : Asc (linkC c b m) := by
  refine List.pairwise_iff_getElem.mpr fun i j hi hj hij => ?_
  rw [linkC_len] at hi hj
  have e := fun k (hk : k < c.length) => linkC_get (c := c) hbm (List.getElem?_eq_getElem hk)
  have ei := e i hi
  have ej := e j hj
  rw [List.getElem?_eq_getElem (by rw [linkC_len]; assumption)] at ei ej
  rw [Option.some.inj ei, Option.some.inj ej]
  exact List.pairwise_iff_getElem.mp h i j hi hj hij
theorem way_first {c : List Mem} {w : List (Option Nat)} (h : IsWay c w) {i : Nat} (hi : i < c.length) (hw : (mAt c i).w = false) : w[i]? = some none := by
  have hl : i < w.length := by rw [h.len]; exact hi
  have e := h.mem i _ w[i] (mAt_g hi) (List.getElem?_eq_getElem hl)
  rw [hw] at e
  rw [List.getElem?_eq_getElem hl]
  cases q : w[i] with
  | none => rfl
  | some z => rw [q] at e; cases e
theorem allW_split {c : List Mem} (hA : Asc c) (N : ∀ b, b < c.length → 0 ≤ (mAt c b).n) {m : Nat} (hm : m < c.length) (hw : (mAt c m).w = true) (first : ∀ i < m, (mAt c i).w = false) :
    allW c = (firstB c m).flatMap fun b => (allW (linkC c b m)).map fun w => w.set m (some b) := by
  have B : ∀ b ∈ firstB c m, b < m ∧ (mAt c b).d < (mAt c m).d ∧ 0 < (mAt c b).n := fun b hb => by
    obtain ⟨h1, h2⟩ := List.mem_filter.mp hb
    rw [Bool.and_eq_true, decide_eq_true_eq, decide_eq_true_eq] at h2
    exact ⟨List.mem_range.mp h1, h2⟩
  have M : ∀ b ∈ firstB c m, ∀ w, w ∈ allW (linkC c b m) ↔ IsWay (linkC c b m) w := fun b hb => by
    obtain ⟨b1, b2, b3⟩ := B b hb
    have hbm : b ≠ m := by omega
    refine mem_allW (linkC_asc hbm hA) fun k hk => ?_
    rw [linkC_len] at hk
    rw [linkC_at hbm hk]
    have := N k hk
    show 0 ≤ (if k = b then (mAt c k).n - 1 else (mAt c k).n)
    split
    · rename_i e; subst e; omega
    · exact this
  have none' : ∀ b ∈ firstB c m, ∀ w, w ∈ allW (linkC c b m) → (∀ k ≤ m, w[k]? = some none) := fun b hb w h k hk => by
    obtain ⟨b1, b2, b3⟩ := B b hb
    refine way_first ((M b hb w).mp h) (by rw [linkC_len]; omega) ?_
    rw [linkC_at (by omega) (by omega)]
    show (if k = m then false else (mAt c k).w) = false
    split
    · rfl
    · exact first k (by omega)
  refine eq_of_sorted wLt.irr wLt.asy (allW_asc c) ?_ fun w => ?_
  · refine List.pairwise_flatMap.mpr ⟨fun b hb => List.pairwise_map.mpr ((allW_asc _).imp_of_mem fun {w v} hw hv h => wLt_set _ ?_ h), (pw_range _ _).imp_of_mem fun {b b'} hb hb' h => fun x hx y hy => ?_⟩
    · rw [none' b hb w hw m (Nat.le_refl _), none' b hb v hv m (Nat.le_refl _)]
    · obtain ⟨w, hw, rfl⟩ := List.mem_map.mp hx
      obtain ⟨v, hv, rfl⟩ := List.mem_map.mp hy
      have e1 := none' b hb w hw
      have e2 := none' b' hb' v hv
      refine wLt_at (m := m) (i := b) (j := b') (fun k hk => ?_) (List.getElem?_set_self (List.getElem?_eq_some_iff.mp (e1 m (Nat.le_refl _))).1) (List.getElem?_set_self (List.getElem?_eq_some_iff.mp (e2 m (Nat.le_refl _))).1) h
      rw [List.getElem?_set_ne (by omega), List.getElem?_set_ne (by omega), e1 k (by omega), e2 k (by omega)]
  · rw [mem_allW hA N]
    constructor
    · intro h
      have hl : m < w.length := by rw [h.len]; exact hm
      have e := h.mem m _ w[m] (mAt_g hm) (List.getElem?_eq_getElem hl)
      rw [hw] at e
      cases q : w[m] with
      | none => rw [q] at e; cases e
      | some b =>
        have q' : w[m]? = some (some b) := by rw [List.getElem?_eq_getElem hl, q]
        obtain ⟨x, y, g1, g2, g3⟩ := h.br m b q'
        have hbl := (List.getElem?_eq_some_iff.mp g1).1
        have hd : (mAt c b).d < (mAt c m).d := by rw [mAt_some g1, mAt_some g2]; exact g3
        have hb : b ∈ firstB c m := List.mem_filter.mpr ⟨List.mem_range.mpr (asc_lt hA hbl hm hd), by
          rw [Bool.and_eq_true, decide_eq_true_eq, decide_eq_true_eq]
          refine ⟨hd, ?_⟩
          rw [h.cnt b _ (mAt_g hbl)]
          have : 0 < w.count (some b) := List.count_pos_iff.mpr (List.mem_of_getElem? q')
          omega⟩
        refine List.mem_flatMap.mpr ⟨b, hb, List.mem_map.mpr ⟨w.set m none, (M b hb _).mpr (link_way h q').2, ?_⟩⟩
        rw [List.set_set]
        apply List.ext_getElem?
        intro i
        by_cases z : m = i
        · subst z; rw [List.getElem?_set_self hl, q']
        · rw [List.getElem?_set_ne z]
    · intro h
      obtain ⟨b, hb, h⟩ := List.mem_flatMap.mp h
      obtain ⟨v, hv, rfl⟩ := List.mem_map.mp h
      obtain ⟨b1, b2, b3⟩ := B b hb
      exact (way_link ((M b hb v).mp hv) (mAt_g (by omega)) (mAt_g hm) b2 hw).2

end G4

namespace G4
open PySem PySem.Spec PyProof.Rows L2
local macro_rules
  | `(tactic| simp_arith [$as,*]) => `(tactic| simp -implicitDefEqProofs only [tl_table_of_1, tl_table_of_2, tl_table_of_3, tl_ways_of_1, tl_ways_of_2, tl__law_toss_1, tl__law_toss_2, tl__law_toss_3, tl__law_made_1, tl__law_made_2, tl__law_made_3, tl__law_made_4, tl__law_made_5, tl__law_made_6, tl__law_made_7, tl__law_made_8, tl__law_bent_1, tl__law_bent_2, tl__law_bent_3, tl__law_bent_4, tl__law_right_1, tl__law_right_2, tl_law_1, tl_law_2, tl_law_3, tl_law_4, tl_law_5, tl_law_6, ↓bnd_eq, ↓off_eq, ↓thn_eq, run_eq, fin_nx, fin_rt, fin_ex, S.hide, hideSl, exms, exm, ev, evT, evs, evOs, evo, evc, evSrc, evPar, hb_ok, hb_ex, ho_ok, ho_ex, ht_nx, ht_rt, ht_ex, tb_nx, tb_rt, tb_ex, hd_setB, hd_setT, hd_retT, D.flat, opd_d, opd_pl, opd_lst, opd_ex, val_d, val_lst, List.append_assoc, List.length_set, gc_push, gc_id, take_push, take_id, get_app0, get_app1, get_app2, isNew0, isNew1, isNew_int, isNew_str, isNew_bl, isNew_non, isNew_tup, isNew_lst, keep_un, keep_int, keep_bl, keep_non, keep_str, keep_scr, keep_obj, keep_own_lst, keep_own_dK, pureK_nil, keep_lst, keep_tup, D.unders, ne_succ, ne_succ1, eq_self, nodup2, nodup3, List.filterMap_cons, List.filterMap_nil, putPar, D.under, List.nodup_cons, List.mem_cons, List.not_mem_nil, or_self, or_false, Nat.reduceEqDiff, List.nodup_nil, true_and, and_true, bits10, Int.reduceMul, Int.reduceLE, Int.reduceLT, Int.reducePow, Int.reduceAdd, Int.reduceSub, Int.reduceNeg, Int.reduceToNat, val_dK, putTs_nil, putTs_nm, putTs_sub, val_ex, val_pl, valPl_lst, valPl_d, opt_some, toO_ok, toO_ex, asBl_ok, List.map_cons, List.map_nil, List.length_cons, List.length_nil, Nat.reduceAdd, Nat.reduceSub, Nat.zero_add, List.replicate, List.cons_append, List.nil_append, List.getElem?_cons_zero, List.getElem?_cons_succ, List.set_cons_zero, List.set_cons_succ, S.rd, S.rdD, S.store, OS.opt, Option.bind_some, Option.map_some, Cell.view, S.cell, S.isLst, S.isDct, S.rdDct, dgetV, dixV, augV, S.put, S.rdLst, cmpV, opCmp, opEq_str, opEq_int, opEq_bl, opEq_non, opEq_lst, opEq_tup, pures_app, eqv_int, eqv_bl, eqv_lst, eqv_tup, eqvs_nil, eqvs_ints, eqvs_cons, eqv_str, opIn_ints, unders_ints, set_app0, set_app1, binV, opBin, ixV, opIx, biV, biSem, biLen, biInt, biAbs, biMax2, biMin2, biSum, biAll, biAny, biList, biTuple, List.mapM_cons, List.mapM_nil, bind, pure, Option.bind, truV, D.tru, isiV, D.kind, Ty.sub, List.any_cons, List.any_nil, decide_true, decide_false, Int.cast_ofNat_Int, beq_self_eq_true, Bool.false_and, Bool.true_or, Bool.false_or, Bool.or_false, Bool.and_true, Bool.true_and, Bool.and_self, if_true, if_false, Bool.false_eq_true, reduceCtorEq, Bool.not_true, Bool.not_false, finish, D.pure, D.pures, Cell.pure, List.take_length, and_self, not_true_eq_false, not_false_eq_true, plain_int', plain_lst, plain_tup, plain_non, plain_bl, D.plainsN, pures_ints, plain_ints, List.length_map, List.length_append, at1, at2, at3, at4, at5, muV, muSem, muApp, setIx, S.fz, perm, List.getD_cons_zero, List.getD_cons_succ, $as,*])
/-! ### how many ways -/
theorem allW_none {c : List Mem} (hA : Asc c) (hw : ∀ i < c.length, (mAt c i).w = false) (hn : ∀ i < c.length, (mAt c i).n = 0) : allW c = [List.replicate c.length none] := by
  refine eq_of_sorted wLt.irr wLt.asy (allW_asc c) (List.pairwise_singleton _ _) fun w => ?_
  rw [mem_allW hA (fun b hb => by rw [hn b hb]; omega), List.mem_singleton]
  constructor
  · intro h
    apply List.ext_getElem?
    intro i
    by_cases q : i < c.length
    · rw [way_first h q (hw i q)]
      simp [q]
    · rw [List.getElem?_eq_none (by rw [h.len]; omega), List.getElem?_eq_none (by simp; omega)]
  · rintro rfl
    refine ⟨by simp, fun i b q => ?_, fun i x o hx ho => ?_, fun i x hx => ?_⟩
    · have := List.mem_of_getElem? q
      have := (List.mem_replicate.mp this).2
      cases this
    · have e := (List.mem_replicate.mp (List.mem_of_getElem? ho)).2
      subst e
      have := hw i (List.getElem?_eq_some_iff.mp hx).1
      rwa [mAt_some hx] at this
    · have := hn i (List.getElem?_eq_some_iff.mp hx).1
      rw [mAt_some hx] at this
      rw [this, List.count_replicate]
      rfl
/-- the product of s + 1 .. s + k -/
def upP (s : Int) : Nat → Int
  | 0 => 1
  | k + 1 => upP s k * (s + k + 1)
def mulL : List Int → Int
  | [] => 1
  | a :: l => a * mulL l
theorem mulL_one {ds : List Int} (f g : Int → Int) (t0 : Int) (k : Int) (nd : ds.Nodup) (ht : t0 ∈ ds) (h0 : f t0 = k * g t0) (h : ∀ t ∈ ds, t ≠ t0 → f t = g t) : mulL (ds.map f) = k * mulL (ds.map g) := by
  induction ds with
  | nil => cases ht
  | cons d ds ih =>
    obtain ⟨n1, n2⟩ := List.nodup_cons.mp nd
    rw [List.map_cons, List.map_cons, mulL, mulL]
    by_cases e : d = t0
    · subst e
      have : ds.map f = ds.map g := List.map_congr_left fun t q => h t (List.mem_cons_of_mem _ q) (fun z => n1 (z ▸ q))
      rw [this, h0, Int.mul_assoc]
    · rw [ih n2 ((List.mem_cons.mp ht).resolve_left (Ne.symm e)) (fun t q => h t (List.mem_cons_of_mem _ q)), h d (List.mem_cons_self ..) e, Int.mul_left_comm]
def brC (c : List Mem) (t : Int) : Nat := (c.filter fun m => (m.d == t) && m.w).length
/-- the product of the free slots that the brought members find -/
def Qd (c : List Mem) : Int := mulL ((dayS c).map fun t => upP (slackT c t) (brC c t))
theorem linkC_days {c : List Mem} {b m : Nat} (hbm : b ≠ m) : (linkC c b m).map (·.d) = c.map (·.d) := by
  apply List.ext_getElem?
  intro i
  rw [List.getElem?_map, List.getElem?_map]
  by_cases q : i < c.length
  · rw [linkC_get hbm (List.getElem?_eq_getElem q), List.getElem?_eq_getElem q]
    rfl
  · rw [List.getElem?_eq_none (by rw [linkC_len]; omega), List.getElem?_eq_none (by omega)]
theorem dayF_map : ∀ (c : List Mem) (acc : List Int), c.foldl dayF acc = (c.map (·.d)).foldl (fun acc t => if t ∈ acc then acc else acc ++ [t]) acc
  | [], _ => rfl
  | m :: c, acc => by
    rw [List.foldl_cons, List.map_cons, List.foldl_cons]
    exact dayF_map c _
theorem linkC_dayS {c : List Mem} {b m : Nat} (hbm : b ≠ m) : dayS (linkC c b m) = dayS c := by
  unfold dayS
  rw [dayF_map, dayF_map, linkC_days hbm]
def brF (t : Int) (m : Mem) : Int := if m.d = t ∧ m.w = true then 1 else 0
theorem brC_sum (c : List Mem) (t : Int) : ((brC c t : Nat) : Int) = (c.map (brF t)).sum := by
  unfold brC
  induction c with
  | nil => rfl
  | cons m c ih =>
    rw [List.map_cons, List.sum_cons, ← ih]
    unfold brF
    by_cases h : m.d = t <;> cases hw : m.w <;> simp [List.filter_cons, h, hw] <;> omega
theorem brC_link {c : List Mem} {b m : Nat} {xb xm : Mem} (hbm : b ≠ m) (hb : c[b]? = some xb) (hm : c[m]? = some xm) (hw : xm.w = true) (t : Int) :
    ((brC (linkC c b m) t : Nat) : Int) = (brC c t : Nat) - if xm.d = t then 1 else 0 := by
  rw [brC_sum, brC_sum, sum_link hbm hb hm]
  simp only [brF, hw]
  by_cases h1 : xm.d = t <;> by_cases h2 : xb.d = t <;> simp [h1, h2] <;> omega
theorem brC_zero {c : List Mem} {t T : Int} (first : ∀ x ∈ c, x.w = true → T ≤ x.d) (h : t < T) : brC c t = 0 := by
  unfold brC
  rw [List.length_eq_zero_iff, List.filter_eq_nil_iff]
  intro x hx q
  rw [Bool.and_eq_true, beq_iff_eq] at q
  have := first x hx q.2
  omega
theorem Qd_link {c : List Mem} {b m : Nat} {xb xm : Mem} (hb : c[b]? = some xb) (hm : c[m]? = some xm) (hd : xb.d < xm.d) (hw : xm.w = true) (first : ∀ x ∈ c, x.w = true → xm.d ≤ x.d) (nd : (dayS c).Nodup) (ht : xm.d ∈ dayS c) :
    Qd c = freeT c xm.d * Qd (linkC c b m) := by
  have hbm : b ≠ m := fun e => by subst e; rw [hb] at hm; cases hm; omega
  unfold Qd
  rw [linkC_dayS hbm]
  refine mulL_one _ _ xm.d _ nd ht ?_ fun t _ hne => ?_
  · have e1 := slack_link hbm hb hm hw xm.d
    rw [if_pos hd, if_pos (Int.le_refl _)] at e1
    have e2 := brC_link hbm hb hm hw xm.d
    rw [if_pos rfl] at e2
    have e3 : brC c xm.d = brC (linkC c b m) xm.d + 1 := by omega
    have e4 : slackT (linkC c b m) xm.d = slackT c xm.d := by omega
    have e5 := slack_free c xm.d
    have e6 : brD c xm.d = ((brC c xm.d : Nat) : Int) := rfl
    rw [e3, upP, e4, Int.mul_comm]
    congr 1
    rw [e6, e3] at e5
    omega
  · have e1 := slack_link hbm hb hm hw t
    have e2 := brC_link hbm hb hm hw t
    rw [if_neg (Ne.symm hne)] at e2
    by_cases h : t < xm.d
    · have z := brC_zero first h
      have z' : brC (linkC c b m) t = 0 := by omega
      rw [z, z']
      rfl
    · rw [if_pos (by omega), if_pos (by omega)] at e1
      have z : brC (linkC c b m) t = brC c t := by omega
      have z' : slackT (linkC c b m) t = slackT c t := by omega
      rw [z, z']

end G4

namespace G4
open PySem PySem.Spec PyProof.Rows L2
local macro_rules
  | `(tactic| simp_arith [$as,*]) => `(tactic| simp -implicitDefEqProofs only [tl_table_of_1, tl_table_of_2, tl_table_of_3, tl_ways_of_1, tl_ways_of_2, tl__law_toss_1, tl__law_toss_2, tl__law_toss_3, tl__law_made_1, tl__law_made_2, tl__law_made_3, tl__law_made_4, tl__law_made_5, tl__law_made_6, tl__law_made_7, tl__law_made_8, tl__law_bent_1, tl__law_bent_2, tl__law_bent_3, tl__law_bent_4, tl__law_right_1, tl__law_right_2, tl_law_1, tl_law_2, tl_law_3, tl_law_4, tl_law_5, tl_law_6, ↓bnd_eq, ↓off_eq, ↓thn_eq, run_eq, fin_nx, fin_rt, fin_ex, S.hide, hideSl, exms, exm, ev, evT, evs, evOs, evo, evc, evSrc, evPar, hb_ok, hb_ex, ho_ok, ho_ex, ht_nx, ht_rt, ht_ex, tb_nx, tb_rt, tb_ex, hd_setB, hd_setT, hd_retT, D.flat, opd_d, opd_pl, opd_lst, opd_ex, val_d, val_lst, List.append_assoc, List.length_set, gc_push, gc_id, take_push, take_id, get_app0, get_app1, get_app2, isNew0, isNew1, isNew_int, isNew_str, isNew_bl, isNew_non, isNew_tup, isNew_lst, keep_un, keep_int, keep_bl, keep_non, keep_str, keep_scr, keep_obj, keep_own_lst, keep_own_dK, pureK_nil, keep_lst, keep_tup, D.unders, ne_succ, ne_succ1, eq_self, nodup2, nodup3, List.filterMap_cons, List.filterMap_nil, putPar, D.under, List.nodup_cons, List.mem_cons, List.not_mem_nil, or_self, or_false, Nat.reduceEqDiff, List.nodup_nil, true_and, and_true, bits10, Int.reduceMul, Int.reduceLE, Int.reduceLT, Int.reducePow, Int.reduceAdd, Int.reduceSub, Int.reduceNeg, Int.reduceToNat, val_dK, putTs_nil, putTs_nm, putTs_sub, val_ex, val_pl, valPl_lst, valPl_d, opt_some, toO_ok, toO_ex, asBl_ok, List.map_cons, List.map_nil, List.length_cons, List.length_nil, Nat.reduceAdd, Nat.reduceSub, Nat.zero_add, List.replicate, List.cons_append, List.nil_append, List.getElem?_cons_zero, List.getElem?_cons_succ, List.set_cons_zero, List.set_cons_succ, S.rd, S.rdD, S.store, OS.opt, Option.bind_some, Option.map_some, Cell.view, S.cell, S.isLst, S.isDct, S.rdDct, dgetV, dixV, augV, S.put, S.rdLst, cmpV, opCmp, opEq_str, opEq_int, opEq_bl, opEq_non, opEq_lst, opEq_tup, pures_app, eqv_int, eqv_bl, eqv_lst, eqv_tup, eqvs_nil, eqvs_ints, eqvs_cons, eqv_str, opIn_ints, unders_ints, set_app0, set_app1, binV, opBin, ixV, opIx, biV, biSem, biLen, biInt, biAbs, biMax2, biMin2, biSum, biAll, biAny, biList, biTuple, List.mapM_cons, List.mapM_nil, bind, pure, Option.bind, truV, D.tru, isiV, D.kind, Ty.sub, List.any_cons, List.any_nil, decide_true, decide_false, Int.cast_ofNat_Int, beq_self_eq_true, Bool.false_and, Bool.true_or, Bool.false_or, Bool.or_false, Bool.and_true, Bool.true_and, Bool.and_self, if_true, if_false, Bool.false_eq_true, reduceCtorEq, Bool.not_true, Bool.not_false, finish, D.pure, D.pures, Cell.pure, List.take_length, and_self, not_true_eq_false, not_false_eq_true, plain_int', plain_lst, plain_tup, plain_non, plain_bl, D.plainsN, pures_ints, plain_ints, List.length_map, List.length_append, at1, at2, at3, at4, at5, muV, muSem, muApp, setIx, S.fz, perm, List.getD_cons_zero, List.getD_cons_succ, $as,*])
/-! ### R2: the number of all ways -/
theorem least_idx (p : Nat → Bool) : ∀ n : Nat, (∃ i, i < n ∧ p i = true) → ∃ m, m < n ∧ p m = true ∧ ∀ i, i < m → p i = false
  | 0, h => by obtain ⟨i, h, _⟩ := h; omega
  | n + 1, h => by
    by_cases q : ∃ i, i < n ∧ p i = true
    · obtain ⟨m, h1, h2, h3⟩ := least_idx p n q
      exact ⟨m, by omega, h2, h3⟩
    · obtain ⟨i, h1, h2⟩ := h
      have hi : i = n := by
        by_cases z : i < n
        · exact absurd ⟨i, z, h2⟩ q
        · omega
      subst hi
      refine ⟨i, h1, h2, fun j hj => ?_⟩
      cases z : p j with
      | false => rfl
      | true => exact absurd ⟨j, hj, z⟩ q
def fac : Nat → Int
  | 0 => 1
  | k + 1 => fac k * (k + 1)
theorem fac_pos : ∀ k, 0 < fac k
  | 0 => by decide
  | k + 1 => Int.mul_pos (fac_pos k) (by omega)
def facM (m : Mem) : Int := fac m.n.toNat
/-- the product of the factorials of all numbers -/
def facL (c : List Mem) : Int := mulL (c.map facM)
theorem mulL_set {f : Mem → Int} : ∀ {c : List Mem} {i : Nat} {x : Mem} (y : Mem), c[i]? = some x → f x * mulL ((c.set i y).map f) = f y * mulL (c.map f)
  | [], i, x, y, h => by simp at h
  | a :: c, 0, x, y, h => by
    simp at h
    subst h
    rw [List.set_cons_zero, List.map_cons, List.map_cons, mulL, mulL, Int.mul_left_comm]
  | a :: c, i + 1, x, y, h => by
    rw [List.set_cons_succ, List.map_cons, List.map_cons, mulL, mulL, Int.mul_left_comm, mulL_set (i := i) y (by simpa using h), Int.mul_left_comm]
theorem facL_link {c : List Mem} {b m : Nat} {xb xm : Mem} (hbm : b ≠ m) (hb : c[b]? = some xb) (hm : c[m]? = some xm) (hn : 0 < xb.n) : facL c = xb.n * facL (linkC c b m) := by
  unfold linkC facL
  rw [mAt_some hb, mAt_some hm]
  have e1 := mulL_set (f := facM) (c := c.set b ⟨xb.d, xb.w, xb.n - 1⟩) (i := m) (x := xm) ⟨xm.d, false, xm.n⟩ (by rw [List.getElem?_set_ne hbm]; exact hm)
  have e2 := mulL_set (f := facM) (c := c) (i := b) (x := xb) ⟨xb.d, xb.w, xb.n - 1⟩ hb
  have e3 : facM ⟨xm.d, false, xm.n⟩ = facM xm := rfl
  rw [e3] at e1
  have e1 := Int.eq_of_mul_eq_mul_left (Int.ne_of_gt (fac_pos _)) e1
  rw [e1]
  obtain ⟨k, hk⟩ : ∃ k : Nat, xb.n = (k : Int) + 1 := ⟨(xb.n - 1).toNat, by omega⟩
  have e4 : facM xb = fac k * (k + 1) := by
    unfold facM
    rw [hk, show ((k : Int) + 1).toNat = k + 1 by omega]
    rfl
  have e5 : facM ⟨xb.d, xb.w, xb.n - 1⟩ = fac k := by
    unfold facM
    show fac (xb.n - 1).toNat = _
    rw [hk, show ((k : Int) + 1 - 1).toNat = k by omega]
  rw [e4, e5, Int.mul_assoc] at e2
  have e2 := Int.eq_of_mul_eq_mul_left (Int.ne_of_gt (fac_pos k)) e2
  rw [← hk] at e2
  exact e2.symm
theorem nat_ext' {l m : List Nat} (h1 : l.Pairwise (· < ·)) (h2 : m.Pairwise (· < ·)) (h : ∀ x, x ∈ l ↔ x ∈ m) : l = m :=
  eq_of_sorted (fun a => Nat.lt_irrefl a) (fun a b h k => absurd k (by omega)) h1 h2 h
theorem sum_drop0 (f : Nat → Int) (p q : Nat → Bool) : ∀ l : List Nat, (∀ b ∈ l, p b = true → q b = false → f b = 0) → ((l.filter fun b => p b && q b).map f).sum = ((l.filter p).map f).sum
  | [], _ => rfl
  | a :: l, h => by
    have ih := sum_drop0 f p q l fun b hb => h b (List.mem_cons_of_mem _ hb)
    have ha := h a List.mem_cons_self
    rw [List.filter_cons, List.filter_cons]
    cases hp : p a
    · simpa [hp] using ih
    · cases hq : q a
      · have := ha hp hq
        simp only [hp, hq, Bool.and_false, Bool.false_eq_true, if_false, if_true, List.map_cons, List.sum_cons, this, Int.zero_add]
        exact ih
      · simp only [hp, hq, Bool.and_self, if_true, List.map_cons, List.sum_cons]
        rw [ih]
/-- those who may have brought the first brought one: as many slots as are free -/
theorem first_sum {c : List Mem} (hA : Asc c) (N : ∀ b, b < c.length → 0 ≤ (mAt c b).n) {m : Nat} (hm : m < c.length) (first : ∀ i < m, (mAt c i).w = false) : ((firstB c m).map fun b => (mAt c b).n).sum = freeT c (mAt c m).d := by
  have e0 : (c.filter fun x => decide (x.d < (mAt c m).d) && x.w).length = 0 := by
    rw [List.length_eq_zero_iff, List.filter_eq_nil_iff]
    intro x hx
    obtain ⟨i, hi, e⟩ := List.getElem_of_mem hx
    have hxi : mAt c i = x := mAt_some (by rw [List.getElem?_eq_getElem hi, e])
    rw [Bool.and_eq_true, decide_eq_true_eq]
    rintro ⟨h1, h2⟩
    have := first i (asc_lt hA hi hm (by rw [hxi]; exact h1))
    rw [hxi, h2] at this
    cases this
  unfold freeT
  rw [e0, sum_range]
  have e1 : ((List.range c.length).filter fun i => decide ((c.getD i ⟨0, false, 0⟩).d < (mAt c m).d)) = (List.range m).filter fun i => decide ((mAt c i).d < (mAt c m).d) := by
    refine nat_ext' (pw_range _ _) (pw_range _ _) fun x => ?_
    rw [List.mem_filter, List.mem_filter, List.mem_range, List.mem_range]
    constructor
    · rintro ⟨h1, h2⟩
      have h2' : (mAt c x).d < (mAt c m).d := of_decide_eq_true h2
      exact ⟨asc_lt hA h1 hm h2', h2⟩
    · rintro ⟨h1, h2⟩
      exact ⟨by omega, h2⟩
  rw [e1]
  have := sum_drop0 (fun b => (mAt c b).n) (fun b => decide ((mAt c b).d < (mAt c m).d)) (fun b => decide (0 < (mAt c b).n)) (List.range m) fun b hb _ h2 => by
    have h0 := N b (by have := List.mem_range.mp hb; omega)
    have h2 : ¬ 0 < (mAt c b).n := by simpa using h2
    omega
  unfold firstB
  rw [this]
  show _ = (((List.range m).filter fun i => decide ((mAt c i).d < (mAt c m).d)).map fun i => (mAt c i).n).sum - ((0 : Nat) : Int)
  omega
theorem brought_none {c : List Mem} (h : (c.map wF).sum = 0) : ∀ m ∈ c, m.w = false := by
  have h0 : ∀ m ∈ c, 0 ≤ wF m := fun m _ => by unfold wF; split <;> omega
  intro m hm
  have h1 := sum_ge h0 hm
  unfold wF at h1 h
  cases q : m.w with
  | false => rfl
  | true => rw [q, if_pos rfl] at h1; omega
theorem brought_some {c : List Mem} {k : Nat} (h : (c.map wF).sum = ((k + 1 : Nat) : Int)) : ∃ m, m < c.length ∧ (mAt c m).w = true ∧ ∀ i, i < m → (mAt c i).w = false := by
  refine least_idx (fun i => (mAt c i).w) c.length ?_
  obtain ⟨v, hv, hv2⟩ := sum_pos (c.map wF) (by omega)
  obtain ⟨x, hx, rfl⟩ := List.mem_map.mp hv
  obtain ⟨i, hi, e⟩ := List.getElem_of_mem hx
  refine ⟨i, hi, ?_⟩
  rw [mAt_some (show c[i]? = some x by rw [List.getElem?_eq_getElem hi, e])]
  unfold wF at hv2
  split at hv2
  · assumption
  · omega
theorem first_days {c : List Mem} (hA : Asc c) {m : Nat} (hm : m < c.length) (first : ∀ i, i < m → (mAt c i).w = false) : ∀ x ∈ c, x.w = true → (mAt c m).d ≤ x.d := by
  intro x hx hw
  obtain ⟨i, hi, e⟩ := List.getElem_of_mem hx
  have hxi : mAt c i = x := mAt_some (by rw [List.getElem?_eq_getElem hi, e])
  by_cases z : (mAt c m).d ≤ x.d
  · exact z
  · have := first i (asc_lt hA hi hm (by rw [hxi]; omega))
    rw [hxi, hw] at this
    cases this
theorem fine_zero {c : List Mem} (F : Fine c) (hw : ∀ m ∈ c, m.w = false) : ∀ m ∈ c, m.n = 0 := fun m hm => by
  have h1 := sum_ge (f := (·.n)) F.num hm
  have h2 := F.left
  unfold leftN at h2
  rw [List.filter_eq_nil_iff.mpr fun x hx => by rw [hw x hx]; simp] at h2
  have := F.num m hm
  simp at h2
  omega
theorem at_all {c : List Mem} {P : Mem → Prop} (h : ∀ m ∈ c, P m) : ∀ i, i < c.length → P (mAt c i) := fun i hi => h _ (List.mem_of_getElem? (mAt_g hi))
theorem free_pos {c : List Mem} (F : Fine c) {x : Mem} (hx : x ∈ c) (hw : x.w = true) : 0 < freeT c x.d := by
  have h1 := F.slack x hx
  have h2 := slack_free c x.d
  have h3 : 0 < brD c x.d := by
    unfold brD
    have : 0 < (c.filter fun m => (m.d == x.d) && m.w).length := List.length_pos_iff_exists_mem.mpr ⟨x, List.mem_filter.mpr ⟨hx, by simp [hw]⟩⟩
    omega
  omega
/-- R2 -/
theorem count_all : ∀ (k : Nat) (c : List Mem), (c.map wF).sum = k → Asc c → Fine c → ((allW c).length : Int) * facL c = Qd c
  | 0, c, hk, hA, F => by
    have hw := brought_none hk
    have hn := fine_zero F hw
    rw [allW_none hA (at_all hw) (at_all hn)]
    have e1 : facL c = 1 := by
      unfold facL
      have : c.map facM = c.map fun _ => 1 := List.map_congr_left fun m hm => by unfold facM; rw [hn m hm]; rfl
      rw [this]
      clear hk hA F hw hn this
      induction c with
      | nil => rfl
      | cons m c ih => rw [List.map_cons, mulL, ih]; rfl
    have e2 : Qd c = 1 := by
      unfold Qd
      have : ((dayS c).map fun t => upP (slackT c t) (brC c t)) = (dayS c).map fun _ => 1 := List.map_congr_left fun t _ => by
        have : brC c t = 0 := by
          unfold brC
          rw [List.length_eq_zero_iff, List.filter_eq_nil_iff]
          intro x hx
          rw [hw x hx]; simp
        rw [this]; rfl
      rw [this]
      generalize dayS c = l
      induction l with
      | nil => rfl
      | cons t l ih => rw [List.map_cons, mulL, ih]; rfl
    rw [e1, e2]; rfl
  | k + 1, c, hk, hA, F => by
    have N : ∀ b, b < c.length → 0 ≤ (mAt c b).n := at_all F.num
    obtain ⟨m, hm, hw, first⟩ := brought_some hk
    have hmg := mAt_g hm
    have hmem := List.mem_of_getElem? hmg
    have fd := first_days hA hm first
    have hpos := free_pos F hmem hw
    have nd : (dayS c).Nodup := (dayS_strict c).imp fun h => Int.ne_of_lt h
    have ht : (mAt c m).d ∈ dayS c := mem_dayS.mpr ⟨_, hmem, rfl⟩
    have key : ∀ l : List Nat, (∀ b ∈ l, b ∈ firstB c m) → ((l.map fun b => ((allW (linkC c b m)).length : Int)).sum * facL c) * freeT c (mAt c m).d = (l.map fun b => (mAt c b).n).sum * Qd c := by
      intro l
      induction l with
      | nil => intro _; simp
      | cons b l ih =>
        intro hl
        have ih := ih fun x hx => hl x (List.mem_cons_of_mem _ hx)
        obtain ⟨h1, h2⟩ := List.mem_filter.mp (hl b List.mem_cons_self)
        rw [Bool.and_eq_true, decide_eq_true_eq, decide_eq_true_eq] at h2
        have hbm : b < m := List.mem_range.mp h1
        have hbg := mAt_g (c := c) (i := b) (by omega)
        have f1 := fine_link F hbg hmg h2.1 h2.2 hw fd
        have s1 : ((linkC c b m).map wF).sum = k := by
          rw [sum_link (by omega) hbg hmg, hk]
          simp only [wF, hw]
          simp
        have c1 := count_all k (linkC c b m) s1 (linkC_asc (by omega) hA) f1
        have c2 := facL_link (c := c) (b := b) (m := m) (by omega) hbg hmg h2.2
        have c3 := Qd_link hbg hmg h2.1 hw fd nd ht
        rw [List.map_cons, List.sum_cons, List.map_cons, List.sum_cons, Int.add_mul, Int.add_mul, Int.add_mul, ih]
        congr 1
        rw [c2, c3, ← c1]
        generalize ((allW (linkC c b m)).length : Int) = A
        generalize facL (linkC c b m) = B
        generalize freeT c (mAt c m).d = f
        generalize (mAt c b).n = n
        simp only [Int.mul_comm, Int.mul_left_comm, Int.mul_assoc]
    have e := key (firstB c m) fun b hb => hb
    rw [first_sum hA N hm first, Int.mul_comm (freeT c (mAt c m).d) (Qd c)] at e
    have e := Int.eq_of_mul_eq_mul_right (Int.ne_of_gt hpos) e
    rw [← e]
    congr 1
    rw [allW_split hA N hm hw first, List.length_flatMap]
    have : ∀ l : List Nat, (((l.map fun b => ((allW (linkC c b m)).map fun w => w.set m (some b)).length).sum : Nat) : Int) = (l.map fun b => ((allW (linkC c b m)).length : Int)).sum := fun l => by
      induction l with
      | nil => rfl
      | cons b l ih => rw [List.map_cons, List.sum_cons, List.map_cons, List.sum_cons, ← ih, List.length_map]; omega
    exact this _

end G4

namespace G4
open PySem PySem.Spec PyProof.Rows L2
local macro_rules
  | `(tactic| simp_arith [$as,*]) => `(tactic| simp -implicitDefEqProofs only [tl_table_of_1, tl_table_of_2, tl_table_of_3, tl_ways_of_1, tl_ways_of_2, tl__law_toss_1, tl__law_toss_2, tl__law_toss_3, tl__law_made_1, tl__law_made_2, tl__law_made_3, tl__law_made_4, tl__law_made_5, tl__law_made_6, tl__law_made_7, tl__law_made_8, tl__law_bent_1, tl__law_bent_2, tl__law_bent_3, tl__law_bent_4, tl__law_right_1, tl__law_right_2, tl_law_1, tl_law_2, tl_law_3, tl_law_4, tl_law_5, tl_law_6, ↓bnd_eq, ↓off_eq, ↓thn_eq, run_eq, fin_nx, fin_rt, fin_ex, S.hide, hideSl, exms, exm, ev, evT, evs, evOs, evo, evc, evSrc, evPar, hb_ok, hb_ex, ho_ok, ho_ex, ht_nx, ht_rt, ht_ex, tb_nx, tb_rt, tb_ex, hd_setB, hd_setT, hd_retT, D.flat, opd_d, opd_pl, opd_lst, opd_ex, val_d, val_lst, List.append_assoc, List.length_set, gc_push, gc_id, take_push, take_id, get_app0, get_app1, get_app2, isNew0, isNew1, isNew_int, isNew_str, isNew_bl, isNew_non, isNew_tup, isNew_lst, keep_un, keep_int, keep_bl, keep_non, keep_str, keep_scr, keep_obj, keep_own_lst, keep_own_dK, pureK_nil, keep_lst, keep_tup, D.unders, ne_succ, ne_succ1, eq_self, nodup2, nodup3, List.filterMap_cons, List.filterMap_nil, putPar, D.under, List.nodup_cons, List.mem_cons, List.not_mem_nil, or_self, or_false, Nat.reduceEqDiff, List.nodup_nil, true_and, and_true, bits10, Int.reduceMul, Int.reduceLE, Int.reduceLT, Int.reducePow, Int.reduceAdd, Int.reduceSub, Int.reduceNeg, Int.reduceToNat, val_dK, putTs_nil, putTs_nm, putTs_sub, val_ex, val_pl, valPl_lst, valPl_d, opt_some, toO_ok, toO_ex, asBl_ok, List.map_cons, List.map_nil, List.length_cons, List.length_nil, Nat.reduceAdd, Nat.reduceSub, Nat.zero_add, List.replicate, List.cons_append, List.nil_append, List.getElem?_cons_zero, List.getElem?_cons_succ, List.set_cons_zero, List.set_cons_succ, S.rd, S.rdD, S.store, OS.opt, Option.bind_some, Option.map_some, Cell.view, S.cell, S.isLst, S.isDct, S.rdDct, dgetV, dixV, augV, S.put, S.rdLst, cmpV, opCmp, opEq_str, opEq_int, opEq_bl, opEq_non, opEq_lst, opEq_tup, pures_app, eqv_int, eqv_bl, eqv_lst, eqv_tup, eqvs_nil, eqvs_ints, eqvs_cons, eqv_str, opIn_ints, unders_ints, set_app0, set_app1, binV, opBin, ixV, opIx, biV, biSem, biLen, biInt, biAbs, biMax2, biMin2, biSum, biAll, biAny, biList, biTuple, List.mapM_cons, List.mapM_nil, bind, pure, Option.bind, truV, D.tru, isiV, D.kind, Ty.sub, List.any_cons, List.any_nil, decide_true, decide_false, Int.cast_ofNat_Int, beq_self_eq_true, Bool.false_and, Bool.true_or, Bool.false_or, Bool.or_false, Bool.and_true, Bool.true_and, Bool.and_self, if_true, if_false, Bool.false_eq_true, reduceCtorEq, Bool.not_true, Bool.not_false, finish, D.pure, D.pures, Cell.pure, List.take_length, and_self, not_true_eq_false, not_false_eq_true, plain_int', plain_lst, plain_tup, plain_non, plain_bl, D.plainsN, pures_ints, plain_ints, List.length_map, List.length_append, at1, at2, at3, at4, at5, muV, muSem, muApp, setIx, S.fz, perm, List.getD_cons_zero, List.getD_cons_succ, $as,*])
/-! ### known links: the club that is left -/
theorem link_club {c : List Mem} {b m : Nat} {xb xm : Mem} (h : Club c) (hb : c[b]? = some xb) (hm : c[m]? = some xm) (hbm : b ≠ m) (hn : 0 < xb.n) : Club (linkC c b m) := by
  refine ⟨fun e => ?_, by rw [linkC_len]; exact h.few, fun y hy => ?_, linkC_asc hbm h.asc⟩
  · have := congrArg List.length e
    rw [linkC_len] at this
    exact h.some (List.length_eq_zero_iff.mp (by simpa using this))
  · obtain ⟨k, hk, e⟩ := List.getElem_of_mem hy
    obtain ⟨x, hx, rfl⟩ := linkC_back hbm (by rw [List.getElem?_eq_getElem hk, e])
    have ho := h.ok x (List.mem_of_getElem? hx)
    refine ⟨ho.1, ?_, ?_⟩
    · show 0 ≤ (if k = b then x.n - 1 else x.n)
      split
      · rename_i e; subst e; rw [hb] at hx; cases hx; omega
      · exact ho.2.1
    · show (if k = b then x.n - 1 else x.n) ≤ 10 ^ 30
      have := ho.2.2
      split <;> omega
theorem Club.poss {c : List Mem} (h : Club c) (F : Fine c) : Poss c := ⟨h, fun t ht => by obtain ⟨m, hm, rfl⟩ := mem_dayS.mp ht; exact F.slack m hm, F.left⟩
/-- a club and the links that are known of it -/
def restC : List Mem → List (Nat × Nat) → List Mem
  | c, [] => c
  | c, x :: L => restC (linkC c x.1 x.2) L
/-- links that might be: of brought members, by earlier ones, no two with the same member -/
structure OkL (c : List Mem) (L : List (Nat × Nat)) : Prop where
  at_ : ∀ x ∈ L, x.1 < c.length ∧ x.2 < c.length ∧ (mAt c x.2).w = true ∧ (mAt c x.1).d < (mAt c x.2).d
  nd : (L.map (·.2)).Nodup
theorem OkL.ne {c : List Mem} {L : List (Nat × Nat)} (h : OkL c L) {x : Nat × Nat} (hx : x ∈ L) : x.1 ≠ x.2 := fun e => by
  have := (h.at_ x hx).2.2.2
  rw [e] at this
  omega
theorem OkL.tail {c : List Mem} {x : Nat × Nat} {L : List (Nat × Nat)} (h : OkL c (x :: L)) : OkL (linkC c x.1 x.2) L := by
  have hx := h.at_ x List.mem_cons_self
  have hne := h.ne List.mem_cons_self
  obtain ⟨n1, n2⟩ := List.nodup_cons.mp h.nd
  refine ⟨fun y hy => ?_, n2⟩
  obtain ⟨h1, h2, h3, h4⟩ := h.at_ y (List.mem_cons_of_mem _ hy)
  have hym : y.2 ≠ x.2 := fun e => n1 (List.mem_map.mpr ⟨y, hy, e⟩)
  rw [linkC_len, linkC_at hne h1, linkC_at hne h2, if_neg hym]
  exact ⟨h1, h2, h3, h4⟩
def hasL (w : List (Option Nat)) (L : List (Nat × Nat)) : Prop := ∀ x ∈ L, w[x.2]? = some (some x.1)
def bareW : List (Option Nat) → List (Nat × Nat) → List (Option Nat)
  | w, [] => w
  | w, x :: L => bareW (w.set x.2 none) L
def fullW : List (Option Nat) → List (Nat × Nat) → List (Option Nat)
  | w, [] => w
  | w, x :: L => fullW (w.set x.2 (some x.1)) L
theorem fullW_set {o : Option Nat} {m : Nat} : ∀ {L : List (Nat × Nat)} {w : List (Option Nat)}, m ∉ L.map (·.2) → fullW (w.set m o) L = (fullW w L).set m o
  | [], w, _ => rfl
  | x :: L, w, h => by
    rw [List.map_cons, List.mem_cons, not_or] at h
    rw [fullW, fullW, List.set_comm _ _ h.1, fullW_set h.2]
theorem bareW_len : ∀ (L : List (Nat × Nat)) (w : List (Option Nat)), (bareW w L).length = w.length
  | [], w => rfl
  | x :: L, w => by rw [bareW, bareW_len L, List.length_set]
theorem fullW_len : ∀ (L : List (Nat × Nat)) (w : List (Option Nat)), (fullW w L).length = w.length
  | [], w => rfl
  | x :: L, w => by rw [fullW, fullW_len L, List.length_set]
theorem fullW_at : ∀ {L : List (Nat × Nat)} {w : List (Option Nat)}, (L.map (·.2)).Nodup → (∀ x ∈ L, x.2 < w.length) → hasL (fullW w L) L
  | [], w, _, _ => fun x hx => by cases hx
  | x :: L, w, nd, hl => by
    obtain ⟨n1, n2⟩ := List.nodup_cons.mp nd
    intro y hy
    rcases List.mem_cons.mp hy with rfl | hy
    · rw [fullW, fullW_set n1, List.getElem?_set_self (by rw [fullW_len]; exact hl _ List.mem_cons_self)]
    · exact fullW_at (w := w.set x.2 (some x.1)) n2 (fun z hz => by rw [List.length_set]; exact hl z (List.mem_cons_of_mem _ hz)) y hy
/-- a way with the links is, but for them, a way of the club that is left -/
theorem rest_of_way : ∀ {L : List (Nat × Nat)} {c : List Mem} {w : List (Option Nat)}, (L.map (·.2)).Nodup → IsWay c w → hasL w L → IsWay (restC c L) (bareW w L)
  | [], _, _, _, h, _ => h
  | x :: L, c, w, nd, h, hl => by
    obtain ⟨n1, n2⟩ := List.nodup_cons.mp nd
    obtain ⟨hbm, h2⟩ := link_way h (hl x List.mem_cons_self)
    refine rest_of_way (L := L) n2 h2 fun y hy => ?_
    have hym : x.2 ≠ y.2 := fun e => n1 (List.mem_map.mpr ⟨y, hy, e.symm⟩)
    rw [List.getElem?_set_ne hym]
    exact hl y (List.mem_cons_of_mem _ hy)
/-- a way of the club that is left is, with the links, a way -/
theorem way_of_rest : ∀ {L : List (Nat × Nat)} {c : List Mem} {v : List (Option Nat)}, OkL c L → IsWay (restC c L) v → IsWay c (fullW v L) ∧ ∀ x ∈ L, v[x.2]? = some none
  | [], _, _, _, h => ⟨h, fun x hx => by cases hx⟩
  | x :: L, c, v, ok, h => by
    obtain ⟨n1, n2⟩ := List.nodup_cons.mp ok.nd
    obtain ⟨h1, h2⟩ := way_of_rest ok.tail h
    obtain ⟨k1, k2, k3, k4⟩ := ok.at_ x List.mem_cons_self
    obtain ⟨g1, g2⟩ := way_link h1 (mAt_g k1) (mAt_g k2) k4 k3
    refine ⟨by rw [fullW, fullW_set n1]; exact g2, fun y hy => ?_⟩
    rcases List.mem_cons.mp hy with rfl | hy
    · have key : ∀ {L : List (Nat × Nat)} {v : List (Option Nat)}, y.2 ∉ L.map (·.2) → (fullW v L)[y.2]? = v[y.2]? := fun {L} => by
        induction L with
        | nil => intro v _; rfl
        | cons z L ih =>
          intro v h
          rw [List.map_cons, List.mem_cons, not_or] at h
          rw [fullW, ih h.2, List.getElem?_set_ne (Ne.symm h.1)]
      rw [key n1] at g1
      exact g1
    · exact h2 y hy
theorem bare_full : ∀ {L : List (Nat × Nat)} {v : List (Option Nat)}, (L.map (·.2)).Nodup → (∀ x ∈ L, v[x.2]? = some none) → bareW (fullW v L) L = v
  | [], _, _, _ => rfl
  | x :: L, v, nd, h => by
    obtain ⟨n1, n2⟩ := List.nodup_cons.mp nd
    have hx := h x List.mem_cons_self
    have e : (fullW (v.set x.2 (some x.1)) L).set x.2 none = fullW v L := by
      rw [fullW_set n1, List.set_set, ← fullW_set n1]
      congr 1
      apply List.ext_getElem?
      intro i
      by_cases z : x.2 = i
      · subst z; rw [List.getElem?_set_self (List.getElem?_eq_some_iff.mp hx).1, hx]
      · rw [List.getElem?_set_ne z]
    rw [bareW, fullW, e]
    exact bare_full n2 fun y hy => h y (List.mem_cons_of_mem _ hy)
theorem full_bare : ∀ {L : List (Nat × Nat)} {w : List (Option Nat)}, (L.map (·.2)).Nodup → hasL w L → fullW (bareW w L) L = w
  | [], _, _, _ => rfl
  | x :: L, w, nd, h => by
    obtain ⟨n1, n2⟩ := List.nodup_cons.mp nd
    have hx := h x List.mem_cons_self
    have ih := full_bare (L := L) (w := w.set x.2 none) n2 fun y hy => by
      have hym : x.2 ≠ y.2 := fun e => n1 (List.mem_map.mpr ⟨y, hy, e.symm⟩)
      rw [List.getElem?_set_ne hym]
      exact h y (List.mem_cons_of_mem _ hy)
    rw [bareW, fullW, fullW_set n1, ih, List.set_set]
    apply List.ext_getElem?
    intro i
    by_cases z : x.2 = i
    · subst z; rw [List.getElem?_set_self (List.getElem?_eq_some_iff.mp hx).1, hx]
    · rw [List.getElem?_set_ne z]
theorem bare_lt : ∀ {L : List (Nat × Nat)} {a b : List (Option Nat)}, (L.map (·.2)).Nodup → hasL a L → hasL b L → wLt a b → wLt (bareW a L) (bareW b L)
  | [], _, _, _, _, _, h => h
  | x :: L, a, b, nd, ha, hb, h => by
    obtain ⟨n1, n2⟩ := List.nodup_cons.mp nd
    have ok : ∀ {w : List (Option Nat)}, hasL w (x :: L) → hasL (w.set x.2 none) L := fun {w} h y hy => by
      have hym : x.2 ≠ y.2 := fun e => n1 (List.mem_map.mpr ⟨y, hy, e.symm⟩)
      rw [List.getElem?_set_ne hym]
      exact h y (List.mem_cons_of_mem _ hy)
    exact bare_lt (L := L) n2 (ok ha) (ok hb) (wLt_set none (by rw [ha x List.mem_cons_self, hb x List.mem_cons_self]) h)
/-! ### numbers, days, slack of what is left -/
theorem restC_len : ∀ (L : List (Nat × Nat)) (c : List Mem), (restC c L).length = c.length
  | [], c => rfl
  | x :: L, c => by rw [restC, restC_len L, linkC_len]
theorem restC_at : ∀ {L : List (Nat × Nat)} {c : List Mem}, OkL c L → ∀ {i : Nat}, i < c.length → (mAt (restC c L) i).d = (mAt c i).d ∧ (mAt (restC c L) i).n = (mAt c i).n - ((L.map (·.1)).count i : Nat) ∧ (mAt (restC c L) i).w = ((mAt c i).w && !(L.map (·.2)).contains i)
  | [], c, _, i, _ => ⟨rfl, by show (mAt c i).n = (mAt c i).n - ((0 : Nat) : Int); omega, by show (mAt c i).w = ((mAt c i).w && !false); simp⟩
  | x :: L, c, ok, i, hi => by
    obtain ⟨h1, h2, h3⟩ := restC_at (c := linkC c x.1 x.2) ok.tail (i := i) (by rw [linkC_len]; exact hi)
    rw [linkC_at (ok.ne List.mem_cons_self) hi] at h1 h2 h3
    refine ⟨h1, ?_, ?_⟩
    · have h2 : (mAt (restC c (x :: L)) i).n = (if i = x.1 then (mAt c i).n - 1 else (mAt c i).n) - ((L.map (·.1)).count i : Nat) := h2
      rw [h2, List.map_cons, List.count_cons]
      by_cases e : i = x.1
      · subst e; simp; omega
      · have : (x.1 == i) = false := by simpa using Ne.symm e
        simp [e, this]
    · have h3 : (mAt (restC c (x :: L)) i).w = ((if i = x.2 then false else (mAt c i).w) && !(L.map (·.2)).contains i) := h3
      rw [h3, List.map_cons, List.contains_cons]
      by_cases e : i = x.2
      · subst e; simp
      · have : (i == x.2) = false := by simpa using e
        simp [e, this]
/-- how many links span a day -/
def spanN (c : List Mem) (L : List (Nat × Nat)) (t : Int) : Nat := (L.filter fun x => decide ((mAt c x.1).d < t) && decide (t < (mAt c x.2).d)).length
theorem restC_slack : ∀ {L : List (Nat × Nat)} {c : List Mem}, OkL c L → ∀ t, slackT (restC c L) t = slackT c t - (spanN c L t : Nat)
  | [], c, _, t => by show slackT c t = slackT c t - ((0 : Nat) : Int); omega
  | x :: L, c, ok, t => by
    obtain ⟨k1, k2, k3, k4⟩ := ok.at_ x List.mem_cons_self
    have hne := ok.ne List.mem_cons_self
    have e1 := restC_slack ok.tail t
    have e2 := slack_link hne (mAt_g k1) (mAt_g k2) k3 t
    have e3 : spanN (linkC c x.1 x.2) L t = spanN c L t := by
      unfold spanN
      congr 1
      refine List.filter_congr fun y hy => ?_
      obtain ⟨h1, h2, _⟩ := ok.at_ y (List.mem_cons_of_mem _ hy)
      rw [linkC_at hne h1, linkC_at hne h2]
    have e4 : ((spanN c (x :: L) t : Nat) : Int) = (spanN c L t : Nat) + (if (mAt c x.1).d < t then 1 else 0) - (if (mAt c x.2).d ≤ t then 1 else 0) := by
      unfold spanN
      rw [List.filter_cons]
      by_cases q1 : (mAt c x.1).d < t
      · by_cases q2 : (mAt c x.2).d ≤ t
        · have q3 : ¬ t < (mAt c x.2).d := by omega
          simp [q1, q2, q3]
        · have q3 : t < (mAt c x.2).d := by omega
          simp [q1, q2, q3]
      · have q2 : ¬ (mAt c x.2).d ≤ t := by omega
        simp [q1, q2]
    show slackT (restC (linkC c x.1 x.2) L) t = _
    rw [e1, e2, e3, e4]
    omega
theorem restC_days : ∀ {L : List (Nat × Nat)} {c : List Mem}, OkL c L → dayS (restC c L) = dayS c
  | [], c, _ => rfl
  | x :: L, c, ok => by
    show dayS (restC (linkC c x.1 x.2) L) = _
    rw [restC_days ok.tail, linkC_dayS (ok.ne List.mem_cons_self)]
theorem restC_left : ∀ {L : List (Nat × Nat)} {c : List Mem}, OkL c L → leftN (restC c L) = leftN c
  | [], c, _ => rfl
  | x :: L, c, ok => by
    obtain ⟨k1, k2, k3, k4⟩ := ok.at_ x List.mem_cons_self
    show leftN (restC (linkC c x.1 x.2) L) = _
    rw [restC_left ok.tail, left_link (ok.ne List.mem_cons_self) (mAt_g k1) (mAt_g k2) k3]
theorem restC_asc : ∀ {L : List (Nat × Nat)} {c : List Mem}, OkL c L → Asc c → Asc (restC c L)
  | [], c, _, h => h
  | x :: L, c, ok, h => restC_asc (L := L) ok.tail (linkC_asc (ok.ne List.mem_cons_self) h)
/-- the links together: nobody has too many, no day is spanned by too many -/
def HoldB (c : List Mem) (L : List (Nat × Nat)) : Prop := (∀ i, i < c.length → (((L.map (·.1)).count i : Nat) : Int) ≤ (mAt c i).n) ∧ ∀ t ∈ dayS c, ((spanN c L t : Nat) : Int) ≤ slackT c t
/-- R4 -/
theorem hold_poss {c : List Mem} {L : List (Nat × Nat)} (h : Poss c) (ok : OkL c L) (hh : HoldB c L) : Poss (restC c L) := by
  have hl := restC_len L c
  refine ⟨⟨fun e => ?_, by rw [hl]; exact h.few, fun y hy => ?_, restC_asc ok h.asc⟩, fun t ht => ?_, by rw [restC_left ok]; exact h.left⟩
  · rw [e] at hl
    exact h.some (List.length_eq_zero_iff.mp hl.symm)
  · obtain ⟨i, hi, e⟩ := List.getElem_of_mem hy
    rw [hl] at hi
    have hyi : mAt (restC c L) i = y := mAt_some (by rw [List.getElem?_eq_getElem (by rw [hl]; exact hi), e])
    obtain ⟨h1, h2, h3⟩ := restC_at ok hi
    have ho := h.ok _ (List.mem_of_getElem? (mAt_g hi))
    have hc := hh.1 i hi
    rw [hyi] at h1 h2
    refine ⟨by rw [h1]; exact ho.1, by rw [h2]; omega, ?_⟩
    have := ho.2.2
    rw [h2]; omega
  · rw [restC_days ok] at ht
    rw [restC_slack ok]
    have := hh.2 t ht
    omega
theorem hold_of_way {c : List Mem} {L : List (Nat × Nat)} {w : List (Option Nat)} (ok : OkL c L) (hw : IsWay c w) (hl : hasL w L) : HoldB c L := by
  have hr := rest_of_way ok.nd hw hl
  refine ⟨fun i hi => ?_, fun t _ => ?_⟩
  · have h2 := (restC_at ok hi).2.1
    have h3 := hr.cnt i _ (mAt_g (by rw [restC_len]; exact hi))
    omega
  · have := way_slack hr t
    rw [restC_slack ok] at this
    omega

end G4

namespace G4
open PySem PySem.Spec PyProof.Rows L2
local macro_rules
  | `(tactic| simp_arith [$as,*]) => `(tactic| simp -implicitDefEqProofs only [tl_table_of_1, tl_table_of_2, tl_table_of_3, tl_ways_of_1, tl_ways_of_2, tl__law_toss_1, tl__law_toss_2, tl__law_toss_3, tl__law_made_1, tl__law_made_2, tl__law_made_3, tl__law_made_4, tl__law_made_5, tl__law_made_6, tl__law_made_7, tl__law_made_8, tl__law_bent_1, tl__law_bent_2, tl__law_bent_3, tl__law_bent_4, tl__law_right_1, tl__law_right_2, tl_law_1, tl_law_2, tl_law_3, tl_law_4, tl_law_5, tl_law_6, ↓bnd_eq, ↓off_eq, ↓thn_eq, run_eq, fin_nx, fin_rt, fin_ex, S.hide, hideSl, exms, exm, ev, evT, evs, evOs, evo, evc, evSrc, evPar, hb_ok, hb_ex, ho_ok, ho_ex, ht_nx, ht_rt, ht_ex, tb_nx, tb_rt, tb_ex, hd_setB, hd_setT, hd_retT, D.flat, opd_d, opd_pl, opd_lst, opd_ex, val_d, val_lst, List.append_assoc, List.length_set, gc_push, gc_id, take_push, take_id, get_app0, get_app1, get_app2, isNew0, isNew1, isNew_int, isNew_str, isNew_bl, isNew_non, isNew_tup, isNew_lst, keep_un, keep_int, keep_bl, keep_non, keep_str, keep_scr, keep_obj, keep_own_lst, keep_own_dK, pureK_nil, keep_lst, keep_tup, D.unders, ne_succ, ne_succ1, eq_self, nodup2, nodup3, List.filterMap_cons, List.filterMap_nil, putPar, D.under, List.nodup_cons, List.mem_cons, List.not_mem_nil, or_self, or_false, Nat.reduceEqDiff, List.nodup_nil, true_and, and_true, bits10, Int.reduceMul, Int.reduceLE, Int.reduceLT, Int.reducePow, Int.reduceAdd, Int.reduceSub, Int.reduceNeg, Int.reduceToNat, val_dK, putTs_nil, putTs_nm, putTs_sub, val_ex, val_pl, valPl_lst, valPl_d, opt_some, toO_ok, toO_ex, asBl_ok, List.map_cons, List.map_nil, List.length_cons, List.length_nil, Nat.reduceAdd, Nat.reduceSub, Nat.zero_add, List.replicate, List.cons_append, List.nil_append, List.getElem?_cons_zero, List.getElem?_cons_succ, List.set_cons_zero, List.set_cons_succ, S.rd, S.rdD, S.store, OS.opt, Option.bind_some, Option.map_some, Cell.view, S.cell, S.isLst, S.isDct, S.rdDct, dgetV, dixV, augV, S.put, S.rdLst, cmpV, opCmp, opEq_str, opEq_int, opEq_bl, opEq_non, opEq_lst, opEq_tup, pures_app, eqv_int, eqv_bl, eqv_lst, eqv_tup, eqvs_nil, eqvs_ints, eqvs_cons, eqv_str, opIn_ints, unders_ints, set_app0, set_app1, binV, opBin, ixV, opIx, biV, biSem, biLen, biInt, biAbs, biMax2, biMin2, biSum, biAll, biAny, biList, biTuple, List.mapM_cons, List.mapM_nil, bind, pure, Option.bind, truV, D.tru, isiV, D.kind, Ty.sub, List.any_cons, List.any_nil, decide_true, decide_false, Int.cast_ofNat_Int, beq_self_eq_true, Bool.false_and, Bool.true_or, Bool.false_or, Bool.or_false, Bool.and_true, Bool.true_and, Bool.and_self, if_true, if_false, Bool.false_eq_true, reduceCtorEq, Bool.not_true, Bool.not_false, finish, D.pure, D.pures, Cell.pure, List.take_length, and_self, not_true_eq_false, not_false_eq_true, plain_int', plain_lst, plain_tup, plain_non, plain_bl, D.plainsN, pures_ints, plain_ints, List.length_map, List.length_append, at1, at2, at3, at4, at5, muV, muSem, muApp, setIx, S.fz, perm, List.getD_cons_zero, List.getD_cons_succ, $as,*])
/-! ### who may bring whom: what all ways say -/
section
variable {c : List Mem}
/-- the brought ones, by their places -/
def brN (c : List Mem) : List Nat := (List.range c.length).filter fun i => (mAt c i).w
theorem zipIdx_range (c : List Mem) : c.zipIdx 0 = (List.range c.length).map fun i => (mAt c i, i) := by
  apply List.ext_getElem?
  intro i
  rw [List.getElem?_zipIdx, List.getElem?_map]
  by_cases h : i < c.length
  · rw [List.getElem?_range h, mAt_g h, Nat.zero_add]; rfl
  · rw [List.getElem?_eq_none (by omega), List.getElem?_eq_none (by simp; omega)]; rfl
theorem brL_brN (c : List Mem) : (brL 0 c).map D.int = (brN c).map fun m : Nat => D.int m := by
  rw [← br_map, zipIdx_range, List.filter_map, List.map_map]
  rfl
def bringL (c : List Mem) (m : Nat) : List Nat := (List.range m).filter fun b => mayB c (closeL c) b m
theorem brN_len : (brN c).length ≤ c.length := by
  unfold brN
  have := List.length_filter_le (fun i => (mAt c i).w) (List.range c.length)
  rw [List.length_range] at this
  exact this
end
/-- may the link be? -/
def lk (c : List Mem) (b m : Nat) : Bool := mayB c (closeL c) b m
section
variable {c : List Mem}
theorem Poss.fine (h : Poss c) : Fine c := ⟨fun m hm => (h.ok m hm).2.1, fun m hm => h.slack _ (mem_dayS.mpr ⟨m, hm, rfl⟩), h.left⟩
theorem Poss.nums (h : Poss c) : ∀ b, b < c.length → 0 ≤ (mAt c b).n := fun b hb => (h.ok _ (List.mem_of_getElem? (mAt_g hb))).2.1
/-- the days that are no first one -/
theorem days_drop (h : Club c) {a t : Int} (ha : a ∈ dayS c) (ht : t ∈ dayS c) (hat : a < t) : t ∈ (dayS c).drop 1 := by
  have hs := dayS_strict c
  cases hd : dayS c with
  | nil => rw [hd] at ha; cases ha
  | cons x l =>
    rw [hd] at ha ht hs
    rw [List.drop_one, List.tail_cons]
    rcases List.mem_cons.mp ht with rfl | ht
    · exfalso
      rcases List.mem_cons.mp ha with rfl | ha
      · omega
      · have := (List.pairwise_cons.mp hs).1 a ha; omega
    · exact ht
theorem open_iff (h : Poss c) {b m : Nat} (hb : b < c.length) (hm : m < c.length) : openB (closeL c) (mAt c b).d (mAt c m).d = true ↔ ∀ x ∈ c, (mAt c b).d < x.d → x.d < (mAt c m).d → 0 < slackT c x.d := by
  unfold openB
  rw [List.all_eq_true]
  have hbd : (mAt c b).d ∈ dayS c := mem_dayS.mpr ⟨_, List.mem_of_getElem? (mAt_g hb), rfl⟩
  constructor
  · intro k x hx h1 h2
    have hx' : x.d ∈ dayS c := mem_dayS.mpr ⟨x, hx, rfl⟩
    have h0 := h.slack _ hx'
    by_cases z : slackT c x.d = 0
    · have := k x.d (List.mem_filter.mpr ⟨days_drop h.toClub hbd hx' h1, by simp [z]⟩)
      simp [h1, h2] at this
    · omega
  · intro k t ht
    obtain ⟨h1, h2⟩ := List.mem_filter.mp ht
    obtain ⟨x, hx, rfl⟩ := mem_dayS.mp (List.mem_of_mem_drop h1)
    by_cases q1 : (mAt c b).d < x.d
    · by_cases q2 : x.d < (mAt c m).d
      · have := k x hx q1 q2
        have h2 : slackT c x.d = 0 := by simpa using h2
        omega
      · simp [q2]
    · simp [q1]
theorem lk_iff (h : Poss c) {b m : Nat} (hb : b < c.length) (hm : m < c.length) : lk c b m = true ↔ ∃ w, IsWay c w ∧ w[m]? = some (some b) := by
  rw [link_iff h.fine (mAt_g hb) (mAt_g hm), ← open_iff h hb hm]
  unfold lk mayB
  simp only [Bool.and_eq_true, decide_eq_true_eq]
theorem lk_lt (h : Club c) {b m : Nat} (hb : b < c.length) (hm : m < c.length) (q : lk c b m = true) : b < m := by
  unfold lk mayB at q
  simp only [Bool.and_eq_true, decide_eq_true_eq] at q
  exact asc_lt h.asc hb hm q.2.2.1
end
theorem nat_ext {l m : List Nat} (h1 : l.Pairwise (· < ·)) (h2 : m.Pairwise (· < ·)) (h : ∀ x, x ∈ l ↔ x ∈ m) : l = m :=
  eq_of_sorted (fun a => Nat.lt_irrefl a) (fun a b h k => absurd k (by omega)) h1 h2 h
theorem bringL_range {c : List Mem} (h : Club c) {m : Nat} (hm : m < c.length) : (List.range c.length).filter (fun b => lk c b m) = bringL c m := by
  refine nat_ext (pw_range _ _) (pw_range _ _) fun x => ?_
  unfold bringL
  rw [List.mem_filter, List.mem_filter, List.mem_range, List.mem_range]
  constructor
  · rintro ⟨h1, h2⟩
    exact ⟨lk_lt h h1 hm h2, h2⟩
  · rintro ⟨h1, h2⟩
    exact ⟨by omega, h2⟩

end G4

namespace G4
open PySem PySem.Spec PyProof.Rows L2
local macro_rules
  | `(tactic| simp_arith [$as,*]) => `(tactic| simp -implicitDefEqProofs only [tl_table_of_1, tl_table_of_2, tl_table_of_3, tl_ways_of_1, tl_ways_of_2, tl__law_toss_1, tl__law_toss_2, tl__law_toss_3, tl__law_made_1, tl__law_made_2, tl__law_made_3, tl__law_made_4, tl__law_made_5, tl__law_made_6, tl__law_made_7, tl__law_made_8, tl__law_bent_1, tl__law_bent_2, tl__law_bent_3, tl__law_bent_4, tl__law_right_1, tl__law_right_2, tl_law_1, tl_law_2, tl_law_3, tl_law_4, tl_law_5, tl_law_6, ↓bnd_eq, ↓off_eq, ↓thn_eq, run_eq, fin_nx, fin_rt, fin_ex, S.hide, hideSl, exms, exm, ev, evT, evs, evOs, evo, evc, evSrc, evPar, hb_ok, hb_ex, ho_ok, ho_ex, ht_nx, ht_rt, ht_ex, tb_nx, tb_rt, tb_ex, hd_setB, hd_setT, hd_retT, D.flat, opd_d, opd_pl, opd_lst, opd_ex, val_d, val_lst, List.append_assoc, List.length_set, gc_push, gc_id, take_push, take_id, get_app0, get_app1, get_app2, isNew0, isNew1, isNew_int, isNew_str, isNew_bl, isNew_non, isNew_tup, isNew_lst, keep_un, keep_int, keep_bl, keep_non, keep_str, keep_scr, keep_obj, keep_own_lst, keep_own_dK, pureK_nil, keep_lst, keep_tup, D.unders, ne_succ, ne_succ1, eq_self, nodup2, nodup3, List.filterMap_cons, List.filterMap_nil, putPar, D.under, List.nodup_cons, List.mem_cons, List.not_mem_nil, or_self, or_false, Nat.reduceEqDiff, List.nodup_nil, true_and, and_true, bits10, Int.reduceMul, Int.reduceLE, Int.reduceLT, Int.reducePow, Int.reduceAdd, Int.reduceSub, Int.reduceNeg, Int.reduceToNat, val_dK, putTs_nil, putTs_nm, putTs_sub, val_ex, val_pl, valPl_lst, valPl_d, opt_some, toO_ok, toO_ex, asBl_ok, List.map_cons, List.map_nil, List.length_cons, List.length_nil, Nat.reduceAdd, Nat.reduceSub, Nat.zero_add, List.replicate, List.cons_append, List.nil_append, List.getElem?_cons_zero, List.getElem?_cons_succ, List.set_cons_zero, List.set_cons_succ, S.rd, S.rdD, S.store, OS.opt, Option.bind_some, Option.map_some, Cell.view, S.cell, S.isLst, S.isDct, S.rdDct, dgetV, dixV, augV, S.put, S.rdLst, cmpV, opCmp, opEq_str, opEq_int, opEq_bl, opEq_non, opEq_lst, opEq_tup, pures_app, eqv_int, eqv_bl, eqv_lst, eqv_tup, eqvs_nil, eqvs_ints, eqvs_cons, eqv_str, opIn_ints, unders_ints, set_app0, set_app1, binV, opBin, ixV, opIx, biV, biSem, biLen, biInt, biAbs, biMax2, biMin2, biSum, biAll, biAny, biList, biTuple, List.mapM_cons, List.mapM_nil, bind, pure, Option.bind, truV, D.tru, isiV, D.kind, Ty.sub, List.any_cons, List.any_nil, decide_true, decide_false, Int.cast_ofNat_Int, beq_self_eq_true, Bool.false_and, Bool.true_or, Bool.false_or, Bool.or_false, Bool.and_true, Bool.true_and, Bool.and_self, if_true, if_false, Bool.false_eq_true, reduceCtorEq, Bool.not_true, Bool.not_false, finish, D.pure, D.pures, Cell.pure, List.take_length, and_self, not_true_eq_false, not_false_eq_true, plain_int', plain_lst, plain_tup, plain_non, plain_bl, D.plainsN, pures_ints, plain_ints, List.length_map, List.length_append, at1, at2, at3, at4, at5, muV, muSem, muApp, setIx, S.fz, perm, List.getD_cons_zero, List.getD_cons_succ, $as,*])
/-! ### the first way -/
theorem bringL_first {c : List Mem} (h : Poss c) {m : Nat} (hm : m < c.length) (hw : (mAt c m).w = true) (first : ∀ i, i < m → (mAt c i).w = false) : bringL c m = firstB c m := by
  unfold bringL firstB
  refine List.filter_congr fun b hb => ?_
  have hbm := List.mem_range.mp hb
  have hbl : b < c.length := by omega
  have fd := first_days h.asc hm first
  unfold mayB
  rw [hw, Bool.true_and]
  by_cases h1 : 0 < (mAt c b).n
  · by_cases h2 : (mAt c b).d < (mAt c m).d
    · have ho : openB (closeL c) (mAt c b).d (mAt c m).d = true := by
        rw [open_iff h hbl hm]
        intro x hx q1 q2
        rw [slackT_sum]
        have hf : ∀ z ∈ c, 0 ≤ slackF x.d z := fun z hz => by
          unfold slackF
          have := (h.ok z hz).2.1
          have h3 : ¬ (z.d ≤ x.d ∧ z.w = true) := fun q => by have := fd z hz q.2; omega
          rw [if_neg h3]
          split <;> omega
        have hbc := List.mem_of_getElem? (mAt_g hbl)
        have h4 := sum_ge hf hbc
        have h5 : slackF x.d (mAt c b) = (mAt c b).n := by
          unfold slackF
          have h3 : ¬ ((mAt c b).d ≤ x.d ∧ (mAt c b).w = true) := fun q => by have := fd _ hbc q.2; omega
          rw [if_neg h3, if_pos q1]; omega
        omega
      simp [h1, h2, ho]
    · simp [h1, h2]
  · simp [h1]
theorem firstB_mem {c : List Mem} {m b : Nat} (h : b ∈ firstB c m) : b < m ∧ (mAt c b).d < (mAt c m).d ∧ 0 < (mAt c b).n := by
  obtain ⟨h1, h2⟩ := List.mem_filter.mp h
  rw [Bool.and_eq_true, decide_eq_true_eq, decide_eq_true_eq] at h2
  exact ⟨List.mem_range.mp h1, h2⟩
theorem firstB_ne {c : List Mem} (h : Poss c) {m : Nat} (hm : m < c.length) (hw : (mAt c m).w = true) (first : ∀ i, i < m → (mAt c i).w = false) : firstB c m ≠ [] := fun e => by
  have e1 := first_sum h.asc h.nums hm first
  rw [e] at e1
  have := free_pos h.fine (List.mem_of_getElem? (mAt_g hm)) hw
  simp at e1
  omega
/-- the club that is left behind the first brought one -/
theorem poss_first {c : List Mem} (h : Poss c) {m b : Nat} (hm : m < c.length) (hw : (mAt c m).w = true) (first : ∀ i, i < m → (mAt c i).w = false) (hb : b ∈ firstB c m) : Poss (linkC c b m) := by
  obtain ⟨b1, b2, b3⟩ := firstB_mem hb
  have hbg := mAt_g (c := c) (i := b) (by omega)
  exact (link_club h.toClub hbg (mAt_g hm) (by omega) b3).poss (fine_link h.fine hbg (mAt_g hm) b2 b3 hw (first_days h.asc hm first))
theorem brN_cons {c : List Mem} {m b : Nat} (hm : m < c.length) (hbm : b ≠ m) (hw : (mAt c m).w = true) (first : ∀ i, i < m → (mAt c i).w = false) : brN c = m :: brN (linkC c b m) := by
  refine nat_ext (pw_range _ _) (List.pairwise_cons.mpr ⟨fun x hx => ?_, pw_range _ _⟩) fun x => ?_
  · unfold brN at hx
    rw [List.mem_filter, List.mem_range, linkC_len] at hx
    rw [linkC_at hbm hx.1] at hx
    have hx2 : (if x = m then false else (mAt c x).w) = true := hx.2
    split at hx2
    · cases hx2
    · rename_i ne
      rcases Nat.lt_trichotomy x m with z | z | z
      · rw [first x z] at hx2; cases hx2
      · exact absurd z ne
      · exact z
  · unfold brN
    rw [List.mem_cons, List.mem_filter, List.mem_filter, List.mem_range, List.mem_range, linkC_len]
    constructor
    · rintro ⟨h1, h2⟩
      by_cases e : x = m
      · exact .inl e
      · refine .inr ⟨h1, ?_⟩
        rw [linkC_at hbm h1]
        show (if x = m then false else (mAt c x).w) = true
        rw [if_neg e]; exact h2
    · rintro (rfl | ⟨h1, h2⟩)
      · exact ⟨hm, hw⟩
      · rw [linkC_at hbm h1] at h2
        have h2 : (if x = m then false else (mAt c x).w) = true := h2
        split at h2
        · cases h2
        · exact ⟨h1, h2⟩
def leastS : List Nat → List Mem → List (Option Nat) → List (Option Nat)
  | [], _, f => f
  | m :: ms, c, f => leastS ms (linkC c ((bringL c m).headD 0) m) (f.set m (some ((bringL c m).headD 0)))
def overW (f w : List (Option Nat)) : List (Option Nat) := List.zipWith (fun a b => b.or a) f w
theorem over_none : ∀ f : List (Option Nat), overW f (List.replicate f.length none) = f
  | [] => rfl
  | a :: f => by
    show (none : Option Nat).or a :: overW f (List.replicate f.length none) = _
    rw [over_none f]; rfl
theorem over_set : ∀ {f w : List (Option Nat)} {m b : Nat}, w[m]? = some none → f.length = w.length → overW (f.set m (some b)) w = overW f (w.set m (some b))
  | [], [], _, _, h, _ => by simp at h
  | [], _ :: _, _, _, _, h => by cases h
  | _ :: _, [], _, _, _, h => by cases h
  | x :: f, y :: w, 0, b, h, _ => by
    simp at h
    subst h
    rfl
  | x :: f, y :: w, m + 1, b, h, hl => by
    show y.or x :: overW (f.set m (some b)) w = y.or x :: overW f (w.set m (some b))
    rw [over_set (by simpa using h) (by simpa using hl)]
theorem least_head : ∀ (k : Nat) (c : List Mem), (c.map wF).sum = k → Poss c → ∃ w l, allW c = w :: l ∧ ∀ f : List (Option Nat), f.length = c.length → leastS (brN c) c f = overW f w
  | 0, c, hk, h => by
    have hw := brought_none hk
    have hn := fine_zero h.fine hw
    refine ⟨_, [], allW_none h.asc (at_all hw) (at_all hn), fun f hf => ?_⟩
    have : brN c = [] := by
      unfold brN
      rw [List.filter_eq_nil_iff]
      intro i hi
      rw [at_all hw i (List.mem_range.mp hi)]
      decide
    rw [this, ← hf, over_none]
    rfl
  | k + 1, c, hk, h => by
    obtain ⟨m, hm, hw, first⟩ := brought_some hk
    have hf := bringL_first h hm hw first
    cases hq : firstB c m with
    | nil => exact absurd hq (firstB_ne h hm hw first)
    | cons b bs =>
      have hb : b ∈ firstB c m := by rw [hq]; exact List.mem_cons_self
      obtain ⟨b1, b2, b3⟩ := firstB_mem hb
      have hbg := mAt_g (c := c) (i := b) (by omega)
      have hp := poss_first h hm hw first hb
      obtain ⟨w, l, e1, e2⟩ := least_head k (linkC c b m) (by
        rw [sum_link (by omega) hbg (mAt_g hm), hk]
        simp only [wF, hw]
        simp) hp
      have hway : IsWay (linkC c b m) w := (mem_allW hp.asc hp.nums w).mp (by rw [e1]; exact List.mem_cons_self)
      have hwm : w[m]? = some none := way_first hway (by rw [linkC_len]; exact hm) (by rw [linkC_at (by omega) hm]; show (if m = m then false else _) = false; rw [if_pos rfl])
      refine ⟨w.set m (some b), l.map (fun w => w.set m (some b)) ++ bs.flatMap fun b => (allW (linkC c b m)).map fun w => w.set m (some b), ?_, fun f hfl => ?_⟩
      · rw [allW_split h.asc h.nums hm hw first, hq, List.flatMap_cons, e1]
        rfl
      · rw [brN_cons hm (show b ≠ m by omega) hw first, leastS, hf, hq]
        show leastS (brN (linkC c b m)) (linkC c b m) (f.set m (some b)) = _
        rw [e2 _ (by rw [List.length_set, linkC_len]; exact hfl), over_set hwm (by rw [hway.len, linkC_len]; exact hfl)]
/-- the first way -/
theorem least_ok {c : List Mem} (h : Poss c) : ∃ l, allW c = leastS (brN c) c (List.replicate c.length none) :: l := by
  obtain ⟨k, hk⟩ := sum_wF c
  obtain ⟨w, l, e1, e2⟩ := least_head k c hk h
  refine ⟨l, ?_⟩
  have hway : IsWay c w := (mem_allW h.asc h.nums w).mp (by rw [e1]; exact List.mem_cons_self)
  rw [e2 _ (by simp), e1]
  congr 1
  have : ∀ w : List (Option Nat), overW (List.replicate w.length none) w = w := fun w => by
    induction w with
    | nil => rfl
    | cons a w ih =>
      show a.or none :: overW (List.replicate w.length none) w = _
      rw [ih]; cases a <;> rfl
  rw [← hway.len, this]

end G4

namespace G4
open PySem PySem.Spec PyProof.Rows L2
local macro_rules
  | `(tactic| simp_arith [$as,*]) => `(tactic| simp -implicitDefEqProofs only [tl_table_of_1, tl_table_of_2, tl_table_of_3, tl_ways_of_1, tl_ways_of_2, tl__law_toss_1, tl__law_toss_2, tl__law_toss_3, tl__law_made_1, tl__law_made_2, tl__law_made_3, tl__law_made_4, tl__law_made_5, tl__law_made_6, tl__law_made_7, tl__law_made_8, tl__law_bent_1, tl__law_bent_2, tl__law_bent_3, tl__law_bent_4, tl__law_right_1, tl__law_right_2, tl_law_1, tl_law_2, tl_law_3, tl_law_4, tl_law_5, tl_law_6, ↓bnd_eq, ↓off_eq, ↓thn_eq, run_eq, fin_nx, fin_rt, fin_ex, S.hide, hideSl, exms, exm, ev, evT, evs, evOs, evo, evc, evSrc, evPar, hb_ok, hb_ex, ho_ok, ho_ex, ht_nx, ht_rt, ht_ex, tb_nx, tb_rt, tb_ex, hd_setB, hd_setT, hd_retT, D.flat, opd_d, opd_pl, opd_lst, opd_ex, val_d, val_lst, List.append_assoc, List.length_set, gc_push, gc_id, take_push, take_id, get_app0, get_app1, get_app2, isNew0, isNew1, isNew_int, isNew_str, isNew_bl, isNew_non, isNew_tup, isNew_lst, keep_un, keep_int, keep_bl, keep_non, keep_str, keep_scr, keep_obj, keep_own_lst, keep_own_dK, pureK_nil, keep_lst, keep_tup, D.unders, ne_succ, ne_succ1, eq_self, nodup2, nodup3, List.filterMap_cons, List.filterMap_nil, putPar, D.under, List.nodup_cons, List.mem_cons, List.not_mem_nil, or_self, or_false, Nat.reduceEqDiff, List.nodup_nil, true_and, and_true, bits10, Int.reduceMul, Int.reduceLE, Int.reduceLT, Int.reducePow, Int.reduceAdd, Int.reduceSub, Int.reduceNeg, Int.reduceToNat, val_dK, putTs_nil, putTs_nm, putTs_sub, val_ex, val_pl, valPl_lst, valPl_d, opt_some, toO_ok, toO_ex, asBl_ok, List.map_cons, List.map_nil, List.length_cons, List.length_nil, Nat.reduceAdd, Nat.reduceSub, Nat.zero_add, List.replicate, List.cons_append, List.nil_append, List.getElem?_cons_zero, List.getElem?_cons_succ, List.set_cons_zero, List.set_cons_succ, S.rd, S.rdD, S.store, OS.opt, Option.bind_some, Option.map_some, Cell.view, S.cell, S.isLst, S.isDct, S.rdDct, dgetV, dixV, augV, S.put, S.rdLst, cmpV, opCmp, opEq_str, opEq_int, opEq_bl, opEq_non, opEq_lst, opEq_tup, pures_app, eqv_int, eqv_bl, eqv_lst, eqv_tup, eqvs_nil, eqvs_ints, eqvs_cons, eqv_str, opIn_ints, unders_ints, set_app0, set_app1, binV, opBin, ixV, opIx, biV, biSem, biLen, biInt, biAbs, biMax2, biMin2, biSum, biAll, biAny, biList, biTuple, List.mapM_cons, List.mapM_nil, bind, pure, Option.bind, truV, D.tru, isiV, D.kind, Ty.sub, List.any_cons, List.any_nil, decide_true, decide_false, Int.cast_ofNat_Int, beq_self_eq_true, Bool.false_and, Bool.true_or, Bool.false_or, Bool.or_false, Bool.and_true, Bool.true_and, Bool.and_self, if_true, if_false, Bool.false_eq_true, reduceCtorEq, Bool.not_true, Bool.not_false, finish, D.pure, D.pures, Cell.pure, List.take_length, and_self, not_true_eq_false, not_false_eq_true, plain_int', plain_lst, plain_tup, plain_non, plain_bl, D.plainsN, pures_ints, plain_ints, List.length_map, List.length_append, at1, at2, at3, at4, at5, muV, muSem, muApp, setIx, S.fz, perm, List.getD_cons_zero, List.getD_cons_succ, $as,*])
/-! ### ways.py, links.linked: the number of ways, the first way -/
def pairD (x : Nat × Nat) : D := .tup [.int x.1, .int x.2]
section
variable {st : List Cell} {c : List Mem}
theorem log2_mono {i : Int} {k : Nat} (h : i.natAbs ≤ 2 ^ k) : i.natAbs.log2 ≤ k := by
  by_cases z : i.natAbs = 0
  · rw [z]; exact Nat.zero_le _
  · have : i.natAbs.log2 < k + 1 := (Nat.log2_lt z).mpr (by rw [Nat.pow_succ]; have := Nat.pos_of_ne_zero z; omega)
    omega
theorem sum_le_of (h : Poss c) (q : Mem → Bool) : ((c.filter q).map (·.n)).sum ≤ 60 := by
  have hle : ∀ l : List Mem, (∀ m ∈ l, 0 ≤ m.n) → ((l.filter q).map (·.n)).sum ≤ (l.map (·.n)).sum := fun l => by
    induction l with
    | nil => intro _; exact Int.le_refl _
    | cons m l ih =>
      intro hl
      have := ih fun x hx => hl x (List.mem_cons_of_mem _ hx)
      have := hl m List.mem_cons_self
      rw [List.filter_cons]
      split
      · rw [List.map_cons, List.sum_cons, List.map_cons, List.sum_cons]; omega
      · rw [List.map_cons, List.sum_cons]; omega
  have h1 := hle c fun m hm => (h.ok m hm).2.1
  have h2 := h.left
  unfold leftN at h2
  have h3 := List.length_filter_le (fun m : Mem => m.w) c
  have := h.few
  omega
theorem free_le (h : Poss c) (t : Int) : freeT c t ≤ 60 := by
  have := sum_le_of h fun m => decide (m.d < t)
  unfold freeT
  omega
theorem brC_free (c : List Mem) (t : Int) : freeT c t = slackT c t + (brC c t : Nat) := by
  have h1 := slack_free c t
  have h2 : brD c t = ((brC c t : Nat) : Int) := rfl
  omega
theorem fac_row {f s : Int} {k e : Nat} {v2 v3 v5 v6 v7 : SV} (hs : 0 ≤ s) (hk : s + k ≤ 60) (hf : f.natAbs ≤ 2 ^ e) (he : e + 13 * k ≤ 100000) :
    ∃ v7', exms fb_ways_of_4 ⟨[.d (clubD c), .d (.int f), v2, .d (.int (s + k)), .d (.int s), v5, v6, v7], st⟩ = .nx ⟨[.d (clubD c), .d (.int (f * upP s k)), v2, .d (.int (s + k)), .d (.int s), v5, v6, v7'], st⟩ ∧ (f * upP s k).natAbs ≤ 2 ^ (e + 13 * k) := by
  obtain ⟨s', l1, v7', rfl, h1⟩ := for_lst (t := .nm 7) (body := fun s => exms fb_ways_of_3 s) (n := st.length) (List.range k) (fun i : Nat => D.int (s + 1 + i))
    (fun j t => ∃ v7', t = ⟨[.d (clubD c), .d (.int (f * upP s j)), v2, .d (.int (s + k)), .d (.int s), v5, v6, v7'], st⟩ ∧ (f * upP s j).natAbs ≤ 2 ^ (e + 13 * j))
    ⟨[.d (clubD c), .d (.int f), v2, .d (.int (s + k)), .d (.int s), v5, v6, v7], st⟩ ⟨v7, by rw [upP, Int.mul_one], by rw [upP, Int.mul_one]; exact hf⟩ fun j i t hi hI => by
      obtain ⟨v7', rfl, h1⟩ := hI
      have hj : j < k := by have := (List.getElem?_eq_some_iff.mp hi).1; simpa using this
      rw [List.getElem?_range hj] at hi
      cases hi
      have p13 : (2 : Nat) ^ 13 = 8192 := by decide
      have hb : (s + 1 + j).natAbs ≤ 2 ^ 13 := by omega
      have l1 := log2_mono h1
      have l2 := log2_mono hb
      have hlog : (f * upP s j).natAbs.log2 + (s + 1 + (j : Int)).natAbs.log2 < 1000000 := by omega
      have e1 : f * upP s j * (s + 1 + j) = f * upP s (j + 1) := by
        rw [upP, Int.mul_assoc]
        congr 2
        omega
      refine ⟨_, ⟨[.d (clubD c), .d (.int (f * upP s (j + 1))), v2, .d (.int (s + k)), .d (.int s), v5, v6, .d (.int (s + 1 + j))], st⟩, asg_nm _ _ _, .inl ?_, .d (.int (s + 1 + j)), gc_id rfl, ?_⟩
      · unfold fb_ways_of_3
        simp_arith [hlog, e1]
      · rw [← e1, Int.natAbs_mul, show e + 13 * (j + 1) = (e + 13 * j) + 13 by omega, Nat.pow_add]
        exact Nat.mul_le_mul h1 hb
  rw [List.length_range] at h1
  rw [List.length_range] at l1
  refine ⟨v7', ?_, h1⟩
  have hr : rng2Sem [.int (s + 1), .int (s + k + 1)] = some ((List.range k).map fun i : Nat => D.int (s + 1 + i)) := by
    have q1 : small (s + 1) = true := small_of (by omega)
    have q2 : small (s + k + 1) = true := small_of (by omega)
    show (if small (s + 1) && small (s + k + 1) then some (rangeD (s + 1) (s + k + 1 - (s + 1)).toNat) else none) = _
    rw [q1, q2, show (s + k + 1 - (s + 1)).toNat = k by omega, rangeD_map]
    rfl
  unfold fb_ways_of_4
  simp_arith [hr]
  rw [l1]
  simp_arith [take_id]
theorem div_row {m : Mem} {f g : Int} {v2 v3 v4 v5 v7 : SV} (hm : 0 ≤ m.n ∧ m.n ≤ 60) (hg : 0 ≤ g) (hf : f = g) :
    ∃ v7', exms fb_ways_of_2 ⟨[.d (clubD c), .d (.int f), v2, v3, v4, v5, .d (.int m.n), v7], st⟩ = .nx ⟨[.d (clubD c), .d (.int (g / facM m)), v2, v3, v4, v5, .d (.int m.n), v7'], st⟩ := by
  subst hf
  obtain ⟨n, hn⟩ : ∃ n : Nat, m.n = n := ⟨m.n.toNat, by omega⟩
  have hfac : facM m = fac n := by unfold facM; rw [hn, Int.toNat_natCast]
  obtain ⟨s', l1, v7', rfl⟩ := for_lst (t := .nm 7) (body := fun s => exms fb_ways_of_1 s) (n := st.length) (List.range' 2 (n + 1 - 2)) (fun i : Nat => D.int i)
    (fun j t => ∃ v7', t = ⟨[.d (clubD c), .d (.int (f / fac (j + 1))), v2, v3, v4, v5, .d (.int m.n), v7'], st⟩)
    ⟨[.d (clubD c), .d (.int f), v2, v3, v4, v5, .d (.int m.n), v7], st⟩ ⟨v7, by rw [show fac (0 + 1) = 1 from rfl, Int.ediv_one]⟩ fun j i t hi hI => by
      obtain ⟨v7', rfl⟩ := hI
      obtain ⟨hj, e⟩ := List.getElem?_eq_some_iff.mp hi
      rw [List.getElem_range'] at e
      subst e
      have hj2 : j < n + 1 - 2 := by simpa using hj
      have hpos : (0 : Int) < ((2 + 1 * j : Nat) : Int) := by omega
      have hlog : ((2 + 1 * j : Nat) : Int).natAbs.log2 < 9000 := by
        have p13 : (2 : Nat) ^ 13 = 8192 := by decide
        have := log2_mono (i := ((2 + 1 * j : Nat) : Int)) (k := 13) (by omega)
        omega
      have e1 : f / fac (j + 1) / ((2 + 1 * j : Nat) : Int) = f / fac (j + 1 + 1) := by
        rw [Int.ediv_ediv_of_nonneg (Int.le_of_lt (fac_pos _))]
        congr 1
        rw [show fac (j + 1 + 1) = fac (j + 1) * (((j + 1 : Nat) : Int) + 1) from rfl]
        congr 1
        omega
      refine ⟨_, ⟨[.d (clubD c), .d (.int (f / fac (j + 1 + 1))), v2, v3, v4, v5, .d (.int m.n), .d (.int ((2 + 1 * j : Nat) : Int))], st⟩, asg_nm _ _ _, .inl ?_, .d (.int ((2 + 1 * j : Nat) : Int)), gc_id rfl⟩
      unfold fb_ways_of_1
      simp_arith [hpos, hlog, e1]
  rw [List.length_range'] at l1
  have e2 : fac (n + 1 - 2 + 1) = fac n := by
    rcases Nat.lt_or_ge n 1 with z | z
    · have : n = 0 := by omega
      subst this; rfl
    · rw [show n + 1 - 2 + 1 = n by omega]
  rw [e2] at l1
  refine ⟨v7', ?_⟩
  rw [hfac]
  have hr : rng2Sem [.int 2, .int ((n : Int) + 1)] = some ((List.range' 2 (n + 1 - 2)).map fun i : Nat => D.int i) := by
    have h1 : small (2 : Int) = true := by decide
    have h2 : small ((n : Int) + 1) = true := small_of (by omega)
    have h3 := rangeD_nat (n + 1 - 2) 2
    show (if small (2 : Int) && small ((n : Int) + 1) then some (rangeD 2 ((n : Int) + 1 - 2).toNat) else none) = _
    rw [h1, h2, show ((n : Int) + 1 - 2).toNat = n + 1 - 2 by omega]
    exact congrArg some h3
  unfold fb_ways_of_2
  rw [hn] at l1 ⊢
  simp_arith [hr]
  rw [l1]
  simp_arith [take_id]
theorem mulL_app (a b : List Int) : mulL (a ++ b) = mulL a * mulL b := by
  induction a with
  | nil => rw [List.nil_append, mulL, Int.one_mul]
  | cons x a ih => rw [List.cons_append, mulL, mulL, ih, Int.mul_assoc]
theorem upP_nonneg {s : Int} (h : 0 ≤ s) : ∀ k, 0 ≤ upP s k
  | 0 => by rw [upP]; decide
  | k + 1 => Int.mul_nonneg (upP_nonneg h k) (by omega)
theorem mulL_nonneg : ∀ l : List Int, (∀ x ∈ l, 0 ≤ x) → 0 ≤ mulL l
  | [], _ => by decide
  | a :: l, h => Int.mul_nonneg (h a List.mem_cons_self) (mulL_nonneg l fun x hx => h x (List.mem_cons_of_mem _ hx))
theorem mulL_pos : ∀ l : List Int, (∀ x ∈ l, 0 < x) → 0 < mulL l
  | [], _ => by decide
  | a :: l, h => Int.mul_pos (h a List.mem_cons_self) (mulL_pos l fun x hx => h x (List.mem_cons_of_mem _ hx))
theorem facL_pos (c : List Mem) : 0 < facL c := mulL_pos _ fun x hx => by
  obtain ⟨m, _, rfl⟩ := List.mem_map.mp hx
  exact fac_pos _
theorem ways_of_ok (h : Poss c) : f_ways_of [clubD c] st = .ok (.d (.int ((allW c).length : Nat))) st := by
  have hl := h.few
  have hdl := dayS_len hl
  obtain ⟨k, hk⟩ := sum_wF c
  have hcount := count_all k c hk h.asc h.fine
  have N60 : ∀ m ∈ c, 0 ≤ m.n ∧ m.n ≤ 60 := fun m hm => by
    have h0 := (h.ok m hm).2.1
    have h1 := sum_ge (f := (·.n)) (fun x hx => (h.ok x hx).2.1) hm
    have h2 := sum_le_of h fun _ => true
    rw [List.filter_eq_self.mpr fun _ _ => rfl] at h2
    exact ⟨h0, by omega⟩
  obtain ⟨s1, l1, v2, v3, v4, v7, rfl, _⟩ := for_lst (t := .tp [.nm 2, .nm 3, .nm 4]) (body := fun s => exms fb_ways_of_4 s) (n := st.length) (dayS c) (rowD c)
    (fun j s => ∃ v2 v3 v4 v7, s = ⟨[.d (clubD c), .d (.int (mulL (((dayS c).take j).map fun t => upP (slackT c t) (brC c t)))), v2, v3, v4, .un, .un, v7], st⟩ ∧ (mulL (((dayS c).take j).map fun t => upP (slackT c t) (brC c t))).natAbs ≤ 2 ^ (800 * j))
    ⟨[.d (clubD c), .d (.int 1), .un, .un, .un, .un, .un, .un], st⟩ ⟨_, _, _, _, rfl, by rw [List.take_zero, List.map_nil]; decide⟩ fun j t s ht hI => by
      obtain ⟨v2, v3, v4, v7, rfl, hb⟩ := hI
      have hj := (List.getElem?_eq_some_iff.mp ht).1
      have htm := List.mem_of_getElem? ht
      have hs := h.slack t htm
      have hf := free_le h t
      have hbf := brC_free c t
      obtain ⟨v7', e1, e2⟩ := fac_row (st := st) (c := c) (f := mulL (((dayS c).take j).map fun t => upP (slackT c t) (brC c t))) (s := slackT c t) (k := brC c t) (e := 800 * j) (v2 := .d (.int t)) (v3 := v3) (v5 := .un) (v6 := .un) (v7 := v7) hs (by omega) hb (by omega)
      rw [← hbf] at e1
      have et : (dayS c).take (j + 1) = (dayS c).take j ++ [t] := by rw [List.take_succ, ht]; rfl
      have em : mulL (((dayS c).take (j + 1)).map fun t => upP (slackT c t) (brC c t)) = mulL (((dayS c).take j).map fun t => upP (slackT c t) (brC c t)) * upP (slackT c t) (brC c t) := by
        rw [et, List.map_append, mulL_app]
        simp [mulL]
      refine ⟨_, _, rfl, .inl e1, .d (.int t), .d (.int (freeT c t)), .d (.int (slackT c t)), v7', ?_, ?_⟩
      · rw [em]; exact gc_id rfl
      · rw [em]
        exact Nat.le_trans e2 (Nat.pow_le_pow_right (by decide) (by omega))
  rw [List.take_length] at l1
  have hq0 : 0 ≤ Qd c := mulL_nonneg _ fun x hx => by
    obtain ⟨t, ht, rfl⟩ := List.mem_map.mp hx
    exact upP_nonneg (h.slack t ht) _
  have K2 := for_lst (t := .tp [.nm 2, .nm 5, .nm 6]) (body := fun s => exms fb_ways_of_2 s) (n := st.length) c Mem.D
    (fun j s => ∃ v2 v5 v6 v7, s = ⟨[.d (clubD c), .d (.int (Qd c / facL (c.take j))), v2, v3, v4, v5, v6, v7], st⟩)
    ⟨[.d (clubD c), .d (.int (Qd c)), v2, v3, v4, .un, .un, v7], st⟩ ⟨v2, .un, .un, v7, by rw [show facL (c.take 0) = 1 from rfl, Int.ediv_one]⟩ fun j m s hm hI => by
      obtain ⟨v2, v5, v6, v7, rfl⟩ := hI
      have hmc := List.mem_of_getElem? hm
      obtain ⟨v7', e1⟩ := div_row (st := st) (c := c) (m := m) (f := Qd c / facL (c.take j)) (g := Qd c / facL (c.take j)) (v2 := .d (.int m.d)) (v3 := v3) (v4 := v4) (v5 := .d (.str (wd m.w))) (v7 := v7) (N60 m hmc) (Int.ediv_nonneg hq0 (Int.le_of_lt (facL_pos _))) rfl
      have et : c.take (j + 1) = c.take j ++ [m] := by rw [List.take_succ, hm]; rfl
      have em : Qd c / facL (c.take j) / facM m = Qd c / facL (c.take (j + 1)) := by
        rw [Int.ediv_ediv_of_nonneg (Int.le_of_lt (facL_pos _))]
        congr 1
        rw [et]
        unfold facL
        rw [List.map_append, mulL_app]
        simp [mulL]
      rw [em] at e1
      exact ⟨_, _, rfl, .inl e1, .d (.int m.d), .d (.str (wd m.w)), .d (.int m.n), v7', gc_id rfl⟩
  obtain ⟨s2, l2, v2', v5, v6, v7', rfl⟩ := K2
  rw [List.take_length] at l2
  have efin : Qd c / facL c = ((allW c).length : Nat) := by
    rw [← hcount]
    exact Int.mul_ediv_cancel _ (Int.ne_of_gt (facL_pos c))
  rw [efin] at l2
  have e1 := table_ok (st := st) hl
  unfold Qd at l2
  unfold clubD at l1 l2 e1
  unfold f_ways_of
  simp_arith [b_ways_of, clubD, e1]
  rw [l1]
  simp_arith [take_id]
  rw [l2]
  simp_arith [take_id]
end

end G4

namespace G4
open PySem PySem.Spec PyProof.Rows L2
local macro_rules
  | `(tactic| simp_arith [$as,*]) => `(tactic| simp -implicitDefEqProofs only [tl_table_of_1, tl_table_of_2, tl_table_of_3, tl_ways_of_1, tl_ways_of_2, tl__law_toss_1, tl__law_toss_2, tl__law_toss_3, tl__law_made_1, tl__law_made_2, tl__law_made_3, tl__law_made_4, tl__law_made_5, tl__law_made_6, tl__law_made_7, tl__law_made_8, tl__law_bent_1, tl__law_bent_2, tl__law_bent_3, tl__law_bent_4, tl__law_right_1, tl__law_right_2, tl_law_1, tl_law_2, tl_law_3, tl_law_4, tl_law_5, tl_law_6, ↓bnd_eq, ↓off_eq, ↓thn_eq, run_eq, fin_nx, fin_rt, fin_ex, S.hide, hideSl, exms, exm, ev, evT, evs, evOs, evo, evc, evSrc, evPar, hb_ok, hb_ex, ho_ok, ho_ex, ht_nx, ht_rt, ht_ex, tb_nx, tb_rt, tb_ex, hd_setB, hd_setT, hd_retT, D.flat, opd_d, opd_pl, opd_lst, opd_ex, val_d, val_lst, List.append_assoc, List.length_set, gc_push, gc_id, take_push, take_id, get_app0, get_app1, get_app2, isNew0, isNew1, isNew_int, isNew_str, isNew_bl, isNew_non, isNew_tup, isNew_lst, keep_un, keep_int, keep_bl, keep_non, keep_str, keep_scr, keep_obj, keep_own_lst, keep_own_dK, pureK_nil, keep_lst, keep_tup, D.unders, ne_succ, ne_succ1, eq_self, nodup2, nodup3, List.filterMap_cons, List.filterMap_nil, putPar, D.under, List.nodup_cons, List.mem_cons, List.not_mem_nil, or_self, or_false, Nat.reduceEqDiff, List.nodup_nil, true_and, and_true, bits10, Int.reduceMul, Int.reduceLE, Int.reduceLT, Int.reducePow, Int.reduceAdd, Int.reduceSub, Int.reduceNeg, Int.reduceToNat, val_dK, putTs_nil, putTs_nm, putTs_sub, val_ex, val_pl, valPl_lst, valPl_d, opt_some, toO_ok, toO_ex, asBl_ok, List.map_cons, List.map_nil, List.length_cons, List.length_nil, Nat.reduceAdd, Nat.reduceSub, Nat.zero_add, List.replicate, List.cons_append, List.nil_append, List.getElem?_cons_zero, List.getElem?_cons_succ, List.set_cons_zero, List.set_cons_succ, S.rd, S.rdD, S.store, OS.opt, Option.bind_some, Option.map_some, Cell.view, S.cell, S.isLst, S.isDct, S.rdDct, dgetV, dixV, augV, S.put, S.rdLst, cmpV, opCmp, opEq_str, opEq_int, opEq_bl, opEq_non, opEq_lst, opEq_tup, pures_app, eqv_int, eqv_bl, eqv_lst, eqv_tup, eqvs_nil, eqvs_ints, eqvs_cons, eqv_str, opIn_ints, unders_ints, set_app0, set_app1, binV, opBin, ixV, opIx, biV, biSem, biLen, biInt, biAbs, biMax2, biMin2, biSum, biAll, biAny, biList, biTuple, List.mapM_cons, List.mapM_nil, bind, pure, Option.bind, truV, D.tru, isiV, D.kind, Ty.sub, List.any_cons, List.any_nil, decide_true, decide_false, Int.cast_ofNat_Int, beq_self_eq_true, Bool.false_and, Bool.true_or, Bool.false_or, Bool.or_false, Bool.and_true, Bool.true_and, Bool.and_self, if_true, if_false, Bool.false_eq_true, reduceCtorEq, Bool.not_true, Bool.not_false, finish, D.pure, D.pures, Cell.pure, List.take_length, and_self, not_true_eq_false, not_false_eq_true, plain_int', plain_lst, plain_tup, plain_non, plain_bl, D.plainsN, pures_ints, plain_ints, List.length_map, List.length_append, at1, at2, at3, at4, at5, muV, muSem, muApp, setIx, S.fz, perm, List.getD_cons_zero, List.getD_cons_succ, $as,*])
/-! ### known.py -/
section
variable {st : List Cell} {c : List Mem}
theorem obD_upd (f : List (Option Nat)) (m b : Nat) : (f.map obD).set m (.int b) = (f.set m (some b)).map obD := by
  rw [List.map_set]; rfl
theorem brN_head {m : Nat} {ms : List Nat} (h : brN c = m :: ms) : m < c.length ∧ (mAt c m).w = true ∧ ∀ i, i < m → (mAt c i).w = false := by
  have hm : m ∈ brN c := by rw [h]; exact List.mem_cons_self
  unfold brN at hm
  obtain ⟨h1, h2⟩ := List.mem_filter.mp hm
  refine ⟨List.mem_range.mp h1, h2, fun i hi => ?_⟩
  cases q : (mAt c i).w with
  | false => rfl
  | true =>
    have hi2 : i ∈ brN c := List.mem_filter.mpr ⟨List.mem_range.mpr (by have := List.mem_range.mp h1; omega), q⟩
    have hs : (brN c).Pairwise (· < ·) := pw_range _ _
    rw [h] at hi2 hs
    rcases List.mem_cons.mp hi2 with rfl | hi2
    · omega
    · have := (List.pairwise_cons.mp hs).1 i hi2; omega
theorem rep_none (n : Nat) : repD n [D.non] = (List.replicate n (none : Option Nat)).map obD := by
  unfold repD
  induction n with
  | zero => rfl
  | succ n ih =>
    rw [List.replicate_succ, List.flatten_cons, ih]
    rfl
theorem asg_pairK (x5 x6 : Nat) (r : Nat × Nat) (s : S) : T.asg (.tp [.nm x5, .nm x6]) (pairD r) s = some ⟨(s.sl.set x5 (.d (.int r.1))).set x6 (.d (.int r.2)), s.st⟩ := by
  simp only [pairD, asg_tp, List.length_cons, List.length_nil, if_true, asgs_cons, asg_nm, Option.bind_some, asgs_nil]
/-- the first way with the links -/
def wayK (c : List Mem) (L : List (Nat × Nat)) : List (Option Nat) := fullW (leastS (brN (restC c L)) (restC c L) (List.replicate c.length none)) L
theorem leastS_len : ∀ (ms : List Nat) (c : List Mem) (f : List (Option Nat)), (leastS ms c f).length = f.length
  | [], _, _ => rfl
  | m :: ms, c, f => by rw [leastS, leastS_len ms, List.length_set]
end

end G4

namespace G4
open PySem PySem.Spec PyProof.Rows L2
local macro_rules
  | `(tactic| simp_arith [$as,*]) => `(tactic| simp -implicitDefEqProofs only [tl_table_of_1, tl_table_of_2, tl_table_of_3, tl_ways_of_1, tl_ways_of_2, tl__law_toss_1, tl__law_toss_2, tl__law_toss_3, tl__law_made_1, tl__law_made_2, tl__law_made_3, tl__law_made_4, tl__law_made_5, tl__law_made_6, tl__law_made_7, tl__law_made_8, tl__law_bent_1, tl__law_bent_2, tl__law_bent_3, tl__law_bent_4, tl__law_right_1, tl__law_right_2, tl_law_1, tl_law_2, tl_law_3, tl_law_4, tl_law_5, tl_law_6, ↓bnd_eq, ↓off_eq, ↓thn_eq, run_eq, fin_nx, fin_rt, fin_ex, S.hide, hideSl, exms, exm, ev, evT, evs, evOs, evo, evc, evSrc, evPar, hb_ok, hb_ex, ho_ok, ho_ex, ht_nx, ht_rt, ht_ex, tb_nx, tb_rt, tb_ex, hd_setB, hd_setT, hd_retT, D.flat, opd_d, opd_pl, opd_lst, opd_ex, val_d, val_lst, List.append_assoc, List.length_set, gc_push, gc_id, take_push, take_id, get_app0, get_app1, get_app2, isNew0, isNew1, isNew_int, isNew_str, isNew_bl, isNew_non, isNew_tup, isNew_lst, keep_un, keep_int, keep_bl, keep_non, keep_str, keep_scr, keep_obj, keep_own_lst, keep_own_dK, pureK_nil, keep_lst, keep_tup, D.unders, ne_succ, ne_succ1, eq_self, nodup2, nodup3, List.filterMap_cons, List.filterMap_nil, putPar, D.under, List.nodup_cons, List.mem_cons, List.not_mem_nil, or_self, or_false, Nat.reduceEqDiff, List.nodup_nil, true_and, and_true, bits10, Int.reduceMul, Int.reduceLE, Int.reduceLT, Int.reducePow, Int.reduceAdd, Int.reduceSub, Int.reduceNeg, Int.reduceToNat, val_dK, putTs_nil, putTs_nm, putTs_sub, val_ex, val_pl, valPl_lst, valPl_d, opt_some, toO_ok, toO_ex, asBl_ok, List.map_cons, List.map_nil, List.length_cons, List.length_nil, Nat.reduceAdd, Nat.reduceSub, Nat.zero_add, List.replicate, List.cons_append, List.nil_append, List.getElem?_cons_zero, List.getElem?_cons_succ, List.set_cons_zero, List.set_cons_succ, S.rd, S.rdD, S.store, OS.opt, Option.bind_some, Option.map_some, Cell.view, S.cell, S.isLst, S.isDct, S.rdDct, dgetV, dixV, augV, S.put, S.rdLst, cmpV, opCmp, opEq_str, opEq_int, opEq_bl, opEq_non, opEq_lst, opEq_tup, pures_app, eqv_int, eqv_bl, eqv_lst, eqv_tup, eqvs_nil, eqvs_ints, eqvs_cons, eqv_str, opIn_ints, unders_ints, set_app0, set_app1, binV, opBin, ixV, opIx, biV, biSem, biLen, biInt, biAbs, biMax2, biMin2, biSum, biAll, biAny, biList, biTuple, List.mapM_cons, List.mapM_nil, bind, pure, Option.bind, truV, D.tru, isiV, D.kind, Ty.sub, List.any_cons, List.any_nil, decide_true, decide_false, Int.cast_ofNat_Int, beq_self_eq_true, Bool.false_and, Bool.true_or, Bool.false_or, Bool.or_false, Bool.and_true, Bool.true_and, Bool.and_self, if_true, if_false, Bool.false_eq_true, reduceCtorEq, Bool.not_true, Bool.not_false, finish, D.pure, D.pures, Cell.pure, List.take_length, and_self, not_true_eq_false, not_false_eq_true, plain_int', plain_lst, plain_tup, plain_non, plain_bl, D.plainsN, pures_ints, plain_ints, List.length_map, List.length_append, at1, at2, at3, at4, at5, muV, muSem, muApp, setIx, S.fz, perm, List.getD_cons_zero, List.getD_cons_succ, $as,*])
/-! ### papers of known links -/
/-- a loop that returns at the first item that does not fulfil p -/
theorem for_first {α : Type} {t : T} {body : S → OS} {n : Nat} (h : α → D) (p : Nat → α → Bool) (I : Nat → S → Prop) (v : Nat → α → R) (J : S → Prop) : ∀ (l : List α) (j : Nat) (s : S), I j s →
    (∀ (i : Nat) (a : α) (s : S), l[i]? = some a → I (j + i) s → ∃ s1, T.asg t (h a) s = some s1 ∧ ((p (j + i) a = true ∧ ∃ s2, body s1 = .nx s2 ∧ I (j + i + 1) (s2.gc n)) ∨ (p (j + i) a = false ∧ ∃ s2, body s1 = .rt (v (j + i) a) s2 ∧ J s2))) →
    ((∀ (i : Nat) (a : α), l[i]? = some a → p (j + i) a = true) ∧ ∃ s', forLoop (fun x s => T.asg t x s) body n (l.map h) s = .nx s' ∧ I (j + l.length) s') ∨
    (∃ (i : Nat) (a : α) (s' : S), l[i]? = some a ∧ p (j + i) a = false ∧ (∀ (k : Nat) (b : α), k < i → l[k]? = some b → p (j + k) b = true) ∧ forLoop (fun x s => T.asg t x s) body n (l.map h) s = .rt (v (j + i) a) s' ∧ J s')
  | [], j, s, h0, _ => .inl ⟨fun i a e => by simp at e, s, rfl, h0⟩
  | a :: l, j, s, h0, k => by
    obtain ⟨s1, g1, g2⟩ := k 0 a s rfl h0
    rw [Nat.add_zero] at g2
    rcases g2 with ⟨q1, s2, q2, q3⟩ | ⟨q1, s2, q2, q3⟩
    · have ih := for_first h p I v J l (j + 1) (s2.gc n) q3 fun i b s hb hI => by
        have := k (i + 1) b s (by simpa using hb) (by rw [show j + (i + 1) = j + 1 + i by omega]; exact hI)
        rw [show j + (i + 1) = j + 1 + i by omega] at this
        exact this
      rcases ih with ⟨r1, s', r2, r3⟩ | ⟨i, b, s', r1, r2, r3, r4, r5⟩
      · refine .inl ⟨fun i b e => ?_, s', ?_, by rw [List.length_cons, show j + (l.length + 1) = j + 1 + l.length by omega]; exact r3⟩
        · cases i with
          | zero => simp at e; subst e; exact q1
          | succ i => rw [show j + (i + 1) = j + 1 + i by omega]; exact r1 i b (by simpa using e)
        · rw [List.map_cons, forLoop, g1]
          simp only [q2]; exact r2
      · refine .inr ⟨i + 1, b, s', by simpa using r1, by rw [show j + (i + 1) = j + 1 + i by omega]; exact r2, fun k' b' hk e => ?_, ?_, r5⟩
        · cases k' with
          | zero => simp at e; subst e; exact q1
          | succ k' => rw [show j + (k' + 1) = j + 1 + k' by omega]; exact r3 k' b' (by omega) (by simpa using e)
        · rw [List.map_cons, forLoop, g1]
          simp only [q2]
          rw [show j + (i + 1) = j + 1 + i by omega]; exact r4
    · exact .inr ⟨0, a, s2, rfl, q1, fun k' b' hk _ => absurd hk (by omega), by rw [List.map_cons, forLoop, g1]; simp only [q2]; rfl, q3⟩
section
variable {st : List Cell} {c : List Mem}
theorem cnt_ints (l : List Nat) (i : Nat) : ((l.map fun n : Nat => D.int n).countP fun y => D.eqv y (.int i)) = l.count i := by
  rw [List.countP_map, List.count_eq_countP]
  refine List.countP_congr fun a _ => ?_
  show D.eqv (.int a) (.int i) = true ↔ _
  rw [eqv_int]
  simp
  omega
theorem flat_nats (l : List Nat) : (l.map fun n : Nat => D.int n).all D.flat = true := by
  rw [List.all_eq_true]
  intro d hd
  obtain ⟨n, _, rfl⟩ := List.mem_map.mp hd
  rfl
/-- what the paper says -/
def PaperOk (c : List Mem) (L : List (Nat × Nat)) (P : D) : Prop :=
  (HoldB c L ∧ P = .non) ∨
  (∃ i, i < c.length ∧ (mAt c i).n < ((L.map (·.1)).count i : Nat) ∧ (∀ k, k < i → ((L.map (·.1)).count k : Nat) ≤ (mAt c k).n) ∧ P = .tup [.str "many", .int i]) ∨
  ((∀ i, i < c.length → ((L.map (·.1)).count i : Nat) ≤ (mAt c i).n) ∧ ∃ (j : Nat) (t : Int), (dayS c)[j]? = some t ∧ slackT c t < (spanN c L t : Nat) ∧ (∀ (k : Nat) (u : Int), k < j → (dayS c)[k]? = some u → (spanN c L u : Nat) ≤ slackT c u) ∧ P = .tup [.str "day", .int t])
theorem PaperOk.shape {L : List (Nat × Nat)} {P : D} (h : PaperOk c L P) : P = .non ∨ ∃ l, P = .tup l := by
  rcases h with ⟨_, h⟩ | ⟨_, _, _, _, h⟩ | ⟨_, _, _, _, _, _, h⟩
  · exact .inl h
  · exact .inr ⟨_, h⟩
  · exact .inr ⟨_, h⟩
theorem PaperOk.iff {L : List (Nat × Nat)} {P : D} (h : PaperOk c L P) : P.isNon = true ↔ HoldB c L := by
  rcases h with ⟨h1, rfl⟩ | ⟨i, h1, h2, _, rfl⟩ | ⟨_, j, t, h1, h2, _, rfl⟩
  · exact ⟨fun _ => h1, fun _ => rfl⟩
  · exact ⟨fun z => (by cases z), fun z => by have := z.1 i h1; omega⟩
  · exact ⟨fun z => (by cases z), fun z => by have := z.2 t (List.mem_of_getElem? h1); omega⟩
def spanD (c : List Mem) (x : Nat × Nat) : D := .tup [.int (mAt c x.1).d, .int (mAt c x.2).d]
theorem asg_span (x5 x6 : Nat) (x : Nat × Nat) (s : S) : T.asg (.tp [.nm x5, .nm x6]) (spanD c x) s = some ⟨(s.sl.set x5 (.d (.int (mAt c x.1).d))).set x6 (.d (.int (mAt c x.2).d)), s.st⟩ := by
  simp only [spanD, asg_tp, List.length_cons, List.length_nil, if_true, asgs_cons, asg_nm, Option.bind_some, asgs_nil]
theorem asg_enum (x5 x6 : Nat) (i : Nat) (m : Mem) (s : S) : T.asg (.tp [.nm x5, .nm x6]) (.tup [.int i, m.D]) s = some ⟨(s.sl.set x5 (.d (.int i))).set x6 (.d m.D), s.st⟩ := by
  simp only [asg_tp, List.length_cons, List.length_nil, if_true, asgs_cons, asg_nm, Option.bind_some, asgs_nil]
theorem asg_rowT (x5 x6 x7 : Nat) (t : Int) (s : S) : T.asg (.tp [.nm x5, .nm x6, .nm x7]) (rowD c t) s = some ⟨((s.sl.set x5 (.d (.int t))).set x6 (.d (.int (freeT c t)))).set x7 (.d (.int (slackT c t))), s.st⟩ := by
  simp only [rowD, asg_tp, List.length_cons, List.length_nil, if_true, asgs_cons, asg_nm, Option.bind_some, asgs_nil]
end

end G4

namespace G4
open PySem PySem.Spec PyProof.Rows L2
local macro_rules
  | `(tactic| simp_arith [$as,*]) => `(tactic| simp -implicitDefEqProofs only [tl_table_of_1, tl_table_of_2, tl_table_of_3, tl_ways_of_1, tl_ways_of_2, tl__law_toss_1, tl__law_toss_2, tl__law_toss_3, tl__law_made_1, tl__law_made_2, tl__law_made_3, tl__law_made_4, tl__law_made_5, tl__law_made_6, tl__law_made_7, tl__law_made_8, tl__law_bent_1, tl__law_bent_2, tl__law_bent_3, tl__law_bent_4, tl__law_right_1, tl__law_right_2, tl_law_1, tl_law_2, tl_law_3, tl_law_4, tl_law_5, tl_law_6, ↓bnd_eq, ↓off_eq, ↓thn_eq, run_eq, fin_nx, fin_rt, fin_ex, S.hide, hideSl, exms, exm, ev, evT, evs, evOs, evo, evc, evSrc, evPar, hb_ok, hb_ex, ho_ok, ho_ex, ht_nx, ht_rt, ht_ex, tb_nx, tb_rt, tb_ex, hd_setB, hd_setT, hd_retT, D.flat, opd_d, opd_pl, opd_lst, opd_ex, val_d, val_lst, List.append_assoc, List.length_set, gc_push, gc_id, take_push, take_id, get_app0, get_app1, get_app2, isNew0, isNew1, isNew_int, isNew_str, isNew_bl, isNew_non, isNew_tup, isNew_lst, keep_un, keep_int, keep_bl, keep_non, keep_str, keep_scr, keep_obj, keep_own_lst, keep_own_dK, pureK_nil, keep_lst, keep_tup, D.unders, ne_succ, ne_succ1, eq_self, nodup2, nodup3, List.filterMap_cons, List.filterMap_nil, putPar, D.under, List.nodup_cons, List.mem_cons, List.not_mem_nil, or_self, or_false, Nat.reduceEqDiff, List.nodup_nil, true_and, and_true, bits10, Int.reduceMul, Int.reduceLE, Int.reduceLT, Int.reducePow, Int.reduceAdd, Int.reduceSub, Int.reduceNeg, Int.reduceToNat, val_dK, putTs_nil, putTs_nm, putTs_sub, val_ex, val_pl, valPl_lst, valPl_d, opt_some, toO_ok, toO_ex, asBl_ok, List.map_cons, List.map_nil, List.length_cons, List.length_nil, Nat.reduceAdd, Nat.reduceSub, Nat.zero_add, List.replicate, List.cons_append, List.nil_append, List.getElem?_cons_zero, List.getElem?_cons_succ, List.set_cons_zero, List.set_cons_succ, S.rd, S.rdD, S.store, OS.opt, Option.bind_some, Option.map_some, Cell.view, S.cell, S.isLst, S.isDct, S.rdDct, dgetV, dixV, augV, S.put, S.rdLst, cmpV, opCmp, opEq_str, opEq_int, opEq_bl, opEq_non, opEq_lst, opEq_tup, pures_app, eqv_int, eqv_bl, eqv_lst, eqv_tup, eqvs_nil, eqvs_ints, eqvs_cons, eqv_str, opIn_ints, unders_ints, set_app0, set_app1, binV, opBin, ixV, opIx, biV, biSem, biLen, biInt, biAbs, biMax2, biMin2, biSum, biAll, biAny, biList, biTuple, List.mapM_cons, List.mapM_nil, bind, pure, Option.bind, truV, D.tru, isiV, D.kind, Ty.sub, List.any_cons, List.any_nil, decide_true, decide_false, Int.cast_ofNat_Int, beq_self_eq_true, Bool.false_and, Bool.true_or, Bool.false_or, Bool.or_false, Bool.and_true, Bool.true_and, Bool.and_self, if_true, if_false, Bool.false_eq_true, reduceCtorEq, Bool.not_true, Bool.not_false, finish, D.pure, D.pures, Cell.pure, List.take_length, and_self, not_true_eq_false, not_false_eq_true, plain_int', plain_lst, plain_tup, plain_non, plain_bl, D.plainsN, pures_ints, plain_ints, List.length_map, List.length_append, at1, at2, at3, at4, at5, muV, muSem, muApp, setIx, S.fz, perm, List.getD_cons_zero, List.getD_cons_succ, $as,*])
/-! ### the product that the law reckons, and clubs of few ways -/
theorem log2_le {i : Int} {k : Nat} (h : i.natAbs ≤ 2 ^ k) : i.natAbs.log2 ≤ k := by
  by_cases z : i.natAbs = 0
  · rw [z]; exact Nat.zero_le _
  · have : i.natAbs.log2 < k + 1 := (Nat.log2_lt z).mpr (by rw [Nat.pow_succ]; have := Nat.pos_of_ne_zero z; omega)
    omega
theorem abs_mul_le {a b : Int} {k j : Nat} (h1 : a.natAbs ≤ 2 ^ k) (h2 : b.natAbs ≤ 2 ^ j) : (a * b).natAbs ≤ 2 ^ (k + j) := by
  rw [Int.natAbs_mul, Nat.pow_add]
  exact Nat.mul_le_mul h1 h2
theorem abs_div_le {a b : Int} {k : Nat} (h1 : a.natAbs ≤ 2 ^ k) : (a / b).natAbs ≤ 2 ^ k := by
  refine Nat.le_trans ?_ h1
  exact Int.natAbs_ediv_le_natAbs a b
theorem bound12 {a : Int} {k : Nat} (h : a.natAbs ≤ k) (hk : k ≤ 8000) : a.natAbs ≤ 2 ^ 13 := by
  have : (2 : Nat) ^ 13 = 8192 := by decide
  omega
theorem mul_ok {a b : Int} {k : Nat} (h1 : a.natAbs ≤ 2 ^ k) (h2 : b.natAbs ≤ 2 ^ 13) (hk : k ≤ 10000) : a.natAbs.log2 + b.natAbs.log2 < 1000000 := by
  have := log2_le h1
  have := log2_le h2
  omega
section
variable {st : List Cell} {c : List Mem}
theorem rng2_nat {a b : Nat} (ha : a ≤ 100000) (hb : b ≤ 100000) : rng2Sem [.int (a : Int), .int (b : Int)] = some ((List.range' a (b - a)).map fun i : Nat => D.int i) := by
  have h1 : small (a : Int) = true := small_of (by omega)
  have h2 : small (b : Int) = true := small_of (by omega)
  show (if small (a : Int) && small (b : Int) then some (rangeD (a : Int) ((b : Int) - (a : Int)).toNat) else none) = _
  rw [h1, h2, show ((b : Int) - (a : Int)).toNat = b - a by omega, rangeD_nat]
  rfl
end

end G4

namespace G4
open PySem PySem.Spec PyProof.Rows L2
local macro_rules
  | `(tactic| simp_arith [$as,*]) => `(tactic| simp -implicitDefEqProofs only [tl_table_of_1, tl_table_of_2, tl_table_of_3, tl_ways_of_1, tl_ways_of_2, tl__law_toss_1, tl__law_toss_2, tl__law_toss_3, tl__law_made_1, tl__law_made_2, tl__law_made_3, tl__law_made_4, tl__law_made_5, tl__law_made_6, tl__law_made_7, tl__law_made_8, tl__law_bent_1, tl__law_bent_2, tl__law_bent_3, tl__law_bent_4, tl__law_right_1, tl__law_right_2, tl_law_1, tl_law_2, tl_law_3, tl_law_4, tl_law_5, tl_law_6, ↓bnd_eq, ↓off_eq, ↓thn_eq, run_eq, fin_nx, fin_rt, fin_ex, S.hide, hideSl, exms, exm, ev, evT, evs, evOs, evo, evc, evSrc, evPar, hb_ok, hb_ex, ho_ok, ho_ex, ht_nx, ht_rt, ht_ex, tb_nx, tb_rt, tb_ex, hd_setB, hd_setT, hd_retT, D.flat, opd_d, opd_pl, opd_lst, opd_ex, val_d, val_lst, List.append_assoc, List.length_set, gc_push, gc_id, take_push, take_id, get_app0, get_app1, get_app2, isNew0, isNew1, isNew_int, isNew_str, isNew_bl, isNew_non, isNew_tup, isNew_lst, keep_un, keep_int, keep_bl, keep_non, keep_str, keep_scr, keep_obj, keep_own_lst, keep_own_dK, pureK_nil, keep_lst, keep_tup, D.unders, ne_succ, ne_succ1, eq_self, nodup2, nodup3, List.filterMap_cons, List.filterMap_nil, putPar, D.under, List.nodup_cons, List.mem_cons, List.not_mem_nil, or_self, or_false, Nat.reduceEqDiff, List.nodup_nil, true_and, and_true, bits10, Int.reduceMul, Int.reduceLE, Int.reduceLT, Int.reducePow, Int.reduceAdd, Int.reduceSub, Int.reduceNeg, Int.reduceToNat, val_dK, putTs_nil, putTs_nm, putTs_sub, val_ex, val_pl, valPl_lst, valPl_d, opt_some, toO_ok, toO_ex, asBl_ok, List.map_cons, List.map_nil, List.length_cons, List.length_nil, Nat.reduceAdd, Nat.reduceSub, Nat.zero_add, List.replicate, List.cons_append, List.nil_append, List.getElem?_cons_zero, List.getElem?_cons_succ, List.set_cons_zero, List.set_cons_succ, S.rd, S.rdD, S.store, OS.opt, Option.bind_some, Option.map_some, Cell.view, S.cell, S.isLst, S.isDct, S.rdDct, dgetV, dixV, augV, S.put, S.rdLst, cmpV, opCmp, opEq_str, opEq_int, opEq_bl, opEq_non, opEq_lst, opEq_tup, pures_app, eqv_int, eqv_bl, eqv_lst, eqv_tup, eqvs_nil, eqvs_ints, eqvs_cons, eqv_str, opIn_ints, unders_ints, set_app0, set_app1, binV, opBin, ixV, opIx, biV, biSem, biLen, biInt, biAbs, biMax2, biMin2, biSum, biAll, biAny, biList, biTuple, List.mapM_cons, List.mapM_nil, bind, pure, Option.bind, truV, D.tru, isiV, D.kind, Ty.sub, List.any_cons, List.any_nil, decide_true, decide_false, Int.cast_ofNat_Int, beq_self_eq_true, Bool.false_and, Bool.true_or, Bool.false_or, Bool.or_false, Bool.and_true, Bool.true_and, Bool.and_self, if_true, if_false, Bool.false_eq_true, reduceCtorEq, Bool.not_true, Bool.not_false, finish, D.pure, D.pures, Cell.pure, List.take_length, and_self, not_true_eq_false, not_false_eq_true, plain_int', plain_lst, plain_tup, plain_non, plain_bl, D.plainsN, pures_ints, plain_ints, List.length_map, List.length_append, at1, at2, at3, at4, at5, muV, muSem, muApp, setIx, S.fz, perm, List.getD_cons_zero, List.getD_cons_succ, $as,*])
/-! ### clubs of few ways: the last member taken away -/
theorem atI_last {α : Type} {l : List α} {x : α} (h : l.getLast? = some x) : atI l (-1) = some x := by
  obtain ⟨r, rfl⟩ : ∃ r, l = r ++ [x] := List.getLast?_eq_some_iff.mp h
  have hi : ixN (r ++ [x]).length (-1) = some r.length := by
    unfold ixN
    rw [List.length_append, List.length_singleton, if_neg (by omega), if_pos (by omega)]
    congr 1
    omega
  unfold atI
  rw [hi]
  simp
theorem cut_init {α : Type} (l : List α) : cut l none (some (-1)) = l.dropLast := by
  unfold cut
  rw [HT.sIx_none]
  cases l with
  | nil => rfl
  | cons a l =>
    have e : HT.sIx (a :: l).length (a :: l).length (some (-1)) = l.length := by
      unfold HT.sIx
      simp
      omega
    rw [e, List.drop_zero, Nat.sub_zero, List.dropLast_eq_take]
    rfl
theorem club_setF {c : List Mem} (h : Club c) {i : Nat} {m m' : Mem} (hm : c[i]? = some m) (hd : m'.d = m.d) (ho : m'.ok) : Club (c.set i m') := by
  refine ⟨fun e => h.some (by simpa using e), by rw [List.length_set]; exact h.few, fun x hx => ?_, ?_⟩
  · rcases List.mem_or_eq_of_mem_set hx with hx | rfl
    · exact h.ok x hx
    · exact ho
  · have e : (c.set i m').map (·.d) = c.map (·.d) := by
      rw [List.map_set, hd]
      apply List.ext_getElem?
      intro k
      by_cases hk : i = k
      · subst hk
        have hi := (List.getElem?_eq_some_iff.mp hm).1
        rw [List.getElem?_set_self (by simpa using hi), List.getElem?_map, hm]; rfl
      · rw [List.getElem?_set_ne hk]
    have k : (c.map (·.d)).Pairwise (· ≤ ·) := List.pairwise_map.mpr h.asc
    rw [← e] at k
    exact List.pairwise_map.mp k
/-- who brought nobody and came alone is taken away from the end -/
theorem drop_way {c : List Mem} {w : List (Option Nat)} (hA : Asc c) (h : IsWay c w) (hl : w.getLast? = some none) : IsWay c.dropLast w.dropLast := by
  obtain ⟨v, rfl⟩ : ∃ v, w = v ++ [none] := List.getLast?_eq_some_iff.mp hl
  have hlen : v.length + 1 = c.length := by have := h.len; simpa using this
  rw [List.dropLast_concat]
  have get : ∀ {i : Nat}, i < v.length → c.dropLast[i]? = c[i]? := fun {i} hi => by
    rw [List.dropLast_eq_take, List.getElem?_take_of_lt (by omega)]
  have getv : ∀ {i : Nat} {o : Option Nat}, v[i]? = some o → (v ++ [none])[i]? = some o ∧ i < v.length := fun {i o} e => by
    have hi := (List.getElem?_eq_some_iff.mp e).1
    exact ⟨by rw [List.getElem?_append_left hi]; exact e, hi⟩
  have lt_of : ∀ {i : Nat} {x : Mem}, c.dropLast[i]? = some x → i < v.length ∧ c[i]? = some x := fun {i x} e => by
    have hi := (List.getElem?_eq_some_iff.mp e).1
    rw [List.length_dropLast] at hi
    exact ⟨by omega, by rw [← get (by omega)]; exact e⟩
  refine ⟨by rw [List.length_dropLast]; omega, fun i b q => ?_, fun i x o hx ho => ?_, fun i x hx => ?_⟩
  · obtain ⟨q1, q2⟩ := getv q
    obtain ⟨x, y, h1, h2, h3⟩ := h.br i b q1
    have hb : b < i := asc_lt hA (List.getElem?_eq_some_iff.mp h1).1 (List.getElem?_eq_some_iff.mp h2).1 (by rw [mAt_some h1, mAt_some h2]; exact h3)
    exact ⟨x, y, by rw [get (by omega)]; exact h1, by rw [get q2]; exact h2, h3⟩
  · exact h.mem i x o (lt_of hx).2 (getv ho).1
  · rw [h.cnt i x (lt_of hx).2, List.count_append]
    simp
theorem drop_club {c : List Mem} (h : Club c) (h2 : 2 ≤ c.length) : Club c.dropLast := by
  have sub : c.dropLast.Sublist c := List.dropLast_sublist c
  refine ⟨fun e => ?_, by rw [List.length_dropLast]; have := h.few; omega, fun m hm => h.ok m (sub.subset hm), List.Pairwise.sublist sub h.asc⟩
  have := congrArg List.length e
  rw [List.length_dropLast] at this
  simp at this; omega
/-- the club whose last member's bringer has one less -/
def lessC (c : List Mem) : Option Nat → List Mem
  | none => c
  | some b => c.set b ⟨(mAt c b).d, (mAt c b).w, (mAt c b).n - 1⟩
theorem less_way {c : List Mem} {w : List (Option Nat)} {o : Option Nat} (hc : Club c) (h : IsWay c w) (hl : w.getLast? = some o) (h2 : 2 ≤ c.length) (h60 : ∀ m ∈ c, m.n ≤ 60) :
    Club (lessC c o).dropLast ∧ IsWay (lessC c o).dropLast w.dropLast ∧ (∀ m ∈ (lessC c o).dropLast, m.n ≤ 60) ∧ (lessC c o).dropLast.length + 1 = c.length := by
  have sub : ∀ l : List Mem, ∀ x ∈ l.dropLast, x ∈ l := fun l x hx => (List.dropLast_sublist l).subset hx
  cases o with
  | none => exact ⟨drop_club hc h2, drop_way hc.asc h hl, fun m hm => h60 m (sub _ m hm), by show c.dropLast.length + 1 = _; rw [List.length_dropLast]; omega⟩
  | some b =>
    have hlast : w[c.length - 1]? = some (some b) := by
      rw [List.getLast?_eq_getElem?, h.len] at hl; exact hl
    obtain ⟨hbm, hw⟩ := link_way h hlast
    obtain ⟨x, y, g1, g2, g3⟩ := h.br _ b hlast
    have hb : b < c.length - 1 := asc_lt hc.asc (List.getElem?_eq_some_iff.mp g1).1 (List.getElem?_eq_some_iff.mp g2).1 (by rw [mAt_some g1, mAt_some g2]; exact g3)
    have hcl := club_setF (m' := ⟨x.d, x.w, x.n - 1⟩) hc g1 rfl (by
      have ho := hc.ok x (List.mem_of_getElem? g1)
      have hp : 0 < w.count (some b) := List.count_pos_iff.mpr (List.mem_of_getElem? hlast)
      have := h.cnt b x g1
      exact ⟨ho.1, by show 0 ≤ x.n - 1; omega, by show x.n - 1 ≤ 10 ^ 30; have := ho.2.2; omega⟩)
    have e1 : lessC c (some b) = c.set b ⟨x.d, x.w, x.n - 1⟩ := by show c.set b ⟨(mAt c b).d, (mAt c b).w, (mAt c b).n - 1⟩ = _; rw [mAt_some g1]
    have e2 : (linkC c b (c.length - 1)).dropLast = (lessC c (some b)).dropLast := by
      unfold linkC lessC
      rw [List.dropLast_eq_take, List.dropLast_eq_take]
      apply List.ext_getElem?
      intro i
      by_cases hi : i < c.length - 1
      · rw [List.getElem?_take_of_lt (by simpa using hi), List.getElem?_take_of_lt (by simpa using hi), List.getElem?_set_ne (by omega)]
      · rw [List.getElem?_eq_none (by simp; omega), List.getElem?_eq_none (by simp; omega)]
    have e3 : (w.set (c.length - 1) none).dropLast = w.dropLast := by
      rw [List.dropLast_eq_take, List.dropLast_eq_take, List.length_set]
      apply List.ext_getElem?
      intro i
      by_cases hi : i < w.length - 1
      · rw [List.getElem?_take_of_lt hi, List.getElem?_take_of_lt hi, List.getElem?_set_ne (by have := h.len; omega)]
      · rw [List.getElem?_eq_none (by simp; omega), List.getElem?_eq_none (by simp; omega)]
    have d := drop_way (linkC_asc hbm hc.asc) hw (by
      rw [List.getLast?_eq_getElem?, List.length_set, h.len, List.getElem?_set_self (by have := h.len; omega)])
    rw [e2, e3] at d
    refine ⟨by rw [e1]; exact drop_club hcl (by rw [List.length_set]; exact h2), d, fun m hm => ?_, ?_⟩
    · have hm := sub _ m hm
      rw [e1] at hm
      rcases List.mem_or_eq_of_mem_set hm with hm | rfl
      · exact h60 m hm
      · have := h60 x (List.mem_of_getElem? g1)
        show x.n - 1 ≤ 60
        omega
    · rw [e1, List.length_dropLast, List.length_set]; omega
section
variable {st : List Cell}
end

end G4

namespace G4
open PySem PySem.Spec PyProof.Rows L2
local macro_rules
  | `(tactic| simp_arith [$as,*]) => `(tactic| simp -implicitDefEqProofs only [tl_table_of_1, tl_table_of_2, tl_table_of_3, tl_ways_of_1, tl_ways_of_2, tl__law_toss_1, tl__law_toss_2, tl__law_toss_3, tl__law_made_1, tl__law_made_2, tl__law_made_3, tl__law_made_4, tl__law_made_5, tl__law_made_6, tl__law_made_7, tl__law_made_8, tl__law_bent_1, tl__law_bent_2, tl__law_bent_3, tl__law_bent_4, tl__law_right_1, tl__law_right_2, tl_law_1, tl_law_2, tl_law_3, tl_law_4, tl_law_5, tl_law_6, ↓bnd_eq, ↓off_eq, ↓thn_eq, run_eq, fin_nx, fin_rt, fin_ex, S.hide, hideSl, exms, exm, ev, evT, evs, evOs, evo, evc, evSrc, evPar, hb_ok, hb_ex, ho_ok, ho_ex, ht_nx, ht_rt, ht_ex, tb_nx, tb_rt, tb_ex, hd_setB, hd_setT, hd_retT, D.flat, opd_d, opd_pl, opd_lst, opd_ex, val_d, val_lst, List.append_assoc, List.length_set, gc_push, gc_id, take_push, take_id, get_app0, get_app1, get_app2, isNew0, isNew1, isNew_int, isNew_str, isNew_bl, isNew_non, isNew_tup, isNew_lst, keep_un, keep_int, keep_bl, keep_non, keep_str, keep_scr, keep_obj, keep_own_lst, keep_own_dK, pureK_nil, keep_lst, keep_tup, D.unders, ne_succ, ne_succ1, eq_self, nodup2, nodup3, List.filterMap_cons, List.filterMap_nil, putPar, D.under, List.nodup_cons, List.mem_cons, List.not_mem_nil, or_self, or_false, Nat.reduceEqDiff, List.nodup_nil, true_and, and_true, bits10, Int.reduceMul, Int.reduceLE, Int.reduceLT, Int.reducePow, Int.reduceAdd, Int.reduceSub, Int.reduceNeg, Int.reduceToNat, val_dK, putTs_nil, putTs_nm, putTs_sub, val_ex, val_pl, valPl_lst, valPl_d, opt_some, toO_ok, toO_ex, asBl_ok, List.map_cons, List.map_nil, List.length_cons, List.length_nil, Nat.reduceAdd, Nat.reduceSub, Nat.zero_add, List.replicate, List.cons_append, List.nil_append, List.getElem?_cons_zero, List.getElem?_cons_succ, List.set_cons_zero, List.set_cons_succ, S.rd, S.rdD, S.store, OS.opt, Option.bind_some, Option.map_some, Cell.view, S.cell, S.isLst, S.isDct, S.rdDct, dgetV, dixV, augV, S.put, S.rdLst, cmpV, opCmp, opEq_str, opEq_int, opEq_bl, opEq_non, opEq_lst, opEq_tup, pures_app, eqv_int, eqv_bl, eqv_lst, eqv_tup, eqvs_nil, eqvs_ints, eqvs_cons, eqv_str, opIn_ints, unders_ints, set_app0, set_app1, binV, opBin, ixV, opIx, biV, biSem, biLen, biInt, biAbs, biMax2, biMin2, biSum, biAll, biAny, biList, biTuple, List.mapM_cons, List.mapM_nil, bind, pure, Option.bind, truV, D.tru, isiV, D.kind, Ty.sub, List.any_cons, List.any_nil, decide_true, decide_false, Int.cast_ofNat_Int, beq_self_eq_true, Bool.false_and, Bool.true_or, Bool.false_or, Bool.or_false, Bool.and_true, Bool.true_and, Bool.and_self, if_true, if_false, Bool.false_eq_true, reduceCtorEq, Bool.not_true, Bool.not_false, finish, D.pure, D.pures, Cell.pure, List.take_length, and_self, not_true_eq_false, not_false_eq_true, plain_int', plain_lst, plain_tup, plain_non, plain_bl, D.plainsN, pures_ints, plain_ints, List.length_map, List.length_append, at1, at2, at3, at4, at5, muV, muSem, muApp, setIx, S.fz, perm, List.getD_cons_zero, List.getD_cons_succ, $as,*])
/-! ### clubs of few ways, the whole def -/
section
variable {st : List Cell}
theorem last_some {α : Type} {l : List α} (h : 0 < l.length) : ∃ x, l.getLast? = some x := by
  cases l with
  | nil => simp at h
  | cons a l => exact ⟨_, List.getLast?_eq_getLast (List.cons_ne_nil a l)⟩
theorem lent_ok {i : Nat} {v : Int} {c : List Mem} {f : Fn} {sl : List SV} (h : f [clubD c] st = .ok (.d (.int v)) st) (hs : st.all Cell.flat = true) : lendV f (.lst (c.map Mem.D)) ⟨sl, st⟩ = .ok (.d (.int v)) ⟨sl, st⟩ := by
  unfold clubD at h
  simp only [lendV, Cell.view, h, hs, D.flat, Bool.and_self, if_true]
theorem all_set {st : List Cell} {p : Nat} {y : Cell} (h : st.all Cell.flat = true) (hy : y.flat = true) : (st.set p y).all Cell.flat = true := by
  rw [List.all_eq_true] at h ⊢
  intro x hx
  rcases List.mem_or_eq_of_mem_set hx with hx | rfl
  · exact h x hx
  · exact hy
theorem pu_flat {y : Cell} {n : Nat} (h : Pu y n) : y.flat = true := by
  obtain ⟨a, b, c, rfl, _⟩ := h
  rfl
end

end G4

namespace G4
open PySem PySem.Spec PyProof.Rows L2
local macro_rules
  | `(tactic| simp_arith [$as,*]) => `(tactic| simp -implicitDefEqProofs only [tl_table_of_1, tl_table_of_2, tl_table_of_3, tl_ways_of_1, tl_ways_of_2, tl__law_toss_1, tl__law_toss_2, tl__law_toss_3, tl__law_made_1, tl__law_made_2, tl__law_made_3, tl__law_made_4, tl__law_made_5, tl__law_made_6, tl__law_made_7, tl__law_made_8, tl__law_bent_1, tl__law_bent_2, tl__law_bent_3, tl__law_bent_4, tl__law_right_1, tl__law_right_2, tl_law_1, tl_law_2, tl_law_3, tl_law_4, tl_law_5, tl_law_6, ↓bnd_eq, ↓off_eq, ↓thn_eq, run_eq, fin_nx, fin_rt, fin_ex, S.hide, hideSl, exms, exm, ev, evT, evs, evOs, evo, evc, evSrc, evPar, hb_ok, hb_ex, ho_ok, ho_ex, ht_nx, ht_rt, ht_ex, tb_nx, tb_rt, tb_ex, hd_setB, hd_setT, hd_retT, D.flat, opd_d, opd_pl, opd_lst, opd_ex, val_d, val_lst, List.append_assoc, List.length_set, gc_push, gc_id, take_push, take_id, get_app0, get_app1, get_app2, isNew0, isNew1, isNew_int, isNew_str, isNew_bl, isNew_non, isNew_tup, isNew_lst, keep_un, keep_int, keep_bl, keep_non, keep_str, keep_scr, keep_obj, keep_own_lst, keep_own_dK, pureK_nil, keep_lst, keep_tup, D.unders, ne_succ, ne_succ1, eq_self, nodup2, nodup3, List.filterMap_cons, List.filterMap_nil, putPar, D.under, List.nodup_cons, List.mem_cons, List.not_mem_nil, or_self, or_false, Nat.reduceEqDiff, List.nodup_nil, true_and, and_true, bits10, Int.reduceMul, Int.reduceLE, Int.reduceLT, Int.reducePow, Int.reduceAdd, Int.reduceSub, Int.reduceNeg, Int.reduceToNat, val_dK, putTs_nil, putTs_nm, putTs_sub, val_ex, val_pl, valPl_lst, valPl_d, opt_some, toO_ok, toO_ex, asBl_ok, List.map_cons, List.map_nil, List.length_cons, List.length_nil, Nat.reduceAdd, Nat.reduceSub, Nat.zero_add, List.replicate, List.cons_append, List.nil_append, List.getElem?_cons_zero, List.getElem?_cons_succ, List.set_cons_zero, List.set_cons_succ, S.rd, S.rdD, S.store, OS.opt, Option.bind_some, Option.map_some, Cell.view, S.cell, S.isLst, S.isDct, S.rdDct, dgetV, dixV, augV, S.put, S.rdLst, cmpV, opCmp, opEq_str, opEq_int, opEq_bl, opEq_non, opEq_lst, opEq_tup, pures_app, eqv_int, eqv_bl, eqv_lst, eqv_tup, eqvs_nil, eqvs_ints, eqvs_cons, eqv_str, opIn_ints, unders_ints, set_app0, set_app1, binV, opBin, ixV, opIx, biV, biSem, biLen, biInt, biAbs, biMax2, biMin2, biSum, biAll, biAny, biList, biTuple, List.mapM_cons, List.mapM_nil, bind, pure, Option.bind, truV, D.tru, isiV, D.kind, Ty.sub, List.any_cons, List.any_nil, decide_true, decide_false, Int.cast_ofNat_Int, beq_self_eq_true, Bool.false_and, Bool.true_or, Bool.false_or, Bool.or_false, Bool.and_true, Bool.true_and, Bool.and_self, if_true, if_false, Bool.false_eq_true, reduceCtorEq, Bool.not_true, Bool.not_false, finish, D.pure, D.pures, Cell.pure, List.take_length, and_self, not_true_eq_false, not_false_eq_true, plain_int', plain_lst, plain_tup, plain_non, plain_bl, D.plainsN, pures_ints, plain_ints, List.length_map, List.length_append, at1, at2, at3, at4, at5, muV, muSem, muApp, setIx, S.fz, perm, List.getD_cons_zero, List.getD_cons_succ, $as,*])
/-! ### all ways, as the law lists them: the run -/
def rowW (r : List (Option Nat) × List Int) : D := .tup [.lst (r.1.map obD), .lst (r.2.map .int)]
/-- how many rows there may be -/
def fct : Nat → Nat
  | 0 => 1
  | k + 1 => fct k * max 1 k
theorem fct_mono : ∀ {j k : Nat}, j ≤ k → fct j ≤ fct k := by
  intro j k h
  induction h with
  | refl => exact Nat.le_refl _
  | @step m h ih => exact Nat.le_trans ih (Nat.le_mul_of_pos_right _ (by omega))
theorem nextB_len (c : List Mem) (k : Nat) (l : List Int) : (nextB c k l).length ≤ k := by
  unfold nextB
  have := List.length_filter_le (fun b => decide ((mAt c b).d < (mAt c k).d) && decide (0 < l.getD b 0)) (List.range k)
  rw [List.length_range] at this
  exact this
theorem stepW_len (c : List Mem) (k : Nat) (r : List (Option Nat) × List Int) : (stepW c k r).length ≤ max 1 k := by
  unfold stepW
  split
  · rw [List.length_map]
    have := nextB_len c k r.2
    omega
  · simp; omega
theorem flat_len (c : List Mem) (k : Nat) : ∀ l : List (List (Option Nat) × List Int), (l.flatMap (stepW c k)).length ≤ l.length * max 1 k
  | [] => by simp
  | r :: l => by
    rw [List.flatMap_cons, List.length_append, List.length_cons, Nat.add_mul, Nat.one_mul]
    have := stepW_len c k r
    have := flat_len c k l
    omega
theorem rowsW_len_le (c : List Mem) : ∀ k, (rowsW c k).length ≤ fct k
  | 0 => Nat.le_refl _
  | k + 1 => Nat.le_trans (flat_len c k _) (Nat.mul_le_mul_right _ (rowsW_len_le c k))
section
variable {st : List Cell} {c : List Mem}
/-- one bringer of a row -/
theorem all_other {k j : Nat} {L : List D} {r : List (Option Nat) × List Int} {v1 v2 v8 : SV} (hk : k < c.length) (hj : j < k) (hr : r.1.length = k ∧ r.2.length = c.length) (hc : c.length ≤ 1000) (hL : L.length ≤ 1000000) :
    ∃ u8, exms fb__law_all_ways_1 ⟨[.d (clubD c), v1, v2, .d (mAt c k).D, .own (.lst L), .d (.lst (r.1.map obD)), .d (.lst (r.2.map .int)), .d (.int j), v8], st⟩ = .nx ⟨[.d (clubD c), v1, v2, .d (mAt c k).D, .own (.lst (L ++ (if decide ((mAt c j).d < (mAt c k).d) && decide (0 < r.2.getD j 0) then [rowW (r.1 ++ [some j], r.2.set j (r.2.getD j 0 - 1))] else []))), .d (.lst (r.1.map obD)), .d (.lst (r.2.map .int)), .d (.int j), u8], st⟩ := by
  have a1 := mAt_at (c := c) (i := j) (by omega)
  have hj2 : j < r.2.length := by omega
  have a2 : atI (r.2.map D.int) (j : Int) = some (.int (r.2.getD j 0)) := atI_nat (by rw [List.getElem?_map, List.getElem?_eq_getElem hj2, List.getD_eq_getElem?_getD, List.getElem?_eq_getElem hj2]; rfl)
  have a3 : ixN (r.2.map D.int).length (j : Int) = some j := ixN_nat' (by rw [List.length_map]; exact hj2)
  rw [List.length_map] at a3
  have hb : r.1.length + 1 ≤ big := by have := big_le (n := r.1.length + 1) (by omega); exact this
  have hb2 : L.length < big := Nat.lt_of_le_of_lt hL (by decide)
  unfold fb__law_all_ways_1
  by_cases h1 : (mAt c j).d < (mAt c k).d
  · by_cases h2 : 0 < r.2.getD j 0
    · refine ⟨.d (.lst ((r.2.map D.int).set j (.int (r.2.getD j 0 - 1)))), ?_⟩
      simp_arith [clubD, a1, Mem.D, h1, a2, h2, a3, hb, hb2, rowW, List.map_append, obD, List.map_set]
    · refine ⟨v8, ?_⟩
      simp_arith [clubD, a1, Mem.D, h1, a2, h2, List.append_nil]
  · refine ⟨v8, ?_⟩
    simp_arith [clubD, a1, Mem.D, h1, List.append_nil]
/-- one row -/
theorem all_row {k : Nat} {L : List D} {r : List (Option Nat) × List Int} {v1 v7 v8 : SV} (hk : k < c.length) (hr : r.1.length = k ∧ r.2.length = c.length) (hc : c.length ≤ 9) (hL : L.length + max 1 k ≤ 1000000) :
    ∃ u7 u8, exms fb__law_all_ways_2 ⟨[.d (clubD c), v1, .d (.int k), .d (mAt c k).D, .own (.lst L), .d (.lst (r.1.map obD)), .d (.lst (r.2.map .int)), v7, v8], st⟩ = .nx ⟨[.d (clubD c), v1, .d (.int k), .d (mAt c k).D, .own (.lst (L ++ (stepW c k r).map rowW)), .d (.lst (r.1.map obD)), .d (.lst (r.2.map .int)), u7, u8], st⟩ := by
  have hb : r.1.length + 1 ≤ big := by have := big_le (n := r.1.length + 1) (by omega); exact this
  have hb2 : L.length < big := Nat.lt_of_le_of_lt (show L.length ≤ 1000000 by omega) (by decide)
  cases hw : (mAt c k).w
  · refine ⟨v7, v8, ?_⟩
    have es : stepW c k r = [(r.1 ++ [none], r.2)] := by unfold stepW; rw [hw]; rfl
    have er : rng1Sem [.int ((k : Int) * b2i false)] = some [] := by
      show rng1Sem [.int ((k : Int) * 0)] = _
      rw [Int.mul_zero]; rfl
    have hlog : (k : Int).natAbs.log2 + (b2i false).natAbs.log2 < 1000000 := by
      have := log2_le (i := (k : Int)) (k := 13) (bound12 (k := 9) (by omega) (by omega))
      have : (b2i false).natAbs.log2 = 0 := by decide
      omega
    rw [es]
    unfold fb__law_all_ways_2
    simp_arith [Mem.D, wd_al, wd_br, hw, hb, hb2, er, hlog, rowW, List.map_append, obD, forLoop]
  · have es : stepW c k r = (nextB c k r.2).map fun b => (r.1 ++ [some b], r.2.set b (r.2.getD b 0 - 1)) := by unfold stepW; rw [hw]; rfl
    have er : rng1Sem [.int ((k : Int) * b2i true)] = some ((List.range k).map fun i : Nat => D.int i) := by
      show rng1Sem [.int ((k : Int) * 1)] = _
      rw [Int.mul_one]; exact rng1_nat (by omega)
    have hlog : (k : Int).natAbs.log2 + (b2i true).natAbs.log2 < 1000000 := by
      have := log2_le (i := (k : Int)) (k := 13) (bound12 (k := 9) (by omega) (by omega))
      have : (b2i true).natAbs.log2 = 0 := by decide
      omega
    obtain ⟨s', l1, u7, u8, rfl⟩ := for_rng (v := 7) (body := fun s => exms fb__law_all_ways_1 s) (n := st.length) k
      (fun j s => ∃ u7 u8, s = ⟨[.d (clubD c), v1, .d (.int k), .d (mAt c k).D, .own (.lst (L ++ (((List.range j).filter fun b => decide ((mAt c b).d < (mAt c k).d) && decide (0 < r.2.getD b 0)).map fun b => rowW (r.1 ++ [some b], r.2.set b (r.2.getD b 0 - 1))))), .d (.lst (r.1.map obD)), .d (.lst (r.2.map .int)), u7, u8], st⟩)
      ⟨[.d (clubD c), v1, .d (.int k), .d (mAt c k).D, .own (.lst L), .d (.lst (r.1.map obD)), .d (.lst (r.2.map .int)), v7, v8], st⟩ ⟨v7, v8, by simp⟩ fun j s hj hI => by
        obtain ⟨u7, u8, rfl⟩ := hI
        have hfl := List.length_filter_le (fun b => decide ((mAt c b).d < (mAt c k).d) && decide (0 < r.2.getD b 0)) (List.range j)
        rw [List.length_range] at hfl
        obtain ⟨w8, e⟩ := all_other (st := st) (c := c) (k := k) (j := j) (r := r) (v1 := v1) (v2 := .d (.int k)) (v8 := u8) (L := L ++ (((List.range j).filter fun b => decide ((mAt c b).d < (mAt c k).d) && decide (0 < r.2.getD b 0)).map fun b => rowW (r.1 ++ [some b], r.2.set b (r.2.getD b 0 - 1)))) hk hj hr (by omega) (by rw [List.length_append, List.length_map]; omega)
        refine ⟨_, .inl e, .d (.int j), w8, ?_⟩
        rw [List.range_succ, List.filter_append, List.map_append, List.append_assoc]
        cases q : (decide ((mAt c j).d < (mAt c k).d) && decide (0 < r.2.getD j 0))
        · simp only [List.filter_cons, q, List.filter_nil, List.map_nil, Bool.false_eq_true, if_false]
          exact gc_id rfl
        · simp only [List.filter_cons, q, List.filter_nil, if_true, List.map_cons, List.map_nil]
          exact gc_id rfl
    refine ⟨u7, u8, ?_⟩
    rw [es, List.map_map]
    unfold fb__law_all_ways_2
    unfold Mem.D at l1
    simp_arith [Mem.D, wd_al, wd_br, hw, er, hlog]
    rw [hw] at l1
    rw [l1]
    simp_arith [gc_id]
    rfl
theorem asg_row (x5 x6 : Nat) (r : List (Option Nat) × List Int) (s : S) : T.asg (.tp [.nm x5, .nm x6]) (rowW r) s = some ⟨(s.sl.set x5 (.d (.lst (r.1.map obD)))).set x6 (.d (.lst (r.2.map .int))), s.st⟩ := by
  simp only [rowW, asg_tp, List.length_cons, List.length_nil, if_true, asgs_cons, asg_nm, Option.bind_some, asgs_nil]
/-- one member -/
theorem all_member {k : Nat} {v1 v4 v5 v6 v7 v8 : SV} (hk : k < c.length) (hc : c.length ≤ 9) (h1 : v1 = .d (.lst ((rowsW c k).map rowW)) ∨ v1 = .own (.lst ((rowsW c k).map rowW))) (h5 : v5.isOwn = false) (h6 : v6.isOwn = false) :
    ∃ u4 u5 u6 u7 u8, u5.isOwn = false ∧ u6.isOwn = false ∧ exms fb__law_all_ways_3 ⟨[.d (clubD c), v1, .d (.int k), .d (mAt c k).D, v4, v5, v6, v7, v8], st⟩ = .nx ⟨[.d (clubD c), .d (.lst ((rowsW c (k + 1)).map rowW)), .d (.int k), .d (mAt c k).D, u4, u5, u6, u7, u8], st⟩ := by
  have hf : fct (k + 1) ≤ 362880 := Nat.le_trans (fct_mono (show k + 1 ≤ 10 by omega)) (by decide)
  have hf' : fct k * max 1 k ≤ 362880 := hf
  have hrl := rowsW_len_le c k
  obtain ⟨s', l1, u5, u6, u7, u8, rfl, g5, g6⟩ := for_lst (t := .tp [.nm 5, .nm 6]) (body := fun s => exms fb__law_all_ways_2 s) (n := st.length) (rowsW c k) rowW
    (fun j s => ∃ u5 u6 u7 u8, s = ⟨[.d (clubD c), .d (.lst ((rowsW c k).map rowW)), .d (.int k), .d (mAt c k).D, .own (.lst ((((rowsW c k).take j).flatMap (stepW c k)).map rowW)), u5, u6, u7, u8], st⟩ ∧ u5.isOwn = false ∧ u6.isOwn = false)
    ⟨[.d (clubD c), .d (.lst ((rowsW c k).map rowW)), .d (.int k), .d (mAt c k).D, .own (.lst []), v5, v6, v7, v8], st⟩ ⟨_, _, _, _, rfl, h5, h6⟩ fun j r s hr hI => by
      obtain ⟨u5, u6, u7, u8, rfl, g5, g6⟩ := hI
      have hj := (List.getElem?_eq_some_iff.mp hr).1
      have hfl := flat_len c k ((rowsW c k).take j)
      have hb : ((rowsW c k).take j).length * max 1 k + max 1 k ≤ 362880 := by
        rw [List.length_take, Nat.min_eq_left (Nat.le_of_lt hj), ← Nat.succ_mul]
        exact Nat.le_trans (Nat.mul_le_mul_right _ (show j + 1 ≤ fct k by omega)) hf'
      obtain ⟨w7, w8, e⟩ := all_row (st := st) (c := c) (k := k) (L := (((rowsW c k).take j).flatMap (stepW c k)).map rowW) (r := r) (v1 := .d (.lst ((rowsW c k).map rowW))) (v7 := u7) (v8 := u8) hk (rowsW_len c k r (List.mem_of_getElem? hr)) hc (by rw [List.length_map]; omega)
      refine ⟨_, _, asg_row 5 6 r _, .inl e, .d (.lst (r.1.map obD)), .d (.lst (r.2.map .int)), w7, w8, ?_⟩
      have ht : (rowsW c k).take (j + 1) = (rowsW c k).take j ++ [r] := by rw [List.take_succ, hr]; rfl
      rw [ht, List.flatMap_append, List.map_append]
      simp only [List.flatMap_cons, List.flatMap_nil, List.append_nil]
      exact ⟨gc_id rfl, rfl, rfl⟩
  rw [List.take_length] at l1
  have er : rowsW c (k + 1) = (rowsW c k).flatMap (stepW c k) := rfl
  refine ⟨.d (.lst (((rowsW c k).flatMap (stepW c k)).map rowW)), u5, u6, u7, u8, g5, g6, ?_⟩
  rw [er]
  unfold fb__law_all_ways_3
  rcases h1 with rfl | rfl
  · simp_arith [hk]
    rw [l1]
    simp_arith [gc_id]
  · simp_arith [hk]
    rw [l1]
    simp_arith [gc_id]
theorem pure_rows (l : List (List (Option Nat))) : D.pures (l.map fun w => .lst (w.map obD)) = true := by
  induction l with
  | nil => rfl
  | cons w l ih => rw [List.map_cons, D.pures, ih, D.pure, pure_obs]; rfl
theorem zipIdx_get {i : Nat} {p : Mem × Nat} (h : (c.zipIdx 0)[i]? = some p) : i < c.length ∧ p = (mAt c i, i) := by
  rw [List.getElem?_zipIdx] at h
  cases hm : c[i]? with
  | none => rw [hm] at h; cases h
  | some x =>
    rw [hm] at h
    cases h
    exact ⟨(List.getElem?_eq_some_iff.mp hm).1, by rw [mAt_some hm, Nat.zero_add]⟩
theorem all_ways_ok (hc : Club c) (h9 : c.length ≤ 9) : f__law_all_ways [clubD c] st = .ok (.new (.lst ((allW c).map fun w => .lst (w.map obD)))) st := by
  have hpos := List.length_pos_iff.mpr hc.some
  obtain ⟨s', l1, u1, u2, u3, u4, u5, u6, u7, u8, rfl, l2, g5, g6⟩ := for_lst (t := .tp [.nm 2, .nm 3]) (body := fun s => exms fb__law_all_ways_3 s) (n := st.length) (c.zipIdx 0) (fun p => .tup [.int p.2, p.1.D])
    (fun j s => ∃ u1 u2 u3 u4 u5 u6 u7 u8, s = ⟨[.d (clubD c), u1, u2, u3, u4, u5, u6, u7, u8], st⟩ ∧ ((0 < j ∧ u1 = .d (.lst ((rowsW c j).map rowW))) ∨ (j = 0 ∧ u1 = .own (.lst ((rowsW c j).map rowW)))) ∧ u5.isOwn = false ∧ u6.isOwn = false)
    ⟨[.d (clubD c), .own (.lst ((rowsW c 0).map rowW)), .un, .un, .un, .un, .un, .un, .un], st⟩ ⟨_, _, _, _, _, _, _, _, rfl, .inr ⟨rfl, rfl⟩, rfl, rfl⟩ fun j p s hp hI => by
      obtain ⟨u1, u2, u3, u4, u5, u6, u7, u8, rfl, h1, g5, g6⟩ := hI
      obtain ⟨hj, rfl⟩ := zipIdx_get hp
      obtain ⟨w4, w5, w6, w7, w8, k5, k6, e⟩ := all_member (st := st) (c := c) (k := j) (v1 := u1) (v4 := u4) (v5 := u5) (v6 := u6) (v7 := u7) (v8 := u8) hj h9 (by rcases h1 with ⟨_, h⟩ | ⟨_, h⟩ <;> simp [h]) g5 g6
      refine ⟨_, _, ?_, .inl e, .d (.lst ((rowsW c (j + 1)).map rowW)), .d (.int j), .d (mAt c j).D, w4, w5, w6, w7, w8, gc_id rfl, .inl ⟨by omega, rfl⟩, k5, k6⟩
      simp only [asg_tp, List.length_cons, List.length_nil, if_true, asgs_cons, asg_nm, Option.bind_some, asgs_nil, List.set_cons_zero, List.set_cons_succ]
  rw [List.length_zipIdx] at l2
  have hu1 : u1 = .d (.lst ((rowsW c c.length).map rowW)) := by
    rcases l2 with ⟨_, h⟩ | ⟨h, _⟩
    · exact h
    · omega
  subst hu1
  have hk1 : ev lc__law_all_ways_2 ⟨[.d (clubD c), .un, .un, .un, .un, .un, .un, .un, .un], st⟩ = .ok (.new (.lst ((c.map (·.n)).map .int))) ⟨[.d (clubD c), .un, .un, .un, .un, .un, .un, .un, .un], st⟩ := by
    rw [List.map_map]
    refine lc_map c Mem.D (fun m => .int m.n) ?_ (big_le (by omega)) rfl fun m hm => ⟨_, rfl, rfl, ?_⟩
    · simp_arith [clubD]
    · simp_arith [Mem.D]
  have hrb : (rowsW c c.length).length ≤ big := by
    have := rowsW_len_le c c.length
    have := Nat.le_trans (fct_mono (show c.length ≤ 10 by omega)) (show fct 10 ≤ 362880 by decide)
    exact big_le (by omega)
  have hk2 : ev lc__law_all_ways_1 ⟨[.d (clubD c), .d (.lst ((rowsW c c.length).map rowW)), u2, u3, u4, u5, u6, u7, u8], st⟩ = .ok (.new (.lst ((allW c).map fun w => .lst (w.map obD)))) ⟨[.d (clubD c), .d (.lst ((rowsW c c.length).map rowW)), u2, u3, u4, u5, u6, u7, u8], st⟩ := by
    have := lc_filt (own := [("taken", 5), ("left", 6)]) (e := .var 5) (g := .tp [(.nm 5), (.nm 6)]) (src := .seq (.var 1)) (c := .cmp .Eq (.bi .sum (.cons (.var 6) .nil)) (.int 0)) (s := ⟨[.d (clubD c), .d (.lst ((rowsW c c.length).map rowW)), u2, u3, u4, u5, u6, u7, u8], st⟩) (s0 := ⟨[.d (clubD c), .d (.lst ((rowsW c c.length).map rowW)), u2, u3, u4, u5, u6, u7, u8], st⟩) (rowsW c c.length) rowW (fun r => r.2.sum == 0) (fun r => .lst (r.1.map obD)) (by simp_arith [hrb]) hrb (by show (!u5.isOwn && (!u6.isOwn && true)) = true; rw [g5, g6]; rfl) fun r hr => ⟨_, asg_row 5 6 r _, rfl, by simp_arith [intsD_map], fun _ => by simp_arith [hideSl]⟩
    unfold lc__law_all_ways_1 allW
    rw [List.map_map]
    exact this
  have hen := enum_map Mem.D c 0
  unfold clubD at hk1 hk2 l1
  have hpr := pure_rows (allW c)
  unfold f__law_all_ways
  simp_arith [b__law_all_ways, clubD, hk1, hen]
  have e0 : rowW ([], c.map (·.n)) = .tup [.lst [], .lst ((c.map (·.n)).map .int)] := rfl
  have e1 : (rowsW c 0).map rowW = [.tup [.lst [], .lst ((c.map (·.n)).map .int)]] := rfl
  rw [e1] at l1
  rw [l1]
  simp_arith [hk2, hpr, gc_id]
end

end G4

namespace G4
open PySem PySem.Spec PyProof.Rows L2
local macro_rules
  | `(tactic| simp_arith [$as,*]) => `(tactic| simp -implicitDefEqProofs only [tl_table_of_1, tl_table_of_2, tl_table_of_3, tl_ways_of_1, tl_ways_of_2, tl__law_toss_1, tl__law_toss_2, tl__law_toss_3, tl__law_made_1, tl__law_made_2, tl__law_made_3, tl__law_made_4, tl__law_made_5, tl__law_made_6, tl__law_made_7, tl__law_made_8, tl__law_bent_1, tl__law_bent_2, tl__law_bent_3, tl__law_bent_4, tl__law_right_1, tl__law_right_2, tl_law_1, tl_law_2, tl_law_3, tl_law_4, tl_law_5, tl_law_6, ↓bnd_eq, ↓off_eq, ↓thn_eq, run_eq, fin_nx, fin_rt, fin_ex, S.hide, hideSl, exms, exm, ev, evT, evs, evOs, evo, evc, evSrc, evPar, hb_ok, hb_ex, ho_ok, ho_ex, ht_nx, ht_rt, ht_ex, tb_nx, tb_rt, tb_ex, hd_setB, hd_setT, hd_retT, D.flat, opd_d, opd_pl, opd_lst, opd_ex, val_d, val_lst, List.append_assoc, List.length_set, gc_push, gc_id, take_push, take_id, get_app0, get_app1, get_app2, isNew0, isNew1, isNew_int, isNew_str, isNew_bl, isNew_non, isNew_tup, isNew_lst, keep_un, keep_int, keep_bl, keep_non, keep_str, keep_scr, keep_obj, keep_own_lst, keep_own_dK, pureK_nil, keep_lst, keep_tup, D.unders, ne_succ, ne_succ1, eq_self, nodup2, nodup3, List.filterMap_cons, List.filterMap_nil, putPar, D.under, List.nodup_cons, List.mem_cons, List.not_mem_nil, or_self, or_false, Nat.reduceEqDiff, List.nodup_nil, true_and, and_true, bits10, Int.reduceMul, Int.reduceLE, Int.reduceLT, Int.reducePow, Int.reduceAdd, Int.reduceSub, Int.reduceNeg, Int.reduceToNat, val_dK, putTs_nil, putTs_nm, putTs_sub, val_ex, val_pl, valPl_lst, valPl_d, opt_some, toO_ok, toO_ex, asBl_ok, List.map_cons, List.map_nil, List.length_cons, List.length_nil, Nat.reduceAdd, Nat.reduceSub, Nat.zero_add, List.replicate, List.cons_append, List.nil_append, List.getElem?_cons_zero, List.getElem?_cons_succ, List.set_cons_zero, List.set_cons_succ, S.rd, S.rdD, S.store, OS.opt, Option.bind_some, Option.map_some, Cell.view, S.cell, S.isLst, S.isDct, S.rdDct, dgetV, dixV, augV, S.put, S.rdLst, cmpV, opCmp, opEq_str, opEq_int, opEq_bl, opEq_non, opEq_lst, opEq_tup, pures_app, eqv_int, eqv_bl, eqv_lst, eqv_tup, eqvs_nil, eqvs_ints, eqvs_cons, eqv_str, opIn_ints, unders_ints, set_app0, set_app1, binV, opBin, ixV, opIx, biV, biSem, biLen, biInt, biAbs, biMax2, biMin2, biSum, biAll, biAny, biList, biTuple, List.mapM_cons, List.mapM_nil, bind, pure, Option.bind, truV, D.tru, isiV, D.kind, Ty.sub, List.any_cons, List.any_nil, decide_true, decide_false, Int.cast_ofNat_Int, beq_self_eq_true, Bool.false_and, Bool.true_or, Bool.false_or, Bool.or_false, Bool.and_true, Bool.true_and, Bool.and_self, if_true, if_false, Bool.false_eq_true, reduceCtorEq, Bool.not_true, Bool.not_false, finish, D.pure, D.pures, Cell.pure, List.take_length, and_self, not_true_eq_false, not_false_eq_true, plain_int', plain_lst, plain_tup, plain_non, plain_bl, D.plainsN, pures_ints, plain_ints, List.length_map, List.length_append, at1, at2, at3, at4, at5, muV, muSem, muApp, setIx, S.fz, perm, List.getD_cons_zero, List.getD_cons_succ, $as,*])
/-! ### k02: the conflict, found by counting; what Impossible bears -/
section
variable {st : List Cell} {c : List Mem}
theorem conf_turn (hc : c.length ≤ 60) {m : Mem} {v2 v3 : SV} :
    exms fb__law_conflict_1 ⟨[.d (clubD c), .d m.D, v2, v3, .un], st⟩ = if decide (0 ≤ slackT c m.d) then .nx ⟨[.d (clubD c), .d m.D, v2, .d (.int ((c.filter fun x => decide (x.d < m.d)).map (·.n)).sum), .un], st⟩ else .rt (.d (.tup [.str "day", .int m.d])) ⟨[.d (clubD c), .d m.D, v2, .d (.int ((c.filter fun x => decide (x.d < m.d)).map (·.n)).sum), .un], st⟩ := by
  have lc4 : ∀ v3, ev lc__law_conflict_4 ⟨[.d (clubD c), .d m.D, v2, v3, .un], st⟩ = .ok (.new (.lst ((c.filter fun x => decide (x.d < m.d)).map fun x => D.int x.n))) ⟨[.d (clubD c), .d m.D, v2, v3, .un], st⟩ := fun v3 => by
    refine lc_filt c Mem.D (fun x => decide (x.d < m.d)) (fun x => D.int x.n) ?_ (big_le (by omega)) rfl fun x hx => ⟨_, rfl, rfl, ?_, fun _ => ?_⟩
    · simp_arith [hideSl, clubD]
    · simp_arith [hideSl, Mem.D]
    · simp_arith [hideSl, Mem.D]
  have lc3 : ∀ v3, ev lc__law_conflict_3 ⟨[.d (clubD c), .d m.D, v2, v3, .un], st⟩ = .ok (.new (.lst ((c.filter fun x => decide (x.d ≤ m.d) && x.w).map fun _ => D.int 1))) ⟨[.d (clubD c), .d m.D, v2, v3, .un], st⟩ := fun v3 => by
    refine lc_filt c Mem.D (fun x => decide (x.d ≤ m.d) && x.w) (fun _ => D.int 1) ?_ (big_le (by omega)) rfl fun x hx => ⟨_, rfl, rfl, ?_, fun _ => ?_⟩
    · simp_arith [hideSl, clubD]
    · by_cases q : x.d ≤ m.d <;> simp_arith [hideSl, Mem.D, q, wd_br]
    · simp_arith [hideSl, Mem.D]
  have hs : ((c.filter fun x => decide (x.d < m.d)).map (·.n)).sum - ((c.filter fun x => decide (x.d ≤ m.d) && x.w).length : Nat) = slackT c m.d := rfl
  have k3 := intsD_map ((c.filter fun x => decide (x.d < m.d)).map (·.n))
  rw [List.map_map] at k3
  have k4 : (List.map (fun x : Mem => D.int x.n) (c.filter fun x => decide (x.d < m.d))) = List.map (D.int ∘ fun x => x.n) (c.filter fun x => decide (x.d < m.d)) := rfl
  simp only [Mem.D] at lc4 lc3
  unfold fb__law_conflict_1
  generalize hS : ((c.filter fun x => decide (x.d < m.d)).map (·.n)).sum = SS at *
  generalize hT : ((c.filter fun x => decide (x.d ≤ m.d) && x.w).length) = TT at *
  by_cases q : 0 ≤ slackT c m.d
  · have q3 : ¬ SS < (TT : Int) := by omega
    simp_arith [lc4, lc3, k4, k3, hS, hT, q3, q, Mem.D]
  · have q3 : SS < (TT : Int) := by omega
    simp_arith [lc4, lc3, k4, k3, hS, hT, q3, q, Mem.D]
theorem conf_lc1 (hc : c.length ≤ 60) {v1 v2 v3 : SV} (h : v1.isOwn = false) : ev lc__law_conflict_1 ⟨[.d (clubD c), v1, v2, v3, .un], st⟩ = .ok (.new (.lst ((c.map (·.n)).map .int))) ⟨[.d (clubD c), v1, v2, v3, .un], st⟩ := by
  rw [List.map_map]
  refine lc_map c Mem.D (fun m => .int m.n) ?_ (big_le (by omega)) (by show (!v1.isOwn && true) = true; rw [h]; rfl) fun m hm => ⟨_, rfl, rfl, ?_⟩
  · simp_arith [clubD]
  · simp_arith [Mem.D]
theorem conf_lc2 (hc : c.length ≤ 60) {v1 v2 v3 : SV} (h : v1.isOwn = false) : ev lc__law_conflict_2 ⟨[.d (clubD c), v1, v2, v3, .un], st⟩ = .ok (.new (.lst ((c.filter fun m => m.w).map fun _ => D.int 1))) ⟨[.d (clubD c), v1, v2, v3, .un], st⟩ := by
  refine lc_filt c Mem.D (fun m => m.w) (fun _ => D.int 1) ?_ (big_le (by omega)) (by show (!v1.isOwn && true) = true; rw [h]; rfl) fun m hm => ⟨_, rfl, rfl, ?_, fun _ => ?_⟩
  · simp_arith [hideSl, clubD]
  · simp_arith [hideSl, Mem.D, wd_br]
  · simp_arith [hideSl, Mem.D]
theorem conf_none (h : ∀ m ∈ c, 0 ≤ slackT c m.d) : conflictD c = if leftN c = 0 then .non else .tup [.str "left", .int (leftN c)] := by
  unfold conflictD
  have : (dayS c).filter (fun t => decide (slackT c t < 0)) = [] := List.filter_eq_nil_iff.mpr fun t ht => by
    obtain ⟨m, hm, rfl⟩ := mem_dayS.mp ht
    have := h m hm
    simp; omega
  rw [this]
theorem conf_first (hA : Asc c) {i : Nat} {m : Mem} (hi : c[i]? = some m) (hn : slackT c m.d < 0) (hb : ∀ k x, k < i → c[k]? = some x → 0 ≤ slackT c x.d) : conflictD c = .tup [.str "day", .int m.d] := by
  have hm := List.mem_of_getElem? hi
  have h1 : m.d ∈ (dayS c).filter fun t => decide (slackT c t < 0) := List.mem_filter.mpr ⟨mem_dayS.mpr ⟨m, hm, rfl⟩, by simpa using hn⟩
  unfold conflictD
  cases hf : (dayS c).filter fun t => decide (slackT c t < 0) with
  | nil => rw [hf] at h1; cases h1
  | cons t l =>
    have hs : ((dayS c).filter fun t => decide (slackT c t < 0)).Pairwise (· < ·) := (dayS_strict c).filter _
    have ht : t ∈ (dayS c).filter fun t => decide (slackT c t < 0) := by rw [hf]; exact List.mem_cons_self
    obtain ⟨t1, t2⟩ := List.mem_filter.mp ht
    have t2 : slackT c t < 0 := by simpa using t2
    obtain ⟨x, hx, rfl⟩ := mem_dayS.mp t1
    obtain ⟨k, hk⟩ := List.mem_iff_getElem?.mp hx
    have hle : x.d ≤ m.d := by
      rw [hf] at h1 hs
      rcases List.mem_cons.mp h1 with h | h
      · omega
      · have := (List.pairwise_cons.mp hs).1 _ h
        omega
    have hge : m.d ≤ x.d := by
      rcases Nat.lt_or_ge k i with q | q
      · have := hb k x q hk; omega
      · rcases Nat.eq_or_lt_of_le q with q | q
        · subst q; rw [hi] at hk; cases hk; exact Int.le_refl _
        · have e1 := List.getElem?_eq_some_iff.mp hi
          have e2 := List.getElem?_eq_some_iff.mp hk
          have := List.pairwise_iff_getElem.mp hA i k e1.1 e2.1 q
          rw [e1.2, e2.2] at this
          exact this
    rw [show x.d = m.d by omega]
theorem law_conflict_ok (hc : Club c) : f__law_conflict [clubD c] st = .ok (.d (conflictD c)) st := by
  have hf := hc.few
  have lp := for_first (t := .nm 1) (body := fun s => exms fb__law_conflict_1 s) (n := st.length) Mem.D (fun _ m => decide (0 ≤ slackT c m.d))
    (fun j s => ∃ v1 v3, s = ⟨[.d (clubD c), v1, .un, v3, .un], st⟩ ∧ v1.isOwn = false) (fun _ m => .d (.tup [.str "day", .int m.d])) (fun s => s.st = st) c 0
    ⟨[.d (clubD c), .un, .un, .un, .un], st⟩ ⟨_, _, rfl, rfl⟩ fun j m s hm hI => by
      obtain ⟨v1, v3, rfl, _⟩ := hI
      have e := conf_turn (st := st) hf (m := m) (v2 := .un) (v3 := v3)
      refine ⟨_, asg_nm _ _ _, ?_⟩
      cases q : decide (0 ≤ slackT c m.d)
      · rw [q, if_neg Bool.false_ne_true] at e
        exact .inr ⟨rfl, _, e, rfl⟩
      · rw [q, if_pos rfl] at e
        exact .inl ⟨rfl, _, e, _, _, gc_id rfl, rfl⟩
  rcases lp with ⟨r1, s2, r2, v1, v3, rfl, h1⟩ | ⟨j, m, s2, r1, r2, r3, r4, r5⟩
  · have hall : ∀ m ∈ c, 0 ≤ slackT c m.d := fun m hm => by
      obtain ⟨i, hi⟩ := List.mem_iff_getElem?.mp hm
      exact of_decide_eq_true (r1 i m hi)
    have l1 := conf_lc1 (st := st) hf (v1 := v1) (v2 := .un) (v3 := v3) h1
    have l2 := conf_lc2 (st := st) hf (v1 := v1) (v2 := .un) (v3 := v3) h1
    have k3 := intsD_map (c.map (·.n))
    have hL : (c.map (·.n)).sum - ((c.filter fun m => m.w).length : Nat) = leftN c := rfl
    rw [conf_none hall]
    unfold f__law_conflict
    unfold clubD at l1 l2 r2 ⊢
    simp_arith [b__law_conflict]
    rw [r2]
    generalize hS : (c.map (·.n)).sum = SS at *
    generalize hT : (c.filter fun m => m.w).length = TT at *
    by_cases q : leftN c = 0
    · have q2 : SS - (TT : Int) = 0 := by omega
      simp_arith [l1, l2, k3, hS, hT, q2, q, take_id, show ((0 : Int) == 0) = true from rfl]
    · have q2 : (SS - (TT : Int) == 0) = false := by rw [hL]; simpa using q
      simp_arith [l1, l2, k3, hS, hT, hL, q, take_id, q2, show (leftN c == 0) = false by simpa using q]
  · have hn : slackT c m.d < 0 := by have := of_decide_eq_false r2; omega
    rw [conf_first hc.asc r1 hn fun k x hk hx => of_decide_eq_true (r3 k x hk hx)]
    unfold f__law_conflict
    unfold clubD at r4 ⊢
    simp_arith [b__law_conflict]
    rw [r4]
    simp_arith [r5]
theorem conf_shape2 (c : List Mem) : conflictD c = .non ∨ (∃ t, conflictD c = .tup [.str "day", .int t] ∧ t ∈ dayS c) ∨ conflictD c = .tup [.str "left", .int (leftN c)] := by
  unfold conflictD
  cases hf : (dayS c).filter fun t => decide (slackT c t < 0) with
  | nil =>
    by_cases q : leftN c = 0
    · exact .inl (by simp [q])
    · exact .inr (.inr (by simp [q]))
  | cons t l =>
    have ht : t ∈ (dayS c).filter fun t => decide (slackT c t < 0) := by rw [hf]; exact List.mem_cons_self
    exact .inr (.inl ⟨t, rfl, (List.mem_filter.mp ht).1⟩)
theorem conf_poss (hc : Club c) (h : conflictD c = .non) : Poss c := by
  unfold conflictD at h
  cases hf : (dayS c).filter fun t => decide (slackT c t < 0) with
  | cons t l => rw [hf] at h; cases h
  | nil =>
    rw [hf] at h
    refine ⟨hc, fun t ht => ?_, ?_⟩
    · have := List.filter_eq_nil_iff.mp hf t ht
      simp at this
      omega
    · by_cases q : leftN c = 0
      · exact q
      · simp [q] at h
theorem nums_le : ∀ c : List Mem, (∀ m ∈ c, m.ok) → 0 ≤ (c.map (·.n)).sum ∧ (c.map (·.n)).sum ≤ 10 ^ 30 * c.length
  | [], _ => by simp
  | m :: c, h => by
    have h1 := (h m List.mem_cons_self).2
    have h2 := nums_le c fun x hx => h x (List.mem_cons_of_mem _ hx)
    rw [List.map_cons, List.sum_cons, List.length_cons]
    constructor
    · omega
    · have : ((c.length + 1 : Nat) : Int) = c.length + 1 := by omega
      rw [this, Int.mul_add]
      omega
theorem left_fit (hc : Club c) : Fit (leftN c) := by
  obtain ⟨h1, h2⟩ := nums_le c hc.ok
  have hf := hc.few
  have h3 := List.length_filter_le (fun m : Mem => m.w) c
  have h4 : (10 : Int) ^ 30 * c.length ≤ 10 ^ 30 * 60 := Int.mul_le_mul_of_nonneg_left (by omega) (by decide)
  have h5 : (10 : Int) ^ 30 * 60 < 2 ^ 249 := by decide
  have h6 : (60 : Int) < 2 ^ 249 := by decide
  have h7 : (2 : Int) ^ 250 = 2 ^ 249 + 2 ^ 249 := by decide
  generalize (10 : Int) ^ 30 * 60 = A at *
  generalize (10 : Int) ^ 30 * c.length = B at *
  generalize (2 : Int) ^ 249 = C at *
  unfold Fit leftN
  rw [h7]
  constructor <;> omega
theorem day_text : (strOk "day" && decide ((reprText "day").length ≤ 100)) = true ∧ (strOk "left" && decide ((reprText "left").length ≤ 100)) = true := by decide +kernel
theorem conf_thing (hc : Club c) : thingB (conflictD c) = true := by
  obtain ⟨t1, t2⟩ := day_text
  have key : ∀ (x : Str) (i : Int), (strOk x && decide ((reprText x).length ≤ 100)) = true → Fit i → thingB (.tup [.str x, .int i]) = true := fun x i h1 h2 => by
    have h3 := h2.log
    show (decide (2 ≤ 200) && (itemB (.str x) && (itemB (.int i) && true))) = true
    show (decide (2 ≤ 200) && ((strOk x && decide ((reprText x).length ≤ 100)) && (decide (i.natAbs.log2 < 250) && true))) = true
    rw [h1, decide_eq_true h3]; rfl
  rcases conf_shape2 c with q | ⟨t, q, ht⟩ | q
  · rw [q]; rfl
  · rw [q]
    obtain ⟨m, hm, rfl⟩ := mem_dayS.mp ht
    have := (hc.ok m hm).1
    exact key _ _ t1 ⟨by omega, by omega⟩
  · rw [q]; exact key _ _ t2 (left_fit hc)
theorem conflict_of2 (hc : Club c) : f_conflict_of [clubD c] st = .ok (.d (conflictD c)) st := by
  have e1 := need_club_ok (st := st) hc
  have e2 := conflict_in_ok (st := st) hc.few
  have e3 := (thing_facts (conf_thing hc)).2.1 st.length
  unfold f_conflict_of
  rcases conf_shape2 c with q | ⟨t, q, ht⟩ | q <;> rw [q] at e2 ⊢ <;> simp_arith [b_conflict_of, e1, e2]
theorem told_ok2 (hc : Club c) : f__law_told [clubD c] st = .ok (.d (conflictD c)) st := by
  have e1 := need_club_ok (st := st) hc
  have e2 := conflict_in_ok (st := st) hc.few
  rcases conf_shape2 c with q | ⟨t, q, ht⟩ | q
  · have P := conf_poss hc q
    have e3 := need_possible_ok (st := st) P
    have e4 := ways_of_ok (st := st) P
    have e5 : f_count_ways [clubD c] st = .ok (.d (.int ((allW c).length : Nat))) st := by
      unfold f_count_ways
      simp_arith [b_count_ways, e1, e3, e4]
    rw [q]
    unfold f__law_told
    simp_arith [b__law_told, e5]
  · rw [q] at e2 ⊢
    have e3 : f_need_possible [clubD c] st = .ex ⟨"Impossible", [("word", .str "day"), ("number", .int t)]⟩ st := by
      unfold f_need_possible
      simp_arith [b_need_possible, e2, opIs, D.isNon]
    have e5 : f_count_ways [clubD c] st = .ex ⟨"Impossible", [("word", .str "day"), ("number", .int t)]⟩ st := by
      unfold f_count_ways
      simp_arith [b_count_ways, e1, e3]
    unfold f__law_told
    simp_arith [b__law_told, e5]
  · rw [q] at e2 ⊢
    have e3 : f_need_possible [clubD c] st = .ex ⟨"Impossible", [("word", .str "left"), ("number", .int (leftN c))]⟩ st := by
      unfold f_need_possible
      simp_arith [b_need_possible, e2, opIs, D.isNon]
    have e5 : f_count_ways [clubD c] st = .ex ⟨"Impossible", [("word", .str "left"), ("number", .int (leftN c))]⟩ st := by
      unfold f_count_ways
      simp_arith [b_count_ways, e1, e3]
    unfold f__law_told
    simp_arith [b__law_told, e5]
theorem ways_iff (hc : Club c) : (conflictD c).isNon = !(allW c).isEmpty := by
  have hn : ∀ b, b < c.length → 0 ≤ (mAt c b).n := fun b hb => (hc.ok _ (List.mem_of_getElem? (mAt_g hb))).2.1
  cases q : (conflictD c).isNon
  · cases he : allW c with
    | nil => rfl
    | cons w l =>
      have hw : IsWay c w := (mem_allW hc.asc hn w).mp (by rw [he]; exact List.mem_cons_self)
      have := (hw.poss hc).none
      rw [this] at q; cases q
  · have hq : conflictD c = .non := by
      rcases conf_shape2 c with h | ⟨t, h, _⟩ | h
      · exact h
      · rw [h] at q; cases q
      · rw [h] at q; cases q
    have P := conf_poss hc hq
    obtain ⟨k, hk⟩ : ∃ k : Nat, (c.map wF).sum = k := by
      have : ∀ l : List Mem, 0 ≤ (l.map wF).sum := fun l => by
        induction l with
        | nil => simp
        | cons m l ih =>
          rw [List.map_cons, List.sum_cons]
          have : 0 ≤ wF m := by unfold wF; split <;> omega
          omega
      exact ⟨((c.map wF).sum).toNat, by have := this c; omega⟩
    obtain ⟨w, hw⟩ := fine_way k c hk ⟨fun m hm => (hc.ok m hm).2.1, fun m hm => P.slack _ (mem_dayS.mpr ⟨m, hm, rfl⟩), P.left⟩
    have := (mem_allW hc.asc hn w).mpr hw
    cases he : allW c with
    | nil => rw [he] at this; cases this
    | cons w l => rfl
theorem wfac_obs (n : Nat) (l : List (List (Option Nat))) : D.plainsN (n + 1) (l.map fun w => .lst (w.map obD)) = true := (plainsN_iff _ _).mpr fun d hd => by
  obtain ⟨w, _, rfl⟩ := List.mem_map.mp hd
  rw [plain_lst]
  exact (plainsN_iff _ _).mpr fun d hd => by
    obtain ⟨o, _, rfl⟩ := List.mem_map.mp hd
    cases o
    · exact plain_non _
    · exact plain_int' _ _
theorem eqvs_ways (l : List (List (Option Nat))) : D.eqvs (l.map fun w => .lst (w.map obD)) [] = l.isEmpty := by
  cases l with
  | nil => exact eqvs_nil
  | cons a l => rfl
theorem right_ok2 (hc : Club c) : f__law_right [clubD c] st = .ok (.d (.bl true)) st := by
  have hf := hc.few
  obtain ⟨t0, ht0⟩ : ∃ t, biRepr [.lst (c.map Mem.D)] = some (.d (.str t)) := ⟨_, repr_club hc⟩
  obtain ⟨f1, f2, ⟨t1, f3⟩, f4⟩ := thing_facts (conf_thing hc)
  have f2 := f2 st.length
  have ht1 : biRepr [conflictD c] = some (.d (.str t1)) := by rw [repr_eq, f3]; rfl
  have e1 := law_conflict_ok (st := st) hc
  have e2 := conflict_of2 (st := st) hc
  have e3 := told_ok2 (st := st) hc
  have hk : SV.keep st.length (.d (conflictD c)) = .d (conflictD c) := by
    rcases conf_shape2 c with q | ⟨t, q, ht⟩ | q <;> rw [q] <;> first | rfl | simp only [keep_tup, D.unders, D.under, Bool.and_self, if_true]
  have uc := unders_mems st.length c
  have hi := ways_iff hc
  have hp1 : ∀ n, D.plainN n (.str "day") = true := fun n => by cases n <;> exact (show strOk _ = true by decide +kernel)
  have hp2 : ∀ n, D.plainN n (.str "left") = true := fun n => by cases n <;> exact (show strOk _ = true by decide +kernel)
  have pw := fun n => wfac_obs n (allW c)
  have pe := eqvs_ways (allW c)
  have e4 : c.length ≤ 6 → f__law_all_ways [clubD c] st = .ok (.new (.lst ((allW c).map fun w => .lst (w.map obD)))) st := fun h => all_ways_ok hc (by omega)
  unfold clubD at e1 e2 e3 e4
  by_cases h6 : c.length ≤ 6
  · have e4 := e4 h6
    have h6' : ((c.length : Int) ≤ 6) := by omega
    rcases conf_shape2 c with q | ⟨t, q, ht⟩ | q
    · rw [q] at e1 e2 e3 ht1 hi hk
      have hi : (allW c).isEmpty = false := by cases z : (allW c).isEmpty <;> rw [z] at hi <;> first | rfl | cases hi
      unfold f__law_right
      simp_arith [b__law_right, clubD, ht0, e1, e2, e3, ht1, h6', e4, opIs, D.isNon, pw, pe, hi, show D.eqv .non .non = true from rfl]
    · rw [q] at e1 e2 e3 ht1 hi hk
      have hi : (allW c).isEmpty = true := by cases z : (allW c).isEmpty <;> rw [z] at hi <;> first | rfl | cases hi
      unfold f__law_right
      simp_arith [b__law_right, clubD, ht0, e1, e2, e3, ht1, h6', e4, opIs, D.isNon, pw, pe, hi, hp1]
    · rw [q] at e1 e2 e3 ht1 hi hk
      have hi : (allW c).isEmpty = true := by cases z : (allW c).isEmpty <;> rw [z] at hi <;> first | rfl | cases hi
      unfold f__law_right
      simp_arith [b__law_right, clubD, ht0, e1, e2, e3, ht1, h6', e4, opIs, D.isNon, pw, pe, hi, hp2]
  · have h6' : ¬ ((c.length : Int) ≤ 6) := by omega
    rcases conf_shape2 c with q | ⟨t, q, ht⟩ | q
    · rw [q] at e1 e2 e3 ht1 hk
      unfold f__law_right
      simp_arith [b__law_right, clubD, ht0, e1, e2, e3, ht1, h6', opIs, D.isNon, show D.eqv .non .non = true from rfl]
    · rw [q] at e1 e2 e3 ht1 hk
      unfold f__law_right
      simp_arith [b__law_right, clubD, ht0, e1, e2, e3, ht1, h6', opIs, D.isNon, hp1]
    · rw [q] at e1 e2 e3 ht1 hk
      unfold f__law_right
      simp_arith [b__law_right, clubD, ht0, e1, e2, e3, ht1, h6', opIs, D.isNon, hp2]
end

end G4

namespace G4
open PySem PySem.Spec PyProof.Rows L2
local macro_rules
  | `(tactic| simp_arith [$as,*]) => `(tactic| simp -implicitDefEqProofs only [tl_table_of_1, tl_table_of_2, tl_table_of_3, tl_ways_of_1, tl_ways_of_2, tl__law_toss_1, tl__law_toss_2, tl__law_toss_3, tl__law_made_1, tl__law_made_2, tl__law_made_3, tl__law_made_4, tl__law_made_5, tl__law_made_6, tl__law_made_7, tl__law_made_8, tl__law_bent_1, tl__law_bent_2, tl__law_bent_3, tl__law_bent_4, tl__law_right_1, tl__law_right_2, tl_law_1, tl_law_2, tl_law_3, tl_law_4, tl_law_5, tl_law_6, ↓bnd_eq, ↓off_eq, ↓thn_eq, run_eq, fin_nx, fin_rt, fin_ex, S.hide, hideSl, exms, exm, ev, evT, evs, evOs, evo, evc, evSrc, evPar, hb_ok, hb_ex, ho_ok, ho_ex, ht_nx, ht_rt, ht_ex, tb_nx, tb_rt, tb_ex, hd_setB, hd_setT, hd_retT, D.flat, opd_d, opd_pl, opd_lst, opd_ex, val_d, val_lst, List.append_assoc, List.length_set, gc_push, gc_id, take_push, take_id, get_app0, get_app1, get_app2, isNew0, isNew1, isNew_int, isNew_str, isNew_bl, isNew_non, isNew_tup, isNew_lst, keep_un, keep_int, keep_bl, keep_non, keep_str, keep_scr, keep_obj, keep_own_lst, keep_own_dK, pureK_nil, keep_lst, keep_tup, D.unders, ne_succ, ne_succ1, eq_self, nodup2, nodup3, List.filterMap_cons, List.filterMap_nil, putPar, D.under, List.nodup_cons, List.mem_cons, List.not_mem_nil, or_self, or_false, Nat.reduceEqDiff, List.nodup_nil, true_and, and_true, bits10, Int.reduceMul, Int.reduceLE, Int.reduceLT, Int.reducePow, Int.reduceAdd, Int.reduceSub, Int.reduceNeg, Int.reduceToNat, val_dK, putTs_nil, putTs_nm, putTs_sub, val_ex, val_pl, valPl_lst, valPl_d, opt_some, toO_ok, toO_ex, asBl_ok, List.map_cons, List.map_nil, List.length_cons, List.length_nil, Nat.reduceAdd, Nat.reduceSub, Nat.zero_add, List.replicate, List.cons_append, List.nil_append, List.getElem?_cons_zero, List.getElem?_cons_succ, List.set_cons_zero, List.set_cons_succ, S.rd, S.rdD, S.store, OS.opt, Option.bind_some, Option.map_some, Cell.view, S.cell, S.isLst, S.isDct, S.rdDct, dgetV, dixV, augV, S.put, S.rdLst, cmpV, opCmp, opEq_str, opEq_int, opEq_bl, opEq_non, opEq_lst, opEq_tup, pures_app, eqv_int, eqv_bl, eqv_lst, eqv_tup, eqvs_nil, eqvs_ints, eqvs_cons, eqv_str, opIn_ints, unders_ints, set_app0, set_app1, binV, opBin, ixV, opIx, biV, biSem, biLen, biInt, biAbs, biMax2, biMin2, biSum, biAll, biAny, biList, biTuple, List.mapM_cons, List.mapM_nil, bind, pure, Option.bind, truV, D.tru, isiV, D.kind, Ty.sub, List.any_cons, List.any_nil, decide_true, decide_false, Int.cast_ofNat_Int, beq_self_eq_true, Bool.false_and, Bool.true_or, Bool.false_or, Bool.or_false, Bool.and_true, Bool.true_and, Bool.and_self, if_true, if_false, Bool.false_eq_true, reduceCtorEq, Bool.not_true, Bool.not_false, finish, D.pure, D.pures, Cell.pure, List.take_length, and_self, not_true_eq_false, not_false_eq_true, plain_int', plain_lst, plain_tup, plain_non, plain_bl, D.plainsN, pures_ints, plain_ints, List.length_map, List.length_append, at1, at2, at3, at4, at5, muV, muSem, muApp, setIx, S.fz, perm, List.getD_cons_zero, List.getD_cons_succ, $as,*])
/-! ### k02: the end -/
theorem far_at (r : Int) (h0 : 0 ≤ r) (h1 : r < 2) : ∃ far, atI [D.int 4, .int 10000000000000000000000000000] r = some (.int far) ∧ 1 ≤ far ∧ far ≤ 10 ^ 28 := by
  have : r = 0 ∨ r = 1 := by omega
  rcases this with rfl | rfl
  · exact ⟨4, rfl, by omega, by omega⟩
  · exact ⟨_, rfl, by omega, by omega⟩
theorem size_turn {n size : Nat} {ns : List Int} {k : Int} {x : Cell} {v2 v3 v4 v6 v8 v9 v10 : SV} (hx : Pu x (n + 400)) (h1 : 1 ≤ size) (h2 : size ≤ 60) :
    ∃ y u8 u9 u10, exms fb_law_1 ⟨[.d (.scr ns), .d (.int k), v2, v3, v4, .d (.obj 0), v6, .d (.int size), v8, v9, v10, .un], [x]⟩ = .nx ⟨[.d (.scr ns), .d (.int k), v2, v3, v4, .d (.obj 0), v6, .d (.int size), u8, u9, u10, .un], [y]⟩ ∧ Pu y n := by
  have hp : 0 < [x].length := by simp
  obtain ⟨r1, y1, e1, a1, b1, q1⟩ := toss (st := [x]) (p := 0) hp (n := n + 399) hx (m := 2) (by omega) (by omega)
  obtain ⟨far, hf, f1, f2⟩ := far_at r1 a1 b1
  obtain ⟨c, w, y2, e2, q2, hc, hw, _⟩ := made_ok (st := [x]) (p := 0) hp (n := n + 90) (q1.mono (by omega)) h1 h2 f1 f2
  obtain ⟨c', y4, e4, q4, hc', _⟩ := bent_ok (st := [x]) (p := 0) hp (n := n + 60) (q2.mono (by omega)) hc
  have e3 := conflict_of2 (st := [y4]) hc
  have e5 := right_ok2 (st := [y4]) hc
  have e6 := right_ok2 (st := [y4]) hc'
  obtain ⟨c2, y5, e7, q5, hc2, _⟩ := bent_ok (st := [x]) (p := 0) hp (n := n) (q4.mono (by omega)) hc'
  have e8 := right_ok2 (st := [y5]) hc2
  rw [(hw.poss hc).none] at e3
  simp only [List.set_cons_zero] at e1 e2 e4 e7
  refine ⟨y5, .d (clubD c), .d (.lst (w.map obD)), .d (clubD c'), ?_, q5⟩
  unfold clubD at e2 e3 e4 e5 e6 e7 e8
  unfold fb_law_1
  simp_arith [e1, hf, e2, e3, e4, e5, e6, e7, e8, asg_nm, asg_tp, asgs_nil, asgs_cons, clubD, opIs, D.isNon]
theorem sizes_loop {ns : List Int} {k N : Nat} {v2 v3 v4 v6 : SV} : ∀ (l : List Nat) (x : Cell) (v7 v8 v9 v10 : SV), (∀ s ∈ l, 1 ≤ s ∧ s ≤ 60) → Pu x (N + 400 * l.length) →
    ∃ y u7 u8 u9 u10, forLoop (fun x s => T.asg (.nm 7) x s) (fun s => exms fb_law_1 s) 1 (l.map fun i : Nat => D.int i) ⟨[.d (.scr ns), .d (.int k), v2, v3, v4, .d (.obj 0), v6, v7, v8, v9, v10, .un], [x]⟩ = .nx ⟨[.d (.scr ns), .d (.int k), v2, v3, v4, .d (.obj 0), v6, u7, u8, u9, u10, .un], [y]⟩ ∧ Pu y N
  | [], x, v7, v8, v9, v10, _, hx => ⟨x, v7, v8, v9, v10, rfl, hx⟩
  | s :: l, x, v7, v8, v9, v10, hl, hx => by
    obtain ⟨s0, s1⟩ := hl s List.mem_cons_self
    obtain ⟨y, u8, u9, u10, k1, k2⟩ := size_turn (ns := ns) (k := k) (n := N + 400 * l.length) (v2 := v2) (v3 := v3) (v4 := v4) (v6 := v6) (v8 := v8) (v9 := v9) (v10 := v10) (hx.mono (by rw [List.length_cons]; omega)) s0 s1
    obtain ⟨y2, w7, w8, w9, w10, l1, l2⟩ := sizes_loop (ns := ns) (k := k) (N := N) (v2 := v2) (v3 := v3) (v4 := v4) (v6 := v6) l y (.d (.int s)) u8 u9 u10 (fun z hz => hl z (List.mem_cons_of_mem _ hz)) k2
    refine ⟨y2, w7, w8, w9, w10, ?_, l2⟩
    rw [List.map_cons, forLoop]
    simp only [asg_nm, List.set_cons_succ, List.set_cons_zero, k1, gc_id rfl]
    exact l1
theorem law_turn {ns : List Int} {k : Nat} {v2 v3 v4 v5 v6 v7 v8 v9 v10 : SV} (hk : k ≤ 63) :
    ∃ s2 u2 u3 u4 u5 u6 u7 u8 u9 u10, exms fb_law_2 ⟨[.d (.scr ns), .d (.int k), v2, v3, v4, v5, v6, v7, v8, v9, v10, .un], []⟩ = .nx s2 ∧ s2.gc 0 = ⟨[.d (.scr ns), .d (.int k), u2, u3, u4, u5, u6, u7, u8, u9, u10, .un], []⟩ := by
  obtain ⟨a, b, e0, b0, b1⟩ := purse_ok (st := []) (ns := ns) hk
  have hp : 0 < [pcell a b 0].length := by simp
  have p0 : Pu (pcell a b 0) 2000 := ⟨a, b, 0, rfl, ⟨b0, by omega⟩, by omega, by omega⟩
  obtain ⟨r1, y1, e1, a1, b1, q1⟩ := toss (st := [pcell a b 0]) (p := 0) hp (n := 1999) p0 (m := 6) (by omega) (by omega)
  obtain ⟨r2, y2, e2, a2, b2, q2⟩ := toss (st := [pcell a b 0]) (p := 0) hp (n := 1998) q1 (m := 6) (by omega) (by omega)
  obtain ⟨r3, y3, e3, a3, b3, q3⟩ := toss (st := [pcell a b 0]) (p := 0) hp (n := 1997) q2 (m := 50) (by omega) (by omega)
  obtain ⟨r4, y4, e4, a4, b4, q4⟩ := toss (st := [pcell a b 0]) (p := 0) hp (n := 1996) q3 (m := 2) (by omega) (by omega)
  obtain ⟨s1, hs1, s10, s11⟩ : ∃ s1 : Nat, 1 + r1 = s1 ∧ 1 ≤ s1 ∧ s1 ≤ 60 := ⟨(1 + r1).toNat, by omega, by omega, by omega⟩
  obtain ⟨s2, hs2, s20, s21⟩ : ∃ s2 : Nat, 1 + r2 = s2 ∧ 1 ≤ s2 ∧ s2 ≤ 60 := ⟨(1 + r2).toNat, by omega, by omega, by omega⟩
  obtain ⟨s3, hs3, s30, s31⟩ : ∃ s3 : Nat, atI [D.int 60, .int (10 + r3)] r4 = some (.int s3) ∧ 1 ≤ s3 ∧ s3 ≤ 60 := by
    have : r4 = 0 ∨ r4 = 1 := by omega
    rcases this with rfl | rfl
    · exact ⟨60, rfl, by omega, by omega⟩
    · exact ⟨(10 + r3).toNat, by show some (D.int (10 + r3)) = _; rw [Int.toNat_of_nonneg (by omega)], by omega, by omega⟩
  simp only [List.set_cons_zero] at e1 e2 e3 e4
  obtain ⟨y, u7, u8, u9, u10, l1, l2⟩ := sizes_loop (ns := ns) (k := k) (N := 1) (v2 := v2) (v3 := v3) (v4 := v4) (v6 := .d (.lst ([s1, s2, s3].map fun i : Nat => D.int i))) [s1, s2, s3] y4 v7 v8 v9 v10 (fun z hz => by
    simp only [List.mem_cons, List.not_mem_nil, or_false] at hz
    rcases hz with rfl | rfl | rfl
    · exact ⟨s10, s11⟩
    · exact ⟨s20, s21⟩
    · exact ⟨s30, s31⟩) (q4.mono (by simp))
  refine ⟨⟨[.d (.scr ns), .d (.int k), v2, v3, v4, .d (.obj 0), .d (.lst ([s1, s2, s3].map fun i : Nat => D.int i)), u7, u8, u9, u10, .un], [y]⟩, SV.keep 0 v2, SV.keep 0 v3, SV.keep 0 v4, .un, SV.keep 0 (.d (.lst ([s1, s2, s3].map fun i : Nat => D.int i))), SV.keep 0 u7, SV.keep 0 u8, SV.keep 0 u9, SV.keep 0 u10, ?_, rfl⟩
  have pp : (pcell a b 0).pure = true := rfl
  simp only [List.map_cons, List.map_nil] at l1
  unfold pcell at e0 e1 pp
  unfold fb_law_2
  simp_arith [e0, pp, e1, e2, e3, e4, hs1, hs2, hs3]
  rw [l1]
  simp_arith [take_id]
def c6 : List Mem := [⟨0, false, 2⟩, ⟨0, false, 1⟩, ⟨1, true, 1⟩, ⟨1, true, 0⟩, ⟨2, true, 0⟩, ⟨3, true, 0⟩]
def some8 : List (List Mem) := [c6, [⟨0, false, 2⟩, ⟨0, false, 1⟩, ⟨1, true, 1⟩, ⟨1, true, 0⟩, ⟨2, true, 0⟩], [⟨0, false, 1⟩, ⟨1, true, 1⟩, ⟨1, true, 0⟩, ⟨2, true, 0⟩, ⟨3, true, 0⟩], [⟨0, true, 0⟩], [⟨5, false, 3⟩], [⟨0, false, 1⟩, ⟨0, true, 0⟩], [⟨0, false, 2⟩, ⟨1, true, 1000000000000000000000000000000⟩], [⟨0, false, 0⟩, ⟨3, true, 1⟩, ⟨3, false, 0⟩]]
theorem club_of2 {c : List Mem} (h1 : c ≠ []) (h2 : c.length ≤ 60) (h3 : (c.all fun m => decide (0 ≤ m.d) && decide (m.d ≤ 10 ^ 30) && decide (0 ≤ m.n) && decide (m.n ≤ 10 ^ 30)) = true) (h4 : (c.map (·.d)).Pairwise (· ≤ ·)) : Club c := by
  refine ⟨h1, h2, fun m hm => ?_, List.pairwise_map.mp h4⟩
  have := List.all_eq_true.mp h3 m hm
  simp only [Bool.and_eq_true, decide_eq_true_eq] at this
  exact ⟨⟨this.1.1.1, this.1.1.2⟩, this.1.2, this.2⟩
theorem conf_d {c : List Mem} (i : Nat) {m : Mem} {t : Int} (hA : (c.map (·.d)).Pairwise (· ≤ ·)) (h1 : c[i]? = some m) (ht : m.d = t) (h2 : decide (slackT c t < 0) = true) (h3 : ((c.take i).all fun m => decide (0 ≤ slackT c m.d)) = true) : conflictD c = .tup [.str "day", .int t] := by
  subst ht
  refine conf_first (List.pairwise_map.mp hA) h1 (of_decide_eq_true h2) fun k x hk hx => ?_
  have : x ∈ c.take i := List.mem_iff_getElem?.mpr ⟨k, by rw [List.getElem?_take, if_pos hk]; exact hx⟩
  exact of_decide_eq_true (List.all_eq_true.mp h3 x this)
theorem conf_l {c : List Mem} {k : Int} (h : (c.all fun m => decide (0 ≤ slackT c m.d)) = true) (h2 : leftN c = k) (h3 : k ≠ 0) : conflictD c = .tup [.str "left", .int k] := by
  rw [conf_none fun m hm => of_decide_eq_true (List.all_eq_true.mp h m hm)]
  subst h2
  simp [h3]
theorem conf_n {c : List Mem} (h : (c.all fun m => decide (0 ≤ slackT c m.d)) = true) (h2 : leftN c = 0) : conflictD c = .non := by
  rw [conf_none fun m hm => of_decide_eq_true (List.all_eq_true.mp h m hm)]
  simp [h2]
theorem one_ok {c : List Mem} {P : D} (hc : Club c) (h : conflictD c = P) : f_conflict_of [clubD c] [] = .ok (.d P) [] := by
  rw [← h]; exact conflict_of2 hc
theorem law_true : ∀ ns : List Int, ns.length ≤ 63 → (∀ i ∈ ns, Builtin.Int.intBits i ≤ 1048576) → ∃ st, f_law [.scr ns] [] = .ok (.d (.bl true)) st := by
  intro ns hn _
  obtain ⟨m, hm, hm2⟩ : ∃ m : Nat, (if (if (ns.length : Int) < 5 then (ns.length : Int) else 5) > 1 then (if (ns.length : Int) < 5 then (ns.length : Int) else 5) else 1) = m ∧ m ≤ 63 := by
    by_cases h : (ns.length : Int) < 5
    · by_cases h2 : (ns.length : Int) > 1
      · exact ⟨ns.length, by rw [if_pos h, if_pos h2], by omega⟩
      · exact ⟨1, by rw [if_pos h, if_neg h2]; rfl, by omega⟩
    · exact ⟨5, by rw [if_neg h]; rfl, by omega⟩
  obtain ⟨s', l1, v1, v2, v3, v4, v5, v6, v7, v8, v9, v10, rfl⟩ := for_rng (v := 1) (body := fun s => exms fb_law_2 s) (n := 0) m (fun _ s => ∃ v1 v2 v3 v4 v5 v6 v7 v8 v9 v10, s = ⟨[.d (.scr ns), v1, v2, v3, v4, v5, v6, v7, v8, v9, v10, .un], []⟩)
    ⟨[.d (.scr ns), .un, .un, .un, .un, .un, .un, .un, .un, .un, .un, .un], []⟩ ⟨_, _, _, _, _, _, _, _, _, _, rfl⟩ fun j s hj hI => by
      obtain ⟨v1, v2, v3, v4, v5, v6, v7, v8, v9, v10, rfl⟩ := hI
      obtain ⟨s2, u2, u3, u4, u5, u6, u7, u8, u9, u10, h1, h2⟩ := law_turn (ns := ns) (k := j) (v2 := v2) (v3 := v3) (v4 := v4) (v5 := v5) (v6 := v6) (v7 := v7) (v8 := v8) (v9 := v9) (v10 := v10) (by omega)
      exact ⟨s2, .inl h1, _, u2, u3, u4, u5, u6, u7, u8, u9, u10, h2⟩
  refine ⟨[], ?_⟩
  have t1 := one_ok (c := c6) (club_of2 (by decide) (by decide) (by decide +kernel) (by decide)) (conf_n (by decide +kernel) (by decide +kernel))
  have t2 := one_ok (c := [⟨0, false, 2⟩, ⟨0, false, 1⟩, ⟨1, true, 1⟩, ⟨1, true, 0⟩, ⟨2, true, 0⟩]) (club_of2 (by simp) (by decide) (by decide +kernel) (by decide)) (conf_l (k := 1) (by decide +kernel) (by decide +kernel) (by decide))
  have t3 := one_ok (c := [⟨0, false, 1⟩, ⟨1, true, 1⟩, ⟨1, true, 0⟩, ⟨2, true, 0⟩, ⟨3, true, 0⟩]) (club_of2 (by simp) (by decide) (by decide +kernel) (by decide)) (conf_d 1 (t := 1) (by decide) rfl rfl (by decide +kernel) (by decide +kernel))
  have t4 := one_ok (c := [⟨0, true, 0⟩]) (club_of2 (by simp) (by decide) (by decide +kernel) (by decide)) (conf_d 0 (t := 0) (by decide) rfl rfl (by decide +kernel) (by decide +kernel))
  have t5 := one_ok (c := [⟨5, false, 3⟩]) (club_of2 (by simp) (by decide) (by decide +kernel) (by decide)) (conf_l (k := 3) (by decide +kernel) (by decide +kernel) (by decide))
  have t6 := one_ok (c := [⟨0, false, 1⟩, ⟨0, true, 0⟩]) (club_of2 (by simp) (by decide) (by decide +kernel) (by decide)) (conf_d 0 (t := 0) (by decide) rfl rfl (by decide +kernel) (by decide +kernel))
  have t7 := one_ok (c := [⟨0, false, 2⟩, ⟨1, true, 1000000000000000000000000000000⟩]) (club_of2 (by simp) (by decide) (by decide +kernel) (by decide)) (conf_l (k := 1000000000000000000000000000001) (by decide +kernel) (by decide +kernel) (by decide))
  have t8 := one_ok (c := [⟨0, false, 0⟩, ⟨3, true, 1⟩, ⟨3, false, 0⟩]) (club_of2 (by simp) (by decide) (by decide +kernel) (by decide)) (conf_d 1 (t := 3) (by decide) rfl rfl (by decide +kernel) (by decide +kernel))
  have c1 : cut (c6.map Mem.D) none (some 5) = (c6.take 5).map Mem.D := rfl
  have c2 : cut (c6.map Mem.D) (some 1) none = (c6.drop 1).map Mem.D := rfl
  have hb : 8 ≤ big := by decide
  have hp1 : ∀ n, D.plainN n (.str "day") = true := fun n => by cases n <;> exact (show strOk _ = true by decide +kernel)
  have hp2 : ∀ n, D.plainN n (.str "left") = true := fun n => by cases n <;> exact (show strOk _ = true by decide +kernel)
  simp only [clubD, c6, List.map_cons, List.map_nil, Mem.D, wd, Bool.false_eq_true, if_false, if_true, List.take_succ_cons, List.take_zero, List.drop_succ_cons, List.drop_zero] at t1 t2 t3 t4 t5 t6 t7 t8 c1 c2
  unfold f_law
  simp_arith [b_law, hm, rng1_nat (show m ≤ 1000000 by omega)]
  rw [l1]
  simp_arith [opSl, c1, c2, lc_law_1, lcLoop, asg_nm, backSl, O.noex, List.all_cons, List.all_nil, List.getD_cons_succ, List.getD_cons_zero, SV.isOwn, hb, t1, t2, t3, t4, t5, t6, t7, t8, hp1, hp2, show D.eqv .non .non = true from rfl]

end G4

namespace G4
open PySem PySem.Spec PyProof.Rows L2
theorem all_mk {P : Program} {w : World} {K : PySem.W.Frag} {h : Heap} {mg : Str → Option Value} {fa : Addr} (X : K.In h) (G : h.Ns mainGlobals mg) (hfa : mg "law" = some (.ref fa))
    {f0 : Addr} {od0 an0 : Option Addr} {sl0 : Array (Option Value)} {oc0 kV0 dc0 pm0 cd0 ct0 : Value}
    {f1 : Addr} {od1 an1 : Option Addr} {sl1 : Array (Option Value)} {oc1 kV1 dc1 pm1 cd1 ct1 : Value}
    {f2 : Addr} {od2 an2 : Option Addr} {sl2 : Array (Option Value)} {oc2 kV2 dc2 pm2 cd2 ct2 : Value}
    {f3 : Addr} {od3 an3 : Option Addr} {sl3 : Array (Option Value)} {oc3 kV3 dc3 pm3 cd3 ct3 : Value}
    {f4 : Addr} {od4 an4 : Option Addr} {sl4 : Array (Option Value)} {oc4 kV4 dc4 pm4 cd4 ct4 : Value}
    {f5 : Addr} {od5 an5 : Option Addr} {sl5 : Array (Option Value)} {oc5 kV5 dc5 pm5 cd5 ct5 : Value}
    {f6 : Addr} {od6 an6 : Option Addr} {sl6 : Array (Option Value)} {oc6 kV6 dc6 pm6 cd6 ct6 : Value}
    {f7 : Addr} {od7 an7 : Option Addr} {sl7 : Array (Option Value)} {oc7 kV7 dc7 pm7 cd7 ct7 : Value}
    {f8 : Addr} {od8 an8 : Option Addr} {sl8 : Array (Option Value)} {oc8 kV8 dc8 pm8 cd8 ct8 : Value}
    {f9 : Addr} {od9 an9 : Option Addr} {sl9 : Array (Option Value)} {oc9 kV9 dc9 pm9 cd9 ct9 : Value}
    {f10 : Addr} {od10 an10 : Option Addr} {sl10 : Array (Option Value)} {oc10 kV10 dc10 pm10 cd10 ct10 : Value}
    {f11 : Addr} {od11 an11 : Option Addr} {sl11 : Array (Option Value)} {oc11 kV11 dc11 pm11 cd11 ct11 : Value}
    {f12 : Addr} {od12 an12 : Option Addr} {sl12 : Array (Option Value)} {oc12 kV12 dc12 pm12 cd12 ct12 : Value}
    {f13 : Addr} {od13 an13 : Option Addr} {sl13 : Array (Option Value)} {oc13 kV13 dc13 pm13 cd13 ct13 : Value}
    {f14 : Addr} {od14 an14 : Option Addr} {sl14 : Array (Option Value)} {oc14 kV14 dc14 pm14 cd14 ct14 : Value}
    {f15 : Addr} {od15 an15 : Option Addr} {sl15 : Array (Option Value)} {oc15 kV15 dc15 pm15 cd15 ct15 : Value}
    {f16 : Addr} {od16 an16 : Option Addr} {sl16 : Array (Option Value)} {oc16 kV16 dc16 pm16 cd16 ct16 : Value}
    {f17 : Addr} {od17 an17 : Option Addr} {sl17 : Array (Option Value)} {oc17 kV17 dc17 pm17 cd17 ct17 : Value}
    {f18 : Addr} {od18 an18 : Option Addr} {sl18 : Array (Option Value)} {oc18 kV18 dc18 pm18 cd18 ct18 : Value}
    {f19 : Addr} {od19 an19 : Option Addr} {sl19 : Array (Option Value)} {oc19 kV19 dc19 pm19 cd19 ct19 : Value}
    {f20 : Addr} {od20 an20 : Option Addr} {sl20 : Array (Option Value)} {oc20 kV20 dc20 pm20 cd20 ct20 : Value}
    {f21 : Addr} {od21 an21 : Option Addr} {sl21 : Array (Option Value)} {oc21 kV21 dc21 pm21 cd21 ct21 : Value}
    {tg0 : Tok}
    {tg1 : Tok}
    {ag2 : Addr} {og2 : Option Addr} {ng2 : Nat} {sg2 : Array (Option Value)} {tg2_0 : Tok} {tg2_1 : Tok}
    {C0 : Addr}
    {C1 : Addr}
    {fI0 B0 : Addr} {odI0 anI0 : Option Addr} {slI0 : Array (Option Value)} {ocI0 kVI0 dcI0 pmI0 cdI0 ctI0 : Value}
    {nmO0 qO0 : Str} {NO0 BB0 : Addr} {bsO0 : List Value} {snO0 : List Str} {subO0 : List Value} {abO0 : Bool} {colO0 : Option Bool} {ddO0 : Option Addr} {mO0_0 mO0_1 mO0_2 mO0_3 mO0_5 : Option Value}
    (a0 : PySem.W.nsIn K mainGlobals "brought_of" = some (some (.ref f0)))
    (l0 : K.lookup f0 = some ⟨oc0, od0, .func (PySem.W.fnOf "brought_of" "brought_of" (defArgs (topS 13)) (defBody (topS 13)) (defScope (topS 13)) .none kV0 dc0 pm0 an0 cd0 ct0), sl0⟩)
    (c0 : PySem.W.codeIn K cd0 "brought_of" = true)
    (k0 : PySem.W.keepIn K (.ref f0) = true)
    (a1 : PySem.W.nsIn K mainGlobals "left_over" = some (some (.ref f1)))
    (l1 : K.lookup f1 = some ⟨oc1, od1, .func (PySem.W.fnOf "left_over" "left_over" (defArgs (topS 15)) (defBody (topS 15)) (defScope (topS 15)) .none kV1 dc1 pm1 an1 cd1 ct1), sl1⟩)
    (c1 : PySem.W.codeIn K cd1 "left_over" = true)
    (k1 : PySem.W.keepIn K (.ref f1) = true)
    (a2 : PySem.W.nsIn K mainGlobals "table_of" = some (some (.ref f2)))
    (l2 : K.lookup f2 = some ⟨oc2, od2, .func (PySem.W.fnOf "table_of" "table_of" (defArgs (topS 14)) (defBody (topS 14)) (defScope (topS 14)) .none kV2 dc2 pm2 an2 cd2 ct2), sl2⟩)
    (c2 : PySem.W.codeIn K cd2 "table_of" = true)
    (k2 : PySem.W.keepIn K (.ref f2) = true)
    (a3 : PySem.W.nsIn K mainGlobals "conflict_in" = some (some (.ref f3)))
    (l3 : K.lookup f3 = some ⟨oc3, od3, .func (PySem.W.fnOf "conflict_in" "conflict_in" (defArgs (topS 16)) (defBody (topS 16)) (defScope (topS 16)) .none kV3 dc3 pm3 an3 cd3 ct3), sl3⟩)
    (c3 : PySem.W.codeIn K cd3 "conflict_in" = true)
    (k3 : PySem.W.keepIn K (.ref f3) = true)
    (a4 : PySem.W.nsIn K mainGlobals "is_integer" = some (some (.ref f4)))
    (l4 : K.lookup f4 = some ⟨oc4, od4, .func (PySem.W.fnOf "is_integer" "is_integer" (defArgs (topS 8)) (defBody (topS 8)) (defScope (topS 8)) .none kV4 dc4 pm4 an4 cd4 ct4), sl4⟩)
    (c4 : PySem.W.codeIn K cd4 "is_integer" = true)
    (k4 : PySem.W.keepIn K (.ref f4) = true)
    (a5 : PySem.W.nsIn K mainGlobals "is_count" = some (some (.ref f5)))
    (l5 : K.lookup f5 = some ⟨oc5, od5, .func (PySem.W.fnOf "is_count" "is_count" (defArgs (topS 9)) (defBody (topS 9)) (defScope (topS 9)) .none kV5 dc5 pm5 an5 cd5 ct5), sl5⟩)
    (c5 : PySem.W.codeIn K cd5 "is_count" = true)
    (k5 : PySem.W.keepIn K (.ref f5) = true)
    (a6 : PySem.W.nsIn K mainGlobals "is_told_member" = some (some (.ref f6)))
    (l6 : K.lookup f6 = some ⟨oc6, od6, .func (PySem.W.fnOf "is_told_member" "is_told_member" (defArgs (topS 10)) (defBody (topS 10)) (defScope (topS 10)) .none kV6 dc6 pm6 an6 cd6 ct6), sl6⟩)
    (c6 : PySem.W.codeIn K cd6 "is_told_member" = true)
    (k6 : PySem.W.keepIn K (.ref f6) = true)
    (a7 : PySem.W.nsIn K mainGlobals "is_club_of" = some (some (.ref f7)))
    (l7 : K.lookup f7 = some ⟨oc7, od7, .func (PySem.W.fnOf "is_club_of" "is_club_of" (defArgs (topS 11)) (defBody (topS 11)) (defScope (topS 11)) .none kV7 dc7 pm7 an7 cd7 ct7), sl7⟩)
    (c7 : PySem.W.codeIn K cd7 "is_club_of" = true)
    (k7 : PySem.W.keepIn K (.ref f7) = true)
    (a8 : PySem.W.nsIn K mainGlobals "need_club" = some (some (.ref f8)))
    (l8 : K.lookup f8 = some ⟨oc8, od8, .func (PySem.W.fnOf "need_club" "need_club" (defArgs (topS 12)) (defBody (topS 12)) (defScope (topS 12)) .none kV8 dc8 pm8 an8 cd8 ct8), sl8⟩)
    (c8 : PySem.W.codeIn K cd8 "need_club" = true)
    (k8 : PySem.W.keepIn K (.ref f8) = true)
    (a9 : PySem.W.nsIn K mainGlobals "conflict_of" = some (some (.ref f9)))
    (l9 : K.lookup f9 = some ⟨oc9, od9, .func (PySem.W.fnOf "conflict_of" "conflict_of" (defArgs (topS 18)) (defBody (topS 18)) (defScope (topS 18)) .none kV9 dc9 pm9 an9 cd9 ct9), sl9⟩)
    (c9 : PySem.W.codeIn K cd9 "conflict_of" = true)
    (k9 : PySem.W.keepIn K (.ref f9) = true)
    (a10 : PySem.W.nsIn K mainGlobals "_law_all_ways" = some (some (.ref f10)))
    (l10 : K.lookup f10 = some ⟨oc10, od10, .func (PySem.W.fnOf "_law_all_ways" "_law_all_ways" (defArgs (topS 27)) (defBody (topS 27)) (defScope (topS 27)) .none kV10 dc10 pm10 an10 cd10 ct10), sl10⟩)
    (c10 : PySem.W.codeIn K cd10 "_law_all_ways" = true)
    (k10 : PySem.W.keepIn K (.ref f10) = true)
    (a11 : PySem.W.nsIn K mainGlobals "ways_of" = some (some (.ref f11)))
    (l11 : K.lookup f11 = some ⟨oc11, od11, .func (PySem.W.fnOf "ways_of" "ways_of" (defArgs (topS 20)) (defBody (topS 20)) (defScope (topS 20)) .none kV11 dc11 pm11 an11 cd11 ct11), sl11⟩)
    (c11 : PySem.W.codeIn K cd11 "ways_of" = true)
    (k11 : PySem.W.keepIn K (.ref f11) = true)
    (a12 : PySem.W.nsIn K mainGlobals "need_possible" = some (some (.ref f12)))
    (l12 : K.lookup f12 = some ⟨oc12, od12, .func (PySem.W.fnOf "need_possible" "need_possible" (defArgs (topS 17)) (defBody (topS 17)) (defScope (topS 17)) .none kV12 dc12 pm12 an12 cd12 ct12), sl12⟩)
    (c12 : PySem.W.codeIn K cd12 "need_possible" = true)
    (k12 : PySem.W.keepIn K (.ref f12) = true)
    (a13 : PySem.W.nsIn K mainGlobals "count_ways" = some (some (.ref f13)))
    (l13 : K.lookup f13 = some ⟨oc13, od13, .func (PySem.W.fnOf "count_ways" "count_ways" (defArgs (topS 21)) (defBody (topS 21)) (defScope (topS 21)) .none kV13 dc13 pm13 an13 cd13 ct13), sl13⟩)
    (c13 : PySem.W.codeIn K cd13 "count_ways" = true)
    (k13 : PySem.W.keepIn K (.ref f13) = true)
    (a14 : PySem.W.nsIn K mainGlobals "_law_told" = some (some (.ref f14)))
    (l14 : K.lookup f14 = some ⟨oc14, od14, .func (PySem.W.fnOf "_law_told" "_law_told" (defArgs (topS 29)) (defBody (topS 29)) (defScope (topS 29)) .none kV14 dc14 pm14 an14 cd14 ct14), sl14⟩)
    (c14 : PySem.W.codeIn K cd14 "_law_told" = true)
    (k14 : PySem.W.keepIn K (.ref f14) = true)
    (a15 : PySem.W.nsIn K mainGlobals "_law_conflict" = some (some (.ref f15)))
    (l15 : K.lookup f15 = some ⟨oc15, od15, .func (PySem.W.fnOf "_law_conflict" "_law_conflict" (defArgs (topS 28)) (defBody (topS 28)) (defScope (topS 28)) .none kV15 dc15 pm15 an15 cd15 ct15), sl15⟩)
    (c15 : PySem.W.codeIn K cd15 "_law_conflict" = true)
    (k15 : PySem.W.keepIn K (.ref f15) = true)
    (a16 : PySem.W.nsIn K mainGlobals "_law_right" = some (some (.ref f16)))
    (l16 : K.lookup f16 = some ⟨oc16, od16, .func (PySem.W.fnOf "_law_right" "_law_right" (defArgs (topS 30)) (defBody (topS 30)) (defScope (topS 30)) .none kV16 dc16 pm16 an16 cd16 ct16), sl16⟩)
    (c16 : PySem.W.codeIn K cd16 "_law_right" = true)
    (k16 : PySem.W.keepIn K (.ref f16) = true)
    (a17 : PySem.W.nsIn K mainGlobals "_law_toss" = some (some (.ref f17)))
    (l17 : K.lookup f17 = some ⟨oc17, od17, .func (PySem.W.fnOf "_law_toss" "_law_toss" (defArgs (topS 24)) (defBody (topS 24)) (defScope (topS 24)) .none kV17 dc17 pm17 an17 cd17 ct17), sl17⟩)
    (c17 : PySem.W.codeIn K cd17 "_law_toss" = true)
    (k17 : PySem.W.keepIn K (.ref f17) = true)
    (a18 : PySem.W.nsIn K mainGlobals "_law_bent" = some (some (.ref f18)))
    (l18 : K.lookup f18 = some ⟨oc18, od18, .func (PySem.W.fnOf "_law_bent" "_law_bent" (defArgs (topS 26)) (defBody (topS 26)) (defScope (topS 26)) .none kV18 dc18 pm18 an18 cd18 ct18), sl18⟩)
    (c18 : PySem.W.codeIn K cd18 "_law_bent" = true)
    (k18 : PySem.W.keepIn K (.ref f18) = true)
    (a19 : PySem.W.nsIn K mainGlobals "_law_made" = some (some (.ref f19)))
    (l19 : K.lookup f19 = some ⟨oc19, od19, .func (PySem.W.fnOf "_law_made" "_law_made" (defArgs (topS 25)) (defBody (topS 25)) (defScope (topS 25)) .none kV19 dc19 pm19 an19 cd19 ct19), sl19⟩)
    (c19 : PySem.W.codeIn K cd19 "_law_made" = true)
    (k19 : PySem.W.keepIn K (.ref f19) = true)
    (a20 : PySem.W.nsIn K mainGlobals "_law_purse" = some (some (.ref f20)))
    (l20 : K.lookup f20 = some ⟨oc20, od20, .func (PySem.W.fnOf "_law_purse" "_law_purse" (defArgs (topS 23)) (defBody (topS 23)) (defScope (topS 23)) .none kV20 dc20 pm20 an20 cd20 ct20), sl20⟩)
    (c20 : PySem.W.codeIn K cd20 "_law_purse" = true)
    (k20 : PySem.W.keepIn K (.ref f20) = true)
    (a21 : PySem.W.nsIn K mainGlobals "law" = some (some (.ref f21)))
    (l21 : K.lookup f21 = some ⟨oc21, od21, .func (PySem.W.fnOf "law" "law" (defArgs (topS 31)) (defBody (topS 31)) (defScope (topS 31)) .none kV21 dc21 pm21 an21 cd21 ct21), sl21⟩)
    (c21 : PySem.W.codeIn K cd21 "law" = true)
    (k21 : PySem.W.keepIn K (.ref f21) = true)
    (z0 : PySem.W.nsIn K mainGlobals "enumerate" = some none)
    (z1 : PySem.W.nsIn K mainGlobals "sum" = some none)
    (z2 : PySem.W.nsIn K mainGlobals "len" = some none)
    (z3 : PySem.W.nsIn K mainGlobals "sorted" = some none)
    (z4 : PySem.W.nsIn K mainGlobals "int" = some none)
    (z5 : PySem.W.nsIn K mainGlobals "isinstance" = some none)
    (z6 : PySem.W.nsIn K mainGlobals "bool" = some none)
    (z7 : PySem.W.nsIn K mainGlobals "str" = some none)
    (z8 : PySem.W.nsIn K mainGlobals "tuple" = some none)
    (z9 : PySem.W.nsIn K mainGlobals "all" = some none)
    (z10 : PySem.W.nsIn K mainGlobals "zip" = some none)
    (z11 : PySem.W.nsIn K mainGlobals "list" = some none)
    (z12 : PySem.W.nsIn K mainGlobals "range" = some none)
    (z13 : PySem.W.nsIn K mainGlobals "repr" = some none)
    (z14 : PySem.W.nsIn K mainGlobals "min" = some none)
    (z15 : PySem.W.nsIn K mainGlobals "max" = some none)
    (z16 : PySem.W.nsIn K mainGlobals "abs" = some none)
    (hg0 : PySem.W.nsIn K mainGlobals "MOST_NUMBER" = some (some (.int 1000000000000000000000000000000 tg0)))
    (hg1 : PySem.W.nsIn K mainGlobals "MOST_MEMBERS" = some (some (.int 60 tg1)))
    (hg2 : PySem.W.nsIn K mainGlobals "WORDS" = some (some (.ref ag2)))
    (hh2 : K.lookup ag2 = some ⟨.type "tuple", og2, .seq #[.str "alone" tg2_0, .str "brought" tg2_1] ng2, sg2⟩)
    (xa0 : PySem.W.nsIn K mainGlobals "InvalidClub" = some (some (.ref C0)))
    (xk0 : PySem.W.keepIn K (.ref C0) = true)
    (xs0 : PySem.W.subIn K (.ref C0) (.type "BaseException") = some true)
    (xt0 : PySem.W.typeIn K (.ref C0) = some (.type "type"))
    (xe0 : PySem.W.excIn K C0 [.type "ValueError", .type "Exception", .type "BaseException", .type "object"] "ValueError.__new__" = true)
    (xa1 : PySem.W.nsIn K mainGlobals "Impossible" = some (some (.ref C1)))
    (xk1 : PySem.W.keepIn K (.ref C1) = true)
    (xs1 : PySem.W.subIn K (.ref C1) (.type "BaseException") = some true)
    (xt1 : PySem.W.typeIn K (.ref C1) = some (.type "type"))
    (yb0 : PySem.W.nsIn K mainGlobals "ClubError" = some (some (.ref B0)))
    (yi0 : PySem.W.findIn K (.ref C1) "__init__" = some (some (.ref fI0)))
    (yl0 : K.lookup fI0 = some ⟨ocI0, odI0, .func (PySem.W.fnOf "__init__" "Impossible.__init__" (defArgs (methS (topS 3) 0)) (defBody (methS (topS 3) 0)) (defScope (methS (topS 3) 0)) .none kVI0 dcI0 pmI0 anI0 cdI0 ctI0), slI0⟩)
    (yc0 : PySem.W.codeIn K cdI0 "Impossible.__init__" = true)
    (yk0 : PySem.W.keepIn K (.ref fI0) = true)
    (yt0 : PySem.W.typeIn K (.ref fI0) = some (.type "function"))
    (yr0 : PySem.W.readsIn K B0 (.type "type") = true)
    (yf0 : PySem.W.findCls K (.ref B0) (.type "type") "__init__" = some (.val (.builtin "ValueError.__init__")))
    (ys0 : PySem.W.specialIn K (.ref B0) "__getattribute__" = some (some (.builtin "type.__getattribute__")))
    (yo0 : K.lookup C1 = some (excClassObj nmO0 qO0 C1 NO0 bsO0 [.ref BB0, .type "ValueError", .type "Exception", .type "BaseException", .type "object"] true snO0 subO0 abO0 colO0 ddO0 mO0_0 mO0_1 mO0_2 mO0_3 mO0_5 "ValueError.__new__"))
    (ya0 : PySem.W.findIn K (.ref C1) "__setattr__" = some (some (.builtin "object.__setattr__")))
    (y10 : PySem.W.findIn K (.ref C1) "word" = some none)
    (y20 : PySem.W.findIn K (.ref C1) "number" = some none)
    (wi0 : PySem.W.isClsIn K C1 = true)
    (ws0 : PySem.W.subIn K (.ref C1) (.ref C1) = some true)
    (w0_0 : PySem.W.findIn K (.ref C1) "word" = some none)
    (w0_1 : PySem.W.findIn K (.ref C1) "number" = some none)
    (wg0 : PySem.W.findIn K (.ref C1) "__getattribute__" = some (some (.builtin "BaseException.__getattribute__")))
    (wh0 : PySem.W.findIn K (.ref C1) "__getattr__" = some none)
    (wd0 : PySem.W.hasDictIn K C1 = true)
    : ∃ (fd : FuncData) (g : Str → Option Addr), (∀ (s : Shared) (v : Value), BindsTo s fd ⟨[v], []⟩ [("script", v)]) ∧ ∀ base : Heap, K.In base → base.Ns mainGlobals mg → FnG P w K mg base 9 fa fd ["script"] (spF K g 1 f_law) := by
  have e := hfa.symm.trans (PySem.W.mg_of X G a21)
  cases e
  let g : Str → Option Addr := fun x => ([("InvalidClub", C0), ("Impossible", C1)] : List (Str × Addr)).lookup x
  have n0 := PySem.W.mg_none_of X G z0
  have n1 := PySem.W.mg_none_of X G z1
  have n2 := PySem.W.mg_none_of X G z2
  have n3 := PySem.W.mg_none_of X G z3
  have n4 := PySem.W.mg_none_of X G z4
  have n5 := PySem.W.mg_none_of X G z5
  have n6 := PySem.W.mg_none_of X G z6
  have n7 := PySem.W.mg_none_of X G z7
  have n8 := PySem.W.mg_none_of X G z8
  have n9 := PySem.W.mg_none_of X G z9
  have n10 := PySem.W.mg_none_of X G z10
  have n11 := PySem.W.mg_none_of X G z11
  have n12 := PySem.W.mg_none_of X G z12
  have n13 := PySem.W.mg_none_of X G z13
  have n14 := PySem.W.mg_none_of X G z14
  have n15 := PySem.W.mg_none_of X G z15
  have n16 := PySem.W.mg_none_of X G z16
  refine ⟨PySem.W.fnOf "law" "law" (defArgs (topS 31)) (defBody (topS 31)) (defScope (topS 31)) .none kV21 dc21 pm21 an21 cd21 ct21, g, fun s v => .of_eq rfl, fun base _ _ => ?_⟩
  have gk0 : GK mg K g "MOST_NUMBER" k_MOST_NUMBER := ⟨_, .int 1000000000000000000000000000000, PySem.W.mg_of X G hg0, (show RelV (.int 1000000000000000000000000000000) (.int 1000000000000000000000000000000 tg0) from ⟨_, rfl⟩), fun _ _ => .int _⟩
  have gk1 : GK mg K g "MOST_MEMBERS" k_MOST_MEMBERS := ⟨_, .int 60, PySem.W.mg_of X G hg1, (show RelV (.int 60) (.int 60 tg1) from ⟨_, rfl⟩), fun _ _ => .int _⟩
  have gk2 : GK mg K g "WORDS" k_WORDS := ⟨_, .ref ag2, PySem.W.mg_of X G hg2, rfl, fun _ _ => .tup (.inr ⟨_, _, _, hh2, rfl, rfl, by rw [sizeLine_eq]; show 2 ≤ 16777216; decide, .cons (show RelV (.str "alone") (.str "alone" tg2_0) from ⟨_, rfl⟩) (.cons (show RelV (.str "brought") (.str "brought" tg2_1) from ⟨_, rfl⟩) (.nil))⟩) (.cons (.str _) (.cons (.str _) (.nil)))⟩
  have xk0' : G4.XK K mg g "InvalidClub" := ⟨C0, _, _, _, _, PySem.F.excBase_ValueError, xe0, PySem.W.mg_of X G xa0, xk0, xs0, xt0, by first | rfl | simp [g, List.lookup]⟩
  have DI0 := fun_mk (st := methS (topS 3) 0) yl0 yc0 yk0
  have TI0 : OexC K C1 := ⟨⟨_, _, _, _, _, _, _, _, _, _, _, _, _, _, _, yo0, by show PySem.HandSPX.refsVE [.type "ValueError", .type "Exception", .type "BaseException", .type "object"] = true; decide +kernel⟩, ya0, xs1, xt1, xk1⟩
  have BI0 := DI0.binds (ps := ["self", "word", "number"]) fun _ _ _ _ _ _ us hl => match us, hl with | [_, _, _], _ => rfl
  have xo0 : ∀ k, 2 ≤ k → G4.XO P w K mg base g k "Impossible" "word" "number" := fun k hk => ⟨C1, fI0, _, _, PySem.W.mg_of X G xa1, by first | rfl | simp [g, List.lookup], TI0, yi0, yt0, init2_ok DI0 (C8.fnScope_by (by decide +kernel)) rfl rfl rfl rfl rfl (by decide) (by decide) (by decide) (by decide) (by decide +kernel) (PySem.W.mg_of X G yb0) yr0 yf0 ys0 TI0 y10 y20, BI0, by decide, hk⟩
  have xc0 : G4.XC K mg g "Impossible" := ⟨C1, PySem.W.mg_of X G xa1, by first | rfl | simp [g, List.lookup], exm_own xs1 wi0 xt1 ws0⟩
  have xd0_0 : G4.XD K g "Impossible" "word" := ⟨C1, by first | rfl | simp [g, List.lookup], ⟨wg0, wh0, xs1, wd0⟩, w0_0⟩
  have xd0_1 : G4.XD K g "Impossible" "number" := ⟨C1, by first | rfl | simp [g, List.lookup], ⟨wg0, wh0, xs1, wd0⟩, w0_1⟩
  have F0 := fun_mk (st := topS 13) l0 c0 k0
  have m0 := PySem.W.mg_of X G a0
  have B0 := F0.binds (ps := ["club"]) fun _ _ _ _ _ _ us hl => match us, hl with | [_], _ => rfl
  have o0 : OkMs P w K mg base g 0 b_brought_of := by
    simp only [b_brought_of, lc_brought_of_1, OkMs, OkM, OkH, OkTgs, OkE, OkEs, OkO, OkS, and_true, true_and]
    repeat' apply And.intro
    all_goals first | trivial | exact gk0 | exact gk1 | exact gk2 | exact xk0' | exact xo0 _ (by decide) | exact xc0 | exact xd0_0 | exact xd0_1
  have G0 := def_ok (P := P) (w := w) (base := base) (g := g) (k := 0) (n := 1) F0 c_brought_of (by
    intro y hy
    simp only [List.contains_cons, List.contains_nil, Bool.or_false, Bool.or_eq_true, beq_iff_eq, List.elem_eq_contains] at hy
    subst hy; exact n0) o0 rfl
  have kn0 := kn_of G0 m0 k0 B0
  have F1 := fun_mk (st := topS 15) l1 c1 k1
  have m1 := PySem.W.mg_of X G a1
  have B1 := F1.binds (ps := ["club"]) fun _ _ _ _ _ _ us hl => match us, hl with | [_], _ => rfl
  have o1 : OkMs P w K mg base g 1 b_left_over := by
    simp only [b_left_over, lc_left_over_1, OkMs, OkM, OkH, OkTgs, OkE, OkEs, OkO, OkS, and_true, true_and]
    repeat' apply And.intro
    all_goals first | trivial | exact kn0.mono (by decide) | exact gk0 | exact gk1 | exact gk2 | exact xk0' | exact xo0 _ (by decide) | exact xc0 | exact xd0_0 | exact xd0_1
  have G1 := def_ok (P := P) (w := w) (base := base) (g := g) (k := 1) (n := 1) F1 c_left_over (by
    intro y hy
    simp only [List.contains_cons, List.contains_nil, Bool.or_false, Bool.or_eq_true, beq_iff_eq, List.elem_eq_contains] at hy
    rcases hy with rfl | rfl
    · exact n1
    · exact n2) o1 rfl
  have kn1 := kn_of G1 m1 k1 B1
  have F2 := fun_mk (st := topS 14) l2 c2 k2
  have m2 := PySem.W.mg_of X G a2
  have B2 := F2.binds (ps := ["club"]) fun _ _ _ _ _ _ us hl => match us, hl with | [_], _ => rfl
  have o2 : OkMs P w K mg base g 0 b_table_of := by
    simp only [b_table_of, fb_table_of_1, tl_table_of_1, tl_table_of_2, fb_table_of_2, tl_table_of_3, OkMs, OkM, OkH, OkTgs, OkE, OkEs, OkO, OkS, and_true, true_and]
    repeat' apply And.intro
    all_goals first | trivial | exact gk0 | exact gk1 | exact gk2 | exact xk0' | exact xo0 _ (by decide) | exact xc0 | exact xd0_0 | exact xd0_1
  have G2 := def_ok (P := P) (w := w) (base := base) (g := g) (k := 0) (n := 1) F2 c_table_of (by
    intro y hy
    simp only [List.contains_cons, List.contains_nil, Bool.or_false, Bool.or_eq_true, beq_iff_eq, List.elem_eq_contains] at hy
    rcases hy with rfl | rfl
    · exact n3
    · exact n4) o2 rfl
  have kn2 := kn_of G2 m2 k2 B2
  have F3 := fun_mk (st := topS 16) l3 c3 k3
  have m3 := PySem.W.mg_of X G a3
  have B3 := F3.binds (ps := ["club"]) fun _ _ _ _ _ _ us hl => match us, hl with | [_], _ => rfl
  have o3 : OkMs P w K mg base g 2 b_conflict_in := by
    simp only [b_conflict_in, lc_conflict_in_1, OkMs, OkM, OkH, OkTgs, OkE, OkEs, OkO, OkS, and_true, true_and]
    repeat' apply And.intro
    all_goals first | trivial | exact kn1.mono (by decide) | exact kn2.mono (by decide) | exact gk0 | exact gk1 | exact gk2 | exact xk0' | exact xo0 _ (by decide) | exact xc0 | exact xd0_0 | exact xd0_1
  have G3 := def_ok (P := P) (w := w) (base := base) (g := g) (k := 2) (n := 1) F3 c_conflict_in (by
    intro y hy
    simp only [List.contains_cons, List.contains_nil, Bool.or_false, Bool.or_eq_true, beq_iff_eq, List.elem_eq_contains] at hy
    exact absurd hy (by decide)) o3 rfl
  have kn3 := kn_of G3 m3 k3 B3
  have F4 := fun_mk (st := topS 8) l4 c4 k4
  have m4 := PySem.W.mg_of X G a4
  have B4 := F4.binds (ps := ["thing"]) fun _ _ _ _ _ _ us hl => match us, hl with | [_], _ => rfl
  have o4 : OkMs P w K mg base g 0 b_is_integer := by
    simp only [b_is_integer, OkMs, OkM, OkH, OkTgs, OkE, OkEs, OkO, OkS, and_true, true_and]
    repeat' apply And.intro
    all_goals first | trivial | exact gk0 | exact gk1 | exact gk2 | exact xk0' | exact xo0 _ (by decide) | exact xc0 | exact xd0_0 | exact xd0_1
  have G4 := def_ok (P := P) (w := w) (base := base) (g := g) (k := 0) (n := 1) F4 c_is_integer (by
    intro y hy
    simp only [List.contains_cons, List.contains_nil, Bool.or_false, Bool.or_eq_true, beq_iff_eq, List.elem_eq_contains] at hy
    rcases hy with rfl | rfl | rfl
    · exact n5
    · exact n6
    · exact n4) o4 rfl
  have kn4 := kn_of G4 m4 k4 B4
  have F5 := fun_mk (st := topS 9) l5 c5 k5
  have m5 := PySem.W.mg_of X G a5
  have B5 := F5.binds (ps := ["thing"]) fun _ _ _ _ _ _ us hl => match us, hl with | [_], _ => rfl
  have o5 : OkMs P w K mg base g 1 b_is_count := by
    simp only [b_is_count, OkMs, OkM, OkH, OkTgs, OkE, OkEs, OkO, OkS, and_true, true_and]
    repeat' apply And.intro
    all_goals first | trivial | exact kn4.mono (by decide) | exact gk0 | exact gk1 | exact gk2 | exact xk0' | exact xo0 _ (by decide) | exact xc0 | exact xd0_0 | exact xd0_1
  have G5 := def_ok (P := P) (w := w) (base := base) (g := g) (k := 1) (n := 1) F5 c_is_count (by
    intro y hy
    simp only [List.contains_cons, List.contains_nil, Bool.or_false, Bool.or_eq_true, beq_iff_eq, List.elem_eq_contains] at hy
    exact absurd hy (by decide)) o5 rfl
  have kn5 := kn_of G5 m5 k5 B5
  have F6 := fun_mk (st := topS 10) l6 c6 k6
  have m6 := PySem.W.mg_of X G a6
  have B6 := F6.binds (ps := ["thing", "words"]) fun _ _ _ _ _ _ us hl => match us, hl with | [_, _], _ => rfl
  have o6 : OkMs P w K mg base g 2 b_is_told_member := by
    simp only [b_is_told_member, OkMs, OkM, OkH, OkTgs, OkE, OkEs, OkO, OkS, and_true, true_and]
    repeat' apply And.intro
    all_goals first | trivial | exact kn5.mono (by decide) | exact gk0 | exact gk1 | exact gk2 | exact xk0' | exact xo0 _ (by decide) | exact xc0 | exact xd0_0 | exact xd0_1
  have G6 := def_ok (P := P) (w := w) (base := base) (g := g) (k := 2) (n := 2) F6 c_is_told_member (by
    intro y hy
    simp only [List.contains_cons, List.contains_nil, Bool.or_false, Bool.or_eq_true, beq_iff_eq, List.elem_eq_contains] at hy
    rcases hy with rfl | rfl | rfl | rfl
    · exact n5
    · exact n7
    · exact n2
    · exact n8) o6 rfl
  have kn6 := kn_of G6 m6 k6 B6
  have F7 := fun_mk (st := topS 11) l7 c7 k7
  have m7 := PySem.W.mg_of X G a7
  have B7 := F7.binds (ps := ["thing", "words"]) fun _ _ _ _ _ _ us hl => match us, hl with | [_, _], _ => rfl
  have o7 : OkMs P w K mg base g 3 b_is_club_of := by
    simp only [b_is_club_of, lc_is_club_of_1, lc_is_club_of_2, OkMs, OkM, OkH, OkTgs, OkE, OkEs, OkO, OkS, and_true, true_and]
    repeat' apply And.intro
    all_goals first | trivial | exact kn6.mono (by decide) | exact gk0 | exact gk1 | exact gk2 | exact xk0' | exact xo0 _ (by decide) | exact xc0 | exact xd0_0 | exact xd0_1
  have G7 := def_ok (P := P) (w := w) (base := base) (g := g) (k := 3) (n := 2) F7 c_is_club_of (by
    intro y hy
    simp only [List.contains_cons, List.contains_nil, Bool.or_false, Bool.or_eq_true, beq_iff_eq, List.elem_eq_contains] at hy
    rcases hy with rfl | rfl | rfl | rfl | rfl
    · exact n9
    · exact n10
    · exact n2
    · exact n5
    · exact n11) o7 rfl
  have kn7 := kn_of G7 m7 k7 B7
  have F8 := fun_mk (st := topS 12) l8 c8 k8
  have m8 := PySem.W.mg_of X G a8
  have B8 := F8.binds (ps := ["thing"]) fun _ _ _ _ _ _ us hl => match us, hl with | [_], _ => rfl
  have o8 : OkMs P w K mg base g 4 b_need_club := by
    simp only [b_need_club, OkMs, OkM, OkH, OkTgs, OkE, OkEs, OkO, OkS, and_true, true_and]
    repeat' apply And.intro
    all_goals first | trivial | exact kn7.mono (by decide) | exact gk0 | exact gk1 | exact gk2 | exact xk0' | exact xo0 _ (by decide) | exact xc0 | exact xd0_0 | exact xd0_1
  have G8 := def_ok (P := P) (w := w) (base := base) (g := g) (k := 4) (n := 1) F8 c_need_club (by
    intro y hy
    simp only [List.contains_cons, List.contains_nil, Bool.or_false, Bool.or_eq_true, beq_iff_eq, List.elem_eq_contains] at hy
    exact absurd hy (by decide)) o8 rfl
  have kn8 := kn_of G8 m8 k8 B8
  have F9 := fun_mk (st := topS 18) l9 c9 k9
  have m9 := PySem.W.mg_of X G a9
  have B9 := F9.binds (ps := ["club"]) fun _ _ _ _ _ _ us hl => match us, hl with | [_], _ => rfl
  have o9 : OkMs P w K mg base g 5 b_conflict_of := by
    simp only [b_conflict_of, OkMs, OkM, OkH, OkTgs, OkE, OkEs, OkO, OkS, and_true, true_and]
    repeat' apply And.intro
    all_goals first | trivial | exact kn3.mono (by decide) | exact kn8.mono (by decide) | exact gk0 | exact gk1 | exact gk2 | exact xk0' | exact xo0 _ (by decide) | exact xc0 | exact xd0_0 | exact xd0_1
  have G9 := def_ok (P := P) (w := w) (base := base) (g := g) (k := 5) (n := 1) F9 c_conflict_of (by
    intro y hy
    simp only [List.contains_cons, List.contains_nil, Bool.or_false, Bool.or_eq_true, beq_iff_eq, List.elem_eq_contains] at hy
    exact absurd hy (by decide)) o9 rfl
  have kn9 := kn_of G9 m9 k9 B9
  have kk9_0 : KnK P w K mg base g 6 "conflict_of" f_conflict_of [0] ["club"] := ⟨_, _, _, m9, k9, G9, fun us hl => match us, hl with | [_], _ => rfl⟩
  have F10 := fun_mk (st := topS 27) l10 c10 k10
  have m10 := PySem.W.mg_of X G a10
  have B10 := F10.binds (ps := ["club_here"]) fun _ _ _ _ _ _ us hl => match us, hl with | [_], _ => rfl
  have o10 : OkMs P w K mg base g 0 b__law_all_ways := by
    simp only [b__law_all_ways, lc__law_all_ways_1, fb__law_all_ways_1, fb__law_all_ways_2, fb__law_all_ways_3, lc__law_all_ways_2, OkMs, OkM, OkH, OkTgs, OkE, OkEs, OkO, OkS, and_true, true_and]
    repeat' apply And.intro
    all_goals first | trivial | exact gk0 | exact gk1 | exact gk2 | exact xk0' | exact xo0 _ (by decide) | exact xc0 | exact xd0_0 | exact xd0_1
  have G10 := def_ok (P := P) (w := w) (base := base) (g := g) (k := 0) (n := 1) F10 c__law_all_ways (by
    intro y hy
    simp only [List.contains_cons, List.contains_nil, Bool.or_false, Bool.or_eq_true, beq_iff_eq, List.elem_eq_contains] at hy
    rcases hy with rfl | rfl | rfl | rfl | rfl
    · exact n1
    · exact n0
    · exact n12
    · exact n4
    · exact n11) o10 rfl
  have kn10 := kn_of G10 m10 k10 B10
  have F11 := fun_mk (st := topS 20) l11 c11 k11
  have m11 := PySem.W.mg_of X G a11
  have B11 := F11.binds (ps := ["club"]) fun _ _ _ _ _ _ us hl => match us, hl with | [_], _ => rfl
  have o11 : OkMs P w K mg base g 1 b_ways_of := by
    simp only [b_ways_of, fb_ways_of_1, fb_ways_of_2, tl_ways_of_1, fb_ways_of_3, fb_ways_of_4, tl_ways_of_2, OkMs, OkM, OkH, OkTgs, OkE, OkEs, OkO, OkS, and_true, true_and]
    repeat' apply And.intro
    all_goals first | trivial | exact kn2.mono (by decide) | exact gk0 | exact gk1 | exact gk2 | exact xk0' | exact xo0 _ (by decide) | exact xc0 | exact xd0_0 | exact xd0_1
  have G11 := def_ok (P := P) (w := w) (base := base) (g := g) (k := 1) (n := 1) F11 c_ways_of (by
    intro y hy
    simp only [List.contains_cons, List.contains_nil, Bool.or_false, Bool.or_eq_true, beq_iff_eq, List.elem_eq_contains] at hy
    subst hy; exact n12) o11 rfl
  have kn11 := kn_of G11 m11 k11 B11
  have F12 := fun_mk (st := topS 17) l12 c12 k12
  have m12 := PySem.W.mg_of X G a12
  have B12 := F12.binds (ps := ["club"]) fun _ _ _ _ _ _ us hl => match us, hl with | [_], _ => rfl
  have o12 : OkMs P w K mg base g 3 b_need_possible := by
    simp only [b_need_possible, OkMs, OkM, OkH, OkTgs, OkE, OkEs, OkO, OkS, and_true, true_and]
    repeat' apply And.intro
    all_goals first | trivial | exact kn3.mono (by decide) | exact gk0 | exact gk1 | exact gk2 | exact xk0' | exact xo0 _ (by decide) | exact xc0 | exact xd0_0 | exact xd0_1
  have G12 := def_ok (P := P) (w := w) (base := base) (g := g) (k := 3) (n := 1) F12 c_need_possible (by
    intro y hy
    simp only [List.contains_cons, List.contains_nil, Bool.or_false, Bool.or_eq_true, beq_iff_eq, List.elem_eq_contains] at hy
    exact absurd hy (by decide)) o12 rfl
  have kn12 := kn_of G12 m12 k12 B12
  have F13 := fun_mk (st := topS 21) l13 c13 k13
  have m13 := PySem.W.mg_of X G a13
  have B13 := F13.binds (ps := ["club"]) fun _ _ _ _ _ _ us hl => match us, hl with | [_], _ => rfl
  have o13 : OkMs P w K mg base g 5 b_count_ways := by
    simp only [b_count_ways, OkMs, OkM, OkH, OkTgs, OkE, OkEs, OkO, OkS, and_true, true_and]
    repeat' apply And.intro
    all_goals first | trivial | exact kn11.mono (by decide) | exact kn12.mono (by decide) | exact kn8.mono (by decide) | exact gk0 | exact gk1 | exact gk2 | exact xk0' | exact xo0 _ (by decide) | exact xc0 | exact xd0_0 | exact xd0_1
  have G13 := def_ok (P := P) (w := w) (base := base) (g := g) (k := 5) (n := 1) F13 c_count_ways (by
    intro y hy
    simp only [List.contains_cons, List.contains_nil, Bool.or_false, Bool.or_eq_true, beq_iff_eq, List.elem_eq_contains] at hy
    exact absurd hy (by decide)) o13 rfl
  have kn13 := kn_of G13 m13 k13 B13
  have F14 := fun_mk (st := topS 29) l14 c14 k14
  have m14 := PySem.W.mg_of X G a14
  have B14 := F14.binds (ps := ["club_here"]) fun _ _ _ _ _ _ us hl => match us, hl with | [_], _ => rfl
  have o14 : OkMs P w K mg base g 6 b__law_told := by
    simp only [b__law_told, OkMs, OkM, OkH, OkTgs, OkE, OkEs, OkO, OkS, and_true, true_and]
    repeat' apply And.intro
    all_goals first | trivial | exact kn13.mono (by decide) | exact gk0 | exact gk1 | exact gk2 | exact xk0' | exact xo0 _ (by decide) | exact xc0 | exact xd0_0 | exact xd0_1
  have G14 := def_ok (P := P) (w := w) (base := base) (g := g) (k := 6) (n := 1) F14 c__law_told (by
    intro y hy
    simp only [List.contains_cons, List.contains_nil, Bool.or_false, Bool.or_eq_true, beq_iff_eq, List.elem_eq_contains] at hy
    exact absurd hy (by decide)) o14 rfl
  have kn14 := kn_of G14 m14 k14 B14
  have F15 := fun_mk (st := topS 28) l15 c15 k15
  have m15 := PySem.W.mg_of X G a15
  have B15 := F15.binds (ps := ["club_here"]) fun _ _ _ _ _ _ us hl => match us, hl with | [_], _ => rfl
  have o15 : OkMs P w K mg base g 0 b__law_conflict := by
    simp only [b__law_conflict, lc__law_conflict_1, lc__law_conflict_2, lc__law_conflict_3, lc__law_conflict_4, fb__law_conflict_1, OkMs, OkM, OkH, OkTgs, OkE, OkEs, OkO, OkS, and_true, true_and]
    repeat' apply And.intro
    all_goals first | trivial | exact gk0 | exact gk1 | exact gk2 | exact xk0' | exact xo0 _ (by decide) | exact xc0 | exact xd0_0 | exact xd0_1
  have G15 := def_ok (P := P) (w := w) (base := base) (g := g) (k := 0) (n := 1) F15 c__law_conflict (by
    intro y hy
    simp only [List.contains_cons, List.contains_nil, Bool.or_false, Bool.or_eq_true, beq_iff_eq, List.elem_eq_contains] at hy
    rcases hy with rfl | rfl
    · exact n1
    · exact n2) o15 rfl
  have kn15 := kn_of G15 m15 k15 B15
  have F16 := fun_mk (st := topS 30) l16 c16 k16
  have m16 := PySem.W.mg_of X G a16
  have B16 := F16.binds (ps := ["club_here"]) fun _ _ _ _ _ _ us hl => match us, hl with | [_], _ => rfl
  have o16 : OkMs P w K mg base g 7 b__law_right := by
    simp only [b__law_right, tl__law_right_1, tl__law_right_2, OkMs, OkM, OkH, OkTgs, OkE, OkEs, OkO, OkS, and_true, true_and]
    repeat' apply And.intro
    all_goals first | trivial | exact kn9.mono (by decide) | exact (kk9_0).mono (by decide) | exact kn10.mono (by decide) | exact kn14.mono (by decide) | exact kn15.mono (by decide) | exact gk0 | exact gk1 | exact gk2 | exact xk0' | exact xo0 _ (by decide) | exact xc0 | exact xd0_0 | exact xd0_1
  have G16 := def_ok (P := P) (w := w) (base := base) (g := g) (k := 7) (n := 1) F16 c__law_right (by
    intro y hy
    simp only [List.contains_cons, List.contains_nil, Bool.or_false, Bool.or_eq_true, beq_iff_eq, List.elem_eq_contains] at hy
    rcases hy with rfl | rfl
    · exact n13
    · exact n2) o16 rfl
  have kn16 := kn_of G16 m16 k16 B16
  have F17 := fun_mk (st := topS 24) l17 c17 k17
  have m17 := PySem.W.mg_of X G a17
  have B17 := F17.binds (ps := ["purse", "many"]) fun _ _ _ _ _ _ us hl => match us, hl with | [_, _], _ => rfl
  have o17 : OkMs P w K mg base g 0 b__law_toss := by
    simp only [b__law_toss, tl__law_toss_1, tl__law_toss_2, tl__law_toss_3, OkMs, OkM, OkH, OkTgs, OkE, OkEs, OkO, OkS, and_true, true_and]
    repeat' apply And.intro
    all_goals first | trivial | exact gk0 | exact gk1 | exact gk2 | exact xk0' | exact xo0 _ (by decide) | exact xc0 | exact xd0_0 | exact xd0_1
  have G17 := def_ok (P := P) (w := w) (base := base) (g := g) (k := 0) (n := 2) F17 c__law_toss (by
    intro y hy
    simp only [List.contains_cons, List.contains_nil, Bool.or_false, Bool.or_eq_true, beq_iff_eq, List.elem_eq_contains] at hy
    subst hy; exact n4) o17 rfl
  have kn17 := kn_of G17 m17 k17 B17
  have F18 := fun_mk (st := topS 26) l18 c18 k18
  have m18 := PySem.W.mg_of X G a18
  have B18 := F18.binds (ps := ["purse", "club_here"]) fun _ _ _ _ _ _ us hl => match us, hl with | [_, _], _ => rfl
  have o18 : OkMs P w K mg base g 1 b__law_bent := by
    simp only [b__law_bent, tl__law_bent_1, tl__law_bent_2, tl__law_bent_3, tl__law_bent_4, fb__law_bent_1, OkMs, OkM, OkH, OkTgs, OkE, OkEs, OkO, OkS, and_true, true_and]
    repeat' apply And.intro
    all_goals first | trivial | exact kn17.mono (by decide) | exact gk0 | exact gk1 | exact gk2 | exact xk0' | exact xo0 _ (by decide) | exact xc0 | exact xd0_0 | exact xd0_1
  have G18 := def_ok (P := P) (w := w) (base := base) (g := g) (k := 1) (n := 2) F18 c__law_bent (by
    intro y hy
    simp only [List.contains_cons, List.contains_nil, Bool.or_false, Bool.or_eq_true, beq_iff_eq, List.elem_eq_contains] at hy
    rcases hy with rfl | rfl | rfl | rfl | rfl | rfl
    · exact n12
    · exact n14
    · exact n15
    · exact n4
    · exact n2
    · exact n11) o18 rfl
  have kn18 := kn_of G18 m18 k18 B18
  have F19 := fun_mk (st := topS 25) l19 c19 k19
  have m19 := PySem.W.mg_of X G a19
  have B19 := F19.binds (ps := ["purse", "size", "far"]) fun _ _ _ _ _ _ us hl => match us, hl with | [_, _, _], _ => rfl
  have o19 : OkMs P w K mg base g 1 b__law_made := by
    simp only [b__law_made, lc__law_made_1, tl__law_made_1, tl__law_made_2, tl__law_made_3, tl__law_made_4, lc__law_made_2, tl__law_made_5, tl__law_made_6, fb__law_made_1, tl__law_made_7, tl__law_made_8, OkMs, OkM, OkH, OkTgs, OkE, OkEs, OkO, OkS, and_true, true_and]
    repeat' apply And.intro
    all_goals first | trivial | exact kn17.mono (by decide) | exact gk0 | exact gk1 | exact gk2 | exact xk0' | exact xo0 _ (by decide) | exact xc0 | exact xd0_0 | exact xd0_1
  have G19 := def_ok (P := P) (w := w) (base := base) (g := g) (k := 1) (n := 3) F19 c__law_made (by
    intro y hy
    simp only [List.contains_cons, List.contains_nil, Bool.or_false, Bool.or_eq_true, beq_iff_eq, List.elem_eq_contains] at hy
    rcases hy with rfl | rfl | rfl | rfl | rfl
    · exact n11
    · exact n10
    · exact n4
    · exact n12
    · exact n2) o19 rfl
  have kn19 := kn_of G19 m19 k19 B19
  have F20 := fun_mk (st := topS 23) l20 c20 k20
  have m20 := PySem.W.mg_of X G a20
  have B20 := F20.binds (ps := ["script", "k"]) fun _ _ _ _ _ _ us hl => match us, hl with | [_, _], _ => rfl
  have o20 : OkMs P w K mg base g 0 b__law_purse := by
    simp only [b__law_purse, OkMs, OkM, OkH, OkTgs, OkE, OkEs, OkO, OkS, and_true, true_and]
    repeat' apply And.intro
    all_goals first | trivial | exact gk0 | exact gk1 | exact gk2 | exact xk0' | exact xo0 _ (by decide) | exact xc0 | exact xd0_0 | exact xd0_1
  have G20 := def_ok (P := P) (w := w) (base := base) (g := g) (k := 0) (n := 2) F20 c__law_purse (by
    intro y hy
    simp only [List.contains_cons, List.contains_nil, Bool.or_false, Bool.or_eq_true, beq_iff_eq, List.elem_eq_contains] at hy
    rcases hy with rfl | rfl | rfl | rfl
    · exact n4
    · exact n15
    · exact n16
    · exact n2) o20 rfl
  have kn20 := kn_of G20 m20 k20 B20
  have F21 := fun_mk (st := topS 31) l21 c21 k21
  have m21 := PySem.W.mg_of X G a21
  have B21 := F21.binds (ps := ["script"]) fun _ _ _ _ _ _ us hl => match us, hl with | [_], _ => rfl
  have o21 : OkMs P w K mg base g 8 b_law := by
    simp only [b_law, lc_law_1, tl_law_1, tl_law_2, tl_law_3, tl_law_4, tl_law_5, tl_law_6, fb_law_1, fb_law_2, OkMs, OkM, OkH, OkTgs, OkE, OkEs, OkO, OkS, and_true, true_and]
    repeat' apply And.intro
    all_goals first | trivial | exact kn9.mono (by decide) | exact kn16.mono (by decide) | exact kn18.mono (by decide) | exact kn19.mono (by decide) | exact kn17.mono (by decide) | exact kn20.mono (by decide) | exact gk0 | exact gk1 | exact gk2 | exact xk0' | exact xo0 _ (by decide) | exact xc0 | exact xd0_0 | exact xd0_1
  have G21 := def_ok (P := P) (w := w) (base := base) (g := g) (k := 8) (n := 1) F21 c_law (by
    intro y hy
    simp only [List.contains_cons, List.contains_nil, Bool.or_false, Bool.or_eq_true, beq_iff_eq, List.elem_eq_contains] at hy
    rcases hy with rfl | rfl | rfl | rfl
    · exact n12
    · exact n15
    · exact n14
    · exact n2) o21 rfl
  exact G21
end G4
open PySem PySem.W PyProof.Rows
set_option maxHeartbeats 0 in
theorem PySem.Challenge.cw_broughtin_k02_clubs_that_cannot_be_holds : PySem.Challenge.rw_broughtin_k02_clubs_that_cannot_be.Holds := by
  w_on; o_law; k_head; (case hw => w_witness2)
  k_fill
  refine G4.walk_ofG (l := PySem.Challenge.rw_broughtin_k02_clubs_that_cannot_be) (n := 63) (k := 9) (x := "script") (f := G4.f_law) rfl (by decide) rfl ⟨rfl, by decide, by decide⟩ (fun w h Y => PySem.W.kIn_of Y) ?F G4.law_true
  case F =>
    intro w mg fa h KX G hmg
    refine' G4.all_mk KX G hmg ?a0 ?l0 ?c0 ?k0 ?a1 ?l1 ?c1 ?k1 ?a2 ?l2 ?c2 ?k2 ?a3 ?l3 ?c3 ?k3 ?a4 ?l4 ?c4 ?k4 ?a5 ?l5 ?c5 ?k5 ?a6 ?l6 ?c6 ?k6 ?a7 ?l7 ?c7 ?k7 ?a8 ?l8 ?c8 ?k8 ?a9 ?l9 ?c9 ?k9 ?a10 ?l10 ?c10 ?k10 ?a11 ?l11 ?c11 ?k11 ?a12 ?l12 ?c12 ?k12 ?a13 ?l13 ?c13 ?k13 ?a14 ?l14 ?c14 ?k14 ?a15 ?l15 ?c15 ?k15 ?a16 ?l16 ?c16 ?k16 ?a17 ?l17 ?c17 ?k17 ?a18 ?l18 ?c18 ?k18 ?a19 ?l19 ?c19 ?k19 ?a20 ?l20 ?c20 ?k20 ?a21 ?l21 ?c21 ?k21 ?z0 ?z1 ?z2 ?z3 ?z4 ?z5 ?z6 ?z7 ?z8 ?z9 ?z10 ?z11 ?z12 ?z13 ?z14 ?z15 ?z16 ?hg0 ?hg1 ?hg2 ?hh2 ?xa0 ?xk0 ?xs0 ?xt0 ?xe0 ?xa1 ?xk1 ?xs1 ?xt1 ?yb0 ?yi0 ?yl0 ?yc0 ?yk0 ?yt0 ?yr0 ?yf0 ?ys0 ?yo0 ?ya0 ?y10 ?y20 ?wi0 ?ws0 ?w0_0 ?w0_1 ?wg0 ?wh0 ?wd0
    (case a0 => k_is)
    (case l0 => k_is)
    (case c0 => k_is)
    (case k0 => k_is)
    (case a1 => k_is)
    (case l1 => k_is)
    (case c1 => k_is)
    (case k1 => k_is)
    (case a2 => k_is)
    (case l2 => k_is)
    (case c2 => k_is)
    (case k2 => k_is)
    (case a3 => k_is)
    (case l3 => k_is)
    (case c3 => k_is)
    (case k3 => k_is)
    (case a4 => k_is)
    (case l4 => k_is)
    (case c4 => k_is)
    (case k4 => k_is)
    (case a5 => k_is)
    (case l5 => k_is)
    (case c5 => k_is)
    (case k5 => k_is)
    (case a6 => k_is)
    (case l6 => k_is)
    (case c6 => k_is)
    (case k6 => k_is)
    (case a7 => k_is)
    (case l7 => k_is)
    (case c7 => k_is)
    (case k7 => k_is)
    (case a8 => k_is)
    (case l8 => k_is)
    (case c8 => k_is)
    (case k8 => k_is)
    (case a9 => k_is)
    (case l9 => k_is)
    (case c9 => k_is)
    (case k9 => k_is)
    (case a10 => k_is)
    (case l10 => k_is)
    (case c10 => k_is)
    (case k10 => k_is)
    (case a11 => k_is)
    (case l11 => k_is)
    (case c11 => k_is)
    (case k11 => k_is)
    (case a12 => k_is)
    (case l12 => k_is)
    (case c12 => k_is)
    (case k12 => k_is)
    (case a13 => k_is)
    (case l13 => k_is)
    (case c13 => k_is)
    (case k13 => k_is)
    (case a14 => k_is)
    (case l14 => k_is)
    (case c14 => k_is)
    (case k14 => k_is)
    (case a15 => k_is)
    (case l15 => k_is)
    (case c15 => k_is)
    (case k15 => k_is)
    (case a16 => k_is)
    (case l16 => k_is)
    (case c16 => k_is)
    (case k16 => k_is)
    (case a17 => k_is)
    (case l17 => k_is)
    (case c17 => k_is)
    (case k17 => k_is)
    (case a18 => k_is)
    (case l18 => k_is)
    (case c18 => k_is)
    (case k18 => k_is)
    (case a19 => k_is)
    (case l19 => k_is)
    (case c19 => k_is)
    (case k19 => k_is)
    (case a20 => k_is)
    (case l20 => k_is)
    (case c20 => k_is)
    (case k20 => k_is)
    (case a21 => k_is)
    (case l21 => k_is)
    (case c21 => k_is)
    (case k21 => k_is)
    (case z0 => k_is)
    (case z1 => k_is)
    (case z2 => k_is)
    (case z3 => k_is)
    (case z4 => k_is)
    (case z5 => k_is)
    (case z6 => k_is)
    (case z7 => k_is)
    (case z8 => k_is)
    (case z9 => k_is)
    (case z10 => k_is)
    (case z11 => k_is)
    (case z12 => k_is)
    (case z13 => k_is)
    (case z14 => k_is)
    (case z15 => k_is)
    (case z16 => k_is)
    (case hg0 => k_is)
    (case hg1 => k_is)
    (case hg2 => k_is)
    (case hh2 => k_is)
    (case xa0 => k_is)
    (case xk0 => k_is)
    (case xs0 => k_is)
    (case xt0 => k_is)
    (case xe0 => first | k_exc | k_is)
    (case xa1 => k_is)
    (case xk1 => k_is)
    (case xs1 => k_is)
    (case xt1 => k_is)
    (case yb0 => k_is)
    (case yi0 => k_is)
    (case yl0 => k_is)
    (case yc0 => k_is)
    (case yk0 => k_is)
    (case yt0 => k_is)
    (case yr0 => k_is)
    (case yf0 => k_is)
    (case ys0 => k_is)
    (case yo0 => k_is)
    (case ya0 => k_is)
    (case y10 => k_is)
    (case y20 => k_is)
    (case wi0 => k_is)
    (case ws0 => first | rfl | k_is)
    (case w0_0 => k_is)
    (case w0_1 => k_is)
    (case wg0 => k_is)
    (case wh0 => k_is)
    (case wd0 => k_is)
