import PyProof.Rows.All
import HandS.ForMost
import PyProof.ReprReads
import KE.KSortTupAny
import HandS.ForExc
import HandS.Style
import HandS.Wide
import HandS.WideBits
import HandS.SortInts
import HandS.CallSlots
import PyProof.P3In
import HandS.Ends
import HandS.WordsExc
import HandS.IsInst
import HandS.Conv
import PyProof.ReprRoads
import HandS.More
import HandS.Small
import HandS.TupSets
import HandS.SortOrd
import HandS.Flow
import HandS.TupAny
import HandS.SetFor
import HandS.Dict
import HandS.WideMore
import KE.GoesEnum
import KE.KDictZip
import HandS.Strs
import HandS.Zip
import HandS.Iter
import HandS.Star
import HandS.DictSubView
import HandS.DictComp
import HandS.TryOnly
import HandS.ExcField
import HandS.ExcInit
import HandS.Words
import HandS.EndBits
import HandS.Codes
import PySem.Challenge.RW_broughtin_k67_whole_entries_put_right
set_option Elab.async false
set_option linter.all false
set_option maxRecDepth 100000
set_option maxHeartbeats 4000000
/-! The little Python: data, states, and what its expressions and statements do. -/
namespace G4
open PySem L2

/-- data: by value; obj n: the n-th object of the store; fn x: a def or class of the text, by its name -/
inductive D where
  | non | bl (b : Bool) | int (i : Int) | str (x : Str)
  | tup (l : List D) | lst (l : List D) | dct (l : List (Key × D)) | kys (l : List (Key × D))
  | obj (n : Nat) | fn (x : Str) | scr (l : List Int)
/-- an object that may be written -/
inductive Cell where
  | lst (l : List D) | dK (l : List (Key × D)) | dT (l : List (List Key × D)) | set (l : List Int) | ins (c : Str) (fs : List (Str × D))
/-- a local name's place -/
inductive SV where
  | un | d (x : D) | own (c : Cell)
structure S where
  sl : List SV
  st : List Cell
/-- what an expression gives: a datum; an object made just now; the object of a local name -/
inductive R where
  | d (x : D) | new (c : Cell) | pl (i : Nat)
structure Exn where
  c : Str
  fs : List (Str × D)
inductive O (α : Type) where
  | ok (a : α) (s : S) | ex (e : Exn) (s : S) | bad
def O.bind {α β : Type} : O α → (α → S → O β) → O β
  | .ok a s, f => f a s
  | .ex e s, _ => .ex e s
  | .bad, _ => .bad
inductive FO where
  | ok (r : R) (st : List Cell) | ex (e : Exn) (st : List Cell) | bad
abbrev Fn := List D → List Cell → FO

def strOk (x : Str) : Bool := x.cps.all (· < 0x110000)
mutual
/-- plain data, not deeper than n -/
def D.plainN : Nat → D → Bool
  | _, .non => true
  | _, .bl _ => true
  | _, .int _ => true
  | _, .str x => strOk x
  | n + 1, .tup l => D.plainsN n l
  | n + 1, .lst l => D.plainsN n l
  | _, _ => false
def D.plainsN : Nat → List D → Bool
  | _, [] => true
  | n, d :: l => D.plainN n d && D.plainsN n l
end
abbrev D.plain (d : D) : Bool := D.plainN 60 d
abbrev D.plains (l : List D) : Bool := D.plainsN 60 l
mutual
/-- no objects of the store within -/
def D.pure : D → Bool
  | .non => true
  | .bl _ => true
  | .int _ => true
  | .str _ => true
  | .tup l => D.pures l
  | .lst l => D.pures l
  | .dct l => D.pureK l
  | .kys l => D.pureK l
  | .obj _ => false
  | .fn _ => true
  | .scr _ => true
def D.pures : List D → Bool
  | [] => true
  | d :: l => d.pure && D.pures l
def D.pureK : List (Key × D) → Bool
  | [] => true
  | (_, d) :: l => d.pure && D.pureK l
end
def b2i (b : Bool) : Int := if b then 1 else 0
mutual
/-- == of plain data -/
def D.eqv : D → D → Bool
  | .non, .non => true
  | .bl a, .bl b => a == b
  | .bl a, .int j => b2i a == j
  | .int i, .bl b => i == b2i b
  | .int i, .int j => i == j
  | .str x, .str y => decide (x = y)
  | .tup a, .tup b => D.eqvs a b
  | .lst a, .lst b => D.eqvs a b
  | _, _ => false
def D.eqvs : List D → List D → Bool
  | [], [] => true
  | a :: l, b :: m => D.eqv a b && D.eqvs l m
  | _, _ => false
end
def Cell.view : Cell → Option D
  | .lst l => some (.lst l)
  | .dK l => some (.dct l)
  | _ => none
def Cell.pure : Cell → Bool
  | .lst l => D.pures l
  | .dK l => D.pureK l
  | .dT l => D.pures (l.map (·.2))
  | .set _ => true
  | .ins _ fs => D.pures (fs.map (·.2))
/-- the datum at a place, as it stands -/
def S.rdD (s : S) : D → Option D
  | .obj n => (s.st[n]?).bind Cell.view
  | .kys l => some (.dct l)
  | x => some x
def S.rd (s : S) : R → Option D
  | .d x => s.rdD x
  | .new c => c.view
  | .pl i => match s.sl[i]? with
    | some (.own c) => c.view
    | some (.d x) => s.rdD x
    | _ => none
/-- it is kept: from here on it stays as it is -/
def S.fz (s : S) : R → Option (D × S)
  | .d x => some (x, s)
  | .new c => c.view.map fun x => (x, s)
  | .pl i => match s.sl[i]? with
    | some (.own c) => c.view.map fun x => (x, { s with sl := s.sl.set i (.d x) })
    | some (.d x) => some (x, s)
    | _ => none
/-- an operand: what was made just now is kept -/
def R.settle : R → Option R
  | .new c => c.view.map .d
  | r => some r
def lim (α : Type) : Option α → S → O α
  | some a, s => .ok a s
  | none, _ => .bad
def O.ofOpt {α : Type} : Option α → S → O α
  | some a, s => .ok a s
  | none, _ => .bad
def O.val (o : O R) : O D := o.bind fun r s => match s.fz r with
  | some (x, s) => .ok x s
  | none => .bad
def O.opd (o : O R) : O R := o.bind fun r s => .ofOpt r.settle s

abbrev big : Nat := 16777216
/-- truth -/
def D.tru : D → Option Bool
  | .non => some false
  | .bl b => some b
  | .int i => some (i != 0)
  | .str x => if x.length ≤ big then some ((x.length : Int) != 0) else none
  | .tup l => some (!l.isEmpty)
  | .lst l => some (!l.isEmpty)
  | _ => none

/-- a list, so many times -/
def repD (n : Nat) (a : List D) : List D := (List.replicate n a).flatten
/-- an int of less than 62 bits -/
def small (i : Int) : Bool := decide (i.natAbs.log2 < 62)
theorem small_iff {i : Int} (h : small i = true) : -(2 ^ 62) ≤ i ∧ i < 2 ^ 62 := by
  have h : i.natAbs.log2 < 62 := of_decide_eq_true h
  by_cases z : i.natAbs = 0
  · omega
  · have := (Nat.log2_lt z).mp h
    omega
/-! ### operators by values -/
def opBin : Operator → D → D → Option R
  | .Add, .int i, .int j => some (.d (.int (i + j)))
  | .Add, .str x, .str y => if x.length + y.length ≤ big then some (.d (.str (x ++ y))) else none
  | .Add, .lst a, .lst b => if a.length + b.length ≤ big then some (.new (.lst (a ++ b))) else none
  | .Sub, .int i, .int j => some (.d (.int (i - j)))
  | .Mult, .int i, .int j => if i.natAbs.log2 + j.natAbs.log2 < 1000000 then some (.d (.int (i * j))) else none
  | .Mult, .lst a, .int k => if a.length * k.toNat ≤ big ∧ small k = true then some (.new (.lst (repD k.toNat a))) else none
  | .FloorDiv, .int i, .int j => if 0 < j ∧ j.natAbs.log2 < 9000 then some (.d (.int (i / j))) else none
  | .Mod, .int i, .int j => if 0 < j then some (.d (.int (i % j))) else none
  | .Pow, .int i, .int j => if 0 ≤ j ∧ (Builtin.Int.intBits i : Int) * j ≤ 2 ^ 27 then some (.d (.int (i ^ j.toNat))) else none
  | .LShift, .int i, .int j => if 0 ≤ j ∧ (Builtin.Int.intBits i : Int) + j ≤ 2 ^ 27 then some (.d (.int (i * 2 ^ j.toNat))) else none
  | .RShift, .int i, .int j => if 0 ≤ j then some (.d (.int (i / 2 ^ j.toNat))) else none
  | .BitAnd, .int i, .int j => some (.d (.int (Builtin.bitAnd i j)))
  | .BitOr, .int i, .int j => some (.d (.int (Builtin.bitOr i j)))
  | _, _, _ => none
def D.mem (x : D) (l : List D) : Bool := l.any fun y => D.eqv y x
def opIn : D → D → Option Bool
  | x, .lst l => if x.plain && D.plains l then some (D.mem x l) else none
  | x, .tup l => if x.plain && D.plains l then some (D.mem x l) else none
  | .str x, .str y => some (!(Builtin.Str.occurrences y x 0 y.length 1).isEmpty)
  | _, _ => none
def D.isNon : D → Bool
  | .non => true
  | _ => false
def opIs : D → D → Option Bool
  | x, .non => some x.isNon
  | .bl a, .bl b => some (decide (a = b))
  | _, _ => none
/-- ==: two texts as they are, else plain data -/
def opEq : D → D → Option Bool
  | .str x, .str y => some (decide (x = y))
  | a, b => if a.plain && b.plain then some (a.eqv b) else none
theorem opEq_cases {a b : D} {k : Bool} (h : opEq a b = some k) : (∃ x y, a = .str x ∧ b = .str y ∧ k = decide (x = y)) ∨ (a.plain = true ∧ b.plain = true ∧ k = a.eqv b) := by
  unfold opEq at h
  split at h
  · cases h
    exact .inl ⟨_, _, rfl, rfl, rfl⟩
  · split at h
    · rename_i hp
      rw [Bool.and_eq_true] at hp
      cases h
      exact .inr ⟨hp.1, hp.2, rfl⟩
    · cases h
def opCmp : CmpOp → D → D → Option Bool
  | .Eq, a, b => opEq a b
  | .NotEq, a, b => (opEq a b).map (!·)
  | .Lt, .int i, .int j => some (decide (i < j))
  | .LtE, .int i, .int j => some (decide (i ≤ j))
  | .Gt, .int i, .int j => some (decide (j < i))
  | .GtE, .int i, .int j => some (decide (j ≤ i))
  | .In, a, b => opIn a b
  | .NotIn, a, b => (opIn a b).map (!·)
  | .Is, a, b => opIs a b
  | .IsNot, a, b => (opIs a b).map (!·)
  | _, _, _ => none
def atD (xs : List D) (i : Int) : Option D := atI xs i
/-- keys of dicts -/
def keyOf : D → Option Key
  | .int i => some (.inl i)
  | .str x => some (.inr x)
  | _ => none
def lookK (l : List (Key × D)) (k : Key) : Option D := (l.find? fun kv => decide (kv.1 = k)).map (·.2)
def putD (l : List (Key × D)) (k : Key) (x : D) : List (Key × D) :=
  if (l.any fun kv => decide (kv.1 = k)) = true then l.map (fun kv => if kv.1 = k then (kv.1, x) else kv) else l ++ [(k, x)]
def opIx : D → D → Option D
  | .lst l, .int i => atI l i
  | .tup l, .int i => atI l i
  | .scr l, .int i => (atI l i).map .int
  | .str x, .int i => if x.length ≤ big then (atI x.cps.toList i).map fun c => .str ⟨#[c]⟩ else none
  | _, _ => none
def cut {α : Type} (xs : List α) (lo hi : Option Int) : List α := (xs.drop (HT.sIx xs.length 0 lo)).take (HT.sIx xs.length xs.length hi - HT.sIx xs.length 0 lo)
def opSl : D → Option Int → Option Int → Option R
  | .lst l, lo, hi => some (.new (.lst (cut l lo hi)))
  | .scr l, lo, hi => some (.new (.lst ((cut l lo hi).map .int)))
  | .tup l, lo, hi => some (.d (.tup (cut l lo hi)))
  | _, _, _ => none
end G4

namespace G4
open PySem L2

inductive T where
  | nm (i : Nat) | tp (l : List T)
inductive Bi where
  | len | toInt | abs | max2 | min2 | maxL | minL | sum | sorted | all | any | list | tuple | repr | toStr | set
  deriving DecidableEq
inductive Mt where
  | append | extend | pop | insert | count | index | get | split | join
  deriving DecidableEq
inductive Ty where
  | int | bool | str | list | tuple | dict | none
  deriving DecidableEq
mutual
inductive E where
  | var (i : Nat) | glo (x : Str) (d : D) | int (i : Int) | str (x : Str) | bl (b : Bool) | non
  | bin (o : Operator) (a b : E) | neg (a : E) | not (a : E)
  | and (a b : E) | or (a b : E)
  | ifx (c a b : E)
  | cmp (o : CmpOp) (a b : E) | cmp2 (o u : CmpOp) (a b c : E) | cmp3 (o u v : CmpOp) (a b c d : E)
  | tup (es : Es) | lst (es : Es) | dnil
  | ix (a b : E) | sl (a : E) (lo hi : EO) | rev (a : E)
  | lc (own : List (Str × Nat)) (e : E) (g : T) (src : Src) (c : EO)
  | call (x : Str) (F : Fn) (es : Es)
  | callk (x : Str) (F : Fn) (pm : List Nat) (ks : List Str) (ws : Es)
  | bi (b : Bi) (es : Es)
  | isi (a : E) (ts : List Ty)
  | mt (m : Mt) (a : E) (es : Es)
  | mu (m : Mt) (a : E) (es : Es)
  | alc (e : E)
  | sset (e : E) | zip3 (a b c : E)
  | dget (a k d : E) | dix (a k : E) | dead
  | rpd (e : E) | lset (e : E) | lrng (a b d : E) | mov (i : Nat) | callb (x : Str) (F : Fn) (i : Nat) | lend (is : List Nat) (e : E)
  | bits (e : E) | maxv (e : E) | dne (e : E) | starT (x a : E) | starL (x a : E) | starR (a y : E) | take (i : Nat) | dlit (k v : Int)
inductive Es where
  | nil | cons (e : E) (r : Es)
inductive EO where
  | no | so (e : E)
inductive Src where
  | seq (e : E) | rng1 (a : E) | rng2 (a b : E) | enum (e : E) | zip (a b : E) | dks (i : Nat) | dit (i : Nat)
end
inductive Tg where
  | nm (i : Nat) | sub (a i : E)
/-- what an except clause does: x = True, False; with as: x = (e.f, ..), return (e.f, ..) -/
inductive Hd where
  | setB (i : Nat) (k : Bool) | setT (j i : Nat) (f g : Str) | retT (j : Nat) (f g : Str)
mutual
inductive Sm where
  | pass | expr (e : E) | set (i : Nat) (e : E) | par (l : List Nat) (es : Es) | unp (t : T) (e : E)
  | aug (i : Nat) (o : Operator) (e : E) | parT (l : List Tg) (es : Es)
  | setix (a b e : E)
  | ifs (c : E) (a b : Sms) | whl (n : Nat) (c : E) (b : Sms) | fors (t : T) (src : Src) (b : Sms)
  | ret (e : E) | retN | brk | cont
  | rais (c : Str) (m : Str) | raisO (c f g : Str) (es : Es) | tryc (b : Sms) (c : Str) (h : Hd) | dead | unpO (l : List Nat) (e : E) | augs (a i : E) (o : Operator) (e : E)
inductive Sms where
  | nil | cons (a : Sm) (r : Sms)
end

def Es.len : Es → Nat
  | .nil => 0
  | .cons _ r => r.len + 1
def S.cell (s : S) : R → Option Cell
  | .new c => some c
  | .pl i => match s.sl[i]? with
    | some (.own c) => some c
    | some (.d (.obj n)) => s.st[n]?
    | _ => none
  | .d (.obj n) => s.st[n]?
  | _ => none
/-- an object is written -/
def S.put (s : S) (c : Cell) : R → Option S
  | .pl i => match s.sl[i]? with
    | some (.own _) => some { s with sl := s.sl.set i (.own c) }
    | some (.d (.obj n)) => if c.pure then some { s with st := s.st.set n c } else none
    | _ => none
  | .d (.obj n) => if c.pure then some { s with st := s.st.set n c } else none
  | _ => none
/-- a name is given a value -/
def S.store (s : S) (i : Nat) : R → Option S
  | .d x => some { s with sl := s.sl.set i (.d x) }
  | .new c => some { s with sl := s.sl.set i (.own c) }
  | .pl j => (s.fz (.pl j)).map fun (x, s) => { s with sl := s.sl.set i (.d x) }
mutual
def T.asg : T → D → S → Option S
  | .nm i, x, s => some { s with sl := s.sl.set i (.d x) }
  | .tp l, .tup xs, s => if xs.length = l.length then T.asgs l xs s else none
  | _, _, _ => none
def T.asgs : List T → List D → S → Option S
  | [], [], s => some s
  | t :: l, x :: xs, s => (T.asg t x s).bind fun s => T.asgs l xs s
  | _, _, _ => none
end
mutual
def T.ixs : T → List Nat
  | .nm i => [i]
  | .tp l => T.ixss l
def T.ixss : List T → List Nat
  | [] => []
  | t :: l => T.ixs t ++ T.ixss l
end
def D.isInt : D → Option Int
  | .int i => some i
  | _ => none
def D.isBl : D → Option Bool
  | .bl i => some i
  | _ => none
def intsD : List D → Option (List Int)
  | [] => some []
  | .int i :: l => (intsD l).map (i :: ·)
  | _ => none
def blsD : List D → Option (List Bool)
  | [] => some []
  | .bl i :: l => (blsD l).map (i :: ·)
  | _ => none
def isort (l : List Int) : List Int := l.mergeSort (fun a b => decide (a ≤ b))
def maxI : Int → List Int → Int
  | a, [] => a
  | a, b :: l => maxI (if b > a then b else a) l
def minI : Int → List Int → Int
  | a, [] => a
  | a, b :: l => minI (if b < a then b else a) l
/-- built-in functions by values -/
def biLen : List D → Option R
  | [.lst l] => some (.d (.int l.length))
  | [.scr l] => some (.d (.int l.length))
  | [.tup l] => some (.d (.int l.length))
  | [.str x] => if x.length ≤ big then some (.d (.int x.length)) else none
  | [.dct l] => some (.d (.int l.length))
  | _ => none
def biInt : List D → Option R
  | [.int i] => some (.d (.int i))
  | [.bl b] => some (.d (.int (b2i b)))
  | _ => none
def biAbs : List D → Option R
  | [.int i] => some (.d (.int (if i < 0 then -i else i)))
  | _ => none
def biMax2 : List D → Option R
  | [.int i, .int j] => some (.d (.int (if j > i then j else i)))
  | _ => none
def biMin2 : List D → Option R
  | [.int i, .int j] => some (.d (.int (if j < i then j else i)))
  | _ => none
def biMaxL : List D → Option R
  | [.lst l] => match intsD l with
    | some (i :: r) => some (.d (.int (maxI i r)))
    | _ => none
  | _ => none
def biMinL : List D → Option R
  | [.lst l] => match intsD l with
    | some (i :: r) => some (.d (.int (minI i r)))
    | _ => none
  | _ => none
def biSum : List D → Option R
  | [.lst l] => (intsD l).map fun ns => .d (.int ns.sum)
  | _ => none
def keysI : List (Key × D) → Option (List Int)
  | [] => some []
  | (.inl i, _) :: l => (keysI l).map (i :: ·)
  | _ => none
/-- tuples of ints -/
def tupsD : List D → Option (List (List Int))
  | [] => some []
  | .tup t :: l => (intsD t).bind fun n => (tupsD l).map (n :: ·)
  | _ => none
def tupD (n : List Int) : D := .tup (n.map .int)
/-- tuples compared -/
def tle : List Int → List Int → Bool
  | [], _ => true
  | _ :: _, [] => false
  | a :: l, b :: m => decide (a < b) || (decide (a = b) && tle l m)
def tsort (ns : List (List Int)) : List (List Int) := ns.mergeSort tle
def okT (d : Nat) (ns : List (List Int)) : Bool := decide (1 ≤ d) && decide (ns.length < 64) && ns.all fun n => decide (n.length = d) && n.all fun i => decide (0 ≤ i)
def sortT (ns : List (List Int)) : Option R := if okT (ns.headD []).length ns then some (.new (.lst ((tsort ns).map tupD))) else none
/-- tuples of ints and texts -/
def itX : D → Option (Int ⊕ List Nat)
  | .int i => some (.inl i)
  | .str x => some (.inr x.cps.toList)
  | _ => none
def itsX : List D → Option (List (Int ⊕ List Nat))
  | [] => some []
  | d :: l => (itX d).bind fun k => (itsX l).map (k :: ·)
def keyX : D → Option (List (Int ⊕ List Nat))
  | .tup l => itsX l
  | _ => none
def shX (k : List (Int ⊕ List Nat)) : List Bool := k.map Sum.isRight
def kX (d : D) : List (Int ⊕ List Nat) := (keyX d).getD []
def leX (a b : D) : Bool := !PyProof.Rows.lexLt PyProof.Rows.itemOrd (kX b) (kX a)
def xsort (l : List D) : List D := l.mergeSort leX
def okX (l : List D) : Bool := !(shX (kX (l.headD .non))).isEmpty && l.all fun d => match keyX d with
  | some k => decide (shX k = shX (kX (l.headD .non)))
  | none => false
def sortX (l : List D) : Option R := if okX l then some (.new (.lst (xsort l))) else none
def sortL (l : List D) : Option R := match intsD l with
  | some ns => some (.new (.lst ((isort ns).map .int)))
  | none => match tupsD l with
    | some ns => sortT ns
    | none => sortX l
def biSorted : List D → Option R
  | [.dct l] => (keysI l).bind fun ns => if ns.length < 64 then some (.new (.lst ((isort ns).map .int))) else none
  | [.lst l] => sortL l
  | _ => none
def biAll : List D → Option R
  | [.lst l] => (blsD l).map fun ns => .d (.bl (ns.all id))
  | _ => none
def biAny : List D → Option R
  | [.lst l] => (blsD l).map fun ns => .d (.bl (ns.any id))
  | _ => none
def biList : List D → Option R
  | [.lst l] => some (.new (.lst l))
  | [.tup l] => some (.new (.lst l))
  | _ => none
def biTuple : List D → Option R
  | [.lst l] => some (.d (.tup l))
  | [.tup l] => some (.d (.tup l))
  | _ => none
mutual
/-- as a datum of the kit -/
def toPD : D → PyData
  | .non => .none
  | .bl b => .bool b
  | .int i => .int i
  | .str x => .str x
  | .tup l => .tuple (toPDs l)
  | .lst l => .list (toPDs l)
  | .dct _ => .none
  | .kys _ => .none
  | .obj _ => .none
  | .fn _ => .none
  | .scr _ => .none
def toPDs : List D → List PyData
  | [] => []
  | d :: l => toPD d :: toPDs l
end
mutual
/-- no more signs than that in its repr -/
def D.cost : D → Nat
  | .int i => i.natAbs.log2 + 3
  | .str x => (reprText x).length
  | .tup l => D.costs l + 3
  | .lst l => D.costs l + 2
  | _ => 5
def D.costs : List D → Nat
  | [] => 0
  | d :: l => D.cost d + 2 + D.costs l
end
mutual
/-- every int can be told -/
def D.shows : D → Bool
  | .int i => decide (i.natAbs.log2 < 1920)
  | .tup l => D.showss l
  | .lst l => D.showss l
  | _ => true
def D.showss : List D → Bool
  | [] => true
  | d :: l => d.shows && D.showss l
end
def D.isSeq : D → Bool
  | .tup _ => true
  | .lst _ => true
  | _ => false
def reprD : D → Option Str
  | .non => some "None"
  | .bl b => some (if b then "True" else "False")
  | .int i => if i.natAbs.log2 < 1920 then some (toString i : String) else none
  | .str x => if (reprText x).length ≤ big then some (reprText x) else none
  | .tup l => if D.plainsN 59 l && D.showss l && decide (D.costs l + 3 ≤ big) then some (toPD (.tup l)).shown else none
  | .lst l => if D.plainsN 59 l && D.showss l && decide (D.costs l + 2 ≤ big) then some (toPD (.lst l)).shown else none
  | .dct l => if l.isEmpty then some (PyData.dict []).shown else none
  | _ => none
def biRepr : List D → Option R
  | [x] => (reprD x).map fun s => .d (.str s)
  | _ => none
def biSem : Bi → List D → Option R
  | .len => biLen
  | .toInt => biInt
  | .abs => biAbs
  | .max2 => biMax2
  | .min2 => biMin2
  | .maxL => biMaxL
  | .minL => biMinL
  | .sum => biSum
  | .sorted => biSorted
  | .all => biAll
  | .any => biAny
  | .list => biList
  | .tuple => biTuple
  | .repr => biRepr
  | _ => fun _ => none
def D.kind : D → Option Ty
  | .non => some .none
  | .bl _ => some .bool
  | .int _ => some .int
  | .str _ => some .str
  | .tup _ => some .tuple
  | .lst _ => some .list
  | .dct _ => some .dict
  | .kys _ => none
  | .scr _ => some .list
  | .obj _ => none
  | .fn _ => none
def Ty.sub (a b : Ty) : Bool := decide (a = b) || (decide (a = .bool) && decide (b = .int))
/-- methods that read -/
def D.flat : D → Bool
  | .non => true
  | .bl _ => true
  | .int _ => true
  | .str _ => true
  | _ => false
def mtCount : D → List D → Option R
  | .lst l, [x] => if x.flat && l.all D.flat then some (.d (.int (l.countP fun y => D.eqv y x))) else none
  | _, _ => none
def mtIdx : D → List D → Option R
  | .lst l, [x] => if x.flat && l.all D.flat then (l.findIdx? fun y => D.eqv y x).map (fun (j : Nat) => R.d (D.int (j : Int))) else none
  | _, _ => none
def mtSem : Mt → D → List D → Option R
  | .count => mtCount
  | .index => mtIdx
  | _ => fun _ _ => none
/-- methods that write: the answer and the object behind -/
def muApp : Cell → List D → Option (R × Cell)
  | .lst l, [x] => if l.length < big then some (.d .non, .lst (l ++ [x])) else none
  | _, _ => none
def muExt : Cell → List D → Option (R × Cell)
  | .lst l, [.lst r] => if l.length + r.length ≤ big then some (.d .non, .lst (l ++ r)) else none
  | _, _ => none
def muPop : Cell → List D → Option (R × Cell)
  | .lst l, [.int i] => match ixN l.length i with
    | some k => match l[k]? with
      | some x => if small i = true then some (.d x, .lst (l.eraseIdx k)) else none
      | none => none
    | none => none
  | _, _ => none
def muIns : Cell → List D → Option (R × Cell)
  | .lst l, [.int i, x] => if 0 ≤ i ∧ small i = true ∧ l.length < big then some (.d .non, .lst (l.take i.toNat ++ [x] ++ l.drop i.toNat)) else none
  | _, _ => none
def muSem : Mt → Cell → List D → Option (R × Cell)
  | .append => muApp
  | .insert => muIns
  | .extend => muExt
  | .pop => muPop
  | _ => fun _ _ => none
def setIx : Cell → D → D → Option Cell
  | .dK l, k, x => if l.length < big then (keyOf k).map fun k => .dK (putD l k x) else none
  | .lst l, .int i, x => (ixN l.length i).map fun k => .lst (l.set k x)
  | _, _, _ => none
def enumFrom : Nat → List D → List D
  | _, [] => []
  | k, x :: l => .tup [.int k, x] :: enumFrom (k + 1) l
def zip3D : List D → List D → List D → List D
  | x :: l, y :: m, z :: n => .tup [x, y, z] :: zip3D l m n
  | _, _, _ => []
/-- each number once -/
def dd : List Int → List Int
  | [] => []
  | a :: l => if a ∈ l then dd l else a :: dd l
def dneB : D → Option Bool
  | .dct l => some (!l.isEmpty)
  | _ => none
def valsI : List (Key × D) → Option (List Int)
  | [] => some []
  | (_, .int i) :: l => (valsI l).map (i :: ·)
  | _ => none
def maxvD : D → Option R
  | .dct l => match valsI l with
    | some (n :: ns) => some (.d (.int (maxI n ns)))
    | _ => none
  | _ => none
def ssetD : D → Option R
  | .lst l => match intsD l with
    | some ns => if ns.length < 64 then some (.new (.lst ((isort (dd ns)).map .int))) else if (decide (ns.length < 4000) && decide ((dd ns).length < 64)) = true then some (.new (.lst ((isort (dd ns)).map .int))) else none
    | none => none
  | _ => none
def lsetD : D → Option R
  | .lst l => match intsD l with
    | some ns => if ns.Nodup ∧ ns.length ≤ 1000 then some (.d (.int ns.length)) else none
    | none => none
  | _ => none
def downL (a b : Int) : List Int := (List.range (a - b).toNat).map fun i => a - (i : Nat)
def lrngD : D → D → D → Option R
  | .int i, .int j, .int k => if (decide (i.natAbs.log2 < 61) && decide (j.natAbs.log2 < 61) && (k == -1) && decide ((i - j).toNat ≤ 1000000)) = true then some (.new (.lst ((downL i j).map .int))) else none
  | _, _, _ => none
def bitsD : D → Option R
  | .int i => some (.d (.int (Builtin.Int.intBits i : Nat)))
  | _ => none
def D.items : D → Option (List D)
  | .lst l => some l
  | .tup l => some l
  | _ => none
def starTD (x y : D) : Option R := y.items.bind fun l => if l.length < 1000 then some (.d (.tup (x :: l))) else none
def starLD (x y : D) : Option R := y.items.bind fun l => if l.length < 1000 then some (.new (.lst (x :: l))) else none
def starRD (l : List D) (x : D) : Option R := if l.length < 1000 then some (.new (.lst (l ++ [x]))) else none
def zipD : List D → List D → List D
  | x :: l, y :: r => .tup [x, y] :: zipD l r
  | _, _ => []
def rangeD (a : Int) : Nat → List D
  | 0 => []
  | n + 1 => .int a :: rangeD (a + 1) n
def rng1Sem : List D → Option (List D)
  | [.int j] => if small j then some (rangeD 0 j.toNat) else none
  | _ => none
def rng2Sem : List D → Option (List D)
  | [.int i, .int j] => if small i && small j then some (rangeD i (j - i).toNat) else none
  | _ => none
/-- the slots of a comprehension's names forgotten, and brought back -/
def hideSl (sl : List SV) : List Nat → List SV
  | [] => sl
  | i :: l => (hideSl sl l).set i .un
def backSl (old sl : List SV) : List Nat → List SV
  | [] => sl
  | i :: l => (backSl old sl l).set i (old.getD i .un)
def SV.isOwn : SV → Bool
  | .own _ => true
  | _ => false
def S.hide (vs : List Nat) (s : S) : S := ⟨hideSl s.sl vs, s.st⟩
def lcLoop (vs : List Nat) (tgt : D → S → Option S) (cond : S → O Bool) (elt : S → O D) : List D → List D → S → O (List D)
  | [], acc, s => .ok acc s
  | x :: l, acc, s => match tgt x (s.hide vs) with
    | none => .bad
    | some s => (cond s).bind fun b s => if b then (elt s).bind fun y s => lcLoop vs tgt cond elt l (acc ++ [y]) s else lcLoop vs tgt cond elt l acc s
/-- nothing is raised here -/
def O.noex {α : Type} : O α → O α
  | .ex _ _ => .bad
  | o => o
def FO.toO (sl : List SV) : FO → O R
  | .ok r st => .ok r ⟨sl, st⟩
  | .ex e st => .ex e ⟨sl, st⟩
  | .bad => .bad
def perm (pm : List Nat) (l : List D) : List D := pm.map fun i => l.getD i .non
def S.rdLst (s : S) (x : R) : Bool := match s.rd x with
  | some (.lst _) => true
  | _ => false
def S.isLst (s : S) : R → Bool
  | .new _ => false
  | x => match s.cell x with
    | some (.lst _) => true
    | _ => false
def S.rdDct (s : S) (x : R) : Bool := match s.rd x with
  | some (.dct _) => true
  | _ => false
def S.isDct (s : S) : R → Bool
  | .new _ => false
  | x => match s.cell x with
    | some (.dK _) => true
    | _ => false
/-- a list, its objects as they stand -/
def deepV (s : S) : D → Option D
  | .lst l => (l.mapM s.rdD).map .lst
  | _ => none
def Cell.flat : Cell → Bool
  | .lst l => l.all D.flat
  | _ => false
/-- a call to which an own object is lent -/
def lendV (F : Fn) (c : Cell) (s : S) : O R := match c.view with
  | some d => match F [d] s.st with
    | .ok (.d y) st => if y.flat && st.all Cell.flat then .ok (.d y) ⟨s.sl, st⟩ else .bad
    | _ => .bad
  | none => .bad
def SV.noOwn : SV → SV
  | .own _ => .un
  | v => v
/-- some own objects are lent, the others hidden -/
def lendS : List Nat → S → Option S
  | [], s => some ⟨s.sl.map SV.noOwn, s.st⟩
  | i :: l, s => match s.sl[i]? with
    | some (.own c) => match c.view with
      | some x => lendS l ⟨s.sl.set i (.d x), s.st⟩
      | none => none
    | some (.d _) => lendS l s
    | _ => none
def lendB (s : S) : O Bool → O Bool
  | .ok k t => if t.st.all Cell.flat then .ok k ⟨s.sl, t.st⟩ else .bad
  | _ => .bad
def lendD (s : S) : O R → O R
  | .ok (.d y) t => if y.flat && t.st.all Cell.flat then .ok (.d y) ⟨s.sl, t.st⟩ else .bad
  | _ => .bad
def dgetV (x y : R) (z : D) (s : S) : O R := match s.rd x, (s.rd y).bind keyOf with
  | some (.dct l), some k => .ok (.d ((lookK l k).getD z)) s
  | _, _ => .bad
def dixV (x y : R) (s : S) : O R := match s.rd x, (s.rd y).bind keyOf with
  | some (.dct l), some k => .ofOpt ((lookK l k).map .d) s
  | _, _ => .bad
def mtV (m : Mt) (x : R) (l : List D) (s : S) : O R := .ofOpt ((s.rd x).bind fun x => mtSem m x l) s
def muV (m : Mt) (x : R) (l : List D) (s : S) : O R := match (s.cell x).bind fun c => muSem m c l with
  | some (r, c) => (O.ofOpt (s.put c x) s).bind fun s _ => .ok r s
  | none => .bad
def binV (o : Operator) (x y : R) (s : S) : O R := match s.rd x, s.rd y with
  | some x, some y => .ofOpt (opBin o x y) s
  | _, _ => .bad
def cmpV (o : CmpOp) (x y : R) (s : S) : O Bool := match s.rd x, s.rd y with
  | some x, some y => .ofOpt (opCmp o x y) s
  | _, _ => .bad
def ixV (x y : R) (s : S) : O R := match s.rd x, s.rd y with
  | some x, some y => .ofOpt ((opIx x y).map .d) s
  | _, _ => .bad
def truV (x : R) (s : S) : O Bool := .ofOpt ((s.rd x).bind D.tru) s
def biV (b : Bi) (l : List R) (s : S) : O R := match l.mapM s.rd with
  | some l => .ofOpt (biSem b l) s
  | none => .bad
def isiV (ts : List Ty) (x : R) (s : S) : O Bool := .ofOpt (((s.rd x).bind D.kind).map fun k => ts.any k.sub) s
/-- a key as a datum -/
def keyD : Key → D
  | .inl i => .int i
  | .inr x => .str x
/-- a name's dict is kept from here on, and its keys may be walked -/
def S.lock (s : S) (i : Nat) : Option (List (Key × D) × S) := match s.sl[i]? with
  | some (.own (.dK l)) => some (l, { s with sl := s.sl.set i (.d (.kys l)) })
  | some (.d (.kys l)) => some (l, s)
  | _ => none
def itmD (p : Key × D) : D := .tup [keyD p.1, p.2]
def asBl (o : O Bool) : O R := o.bind fun k s => .ok (.d (.bl k)) s
mutual
def ev : E → S → O R
  | .var i, s => match s.sl[i]? with
    | some (.d x) => .ok (.d x) s
    | some (.own _) => .ok (.pl i) s
    | _ => .bad
  | .glo _ d, s => .ok (.d d) s
  | .int i, s => .ok (.d (.int i)) s
  | .str x, s => .ok (.d (.str x)) s
  | .bl b, s => .ok (.d (.bl b)) s
  | .non, s => .ok (.d .non) s
  | .bin o a b, s => (ev a s).opd.bind fun x s => (ev b s).opd.bind fun y s => binV o x y s
  | .neg a, s => (ev a s).opd.bind fun x s => match s.rd x with
    | some (.int i) => .ok (.d (.int (-i))) s
    | _ => .bad
  | .not a, s => (ev a s).opd.bind fun x s => (truV x s).bind fun b s => .ok (.d (.bl (!b))) s
  | .and a b, s => (ev a s).opd.bind fun x s => match x with
    | .d (.bl true) => ev b s
    | .d (.bl false) => .ok (.d (.bl false)) s
    | _ => .bad
  | .or a b, s => (ev a s).opd.bind fun x s => match x with
    | .d (.bl true) => .ok (.d (.bl true)) s
    | .d (.bl false) => ev b s
    | _ => .bad
  | .ifx c a b, s => (evT c s).bind fun k s => if k then ev a s else ev b s
  | .cmp o a b, s => (ev a s).opd.bind fun x s => (ev b s).opd.bind fun y s => asBl (cmpV o x y s)
  | .cmp2 o u a b c, s => (ev a s).opd.bind fun x s => (ev b s).opd.bind fun y s => (cmpV o x y s).bind fun k s => if k then (ev c s).opd.bind fun z s => asBl (cmpV u y z s) else .ok (.d (.bl false)) s
  | .cmp3 o u v a b c d, s => (ev a s).opd.bind fun x s => (ev b s).opd.bind fun y s => (cmpV o x y s).bind fun k s => if k then (ev c s).opd.bind fun z s => (cmpV u y z s).bind fun k s => if k then (ev d s).opd.bind fun t s => asBl (cmpV v z t s) else .ok (.d (.bl false)) s else .ok (.d (.bl false)) s
  | .tup es, s => (evs es s).bind fun l s => .ok (.d (.tup l)) s
  | .lst es, s => (evs es s).bind fun l s => .ok (.new (.lst l)) s
  | .dnil, s => .ok (.new (.dK [])) s
  | .take i, s => match s.sl[i]? with
    | some (.own c) => .ok (.new c) ⟨s.sl.set i .un, s.st⟩
    | _ => .bad
  | .dlit k v, s => .ok (.new (.dK [(.inl k, .int v)])) s
  | .ix a b, s => (ev a s).opd.bind fun x s => (ev b s).opd.bind fun y s => ixV x y s
  | .sl a lo hi, s => (ev a s).opd.bind fun x s => (evo lo s).bind fun l s => (evo hi s).bind fun h s => match s.rd x with
    | some x => .ofOpt (opSl x l h) s
    | none => .bad
  | .rev a, s => (ev a s).opd.bind fun x s => match s.rd x with
    | some (.lst l) => .ok (.new (.lst l.reverse)) s
    | _ => .bad
  | .lc own e g src c, s => (evSrc src s).bind fun items s =>
      if (own.all fun p => !(s.sl.getD p.2 .un).isOwn) && decide (items.length ≤ big) then
        (lcLoop (own.map (·.2)) (fun x s => T.asg g x s) (fun s => evc c s) (fun s => (ev e s).val) items [] s).noex.bind fun l t => .ok (.new (.lst l)) ⟨backSl s.sl t.sl (own.map (·.2)), t.st⟩
      else .bad
  | .call _ F es, s => (evs es s).bind fun l s => (F l s.st).toO s.sl
  | .callk _ F pm _ ws, s => (evs ws s).bind fun l s => (F (perm pm l) s.st).toO s.sl
  | .bi b es, s => (evOs es s).bind fun l s => biV b l s
  | .isi a ts, s => (ev a s).opd.bind fun x s => asBl (isiV ts x s)
  | .mt m a es, s => (ev a s).opd.bind fun x s => if s.rdLst x then (evs es s).bind fun l s => mtV m x l s else .bad
  | .mu m a es, s => (ev a s).bind fun x s => if s.isLst x then (evs es s).bind fun l s => muV m x l s else .bad
  | .alc e, s => (ev e s).bind fun r s => match r with
    | .new c => if c.pure then .ok (.d (.obj s.st.length)) ⟨s.sl, s.st ++ [c]⟩ else .bad
    | _ => .bad
  | .sset a, s => (ev a s).opd.bind fun x s => .ofOpt ((s.rd x).bind ssetD) s
  | .maxv a, s => (ev a s).opd.bind fun x s => .ofOpt ((s.rd x).bind maxvD) s
  | .dne a, s => (ev a s).opd.bind fun x s => .ofOpt (((s.rd x).bind dneB).map fun k => .d (.bl k)) s
  | .zip3 a b c, s => (ev a s).val.bind fun x s => (ev b s).val.bind fun y s => (ev c s).val.bind fun z s => match x, y, z with
    | .lst l, .lst m, .lst n => if l.length = m.length ∧ l.length = n.length ∧ l.length ≤ 1000 then .ok (.new (.lst (zip3D l m n))) s else .bad
    | _, _, _ => .bad
  | .dget a k d, s => (ev a s).opd.bind fun x s => if s.rdDct x then (ev k s).opd.bind fun y s => (ev d s).val.bind fun z s => dgetV x y z s else .bad
  | .dead, s => .bad
  | .mov i, s => match s.sl[i]? with
    | some (.own c) => if c.pure then .ok (.d (.obj s.st.length)) ⟨s.sl.set i (.d (.obj s.st.length)), s.st ++ [c]⟩ else .bad
    | _ => .bad
  | .callb _ F i, s => match s.sl[i]? with
    | some (.own c) => lendV F c s
    | _ => .bad
  | .lend is e, s => match lendS is s with
    | some s1 => lendD s (ev e s1)
    | none => .bad
  | .rpd a, s => (ev a s).opd.bind fun x s => .ofOpt (((s.rd x).bind (deepV s)).bind fun y => biRepr [y]) s
  | .lrng a b c, s => (ev a s).val.bind fun x s => (ev b s).val.bind fun y s => (ev c s).val.bind fun z s => .ofOpt (lrngD x y z) s
  | .lset a, s => (ev a s).opd.bind fun x s => .ofOpt ((s.rd x).bind lsetD) s
  | .dix a k, s => (ev a s).opd.bind fun x s => (ev k s).opd.bind fun y s => dixV x y s
  | .bits a, s => (ev a s).val.bind fun x s => .ofOpt (bitsD x) s
  | .starT x a, s => (ev x s).val.bind fun d s => (ev a s).val.bind fun y s => .ofOpt (starTD d y) s
  | .starL x a, s => (ev x s).val.bind fun d s => (ev a s).val.bind fun y s => .ofOpt (starLD d y) s
  | .starR a x, s => (ev a s).val.bind fun y s => match y.items with
    | some l => (ev x s).val.bind fun d s => .ofOpt (starRD l d) s
    | none => .bad
/-- tests -/
def evT : E → S → O Bool
  | .not a, s => (evT a s).bind fun b s => .ok (!b) s
  | .and a b, s => (evT a s).bind fun x s => if x then evT b s else .ok false s
  | .or a b, s => (evT a s).bind fun x s => if x then .ok true s else evT b s
  | .cmp o a b, s => (ev a s).opd.bind fun x s => (ev b s).opd.bind fun y s => cmpV o x y s
  | .cmp2 o u a b c, s => (ev a s).opd.bind fun x s => (ev b s).opd.bind fun y s => (cmpV o x y s).bind fun k s => if k then (ev c s).opd.bind fun z s => cmpV u y z s else .ok false s
  | .cmp3 o u v a b c d, s => (ev a s).opd.bind fun x s => (ev b s).opd.bind fun y s => (cmpV o x y s).bind fun k s => if k then (ev c s).opd.bind fun z s => (cmpV u y z s).bind fun k s => if k then (ev d s).opd.bind fun t s => cmpV v z t s else .ok false s else .ok false s
  | .call _ F es, s => ((evs es s).bind fun l s => (F l s.st).toO s.sl).opd.bind fun r s => truV r s
  | .var i, s => match s.sl[i]? with
    | some (.d x) => truV (.d x) s
    | some (.own _) => truV (.pl i) s
    | _ => .bad
  | .bi b es, s => ((evOs es s).bind fun l s => biV b l s).opd.bind fun r s => truV r s
  | .ix a b, s => ((ev a s).opd.bind fun x s => (ev b s).opd.bind fun y s => ixV x y s).opd.bind fun r s => truV r s
  | .isi a ts, s => (ev a s).opd.bind fun x s => isiV ts x s
  | .dne a, s => (ev a s).opd.bind fun x s => .ofOpt ((s.rd x).bind dneB) s
  | .bl b, s => .ok b s
  | .lend is e, s => match lendS is s with
    | some s1 => lendB s (evT e s1)
    | none => .bad
  | _, _ => .bad
/-- data, each kept -/
def evs : Es → S → O (List D)
  | .nil, s => .ok [] s
  | .cons e r, s => (ev e s).val.bind fun x s => (evs r s).bind fun l s => .ok (x :: l) s
def evOs : Es → S → O (List R)
  | .nil, s => .ok [] s
  | .cons e r, s => (ev e s).opd.bind fun x s => (evOs r s).bind fun l s => .ok (x :: l) s
def evo : EO → S → O (Option Int)
  | .no, s => .ok none s
  | .so e, s => (ev e s).bind fun r s => match r with
    | .d (.int i) => .ok (some i) s
    | _ => .bad
def evc : EO → S → O Bool
  | .no, s => .ok true s
  | .so e, s => evT e s
def evSrc : Src → S → O (List D)
  | .seq e, s => (ev e s).val.bind fun x s => match x with
    | .lst l => .ok l s
    | .tup l => .ok l s
    | _ => .bad
  | .rng1 a, s => (ev a s).val.bind fun x s => .ofOpt (rng1Sem [x]) s
  | .rng2 a b, s => (ev a s).val.bind fun x s => (ev b s).val.bind fun y s => .ofOpt (rng2Sem [x, y]) s
  | .enum e, s => (ev e s).val.bind fun x s => match x with
    | .lst l => .ok (enumFrom 0 l) s
    | _ => .bad
  | .zip a b, s => (ev a s).val.bind fun x s => (ev b s).val.bind fun y s => match x, y with
    | .lst l, .lst m => .ok (zipD l m) s
    | _, _ => .bad
  | .dks i, s => match s.lock i with
    | some (l, s) => .ok (l.map fun p => keyD p.1) s
    | none => .bad
  | .dit i, s => match s.lock i with
    | some (l, s) => .ok (l.map itmD) s
    | none => .bad
end

inductive OS where
  | nx (s : S) | rt (r : R) (s : S) | bk (s : S) | ct (s : S) | ex (e : Exn) (s : S) | bad
def OS.of {α : Type} : O α → (α → S → OS) → OS
  | .ok a s, f => f a s
  | .ex e s, _ => .ex e s
  | .bad, _ => .bad
def OS.opt : Option S → OS
  | some s => .nx s
  | none => .bad
def OS.then : OS → (S → OS) → OS
  | .nx s, f => f s
  | o, _ => o
mutual
def D.under (n : Nat) : D → Bool
  | .non => true
  | .bl _ => true
  | .int _ => true
  | .str _ => true
  | .tup l => D.unders n l
  | .lst l => D.unders n l
  | .dct l => D.underK n l
  | .kys l => D.underK n l
  | .obj k => decide (k < n)
  | .fn _ => true
  | .scr _ => true
def D.unders (n : Nat) : List D → Bool
  | [] => true
  | d :: l => d.under n && D.unders n l
def D.underK (n : Nat) : List (Key × D) → Bool
  | [] => true
  | (_, d) :: l => d.under n && D.underK n l
end
def SV.keep (n : Nat) : SV → SV
  | .d x => if x.under n then .d x else .un
  | .own c => if c.pure then .own c else .un
  | .un => .un
/-- the store as it was long before the turn -/
def S.gc (n : Nat) (s : S) : S := if s.st.length = n then s else ⟨s.sl.map (SV.keep n), s.st.take n⟩
def forLoop (tgt : D → S → Option S) (body : S → OS) (n : Nat) : List D → S → OS
  | [], s => .nx s
  | x :: l, s => match tgt x s with
    | none => .bad
    | some s => match body s with
      | .nx s => forLoop tgt body n l (s.gc n)
      | .ct s => forLoop tgt body n l (s.gc n)
      | .bk s => .nx (s.gc n)
      | .rt r s => .rt r s
      | .ex e s => .ex e s
      | .bad => .bad
def whLoop (c : S → O Bool) (body : S → OS) (n : Nat) : Nat → S → OS
  | 0, _ => .bad
  | k + 1, s => OS.of (c s) fun b s => if b then match body s with
      | .nx s => whLoop c body n k (s.gc n)
      | .ct s => whLoop c body n k (s.gc n)
      | .bk s => .nx (s.gc n)
      | .rt r s => .rt r s
      | .ex e s => .ex e s
      | .bad => .bad
    else .nx s
/-- a, b = x, y: the values, then the names; what was made just now stands in the store in between -/
def evPar : Es → S → O (List D)
  | .nil, s => .ok [] s
  | .cons e r, s => (ev e s).bind fun x s => match x with
    | .new c => if c.pure then (evPar r ⟨s.sl, s.st ++ [c]⟩).bind fun l t => .ok (.obj s.st.length :: l) t else .bad
    | x => match s.fz x with
      | some (x, s) => (evPar r s).bind fun l t => .ok (x :: l) t
      | none => .bad
/-- what was made just now, by its place in the store -/
def D.isNew (n : Nat) : D → Option Nat
  | .obj m => if m < n then none else some m
  | _ => none
def putPar (n : Nat) (st : List Cell) : List Nat → List D → List SV → Option (List SV)
  | [], [], sl => some sl
  | i :: l, x :: r, sl => match x.isNew n with
    | some m => match st[m]? with
      | some c => putPar n st l r (sl.set i (.own c))
      | none => none
    | none => if x.under n then putPar n st l r (sl.set i (.d x)) else none
  | _, _, _ => none
/-- values are given to targets, one after the other -/
def putTs : List Tg → List D → S → OS
  | [], [], s => .nx s
  | .nm i :: l, x :: xs, s => putTs l xs ⟨s.sl.set i (.d x), s.st⟩
  | .sub a b :: l, x :: xs, s => .of (ev a s) fun p s => if s.isLst p || s.isDct p then .of (ev b s).val fun k s => match (s.cell p).bind fun c => setIx c k x with
    | some c => match s.put c p with
      | some s => putTs l xs s
      | none => .bad
    | none => .bad else .bad
  | _, _, _ => .bad
/-- name op= e, ints -/
def augV (i : Nat) (o : Operator) (m : Int) (y : R) (s : S) : OS := match s.rd y with
  | some (.int n) => if o = .Pow then .bad else match opBin o (.int m) (.int n) with
    | some (.d (.int z)) => .nx { s with sl := s.sl.set i (.d (.int z)) }
    | _ => .bad
  | _ => .bad
def hdS : Hd → Exn → S → OS
  | .setB i k, _, s => .nx ⟨s.sl.set i (.d (.bl k)), s.st⟩
  | .setT j i f g, e, s => match s.sl[j]?, e.fs.lookup f, e.fs.lookup g with
    | some .un, some x, some y => .nx ⟨((s.sl.set j .un).set i (.d (.tup [x, y]))).set j .un, s.st⟩
    | _, _, _ => .bad
  | .retT j f g, e, s => match s.sl[j]?, e.fs.lookup f, e.fs.lookup g with
    | some .un, some x, some y => .rt (.d (.tup [x, y])) ⟨s.sl.set j .un, s.st⟩
    | _, _, _ => .bad
def OS.tryB (c : Str) (h : Hd) : OS → OS
  | .ex e s => if e.c = c then hdS h e s else .bad
  | o => o
mutual
def exm : Sm → S → OS
  | .pass, s => .nx s
  | .expr e, s => .of (ev e s) fun _ s => .nx s
  | .set i e, s => .of (ev e s) fun r s => .opt (s.store i r)
  | .par l es, s => .of (evPar es s) fun vs t => if l.Nodup ∧ (vs.filterMap (D.isNew s.st.length)).Nodup then (match putPar s.st.length t.st l vs (t.gc s.st.length).sl with
      | some sl => .nx ⟨sl, t.st.take s.st.length⟩
      | none => .bad) else .bad
  | .unp t e, s => .of (ev e s).val fun x s => .opt (T.asg t x s)
  | .parT l es, s => .of (evs es s) fun xs s => if xs.length = l.length then putTs l xs s else .bad
  | .aug i o e, s => match s.sl[i]? with
    | some (.d (.int m)) => .of (ev e s).opd fun y s => augV i o m y s
    | _ => .bad
  | .setix a b e, s => .of (ev e s).val fun x s => .of (ev a s) fun p s => if s.isLst p || s.isDct p then .of (ev b s).val fun k s => match (s.cell p).bind fun c => setIx c k x with
    | some c => .opt (s.put c p)
    | none => .bad else .bad
  | .ifs c a b, s => .of (evT c s) fun k s => if k then exms a s else exms b s
  | .whl n c b, s => whLoop (fun s => evT c s) (fun s => exms b s) s.st.length n s
  | .fors t src b, s => .of (evSrc src s) fun items s => forLoop (fun x s => T.asg t x s) (fun s => exms b s) s.st.length items s
  | .ret e, s => .of (ev e s) fun r s => .rt r s
  | .retN, s => .rt (.d .non) s
  | .brk, s => .bk s
  | .cont, s => .ct s
  | .rais c _, s => .ex ⟨c, []⟩ s
  | .raisO c f g es, s => .of (evs es s) fun vs s => match vs with
    | [x, y] => if (x.flat && y.flat) = true then .ex ⟨c, [(f, x), (g, y)]⟩ s else .bad
    | _ => .bad
  | .tryc b c h, s => (exms b s).tryB c h
  | .dead, s => .bad
  | .augs a i o e, s => .of (ev a s) fun p s => if s.isLst p then .of (ev i s).val fun k s => match s.cell p, k with
    | some (.lst l), .int j => if 0 ≤ j then match l[j.toNat]? with
      | some (.int m) => .of (ev e s).opd fun y s => match s.rd y with
        | some (.int n) => if o = .Pow then .bad else match opBin o (.int m) (.int n) with
          | some (.d (.int z)) => match (s.cell p).bind fun c => setIx c (.int j) (.int z) with
            | some c => .opt (s.put c p)
            | none => .bad
          | _ => .bad
        | _ => .bad
      | _ => .bad else .bad
    | _, _ => .bad else .bad
  | .unpO l e, s => .of (ev e s).val fun x t => match x with
    | .tup vs => if l.Nodup ∧ (vs.filterMap (D.isNew s.st.length)).Nodup then (match putPar s.st.length t.st l vs (t.gc s.st.length).sl with
      | some sl => .nx ⟨sl, t.st.take s.st.length⟩
      | none => .bad) else .bad
    | _ => .bad
def exms : Sms → S → OS
  | .nil, s => .nx s
  | .cons a r, s => (exm a s).then fun s => exms r s
end
/-- a def's end -/
def finish (n : Nat) : R → S → FO
  | .d (.obj k), s => if k < n then .ok (.d (.obj k)) (s.st.take n) else match s.st[k]? with
    | some c => .ok (.new c) (s.st.take n)
    | none => .bad
  | .d x, s => if x.pure then .ok (.d x) (s.st.take n) else .ok (.d x) s.st
  | .new c, s => if c.pure then .ok (.new c) (s.st.take n) else .bad
  | .pl i, s => match s.sl[i]? with
    | some (.own c) => if c.pure then .ok (.new c) (s.st.take n) else .bad
    | _ => .bad
def runDef (m : Nat) (body : Sms) : Fn := fun args st => match exms body ⟨args.map .d ++ List.replicate (m - args.length) .un, st⟩ with
  | .nx s => .ok (.d .non) (s.st.take st.length)
  | .rt r s => finish st.length r s
  | .ex e s => .ex e (s.st.take st.length)
  | _ => .bad
end G4

namespace G4
open PySem PySem.Spec PyProof.Rows L2

/-! ### data and values -/
/-- a flat datum's value -/
def D.toV : D → Option V
  | .non => some .non
  | .bl b => some (.bl b)
  | .int i => some (.int i)
  | .str x => some (.str x)
  | _ => none
section
variable (K : PySem.W.Frag) (g : Str → Option Addr) (RR : List Addr) (F : Hp)
mutual
inductive Rep : D → V → Prop
  | non : Rep .non .non
  | bl (b : Bool) : Rep (.bl b) (.bl b)
  | int (i : Int) : Rep (.int i) (.int i)
  | str (x : Str) : Rep (.str x) (.str x)
  | tup {l : List D} {a : Addr} {vs : List V} : SqT K F a vs → Reps l vs → Rep (.tup l) (.ref a)
  | lst {l : List D} {a : Addr} {vs : List V} : F a = some (.lst vs) → Reps l vs → Rep (.lst l) (.ref a)
  | dct {l : List (Key × D)} {a : Addr} {vs : List (Key × V)} : Rd F a (.dK vs) → RepK l vs → Rep (.dct l) (.ref a)
  | kys {l : List (Key × D)} {a : Addr} {o : Obj} {vs : List (Key × V)} : F a = some (.frz o (.dK vs)) → RepK l vs → Rep (.kys l) (.ref a)
  | obj {n : Nat} {a : Addr} : RR[n]? = some a → Rep (.obj n) (.ref a)
  | fn {x : Str} {a : Addr} : g x = some a → Rep (.fn x) (.ref a)
  | scr {l : List Int} {a : Addr} : SqL K F a (l.map V.int) → Rep (.scr l) (.ref a)
inductive Reps : List D → List V → Prop
  | nil : Reps [] []
  | cons {d : D} {v : V} {l : List D} {vs : List V} : Rep d v → Reps l vs → Reps (d :: l) (v :: vs)
inductive RepK : List (Key × D) → List (Key × V) → Prop
  | nil : RepK [] []
  | cons {k : Key} {d : D} {v : V} {l : List (Key × D)} {vs : List (Key × V)} : Rep d v → RepK l vs → RepK ((k, d) :: l) ((k, v) :: vs)
end
/-- a datum as it stands now: the top by H, what is within by F -/
inductive Vw (H : Hp) : D → V → Prop
  | non : Vw H .non .non
  | bl (b : Bool) : Vw H (.bl b) (.bl b)
  | int (i : Int) : Vw H (.int i) (.int i)
  | str (x : Str) : Vw H (.str x) (.str x)
  | tup {l : List D} {a : Addr} {vs : List V} : SqT K F a vs → Reps K g RR F l vs → Vw H (.tup l) (.ref a)
  | lst {l : List D} {a : Addr} {vs : List V} : H a = some (.lst vs) → Reps K g RR F l vs → Vw H (.lst l) (.ref a)
  | dct {l : List (Key × D)} {a : Addr} {vs : List (Key × V)} : Rd H a (.dK vs) → RepK K g RR F l vs → Vw H (.dct l) (.ref a)
  | kys {l : List (Key × D)} {a : Addr} {o : Obj} {vs : List (Key × V)} : H a = some (.frz o (.dK vs)) → RepK K g RR F l vs → Vw H (.kys l) (.ref a)
  | obj {n : Nat} {a : Addr} : RR[n]? = some a → Vw H (.obj n) (.ref a)
  | fn {x : Str} {a : Addr} : g x = some a → Vw H (.fn x) (.ref a)
  | scr {l : List Int} {a : Addr} : SqL K H a (l.map V.int) → Vw H (.scr l) (.ref a)
/-- an object at its address -/
inductive CellAt (H : Hp) (a : Addr) : Cell → Prop
  | lst {l : List D} {vs : List V} : H a = some (.lst vs) → Reps K g RR F l vs → CellAt H a (.lst l)
  | dK {l : List (Key × D)} {vs : List (Key × V)} : H a = some (.dK vs) → RepK K g RR F l vs → CellAt H a (.dK l)
end
theorem _root_.L2.Same.rd {H H' : Hp} {a : Addr} {u : HO} (e : Same H H') (h : Rd H a u) : Rd H' a u := by
  rcases h with h | ⟨o, h⟩
  · exact .inl (e _ _ h)
  · exact .inr ⟨o, e _ _ h⟩
theorem _root_.L2.Same.seqT {K : PySem.W.Frag} {H H' : Hp} {a : Addr} {xs : List V} (e : Same H H') (h : SqT K H a xs) : SqT K H' a xs := by
  rcases h with h | h
  · exact .inl (e.rd h)
  · exact .inr h
section
variable {K : PySem.W.Frag} {g : Str → Option Addr} {RR RR' : List Addr} {F F' H H' : Hp}
theorem get_pre {R R' : List Addr} (p : R <+: R') {n : Nat} {a : Addr} (h : R[n]? = some a) : R'[n]? = some a := by
  obtain ⟨t, rfl⟩ := p
  have hn : n < R.length := (List.getElem?_eq_some_iff.mp h).1
  rw [List.getElem?_append_left hn]
  exact h
mutual
theorem Rep.mono (e : Same F F') (p : RR <+: RR') : ∀ {d : D} {v : V}, Rep K g RR F d v → Rep K g RR' F' d v
  | _, _, .non => .non
  | _, _, .bl b => .bl b
  | _, _, .int i => .int i
  | _, _, .str x => .str x
  | _, _, .tup h r => .tup (e.seqT h) (Reps.mono e p r)
  | _, _, .lst h r => .lst (e _ _ h) (Reps.mono e p r)
  | _, _, .dct h r => .dct (e.rd h) (RepK.mono e p r)
  | _, _, .kys h r => .kys (e _ _ h) (RepK.mono e p r)
  | _, _, .obj h => .obj (get_pre p h)
  | _, _, .fn h => .fn h
  | _, _, .scr h => .scr (e.seq h)
theorem Reps.mono (e : Same F F') (p : RR <+: RR') : ∀ {l : List D} {vs : List V}, Reps K g RR F l vs → Reps K g RR' F' l vs
  | _, _, .nil => .nil
  | _, _, .cons a b => .cons (Rep.mono e p a) (Reps.mono e p b)
theorem RepK.mono (e : Same F F') (p : RR <+: RR') : ∀ {l : List (Key × D)} {vs : List (Key × V)}, RepK K g RR F l vs → RepK K g RR' F' l vs
  | _, _, .nil => .nil
  | _, _, .cons a b => .cons (Rep.mono e p a) (RepK.mono e p b)
end
theorem Vw.of (e : Same F H) {d : D} {v : V} (h : Rep K g RR F d v) : Vw K g RR F H d v := by
  cases h with
  | non => exact .non
  | bl => exact .bl _
  | int => exact .int _
  | str => exact .str _
  | tup h r => exact .tup h r
  | lst h r => exact .lst (e _ _ h) r
  | dct h r => exact .dct (e.rd h) r
  | kys h r => exact .kys (e _ _ h) r
  | obj h => exact .obj h
  | fn h => exact .fn h
  | scr h => exact .scr (e.seq h)
theorem Vw.rep (e : Same F H) {d : D} {v : V} (h : Vw K g RR F H d v) : Rep K g RR H d v := by
  cases h with
  | non => exact .non
  | bl => exact .bl _
  | int => exact .int _
  | str => exact .str _
  | tup h r => exact .tup (e.seqT h) (r.mono e (List.prefix_refl _))
  | lst h r => exact .lst h (r.mono e (List.prefix_refl _))
  | dct h r => exact .dct h (r.mono e (List.prefix_refl _))
  | kys h r => exact .kys h (r.mono e (List.prefix_refl _))
  | obj h => exact .obj h
  | fn h => exact .fn h
  | scr h => exact .scr h
theorem CellAt.mono {H H' : Hp} {a : Addr} {c : Cell} (h : CellAt K g RR F H a c) (e : Same F F') (p : RR <+: RR') (q : ∀ o, H a = some o → H' a = some o) : CellAt K g RR' F' H' a c := by
  cases h with
  | lst h r => exact .lst (q _ h) (r.mono e p)
  | dK h r => exact .dK (q _ h) (r.mono e p)
theorem CellAt.there {H : Hp} {a : Addr} {c : Cell} (h : CellAt K g RR F H a c) : ∃ o, H a = some o := by
  cases h with
  | lst h r => exact ⟨_, h⟩
  | dK h r => exact ⟨_, h⟩
theorem CellAt.view {H : Hp} {a : Addr} {c : Cell} {x : D} (h : CellAt K g RR F H a c) (e : c.view = some x) : Vw K g RR F H x (.ref a) := by
  cases h with
  | lst h r => cases e; exact .lst h r
  | dK h r => cases e; exact .dct (.inl h) r
theorem Reps.len {l : List D} {vs : List V} (h : Reps K g RR F l vs) : l.length = vs.length := by
  induction l generalizing vs with
  | nil => cases h; rfl
  | cons d l ih =>
    cases h with
    | cons a b => rw [List.length_cons, List.length_cons, ih b]
theorem Reps.get {l : List D} {vs : List V} (h : Reps K g RR F l vs) {i : Nat} {d : D} (e : l[i]? = some d) : ∃ v, vs[i]? = some v ∧ Rep K g RR F d v := by
  induction l generalizing vs i with
  | nil => simp at e
  | cons x l ih =>
    cases h with
    | cons a b =>
      cases i with
      | zero => simp at e; subst e; exact ⟨_, rfl, a⟩
      | succ i => simpa using ih b (by simpa using e)
theorem Reps.getV {l : List D} {vs : List V} (h : Reps K g RR F l vs) {i : Nat} {v : V} (e : vs[i]? = some v) : ∃ d, l[i]? = some d ∧ Rep K g RR F d v := by
  induction l generalizing vs i with
  | nil => cases h; simp at e
  | cons x l ih =>
    cases h with
    | cons a b =>
      cases i with
      | zero => simp at e; subst e; exact ⟨_, rfl, a⟩
      | succ i => simpa using ih b (by simpa using e)
theorem Reps.app {l m : List D} {vs ws : List V} (h : Reps K g RR F l vs) (k : Reps K g RR F m ws) : Reps K g RR F (l ++ m) (vs ++ ws) := by
  induction l generalizing vs with
  | nil => cases h; exact k
  | cons x l ih =>
    cases h with
    | cons a b => exact .cons a (ih b)
theorem Reps.take {l : List D} {vs : List V} (h : Reps K g RR F l vs) (n : Nat) : Reps K g RR F (l.take n) (vs.take n) := by
  induction l generalizing vs n with
  | nil => cases h; simp; exact .nil
  | cons x l ih =>
    cases h with
    | cons a b =>
      cases n with
      | zero => exact .nil
      | succ n => exact .cons a (ih b n)
theorem Reps.drop {l : List D} {vs : List V} (h : Reps K g RR F l vs) (n : Nat) : Reps K g RR F (l.drop n) (vs.drop n) := by
  induction l generalizing vs n with
  | nil => cases h; simp; exact .nil
  | cons x l ih =>
    cases h with
    | cons a b =>
      cases n with
      | zero => exact .cons a b
      | succ n => exact ih b n
theorem Reps.set {l : List D} {vs : List V} {d : D} {v : V} (h : Reps K g RR F l vs) (k : Rep K g RR F d v) (n : Nat) : Reps K g RR F (l.set n d) (vs.set n v) := by
  induction l generalizing vs n with
  | nil => cases h; exact .nil
  | cons x l ih =>
    cases h with
    | cons a b =>
      cases n with
      | zero => exact .cons k b
      | succ n => exact .cons a (ih b n)
theorem Reps.rev {l : List D} {vs : List V} (h : Reps K g RR F l vs) : Reps K g RR F l.reverse vs.reverse := by
  induction l generalizing vs with
  | nil => cases h; exact .nil
  | cons x l ih =>
    cases h with
    | cons a b =>
      rw [List.reverse_cons, List.reverse_cons]
      exact (ih b).app (.cons a .nil)
theorem Reps.rep {l : List D} {vs : List V} (h : Reps K g RR F l vs) : ∀ k : Nat, Reps K g RR F (List.replicate k l).flatten (List.replicate k vs).flatten
  | 0 => .nil
  | k + 1 => by
    rw [List.replicate_succ, List.replicate_succ, List.flatten_cons, List.flatten_cons]
    exact h.app (h.rep k)
theorem Reps.ofInts : ∀ ns : List Int, Reps K g RR F (ns.map .int) (ns.map V.int)
  | [] => .nil
  | n :: ns => .cons (.int n) (Reps.ofInts ns)
theorem Reps.toInts {l : List D} {vs : List V} {ns : List Int} (h : Reps K g RR F l vs) (e : intsD l = some ns) : vs = ns.map V.int := by
  induction l generalizing vs ns with
  | nil => cases h; cases e; rfl
  | cons x l ih =>
    cases h with
    | cons a b =>
      cases a <;> simp only [intsD] at e <;> try cases e
      rename_i i
      cases q : intsD l with
      | none => rw [q] at e; cases e
      | some m => rw [q] at e; cases e; rw [List.map_cons, ih b q]
theorem Reps.toBls {l : List D} {vs : List V} {ns : List Bool} (h : Reps K g RR F l vs) (e : blsD l = some ns) : vs = ns.map V.bl := by
  induction l generalizing vs ns with
  | nil => cases h; cases e; rfl
  | cons x l ih =>
    cases h with
    | cons a b =>
      cases a <;> simp only [blsD] at e <;> try cases e
      rename_i i
      cases q : blsD l with
      | none => rw [q] at e; cases e
      | some m => rw [q] at e; cases e; rw [List.map_cons, ih b q]
end
end G4

namespace G4
open PySem PySem.Spec PyProof.Rows L2

structure Bs where
  K : PySem.W.Frag
  g : Str → Option Addr
  H0 : Hp
  R0 : List Addr
  F0 : Hp
/-- the little state and the layer's: F what stays as it is, RR the store's addresses -/
structure Rel (b : Bs) (RR : List Addr) (F : Hp) (s : S) (σ : L2.St) (H : Hp) : Prop where
  fz : Same F H
  f0 : Same b.F0 F
  fn : ∀ a o, F a = some o → b.F0 a = some o ∨ b.H0 a = none
  keep : ∀ a o, b.H0 a = some o → a ∉ b.R0 → H a = some o
  pre : b.R0 <+: RR
  new : ∀ a ∈ RR, a ∉ b.R0 → b.H0 a = none
  nd : RR.Nodup
  rf : ∀ a ∈ RR, F a = none
  stl : s.st.length = RR.length
  st : ∀ (n : Nat) (c : Cell) (a : Addr), s.st[n]? = some c → RR[n]? = some a → CellAt b.K b.g RR F H a c ∧ c.pure = true
  len : s.sl.length = σ.length
  sd : ∀ (i : Nat) (x : D), s.sl[i]? = some (.d x) → ∃ v, σ[i]? = some (some v) ∧ Rep b.K b.g RR F x v
  so : ∀ (i : Nat) (c : Cell), s.sl[i]? = some (.own c) → ∃ a, σ[i]? = some (some (.ref a)) ∧ CellAt b.K b.g RR F H a c ∧ F a = none ∧ a ∉ RR ∧ b.H0 a = none
  ap : ∀ (i j : Nat) (c d : Cell) (a : Addr), s.sl[i]? = some (.own c) → s.sl[j]? = some (.own d) → σ[i]? = some (some (.ref a)) → σ[j]? = some (some (.ref a)) → i = j
/-- an address that no name and no place of the store has -/
structure Lone (b : Bs) (RR : List Addr) (F : Hp) (s : S) (σ : L2.St) (a : Addr) : Prop where
  f : F a = none
  r : a ∉ RR
  h : b.H0 a = none
  o : ∀ (i : Nat) (c : Cell), s.sl[i]? = some (.own c) → σ[i]? ≠ some (some (.ref a))
section
variable {b : Bs} {RR RR' : List Addr} {F F' H H' : Hp} {s : S} {σ : L2.St} {a : Addr}
theorem Rel.there (r : Rel b RR F s σ H) (h : a ∈ RR) : ∃ o, H a = some o := by
  obtain ⟨n, hn, e⟩ := List.getElem_of_mem h
  have hs : n < s.st.length := by rw [r.stl]; exact hn
  exact (r.st n s.st[n] a (List.getElem?_eq_getElem hs) (by rw [List.getElem?_eq_getElem hn, e])).1.there
theorem Rel.lone (r : Rel b RR F s σ H) (h : H a = none) : Lone b RR F s σ a := by
  have hr : a ∉ RR := fun m => by
    obtain ⟨o, e⟩ := r.there m
    rw [h] at e; cases e
  refine ⟨?_, hr, ?_, fun i c e q => ?_⟩
  · cases q : F a with
    | none => rfl
    | some o => rw [r.fz _ _ q] at h; cases h
  · cases q : b.H0 a with
    | none => rfl
    | some o =>
      rw [r.keep a o q fun m => hr (r.pre.subset m)] at h; cases h
  · obtain ⟨a', e1, c1, _⟩ := r.so i c e
    rw [q] at e1; cases e1
    obtain ⟨o, e⟩ := c1.there
    rw [h] at e; cases e
/-- more is tracked -/
theorem Rel.same (r : Rel b RR F s σ H) (e : Same H H') : Rel b RR F s σ H' where
  fz := r.fz.trans e
  f0 := r.f0
  fn := r.fn
  keep := fun a o q n => e _ _ (r.keep a o q n)
  pre := r.pre
  new := r.new
  nd := r.nd
  rf := r.rf
  stl := r.stl
  st := fun n c a q p => ⟨(r.st n c a q p).1.mono (Same.refl _) (List.prefix_refl _) fun o => e a o, (r.st n c a q p).2⟩
  len := r.len
  sd := r.sd
  so := fun i c q => let ⟨a, h1, h2, h3⟩ := r.so i c q; ⟨a, h1, h2.mono (Same.refl _) (List.prefix_refl _) fun o => e a o, h3⟩
  ap := r.ap
theorem same_new {p : Addr} {o : HO} (h : H p = none) : Same H (upd H p o) := fun c x e => by
  rw [upd_ne (ne_of_none e h)]
  exact e
/-- what is alone is kept from here on -/
theorem Rel.frz {o : HO} (r : Rel b RR F s σ H) (l : Lone b RR F s σ a) (h : H a = some o) : Rel b RR (upd F a o) s σ H ∧ Same F (upd F a o) := by
  have e : Same F (upd F a o) := same_new l.f
  have ne : ∀ {c}, c ≠ a → upd F a o c = F c := fun n => upd_ne n
  refine ⟨⟨fun c x q => ?_, r.f0.trans e, fun c x q => ?_, r.keep, r.pre, r.new, r.nd, fun c m => ?_, r.stl, fun n c x q p => ?_, r.len, fun i x q => ?_, fun i c q => ?_, r.ap⟩, e⟩
  · by_cases hc : c = a
    · subst hc; rw [upd_same] at q; cases q; exact h
    · rw [ne hc] at q; exact r.fz _ _ q
  · by_cases hc : c = a
    · subst hc; exact .inr l.h
    · rw [ne hc] at q; exact r.fn _ _ q
  · rw [ne fun z => l.r (z ▸ m)]; exact r.rf c m
  · exact ⟨(r.st n c x q p).1.mono e (List.prefix_refl _) fun _ z => z, (r.st n c x q p).2⟩
  · obtain ⟨v, h1, h2⟩ := r.sd i x q
    exact ⟨v, h1, h2.mono e (List.prefix_refl _)⟩
  · obtain ⟨a', h1, h2, h3, h4⟩ := r.so i c q
    refine ⟨a', h1, h2.mono e (List.prefix_refl _) fun _ z => z, ?_, h4⟩
    rw [ne fun z => l.o i c q (z ▸ h1)]; exact h3
theorem set_cases {α : Type} {l : List α} {i j : Nat} {x y : α} (h : (l.set i x)[j]? = some y) : (j = i ∧ y = x ∧ i < l.length) ∨ (j ≠ i ∧ l[j]? = some y) := by
  by_cases e : j = i
  · subst e
    rw [List.getElem?_set] at h
    split at h
    · split at h
      · cases h; rename_i hl; exact .inl ⟨rfl, rfl, hl⟩
      · cases h
    · rename_i n; exact absurd rfl n
  · rw [List.getElem?_set_ne (Ne.symm e)] at h
    exact .inr ⟨e, h⟩
theorem set_self {α : Type} {l : List α} {i : Nat} {x : α} (h : i < l.length) : (l.set i x)[i]? = some x := by rw [List.getElem?_set_self h]
/-- a name is given a datum -/
theorem Rel.storeD (r : Rel b RR F s σ H) {i : Nat} {x : D} {v : V} (h : Rep b.K b.g RR F x v) : Rel b RR F ⟨s.sl.set i (.d x), s.st⟩ (σ.set i (some v)) H where
  fz := r.fz
  f0 := r.f0
  fn := r.fn
  keep := r.keep
  pre := r.pre
  new := r.new
  nd := r.nd
  rf := r.rf
  stl := r.stl
  st := r.st
  len := by simp [r.len]
  sd := fun j y q => by
    rcases set_cases q with ⟨rfl, e, hl⟩ | ⟨n, q⟩
    · cases e
      exact ⟨v, set_self (by rw [← r.len]; exact hl), h⟩
    · obtain ⟨w, h1, h2⟩ := r.sd j y q
      exact ⟨w, by rw [List.getElem?_set_ne (Ne.symm n)]; exact h1, h2⟩
  so := fun j c q => by
    rcases set_cases q with ⟨rfl, e, hl⟩ | ⟨n, q⟩
    · cases e
    · obtain ⟨w, h1, h2⟩ := r.so j c q
      exact ⟨w, by rw [List.getElem?_set_ne (Ne.symm n)]; exact h1, h2⟩
  ap := fun j k c d a q p h1 h2 => by
    rcases set_cases q with ⟨rfl, e, hl⟩ | ⟨n, q⟩
    · cases e
    rcases set_cases p with ⟨rfl, e, hl⟩ | ⟨m, p⟩
    · cases e
    rw [List.getElem?_set_ne (Ne.symm n)] at h1
    rw [List.getElem?_set_ne (Ne.symm m)] at h2
    exact r.ap j k c d a q p h1 h2
/-- a name is given an object of its own -/
theorem Rel.storeO (r : Rel b RR F s σ H) {i : Nat} {c : Cell} (h : CellAt b.K b.g RR F H a c) (l : Lone b RR F s σ a) : Rel b RR F ⟨s.sl.set i (.own c), s.st⟩ (σ.set i (some (.ref a))) H where
  fz := r.fz
  f0 := r.f0
  fn := r.fn
  keep := r.keep
  pre := r.pre
  new := r.new
  nd := r.nd
  rf := r.rf
  stl := r.stl
  st := r.st
  len := by simp [r.len]
  sd := fun j y q => by
    rcases set_cases q with ⟨rfl, e, hl⟩ | ⟨n, q⟩
    · cases e
    · obtain ⟨w, h1, h2⟩ := r.sd j y q
      exact ⟨w, by rw [List.getElem?_set_ne (Ne.symm n)]; exact h1, h2⟩
  so := fun j d q => by
    rcases set_cases q with ⟨rfl, e, hl⟩ | ⟨n, q⟩
    · cases e
      exact ⟨a, set_self (by rw [← r.len]; exact hl), h, l.f, l.r, l.h⟩
    · obtain ⟨w, h1, h2⟩ := r.so j d q
      exact ⟨w, by rw [List.getElem?_set_ne (Ne.symm n)]; exact h1, h2⟩
  ap := fun j k c1 d1 a1 q p h1 h2 => by
    rcases set_cases q with ⟨ej, e, hl⟩ | ⟨n, q'⟩
    · rcases set_cases p with ⟨ek, e2, hl2⟩ | ⟨m, p'⟩
      · rw [ej, ek]
      · rw [ej, set_self (by rw [← r.len]; exact hl)] at h1
        cases h1
        rw [List.getElem?_set_ne (Ne.symm m)] at h2
        exact absurd h2 (l.o k d1 p')
    · rcases set_cases p with ⟨ek, e2, hl2⟩ | ⟨m, p'⟩
      · rw [ek, set_self (by rw [← r.len]; exact hl2)] at h2
        cases h2
        rw [List.getElem?_set_ne (Ne.symm n)] at h1
        exact absurd h1 (l.o j c1 q')
      · rw [List.getElem?_set_ne (Ne.symm n)] at h1
        rw [List.getElem?_set_ne (Ne.symm m)] at h2
        exact r.ap j k c1 d1 a1 q' p' h1 h2
/-- slots forgotten (and those of the layer changed alike) -/
theorem Rel.un (r : Rel b RR F s σ H) {sl : List SV} {τ : L2.St} (hl : sl.length = τ.length) (h : ∀ (i : Nat) (x : SV), sl[i]? = some x → x ≠ SV.un → s.sl[i]? = some x ∧ τ[i]? = σ[i]?) : Rel b RR F ⟨sl, s.st⟩ τ H where
  fz := r.fz
  f0 := r.f0
  fn := r.fn
  keep := r.keep
  pre := r.pre
  new := r.new
  nd := r.nd
  rf := r.rf
  stl := r.stl
  st := r.st
  len := hl
  sd := fun j y q => by
    obtain ⟨h1, h2⟩ := h j _ q (by intro z; cases z)
    obtain ⟨w, k1, k2⟩ := r.sd j y h1
    exact ⟨w, by rw [h2]; exact k1, k2⟩
  so := fun j y q => by
    obtain ⟨h1, h2⟩ := h j _ q (by intro z; cases z)
    obtain ⟨w, k1, k2⟩ := r.so j y h1
    exact ⟨w, by rw [h2]; exact k1, k2⟩
  ap := fun j k c d a q p h1 h2 => by
    obtain ⟨x1, y1⟩ := h j _ q (by intro z; cases z)
    obtain ⟨x2, y2⟩ := h k _ p (by intro z; cases z)
    rw [y1] at h1; rw [y2] at h2
    exact r.ap j k c d a x1 x2 h1 h2
/-- a name's own object is kept from here on -/
theorem Rel.frzS (r : Rel b RR F s σ H) {i : Nat} {c : Cell} {x : D} (e : s.sl[i]? = some (.own c)) (v : c.view = some x) :
    ∃ a F', σ[i]? = some (some (.ref a)) ∧ Same F F' ∧ Rep b.K b.g RR F' x (.ref a) ∧ Rel b RR F' ⟨s.sl.set i (.d x), s.st⟩ σ H := by
  obtain ⟨a, h1, h2, h3, h4, h5⟩ := r.so i c e
  have hi : i < s.sl.length := (List.getElem?_eq_some_iff.mp e).1
  -- the slot is forgotten, then the object is alone
  have r1 : Rel b RR F ⟨s.sl.set i .un, s.st⟩ σ H := r.un (by simp [r.len]) fun j y q n => by
    rcases set_cases q with ⟨rfl, e, _⟩ | ⟨m, q⟩
    · exact absurd e n
    · exact ⟨q, rfl⟩
  have l1 : Lone b RR F ⟨s.sl.set i .un, s.st⟩ σ a := ⟨h3, h4, h5, fun j d q p => by
    rcases set_cases q with ⟨rfl, e2, _⟩ | ⟨m, q⟩
    · cases e2
    · exact m (r.ap j i d c a q e p h1)⟩
  have hσ : σ.set i (some (.ref a)) = σ := by
    apply List.ext_getElem?
    intro j
    by_cases hj : j = i
    · subst hj
      rw [List.getElem?_set_self (by rw [← r.len]; exact hi), h1]
    · rw [List.getElem?_set_ne (Ne.symm hj)]
  obtain ⟨o, ho⟩ := h2.there
  obtain ⟨r2, e2⟩ := r1.frz l1 ho
  have rx : Rep b.K b.g RR (upd F a o) x (.ref a) := by
    cases h2 with
    | lst h r => cases v; rw [ho] at h; cases h; exact .lst upd_same (r.mono e2 (List.prefix_refl _))
    | dK h r => cases v; rw [ho] at h; cases h; exact .dct (.inl upd_same) (r.mono e2 (List.prefix_refl _))
  have r3 := r2.storeD (i := i) rx
  rw [hσ] at r3
  refine ⟨a, upd F a o, h1, e2, rx, ?_⟩
  have el : (s.sl.set i SV.un).set i (.d x) = s.sl.set i (.d x) := by rw [List.set_set]
  rw [← el]
  exact r3
/-- a name's own object is written -/
theorem Rel.writeS (r : Rel b RR F s σ H) {i : Nat} {c c' : Cell} {o : HO} (e : s.sl[i]? = some (.own c)) (h : σ[i]? = some (some (.ref a))) (k : CellAt b.K b.g RR F (upd H a o) a c') :
    Rel b RR F ⟨s.sl.set i (.own c'), s.st⟩ σ (upd H a o) := by
  obtain ⟨a', h1, h2, h3, h4, h5⟩ := r.so i c e
  rw [h] at h1; cases h1
  have ne : ∀ {c x}, F c = some x → c ≠ a := fun q z => by rw [z, h3] at q; cases q
  refine ⟨fun c x q => ?_, r.f0, r.fn, fun c x q n => ?_, r.pre, r.new, r.nd, r.rf, r.stl, fun n d x q p => ?_, by simp [r.len], fun j x q => ?_, fun j d q => ?_, fun j l d1 d2 x q p q1 p1 => ?_⟩
  · rw [upd_ne (ne q)]; exact r.fz _ _ q
  · rw [upd_ne fun z => by rw [z, h5] at q; cases q]; exact r.keep c x q n
  · have hx : x ≠ a := fun z => h4 (z ▸ List.mem_of_getElem? p)
    exact ⟨(r.st n d x q p).1.mono (Same.refl _) (List.prefix_refl _) fun o w => by rw [upd_ne hx]; exact w, (r.st n d x q p).2⟩
  · rcases set_cases q with ⟨rfl, e2, _⟩ | ⟨m, q⟩
    · cases e2
    · exact r.sd j x q
  · rcases set_cases q with ⟨rfl, e2, _⟩ | ⟨m, q⟩
    · cases e2
      exact ⟨a, h, k, h3, h4, h5⟩
    · obtain ⟨a2, k1, k2, k3⟩ := r.so j d q
      have hx : a2 ≠ a := fun z => m (r.ap j i d c a q e (z ▸ k1) h)
      exact ⟨a2, k1, k2.mono (Same.refl _) (List.prefix_refl _) fun o w => by rw [upd_ne hx]; exact w, k3⟩
  · have f : ∀ {m : Nat} {d : Cell}, (s.sl.set i (SV.own c'))[m]? = some (SV.own d) → ∃ d', s.sl[m]? = some (SV.own d') := fun {m d} q => by
      rcases set_cases q with ⟨rfl, e2, _⟩ | ⟨m, q⟩
      · exact ⟨c, e⟩
      · exact ⟨d, q⟩
    obtain ⟨e1, f1⟩ := f q
    obtain ⟨e2, f2⟩ := f p
    exact r.ap j l e1 e2 x f1 f2 q1 p1
/-- an object of the store is written -/
theorem Rel.writeC (r : Rel b RR F s σ H) {n : Nat} {c' : Cell} {o : HO} (h : RR[n]? = some a) (k : CellAt b.K b.g RR F (upd H a o) a c') (hp : c'.pure = true) :
    Rel b RR F ⟨s.sl, s.st.set n c'⟩ σ (upd H a o) := by
  have ha : a ∈ RR := List.mem_of_getElem? h
  have h3 := r.rf a ha
  have ne : ∀ {c x}, F c = some x → c ≠ a := fun q z => by rw [z, h3] at q; cases q
  refine ⟨fun c x q => ?_, r.f0, r.fn, fun c x q m => ?_, r.pre, r.new, r.nd, r.rf, by simp [r.stl], fun m d x q p => ?_, r.len, r.sd, fun j d q => ?_, r.ap⟩
  · rw [upd_ne (ne q)]; exact r.fz _ _ q
  · by_cases z : c = a
    · subst z
      exact absurd (r.new c ha m) (by rw [q]; intro w; cases w)
    · rw [upd_ne z]; exact r.keep c x q m
  · rcases set_cases q with ⟨rfl, e2, _⟩ | ⟨nm, q⟩
    · subst e2
      rw [h] at p; cases p
      exact ⟨k, hp⟩
    · have hx : x ≠ a := fun z => by
        subst z
        obtain ⟨h1, e1⟩ := List.getElem?_eq_some_iff.mp h
        obtain ⟨h2, e2⟩ := List.getElem?_eq_some_iff.mp p
        exact nm ((List.getElem_inj r.nd).mp (e2.trans e1.symm))
      exact ⟨(r.st m d x q p).1.mono (Same.refl _) (List.prefix_refl _) fun o w => by rw [upd_ne hx]; exact w, (r.st m d x q p).2⟩
  · obtain ⟨a2, k1, k2, k3, k4, k5⟩ := r.so j d q
    have hx : a2 ≠ a := fun z => k4 (z ▸ ha)
    exact ⟨a2, k1, k2.mono (Same.refl _) (List.prefix_refl _) fun o w => by rw [upd_ne hx]; exact w, k3, k4, k5⟩
/-- a new object is put into the store -/
theorem Rel.push (r : Rel b RR F s σ H) {c : Cell} (k : CellAt b.K b.g RR F H a c) (l : Lone b RR F s σ a) (hp : c.pure = true) : Rel b (RR ++ [a]) F ⟨s.sl, s.st ++ [c]⟩ σ H := by
  have pp : RR <+: RR ++ [a] := List.prefix_append _ _
  refine ⟨r.fz, r.f0, r.fn, r.keep, r.pre.trans pp, fun c m n => ?_, ?_, fun c m => ?_, by simp [r.stl], fun n d x q p => ?_, r.len, fun i x q => ?_, fun i d q => ?_, r.ap⟩
  · rcases List.mem_append.mp m with m | m
    · exact r.new c m n
    · rw [List.mem_singleton.mp m]; exact l.h
  · rw [List.nodup_append]
    exact ⟨r.nd, by simp, fun x hx y hy z => l.r (by rw [List.mem_singleton.mp hy] at z; exact z ▸ hx)⟩
  · rcases List.mem_append.mp m with m | m
    · exact r.rf c m
    · rw [List.mem_singleton.mp m]; exact l.f
  · by_cases hn : n < s.st.length
    · rw [List.getElem?_append_left hn] at q
      rw [List.getElem?_append_left (by rw [← r.stl]; exact hn)] at p
      exact ⟨(r.st n d x q p).1.mono (Same.refl _) pp fun _ w => w, (r.st n d x q p).2⟩
    · have e : n = s.st.length := by
        have := (List.getElem?_eq_some_iff.mp q).1
        simp at this; omega
      subst e
      rw [List.getElem?_concat_length] at q
      cases q
      rw [r.stl, List.getElem?_concat_length] at p
      cases p
      exact ⟨k.mono (Same.refl _) pp fun _ w => w, hp⟩
  · obtain ⟨v, h1, h2⟩ := r.sd i x q
    exact ⟨v, h1, h2.mono (Same.refl _) pp⟩
  · obtain ⟨a2, k1, k2, k3, k4, k5⟩ := r.so i d q
    refine ⟨a2, k1, k2.mono (Same.refl _) pp fun _ w => w, k3, fun m => ?_, k5⟩
    rcases List.mem_append.mp m with m | m
    · exact k4 m
    · rw [List.mem_singleton.mp m] at k1
      exact l.o i d q k1
/-- an object is set aside: it stays while others work -/
def Bs.aside (b : Bs) (a : Addr) (o : HO) : Bs := { b with H0 := upd b.H0 a o }
theorem Rel.aside (r : Rel b RR F s σ H) {o : HO} (l : Lone b RR F s σ a) (h : H a = some o) : Rel (b.aside a o) RR F s σ H where
  fz := r.fz
  f0 := r.f0
  fn := fun c x q => by
    rcases r.fn c x q with w | w
    · exact .inl w
    · refine .inr ?_
      show upd b.H0 a o c = none
      rw [upd_ne fun z => by rw [z, l.f] at q; cases q]; exact w
  keep := fun c x q n => by
    have q : upd b.H0 a o c = some x := q
    by_cases z : c = a
    · subst z; rw [upd_same] at q; cases q; exact h
    · rw [upd_ne z] at q; exact r.keep c x q n
  pre := r.pre
  new := fun c m n => by
    show upd b.H0 a o c = none
    rw [upd_ne fun z => l.r (by rw [← z]; exact m)]; exact r.new c m n
  nd := r.nd
  rf := r.rf
  stl := r.stl
  st := r.st
  len := r.len
  sd := r.sd
  so := fun i c q => by
    obtain ⟨x, h1, h2, h3, h4, h5⟩ := r.so i c q
    refine ⟨x, h1, h2, h3, h4, ?_⟩
    show upd b.H0 a o x = none
    rw [upd_ne fun z => l.o i c q (by rw [← z]; exact h1)]; exact h5
  ap := r.ap
theorem Rel.unaside {o : HO} (r : Rel (b.aside a o) RR F s σ H) (h0 : b.H0 a = none) (hr : a ∉ b.R0) (hf : b.F0 a = none) : Rel b RR F s σ H ∧ Lone b RR F s σ a ∧ H a = some o := by
  have down : ∀ {c}, upd b.H0 a o c = none → b.H0 c = none := fun {c} q => by
    by_cases z : c = a
    · subst z; exact h0
    · rw [upd_ne z] at q; exact q
  have nota : ∀ {c}, upd b.H0 a o c = none → c ≠ a := fun q z => by rw [z, upd_same] at q; cases q
  refine ⟨⟨r.fz, r.f0, fun c x q => ?_, fun c x q n => ?_, r.pre, fun c m n => down (r.new c m n), r.nd, r.rf, r.stl, r.st, r.len, r.sd, fun i c q => ?_, r.ap⟩, ⟨?_, fun m => ?_, h0, fun i c q p => ?_⟩, ?_⟩
  · rcases r.fn c x q with w | w
    · exact .inl w
    · exact .inr (down w)
  · refine r.keep c x ?_ n
    show upd b.H0 a o c = some x
    rw [upd_ne fun z => by rw [z, h0] at q; cases q]; exact q
  · obtain ⟨x, h1, h2, h3, h4, h5⟩ := r.so i c q
    exact ⟨x, h1, h2, h3, h4, down h5⟩
  · cases q : F a with
    | none => rfl
    | some x =>
      rcases r.fn a x q with w | w
      · have w : b.F0 a = some x := w
        rw [hf] at w; cases w
      · exact absurd rfl (nota w)
  · exact nota (r.new a m hr) rfl
  · obtain ⟨x, h1, h2, h3, h4, h5⟩ := r.so i c q
    rw [p] at h1; cases h1
    exact nota h5 rfl
  · exact r.keep a o (show upd b.H0 a o a = some o from upd_same) hr
end
end G4

namespace G4
open PySem PySem.Spec PyProof.Rows L2

def RRel (b : Bs) (RR : List Addr) (F : Hp) (s : S) (σ : L2.St) (H : Hp) : R → V → Prop
  | .d x, v => Rep b.K b.g RR F x v
  | .new c, v => ∃ a, v = .ref a ∧ CellAt b.K b.g RR F H a c ∧ Lone b RR F s σ a
  | .pl i, v => σ[i]? = some (some v)
/-- an exception of the little Python, as the layer tells it -/
def XRel (b : Bs) (e : Exn) (cls : Value) (d : Option Addr) (H : Hp) : Prop := ∃ C, b.g e.c = some C ∧ cls = .ref C ∧
  ((e.fs = [] ∧ d = none) ∨ ∃ dd ws, d = some dd ∧ H dd = some (.xd ws) ∧ ∀ f x, e.fs.lookup f = some x → ∃ v, x.toV = some v ∧ ws.lookup f = some v)
def Go {α : Type} (b : Bs) (W : WX) (σ : L2.St) (RR : List Addr) (F : Hp) (o : O α) (P : α → S → List Addr → Hp → Hp → Prop) : Prop :=
  match o with
  | .ok a s => ∀ RR' F' H', RR <+: RR' → Same F F' → Rel b RR' F' s σ H' → P a s RR' F' H'
  | .ex e s => ∀ cls d RR' F' H', RR <+: RR' → Same F F' → Rel b RR' F' s σ H' → XRel b e cls d H' → W cls d σ H'
  | .bad => False
section
variable {α β : Type} {b : Bs} {W : WX} {σ : L2.St} {RR RR' : List Addr} {F F' H H' : Hp} {o : O α} {P P' : α → S → List Addr → Hp → Hp → Prop}
theorem Go.up (h : Go b W σ RR F o P) (p : RR <+: RR') (e : Same F F') : Go b W σ RR' F' o P := by
  cases o with
  | ok a s => exact fun R2 F2 H2 q f r => h R2 F2 H2 (p.trans q) (e.trans f) r
  | ex x s => exact fun c d R2 F2 H2 q f r => h c d R2 F2 H2 (p.trans q) (e.trans f) r
  | bad => exact h
theorem Go.imp (h : Go b W σ RR F o P) (k : ∀ a s RR' F' H', RR <+: RR' → Same F F' → Rel b RR' F' s σ H' → P a s RR' F' H' → P' a s RR' F' H') : Go b W σ RR F o P' := by
  cases o with
  | ok a s => exact fun R2 F2 H2 q f r => k _ _ _ _ _ q f r (h R2 F2 H2 q f r)
  | ex x s => exact h
  | bad => exact h
theorem Go.bind {f : α → S → O β} {Q : β → S → List Addr → Hp → Hp → Prop} (h : Go b W σ RR F (o.bind f) Q)
    (k : ∀ a s RR' F' H', RR <+: RR' → Same F F' → Rel b RR' F' s σ H' → Go b W σ RR' F' (f a s) Q → P a s RR' F' H') : Go b W σ RR F o P := by
  cases o with
  | ok a s => exact fun R2 F2 H2 q f r => k _ _ _ _ _ q f r (Go.up h q f)
  | ex x s => exact h
  | bad => exact h
theorem Go.bind' {f : α → S → O β} {Q : β → S → List Addr → Hp → Hp → Prop} (h : Go b W σ RR F (o.bind f) Q)
    (k : ∀ a s RR' F' H', o = .ok a s → RR <+: RR' → Same F F' → Rel b RR' F' s σ H' → Go b W σ RR' F' (f a s) Q → P a s RR' F' H') : Go b W σ RR F o P := by
  cases o with
  | ok a s => exact fun R2 F2 H2 q f r => k _ _ _ _ _ rfl q f r (Go.up h q f)
  | ex x s => exact h
  | bad => exact h
/-- at the state as it is -/
theorem Go.now {a : α} {s : S} (h : Go b W σ RR F (.ok a s) P) (r : Rel b RR F s σ H) : P a s RR F H := h RR F H (List.prefix_refl _) (Same.refl _) r
theorem Go.opt {x : Option α} {s : S} (h : Go b W σ RR F (O.ofOpt x s) P) : ∃ a, x = some a ∧ Go b W σ RR F (.ok a s) P := by
  cases x with
  | none => exact h.elim
  | some a => exact ⟨a, rfl, h⟩
end
section
variable (b : Bs) (W : WX)
def tE (f : S → O R) : TE := fun σ H Q => ∃ RR F s, Rel b RR F s σ H ∧ Go b W σ RR F (f s) fun r s' RR' F' H' => ∀ v, RRel b RR' F' s' σ H' r v → Q v H'
def tV (f : S → O D) : TE := fun σ H Q => ∃ RR F s, Rel b RR F s σ H ∧ Go b W σ RR F (f s) fun x _ RR' F' H' => ∀ v, Rep b.K b.g RR' F' x v → Q v H'
def tB' (f : S → O Bool) : TT := fun σ H Q => ∃ RR F s, Rel b RR F s σ H ∧ Go b W σ RR F (f s) fun x _ _ _ H' => Q x H'
def tAs (f : S → O (List D)) : TA := fun σ H Q => ∃ RR F s, Rel b RR F s σ H ∧ Go b W σ RR F (f s) fun x _ RR' F' H' => ∀ vs, Reps b.K b.g RR' F' x vs → Q vs H'
def tOs (f : S → O (List R)) : TA := fun σ H Q => ∃ RR F s, Rel b RR F s σ H ∧ Go b W σ RR F (f s) fun x s' RR' F' H' => ∀ vs, Paired (fun r v => RRel b RR' F' s' σ H' r v ∧ ∀ c, r ≠ .new c) x vs → Q vs H'
def tOo (f : S → O (Option Int)) : TO := fun σ H Q => ∃ RR F s, Rel b RR F s σ H ∧ Go b W σ RR F (f s) fun x _ _ _ H' => Q x H'
end
theorem _root_.L2.PE.weak {X : Cx} {e : Expr} {t t' : TE} (h : PE X e t) (k : ∀ σ H Q, t' σ H Q → t σ H Q) : PE X e t' := ⟨fun pins s σ H Q I q => h.run pins s σ H Q I (k σ H Q q)⟩
theorem _root_.L2.PT.weak {X : Cx} {e : Expr} {t t' : TT} (h : PT X e t) (k : ∀ σ H Q, t' σ H Q → t σ H Q) : PT X e t' := ⟨fun pins s σ H Q I q => h.run pins s σ H Q I (k σ H Q q)⟩
theorem _root_.L2.PA.weak {X : Cx} {e : List Expr} {t t' : TA} (h : PA X e t) (k : ∀ σ H Q, t' σ H Q → t σ H Q) : PA X e t' := ⟨fun pos pins s σ H Q I q => h.run pos pins s σ H Q I (k σ H Q q)⟩
theorem _root_.L2.PK.weak {X : Cx} {e : List Keyword} {t t' : TA} (h : PK X e t) (k : ∀ σ H Q, t' σ H Q → t σ H Q) : PK X e t' := ⟨fun pos pins s σ H Q I q => h.run pos pins s σ H Q I (k σ H Q q)⟩
section
variable {X : Cx} {b : Bs} {W : WX} {σ : L2.St} {RR RR' : List Addr} {F F' H H' : Hp} {s : S}
theorem RRel.up {r : R} {v : V} {s' : S} (h : RRel b RR F s σ H r v) (hn : ∀ c, r ≠ .new c) (p : RR <+: RR') (e : Same F F') : RRel b RR' F' s' σ H' r v := by
  cases r with
  | d x => exact Rep.mono e p h
  | new c => exact absurd rfl (hn c)
  | pl i => exact h
theorem settle_new {r r' : R} (h : r.settle = some r') : ∀ c, r' ≠ .new c := by
  intro c z
  subst z
  cases r with
  | d x => cases h
  | new d =>
    simp only [R.settle] at h
    cases q : d.view with
    | none => rw [q] at h; cases h
    | some x => rw [q] at h; cases h
  | pl i => cases h
/-- what was made just now is kept -/
theorem frz_new {c : Cell} {x : D} {v : V} (r : Rel b RR F s σ H) (h : RRel b RR F s σ H (.new c) v) (e : c.view = some x) : ∃ F', Same F F' ∧ Rel b RR F' s σ H ∧ Rep b.K b.g RR F' x v := by
  obtain ⟨a, rfl, k, l⟩ := h
  obtain ⟨o, ho⟩ := k.there
  obtain ⟨r2, e2⟩ := r.frz l ho
  refine ⟨_, e2, r2, ?_⟩
  cases k with
  | lst h r => cases e; rw [ho] at h; cases h; exact .lst upd_same (r.mono e2 (List.prefix_refl _))
  | dK h r => cases e; rw [ho] at h; cases h; exact .dct (.inl upd_same) (r.mono e2 (List.prefix_refl _))
theorem snd_opd {e : Expr} {f : S → O R} (h : PE X e (tE b W f)) : PE X e (tE b W fun s => (f s).opd) := by
  refine h.weak fun σ H Q ⟨RR, F, s, r, q⟩ => ⟨RR, F, s, r, q.bind fun x s RR F H _ _ r q v hv => ?_⟩
  obtain ⟨y, hy, q⟩ := q.opt
  cases x with
  | d x => cases hy; exact q.now r v hv
  | pl i => cases hy; exact q.now r v hv
  | new c =>
    cases e : c.view with
    | none => simp [R.settle, e] at hy
    | some x =>
      simp only [R.settle, e, Option.map_some, Option.some.injEq] at hy
      subst hy
      obtain ⟨F', e1, r1, k1⟩ := frz_new r hv e
      exact q RR F' H (List.prefix_refl _) e1 r1 v k1
theorem snd_val {e : Expr} {f : S → O R} (h : PE X e (tE b W f)) : PE X e (tV b W fun s => (f s).val) := by
  refine h.weak fun σ H Q ⟨RR, F, s, r, q⟩ => ⟨RR, F, s, r, q.bind fun x s RR F H _ _ r q v hv => ?_⟩
  cases x with
  | d x =>
    exact q.now r v hv
  | new c =>
    simp only [S.fz] at q
    cases e : c.view with
    | none => rw [e] at q; exact q.elim
    | some x =>
      rw [e] at q
      obtain ⟨F', e1, r1, k1⟩ := frz_new r hv e
      exact q RR F' H (List.prefix_refl _) e1 r1 v k1
  | pl i =>
    simp only [S.fz] at q
    cases e : s.sl[i]? with
    | none => rw [e] at q; exact q.elim
    | some z =>
      rw [e] at q
      cases z with
      | un => exact q.elim
      | d x =>
        obtain ⟨w, h1, h2⟩ := r.sd i x e
        have hv : σ[i]? = some (some v) := hv
        rw [hv] at h1; cases h1
        exact q.now r v h2
      | own c =>
        cases ev : c.view with
        | none => simp only [ev, Option.map_none] at q; exact q.elim
        | some x =>
          simp only [ev, Option.map_some] at q
          obtain ⟨a, F', h1, e1, k1, r1⟩ := r.frzS e ev
          have hv : σ[i]? = some (some v) := hv
          rw [hv] at h1; cases h1
          exact q RR F' H (List.prefix_refl _) e1 r1 _ k1
/-- a place that is read -/
theorem vw_of {x : R} {y : D} {v : V} (r : Rel b RR F s σ H) (h : RRel b RR F s σ H x v) (e : s.rd x = some y) : Vw b.K b.g RR F H y v := by
  have rdD : ∀ {x : D}, Rep b.K b.g RR F x v → s.rdD x = some y → Vw b.K b.g RR F H y v := fun {x} hx ex => by
    cases hx with
    | @obj n a ho =>
      simp only [S.rdD] at ex
      cases q : s.st[n]? with
      | none => rw [q] at ex; cases ex
      | some c =>
        rw [q] at ex
        exact (r.st n c a q ho).1.view ex
    | non => cases ex; exact .non
    | bl => cases ex; exact .bl _
    | int => cases ex; exact .int _
    | str => cases ex; exact .str _
    | tup h1 k => cases ex; exact .tup h1 k
    | lst h1 k => cases ex; exact .lst (r.fz _ _ h1) k
    | dct h1 k => cases ex; exact .dct (r.fz.rd h1) k
    | kys h1 k => cases ex; exact .dct (.inr ⟨_, r.fz _ _ h1⟩) k
    | fn h1 => cases ex; exact .fn h1
    | scr h1 => cases ex; exact .scr (r.fz.seq h1)
  cases x with
  | d x => exact rdD h e
  | new c =>
    obtain ⟨a, rfl, k, l⟩ := h
    exact k.view e
  | pl i =>
    simp only [S.rd] at e
    have h : σ[i]? = some (some v) := h
    cases q : s.sl[i]? with
    | none => rw [q] at e; cases e
    | some z =>
      rw [q] at e
      cases z with
      | un => cases e
      | d x =>
        obtain ⟨w, h1, h2⟩ := r.sd i x q
        rw [h] at h1; cases h1
        exact rdD h2 e
      | own c =>
        obtain ⟨a, h1, h2, _⟩ := r.so i c q
        rw [h] at h1; cases h1
        exact h2.view e
end
end G4

namespace G4
open PySem PySem.Spec PyProof.Rows L2

def ResOk (b : Bs) (RR : List Addr) (F H : Hp) (res : R) (Q : VK) : Prop :=
  match res with
  | .d z => ∀ v F' H', Same F F' → Same H H' → (∀ a o, F' a = some o → F a = some o ∨ (H a = none ∧ H' a = some o)) → Rep b.K b.g RR F' z v → Q v H'
  | .new c => ∀ p H', H p = none → Same H H' → CellAt b.K b.g RR F H' p c → Q (.ref p) H'
  | .pl _ => False
section
variable {X : Cx} {b : Bs} {W : WX} {σ : L2.St} {RR RR' : List Addr} {F F' H H' : Hp} {s : S} {Q : VK}
theorem Rel.upg (r : Rel b RR F s σ H) (e : Same F F') (h : Same H H') (u : ∀ a o, F' a = some o → F a = some o ∨ (H a = none ∧ H' a = some o)) : Rel b RR F' s σ H' := by
  have r1 := r.same h
  have nf : ∀ a, H a ≠ none → F a = none → F' a = none := fun a n q => by
    cases z : F' a with
    | none => rfl
    | some o =>
      rcases u a o z with w | ⟨w, _⟩
      · rw [q] at w; cases w
      · exact absurd w n
  refine ⟨fun a o q => ?_, r.f0.trans e, fun a o q => ?_, r1.keep, r.pre, r.new, r.nd, fun a m => ?_, r.stl, fun n c a q p => ?_, r.len, fun i x q => ?_, fun i c q => ?_, r.ap⟩
  · rcases u a o q with w | ⟨_, w⟩
    · exact r1.fz _ _ w
    · exact w
  · rcases u a o q with w | ⟨w, _⟩
    · exact r.fn _ _ w
    · exact .inr (r.lone w).h
  · obtain ⟨o, ho⟩ := r.there m
    exact nf a (by rw [ho]; intro z; cases z) (r.rf a m)
  · exact ⟨(r1.st n c a q p).1.mono e (List.prefix_refl _) fun _ z => z, (r1.st n c a q p).2⟩
  · obtain ⟨v, h1, h2⟩ := r.sd i x q
    exact ⟨v, h1, h2.mono e (List.prefix_refl _)⟩
  · obtain ⟨a, h1, h2, h3, h4⟩ := r1.so i c q
    obtain ⟨a', k1, k2, _⟩ := r.so i c q
    rw [h1] at k1; cases k1
    obtain ⟨o, ho⟩ := k2.there
    exact ⟨a, h1, h2.mono e (List.prefix_refl _) fun _ z => z, nf a (by rw [ho]; intro z; cases z) h3, h4⟩
theorem Lone.same {a : Addr} (l : Lone b RR F s σ a) : Lone b RR F s σ a := l
theorem res_ok {res : R} (q : Go b W σ RR F (.ok res s) fun r s' RR' F' H' => ∀ v, RRel b RR' F' s' σ H' r v → Q v H') (r : Rel b RR F s σ H) (n : ∀ i, res ≠ .pl i) : ResOk b RR F H res Q := by
  cases res with
  | d z => exact fun v F' H' e h u k => q RR F' H' (List.prefix_refl _) e (r.upg e h u) v k
  | new c => exact fun p H' hp h k => q RR F H' (List.prefix_refl _) (Same.refl _) (r.same h) _ ⟨p, rfl, k, r.lone hp⟩
  | pl i => exact absurd rfl (n i)
theorem ResOk.imm {z : D} {v : V} (q : ResOk b RR F H (.d z) Q) (k : Rep b.K b.g RR F z v) : Q v H := q v F H (Same.refl _) (Same.refl _) (fun _ _ h => .inl h) k
theorem ResOk.lst {l : List D} {vs : List V} (q : ResOk b RR F H (.new (.lst l)) Q) (k : Reps b.K b.g RR F l vs) : ∀ p, H p = none → Q (.ref p) (upd H p (.lst vs)) :=
  fun p hp => q p _ hp (same_new hp) (.lst upd_same k)
theorem ResOk.tup {l : List D} {vs : List V} (q : ResOk b RR F H (.d (.tup l)) Q) (e : Same F H) (k : Reps b.K b.g RR F l vs) : ∀ p, H p = none → Q (.ref p) (upd H p (.tup vs)) := fun p hp => by
  have fp : F p = none := by
    cases z : F p with
    | none => rfl
    | some o => rw [e _ _ z] at hp; cases hp
  have e1 : Same F (upd F p (.tup vs)) := same_new fp
  refine q _ (upd F p (.tup vs)) _ e1 (same_new hp) (fun a o h => ?_) (.tup (.inl (.inl upd_same)) (k.mono e1 (List.prefix_refl _)))
  by_cases z : a = p
  · subst z
    rw [upd_same] at h; cases h
    exact .inr ⟨hp, upd_same⟩
  · rw [upd_ne z] at h; exact .inl h

/-! ### operators -/
theorem _root_.L2.OpR.imp {X : Cx} {f : Value → Value → Sem Value} {r r' : R2} (h : OpR X f r) (k : ∀ x y H Q, r' x y H Q → r x y H Q) : OpR X f r' := by
  intro pins s σ H x y v u Q I r1 r2 q
  exact h pins s σ H x y v u Q I r1 r2 (k _ _ _ _ q)
theorem _root_.L2.CallR.imp {X : Cx} {f : Value} {r r' : List V → Hp → VK → Prop} (h : CallR X f r) (k : ∀ x H Q, r' x H Q → r x H Q) : CallR X f r' := by
  intro pins s σ H x u Q I r1 q
  exact h pins s σ H x u Q I r1 (k _ _ _ q)
def rBin (b : Bs) (o : Operator) : R2 := fun v w H Q => ∃ RR F x y res, Same F H ∧ Vw b.K b.g RR F H x v ∧ Vw b.K b.g RR F H y w ∧ opBin o x y = some res ∧ ResOk b RR F H res Q
theorem op_pow' : OpR X (binaryOp .Pow) (rI (fun i j => 0 ≤ j ∧ (Builtin.Int.intBits i : Int) * j ≤ 2 ^ 27) fun i j => .int (i ^ j.toNat)) := opI fun _ _ _ _ _ _ _ hc q => pow_int hc.1 hc.2 q
theorem big_eq : (sizeLine : Nat) = big := by rw [sizeLine_eq]
theorem Reps.unref {K : PySem.W.Frag} {g : Str → Option Addr} {l : List D} {v : V} (h : Vw K g RR F H (.lst l) v) : ∃ a vs, v = .ref a ∧ H a = some (.lst vs) ∧ Reps K g RR F l vs := by
  cases h with
  | lst h k => exact ⟨_, _, rfl, h, k⟩
theorem ok_add : OpR X (binaryOp .Add) (rBin b .Add) := by
  refine ((op_add (X := X)).or (op_add_str.or op_cat)).imp fun v w H Q ⟨RR, F, x, y, res, e, hx, hy, ho, q⟩ => ?_
  cases hx <;> cases hy <;> simp only [opBin, Option.some.injEq, reduceCtorEq] at ho
  · exact .inl ⟨_, _, rfl, rfl, by subst ho; exact q.imm (.int _)⟩
  · split at ho
    · rename_i hl
      cases ho
      exact .inr (.inl ⟨_, _, rfl, rfl, by rw [big_eq]; exact hl, q.imm (.str _)⟩)
    · cases ho
  · rename_i h1 k1 _ _ _ h2 k2 _
    split at ho
    · rename_i hl
      cases ho
      refine .inr (.inr ⟨_, _, _, _, rfl, rfl, h1, h2, ?_, q.lst (k1.app k2)⟩)
      rw [← k1.len, ← k2.len, big_eq]
      exact hl
    · cases ho
theorem ok_sub : OpR X (binaryOp .Sub) (rBin b .Sub) := by
  refine (op_sub (X := X)).imp fun v w H Q ⟨RR, F, x, y, res, e, hx, hy, ho, q⟩ => ?_
  cases hx <;> cases hy <;> simp only [opBin, Option.some.injEq, reduceCtorEq] at ho
  exact ⟨_, _, rfl, rfl, by subst ho; exact q.imm (.int _)⟩
theorem ok_mul : OpR X (binaryOp .Mult) (rBin b .Mult) := by
  refine ((op_mulW (X := X)).or op_rep).imp fun v w H Q ⟨RR, F, x, y, res, e, hx, hy, ho, q⟩ => ?_
  cases hx <;> cases hy <;> simp only [opBin, Option.some.injEq, reduceCtorEq] at ho
  · split at ho
    · rename_i hl
      cases ho
      exact .inl ⟨_, _, rfl, rfl, hl, q.imm (.int _)⟩
    · cases ho
  · rename_i h1 k1 _ _
    split at ho
    · rename_i hl
      cases ho
      refine .inr ⟨_, _, _, rfl, rfl, h1, by have := small_iff hl.2; omega, by have := small_iff hl.2; omega, ?_, q.lst (k1.rep _)⟩
      rw [← k1.len, big_eq]
      exact hl.1
    · cases ho
theorem ok_fdiv : OpR X (binaryOp .FloorDiv) (rBin b .FloorDiv) := by
  refine (op_fdivW (X := X)).imp fun v w H Q ⟨RR, F, x, y, res, e, hx, hy, ho, q⟩ => ?_
  cases hx <;> cases hy <;> simp only [opBin, Option.some.injEq, reduceCtorEq] at ho
  split at ho
  · rename_i hl
    cases ho
    exact ⟨_, _, rfl, rfl, hl, q.imm (.int _)⟩
  · cases ho
theorem ok_mod : OpR X (binaryOp .Mod) (rBin b .Mod) := by
  refine (op_mod (X := X)).imp fun v w H Q ⟨RR, F, x, y, res, e, hx, hy, ho, q⟩ => ?_
  cases hx <;> cases hy <;> simp only [opBin, Option.some.injEq, reduceCtorEq] at ho
  split at ho
  · rename_i hl
    cases ho
    exact ⟨_, _, rfl, rfl, hl, q.imm (.int _)⟩
  · cases ho
theorem ok_pow : OpR X (binaryOp .Pow) (rBin b .Pow) := by
  refine (op_pow' (X := X)).imp fun v w H Q ⟨RR, F, x, y, res, e, hx, hy, ho, q⟩ => ?_
  cases hx <;> cases hy <;> simp only [opBin, Option.some.injEq, reduceCtorEq] at ho
  split at ho
  · rename_i hl
    cases ho
    exact ⟨_, _, rfl, rfl, hl, q.imm (.int _)⟩
  · cases ho
theorem ok_shl : OpR X (binaryOp .LShift) (rBin b .LShift) := by
  refine (op_shlW (X := X)).imp fun v w H Q ⟨RR, F, x, y, res, e, hx, hy, ho, q⟩ => ?_
  cases hx <;> cases hy <;> simp only [opBin, Option.some.injEq, reduceCtorEq] at ho
  split at ho
  · rename_i hl
    cases ho
    exact ⟨_, _, rfl, rfl, hl, q.imm (.int _)⟩
  · cases ho
theorem ok_shr : OpR X (binaryOp .RShift) (rBin b .RShift) := by
  refine (op_shr (X := X)).imp fun v w H Q ⟨RR, F, x, y, res, e, hx, hy, ho, q⟩ => ?_
  cases hx <;> cases hy <;> simp only [opBin, Option.some.injEq, reduceCtorEq] at ho
  split at ho
  · rename_i hl
    cases ho
    exact ⟨_, _, rfl, rfl, hl, q.imm (.int _)⟩
  · cases ho
theorem ok_band : OpR X (binaryOp .BitAnd) (rBin b .BitAnd) := by
  refine (op_and (X := X)).imp fun v w H Q ⟨RR, F, x, y, res, e, hx, hy, ho, q⟩ => ?_
  cases hx <;> cases hy <;> simp only [opBin, Option.some.injEq, reduceCtorEq] at ho
  exact ⟨_, _, rfl, rfl, by subst ho; exact q.imm (.int _)⟩
theorem ok_bor : OpR X (binaryOp .BitOr) (rBin b .BitOr) := by
  refine (op_or (X := X)).imp fun v w H Q ⟨RR, F, x, y, res, e, hx, hy, ho, q⟩ => ?_
  cases hx <;> cases hy <;> simp only [opBin, Option.some.injEq, reduceCtorEq] at ho
  exact ⟨_, _, rfl, rfl, by subst ho; exact q.imm (.int _)⟩
theorem opBin_none {o : Operator} (h : o ≠ .Add ∧ o ≠ .Sub ∧ o ≠ .Mult ∧ o ≠ .FloorDiv ∧ o ≠ .Mod ∧ o ≠ .Pow ∧ o ≠ .LShift ∧ o ≠ .RShift ∧ o ≠ .BitAnd ∧ o ≠ .BitOr) (x y : D) : opBin o x y = none := by
  obtain ⟨h1, h2, h3, h4, h5, h6, h7, h8, h9, h10⟩ := h
  cases o <;> first | rfl | contradiction
theorem ok_bin (o : Operator) : OpR X (binaryOp o) (rBin b o) := by
  cases o with
  | Add => exact ok_add
  | Sub => exact ok_sub
  | Mult => exact ok_mul
  | FloorDiv => exact ok_fdiv
  | Mod => exact ok_mod
  | Pow => exact ok_pow
  | LShift => exact ok_shl
  | RShift => exact ok_shr
  | BitAnd => exact ok_band
  | BitOr => exact ok_bor
  | MatMult => intro pins s σ H x y v u Q I r1 r2 ⟨RR, F, x, y, res, e, hx, hy, ho, q⟩; rw [opBin_none (by decide)] at ho; cases ho
  | Div => intro pins s σ H x y v u Q I r1 r2 ⟨RR, F, x, y, res, e, hx, hy, ho, q⟩; rw [opBin_none (by decide)] at ho; cases ho
  | BitXor => intro pins s σ H x y v u Q I r1 r2 ⟨RR, F, x, y, res, e, hx, hy, ho, q⟩; rw [opBin_none (by decide)] at ho; cases ho
end
end G4

namespace G4
open PySem PySem.Spec PyProof.Rows L2

mutual
theorem toPD_ok : ∀ (n : Nat) (d : D), D.plainN n d = true → (toPD d).canLay0 = true ∧ (toPD d).depth ≤ n
  | _, .non, _ => ⟨rfl, Nat.zero_le _⟩
  | _, .bl _, _ => ⟨rfl, Nat.zero_le _⟩
  | _, .int _, _ => ⟨rfl, Nat.zero_le _⟩
  | n, .str x, h => ⟨by cases n <;> exact h, Nat.zero_le _⟩
  | n + 1, .tup l, h => by
    have k := toPDs_ok n l h
    exact ⟨k.1, Nat.succ_le_succ k.2⟩
  | n + 1, .lst l, h => by
    have k := toPDs_ok n l h
    exact ⟨k.1, Nat.succ_le_succ k.2⟩
theorem toPDs_ok : ∀ (n : Nat) (l : List D), D.plainsN n l = true → PyData.canLayAll0 (toPDs l) = true ∧ PyData.depthAll (toPDs l) ≤ n
  | _, [], _ => ⟨rfl, Nat.zero_le _⟩
  | n, d :: l, h => by
    simp only [D.plainsN, Bool.and_eq_true] at h
    have k1 := toPD_ok n d h.1
    have k2 := toPDs_ok n l h.2
    refine ⟨?_, ?_⟩
    · show (PyData.canLay0 (toPD d) && PyData.canLayAll0 (toPDs l)) = true
      rw [k1.1, k2.1]; rfl
    · show max (toPD d).depth (PyData.depthAll (toPDs l)) ≤ n
      exact Nat.max_le.mpr ⟨k1.2, k2.2⟩
end
mutual
theorem eqv_toPD : ∀ (n m : Nat) (a c : D), D.plainN n a = true → D.plainN m c = true → D.eqv a c = PyData.eqv (toPD a) (toPD c)
  | n + 1, m + 1, .tup l, .tup r, h, k => by
    simp only [D.eqv, toPD, PyData.eqv]
    exact eqvs_toPD n m l r h k
  | n + 1, m + 1, .lst l, .lst r, h, k => by
    simp only [D.eqv, toPD, PyData.eqv]
    exact eqvs_toPD n m l r h k
  | n, m, .non, c, h, k => by cases c <;> cases m <;> first | rfl | (simp [D.plainN] at k)
  | n, m, .bl _, c, h, k => by cases c <;> cases m <;> first | rfl | (simp [D.plainN] at k)
  | n, m, .int _, c, h, k => by cases c <;> cases m <;> first | rfl | (simp [D.plainN] at k)
  | n, m, .str x, c, h, k => by
    cases c <;> cases m <;> first | rfl | (simp [D.plainN] at k; done) | (simp only [D.eqv, toPD, PyData.eqv]; exact (Bool.beq_eq_decide_eq _ _).symm)
  | n + 1, m, .tup l, .non, h, k => rfl
  | n + 1, m, .tup l, .bl _, h, k => rfl
  | n + 1, m, .tup l, .int _, h, k => rfl
  | n + 1, m, .tup l, .str _, h, k => rfl
  | n + 1, m + 1, .tup l, .lst _, h, k => rfl
  | n + 1, m, .lst l, .non, h, k => rfl
  | n + 1, m, .lst l, .bl _, h, k => rfl
  | n + 1, m, .lst l, .int _, h, k => rfl
  | n + 1, m, .lst l, .str _, h, k => rfl
  | n + 1, m + 1, .lst l, .tup _, h, k => rfl
theorem eqvs_toPD : ∀ (n m : Nat) (a c : List D), D.plainsN n a = true → D.plainsN m c = true → D.eqvs a c = PyData.eqvAll (toPDs a) (toPDs c)
  | _, _, [], [], _, _ => rfl
  | _, _, [], _ :: _, _, _ => rfl
  | _, _, _ :: _, [], _, _ => rfl
  | n, m, x :: l, y :: r, h, k => by
    simp only [D.plainsN, Bool.and_eq_true] at h k
    simp only [D.eqvs, toPDs, PyData.eqvAll]
    rw [eqv_toPD n m x y h.1 k.1, eqvs_toPD n m l r h.2 k.2]
end
section
variable {K : PySem.W.Frag} {g : Str → Option Addr} {RR : List Addr} {F H : Hp}
mutual
theorem Rep.dp : ∀ (n : Nat) (d : D) (v : V), Rep K g RR H d v → D.plainN n d = true → Dp K H v (toPD d)
  | _, .non, _, r, _ => by cases r; exact .non
  | _, .bl _, _, r, _ => by cases r; exact .bl _
  | _, .int _, _, r, _ => by cases r; exact .int _
  | _, .str _, _, r, _ => by cases r; exact .str _
  | n + 1, .tup l, _, r, h => by
    cases r with
    | tup h1 k => exact .tup h1 (Reps.dp n l _ k h)
  | n + 1, .lst l, _, r, h => by
    cases r with
    | lst h1 k => exact .lst (.inl (.inl h1)) (Reps.dp n l _ k h)
theorem Reps.dp : ∀ (n : Nat) (l : List D) (vs : List V), Reps K g RR H l vs → D.plainsN n l = true → DpAll K H vs (toPDs l)
  | _, [], _, r, _ => by cases r; exact .nil
  | n, d :: l, _, r, h => by
    simp only [D.plainsN, Bool.and_eq_true] at h
    cases r with
    | cons a b => exact .cons (Rep.dp n d _ a h.1) (Reps.dp n l _ b h.2)
end
end
section
variable {X : Cx} {b : Bs} {Q : VK}
def rCmp (b : Bs) (o : CmpOp) : R2 := fun v w H Q => ∃ RR F x y k, Same F H ∧ Vw b.K b.g RR F H x v ∧ Vw b.K b.g RR F H y w ∧ opCmp o x y = some k ∧ Q (.bl k) H
theorem shaped_of {d : D} (h : D.plainN 60 d = true) : SeqAt.shaped (toPD d) = true := by
  have k := toPD_ok 60 d h
  unfold SeqAt.shaped
  rw [k.1, decide_eq_true (Nat.le_trans k.2 (by decide))]
  rfl
theorem ok_eq (hK : b.K = X.K) (hu : X.A.units + 64 < cLine) : OpR X (compareOp .Eq) (rCmp b .Eq) := by
  refine ((op_eqD hu).or (op_eq (X := X))).imp fun v w H Q ⟨RR, F, x, y, k, e, hx, hy, ho, q⟩ => ?_
  rcases opEq_cases (show opEq x y = some k from ho) with ⟨a, c, rfl, rfl, rfl⟩ | ⟨h1, h2, rfl⟩
  · cases hx; cases hy
    refine .inr ⟨rfl, ?_⟩
    rw [show decide (V.str a = V.str c) = decide (a = c) by simp]
    exact q
  · refine .inl ⟨toPD x, toPD y, hK ▸ Rep.dp 60 x v (hx.rep e) h1, hK ▸ Rep.dp 60 y w (hy.rep e) h2, shaped_of h1, shaped_of h2, ?_⟩
    rw [← eqv_toPD 60 60 x y h1 h2]
    exact q
theorem ok_ne (hK : b.K = X.K) (hu : X.A.units + 64 < cLine) : OpR X (compareOp .NotEq) (rCmp b .NotEq) := by
  refine ((op_neD hu).or (op_ne (X := X))).imp fun v w H Q ⟨RR, F, x, y, k, e, hx, hy, ho, q⟩ => ?_
  have ho : (opEq x y).map (!·) = some k := ho
  cases hq : opEq x y with
  | none => rw [hq] at ho; cases ho
  | some k2 =>
    rw [hq] at ho
    cases ho
    rcases opEq_cases hq with ⟨a, c, rfl, rfl, rfl⟩ | ⟨h1, h2, rfl⟩
    · cases hx; cases hy
      refine .inr ⟨rfl, ?_⟩
      rw [show decide (V.str a = V.str c) = decide (a = c) by simp]
      exact q
    · refine .inl ⟨toPD x, toPD y, hK ▸ Rep.dp 60 x v (hx.rep e) h1, hK ▸ Rep.dp 60 y w (hy.rep e) h2, shaped_of h1, shaped_of h2, ?_⟩
      rw [← eqv_toPD 60 60 x y h1 h2]
      exact q
theorem mem_toPD {x : D} {l : List D} {n m : Nat} (h : D.plainN n x = true) (k : D.plainsN m l = true) : (toPDs l).any (fun y => PyData.eqv y (toPD x)) = D.mem x l := by
  induction l with
  | nil => rfl
  | cons y l ih =>
    simp only [D.plainsN, Bool.and_eq_true] at k
    rw [toPDs, List.any_cons, ih k.2]
    show _ = (D.eqv y x || D.mem x l)
    rw [eqv_toPD m n y x k.1 h]
theorem in_any (neg : Bool) (hK : b.K = X.K) (hu : X.A.units + 64 < cLine) : OpR X (compareOp (if neg then .NotIn else .In)) (fun v w H Q => ∃ RR F x l, Same F H ∧ Vw b.K b.g RR F H x v ∧ (Vw b.K b.g RR F H (.lst l) w ∨ Vw b.K b.g RR F H (.tup l) w) ∧ x.plain = true ∧ D.plains l = true ∧ Q (.bl (if neg then !D.mem x l else D.mem x l)) H) := by
  intro pins s σ H v w vu wu Q I r1 r2 ⟨RR, F, x, l, e, hx, hy, px, pl, q⟩
  have k1 := toPD_ok 60 x px
  have k2 := toPDs_ok 60 l pl
  obtain ⟨as, e1⟩ := Dp.reads I _ _ _ (hK ▸ Rep.dp 60 x v (hx.rep e) px) r1
  have hr : X.A.units + 1 + min (PyData.depthAll (toPDs l)) (toPD x).depth < cLine := by
    have := Nat.min_le_left (PyData.depthAll (toPDs l)) (toPD x).depth
    have := k2.2
    omega
  rcases hy with hy | hy
  · have pl' : D.plainN 61 (.lst l) = true := pl
    obtain ⟨bs, e2⟩ := Dp.reads I _ _ _ (hK ▸ Rep.dp 61 _ w (hy.rep e) pl') r2
    cases neg
    · refine SeqAt.in_list_reads e2 e1 k2.1 k1.1 hr ⟨.bl _, H, I, rfl, ?_⟩
      rw [mem_toPD px pl]; exact q
    · refine SeqAt.notIn_list_reads e2 e1 k2.1 k1.1 hr ⟨.bl _, H, I, rfl, ?_⟩
      rw [mem_toPD px pl]; exact q
  · have pl' : D.plainN 61 (.tup l) = true := pl
    obtain ⟨bs, e2⟩ := Dp.reads I _ _ _ (hK ▸ Rep.dp 61 _ w (hy.rep e) pl') r2
    cases neg
    · refine SeqAt.in_tuple_reads e2 e1 k2.1 k1.1 hr ⟨.bl _, H, I, rfl, ?_⟩
      rw [mem_toPD px pl]; exact q
    · refine SeqAt.notIn_tuple_reads e2 e1 k2.1 k1.1 hr ⟨.bl _, H, I, rfl, ?_⟩
      rw [mem_toPD px pl]; exact q
theorem opIn_cases {x y : D} {k : Bool} (h : opIn x y = some k) : (∃ l, (y = .lst l ∨ y = .tup l) ∧ x.plain = true ∧ D.plains l = true ∧ k = D.mem x l) ∨ ∃ a c, x = .str a ∧ y = .str c ∧ k = !(Builtin.Str.occurrences c a 0 c.length 1).isEmpty := by
  unfold opIn at h
  split at h
  · split at h
    · rename_i l hp
      rw [Bool.and_eq_true] at hp
      cases h
      exact .inl ⟨_, .inl rfl, hp.1, hp.2, rfl⟩
    · cases h
  · split at h
    · rename_i l hp
      rw [Bool.and_eq_true] at hp
      cases h
      exact .inl ⟨_, .inr rfl, hp.1, hp.2, rfl⟩
    · cases h
  · cases h
    exact .inr ⟨_, _, rfl, rfl, rfl⟩
  · cases h
theorem ok_in (hK : b.K = X.K) (hu : X.A.units + 64 < cLine) : OpR X (compareOp .In) (rCmp b .In) := by
  refine ((in_any (X := X) (b := b) false hK hu).or op_in_str).imp fun v w H Q ⟨RR, F, x, y, k, e, hx, hy, ho, q⟩ => ?_
  rcases opIn_cases ho with ⟨l, hl, px, pl, rfl⟩ | ⟨a, c, rfl, rfl, rfl⟩
  · refine .inl ⟨RR, F, x, l, e, hx, ?_, px, pl, q⟩
    rcases hl with rfl | rfl
    · exact .inl hy
    · exact .inr hy
  · cases hx; cases hy
    exact .inr ⟨_, _, rfl, rfl, q⟩
theorem ok_notIn (hK : b.K = X.K) (hu : X.A.units + 64 < cLine) : OpR X (compareOp .NotIn) (rCmp b .NotIn) := by
  refine ((in_any (X := X) (b := b) true hK hu).or op_notin_str).imp fun v w H Q ⟨RR, F, x, y, k, e, hx, hy, ho, q⟩ => ?_
  simp only [opCmp] at ho
  cases hi : opIn x y with
  | none => rw [hi] at ho; cases ho
  | some k' =>
    rw [hi] at ho; cases ho
    rcases opIn_cases hi with ⟨l, hl, px, pl, rfl⟩ | ⟨a, c, rfl, rfl, rfl⟩
    · refine .inl ⟨RR, F, x, l, e, hx, ?_, px, pl, q⟩
      rcases hl with rfl | rfl
      · exact .inl hy
      · exact .inr hy
    · cases hx; cases hy
      exact .inr ⟨_, _, rfl, rfl, q⟩
theorem ok_is : OpR X (compareOp .Is) (rCmp b .Is) := by
  refine ((op_isN (X := X)).or op_isBl).imp fun v w H Q ⟨RR, F, x, y, k, e, hx, hy, ho, q⟩ => ?_
  simp only [opCmp] at ho
  unfold opIs at ho
  split at ho
  · cases hy
    cases ho
    refine .inl ⟨rfl, ?_⟩
    cases hx <;> exact q
  · cases hx; cases hy; cases ho
    exact .inr ⟨_, _, rfl, rfl, q⟩
  · cases ho
theorem ok_isnot : OpR X (compareOp .IsNot) (rCmp b .IsNot) := by
  refine ((op_notN (X := X)).or op_notBl).imp fun v w H Q ⟨RR, F, x, y, k, e, hx, hy, ho, q⟩ => ?_
  simp only [opCmp] at ho
  unfold opIs at ho
  split at ho
  · cases hy
    cases ho
    refine .inl ⟨rfl, ?_⟩
    cases hx <;> exact q
  · cases hx; cases hy; cases ho
    exact .inr ⟨_, _, rfl, rfl, q⟩
  · cases ho
theorem ok_ints {o : CmpOp} {f : Int → Int → Bool} (h : OpR X (compareOp o) (rI0 fun i j => .bl (f i j))) (k : ∀ x y c, opCmp o x y = some c → ∃ i j, x = .int i ∧ y = .int j ∧ c = f i j) : OpR X (compareOp o) (rCmp b o) := by
  refine h.imp fun v w H Q ⟨RR, F, x, y, c, e, hx, hy, ho, q⟩ => ?_
  obtain ⟨i, j, rfl, rfl, rfl⟩ := k x y c ho
  cases hx; cases hy
  exact ⟨_, _, rfl, rfl, q⟩
theorem ok_cmp (o : CmpOp) (hK : b.K = X.K) (hu : X.A.units + 64 < cLine) : OpR X (compareOp o) (rCmp b o) := by
  cases o with
  | Eq => exact ok_eq hK hu
  | NotEq => exact ok_ne hK hu
  | In => exact ok_in hK hu
  | NotIn => exact ok_notIn hK hu
  | Is => exact ok_is
  | IsNot => exact ok_isnot
  | Lt => exact ok_ints op_lt fun x y c h => by cases x <;> cases y <;> simp only [opCmp, reduceCtorEq] at h; cases h; exact ⟨_, _, rfl, rfl, rfl⟩
  | LtE => exact ok_ints op_le fun x y c h => by cases x <;> cases y <;> simp only [opCmp, reduceCtorEq] at h; cases h; exact ⟨_, _, rfl, rfl, rfl⟩
  | Gt => exact ok_ints op_gt fun x y c h => by cases x <;> cases y <;> simp only [opCmp, reduceCtorEq] at h; cases h; exact ⟨_, _, rfl, rfl, rfl⟩
  | GtE => exact ok_ints op_ge fun x y c h => by cases x <;> cases y <;> simp only [opCmp, reduceCtorEq] at h; cases h; exact ⟨_, _, rfl, rfl, rfl⟩
end
end G4

namespace G4
open PySem PySem.Spec PyProof.Rows L2

/-- a def's promise where no repr is under way around it -/
structure FnG (P : Program) (w : World) (K : PySem.W.Frag) (mg : Str → Option Value) (base : Heap) (k : Nat) (f : Addr) (fd : FuncData) (ps : List Str) (sp : Sp) : Prop where
  len : ∀ vs H Q E, sp vs H Q E → vs.length = ps.length
  run : ∀ (A : Around) (outer : List Env) (s : Shared) (H : Hp) (args : Args) (us : List Value) (vs : List V) (Q : VK) (E : XK),
    Room k A → A.guards = some [] → Env0 P w K mg base A outer s H → BindsTo s fd args (ps.zip us) → Vals vs us → sp vs H Q E →
      codeAny (model P w) A (.call (.ref f) args) (CR (L2.CX P w) outer P w H s Q E) s
section
variable {P : Program} {w : World} {K : PySem.W.Frag} {mg : Str → Option Value} {base : Heap}
theorem FnG.mono {j k : Nat} {f : Addr} {fd : FuncData} {ps : List Str} {sp : Sp} (G : FnG P w K mg base j f fd ps sp) (h : j ≤ k) : FnG P w K mg base k f fd ps sp :=
  ⟨G.len, fun A outer s H args us vs Q E hr => G.run A outer s H args us vs Q E (hr.mono h)⟩
theorem fn_ofG {k : Nat} {x qual : Str} {st : Stmt} {f : Addr} {fd : FuncData} {N ps : List Str} {sp : Sp} (D : Fun K x qual st f fd) (S : FnScope N ps (defScope st)) (len : ∀ vs H Q E, sp vs H Q E → vs.length = ps.length)
    (body : ∀ (cdv : Value) (A : Around) (outer : List Env) (s : Shared) (H : Hp) (vs : List V) (Q : VK) (E : XK),
      Room k (A.deeper (envOfC qual (defScope st) s.heap.objs.size f cdv)) → A.guards = some [] → sp vs H Q E →
        ∃ t, PSs (cxOf (L2.CX P w) P w K mg base N qual (defScope st) f cdv A outer s H E) (defBody st) t ∧ t { nx := fun _ H' => Q .non H', rt := Q } (start N vs) H) :
    FnG P w K mg base (k + 1) f fd ps sp := by
  obtain ⟨oc, od, kV, doc, pm, an, cdv, ct, osl, rfl, lk, hcd⟩ := D.ex
  refine ⟨len, fun A outer s H args us vs Q E hr hg e0 hb r hsp => ?_⟩
  have hl := len _ _ _ _ hsp
  have back : ∀ (b : Addr) (o : Obj), base.get? b = some o → s.heap.get? b = some o := fun b o e => (e0.bs b o e).1
  have KX : K.In s.heap := e0.mod.kin.keeps back
  have lim : s.heap.NoLimit := e0.mod.nolimit.keeps back
  have knd : ∀ y ∈ ps.zip us, (defScope st).names.lookup y.1 = some .local ∨ ((defScope st).names.lookup y.1 = some .cell ∧ ((cellsFrom (s.heap.objs.size + 1) (defScope st).names []).lookup y.1).isSome = true) := by
    rintro ⟨n, v⟩ hy
    rcases S.par n (List.of_mem_zip hy).1 with q | q
    · exact .inl q
    · exact .inr ⟨q, PySem.W.cellsFrom_some _ _ _ (.inl q)⟩
  refine codeAny_call_function hr.depth (KX _ _ lk) rfl S.co S.gen rfl (PySem.W.codeRec_of KX hcd) (hb _ _ _ _ ?_)
  refine wpAny_newFunctionEnv_cells S.kind knd fun env he s1 ic => ?_
  subst he
  refine ⟨lim.keeps ic.toInCall.keep, codeAny_func ?_⟩
  obtain ⟨t, ht, hq⟩ := body cdv A outer s H vs Q E (hr.deeper _) hg hsp
  have I : Inv (cxOf (L2.CX P w) P w K mg base N qual (defScope st) f cdv A outer s H E) [] (start N vs) H s1 := inv_start S hr.hd e0 hl r ic
  refine wpAny_mono (ht.run [] s1 (start N vs) H _ I hq) (fun fl s' hs => ?_) fun e s' hs => hs
  cases fl with
  | ret u =>
    obtain ⟨v, τ, H', J, rv, q⟩ := hs
    exact ⟨v, H', J.os, J.bare, J.base, J.hok, rv, q⟩
  | next =>
    obtain ⟨τ, H', J, q⟩ := hs
    exact ⟨.non, H', J.os, J.bare, J.base, J.hok, rfl, q⟩
  | brk =>
    obtain ⟨_, _, _, q⟩ := hs
    exact q.elim
  | cont =>
    obtain ⟨_, _, _, q⟩ := hs
    exact q.elim
end
section
variable {X : Cx} {k : Nat} {f : Addr} {fd : FuncData} {ps : List Str} {sp : Sp} {W : WX} {x : Str} {p pos : Pos} {e : Expr} {es : List Expr} {t tk : TA}
/-- the callee runs -/
theorem run_G {pins : List (Addr × Obj)} {σ : L2.St} {H : Hp} {s : Shared} {Q : VK} {args : Args} {us : List Value} {vs : List V} (G : FnG X.prog X.w X.K X.mg X.base k f fd ps sp) (hr : Room k X.A) (hg : X.A.guards = some []) (tk : Takes X W)
    (hb : BindsTo s fd args (ps.zip us)) (I : Inv X pins σ H s) (r : Vals vs us) (h : sp vs H Q (WE W σ)) : codeAny (model X.prog X.w) X.A (.call (.ref f) args) (fun res s' => match res with
      | .ok (.ret u) => EP X pins σ Q u s'
      | .ok _ => False
      | .error e => X.xe e s') s := by
  refine codeAny_mono (G.run X.A X.stack s H args us vs Q (WE W σ) hr hg I.env0 hb r h) fun res s' hq => ?_
  cases res with
  | error e => exact passAt tk σ pins H s e s' I hq
  | ok fl =>
    cases fl with
    | ret u => exact I.after hq
    | next => exact hq
    | brk => exact hq
    | cont => exact hq
def tCallG (sp : Sp) (W : WX) (t : TA) : TE := fun σ H Q => t σ H fun vs H1 => sp vs H1 Q (WE W σ)
theorem run_call {pins : List (Addr × Obj)} {σ : L2.St} {H : Hp} {s : Shared} {Q : VK} {us : List Value} {vs : List V} (G : FnG X.prog X.w X.K X.mg X.base k f fd ps sp) (hr : Room k X.A) (hg : X.A.guards = some []) (tk : Takes X W)
    (hb : Binds X.K fd ps []) (I : Inv X pins σ H s) (r : Vals vs us) (h : sp vs H Q (WE W σ)) : wpAny (model X.prog X.w) X.A (call (.ref f) us) (EP X pins σ Q) X.xe s := by
  have hl : us.length = ps.length := by rw [← r.length]; exact G.len _ _ _ _ h
  have bb := hb s us I.kIn (by rw [List.append_nil]; exact hl)
  rw [List.append_nil] at bb
  refine wpAny_call (codeAny_mono (run_G G hr hg tk bb I r h) fun res s' hq => ?_)
  cases res with
  | error e => exact hq
  | ok fl => cases fl <;> first | exact hq | exact hq.elim
theorem pe_callG (G : FnG X.prog X.w X.K X.mg X.base k f fd ps sp) (hr : Room k X.A) (hg : X.A.guards = some []) (tk : Takes X W) (gl : Gl X x) (hm : X.mg x = some (.ref f)) (hk : PySem.W.keepIn X.K (.ref f) = true) (hb : Binds X.K fd ps [])
    (ha : PA X (e :: es) t) (hdb : (x == ("__debug__" : Str)) = false) (he : starEach (e :: es) X.env = (false, eval e X.env) :: starEach es X.env) (hpl : (backTo pos (starEach es X.env)).any (·.1) = false) :
    PE X (.Call (.Name x p) (e :: es) [] pos) (tCallG sp W t) := by
  refine ⟨fun pins s σ H Q I h => wpAny_Call_Name_kw (ld_glob I gl hm ?_ hdb)⟩
  refine PySem.W.callWith_K (h₀ := X.base) I.ok.mod.kin hk (thn (ha.run pos pins s σ H _ I h) fun us s1 ⟨vs, H1, I1, r, q⟩ => ⟨I1.kIn, ?_⟩) he hpl
  exact run_call G hr hg tk hb I1 r q
theorem pe_callG0 (G : FnG X.prog X.w X.K X.mg X.base k f fd ps sp) (hr : Room k X.A) (hg : X.A.guards = some []) (tk : Takes X W) (gl : Gl X x) (hm : X.mg x = some (.ref f)) (hk : PySem.W.keepIn X.K (.ref f) = true) (hb : Binds X.K fd ps [])
    (hdb : (x == ("__debug__" : Str)) = false) : PE X (.Call (.Name x p) [] [] pos) (tCallG sp W tNil) := by
  refine ⟨fun pins s σ H Q I h => wpAny_Call_Name_kw (ld_glob I gl hm ?_ hdb)⟩
  exact PySem.W.callWith_K0 I.kIn hk (run_call (us := []) G hr hg tk hb I .nil h)
end
end G4

namespace G4
open PySem PySem.Spec PyProof.Rows L2

section
variable {K : PySem.W.Frag} {g : Str → Option Addr} {RR : List Addr} {F H : Hp}
inductive Vws (K : PySem.W.Frag) (g : Str → Option Addr) (RR : List Addr) (F H : Hp) : List D → List V → Prop
  | nil : Vws K g RR F H [] []
  | cons {d : D} {v : V} {l : List D} {vs : List V} : Vw K g RR F H d v → Vws K g RR F H l vs → Vws K g RR F H (d :: l) (v :: vs)
theorem Vws.one {d : D} {vs : List V} (h : Vws K g RR F H [d] vs) : ∃ v, vs = [v] ∧ Vw K g RR F H d v := by
  cases h with
  | cons a r => cases r; exact ⟨_, rfl, a⟩
theorem Vws.two {d e : D} {vs : List V} (h : Vws K g RR F H [d, e] vs) : ∃ v u, vs = [v, u] ∧ Vw K g RR F H d v ∧ Vw K g RR F H e u := by
  cases h with
  | cons a r =>
    cases r with
    | cons c r => cases r; exact ⟨_, _, rfl, a, c⟩
end
def rBi (b : Bs) (B : Bi) : List V → Hp → VK → Prop := fun vs H Q => ∃ RR F xs res, Same F H ∧ Vws b.K b.g RR F H xs vs ∧ biSem B xs = some res ∧ ResOk b RR F H res Q
def Bi.val : Bi → Value
  | .len => .builtin "len" | .toInt => .type "int" | .abs => .builtin "abs" | .max2 => .builtin "max" | .min2 => .builtin "min" | .maxL => .builtin "max" | .minL => .builtin "min"
  | .sum => .builtin "sum" | .sorted => .builtin "sorted" | .all => .builtin "all" | .any => .builtin "any" | .list => .type "list" | .tuple => .type "tuple" | .repr => .builtin "repr" | .toStr => .type "str" | .set => .type "set"
def Bi.name : Bi → Str
  | .len => "len" | .toInt => "int" | .abs => "abs" | .max2 => "max" | .min2 => "min" | .maxL => "max" | .minL => "min"
  | .sum => "sum" | .sorted => "sorted" | .all => "all" | .any => "any" | .list => "list" | .tuple => "tuple" | .repr => "repr" | .toStr => "str" | .set => "set"
theorem Bi.boot : ∀ B : Bi, bootBuiltins B.name = some B.val := by
  intro B; cases B <;> decide +kernel
theorem isort_perm (l : List Int) : (isort l).Perm l := List.mergeSort_perm _ _
theorem isort_sorted (l : List Int) : (isort l).Pairwise (· ≤ ·) := by
  have h := List.pairwise_mergeSort (le := fun a b : Int => decide (a ≤ b)) (fun a b c h k => by simp at *; omega) (fun a b => by simp; omega) l
  exact h.imp fun q => by simpa using q
theorem isort_only {l m : List Int} (p : m.Perm l) (s : m.Pairwise (· ≤ ·)) : m = isort l :=
  (p.trans (isort_perm l).symm).eq_of_pairwise (fun a b _ _ h k => Int.le_antisymm h k) s (isort_sorted l)
theorem maxI_ge : ∀ (l : List Int) (a : Int), maxI a l ∈ a :: l ∧ ∀ y ∈ a :: l, y ≤ maxI a l
  | [], a => ⟨by simp [maxI], fun y h => by simp at h; simp [maxI, h]⟩
  | c :: l, a => by
    have ih := maxI_ge l (if c > a then c else a)
    simp only [maxI]
    refine ⟨?_, fun y h => ?_⟩
    · have h := ih.1
      split at h <;> simp only [List.mem_cons] at h ⊢ <;> rcases h with h | h <;> simp [*]
    · have h2 := ih.2
      split at h2 <;> simp only [List.mem_cons] at h
      all_goals
        rcases h with h | h | h
        · have := h2 _ List.mem_cons_self; subst h; split <;> omega
        · have := h2 _ List.mem_cons_self; subst h; split <;> omega
        · have := h2 y (List.mem_cons_of_mem _ h)
          split <;> omega
theorem minI_le : ∀ (l : List Int) (a : Int), minI a l ∈ a :: l ∧ ∀ y ∈ a :: l, minI a l ≤ y
  | [], a => ⟨by simp [minI], fun y h => by simp at h; simp [minI, h]⟩
  | c :: l, a => by
    have ih := minI_le l (if c < a then c else a)
    simp only [minI]
    refine ⟨?_, fun y h => ?_⟩
    · have h := ih.1
      split at h <;> simp only [List.mem_cons] at h ⊢ <;> rcases h with h | h <;> simp [*]
    · have h2 := ih.2
      split at h2 <;> simp only [List.mem_cons] at h
      all_goals
        rcases h with h | h | h
        · have := h2 _ List.mem_cons_self; subst h; split <;> omega
        · have := h2 _ List.mem_cons_self; subst h; split <;> omega
        · have := h2 y (List.mem_cons_of_mem _ h)
          split <;> omega
section
variable {X : Cx} {b : Bs} {Q : VK}
theorem repK_len {K : PySem.W.Frag} {g : Str → Option Addr} {RR : List Addr} {F : Hp} {l : List (Key × D)} {vs : List (Key × V)} (h : RepK K g RR F l vs) : l.length = vs.length := by
  induction l generalizing vs with
  | nil => cases h; rfl
  | cons d l ih =>
    cases h with
    | cons a b => rw [List.length_cons, List.length_cons, ih b]
theorem call_lenD : CallR X (.builtin "len") (fun xs H Q => ∃ a kvs, xs = [.ref a] ∧ Rd H a (.dK kvs) ∧ Q (.int (kvs.length : Nat)) H) := by
  intro pins s σ H xs us Q I rx h
  obtain ⟨a, kvs, rfl, hd, q⟩ := h
  rw [Vals.ref1 rx]
  exact d_len I hd fun t s' I' => ⟨.int (kvs.length : Nat), H, I', ⟨t, rfl⟩, q⟩
theorem ok_len (hK : b.K = X.K) : CallR X (.builtin "len") (rBi b .len) := by
  refine ((call_lenD (X := X)).or ((call_len_seq (X := X)).or call_len_str)).imp ?_
  rintro vs H Q ⟨RR, F, xs, res, e, hv, ho, q⟩
  simp only [biSem] at ho
  unfold biLen at ho
  split at ho
  · rename_i l
    obtain ⟨v, rfl, h⟩ := hv.one
    cases h with
    | lst h k => cases ho; exact .inr (.inl ⟨_, _, rfl, .inl (.inl (.inl h)), by rw [← k.len]; exact q.imm (.int _)⟩)
  · rename_i l
    obtain ⟨v, rfl, h⟩ := hv.one
    cases h with
    | scr h => cases ho; exact .inr (.inl ⟨_, _, rfl, .inl (hK ▸ h), by rw [List.length_map]; exact q.imm (.int _)⟩)
  · rename_i l
    obtain ⟨v, rfl, h⟩ := hv.one
    cases h with
    | tup h k => cases ho; exact .inr (.inl ⟨_, _, rfl, .inr (hK ▸ e.seqT h), by rw [← k.len]; exact q.imm (.int _)⟩)
  · rename_i x
    obtain ⟨v, rfl, h⟩ := hv.one
    split at ho
    · rename_i hl
      cases ho
      cases h
      exact .inr (.inr ⟨_, rfl, by rw [big_eq]; exact hl, q.imm (.int _)⟩)
    · cases ho
  · rename_i l
    obtain ⟨v, rfl, h⟩ := hv.one
    cases h with
    | dct h k => cases ho; exact .inl ⟨_, _, rfl, h, by rw [← repK_len k]; exact q.imm (.int _)⟩
  · cases ho
theorem ok_int : CallR X (.type "int") (rBi b .toInt) := by
  refine (call_int1 (X := X)).imp ?_
  rintro vs H Q ⟨RR, F, xs, res, e, hv, ho, q⟩
  simp only [biSem] at ho
  unfold biInt at ho
  split at ho
  · obtain ⟨v, rfl, h⟩ := hv.one
    cases h; cases ho
    exact .inl ⟨_, rfl, q.imm (.int _)⟩
  · obtain ⟨v, rfl, h⟩ := hv.one
    cases h; cases ho
    exact .inr ⟨_, rfl, q.imm (.int _)⟩
  · cases ho
theorem ok_abs : CallR X (.builtin "abs") (rBi b .abs) := by
  refine (call_abs (X := X)).imp ?_
  rintro vs H Q ⟨RR, F, xs, res, e, hv, ho, q⟩
  simp only [biSem] at ho
  unfold biAbs at ho
  split at ho
  · obtain ⟨v, rfl, h⟩ := hv.one
    cases h; cases ho
    exact ⟨_, rfl, q.imm (.int _)⟩
  · cases ho
theorem ok_max2 (hc : X.calm = true) : CallR X (.builtin "max") (rBi b .max2) := by
  refine (call_max2 (X := X) hc).imp ?_
  rintro vs H Q ⟨RR, F, xs, res, e, hv, ho, q⟩
  simp only [biSem] at ho
  unfold biMax2 at ho
  split at ho
  · obtain ⟨v, u, rfl, h, k⟩ := hv.two
    cases h; cases k; cases ho
    exact ⟨_, _, rfl, q.imm (.int _)⟩
  · cases ho
theorem ok_min2 (hc : X.calm = true) : CallR X (.builtin "min") (rBi b .min2) := by
  refine (call_min2 (X := X) hc).imp ?_
  rintro vs H Q ⟨RR, F, xs, res, e, hv, ho, q⟩
  simp only [biSem] at ho
  unfold biMin2 at ho
  split at ho
  · obtain ⟨v, u, rfl, h, k⟩ := hv.two
    cases h; cases k; cases ho
    exact ⟨_, _, rfl, q.imm (.int _)⟩
  · cases ho
theorem ok_maxL (hc : X.calm = true) : CallR X (.builtin "max") (rBi b .maxL) := by
  refine (cr_max (X := X) hc).imp ?_
  rintro vs H Q ⟨RR, F, xs, res, e, hv, ho, q⟩
  simp only [biSem] at ho
  unfold biMaxL at ho
  split at ho
  · obtain ⟨v, rfl, h⟩ := hv.one
    split at ho
    · rename_i i r hi
      cases ho
      cases h with
      | lst h k =>
        have e2 := k.toInts hi
        subst e2
        refine ⟨_, i :: r, rfl, .inl (.inl h), Nat.succ_pos _, fun m hm hy => ?_⟩
        obtain ⟨h1, h2⟩ := maxI_ge r i
        have e3 : m = maxI i r := Int.le_antisymm (h2 m hm) (hy _ h1)
        rw [e3]
        exact q.imm (.int _)
    · cases ho
  · cases ho
theorem ok_minL (hc : X.calm = true) : CallR X (.builtin "min") (rBi b .minL) := by
  refine (cr_min (X := X) hc).imp ?_
  rintro vs H Q ⟨RR, F, xs, res, e, hv, ho, q⟩
  simp only [biSem] at ho
  unfold biMinL at ho
  split at ho
  · obtain ⟨v, rfl, h⟩ := hv.one
    split at ho
    · rename_i i r hi
      cases ho
      cases h with
      | lst h k =>
        have e2 := k.toInts hi
        subst e2
        refine ⟨_, i :: r, rfl, .inl (.inl h), Nat.succ_pos _, fun m hm hy => ?_⟩
        obtain ⟨h1, h2⟩ := minI_le r i
        have e3 : m = minI i r := Int.le_antisymm (hy _ h1) (h2 m hm)
        rw [e3]
        exact q.imm (.int _)
    · cases ho
  · cases ho
theorem map_some {α β : Type} {o : Option α} {f : α → β} {y : β} (h : o.map f = some y) : ∃ x, o = some x ∧ y = f x := by
  cases o with
  | none => cases h
  | some x => cases h; exact ⟨x, rfl, rfl⟩
theorem ok_sum (hc : X.calm = true) : CallR X (.builtin "sum") (rBi b .sum) := by
  refine (cr_sum (X := X) hc).imp ?_
  rintro vs H Q ⟨RR, F, xs, res, e, hv, ho, q⟩
  simp only [biSem] at ho
  unfold biSum at ho
  split at ho
  · obtain ⟨v, rfl, h⟩ := hv.one
    obtain ⟨ns, hi, rfl⟩ := map_some ho
    cases h with
    | lst h k =>
      have e2 := k.toInts hi
      subst e2
      exact ⟨_, ns, rfl, .inl (.inl h), q.imm (.int _)⟩
  · cases ho
section
variable {K : PySem.W.Frag} {g : Str → Option Addr}
theorem RepK.look : ∀ {l : List (Key × D)} {vs : List (Key × V)}, RepK K g RR F l vs → ∀ k : Key, (∀ d, lookK l k = some d → ∃ v, valV vs k = some v ∧ Rep K g RR F d v) ∧ (lookK l k = none → valV vs k = none)
  | [], _, .nil, k => ⟨fun d h => (nomatch h), fun _ => rfl⟩
  | (k2, d2) :: l, _, .cons (v := v) (vs := vs) h r, k => by
    obtain ⟨i1, i2⟩ := RepK.look r k
    by_cases e : k2 = k
    · have e1 : lookK ((k2, d2) :: l) k = some d2 := by simp [lookK, List.find?_cons, e]
      have e2 : valV ((k2, v) :: vs) k = some v := valV_pos e
      exact ⟨fun d hd => by rw [e1] at hd; cases hd; exact ⟨v, e2, h⟩, fun hd => by rw [e1] at hd; cases hd⟩
    · have e1 : lookK ((k2, d2) :: l) k = lookK l k := by simp [lookK, List.find?_cons, e]
      have e2 : valV ((k2, v) :: vs) k = valV vs k := valV_neg e
      rw [e1, e2]
      exact ⟨i1, i2⟩
theorem RepK.anyK : ∀ {l : List (Key × D)} {vs : List (Key × V)}, RepK K g RR F l vs → ∀ k : Key, (l.any fun kv => decide (kv.1 = k)) = vs.any fun kv => decide (kv.1 = k)
  | [], _, .nil, k => rfl
  | (k2, d2) :: l, _, .cons h r, k => by rw [List.any_cons, List.any_cons, RepK.anyK r k]
theorem RepK.repl {d : D} {v : V} (hd : Rep K g RR F d v) : ∀ {l : List (Key × D)} {vs : List (Key × V)}, RepK K g RR F l vs → ∀ k : Key, RepK K g RR F (l.map fun kv => if kv.1 = k then (kv.1, d) else kv) (vs.map fun kv => if kv.1 = k then (kv.1, v) else kv)
  | [], _, .nil, k => .nil
  | (k2, d2) :: l, _, .cons h r, k => by
    rw [List.map_cons, List.map_cons]
    by_cases e : k2 = k
    · rw [if_pos e, if_pos e]; exact .cons hd (RepK.repl hd r k)
    · rw [if_neg e, if_neg e]; exact .cons h (RepK.repl hd r k)
theorem RepK.snoc {d : D} {v : V} {k : Key} (hd : Rep K g RR F d v) : ∀ {l : List (Key × D)} {vs : List (Key × V)}, RepK K g RR F l vs → RepK K g RR F (l ++ [(k, d)]) (vs ++ [(k, v)])
  | [], _, .nil => .cons hd .nil
  | (k2, d2) :: l, _, .cons h r => .cons h (RepK.snoc hd r)
theorem RepK.put {l : List (Key × D)} {vs : List (Key × V)} {d : D} {v : V} (h : RepK K g RR F l vs) (hd : Rep K g RR F d v) (k : Key) : RepK K g RR F (putD l k d) (putK vs k v) := by
  unfold putD putK
  rw [h.anyK k]
  split
  · exact h.repl hd k
  · exact h.snoc hd
theorem RepK.len {l : List (Key × D)} {vs : List (Key × V)} (h : RepK K g RR F l vs) : l.length = vs.length := by
  induction l generalizing vs with
  | nil => cases h; rfl
  | cons p l ih =>
    cases h with
    | cons h r => rw [List.length_cons, List.length_cons, ih r]
theorem key_vw {d : D} {v : V} {k : Key} (h : Vw K g RR F H d v) (e : keyOf d = some k) : v = kV k := by
  cases h <;> simp only [keyOf, reduceCtorEq, Option.some.injEq] at e <;> subst e <;> rfl
theorem key_rep {d : D} {v : V} {k : Key} (h : Rep K g RR F d v) (e : keyOf d = some k) : v = kV k := by
  cases h <;> simp only [keyOf, reduceCtorEq, Option.some.injEq] at e <;> subst e <;> rfl
end
theorem RepK.keysI {K : PySem.W.Frag} {g : Str → Option Addr} : ∀ {l : List (Key × D)} {vs : List (Key × V)} {ns : List Int}, RepK K g RR F l vs → keysI l = some ns → vs.map (·.1) = ns.map Sum.inl
  | [], _, _, .nil, e => by cases e; rfl
  | (.inl i, d) :: l, _, ns, .cons h r, e => by
    simp only [G4.keysI] at e
    obtain ⟨ms, h1, rfl⟩ := map_some e
    rw [List.map_cons, List.map_cons, RepK.keysI r h1]
  | (.inr i, d) :: l, _, ns, .cons h r, e => by simp [G4.keysI] at e
/-! ### sorted of tuples of ints -/
def topI : List Int → Int
  | [] => 0
  | a :: l => max a (topI l)
theorem topI_le : ∀ (l : List Int) (a : Int), a ∈ l → a ≤ topI l
  | [], a, h => by cases h
  | b :: l, a, h => by
    have ih := topI_le l a
    rw [topI]
    rcases List.mem_cons.mp h with rfl | h
    · omega
    · have := ih h; omega
theorem code_le {B : Int} : ∀ (n m : List Int), n.length = m.length → TS.Bd B n → TS.Bd B m → (TS.code B n ≤ TS.code B m ↔ tle n m = true)
  | [], [], _, _, _ => by simp [TS.code, tle]
  | [], _ :: _, h, _, _ => by cases h
  | _ :: _, [], h, _, _ => by cases h
  | a :: l, c :: m, h, h1, h2 => by
    have hl : l.length = m.length := by simpa using h
    have ih := code_le l m hl h1.tail h2.tail
    simp only [tle, Bool.or_eq_true, Bool.and_eq_true, decide_eq_true_eq]
    rcases Int.lt_trichotomy a c with z | z | z
    · have := TS.code_lt hl h1.tail h2.tail z
      constructor
      · intro _; exact .inl z
      · intro _; omega
    · subst z
      have e : TS.code B (a :: l) ≤ TS.code B (a :: m) ↔ TS.code B l ≤ TS.code B m := by
        have := TS.code_same (B := B) (d := a) hl.symm
        omega
      rw [e, ih]
      constructor
      · intro q; exact .inr ⟨rfl, q⟩
      · rintro (q | ⟨_, q⟩)
        · omega
        · exact q
    · have := TS.code_lt hl.symm h2.tail h1.tail z
      constructor
      · intro _; omega
      · rintro (q | ⟨q, _⟩) <;> omega
theorem tle_antisymm : ∀ (n m : List Int), tle n m = true → tle m n = true → n = m
  | [], [], _, _ => rfl
  | [], _ :: _, _, h => by cases h
  | _ :: _, [], h, _ => by cases h
  | a :: l, c :: m, h, k => by
    simp only [tle, Bool.or_eq_true, Bool.and_eq_true, decide_eq_true_eq] at h k
    rcases h with h | ⟨rfl, h⟩
    · rcases k with k | ⟨rfl, k⟩ <;> omega
    · rcases k with k | ⟨_, k⟩
      · omega
      · rw [tle_antisymm l m h k]
theorem tle_trans : ∀ (n m k : List Int), tle n m = true → tle m k = true → tle n k = true
  | [], _, _, _, _ => by simp [tle]
  | _ :: _, [], _, h, _ => by cases h
  | _ :: _, _ :: _, [], _, h => by cases h
  | a :: l, c :: m, e :: k, h1, h2 => by
    simp only [tle, Bool.or_eq_true, Bool.and_eq_true, decide_eq_true_eq] at h1 h2 ⊢
    rcases h1 with h1 | ⟨rfl, h1⟩
    · rcases h2 with h2 | ⟨rfl, h2⟩
      · left; omega
      · left; exact h1
    · rcases h2 with h2 | ⟨rfl, h2⟩
      · left; exact h2
      · right; exact ⟨rfl, tle_trans l m k h1 h2⟩
theorem tle_total : ∀ (n m : List Int), (tle n m || tle m n) = true
  | [], _ => by simp [tle]
  | _ :: _, [] => by simp [tle]
  | a :: l, c :: m => by
    have ih := tle_total l m
    simp only [tle, Bool.or_eq_true, Bool.and_eq_true, decide_eq_true_eq] at ih ⊢
    rcases Int.lt_trichotomy a c with z | z | z
    · left; left; exact z
    · subst z
      rcases ih with ih | ih
      · left; right; exact ⟨rfl, ih⟩
      · right; right; exact ⟨rfl, ih⟩
    · right; left; exact z
theorem tsort_only {l m : List (List Int)} (p : m.Perm l) (s : m.Pairwise fun a c => tle a c = true) : m = tsort l :=
  (p.trans (List.mergeSort_perm l tle).symm).eq_of_pairwise (fun a c _ _ h k => tle_antisymm a c h k) s (List.pairwise_mergeSort (le := tle) tle_trans tle_total l)
theorem perm_map {α β : Type} (f : α → β) : ∀ {l m : List β}, l.Perm m → ∀ (m' : List α), m'.map f = m → ∃ l' : List α, l'.Perm m' ∧ l'.map f = l := by
  intro l m p
  induction p with
  | nil => intro m' h; exact ⟨m', .refl _, h⟩
  | cons x p ih =>
    intro m' h
    cases m' with
    | nil => cases h
    | cons a m' =>
      rw [List.map_cons] at h
      cases h
      obtain ⟨l', h1, h2⟩ := ih m' rfl
      exact ⟨a :: l', h1.cons a, by rw [List.map_cons, h2]⟩
  | swap x y l =>
    intro m' h
    cases m' with
    | nil => cases h
    | cons a m' =>
      cases m' with
      | nil => cases h
      | cons c m' =>
        rw [List.map_cons, List.map_cons] at h
        cases h
        exact ⟨c :: a :: m', .swap .., rfl⟩
  | trans p q ih1 ih2 =>
    intro m' h
    obtain ⟨l1, h1, h2⟩ := ih2 m' h
    obtain ⟨l2, h3, h4⟩ := ih1 l1 h2
    exact ⟨l2, h3.trans h1, h4⟩
theorem intsD_inv : ∀ {l : List D} {ns : List Int}, intsD l = some ns → l = ns.map .int
  | [], ns, h => by cases h; rfl
  | .int i :: l, ns, h => by
    simp only [intsD] at h
    obtain ⟨m, h1, rfl⟩ := map_some h
    rw [List.map_cons, intsD_inv h1]
  | .non :: _, _, h => by simp [intsD] at h
  | .bl _ :: _, _, h => by simp [intsD] at h
  | .str _ :: _, _, h => by simp [intsD] at h
  | .tup _ :: _, _, h => by simp [intsD] at h
  | .lst _ :: _, _, h => by simp [intsD] at h
  | .dct _ :: _, _, h => by simp [intsD] at h
  | .kys _ :: _, _, h => by simp [intsD] at h
  | .obj _ :: _, _, h => by simp [intsD] at h
  | .fn _ :: _, _, h => by simp [intsD] at h
  | .scr _ :: _, _, h => by simp [intsD] at h
theorem tupsD_inv : ∀ {l : List D} {ns : List (List Int)}, tupsD l = some ns → l = ns.map tupD
  | [], ns, h => by cases h; rfl
  | .tup t :: l, ns, h => by
    simp only [tupsD] at h
    obtain ⟨n, h1, h2⟩ := Option.bind_eq_some_iff.mp h
    obtain ⟨m, h3, rfl⟩ := map_some h2
    rw [List.map_cons, tupsD_inv h3, tupD, intsD_inv h1]
  | .non :: _, _, h => by simp [tupsD] at h
  | .bl _ :: _, _, h => by simp [tupsD] at h
  | .str _ :: _, _, h => by simp [tupsD] at h
  | .int _ :: _, _, h => by simp [tupsD] at h
  | .lst _ :: _, _, h => by simp [tupsD] at h
  | .dct _ :: _, _, h => by simp [tupsD] at h
  | .kys _ :: _, _, h => by simp [tupsD] at h
  | .obj _ :: _, _, h => by simp [tupsD] at h
  | .fn _ :: _, _, h => by simp [tupsD] at h
  | .scr _ :: _, _, h => by simp [tupsD] at h
/-- values and the tuples that stand there -/
theorem reps_zip {K : PySem.W.Frag} {g : Str → Option Addr} {RR : List Addr} {F : Hp} : ∀ {ns : List (List Int)} {vs : List V}, Reps K g RR F (ns.map tupD) vs → ∃ zs : List (V × List Int), zs.map (·.1) = vs ∧ zs.map (·.2) = ns ∧ ∀ z ∈ zs, TupI K F z.1 z.2 ∧ Rep K g RR F (tupD z.2) z.1
  | [], _, h => by cases h; exact ⟨[], rfl, rfl, fun z q => by cases q⟩
  | n :: ns, vs, h => by
    rw [List.map_cons] at h
    cases h with
    | @cons d v l vs a t =>
      obtain ⟨zs, h1, h2, h3⟩ := reps_zip t
      refine ⟨(v, n) :: zs, by rw [List.map_cons, h1], by rw [List.map_cons, h2], fun z q => ?_⟩
      rcases List.mem_cons.mp q with rfl | q
      · refine ⟨?_, a⟩
        unfold tupD at a
        cases a with
        | @tup _ ad ws hs k =>
          have e := k.toInts (ns := n) (by
            clear h1 h2 h3 hs k q
            induction n with
            | nil => rfl
            | cons i n ih => rw [List.map_cons, intsD, ih]; rfl)
          subst e
          exact ⟨_, rfl, hs⟩
      · exact h3 z q
theorem zip_reps {K : PySem.W.Frag} {g : Str → Option Addr} {RR : List Addr} {F : Hp} : ∀ (zs : List (V × List Int)), (∀ z ∈ zs, Rep K g RR F (tupD z.2) z.1) → Reps K g RR F ((zs.map (·.2)).map tupD) (zs.map (·.1))
  | [], _ => .nil
  | z :: zs, h => .cons (h z (List.mem_cons_self ..)) (zip_reps zs fun y q => h y (List.mem_cons_of_mem _ q))
theorem ok_sortT {K : PySem.W.Frag} {ns : List (List Int)} (h : okT (ns.headD []).length ns = true) : 1 ≤ (ns.headD []).length ∧ ns.length < 64 ∧ ∀ n ∈ ns, n.length = (ns.headD []).length ∧ TS.Bd (topI ns.flatten + 1) n := by
  unfold okT at h
  simp only [Bool.and_eq_true, decide_eq_true_eq, List.all_eq_true] at h
  refine ⟨h.1.1, h.1.2, fun n hn => ⟨(h.2 n hn).1, fun m hm => ⟨(h.2 n hn).2 m hm, ?_⟩⟩⟩
  have := topI_le ns.flatten m (List.mem_flatten.mpr ⟨n, hn, hm⟩)
  omega
def rSortAny (b : Bs) : List V → Hp → VK → Prop := fun vs H Q => ∃ RR F l ns res, Same F H ∧ Vws b.K b.g RR F H [.lst l] vs ∧ tupsD l = some ns ∧ sortT ns = some res ∧ ResOk b RR F H res Q
theorem ok_sortAny (hK : b.K = X.K) : CallR X (.builtin "sorted") (rSortAny b) := by
  intro pins s σ H vs us Q I r h
  obtain ⟨RR, F, l, ns, res, e, hv, ht, hs, q⟩ := h
  obtain ⟨v, rfl, h⟩ := hv.one
  unfold sortT at hs
  split at hs
  · rename_i hok
    cases hs
    obtain ⟨d1, d2, d3⟩ := ok_sortT (K := X.K) hok
    have el := tupsD_inv ht
    subst el
    cases h with
    | @lst _ a vs h k =>
      obtain ⟨zs, z1, z2, z3⟩ := reps_zip k
      have hT : ∀ z ∈ zs, TupI X.K H z.1 z.2 := fun z hz => by
        obtain ⟨t, e1, e2⟩ := (z3 z hz).1
        exact ⟨t, e1, hK ▸ e.seqT e2⟩
      refine cr_sortT (X := X) (d := (ns.headD []).length) (B := topI ns.flatten + 1) d1 pins s σ H [.ref a] us Q I r ⟨a, vs, rfl, .inl (.inl h), ?_, fun x hx => ?_, fun ys p hp hpw hn => ?_⟩
      · rw [← z1, List.length_map, ← List.length_map (f := fun z : V × List Int => z.2), z2]; exact d2
      · rw [← z1] at hx
        obtain ⟨z, hz, rfl⟩ := List.mem_map.mp hx
        refine ⟨z.2, hT z hz, d3 z.2 ?_⟩
        rw [← z2]; exact List.mem_map.mpr ⟨z, hz, rfl⟩
      · obtain ⟨ws, w1, w2⟩ := perm_map (fun z : V × List Int => z.1) hp zs z1
        have hw : ∀ z ∈ ws, z ∈ zs := fun z hz => w1.mem_iff.mp hz
        have e5 : ws.map (·.2) = tsort ns := by
          refine tsort_only (by rw [← z2]; exact w1.map _) ?_
          rw [← w2, List.pairwise_map] at hpw
          rw [List.pairwise_map]
          refine hpw.imp_of_mem fun {x y} hx hy hc => ?_
          have m1 : x.2 ∈ ns := by rw [← z2]; exact List.mem_map.mpr ⟨x, hw x hx, rfl⟩
          have m2 : y.2 ∈ ns := by rw [← z2]; exact List.mem_map.mpr ⟨y, hw y hy, rfl⟩
          exact (code_le x.2 y.2 (by rw [(d3 _ m1).1, (d3 _ m2).1]) (d3 _ m1).2 (d3 _ m2).2).mp (hc _ _ (hT x (hw x hx)) (hT y (hw y hy)))
        have e6 := zip_reps (K := b.K) (g := b.g) (RR := RR) (F := F) ws fun z hz => (z3 z (hw z hz)).2
        rw [e5, w2] at e6
        exact q.lst e6 p hn
  · cases hs
end
/-! ### tuples of ints and texts, sorted -/
theorem itX_inj : ∀ {a b : D} {k : Int ⊕ List Nat}, itX a = some k → itX b = some k → a = b := by
  intro a b k ha hb
  cases a <;> simp only [itX, Option.some.injEq, reduceCtorEq] at ha
  · cases b <;> simp only [itX, Option.some.injEq, reduceCtorEq] at hb
    · subst ha; rw [Sum.inl.inj hb]
    · subst ha; cases hb
  · cases b <;> simp only [itX, Option.some.injEq, reduceCtorEq] at hb
    · subst ha; cases hb
    · subst ha
      rename_i x y
      obtain ⟨x⟩ := x
      obtain ⟨y⟩ := y
      have := Array.toList_inj.mp (Sum.inr.inj hb)
      simp only at this
      rw [this]
theorem itsX_inj : ∀ {l m : List D} {k : List (Int ⊕ List Nat)}, itsX l = some k → itsX m = some k → l = m
  | [], [], _, _, _ => rfl
  | [], d :: m, k, hl, hm => by
    cases hl
    simp only [itsX] at hm
    obtain ⟨x, _, h⟩ := Option.bind_eq_some_iff.mp hm
    obtain ⟨y, _, z⟩ := Option.map_eq_some_iff.mp h
    cases z
  | d :: l, [], k, hl, hm => by
    cases hm
    simp only [itsX] at hl
    obtain ⟨x, _, h⟩ := Option.bind_eq_some_iff.mp hl
    obtain ⟨y, _, z⟩ := Option.map_eq_some_iff.mp h
    cases z
  | d :: l, e :: m, k, hl, hm => by
    simp only [itsX] at hl hm
    obtain ⟨x, h1, h⟩ := Option.bind_eq_some_iff.mp hl
    obtain ⟨y, h2, z⟩ := Option.map_eq_some_iff.mp h
    obtain ⟨x', g1, g⟩ := Option.bind_eq_some_iff.mp hm
    obtain ⟨y', g2, z'⟩ := Option.map_eq_some_iff.mp g
    subst z
    injection z' with z1 z2
    subst z1 z2
    rw [itX_inj h1 g1, itsX_inj h2 g2]
theorem keyX_inj {a b : D} {k : List (Int ⊕ List Nat)} (ha : keyX a = some k) (hb : keyX b = some k) : a = b := by
  cases a <;> simp only [keyX, reduceCtorEq] at ha
  cases b <;> simp only [keyX, reduceCtorEq] at hb
  rw [itsX_inj ha hb]
abbrev lxX := PyProof.Rows.lexLt PyProof.Rows.itemOrd
theorem leX_trans (a b c : D) (h1 : leX a b = true) (h2 : leX b c = true) : leX a c = true := by
  unfold leX at *
  cases q : PyProof.Rows.lexLt PyProof.Rows.itemOrd (kX c) (kX a) with
  | false => rfl
  | true =>
    rcases PyProof.Rows.lex_negTrans (O := PyProof.Rows.itemOrd) (kX c) (kX b) (kX a) q with z | z
    · rw [z] at h2; cases h2
    · rw [z] at h1; cases h1
theorem leX_total (a b : D) : (leX a b || leX b a) = true := by
  unfold leX
  cases q : PyProof.Rows.lexLt PyProof.Rows.itemOrd (kX b) (kX a) with
  | false => rfl
  | true =>
    cases z : PyProof.Rows.lexLt PyProof.Rows.itemOrd (kX a) (kX b) with
    | false => rfl
    | true =>
      have := PyProof.Rows.lex_trans (O := PyProof.Rows.itemOrd) _ _ _ q z
      rw [PyProof.Rows.lex_irrefl] at this
      cases this
theorem leX_anti {a b : D} (ha : keyX a ≠ none) (hb : keyX b ≠ none) (h1 : leX a b = true) (h2 : leX b a = true) : a = b := by
  unfold leX at h1 h2
  rw [Bool.not_eq_true'] at h1 h2
  have := PyProof.Rows.lex_total (O := PyProof.Rows.itemOrd) _ _ h1 h2
  cases qa : keyX a with
  | none => exact absurd qa ha
  | some x =>
    cases qb : keyX b with
    | none => exact absurd qb hb
    | some y =>
      unfold kX at this
      rw [qa, qb] at this
      have e : y = x := this
      subst e
      exact keyX_inj qa qb
theorem xsort_only {l m : List D} (hk : ∀ d ∈ l, keyX d ≠ none) (p : m.Perm l) (s : m.Pairwise fun a b => leX a b = true) : m = xsort l :=
  (p.trans (List.mergeSort_perm l leX).symm).eq_of_pairwise (fun a c ha hc h k => leX_anti (hk a (p.mem_iff.mp ha)) (hk c ((List.mergeSort_perm l leX).mem_iff.mp hc)) h k) s (List.pairwise_mergeSort (le := leX) leX_trans leX_total l)
theorem swoX (f : Value → List (Int ⊕ List Nat)) : SrtO.Swo fun v u => PyProof.Rows.lexLt PyProof.Rows.itemOrd (f v) (f u) := by
  refine ⟨fun x y h => ?_, fun x y z h1 h2 => ?_⟩
  · cases q : PyProof.Rows.lexLt PyProof.Rows.itemOrd (f y) (f x) with
    | false => rfl
    | true =>
      have := PyProof.Rows.lex_trans (O := PyProof.Rows.itemOrd) _ _ _ q h
      rw [PyProof.Rows.lex_irrefl] at this
      cases this
  · cases q : PyProof.Rows.lexLt PyProof.Rows.itemOrd (f z) (f x) with
    | false => rfl
    | true =>
      rcases PyProof.Rows.lex_negTrans (O := PyProof.Rows.itemOrd) (f z) (f y) (f x) q with w | w
      · exact w ▸ h2
      · exact w ▸ h1
/-- the items of a tuple as keys -/
theorem items_X {K : PySem.W.Frag} {g : Str → Option Addr} {RR : List Addr} {F : Hp} {shape : Nat → Bool} : ∀ (ds : List D) (vs : List V) (us : List Value) (k : List (Int ⊕ List Nat)) (i : Nat), Reps K g RR F ds vs → Vals vs us → itsX ds = some k →
    (∀ (j : Nat) (c : Bool), (shX k)[j]? = some c → shape (i + j) = c) → PyProof.Rows.tupItems shape i us = some k
  | [], _, _, k, i, .nil, .nil, h, _ => by cases h; rfl
  | d :: ds, _, _, k, i, .cons a t, .cons r rr, h, hs => by
    simp only [itsX] at h
    obtain ⟨x, h1, h2⟩ := Option.bind_eq_some_iff.mp h
    obtain ⟨y, h3, z⟩ := Option.map_eq_some_iff.mp h2
    subst z
    have ih := items_X ds _ _ y (i + 1) t rr h3 fun j c hj => by
      have := hs (j + 1) c (by simpa [shX] using hj)
      rw [show i + 1 + j = i + (j + 1) by omega]; exact this
    have h0 := hs 0 x.isRight (by simp [shX])
    rw [Nat.add_zero] at h0
    cases d <;> simp only [itX, Option.some.injEq, reduceCtorEq] at h1
    · subst h1
      cases a
      obtain ⟨t, rfl⟩ := r
      have h0 : shape i = false := h0
      simp only [PyProof.Rows.tupItems, h0, ih, Bool.false_eq_true, if_false, Option.map_some]
    · subst h1
      cases a
      obtain ⟨t, rfl⟩ := r
      have h0 : shape i = true := h0
      simp only [PyProof.Rows.tupItems, h0, ih, if_true, Option.map_some]
/-- a tuple that stands there -/
def AtX (h : Heap) (shape : Nat → Bool) (d : D) (u : Value) : Prop := ∃ t o xs n k, u = .ref t ∧ h.get? t = some o ∧ o.cls = .type "tuple" ∧ o.data = .seq xs n ∧ PyProof.Rows.tupItems shape 0 xs.toList = some k ∧ keyX d = some k ∧ k ≠ []
theorem AtX.keep {h h' : Heap} {shape : Nat → Bool} {d : D} {u : Value} (x : AtX h shape d u) (k : ∀ b o, h.get? b = some o → o.cls = .type "tuple" → h'.get? b = some o) : AtX h' shape d u := by
  obtain ⟨t, o, xs, n, kk, e, ho, hc, r⟩ := x
  exact ⟨t, o, xs, n, kk, e, k _ _ ho hc, hc, r⟩
theorem AtX.key {h : Heap} {shape : Nat → Bool} {d : D} {u : Value} (x : AtX h shape d u) : PyProof.Rows.tupKey h shape u = keyX d := by
  obtain ⟨t, o, xs, n, kk, rfl, ho, hc, hd, hi, hk, _⟩ := x
  rw [hk]
  simp only [PyProof.Rows.tupKey, ho, hd, hi]
theorem AtX.first {h : Heap} {shape : Nat → Bool} {d : D} {u : Value} (x : AtX h shape d u) : ∃ f, PyProof.Rows.TupOf h shape u f := by
  obtain ⟨t, o, xs, n, kk, rfl, ho, hc, hd, hi, hk, hne⟩ := x
  cases q : xs.toList with
  | nil =>
    rw [q] at hi
    cases hi
    exact absurd rfl hne
  | cons f r =>
    rw [q] at hi
    have hf : xs[0]? = some f := by rw [← Array.getElem?_toList, q]; rfl
    refine ⟨f, t, o, xs, n, rfl, ho, hc, hd, hf, fun hs => ?_, fun hs => ?_⟩
    · obtain ⟨m, tk, l', e, _⟩ := PyProof.Rows.tupItems_int hs hi
      exact ⟨m, tk, e⟩
    · obtain ⟨m, tk, l', e, _⟩ := PyProof.Rows.tupItems_str hs hi
      exact ⟨m, tk, e⟩
theorem tupsOf_X {h : Heap} {shape : Nat → Bool} : ∀ (us : List Value), (∀ u ∈ us, ∃ d, AtX h shape d u) → ∃ fs, PyProof.Rows.TupsOf h shape us fs ∧ fs.length = us.length
  | [], _ => ⟨[], .nil, rfl⟩
  | u :: us, hu => by
    obtain ⟨d, x⟩ := hu u List.mem_cons_self
    obtain ⟨f, hf⟩ := x.first
    obtain ⟨fs, h1, h2⟩ := tupsOf_X us fun v hv => hu v (List.mem_cons_of_mem _ hv)
    exact ⟨f :: fs, .cons hf h1, by rw [List.length_cons, List.length_cons, h2]⟩
theorem cmp_X {prog : Program} {w : World} {A : Around} {s : Shared} {h0 : Heap} {shape : Nat → Bool} {us : List Value} (hu : ∀ u ∈ us, ∃ d, AtX s.heap shape d u ∧ PyProof.Rows.tupKey h0 shape u = keyX d) :
    SrtO.Cmp prog w A s (PyProof.Rows.tuples' true) (fun p => p.1 ∈ us) (SrtO.lt2 fun v u => PyProof.Rows.lexLt PyProof.Rows.itemOrd ((PyProof.Rows.tupKey h0 shape v).getD []) ((PyProof.Rows.tupKey h0 shape u).getD [])) := by
  intro p q hm hm'
  obtain ⟨d, x, e⟩ := hu _ hm
  obtain ⟨d', x', e'⟩ := hu _ hm'
  have k1 := x.key
  have k2 := x'.key
  obtain ⟨_, _, _, _, k, _, _, _, _, _, hk, _⟩ := x
  obtain ⟨_, _, _, _, k', _, _, _, _, _, hk', _⟩ := x'
  refine PyProof.Rows.tup_ltAt (shape := shape) true A _ p.1 q.1 k k' (k1.trans hk) (k2.trans hk') ⟨rfl, ?_⟩
  show PyProof.Rows.lexLt PyProof.Rows.itemOrd k k' = PyProof.Rows.lexLt PyProof.Rows.itemOrd ((PyProof.Rows.tupKey h0 shape p.1).getD []) ((PyProof.Rows.tupKey h0 shape q.1).getD [])
  rw [e, e', hk, hk']
  rfl
theorem zip_X {K : PySem.W.Frag} {g : Str → Option Addr} {RR : List Addr} {F : Hp} : ∀ (l : List D) (vs : List V) (us : List Value), Reps K g RR F l vs → Vals vs us → ∃ Z : List (D × Value), Z.map (·.1) = l ∧ Z.map (·.2) = us ∧ ∀ z ∈ Z, ∃ v, Rep K g RR F z.1 v ∧ RelV v z.2
  | [], _, _, .nil, .nil => ⟨[], rfl, rfl, fun z q => by cases q⟩
  | d :: l, _, _, .cons a t, .cons r rr => by
    obtain ⟨Z, h1, h2, h3⟩ := zip_X l _ _ t rr
    refine ⟨(d, _) :: Z, by rw [List.map_cons, h1], by rw [List.map_cons, h2], fun z q => ?_⟩
    rcases List.mem_cons.mp q with rfl | q
    · exact ⟨_, a, r⟩
    · exact h3 z q
theorem reps_X {K : PySem.W.Frag} {g : Str → Option Addr} {RR : List Addr} {F : Hp} : ∀ Z : List (D × Value), (∀ z ∈ Z, Rep K g RR F z.1 (bkV z.2)) → Reps K g RR F (Z.map (·.1)) ((Z.map (·.2)).map bkV)
  | [], _ => .nil
  | z :: Z, h => .cons (h z List.mem_cons_self) (reps_X Z fun y hy => h y (List.mem_cons_of_mem _ hy))
section
variable {X : Cx} {b : Bs}
def rSortX (b : Bs) : List V → Hp → VK → Prop := fun vs H Q => ∃ RR F l res, Same F H ∧ Vws b.K b.g RR F H [.lst l] vs ∧ sortX l = some res ∧ ResOk b RR F H res Q
theorem ok_sortX (hK : b.K = X.K) : CallR X (.builtin "sorted") (rSortX b) := by
  intro pins s σ H vs us Q I r h
  obtain ⟨RR, F, l, res, e, hv, hs, q⟩ := h
  obtain ⟨v, rfl, h⟩ := hv.one
  unfold sortX at hs
  split at hs
  · rename_i hok
    cases hs
    cases h with
    | @lst _ a xs h k =>
      obtain ⟨its, rv, hl, hz⟩ := I.list (.inl (.inl h))
      rw [Vals.ref1 r]
      obtain ⟨Z, z1, z2, z3⟩ := zip_X l xs its k rv
      unfold okX at hok
      rw [Bool.and_eq_true, List.all_eq_true] at hok
      obtain ⟨o1, o2⟩ := hok
      obtain ⟨shape, hshape⟩ : ∃ shape : Nat → Bool, ∀ i, shape i = (shX (kX (l.headD .non))).getD i false := ⟨_, fun i => rfl⟩
      generalize shX (kX (l.headD .non)) = sh at o1 o2 hshape
      have at0 : ∀ z ∈ Z, AtX s.heap shape z.1 z.2 ∧ Rep b.K b.g RR F z.1 (bkV z.2) := by
        rintro ⟨d, u⟩ hzm
        obtain ⟨v, hr, ru⟩ := z3 _ hzm
        have hm : d ∈ l := by rw [← z1]; exact List.mem_map.mpr ⟨_, hzm, rfl⟩
        have ho := o2 _ hm
        cases hk : keyX d with
        | none => rw [hk] at ho; cases ho
        | some kk =>
          rw [hk] at ho
          have hsh : shX kk = sh := of_decide_eq_true ho
          have hne : kk ≠ [] := fun z => by
            subst z
            rw [← hsh] at o1
            cases o1
          cases d <;> simp only [keyX, reduceCtorEq] at hk
          rename_i ds
          cases hr with
          | @tup _ t ws hq rs =>
            obtain rfl : u = Value.ref t := ru
            obtain ⟨its', rv', hT, _⟩ := I.tuple (hK ▸ e.seqT hq)
            obtain ⟨o, ho', hc, n, hd⟩ := (show s.heap.IsTuple t its'.toArray from hT)
            refine ⟨⟨t, o, _, n, kk, rfl, ho', hc, hd, ?_, hk, hne⟩, .tup hq rs⟩
            have := items_X (shape := shape) ds ws its' kk 0 rs rv' hk fun j c hj => by
              rw [Nat.zero_add, hshape, ← hsh, List.getD_eq_getElem?_getD, hj]; rfl
            simpa using this
      refine SrtO.sorted_ord (ltv := fun v u => PyProof.Rows.lexLt PyProof.Rows.itemOrd ((PyProof.Rows.tupKey s.heap shape v).getD []) ((PyProof.Rows.tupKey s.heap shape u).getD [])) (swoX fun v => (PyProof.Rows.tupKey s.heap shape v).getD []) hl.isList (by rw [← rv.length]; exact hz) (fun h2 h₁ a' ha kk => ?_) fun out hs hb => ?_
      · intro h' keep
        have ax : ∀ u ∈ its, ∃ d, AtX h' shape d u ∧ PyProof.Rows.tupKey s.heap shape u = keyX d := fun u hu => by
          rw [← z2] at hu
          obtain ⟨z, hzm, rfl⟩ := List.mem_map.mp hu
          have x := (at0 z hzm).1
          refine ⟨z.1, x.keep fun b o hb _ => ?_, x.key⟩
          obtain ⟨n1, n2⟩ := kk b o hb
          exact keep b o n1 n2
        refine ⟨PyProof.Rows.tuples' true, fun Q E hq => ?_, cmp_X (s := { s with heap := h' }) ax⟩
        obtain ⟨fs, g1, g2⟩ := tupsOf_X (h := h') (shape := shape) its fun u hu => let ⟨d, x, _⟩ := ax u hu; ⟨d, x⟩
        exact PyProof.Rows.tup_kind (s := { s with heap := h' }) (by omega) g1 hq
      · obtain ⟨Z', w1, w2⟩ := perm_map (fun z : D × Value => z.2) hb.perm Z z2
        have hw : ∀ z ∈ Z', z ∈ Z := fun z hz => w1.mem_iff.mp hz
        have e5 : Z'.map (·.1) = xsort l := by
          refine xsort_only (fun d hd => ?_) (by rw [← z1]; exact w1.map _) ?_
          · rw [← z1] at hd
            obtain ⟨z, hzm, rfl⟩ := List.mem_map.mp hd
            obtain ⟨_, _, _, _, _, _, _, _, _, _, hk, _⟩ := (at0 z hzm).1
            rw [hk]; exact fun z => by cases z
          · rw [List.pairwise_map]
            rw [← w2] at hs
            have hs := List.pairwise_map.mp hs
            refine hs.imp_of_mem fun {x y} hx hy hc => ?_
            have k1 := (at0 x (hw x hx)).1.key
            have k2 := (at0 y (hw y hy)).1.key
            have hc : PyProof.Rows.lexLt PyProof.Rows.itemOrd ((PyProof.Rows.tupKey s.heap shape y.2).getD []) ((PyProof.Rows.tupKey s.heap shape x.2).getD []) = false := hc
            rw [k1, k2] at hc
            show (!PyProof.Rows.lexLt PyProof.Rows.itemOrd (kX y.1) (kX x.1)) = true
            unfold kX
            rw [hc]; rfl
        have e6 := reps_X Z' fun z hz => (at0 z (hw z hz)).2
        rw [e5, w2] at e6
        obtain ⟨ep, he'⟩ := PyProof.Rows.sortedAll_at s.heap its out.toArray
        have h3 : ∀ u ∈ out, ∃ a, u = Value.ref a := fun u hu => by
          have hu := hb.perm.mem_iff.mp hu
          rw [← z2] at hu
          obtain ⟨z, hzm, rfl⟩ := List.mem_map.mp hu
          obtain ⟨t, _, _, _, _, e7, _⟩ := (at0 z hzm).1
          exact ⟨t, e7⟩
        have hlen : (out.map bkV).length ≤ sizeLine := by
          rw [List.length_map, hb.perm.length_eq, ← rv.length]; exact hz
        refine ⟨.ref _, upd H (s.heap.objs.size + 1) (.lst (out.map bkV)), I.laid (t' := s.toks) (fun _ _ => PyProof.Rows.sortedAll_old) (Nat.le_succ _) ⟨hlen, out, ep, bkV_vals h3, he'⟩, rfl, q.lst e6 _ (I.hok.fresh (Nat.le_succ _))⟩
  · cases hs
end
section
variable {X : Cx} {b : Bs}
theorem ok_sorted (hK : b.K = X.K) (hc : X.calm = true) : CallR X (.builtin "sorted") (rBi b .sorted) := by
  refine ((ok_sortX hK).or ((ok_sortAny hK).or ((cr_sortedI (X := X)).or (call_sortedDI hc)))).imp ?_
  rintro vs H Q ⟨RR, F, xs, res, e, hv, ho, q⟩
  simp only [biSem] at ho
  unfold biSorted at ho
  split at ho
  · rename_i l
    obtain ⟨v, rfl, h⟩ := hv.one
    cases hk : G4.keysI l with
    | none => rw [hk] at ho; cases ho
    | some ns =>
      rw [hk, Option.bind_some] at ho
      split at ho
      · rename_i hlt
        cases ho
        cases h with
        | dct h k =>
          refine .inr (.inr (.inr ⟨_, _, ns, rfl, h, k.keysI hk, hlt, fun ms p h1 h2 h3 => ?_⟩))
          rw [isort_only h1 h2]
          exact q.lst (.ofInts _) p h3
      · cases ho
  · rename_i l
    unfold sortL at ho
    split at ho
    · rename_i ns hi
      cases ho
      obtain ⟨v, rfl, h⟩ := hv.one
      cases h with
      | lst h k =>
        have e2 := k.toInts hi
        subst e2
        refine .inr (.inr (.inl ⟨_, ns, rfl, .inl (.inl h), fun ms p h1 h2 h3 => ?_⟩))
        rw [isort_only h1 h2]
        exact q.lst (.ofInts _) p h3
    · split at ho
      · rename_i ns h1
        exact .inr (.inl ⟨RR, F, l, ns, res, e, hv, h1, ho, q⟩)
      · exact .inl ⟨RR, F, l, res, e, hv, ho, q⟩
  · cases ho
theorem ok_all (hc : X.calm = true) : CallR X (.builtin "all") (rBi b .all) := by
  refine (cr_all (X := X) hc).imp ?_
  rintro vs H Q ⟨RR, F, xs, res, e, hv, ho, q⟩
  simp only [biSem] at ho
  unfold biAll at ho
  split at ho
  · obtain ⟨v, rfl, h⟩ := hv.one
    obtain ⟨ns, hi, rfl⟩ := map_some ho
    cases h with
    | lst h k =>
      have e2 := k.toBls hi
      subst e2
      exact ⟨_, ns, rfl, .inl (.inl h), q.imm (.bl _)⟩
  · cases ho
theorem ok_any (hc : X.calm = true) : CallR X (.builtin "any") (rBi b .any) := by
  refine (cr_any (X := X) hc).imp ?_
  rintro vs H Q ⟨RR, F, xs, res, e, hv, ho, q⟩
  simp only [biSem] at ho
  unfold biAny at ho
  split at ho
  · obtain ⟨v, rfl, h⟩ := hv.one
    obtain ⟨ns, hi, rfl⟩ := map_some ho
    cases h with
    | lst h k =>
      have e2 := k.toBls hi
      subst e2
      exact ⟨_, ns, rfl, .inl (.inl h), q.imm (.bl _)⟩
  · cases ho
theorem ok_list (hK : b.K = X.K) : CallR X (.type "list") (rBi b .list) := by
  refine (call_list_of (X := X)).imp ?_
  rintro vs H Q ⟨RR, F, xs, res, e, hv, ho, q⟩
  simp only [biSem] at ho
  unfold biList at ho
  split at ho
  · obtain ⟨v, rfl, h⟩ := hv.one
    cases ho
    cases h with
    | lst h k => exact ⟨_, _, rfl, .inl (.inl (.inl h)), q.lst k⟩
  · obtain ⟨v, rfl, h⟩ := hv.one
    cases ho
    cases h with
    | tup h k => exact ⟨_, _, rfl, .inr (hK ▸ e.seqT h), q.lst k⟩
  · cases ho
theorem ok_tuple (hK : b.K = X.K) : CallR X (.type "tuple") (rBi b .tuple) := by
  refine (call_tuple_of (X := X)).imp ?_
  rintro vs H Q ⟨RR, F, xs, res, e, hv, ho, q⟩
  simp only [biSem] at ho
  unfold biTuple at ho
  split at ho
  · obtain ⟨v, rfl, h⟩ := hv.one
    cases ho
    cases h with
    | lst h k => exact ⟨_, _, rfl, .inl ⟨.inl (.inl h), q.tup e k⟩⟩
  · obtain ⟨v, rfl, h⟩ := hv.one
    cases ho
    cases h with
    | tup h k => exact ⟨_, _, rfl, .inr ⟨hK ▸ e.seqT h, q.imm (.tup h k)⟩⟩
  · cases ho
end
/-! ### repr -/
theorem textFrom_up : ∀ (ts : List Str) (k : Nat) (acc : Str), (textFrom k acc ts).length ≤ acc.length + piled ts
  | [], k, acc => Nat.le_add_right _ _
  | t :: r, k, acc => by
    have ih := textFrom_up r (k + 1) (acc ++ (if k > 0 then ", " else "" : String) ++ t)
    have e : (acc ++ (if k > 0 then ", " else "" : String) ++ t).length = acc.length + (if k > 0 then 2 else 0) + t.length := by
      rw [strLen_append, strLen_append]
      split <;> rfl
    rw [e] at ih
    rw [piled_cons]
    show (textFrom (k + 1) _ r).length ≤ _
    have : (if k > 0 then 2 else 0 : Nat) ≤ 2 := by split <;> omega
    omega
theorem listText_up (ts : List Str) : (listText ts).length ≤ piled ts + 2 := by
  unfold listText
  rw [strLen_append]
  have := textFrom_up ts 0 "["
  have e1 : (("[" : String) : Str).length = 1 := rfl
  have e2 : (("]" : String) : Str).length = 1 := rfl
  omega
theorem tupleText_up (ts : List Str) : (tupleText ts).length ≤ piled ts + 3 := by
  unfold tupleText
  rw [strLen_append, strLen_append]
  have e1 : (("(" : String) : Str).length = 1 := rfl
  have e2 : (if ts.length == 1 then ",)" else ")" : String).length ≤ 2 := by split <;> decide
  have e3 : ((if ts.length == 1 then ",)" else ")" : String) : Str).length ≤ 2 := by split <;> decide
  by_cases h : ts = []
  · subst h
    show 1 + 0 + _ ≤ _
    omega
  · have := join_length_add ts h
    omega
mutual
theorem cost_ok : ∀ d : D, d.plainN 60 = true ∨ True → (toPD d).shown.length ≤ d.cost
  | .non, _ => by simp only [toPD, PyData.shown, D.cost]; decide
  | .bl b, _ => by cases b <;> (simp only [toPD, PyData.shown, D.cost]; decide)
  | .int i, _ => by
    simp only [toPD, PyData.shown, D.cost]
    rw [show (↑(toString i) : Str).length = (Str.ofString (toString i)).length from rfl, PySem.ofString_length]
    have := int_text_length_le (a := i) (k := i.natAbs.log2 + 1) (Nat.succ_pos _) (Nat.lt_succ_self _)
    omega
  | .str x, _ => by simp only [toPD, PyData.shown, D.cost]; exact Nat.le_refl _
  | .tup l, _ => by
    simp only [toPD, PyData.shown, D.cost]
    exact Nat.le_trans (tupleText_up _) (Nat.add_le_add_right (costs_ok l) _)
  | .lst l, _ => by
    simp only [toPD, PyData.shown, D.cost]
    exact Nat.le_trans (listText_up _) (Nat.add_le_add_right (costs_ok l) _)
  | .dct _, _ => by simp only [toPD, PyData.shown, D.cost]; decide
  | .kys _, _ => by simp only [toPD, PyData.shown, D.cost]; decide
  | .obj _, _ => by simp only [toPD, PyData.shown, D.cost]; decide
  | .fn _, _ => by simp only [toPD, PyData.shown, D.cost]; decide
  | .scr _, _ => by simp only [toPD, PyData.shown, D.cost]; decide
theorem costs_ok : ∀ l : List D, piled (PyData.shownAll (toPDs l)) ≤ D.costs l
  | [] => by simp only [toPDs, PyData.shownAll, D.costs]; exact Nat.le_refl _
  | d :: l => by
    simp only [toPDs, PyData.shownAll, D.costs]
    rw [piled_cons]
    have h1 := cost_ok d (.inr trivial)
    have h2 := costs_ok l
    omega
end
mutual
theorem shows_ok : ∀ d : D, d.shows = true → (toPD d).showable = true
  | .non, _ => by simp only [toPD, PyData.showable]
  | .bl b, _ => by simp only [toPD, PyData.showable]
  | .int i, h => by simp only [toPD, PyData.showable]; simpa only [D.shows] using h
  | .str x, _ => by simp only [toPD, PyData.showable]
  | .tup l, h => by simp only [toPD, PyData.showable]; exact showss_ok l (by simpa only [D.shows] using h)
  | .lst l, h => by simp only [toPD, PyData.showable]; exact showss_ok l (by simpa only [D.shows] using h)
  | .dct _, _ => by simp only [toPD, PyData.showable]
  | .kys _, _ => by simp only [toPD, PyData.showable]
  | .obj _, _ => by simp only [toPD, PyData.showable]
  | .fn _, _ => by simp only [toPD, PyData.showable]
  | .scr _, _ => by simp only [toPD, PyData.showable]
theorem showss_ok : ∀ l : List D, D.showss l = true → PyData.showableAll (toPDs l) = true
  | [], _ => by simp only [toPDs, PyData.showableAll]
  | d :: l, h => by
    simp only [D.showss, Bool.and_eq_true] at h
    simp only [toPDs, PyData.showableAll, Bool.and_eq_true]
    exact ⟨shows_ok d h.1, showss_ok l h.2⟩
end
section
variable {X : Cx} {b : Bs} {Q : VK}
theorem ok_repr (hK : b.K = X.K) (hg : X.A.guards = some []) (hu : X.A.units + 64 < cLine) : CallR X (.builtin "repr") (rBi b .repr) := by
  intro pins s σ H vs us Q I r h
  obtain ⟨RR, F, xs, res, e, hv, ho, q⟩ := h
  simp only [biSem] at ho
  unfold biRepr at ho
  split at ho
  · rename_i x
    obtain ⟨t, hr, rfl⟩ := map_some ho
    obtain ⟨v, rfl, hw⟩ := hv.one
    have seq : ∀ {a : Addr} {d : D}, v = .ref a → Rep b.K b.g RR H d v → D.plainN 60 d = true → D.shows d = true → D.isSeq d = true → d.cost ≤ big → ResOk b RR F H (.d (.str (toPD d).shown)) Q → wpAny (model X.prog X.w) X.A (call (.builtin "repr") us) (EP X pins σ Q) X.xe s := by
      rintro a d rfl hd h2 h3 h0 h4 q
      have dp : Dp X.K H (.ref a) (toPD d) := hK ▸ Rep.dp 60 d _ hd h2
      rw [Vals.ref1 r]
      obtain ⟨as, hr⟩ := Dp.reads I (toPD d) (.ref a) (.ref a) dp rfl
      have k := toPD_ok 60 d h2
      refine repr_of_reads' hr (shows_ok d h3) (PyData.noDict_hsm (PyData.hasDict_of_canLay _ k.1)) hg (by omega) (fun _ _ z => z) (fun h' u tk hk => ?_) (Nat.le_trans (cost_ok d (.inr trivial)) (by rw [big_eq]; exact h4))
      exact ⟨.str _, H, I.kept (t' := tk) hk, ⟨_, rfl⟩, q.imm (Rep.str _)⟩
    cases hw with
    | non =>
      cases hr
      obtain ⟨u, rfl, hu1⟩ := vals1 r
      cases hu1
      exact PySem.P.repr_of_none ⟨.str _, H, I.tok _, ⟨_, rfl⟩, q.imm (Rep.str _)⟩
    | bl k =>
      cases hr
      obtain ⟨u, rfl, hu1⟩ := vals1 r
      cases hu1
      exact PySem.P.repr_of_bool ⟨.str _, H, I.tok _, ⟨_, rfl⟩, q.imm (Rep.str _)⟩
    | int i =>
      simp only [reprD] at hr
      split at hr
      · rename_i hi
        cases hr
        obtain ⟨u, rfl, t, rfl⟩ := vals1 r
        exact PySem.P.repr_of_int hi ⟨.str _, H, I.tok _, ⟨_, rfl⟩, q.imm (Rep.str _)⟩
      · cases hr
    | str z =>
      simp only [reprD] at hr
      split at hr
      · rename_i hi
        cases hr
        obtain ⟨u, rfl, t, rfl⟩ := vals1 r
        exact PySem.P.repr_of_str ⟨.str _, H, I.tok _, ⟨_, rfl⟩, q.imm (Rep.str _)⟩ (by rw [big_eq]; exact hi)
      · cases hr
    | tup h k =>
      simp only [reprD] at hr
      split at hr
      · rename_i hc
        simp only [Bool.and_eq_true, decide_eq_true_eq] at hc
        cases hr
        exact seq rfl (Vw.rep e (.tup h k)) hc.1.1 hc.1.2 rfl hc.2 q
      · cases hr
    | lst h k =>
      simp only [reprD] at hr
      split at hr
      · rename_i hc
        simp only [Bool.and_eq_true, decide_eq_true_eq] at hc
        cases hr
        exact seq rfl (Vw.rep e (.lst h k)) hc.1.1 hc.1.2 rfl hc.2 q
      · cases hr
    | @dct l a vs h k =>
      simp only [reprD] at hr
      split at hr
      · rename_i hc
        cases hr
        rw [List.isEmpty_iff] at hc
        subst hc
        cases k
        rw [Vals.ref1 r]
        obtain ⟨z, hd, kvs, rel, dd⟩ := dk_rd I.hok h
        cases rel
        obtain ⟨o, es, ep, h1, h2, h3, _, hp, _⟩ := dd
        have h4 : es.toList = [] := by
          generalize es.toList = l at hp
          cases hp
          rfl
        have hr : Reads s.heap (.ref a) (.dict []) [a] := Reads.dict (as := []) (bs := []) h1 h2.1 h3 (by rw [h4]; exact .nil) (by rw [h4]; exact .nil)
        refine repr_of_reads' hr rfl (fun _ hm => by rw [List.mem_singleton] at hm; rw [hm] at hd; exact absurd hd (by simp)) hg (by show X.A.units + (1 + 1) < cLine; omega) (fun _ _ z => z) (fun h' u tk hk => ?_) (by rw [big_eq]; decide +kernel)
        exact ⟨.str _, H, I.kept (t' := tk) hk, ⟨_, rfl⟩, q.imm (Rep.str _)⟩
      · cases hr
    | kys h => cases hr
    | obj h => cases hr
    | fn h => cases hr
    | scr h => cases hr
  · cases ho
end
end G4

namespace G4
open PySem PySem.Spec PyProof.Rows L2

/-- what stays of the surroundings -/
structure Amb (X : Cx) (b : Bs) (k : Nat) : Prop where
  K : b.K = X.K
  nd : X.N.Nodup
  calm : X.calm = true
  room : Room k X.A
  gd : X.A.guards = some []
section
variable {X : Cx} {b : Bs} {W : WX} {k : Nat} {σ : L2.St} {RR RR' : List Addr} {F F' H H' : Hp} {s : S} {Q : VK}
theorem Amb.hu (A : Amb X b k) : X.A.units + 64 < cLine := A.room.units
theorem Amb.aside (A : Amb X b k) (a : Addr) (o : HO) : Amb X (b.aside a o) k := ⟨A.K, A.nd, A.calm, A.room, A.gd⟩
theorem Amb.blk (A : Amb X b k) (s : Shared) (H : Hp) (scope : Scope) (cenv : Env) (fp : List Addr) : Amb (X.blk s H scope cenv fp) b k := ⟨A.K, A.nd, A.calm, A.room, A.gd⟩

theorem O.bind_ok {α β : Type} {a : α} {s : S} {f : α → S → O β} : (O.ok a s).bind f = f a s := rfl

/-! ### names and constants -/
theorem snd_var {i : Nat} {x : Str} {pos : Pos} (hN : X.N[i]? = some x) (hv : Vis X.env.scope x) (hd : (x == ("__debug__" : Str)) = false) (hc : (x == ("__classdict__" : Str)) = false) : PE X (.Name x pos) (tE b W (ev (.var i))) := by
  refine (pe_var hN hv hd hc).weak fun σ H Q ⟨RR, F, s, r, q⟩ => ?_
  simp only [ev] at q
  cases e : s.sl[i]? with
  | none => rw [e] at q; exact q.elim
  | some z =>
    rw [e] at q
    cases z with
    | un => exact q.elim
    | d y =>
      obtain ⟨v, h1, h2⟩ := r.sd i y e
      exact ⟨v, h1, q.now r v h2⟩
    | own c =>
      obtain ⟨a, h1, _⟩ := r.so i c e
      exact ⟨_, h1, q.now r _ h1⟩
/-- a module's constant -/
def GK (mg : Str → Option Value) (K : PySem.W.Frag) (g : Str → Option Addr) (x : Str) (d : D) : Prop := ∃ u v, mg x = some u ∧ RelV v u ∧ ∀ RR F, Rep K g RR F d v
theorem snd_glo {x : Str} {d : D} {pos : Pos} (hg : Gl X x) (h : GK X.mg b.K b.g x d) (hd : (x == ("__debug__" : Str)) = false) : PE X (.Name x pos) (tE b W (ev (.glo x d))) := by
  obtain ⟨u, v, h1, h2, h3⟩ := h
  exact (pe_glob hg h1 h2 hd).weak fun σ H Q ⟨RR, F, s, r, q⟩ => q.now r v (h3 _ _)
theorem snd_int {i : Int} {j : Nat} {pos : Pos} : PE X (.Constant (.int i) j pos) (tE b W (ev (.int i))) := pe_int.weak fun σ H Q ⟨RR, F, s, r, q⟩ => q.now r _ (Rep.int i)
theorem snd_str {i : Str} {j : Nat} {pos : Pos} : PE X (.Constant (.str i) j pos) (tE b W (ev (.str i))) := pe_str.weak fun σ H Q ⟨RR, F, s, r, q⟩ => q.now r _ (Rep.str i)
theorem snd_bl {i : Bool} {j : Nat} {pos : Pos} : PE X (.Constant (.bool i) j pos) (tE b W (ev (.bl i))) := pe_bl.weak fun σ H Q ⟨RR, F, s, r, q⟩ => q.now r _ (Rep.bl i)
theorem snd_non {j : Nat} {pos : Pos} : PE X (.Constant .none j pos) (tE b W (ev .non)) := pe_non.weak fun σ H Q ⟨RR, F, s, r, q⟩ => q.now r _ Rep.non

/-! ### operators -/
theorem settled {α : Type} {o : O R} {f : R → S → O α} {P : α → S → List Addr → Hp → Hp → Prop} (q : Go b W σ RR F (o.opd.bind f) P) : Go b W σ RR F o.opd fun x s RR' F' H' => (∀ c, x ≠ .new c) ∧ Go b W σ RR' F' (f x s) P := by
  cases o with
  | bad => exact q
  | ex e s => exact q
  | ok x s =>
    show Go b W σ RR F (O.ofOpt x.settle s) _
    have q : Go b W σ RR F ((O.ofOpt x.settle s).bind f) P := q
    cases h : x.settle with
    | none => rw [h] at q; exact q
    | some y =>
      rw [h] at q
      exact fun R2 F2 H2 p e r => ⟨settle_new h, Go.up q p e⟩
theorem snd_bin2 {ea eb : Expr} {fa fb : S → O R} {α : Type} {f : R → R → S → O α} {P : (α → S → List Addr → Hp → Hp → Prop)} {r : V → V → Hp → VK → Prop} {σ : L2.St} {H : Hp} {Q : VK} (rel : Rel b RR F s σ H)
    (q : Go b W σ RR F ((fa s).opd.bind fun x s => (fb s).opd.bind fun y s => f x y s) P)
    (k : ∀ x y s RR F H v u, Rel b RR F s σ H → RRel b RR F s σ H x v → RRel b RR F s σ H y u → (∀ c, x ≠ .new c) → (∀ c, y ≠ .new c) → Go b W σ RR F (f x y s) P → r v u H Q) :
    tOp r (tE b W fun s => (fa s).opd) (tE b W fun s => (fb s).opd) σ H Q := by
  refine ⟨RR, F, s, rel, (settled q).imp fun x s1 R1 F1 H1 p1 e1 r1 ⟨n1, q1⟩ v hv => ?_⟩
  refine ⟨R1, F1, s1, r1, (settled q1).imp fun y s2 R2 F2 H2 p2 e2 r2 ⟨n2, q2⟩ u hu => ?_⟩
  exact k x y s2 R2 F2 H2 v u r2 (hv.up n1 p2 e2) hu n1 n2 q2
theorem opBin_pl {o : Operator} {x y : D} {r : R} (h : opBin o x y = some r) : ∀ i, r ≠ .pl i := by
  intro i z
  subst z
  unfold opBin at h
  split at h <;> first | (cases h; done) | (split at h <;> cases h)
theorem ofOpt_map {α β : Type} {o : Option α} {g : α → β} {s : S} : O.ofOpt (o.map g) s = (O.ofOpt o s).bind fun a s => .ok (g a) s := by cases o <;> rfl
theorem Go.ret {α : Type} {a : α} {s : S} {P P' : α → S → List Addr → Hp → Hp → Prop} (h : Go b W σ RR F (.ok a s) P) (k : ∀ RR' F' H', P a s RR' F' H' → P' a s RR' F' H') : Go b W σ RR F (.ok a s) P' := fun R2 F2 H2 p e r => k _ _ _ (h R2 F2 H2 p e r)
/-- two places read -/
theorem rd2 {α β : Type} {f : D → D → Option α} {x y : R} {v u : V} {h : α → S → O β} {P : β → S → List Addr → Hp → Hp → Prop} (r : Rel b RR F s σ H) (hv : RRel b RR F s σ H x v) (hu : RRel b RR F s σ H y u)
    (q : Go b W σ RR F ((match s.rd x, s.rd y with
      | some x, some y => O.ofOpt (f x y) s
      | _, _ => .bad).bind h) P) : ∃ x' y' k, Vw b.K b.g RR F H x' v ∧ Vw b.K b.g RR F H y' u ∧ f x' y' = some k ∧ Go b W σ RR F (h k s) P := by
  cases h1 : s.rd x with
  | none => rw [h1] at q; exact q.elim
  | some x' =>
    cases h2 : s.rd y with
    | none => rw [h1, h2] at q; exact q.elim
    | some y' =>
      rw [h1, h2] at q
      simp only at q
      cases h3 : f x' y' with
      | none => rw [h3] at q; exact q.elim
      | some k =>
        rw [h3] at q
        exact ⟨x', y', k, vw_of r hv h1, vw_of r hu h2, h3, q⟩
theorem O.bind_pure {α : Type} (o : O α) : (o.bind fun a s => .ok a s) = o := by cases o <;> rfl
theorem snd_bin {o : Operator} {ea eb : Expr} {a c : E} {pos : Pos} (ha : PE X ea (tE b W (ev a))) (hb : PE X eb (tE b W (ev c))) : PE X (.BinOp ea o eb pos) (tE b W (ev (.bin o a c))) := by
  refine (pe_op (ok_bin (b := b) o) (snd_opd ha) (snd_opd hb)).weak fun σ H Q ⟨RR, F, s, r, q⟩ => ?_
  simp only [ev] at q
  refine snd_bin2 (ea := ea) (eb := eb) r q fun x y s RR F H v u r hv hu n1 n2 q => ?_
  rw [← O.bind_pure (binV o x y s)] at q
  obtain ⟨x', y', res, h1, h2, h3, q⟩ := rd2 r hv hu q
  exact ⟨RR, F, x', y', res, r.fz, h1, h2, h3, res_ok q r (opBin_pl h3)⟩
theorem snd_cmp {o : CmpOp} {ea eb : Expr} {a c : E} {pos : Pos} (A : Amb X b k) (ha : PE X ea (tE b W (ev a))) (hb : PE X eb (tE b W (ev c))) (hm : behindInMarks o eb = false) : PE X (.Compare ea [o] [eb] pos) (tE b W (ev (.cmp o a c))) := by
  refine (pe_cmpR (ok_cmp o A.K A.hu) (snd_opd ha) (snd_opd hb) hm).weak fun σ H Q ⟨RR, F, s, r, q⟩ => ?_
  simp only [ev] at q
  refine snd_bin2 (ea := ea) (eb := eb) r q fun x y s RR F H v u r hv hu n1 n2 q => ?_
  obtain ⟨x', y', kk, h1, h2, h3, q⟩ := rd2 r hv hu q
  exact ⟨RR, F, x', y', kk, r.fz, h1, h2, h3, q.now r _ (Rep.bl kk)⟩
theorem tst_cmp {o : CmpOp} {ea eb : Expr} {a c : E} {pos : Pos} (A : Amb X b k) (ha : PE X ea (tE b W (ev a))) (hb : PE X eb (tE b W (ev c))) (hm : behindInMarks o eb = false) : PT X (.Compare ea [o] [eb] pos) (tB' b W (evT (.cmp o a c))) := by
  refine (pt_cmpR (ok_cmp o A.K A.hu) (snd_opd ha) (snd_opd hb) hm).weak fun σ H Q ⟨RR, F, s, r, q⟩ => ?_
  simp only [evT] at q
  refine snd_bin2 (ea := ea) (eb := eb) r q fun x y s RR F H v u r hv hu n1 n2 q => ?_
  rw [← O.bind_pure (cmpV o x y s)] at q
  obtain ⟨x', y', kk, h1, h2, h3, q⟩ := rd2 r hv hu q
  exact ⟨RR, F, x', y', kk, r.fz, h1, h2, h3, kk, rfl, q.now r⟩
theorem snd_cmp2 {o o' : CmpOp} {ea eb ec : Expr} {a c d : E} {pos : Pos} (A : Amb X b k) (ha : PE X ea (tE b W (ev a))) (hb : PE X eb (tE b W (ev c))) (hd : PE X ec (tE b W (ev d))) (hm : lastMarks [o, o'] [eb, ec] = false) :
    PE X (.Compare ea [o, o'] [eb, ec] pos) (tE b W (ev (.cmp2 o o' a c d))) := by
  refine (pe_chain (ok_cmp o A.K A.hu) (ok_cmp o' A.K A.hu) (snd_opd ha) (snd_opd hb) (snd_opd hd) hm).weak fun σ H Q ⟨RR, F, s, r, q⟩ => ?_
  simp only [ev] at q
  refine ⟨RR, F, s, r, (settled q).imp fun x s1 R1 F1 H1 p1 e1 r1 ⟨n1, q1⟩ v hv => ?_⟩
  refine ⟨R1, F1, s1, r1, (settled q1).imp fun y s2 R2 F2 H2 p2 e2 r2 ⟨n2, q2⟩ u hu => ?_⟩
  obtain ⟨x', y', kk, h1, h2, h3, q⟩ := rd2 r2 (hv.up n1 p2 e2) hu q2
  refine ⟨R2, F2, x', y', kk, r2.fz, h1, h2, h3, kk, rfl, ?_⟩
  cases kk with
  | false => exact q.now r2 _ (Rep.bl false)
  | true =>
    rw [if_pos rfl] at q ⊢
    refine ⟨R2, F2, s2, r2, (settled q).imp fun z s3 R3 F3 H3 p3 e3 r3 ⟨n3, q3⟩ t ht => ?_⟩
    obtain ⟨x2, y2, k2, g1, g2, g3, q⟩ := rd2 r3 (hu.up n2 p3 e3) ht q3
    exact ⟨R3, F3, x2, y2, k2, r3.fz, g1, g2, g3, q.now r3 _ (Rep.bl k2)⟩
theorem tst_cmp2 {o o' : CmpOp} {ea eb ec : Expr} {a c d : E} {pos : Pos} (A : Amb X b k) (ha : PE X ea (tE b W (ev a))) (hb : PE X eb (tE b W (ev c))) (hd : PE X ec (tE b W (ev d))) (hm : lastMarks [o, o'] [eb, ec] = false) :
    PT X (.Compare ea [o, o'] [eb, ec] pos) (tB' b W (evT (.cmp2 o o' a c d))) := by
  refine (pt_chain (ok_cmp o A.K A.hu) (ok_cmp o' A.K A.hu) (snd_opd ha) (snd_opd hb) (snd_opd hd) hm).weak fun σ H Q ⟨RR, F, s, r, q⟩ => ?_
  simp only [evT] at q
  refine ⟨RR, F, s, r, (settled q).imp fun x s1 R1 F1 H1 p1 e1 r1 ⟨n1, q1⟩ v hv => ?_⟩
  refine ⟨R1, F1, s1, r1, (settled q1).imp fun y s2 R2 F2 H2 p2 e2 r2 ⟨n2, q2⟩ u hu => ?_⟩
  obtain ⟨x', y', kk, h1, h2, h3, q⟩ := rd2 r2 (hv.up n1 p2 e2) hu q2
  refine ⟨R2, F2, x', y', kk, r2.fz, h1, h2, h3, kk, rfl, ?_⟩
  cases kk with
  | false => exact ⟨false, rfl, q.now r2⟩
  | true =>
    rw [if_pos rfl] at q ⊢
    refine ⟨R2, F2, s2, r2, (settled q).imp fun z s3 R3 F3 H3 p3 e3 r3 ⟨n3, q3⟩ t ht => ?_⟩
    rw [← O.bind_pure (cmpV o' y z s3)] at q3
    obtain ⟨x2, y2, k2, g1, g2, g3, q⟩ := rd2 r3 (hu.up n2 p3 e3) ht q3
    exact ⟨R3, F3, x2, y2, k2, r3.fz, g1, g2, g3, k2, rfl, q.now r3⟩
/-! ### a chain of four -/
def tChain3 (r r' r2 : R2) (ta tb tc td : TE) : TE := fun σ H Q => ta σ H fun x H1 => tb σ H1 fun y H2 => r x y H2 fun z H3 => ∃ k, z = .bl k ∧
  (if k = true then tc σ H3 fun w' H4 => r' y w' H4 fun z H5 => ∃ k, z = .bl k ∧ (if k = true then td σ H5 fun t H6 => r2 w' t H6 Q else Q (.bl false) H5) else Q (.bl false) H3)
theorem pe_chain3 {op op' op2 : CmpOp} {r r' r2 : R2} {a b c d : Expr} {ta tb tc td : TE} {pos : Pos} (ho : OpR X (compareOp op) r) (ho' : OpR X (compareOp op') r') (ho2 : OpR X (compareOp op2) r2) (ha : PE X a ta) (hb : PE X b tb) (hc : PE X c tc) (hd : PE X d td)
    (hm : lastMarks [op, op', op2] [b, c, d] = false) : PE X (.Compare a [op, op', op2] [b, c, d] pos) (tChain3 r r' r2 ta tb tc td) := by
  refine ⟨fun pins s σ H Q I h => ?_⟩
  refine Compare_chain (thn (ha.run pins s σ H _ I h) fun v s1 ⟨x, H1, I1, r1, q1⟩ => chain_link (thn (hb.run pins s1 σ H1 _ I1 q1) fun u s2 ⟨y, H2, I2, r2, q2⟩ =>
    thn (ho pins s2 σ H2 x y v u _ I2 r1 r2 q2) fun d s3 ⟨z, H3, I3, r3, k, e, q3⟩ => ?_)) hm
  subst e
  cases r3
  refine wpAny_truthy_bool ?_
  cases k with
  | false => exact ite_ff ⟨.bl false, H3, I3, rfl, q3⟩
  | true => exact ite_tt (chain_link (thn (hc.run pins s3 σ H3 _ I3 q3) fun w' s4 ⟨z', H4, I4, r4, q4⟩ => thn (ho' pins s4 σ H4 y z' u w' _ I4 r2 r4 q4) fun d' s5 ⟨z2, H5, I5, r5, k2, e2, q5⟩ => by
      subst e2
      cases r5
      refine wpAny_truthy_bool ?_
      cases k2 with
      | false => exact ite_ff ⟨.bl false, H5, I5, rfl, q5⟩
      | true => exact ite_tt (chain_last (thn (hd.run pins s5 σ H5 _ I5 q5) fun w2 s6 ⟨z3, H6, I6, r6, q6⟩ => ho2 pins s6 σ H6 z' z3 w' w2 Q I6 r4 r6 q6))))
theorem pt_chain3 {op op' op2 : CmpOp} {r r' r2 : R2} {a b c d : Expr} {ta tb tc td : TE} {pos : Pos} (ho : OpR X (compareOp op) r) (ho' : OpR X (compareOp op') r') (ho2 : OpR X (compareOp op2) r2) (ha : PE X a ta) (hb : PE X b tb) (hc : PE X c tc) (hd : PE X d td)
    (hm : lastMarks [op, op', op2] [b, c, d] = false) : PT X (.Compare a [op, op', op2] [b, c, d] pos) (tTest (tChain3 r r' r2 ta tb tc td)) := by
  refine ⟨fun pins s σ H Q I h => ?_⟩
  refine isTrue_chain (thn (ha.run pins s σ H _ I h) fun v s1 ⟨x, H1, I1, r1, q1⟩ => test_link (thn (hb.run pins s1 σ H1 _ I1 q1) fun u s2 ⟨y, H2, I2, r2, q2⟩ =>
    thn (ho pins s2 σ H2 x y v u _ I2 r1 r2 q2) fun d s3 ⟨z, H3, I3, r3, k, e, q3⟩ => ?_)) hm
  subst e
  cases r3
  refine wpAny_truthy_bool ?_
  cases k with
  | false =>
    obtain ⟨k', e', q'⟩ := q3
    cases e'
    exact ite_ff ⟨H3, I3, q'⟩
  | true => exact ite_tt (test_link (thn (hc.run pins s3 σ H3 _ I3 q3) fun w' s4 ⟨z', H4, I4, r4, q4⟩ => thn (ho' pins s4 σ H4 y z' u w' _ I4 r2 r4 q4) fun d' s5 ⟨z2, H5, I5, r5, k2, e2, q5⟩ => by
      subst e2
      cases r5
      refine wpAny_truthy_bool ?_
      cases k2 with
      | false =>
        obtain ⟨k', e', q'⟩ := q5
        cases e'
        exact ite_ff ⟨H5, I5, q'⟩
      | true =>
        refine ite_tt (test_last (thn (hd.run pins s5 σ H5 _ I5 q5) fun w2 s6 ⟨z3, H6, I6, r6, q6⟩ => thn (ho2 pins s6 σ H6 z' z3 w' w2 _ I6 r4 r6 q6) fun d2 s7 ⟨z4, H7, I7, r7, k3, e3, q7⟩ => ?_))
        subst e3
        cases r7
        exact wpAny_truthy_bool ⟨H7, I7, q7⟩))
theorem snd_cmp3 {o o' o2 : CmpOp} {ea eb ec ed : Expr} {a c d f : E} {pos : Pos} (A : Amb X b k) (ha : PE X ea (tE b W (ev a))) (hb : PE X eb (tE b W (ev c))) (hd : PE X ec (tE b W (ev d))) (hf : PE X ed (tE b W (ev f))) (hm : lastMarks [o, o', o2] [eb, ec, ed] = false) :
    PE X (.Compare ea [o, o', o2] [eb, ec, ed] pos) (tE b W (ev (.cmp3 o o' o2 a c d f))) := by
  refine (pe_chain3 (ok_cmp o A.K A.hu) (ok_cmp o' A.K A.hu) (ok_cmp o2 A.K A.hu) (snd_opd ha) (snd_opd hb) (snd_opd hd) (snd_opd hf) hm).weak fun σ H Q ⟨RR, F, s, r, q⟩ => ?_
  simp only [ev] at q
  refine ⟨RR, F, s, r, (settled q).imp fun x s1 R1 F1 H1 p1 e1 r1 ⟨n1, q1⟩ v hv => ?_⟩
  refine ⟨R1, F1, s1, r1, (settled q1).imp fun y s2 R2 F2 H2 p2 e2 r2 ⟨n2, q2⟩ u hu => ?_⟩
  obtain ⟨x', y', kk, h1, h2, h3, q⟩ := rd2 r2 (hv.up n1 p2 e2) hu q2
  refine ⟨R2, F2, x', y', kk, r2.fz, h1, h2, h3, kk, rfl, ?_⟩
  cases kk with
  | false => exact q.now r2 _ (Rep.bl false)
  | true =>
    rw [if_pos rfl] at q ⊢
    refine ⟨R2, F2, s2, r2, (settled q).imp fun z s3 R3 F3 H3 p3 e3 r3 ⟨n3, q3⟩ t ht => ?_⟩
    obtain ⟨x2, y2, k2, g1, g2, g3, q⟩ := rd2 r3 (hu.up n2 p3 e3) ht q3
    refine ⟨R3, F3, x2, y2, k2, r3.fz, g1, g2, g3, k2, rfl, ?_⟩
    cases k2 with
    | false => exact q.now r3 _ (Rep.bl false)
    | true =>
      rw [if_pos rfl] at q ⊢
      refine ⟨R3, F3, s3, r3, (settled q).imp fun z2 s4 R4 F4 H4 p4 e4 r4 ⟨n4, q4⟩ t2 ht2 => ?_⟩
      obtain ⟨x3, y3, k3, g1, g2, g3, q⟩ := rd2 r4 (ht.up n3 p4 e4) ht2 q4
      exact ⟨R4, F4, x3, y3, k3, r4.fz, g1, g2, g3, q.now r4 _ (Rep.bl k3)⟩
theorem tst_cmp3 {o o' o2 : CmpOp} {ea eb ec ed : Expr} {a c d f : E} {pos : Pos} (A : Amb X b k) (ha : PE X ea (tE b W (ev a))) (hb : PE X eb (tE b W (ev c))) (hd : PE X ec (tE b W (ev d))) (hf : PE X ed (tE b W (ev f))) (hm : lastMarks [o, o', o2] [eb, ec, ed] = false) :
    PT X (.Compare ea [o, o', o2] [eb, ec, ed] pos) (tB' b W (evT (.cmp3 o o' o2 a c d f))) := by
  refine (pt_chain3 (ok_cmp o A.K A.hu) (ok_cmp o' A.K A.hu) (ok_cmp o2 A.K A.hu) (snd_opd ha) (snd_opd hb) (snd_opd hd) (snd_opd hf) hm).weak fun σ H Q ⟨RR, F, s, r, q⟩ => ?_
  simp only [evT] at q
  refine ⟨RR, F, s, r, (settled q).imp fun x s1 R1 F1 H1 p1 e1 r1 ⟨n1, q1⟩ v hv => ?_⟩
  refine ⟨R1, F1, s1, r1, (settled q1).imp fun y s2 R2 F2 H2 p2 e2 r2 ⟨n2, q2⟩ u hu => ?_⟩
  obtain ⟨x', y', kk, h1, h2, h3, q⟩ := rd2 r2 (hv.up n1 p2 e2) hu q2
  refine ⟨R2, F2, x', y', kk, r2.fz, h1, h2, h3, kk, rfl, ?_⟩
  cases kk with
  | false => exact ⟨false, rfl, q.now r2⟩
  | true =>
    rw [if_pos rfl] at q ⊢
    refine ⟨R2, F2, s2, r2, (settled q).imp fun z s3 R3 F3 H3 p3 e3 r3 ⟨n3, q3⟩ t ht => ?_⟩
    obtain ⟨x2, y2, k2, g1, g2, g3, q⟩ := rd2 r3 (hu.up n2 p3 e3) ht q3
    refine ⟨R3, F3, x2, y2, k2, r3.fz, g1, g2, g3, k2, rfl, ?_⟩
    cases k2 with
    | false => exact ⟨false, rfl, q.now r3⟩
    | true =>
      rw [if_pos rfl] at q ⊢
      refine ⟨R3, F3, s3, r3, (settled q).imp fun z2 s4 R4 F4 H4 p4 e4 r4 ⟨n4, q4⟩ t2 ht2 => ?_⟩
      rw [← O.bind_pure (cmpV o2 z z2 s4)] at q4
      obtain ⟨x3, y3, k3, g1, g2, g3, q⟩ := rd2 r4 (ht.up n3 p4 e4) ht2 q4
      exact ⟨R4, F4, x3, y3, k3, r4.fz, g1, g2, g3, k3, rfl, q.now r4⟩
/-! ### truth -/
theorem RepK.empty {K : PySem.W.Frag} {g : Str → Option Addr} {l : List (Key × D)} {vs : List (Key × V)} (h : RepK K g RR F l vs) : vs.isEmpty = l.isEmpty := by cases h <;> rfl
theorem Reps.empty {K : PySem.W.Frag} {g : Str → Option Addr} {l : List D} {vs : List V} (h : Reps K g RR F l vs) : vs.isEmpty = l.isEmpty := by cases h <;> rfl
theorem tru_of {x : D} {v : V} {kk : Bool} (h : Vw b.K b.g RR F H x v) (e : x.tru = some kk) (s : Same F H) (hK : b.K = X.K) : TruV X.K v H kk := by
  cases h with
  | non => cases e; rfl
  | bl => cases e; rfl
  | int => cases e; rfl
  | str x =>
    simp only [D.tru] at e
    split at e
    · rename_i hl
      cases e
      exact ⟨by rw [big_eq]; exact hl, rfl⟩
    · cases e
  | tup h r => cases e; exact .inr (.inl ⟨_, hK ▸ s.seqT h, by rw [r.empty]⟩)
  | lst h r => cases e; exact .inl ⟨_, .inl (.inl h), by rw [r.empty]⟩
  | dct h r => cases e
  | kys h r => cases e
  | obj h => cases e
  | fn h => cases e
  | scr h => cases e
theorem truV_red {α : Type} {x : R} {v : V} {h : Bool → S → O α} {P : α → S → List Addr → Hp → Hp → Prop} (A : Amb X b k) (r : Rel b RR F s σ H) (hv : RRel b RR F s σ H x v) (q : Go b W σ RR F ((truV x s).bind h) P) :
    ∃ kk, TruV X.K v H kk ∧ Go b W σ RR F (h kk s) P := by
  unfold truV at q
  cases h1 : s.rd x with
  | none => rw [h1] at q; exact q.elim
  | some x' =>
    rw [h1] at q
    cases h2 : x'.tru with
    | none => rw [Option.bind_some, h2] at q; exact q.elim
    | some kk =>
      rw [Option.bind_some, h2] at q
      exact ⟨kk, tru_of (vw_of r hv h1) h2 r.fz A.K, q⟩
theorem snd_not {e : Expr} {a : E} {pos : Pos} (A : Amb X b k) (ha : PE X e (tE b W (ev a))) : PE X (.UnaryOp .Not e pos) (tE b W (ev (.not a))) := by
  refine (pe_notT (snd_opd ha)).weak fun σ H Q ⟨RR, F, s, r, q⟩ => ?_
  simp only [ev] at q
  refine ⟨RR, F, s, r, (settled q).imp fun x s1 R1 F1 H1 p1 e1 r1 ⟨n1, q1⟩ v hv => ?_⟩
  obtain ⟨kk, h1, q⟩ := truV_red A r1 hv q1
  exact ⟨kk, h1, q.now r1 _ (Rep.bl _)⟩
/-- a value as a test -/
theorem tst_val {e : Expr} {f : S → O R} (A : Amb X b k) (ha : PE X e (tE b W f)) (he : ∀ whole, isTrue e X.env whole = (do let v ← whole; standAt e.pos; holding [v] (truthy v))) : PT X e (tB' b W fun s => (f s).opd.bind fun r s => truV r s) := by
  refine (pt_truth (snd_opd ha) he).weak fun σ H Q ⟨RR, F, s, r, q⟩ => ?_
  refine ⟨RR, F, s, r, (settled q).imp fun x s1 R1 F1 H1 p1 e1 r1 ⟨n1, q1⟩ v hv => ?_⟩
  rw [← O.bind_pure (truV x s1)] at q1
  obtain ⟨kk, h1, q⟩ := truV_red A r1 hv q1
  exact ⟨kk, h1, q.now r1⟩
theorem tst_not {e : Expr} {a : E} {pos : Pos} (ha : PT X e (tB' b W (evT a))) : PT X (.UnaryOp .Not e pos) (tB' b W (evT (.not a))) := by
  refine (pt_not ha).weak fun σ H Q ⟨RR, F, s, r, q⟩ => ?_
  simp only [evT] at q
  exact ⟨RR, F, s, r, q.bind fun x s1 R1 F1 H1 p1 e1 r1 q1 => q1.now r1⟩
theorem tst_and {e f : Expr} {es : List Expr} {a c : E} {pos : Pos} (ha : PT X e (tB' b W (evT a))) (hb : PW X (.BoolOp .And (f :: es) pos) (tB' b W (evT c))) : PW X (.BoolOp .And (e :: f :: es) pos) (tB' b W (evT (.and a c))) := by
  refine ⟨fun wh pins s σ H Q I q => (pw_and ha hb).run wh pins s σ H Q I ?_⟩
  obtain ⟨RR, F, s, r, q⟩ := q
  simp only [evT] at q
  refine ⟨RR, F, s, r, q.bind fun x s1 R1 F1 H1 p1 e1 r1 q1 => ?_⟩
  cases x with
  | true => exact ⟨R1, F1, s1, r1, q1⟩
  | false => exact q1.now r1
theorem tst_or {e f : Expr} {es : List Expr} {a c : E} {pos : Pos} (ha : PT X e (tB' b W (evT a))) (hb : PW X (.BoolOp .Or (f :: es) pos) (tB' b W (evT c))) : PW X (.BoolOp .Or (e :: f :: es) pos) (tB' b W (evT (.or a c))) := by
  refine ⟨fun wh pins s σ H Q I q => (pw_or ha hb).run wh pins s σ H Q I ?_⟩
  obtain ⟨RR, F, s, r, q⟩ := q
  simp only [evT] at q
  refine ⟨RR, F, s, r, q.bind fun x s1 R1 F1 H1 p1 e1 r1 q1 => ?_⟩
  cases x with
  | false => exact ⟨R1, F1, s1, r1, q1⟩
  | true => exact q1.now r1
theorem snd_and {e f : Expr} {es : List Expr} {a c : E} {pos : Pos} (ha : PE X e (tE b W (ev a))) (hb : PE X (.BoolOp .And (f :: es) pos) (tE b W (ev c))) : PE X (.BoolOp .And (e :: f :: es) pos) (tE b W (ev (.and a c))) := by
  refine (pe_and (snd_opd ha) hb).weak fun σ H Q ⟨RR, F, s, r, q⟩ => ?_
  simp only [ev] at q
  refine ⟨RR, F, s, r, (settled q).imp fun x s1 R1 F1 H1 p1 e1 r1 ⟨n1, q1⟩ v hv => ?_⟩
  split at q1
  · cases hv; exact ⟨true, rfl, R1, F1, s1, r1, q1⟩
  · cases hv; exact ⟨false, rfl, q1.now r1 _ (Rep.bl false)⟩
  · exact q1.elim
theorem snd_or {e f : Expr} {es : List Expr} {a c : E} {pos : Pos} (ha : PE X e (tE b W (ev a))) (hb : PE X (.BoolOp .Or (f :: es) pos) (tE b W (ev c))) : PE X (.BoolOp .Or (e :: f :: es) pos) (tE b W (ev (.or a c))) := by
  refine (pe_or (snd_opd ha) hb).weak fun σ H Q ⟨RR, F, s, r, q⟩ => ?_
  simp only [ev] at q
  refine ⟨RR, F, s, r, (settled q).imp fun x s1 R1 F1 H1 p1 e1 r1 ⟨n1, q1⟩ v hv => ?_⟩
  split at q1
  · cases hv; exact ⟨true, rfl, q1.now r1 _ (Rep.bl true)⟩
  · cases hv; exact ⟨false, rfl, R1, F1, s1, r1, q1⟩
  · exact q1.elim
theorem snd_ifx {e f g : Expr} {a c d : E} {pos : Pos} (ht : PT X e (tB' b W (evT a))) (ha : PE X f (tE b W (ev c))) (hb : PE X g (tE b W (ev d))) : PE X (.IfExp e f g pos) (tE b W (ev (.ifx a c d))) := by
  refine (pe_ifExp ht ha hb).weak fun σ H Q ⟨RR, F, s, r, q⟩ => ?_
  simp only [ev] at q
  refine ⟨RR, F, s, r, q.bind fun x s1 R1 F1 H1 p1 e1 r1 q1 => ?_⟩
  cases x with
  | true => exact ⟨R1, F1, s1, r1, q1⟩
  | false => exact ⟨R1, F1, s1, r1, q1⟩
theorem snd_neg {e : Expr} {a : E} {pos : Pos} (ha : PE X e (tE b W (ev a))) : PE X (.UnaryOp .USub e pos) (tE b W (ev (.neg a))) := by
  refine (pe_un un_neg (snd_opd ha)).weak fun σ H Q ⟨RR, F, s, r, q⟩ => ?_
  simp only [ev] at q
  refine ⟨RR, F, s, r, (settled q).imp fun x s1 R1 F1 H1 p1 e1 r1 ⟨n1, q1⟩ v hv => ?_⟩
  split at q1
  · rename_i i hi
    have := vw_of r1 hv hi
    cases this
    exact ⟨_, rfl, q1.now r1 _ (Rep.int _)⟩
  · exact q1.elim

/-! ### lists of expressions -/
theorem snd_nil : PA X [] (tAs b W (evs .nil)) := pa_nil.weak fun σ H Q ⟨RR, F, s, r, q⟩ => q.now r _ .nil
theorem snd_cons {e : Expr} {es : List Expr} {a : E} {as : Es} (ha : PE X e (tE b W (ev a))) (hb : PA X es (tAs b W (evs as))) (hs : starEach (e :: es) X.env = (false, eval e X.env) :: starEach es X.env) : PA X (e :: es) (tAs b W (evs (.cons a as))) := by
  refine (pa_cons (snd_val ha) hb hs).weak fun σ H Q ⟨RR, F, s, r, q⟩ => ?_
  simp only [evs] at q
  refine ⟨RR, F, s, r, q.bind fun x s1 R1 F1 H1 p1 e1 r1 q1 v hv => ?_⟩
  refine ⟨R1, F1, s1, r1, q1.bind fun l s2 R2 F2 H2 p2 e2 r2 q2 vs hvs => ?_⟩
  exact q2.now r2 _ (.cons (hv.mono e2 p2) hvs)
theorem sndO_nil : PA X [] (tOs b W (evOs .nil)) := pa_nil.weak fun σ H Q ⟨RR, F, s, r, q⟩ => q.now r _ .nil
theorem sndO_cons {e : Expr} {es : List Expr} {a : E} {as : Es} (ha : PE X e (tE b W (ev a))) (hb : PA X es (tOs b W (evOs as))) (hs : starEach (e :: es) X.env = (false, eval e X.env) :: starEach es X.env) : PA X (e :: es) (tOs b W (evOs (.cons a as))) := by
  refine (pa_cons (snd_opd ha) hb hs).weak fun σ H Q ⟨RR, F, s, r, q⟩ => ?_
  simp only [evOs] at q
  refine ⟨RR, F, s, r, (settled q).imp fun x s1 R1 F1 H1 p1 e1 r1 ⟨n1, q1⟩ v hv => ?_⟩
  refine ⟨R1, F1, s1, r1, q1.bind fun l s2 R2 F2 H2 p2 e2 r2 q2 vs hvs => ?_⟩
  exact q2.now r2 _ (.cons ⟨hv.up n1 p2 e2, n1⟩ hvs)
theorem evs_len : ∀ (as : Es) (s : S) (l : List D) (t : S), evs as s = .ok l t → l.length = as.len
  | .nil, s, l, t, h => by cases h; rfl
  | .cons a as, s, l, t, h => by
    simp only [evs] at h
    cases h1 : (ev a s).val with
    | bad => rw [h1] at h; cases h
    | ex e u => rw [h1] at h; cases h
    | ok x u =>
      rw [h1] at h
      cases h2 : evs as u with
      | bad => simp only [O.bind, h2, reduceCtorEq] at h
      | ex e u => simp only [O.bind, h2, reduceCtorEq] at h
      | ok m w =>
        simp only [O.bind, h2, O.ok.injEq] at h
        obtain ⟨rfl, rfl⟩ := h
        rw [List.length_cons, evs_len as u m w h2]; rfl
theorem len_ok {n : Nat} (h : n ≤ 1000) : n ≤ sizeLine := Nat.le_of_lt (small1000 h)
theorem snd_tup {es : List Expr} {as : Es} {j : Nat} {pos : Pos} (h : PA X es (tAs b W (evs as))) (hn : as.len ≤ 1000) : PE X (.Tuple es j pos) (tE b W (ev (.tup as))) := by
  refine (pe_tup h).weak fun σ H Q ⟨RR, F, s, r, q⟩ => ?_
  simp only [ev] at q
  refine ⟨RR, F, s, r, q.bind' fun l s1 R1 F1 H1 ho p1 e1 r1 q1 vs hvs => ⟨?_, fun p hp => ?_⟩⟩
  · rw [← hvs.len, evs_len as s l s1 ho]; exact len_ok hn
  · exact (res_ok q1 r1 fun i z => by cases z).tup r1.fz hvs p hp
theorem snd_lst {es : List Expr} {as : Es} {pos : Pos} (h : PA X es (tAs b W (evs as))) (hn : as.len ≤ 1000) : PE X (.List es pos) (tE b W (ev (.lst as))) := by
  refine (pe_lst h).weak fun σ H Q ⟨RR, F, s, r, q⟩ => ?_
  simp only [ev] at q
  refine ⟨RR, F, s, r, q.bind' fun l s1 R1 F1 H1 ho p1 e1 r1 q1 vs hvs => ⟨?_, fun p hp => ?_⟩⟩
  · rw [← hvs.len, evs_len as s l s1 ho]; exact len_ok hn
  · exact (res_ok q1 r1 fun i z => by cases z).lst hvs p hp
theorem snd_take {i : Nat} {x : Str} {pos : Pos} (hN : X.N[i]? = some x) (hv : Vis X.env.scope x) (hd : (x == ("__debug__" : Str)) = false) (hc : (x == ("__classdict__" : Str)) = false) : PE X (.Name x pos) (tE b W (ev (.take i))) := by
  refine (pe_var hN hv hd hc).weak fun σ H Q ⟨RR, F, s, r, q⟩ => ?_
  simp only [ev] at q
  cases e : s.sl[i]? with
  | none => rw [e] at q; exact q.elim
  | some z =>
    rw [e] at q
    cases z with
    | un => exact q.elim
    | d x => exact q.elim
    | own c =>
      obtain ⟨a, h1, h2, h3, h4, h5⟩ := r.so i _ e
      have r1 : Rel b RR F ⟨s.sl.set i .un, s.st⟩ σ H := r.un (by simp [r.len]) fun j y q n => by
        rcases set_cases q with ⟨rfl, e, _⟩ | ⟨m, q⟩
        · exact absurd e n
        · exact ⟨q, rfl⟩
      have l1 : Lone b RR F ⟨s.sl.set i .un, s.st⟩ σ a := ⟨h3, h4, h5, fun j d q p => by
        rcases set_cases q with ⟨rfl, e2, _⟩ | ⟨m, q⟩
        · cases e2
        · exact m (r.ap j i d _ a q e p h1)⟩
      exact ⟨.ref a, h1, q.now r1 _ ⟨a, rfl, h2, l1⟩⟩
theorem snd_dlit {k v : Int} {i j : Nat} {p1 p2 pos : Pos} : PE X (.Dict [some (.Constant (.int k) i p1)] [.Constant (.int v) j p2] pos) (tE b W (ev (.dlit k v))) := by
  refine (pe_disp (pps_cons pe_int pe_int pps_nil) rfl rfl (by simp) (by simp)).weak fun σ H Q ⟨RR, F, s, r, q⟩ => fun p hp => ?_
  refine ⟨upd_same, [(.inl k, .int v)], rfl, by simp, ?_⟩
  have e : upd (upd H p (.dK [])) p (.dK (mergeK [] [(Sum.inl k, V.int v)])) = upd H p (.dK [(Sum.inl k, V.int v)]) := by
    funext c
    by_cases z : c = p
    · subst z; rw [upd_same, upd_same]; rfl
    · rw [upd_ne z, upd_ne z, upd_ne z]
  rw [e]
  exact (res_ok q r fun i z => by cases z) p _ hp (same_new hp) (.dK upd_same (.cons (.int v) .nil))
theorem snd_dnil {pos : Pos} : PE X (.Dict [] [] pos) (tE b W (ev .dnil)) := by
  refine pe_dnewK.weak fun σ H Q ⟨RR, F, s, r, q⟩ => fun p hp => ?_
  exact (res_ok q r fun i z => by cases z) p _ hp (same_new hp) (.dK upd_same .nil)

/-! ### items and slices -/
theorem Reps.at {K : PySem.W.Frag} {g : Str → Option Addr} {l : List D} {vs : List V} (h : Reps K g RR F l vs) {i : Int} {d : D} (e : atI l i = some d) : ∃ v, atI vs i = some v ∧ Rep K g RR F d v := by
  unfold atI at e ⊢
  rw [← h.len]
  cases q : ixN l.length i with
  | none => rw [q] at e; cases e
  | some j =>
    rw [q] at e
    exact h.get e
theorem atI_map {α β : Type} (f : α → β) (l : List α) (i : Int) : atI (l.map f) i = (atI l i).map f := by
  unfold atI
  rw [List.length_map]
  cases ixN l.length i with
  | none => rfl
  | some j => simp
theorem snd_ix {e f : Expr} {a c : E} {pos : Pos} (hK : b.K = X.K) (ha : PE X e (tE b W (ev a))) (hb : PE X f (tE b W (ev c))) (hp : PlainIx f) : PE X (.Subscript e f pos) (tE b W (ev (.ix a c))) := by
  refine (pe_ix (ix_seq (X := X)) (snd_opd ha) (snd_opd hb) hp).weak fun σ H Q ⟨RR, F, s, r, q⟩ => ?_
  simp only [ev] at q
  refine snd_bin2 (ea := e) (eb := f) r q fun x y s RR F H v u r hv hu n1 n2 q => ?_
  rw [← O.bind_pure (ixV x y s)] at q
  obtain ⟨x', y', res, h1, h2, h3, q⟩ := rd2 (f := fun x y => (opIx x y).map R.d) r hv hu q
  obtain ⟨d, h4, rfl⟩ := map_some h3
  clear h3
  have h3 := h4
  clear h4
  have q := q.now r
  unfold opIx at h3
  split at h3
  · cases h2
    cases h1 with
    | lst h k =>
      obtain ⟨w, k1, k2⟩ := k.at h3
      exact .inl ⟨_, _, _, w, rfl, rfl, .inl (.inl h), k1, q _ k2⟩
  · cases h2
    cases h1 with
    | tup h k =>
      obtain ⟨w, k1, k2⟩ := k.at h3
      exact .inr (.inl ⟨_, _, _, w, rfl, rfl, hK ▸ r.fz.seqT h, k1, q _ k2⟩)
  · cases h2
    cases h1 with
    | scr h =>
      obtain ⟨i, h4, rfl⟩ := map_some h3
      exact .inl ⟨_, _, _, .int i, rfl, rfl, hK ▸ h, by rw [atI_map, h4]; rfl, q _ (Rep.int i)⟩
  · cases h2
    cases h1
    split at h3
    · rename_i hl
      obtain ⟨i, h4, rfl⟩ := map_some h3
      exact .inr (.inr ⟨_, _, i, rfl, rfl, by rw [big_eq]; exact hl, h4, q _ (Rep.str _)⟩)
    · cases h3
  · cases h3
theorem Reps.cut {K : PySem.W.Frag} {g : Str → Option Addr} {l : List D} {vs : List V} (h : Reps K g RR F l vs) (lo hi : Option Int) : Reps K g RR F (cut l lo hi) (cutV vs lo hi) := by
  unfold G4.cut cutV
  rw [← h.len]
  exact (h.drop _).take _
theorem cut_map {α β : Type} (f : α → β) (l : List α) (lo hi : Option Int) : cut (l.map f) lo hi = (cut l lo hi).map f := by
  unfold cut
  rw [List.length_map, List.map_take, List.map_drop]
theorem cut_ints (l : List Int) (lo hi : Option Int) : cutV (l.map V.int) lo hi = (cut l lo hi).map V.int := cut_map V.int l lo hi
theorem snd_no : PO X none (tOo b W (evo .no)) := by
  refine ⟨fun pins s σ H Q I ⟨RR, F, s0, r, q⟩ => ?_⟩
  exact po_none.run pins s σ H Q I (q.now r)
theorem snd_so {e : Expr} {a : E} (ha : PE X e (tE b W (ev a))) : PO X (some e) (tOo b W (evo (.so a))) := by
  refine ⟨fun pins s σ H Q I ⟨RR, F, s0, r, q⟩ => ?_⟩
  refine (po_some ha).run pins s σ H Q I ⟨RR, F, s0, r, ?_⟩
  simp only [evo] at q
  refine q.bind fun x s1 R1 F1 H1 p1 e1 r1 q1 v hv => ?_
  split at q1
  · cases hv; exact ⟨_, rfl, q1.now r1⟩
  · exact q1.elim
theorem cut_whole {α : Type} {l : List α} {lo hi : Option Int} (h : HT.sIx l.length 0 lo = 0 ∧ HT.sIx l.length l.length hi = l.length) : cut l lo hi = l := by
  unfold G4.cut
  rw [h.1, h.2, List.drop_zero, Nat.sub_zero, List.take_length]
theorem snd_sl {e : Expr} {lo hi : Option Expr} {a : E} {l h : EO} {pos p2 : Pos} (hK : b.K = X.K) (ha : PE X e (tE b W (ev a))) (hl : PO X lo (tOo b W (evo l))) (hh : PO X hi (tOo b W (evo h))) :
    PE X (.Subscript e (.Slice lo hi none p2) pos) (tE b W (ev (.sl a l h))) := by
  refine (pe_slice ((sl_list (X := X)).or (sl_tupA (X := X))) (snd_opd ha) hl hh).weak fun σ H Q ⟨RR, F, s, r, q⟩ => ?_
  simp only [ev] at q
  refine ⟨RR, F, s, r, (settled q).imp fun x s1 R1 F1 H1 p1 e1 r1 ⟨n1, q1⟩ v hv => ?_⟩
  refine ⟨R1, F1, s1, r1, q1.bind fun lv s2 R2 F2 H2 p2 e2 r2 q2 => ?_⟩
  refine ⟨R2, F2, s2, r2, q2.bind fun uv s3 R3 F3 H3 p3 e3 r3 q3 => ?_⟩
  have hv3 := (hv.up (s' := s2) (H' := H2) n1 p2 e2).up (s' := s3) (H' := H3) n1 p3 e3
  cases h1 : s3.rd x with
  | none => rw [h1] at q3; exact q3.elim
  | some x' =>
    rw [h1] at q3
    simp only at q3
    obtain ⟨res, h2, q3⟩ := q3.opt
    have hw := vw_of r3 hv3 h1
    unfold opSl at h2
    split at h2
    · cases h2
      cases hw with
      | lst h k => exact .inl ⟨_, _, rfl, .inl (.inl h), (res_ok q3 r3 fun i z => by cases z).lst (k.cut _ _)⟩
    · cases h2
      cases hw with
      | scr h =>
        refine .inl ⟨_, _, rfl, hK ▸ h, ?_⟩
        rw [cut_ints]
        exact (res_ok q3 r3 fun i z => by cases z).lst (.ofInts _)
    · cases h2
      cases hw with
      | tup h k =>
        have hk := k.len
        refine .inr ⟨_, _, rfl, hK ▸ r3.fz.seqT h, fun hw => ?_, fun _ p hp => (res_ok q3 r3 fun i z => by cases z).tup r3.fz (k.cut _ _) p hp⟩
        refine (res_ok q3 r3 fun i z => by cases z).imm ?_
        rw [cut_whole (by rw [hk]; exact hw)]
        exact .tup h k
    · cases h2
theorem snd_rev {e : Expr} {a : E} {j : Nat} {p1 p2 p3 pos : Pos} (ha : PE X e (tE b W (ev a))) : PE X (.Subscript e (.Slice none none (some (.UnaryOp .USub (.Constant (.int 1) j p1) p2)) p3) pos) (tE b W (ev (.rev a))) := by
  refine (pe_revL (snd_opd ha)).weak fun σ H Q ⟨RR, F, s, r, q⟩ => ?_
  simp only [ev] at q
  refine ⟨RR, F, s, r, (settled q).imp fun x s1 R1 F1 H1 p1 e1 r1 ⟨n1, q1⟩ v hv => ?_⟩
  split at q1
  · rename_i l hl
    cases vw_of r1 hv hl with
    | lst h k => exact ⟨_, _, rfl, .inl (.inl h), (res_ok q1 r1 fun i z => by cases z).lst k.rev⟩
  · exact q1.elim
end
end G4

namespace G4
open PySem PySem.Spec PyProof.Rows L2

/-! ### a def of the text, by what it does in the little Python -/
def spF (K : PySem.W.Frag) (g : Str → Option Addr) (n : Nat) (f : Fn) : Sp := fun vs H Q E => vs.length = n ∧ ∃ RR F ds st, Rel ⟨K, g, H, RR, F⟩ RR F ⟨[], st⟩ [] H ∧ Reps K g RR F ds vs ∧
  match f ds st with
  | .ok r st' => ∀ v RR' F' H', RR <+: RR' → Same F F' → Rel ⟨K, g, H, RR, F⟩ RR' F' ⟨[], st'⟩ [] H' → RRel ⟨K, g, H, RR, F⟩ RR' F' ⟨[], st'⟩ [] H' r v → Q v H'
  | .ex e st' => ∀ cls d F' H', Same F F' → Rel ⟨K, g, H, RR, F⟩ RR F' ⟨[], st'⟩ [] H' → XRel ⟨K, g, H, RR, F⟩ e cls d H' → E cls d H'
  | .bad => False
/-- it is known what the def called x does -/
def Kn (P : Program) (w : World) (K : PySem.W.Frag) (mg : Str → Option Value) (base : Heap) (g : Str → Option Addr) (k : Nat) (x : Str) (f : Fn) (n : Nat) : Prop :=
  ∃ fa fd ps, mg x = some (.ref fa) ∧ PySem.W.keepIn K (.ref fa) = true ∧ FnG P w K mg base k fa fd ps (spF K g n f) ∧ Binds K fd ps []
def permV (pm : List Nat) (l : List Value) : List Value := pm.map fun i => l.getD i .none
/-- .. called by keywords -/
def KnK (P : Program) (w : World) (K : PySem.W.Frag) (mg : Str → Option Value) (base : Heap) (g : Str → Option Addr) (k : Nat) (x : Str) (f : Fn) (pm : List Nat) (ks : List Str) : Prop :=
  ∃ fa fd ps, mg x = some (.ref fa) ∧ PySem.W.keepIn K (.ref fa) = true ∧ FnG P w K mg base k fa fd ps (spF K g pm.length f) ∧
    ∀ us : List Value, us.length = ks.length → bindArgs fd ⟨[], ks.zip us⟩ = pure (ps.zip (permV pm us))
section
variable {X : Cx} {b : Bs} {W : WX} {k : Nat} {σ : L2.St} {RR RR' : List Addr} {F F' H H' : Hp} {s : S} {Q : VK}
theorem Rel.enter (r : Rel b RR F s σ H) : Rel ⟨b.K, b.g, H, RR, F⟩ RR F ⟨[], s.st⟩ [] H :=
  ⟨r.fz, Same.refl _, fun _ _ h => .inl h, fun _ _ h _ => h, List.prefix_refl _, fun a m n => absurd m n, r.nd, r.rf, r.stl, r.st, rfl, fun i x h => by simp at h, fun i c h => by simp at h, fun i j c d a h => by simp at h⟩
theorem Rel.back {st' : List Cell} (r : Rel b RR F s σ H) (r' : Rel ⟨b.K, b.g, H, RR, F⟩ RR' F' ⟨[], st'⟩ [] H') (p : RR <+: RR') (e : Same F F') : Rel b RR' F' ⟨s.sl, st'⟩ σ H' where
  fz := r'.fz
  f0 := r.f0.trans e
  fn := fun a o q => by
    rcases r'.fn a o q with w | w
    · exact r.fn a o w
    · exact .inr (r.lone w).h
  keep := fun a o q n => by
    refine r'.keep a o (r.keep a o q n) fun m => ?_
    have := r.new a m n
    rw [q] at this; cases this
  pre := r.pre.trans p
  new := fun a m n => by
    by_cases h : a ∈ RR
    · exact r.new a h n
    · exact (r.lone (r'.new a m h)).h
  nd := r'.nd
  rf := r'.rf
  stl := r'.stl
  st := r'.st
  len := r.len
  sd := fun i x q => let ⟨v, h1, h2⟩ := r.sd i x q; ⟨v, h1, h2.mono e p⟩
  so := fun i c q => by
    obtain ⟨a, h1, h2, h3, h4, h5⟩ := r.so i c q
    refine ⟨a, h1, h2.mono e p fun o z => r'.keep a o z h4, ?_, fun m => ?_, h5⟩
    · cases z : F' a with
      | none => rfl
      | some o =>
        obtain ⟨o2, ho⟩ := h2.there
        rcases r'.fn a o z with w | w
        · have w : F a = some o := w
          rw [h3] at w; cases w
        · have w : H a = none := w
          rw [ho] at w; cases w
    · obtain ⟨o2, ho⟩ := h2.there
      have w : H a = none := r'.new a m h4
      rw [ho] at w; cases w
  ap := r.ap
theorem RRel.back {st' : List Cell} {x : R} {v : V} (r : Rel b RR F s σ H) (h : RRel ⟨b.K, b.g, H, RR, F⟩ RR' F' ⟨[], st'⟩ [] H' x v) : RRel b RR' F' ⟨s.sl, st'⟩ σ H' x v := by
  cases x with
  | d x => exact h
  | pl i => have h : ([] : L2.St)[i]? = some (some v) := h; simp at h
  | new c =>
    obtain ⟨a, h1, h2, h3⟩ := h
    have hn : H a = none := h3.h
    exact ⟨a, h1, h2, h3.f, h3.r, (r.lone hn).h, (r.lone hn).o⟩
theorem sp_of {f : Fn} {n : Nat} {l : List D} {vs : List V} (r : Rel b RR F s σ H) (hn : l.length = n) (hv : Reps b.K b.g RR F l vs)
    (q : Go b W σ RR F ((f l s.st).toO s.sl) fun r s' RR' F' H' => ∀ v, RRel b RR' F' s' σ H' r v → Q v H') : spF b.K b.g n f vs H Q (WE W σ) := by
  refine ⟨hv.len ▸ hn, RR, F, l, s.st, r.enter, hv, ?_⟩
  cases e : f l s.st with
  | bad => rw [e] at q; exact q.elim
  | ok x st' =>
    rw [e] at q
    exact fun v R' F' H' hp e1 r1 h1 => q R' F' H' hp e1 (r.back r1 hp e1) v (RRel.back r h1)
  | ex x st' =>
    rw [e] at q
    exact fun cls d F' H' e1 r1 h1 => q cls d RR F' H' (List.prefix_refl _) e1 (r.back r1 (List.prefix_refl _) e1) h1
/-- what a lent object's call leaves -/
theorem Rel.lent {st' : List Cell} {sl' : List SV} {τ : L2.St} {F1 : Hp} (r : Rel b RR F s σ H) (e1 : Same F F1) (r' : Rel ⟨b.K, b.g, H, RR, F1⟩ RR' F' ⟨sl', st'⟩ τ H') (p : RR <+: RR') (e : Same F1 F') (hf : st'.all Cell.flat = true) : Rel b RR' F ⟨s.sl, st'⟩ σ H' where
  fz := (e1.trans e).trans r'.fz
  f0 := r.f0
  fn := r.fn
  keep := fun a o q n => by
    refine r'.keep a o (r.keep a o q n) fun m => ?_
    have := r.new a m n
    rw [q] at this; cases this
  pre := r.pre.trans p
  new := fun a m n => by
    by_cases h : a ∈ RR
    · exact r.new a h n
    · exact (r.lone (r'.new a m h)).h
  nd := r'.nd
  rf := fun a m => by
    cases z : F a with
    | none => rfl
    | some o =>
      have := (e1.trans e) _ _ z
      rw [r'.rf a m] at this; cases this
  stl := r'.stl
  st := fun n c a q z => by
    obtain ⟨h1, h2⟩ := r'.st n c a q z
    refine ⟨?_, h2⟩
    have hc := List.all_eq_true.mp hf c (List.mem_of_getElem? q)
    cases h1 with
    | @lst l vs h k =>
      refine .lst h ?_
      have hc2 : l.all D.flat = true := hc
      clear q h2 h hc
      induction l generalizing vs with
      | nil => cases k; exact .nil
      | cons d l ih =>
        rw [List.all_cons, Bool.and_eq_true] at hc2
        cases k with
        | cons a t =>
          refine .cons ?_ (ih t hc2.2)
          have hc1 := hc2.1
          cases a <;> first | exact .non | exact .bl _ | exact .int _ | exact .str _ | cases hc1
    | dK h k => cases hc
  len := r.len
  sd := fun i x q => let ⟨v, h1, h2⟩ := r.sd i x q; ⟨v, h1, h2.mono (Same.refl _) p⟩
  so := fun i c q => by
    obtain ⟨a, h1, h2, h3, h4, h5⟩ := r.so i c q
    refine ⟨a, h1, h2.mono (Same.refl _) p fun o z => r'.keep a o z h4, h3, fun m => ?_, h5⟩
    obtain ⟨o2, ho⟩ := h2.there
    have w : H a = none := r'.new a m h4
    rw [ho] at w; cases w
  ap := r.ap
theorem flat_lent {y : D} {v : V} {K : PySem.W.Frag} {g : Str → Option Addr} {R1 R2 : List Addr} {F1 F2 : Hp} (h : Rep K g R1 F1 y v) (e : y.flat = true) : Rep K g R2 F2 y v := by
  cases h <;> first | exact .non | exact .bl _ | exact .int _ | exact .str _ | cases e
/-- the state with what is lent, other own objects hidden -/
theorem lend_rel : ∀ {l : List Nat} {s s1 : S} {F : Hp}, Rel b RR F s σ H → lendS l s = some s1 → ∃ F1, Same F F1 ∧ Rel ⟨b.K, b.g, H, RR, F1⟩ RR F1 s1 σ H
  | [], s, s1, F, r, h => by
    simp only [lendS, Option.some.injEq] at h
    subst h
    have r1 : Rel b RR F ⟨s.sl.map SV.noOwn, s.st⟩ σ H := r.un (by rw [List.length_map]; exact r.len) fun j y q n => by
      rw [List.getElem?_map] at q
      cases e : s.sl[j]? with
      | none => rw [e] at q; cases q
      | some v =>
        rw [e] at q
        cases v with
        | own c => cases q; exact absurd rfl n
        | un => cases q; exact absurd rfl n
        | d x => cases q; exact ⟨rfl, rfl⟩
    refine ⟨F, Same.refl _, ⟨r1.fz, Same.refl _, fun _ _ h => .inl h, fun _ _ h _ => h, List.prefix_refl _, fun a m n => absurd m n, r1.nd, r1.rf, r1.stl, r1.st, r1.len, r1.sd, fun i c h => ?_, fun i j c d a h => ?_⟩⟩
    · have h : (s.sl.map SV.noOwn)[i]? = some (.own c) := h
      rw [List.getElem?_map] at h
      cases e : s.sl[i]? with
      | none => rw [e] at h; cases h
      | some v => rw [e] at h; cases v <;> cases h
    · have h : (s.sl.map SV.noOwn)[i]? = some (.own c) := h
      rw [List.getElem?_map] at h
      cases e : s.sl[i]? with
      | none => rw [e] at h; cases h
      | some v => rw [e] at h; cases v <;> cases h
  | i :: l, s, s1, F, r, h => by
    simp only [lendS] at h
    split at h
    · rename_i c hc
      split at h
      · rename_i x hx
        obtain ⟨a, F1, g1, e1, rx, r1⟩ := r.frzS hc hx
        obtain ⟨F2, e2, r2⟩ := lend_rel r1 h
        exact ⟨F2, e1.trans e2, r2⟩
      · cases h
    · exact lend_rel r h
    · cases h
theorem snd_callb {x y : Str} {f : Fn} {i : Nat} {p p2 pos : Pos} (A : Amb X b k) (tk : Takes X W) (hk : Kn X.prog X.w X.K X.mg X.base b.g k x f 1) (gl : Gl X x) (hN : X.N[i]? = some y) (hv : Vis X.env.scope y) (hd : (y == ("__debug__" : Str)) = false) (hc : (y == ("__classdict__" : Str)) = false)
    (hdb : (x == ("__debug__" : Str)) = false) (he : starEach [Expr.Name y p2] X.env = (false, eval (Expr.Name y p2) X.env) :: starEach [] X.env) (hpl : (backTo pos (starEach [Expr.Name y p2] X.env)).any (·.1) = false) :
    PE X (.Call (.Name x p) [.Name y p2] [] pos) (tE b W (ev (.callb x f i))) := by
  obtain ⟨fa, fd, ps, h1, h2, h3, h4⟩ := hk
  refine (pe_callG h3 A.room A.gd tk gl h1 h2 h4 (pa_cons (pe_var (pos := p2) hN hv hd hc) pa_nil he) hdb he hpl).weak fun σ H Q ⟨RR, F, s, r, q⟩ => ?_
  simp only [ev] at q
  split at q
  · rename_i c hc
    unfold lendV at q
    split at q
    · rename_i d hd
      obtain ⟨a, F1, g1, e1, rx, r1⟩ := r.frzS hc hd
      refine ⟨.ref a, g1, ?_⟩
      show spF X.K b.g 1 f [.ref a] H Q (WE W σ)
      rw [← A.K]
      refine ⟨rfl, RR, F1, [d], s.st, r1.enter, .cons rx .nil, ?_⟩
      cases ef : f [d] s.st with
      | bad => rw [ef] at q; exact q.elim
      | ex x st' => rw [ef] at q; exact q.elim
      | ok y st' =>
        rw [ef] at q
        cases y with
        | d y =>
          simp only at q
          split at q
          · rename_i hfl
            rw [Bool.and_eq_true] at hfl
            intro v R' F' H' hp e2 r2 hv
            exact q R' F H' hp (Same.refl _) (r.lent e1 r2 hp e2 hfl.2) v (flat_lent hv hfl.1)
          · exact q.elim
        | new c => exact q.elim
        | pl j => exact q.elim
    · exact q.elim
  · exact q.elim
theorem snd_mov {i : Nat} {x : Str} {pos : Pos} (hN : X.N[i]? = some x) (hv : Vis X.env.scope x) (hd : (x == ("__debug__" : Str)) = false) (hc : (x == ("__classdict__" : Str)) = false) : PE X (.Name x pos) (tE b W (ev (.mov i))) := by
  refine (pe_var hN hv hd hc).weak fun σ H Q ⟨RR, F, s, r, q⟩ => ?_
  simp only [ev] at q
  split at q
  · rename_i c e
    split at q
    · rename_i hp
      obtain ⟨a, h1, h2, h3, h4, h5⟩ := r.so i c e
      refine ⟨_, h1, ?_⟩
      have hi : i < s.sl.length := (List.getElem?_eq_some_iff.mp e).1
      have r1 : Rel b RR F ⟨s.sl.set i .un, s.st⟩ σ H := r.un (by simp [r.len]) fun j y q n => by
        rcases set_cases q with ⟨rfl, e, _⟩ | ⟨m, q⟩
        · exact absurd e n
        · exact ⟨q, rfl⟩
      have l1 : Lone b RR F ⟨s.sl.set i .un, s.st⟩ σ a := ⟨h3, h4, h5, fun j d q p => by
        rcases set_cases q with ⟨rfl, e2, _⟩ | ⟨m, q⟩
        · cases e2
        · exact m (r.ap j i d c a q e p h1)⟩
      have r2 := r1.push h2 l1 hp
      have ro : Rep b.K b.g (RR ++ [a]) F (.obj s.st.length) (.ref a) := .obj (by rw [r.stl]; simp)
      have r3 := r2.storeD (i := i) ro
      have hσ : σ.set i (some (.ref a)) = σ := by
        apply List.ext_getElem?
        intro j
        by_cases hj : j = i
        · subst hj
          rw [List.getElem?_set_self (by rw [← r.len]; exact hi), h1]
        · rw [List.getElem?_set_ne (Ne.symm hj)]
      have el : (s.sl.set i SV.un).set i (.d (.obj s.st.length)) = s.sl.set i (.d (.obj s.st.length)) := by rw [List.set_set]
      rw [hσ] at r3
      have r4 : Rel b (RR ++ [a]) F ⟨s.sl.set i (.d (.obj s.st.length)), s.st ++ [c]⟩ σ H := by rw [← el]; exact r3
      exact q _ F H (List.prefix_append _ _) (Same.refl _) r4 _ ro
    · exact q.elim
  · exact q.elim
theorem snd_call {x : Str} {f : Fn} {e : Expr} {es : List Expr} {as : Es} {p pos : Pos} (A : Amb X b k) (tk : Takes X W) (hk : Kn X.prog X.w X.K X.mg X.base b.g k x f as.len) (gl : Gl X x) (ha : PA X (e :: es) (tAs b W (evs as)))
    (hdb : (x == ("__debug__" : Str)) = false) (he : starEach (e :: es) X.env = (false, eval e X.env) :: starEach es X.env) (hpl : (backTo pos (starEach es X.env)).any (·.1) = false) :
    PE X (.Call (.Name x p) (e :: es) [] pos) (tE b W (ev (.call x f as))) := by
  obtain ⟨fa, fd, ps, h1, h2, h3, h4⟩ := hk
  refine (pe_callG h3 A.room A.gd tk gl h1 h2 h4 ha hdb he hpl).weak fun σ H Q ⟨RR, F, s, r, q⟩ => ?_
  simp only [ev] at q
  refine ⟨RR, F, s, r, q.bind' fun l s1 R1 F1 H1 ho p1 e1 r1 q1 vs hv => ?_⟩
  rw [← A.K]
  exact sp_of r1 (evs_len as s l s1 ho) hv q1
theorem snd_call0 {x : Str} {f : Fn} {p pos : Pos} (A : Amb X b k) (tk : Takes X W) (hk : Kn X.prog X.w X.K X.mg X.base b.g k x f 0) (gl : Gl X x) (hdb : (x == ("__debug__" : Str)) = false) :
    PE X (.Call (.Name x p) [] [] pos) (tE b W (ev (.call x f .nil))) := by
  obtain ⟨fa, fd, ps, h1, h2, h3, h4⟩ := hk
  refine (pe_callG0 h3 A.room A.gd tk gl h1 h2 h4 hdb).weak fun σ H Q ⟨RR, F, s, r, q⟩ => ?_
  simp only [ev, evs, O.bind] at q
  show spF X.K b.g 0 f [] H Q (WE W σ)
  rw [← A.K]
  exact sp_of r rfl .nil q
/-! ### keywords -/
theorem sndK_nil : PK X [] (tAs b W (evs .nil)) := pk_nil.weak fun σ H Q ⟨RR, F, s, r, q⟩ => q.now r _ .nil
theorem sndK_cons {nm : Option Str} {kpos : Pos} {e : Expr} {kws : List Keyword} {a : E} {as : Es} (ha : PE X e (tE b W (ev a))) (hb : PK X kws (tAs b W (evs as))) : PK X (⟨nm, e, kpos⟩ :: kws) (tAs b W (evs (.cons a as))) := by
  refine (pk_cons (snd_val ha) hb).weak fun σ H Q ⟨RR, F, s, r, q⟩ => ?_
  simp only [evs] at q
  refine ⟨RR, F, s, r, q.bind fun x s1 R1 F1 H1 p1 e1 r1 q1 v hv => ?_⟩
  refine ⟨R1, F1, s1, r1, q1.bind fun l s2 R2 F2 H2 p2 e2 r2 q2 vs hvs => ?_⟩
  exact q2.now r2 _ (.cons (hv.mono e2 p2) hvs)
theorem permV_ok {vs : List V} {us : List Value} (r : Vals vs us) : ∀ pm : List Nat, Vals (pm.map fun i => vs.getD i .non) (permV pm us)
  | [] => .nil
  | i :: pm => by
    refine .cons ?_ (permV_ok r pm)
    show RelV (vs.getD i .non) (us.getD i .none)
    rw [List.getD_eq_getElem?_getD, List.getD_eq_getElem?_getD]
    cases h : vs[i]? with
    | none => rw [r.none_of h]; rfl
    | some v =>
      obtain ⟨u, h1, h2⟩ := r.get h
      rw [h1]; exact h2
theorem perm_ok {l : List D} {vs : List V} (r : Reps b.K b.g RR F l vs) : ∀ pm : List Nat, Reps b.K b.g RR F (perm pm l) (pm.map fun i => vs.getD i .non)
  | [] => .nil
  | i :: pm => by
    refine .cons ?_ (perm_ok r pm)
    show Rep b.K b.g RR F (l.getD i .non) (vs.getD i .non)
    rw [List.getD_eq_getElem?_getD, List.getD_eq_getElem?_getD]
    cases h : l[i]? with
    | none =>
      have : vs[i]? = none := List.getElem?_eq_none_iff.mpr (by rw [← r.len]; exact List.getElem?_eq_none_iff.mp h)
      rw [this]; exact .non
    | some v =>
      obtain ⟨u, h1, h2⟩ := r.get h
      rw [h1]; exact h2
theorem snd_callk {x : Str} {f : Fn} {kws : List Keyword} {as : Es} {pm : List Nat} {ks : List Str} {p pos : Pos} (A : Amb X b k) (tk : Takes X W) (hk : KnK X.prog X.w X.K X.mg X.base b.g k x f pm ks) (gl : Gl X x) (ha : PK X kws (tAs b W (evs as)))
    (hall : (backToKw pos (keywordEach kws X.env)).all (·.1.isSome) = true) (hks : (backToKw pos (keywordEach kws X.env)).filterMap (·.1) = ks) (hn : as.len = ks.length)
    (hdb : (x == ("__debug__" : Str)) = false) (hpl : (backToKw pos (keywordEach kws X.env)).any (·.1.isNone) = false) :
    PE X (.Call (.Name x p) [] kws pos) (tE b W (ev (.callk x f pm ks as))) := by
  obtain ⟨fa, fd, ps, h1, h2, h3, h4⟩ := hk
  refine ⟨fun pins s σ H Q I ⟨RR, F, s0, r, q⟩ => wpAny_Call_Name_kw (ld_glob I gl h1 ?_ hdb)⟩
  simp only [ev] at q
  refine PySem.W.callWith_KW0 (h₀ := X.base) I.ok.mod.kin h2 hall ?_ hpl
  refine thn (ha.run pos pins s σ H (fun vs H1 => spF b.K b.g pm.length f (pm.map fun i => vs.getD i .non) H1 Q (WE W σ) ∧ vs.length = ks.length) I ⟨RR, F, s0, r, q.bind' fun l s1 R1 F1 H1 ho p1 e1 r1 q1 vs hv => ⟨?_, ?_⟩⟩) fun us s2 ⟨vs, H2, I2, rv, q2, hl⟩ => ⟨I2.kIn, ?_⟩
  · exact sp_of (l := perm pm l) r1 (by unfold perm; rw [List.length_map]) (perm_ok hv pm) q1
  · rw [← hv.len, evs_len as s0 l s1 ho, hn]
  · rw [hks]
    rw [A.K] at q2
    have hb : BindsTo s2 fd ⟨[], ks.zip us⟩ (ps.zip (permV pm us)) := .of_eq (h4 us (by rw [← rv.length]; exact hl))
    refine wpAny_call (codeAny_mono (run_G h3 A.room A.gd tk hb I2 (permV_ok rv pm) q2) fun res s' hq => ?_)
    cases res with
    | error e => exact hq
    | ok fl => cases fl <;> first | exact hq | exact hq.elim

/-! ### built-in functions -/
theorem biSem_pl {B : Bi} {l : List D} {r : R} (h : biSem B l = some r) : ∀ i, r ≠ .pl i := by
  intro i z
  subst z
  cases B <;> simp only [biSem] at h
  · unfold biLen at h; split at h <;> first | (cases h; done) | (split at h <;> cases h)
  · unfold biInt at h; split at h <;> cases h
  · unfold biAbs at h; split at h <;> cases h
  · unfold biMax2 at h; split at h <;> cases h
  · unfold biMin2 at h; split at h <;> cases h
  · unfold biMaxL at h; split at h <;> first | (cases h; done) | (split at h <;> cases h)
  · unfold biMinL at h; split at h <;> first | (cases h; done) | (split at h <;> cases h)
  · unfold biSum at h; split at h <;> first | (cases h; done) | (obtain ⟨_, _, z⟩ := map_some h; cases z)
  · unfold biSorted at h; split at h <;> first | (cases h; done) | (obtain ⟨_, _, z⟩ := map_some h; cases z; done) | (obtain ⟨_, _, z⟩ := Option.bind_eq_some_iff.mp h; split at z <;> cases z; done) | (unfold sortL at h; split at h <;> first | (cases h; done) | (split at h <;> first | (unfold sortT at h; split at h <;> cases h; done) | (unfold sortX at h; split at h <;> cases h; done)))
  · unfold biAll at h; split at h <;> first | (cases h; done) | (obtain ⟨_, _, z⟩ := map_some h; cases z)
  · unfold biAny at h; split at h <;> first | (cases h; done) | (obtain ⟨_, _, z⟩ := map_some h; cases z)
  · unfold biList at h; split at h <;> cases h
  · unfold biTuple at h; split at h <;> cases h
  · unfold biRepr at h; split at h <;> first | (cases h; done) | (obtain ⟨_, _, z⟩ := map_some h; cases z)
  all_goals cases h
theorem rd_all {l : List R} {vs : List V} {xs : List D} (r : Rel b RR F s σ H) (h : Paired (fun r v => RRel b RR F s σ H r v ∧ ∀ c, r ≠ .new c) l vs) (e : l.mapM s.rd = some xs) : Vws b.K b.g RR F H xs vs := by
  induction l generalizing vs xs with
  | nil => cases h; cases e; exact .nil
  | cons x l ih =>
    cases h with
    | cons a t =>
      rw [List.mapM_cons] at e
      cases h1 : s.rd x with
      | none => rw [h1] at e; cases e
      | some y =>
        rw [h1] at e
        cases h2 : l.mapM s.rd with
        | none => rw [h2] at e; cases e
        | some m =>
          rw [h2] at e
          cases e
          exact .cons (vw_of r a.1 h1) (ih t h2)
theorem bi_red {B : Bi} {l : List R} {vs : List V} (r : Rel b RR F s σ H) (h : Paired (fun r v => RRel b RR F s σ H r v ∧ ∀ c, r ≠ .new c) l vs)
    (q : Go b W σ RR F (biV B l s) fun r s' RR' F' H' => ∀ v, RRel b RR' F' s' σ H' r v → Q v H') : rBi b B vs H Q := by
  unfold biV at q
  cases h1 : l.mapM s.rd with
  | none => rw [h1] at q; exact q.elim
  | some xs =>
    rw [h1] at q
    obtain ⟨res, h2, q⟩ := q.opt
    exact ⟨RR, F, xs, res, r.fz, rd_all r h h1, h2, res_ok q r (biSem_pl h2)⟩
theorem ok_bi (A : Amb X b k) : ∀ B : Bi, CallR X B.val (rBi b B) := by
  have no : ∀ {B : Bi} {f : Value}, (∀ l, biSem B l = none) → CallR X f (rBi b B) := fun h => by
    intro pins s σ H x u Q I r1 ⟨RR, F, xs, res, _, _, ho, _⟩
    rw [h] at ho; cases ho
  intro B
  cases B with
  | len => exact ok_len A.K
  | toInt => exact ok_int
  | abs => exact ok_abs
  | max2 => exact ok_max2 A.calm
  | min2 => exact ok_min2 A.calm
  | maxL => exact ok_maxL A.calm
  | minL => exact ok_minL A.calm
  | sum => exact ok_sum A.calm
  | sorted => exact ok_sorted A.K A.calm
  | all => exact ok_all A.calm
  | any => exact ok_any A.calm
  | list => exact ok_list A.K
  | tuple => exact ok_tuple A.K
  | repr => exact ok_repr A.K A.gd A.hu
  | toStr => exact no fun _ => rfl
  | set => exact no fun _ => rfl
theorem snd_bi {B : Bi} {e : Expr} {es : List Expr} {as : Es} {p pos : Pos} (A : Amb X b k) (gl : Gl X B.name) (hm : X.mg B.name = none) (ha : PA X (e :: es) (tOs b W (evOs as)))
    (he : starEach (e :: es) X.env = (false, eval e X.env) :: starEach es X.env) (hpl : (backTo pos (starEach es X.env)).any (·.1) = false) :
    PE X (.Call (.Name B.name p) (e :: es) [] pos) (tE b W (ev (.bi B as))) := by
  have key : PE X (.Call (.Name B.name p) (e :: es) [] pos) (tCB (rBi b B) (tOs b W (evOs as))) := by
    have h := ok_bi A B
    have hb := Bi.boot B
    cases B <;> first
      | exact pe_callB h gl hm hb ha (by decide) (by decide) he hpl
      | exact pe_callTy h gl hm hb ha (by decide) (by decide) he hpl
  refine key.weak fun σ H Q ⟨RR, F, s, r, q⟩ => ?_
  simp only [ev] at q
  exact ⟨RR, F, s, r, q.bind fun l s1 R1 F1 H1 p1 e1 r1 q1 vs hv => bi_red r1 hv q1⟩
/-! ### isinstance -/
def Ty.nm : Ty → String
  | .int => "int" | .bool => "bool" | .str => "str" | .list => "list" | .tuple => "tuple" | .dict => "dict" | .none => "NoneType"
theorem kit_all : ∀ a c : Ty, c ≠ .none → kitB a.nm c.nm = some (a.sub c) := by
  intro a c h
  cases a <;> cases c <;> first | (exact absurd rfl h) | decide +kernel
theorem kind_ty {x : D} {v : V} {t : Ty} (h : Vw b.K b.g RR F H x v) (e : x.kind = some t) (s : Same F H) (hK : b.K = X.K) : TyX X.K H v (.type t.nm) := by
  have sq : ∀ {a : Addr} {vs : List V}, SqT b.K F a vs → TyX X.K H (.ref a) (.type "tuple") := fun {a vs} h => by
    have h := s.seqT h
    rw [hK] at h
    rcases h with (h | ⟨o, h⟩) | ⟨o, its, n, h1, h2, _⟩
    · exact .base (.tup h)
    · exact .fTuple h
    · exact .kTuple h1 h2
  have sl : ∀ {a : Addr} {vs : List V}, SqL b.K H a vs → TyX X.K H (.ref a) (.type "list") := fun {a vs} h => by
    rw [hK] at h
    rcases h with (h | ⟨o, h⟩) | ⟨o, its, n, h1, h2, _⟩
    · exact .base (.lst h)
    · exact .base (.frz h)
    · exact .kList h1 h2
  cases h with
  | non => cases e; exact .base .non
  | bl => cases e; exact .base (.bl _)
  | int => cases e; exact .base (.int _)
  | str => cases e; exact .base (.str _)
  | tup h r => cases e; exact sq h
  | lst h r => cases e; exact .base (.lst h)
  | dct h r =>
    cases e
    rcases h with h | ⟨o, h⟩
    · exact .base (.dK h)
    · exact .fDict h
  | kys h r => cases e
  | obj h => cases e
  | fn h => cases e
  | scr h => cases e; exact sl h
theorem isi_red {α : Type} {ts : List Ty} {x : R} {v : V} {h : Bool → S → O α} {P : α → S → List Addr → Hp → Hp → Prop} (A : Amb X b k) (r : Rel b RR F s σ H) (hv : RRel b RR F s σ H x v) (q : Go b W σ RR F ((isiV ts x s).bind h) P) :
    ∃ t, TyX X.K H v (.type (Ty.nm t)) ∧ Go b W σ RR F (h (ts.any t.sub) s) P := by
  unfold isiV at q
  cases h1 : s.rd x with
  | none => rw [h1] at q; exact q.elim
  | some x' =>
    rw [h1, Option.bind_some] at q
    cases h2 : x'.kind with
    | none => rw [h2] at q; exact q.elim
    | some t =>
      rw [h2] at q
      exact ⟨t, kind_ty (vw_of r hv h1) h2 r.fz A.K, q⟩
end
end G4

namespace G4
open PySem PySem.Spec PyProof.Rows L2

section
variable {X : Cx} {b : Bs} {W : WX} {k : Nat} {σ : L2.St} {RR RR' : List Addr} {F F' H H' : Hp} {s : S} {Q : VK}
/-! ### isinstance -/
theorem asBl_red {α : Type} {o : O Bool} {h : R → S → O α} : (asBl o).bind h = o.bind fun k s => h (.d (.bl k)) s := by cases o <;> rfl
def Ty.py (t : Ty) : Str := t.nm
/-- the names of types, as arguments -/
def TyArgs (X : Cx) (ts : List Ty) (es : List Expr) : Prop := PA X es (fun _ H Q => Q (ts.map fun t => V.ty t.nm) H)
theorem pe_ty {t : Ty} {p : Pos} (ht : t ≠ .none) (gl : Gl X t.py) (hm : X.mg t.py = none) : PE X (.Name t.py p) (tC (.ty t.nm)) := by
  cases t with
  | int => exact pe_bltn gl hm boot_int rfl
  | bool => exact pe_bltn gl hm boot_bool rfl
  | str => exact pe_bltn gl hm boot_str rfl
  | list => exact pe_bltn gl hm boot_list rfl
  | tuple => exact pe_bltn gl hm boot_tuple rfl
  | dict => exact pe_bltn gl hm boot_dict rfl
  | none => exact absurd rfl ht
theorem tyArgs_nil : TyArgs X [] [] := pa_nil
theorem tyArgs_cons {t : Ty} {ts : List Ty} {p : Pos} {es : List Expr} (ht : t ≠ .none) (gl : Gl X t.py) (hm : X.mg t.py = none) (h : TyArgs X ts es) : TyArgs X (t :: ts) (.Name t.py p :: es) :=
  (pa_cons (pe_ty ht gl hm) h rfl).weak fun σ H Q q => q
theorem kit_list {t : Ty} : ∀ ts : List Ty, (∀ u ∈ ts, u ≠ .none) → PySem.W.kitAny X.K (.type t.nm) (ts.map fun u => Value.type u.nm) = some (ts.any t.sub)
  | [], _ => rfl
  | u :: ts, h => by
    refine kitAny_cons (kit_ty (kit_all t u (h u List.mem_cons_self))) (fun e => ?_) fun e => ?_
    · rw [List.any_cons, e, Bool.false_or]
      exact kit_list ts fun v hv => h v (List.mem_cons_of_mem _ hv)
    · rw [List.any_cons, e, Bool.true_or]
theorem cls_list : ∀ ts : List Ty, Paired ClsV (ts.map fun t => V.ty t.nm) (ts.map fun t => Value.type t.nm)
  | [] => .nil
  | t :: ts => .cons (.ty _) (cls_list ts)
theorem snd_isi1 {e : Expr} {a : E} {t : Ty} {p q pos : Pos} (A : Amb X b k) (gl : Gl X "isinstance") (hm : X.mg "isinstance" = none) (ha : PE X e (tE b W (ev a))) (ht : t ≠ .none) (glt : Gl X t.py) (hmt : X.mg t.py = none)
    (he : starEach [e, .Name t.py q] X.env = (false, eval e X.env) :: starEach [.Name t.py q] X.env) (hpl : (backTo pos (starEach [.Name t.py q] X.env)).any (·.1) = false) :
    PE X (.Call (.Name "isinstance" p) [e, .Name t.py q] [] pos) (tE b W (ev (.isi a [t]))) := by
  refine (pe_callB (call_isi (X := X)) gl hm boot_isinstance (pa_cons (snd_opd ha) (pa_cons (pe_ty ht glt hmt) pa_nil rfl) he) (by decide) (by decide) he hpl).weak fun σ H Q ⟨RR, F, s, r, q⟩ => ?_
  simp only [ev] at q
  refine ⟨RR, F, s, r, (settled q).imp fun x s1 R1 F1 H1 p1 e1 r1 ⟨n1, q1⟩ v hv => ?_⟩
  obtain ⟨u, h1, q2⟩ := isi_red A r1 hv q1
  refine ⟨v, _, _, _, _, rfl, .ty _, h1, kit_ty (kit_all u t ht), ?_⟩
  have e2 : [t].any u.sub = u.sub t := by simp
  rw [e2] at q2
  exact q2.now r1 _ (Rep.bl _)
theorem snd_isi {e : Expr} {a : E} {ts : List Ty} {es : List Expr} {p pt pos : Pos} {j : Nat} (A : Amb X b k) (gl : Gl X "isinstance") (hm : X.mg "isinstance" = none) (ha : PE X e (tE b W (ev a))) (ht : ∀ u ∈ ts, u ≠ .none) (hl : ts.length ≤ 1000) (hts : TyArgs X ts es)
    (he : starEach [e, .Tuple es j pt] X.env = (false, eval e X.env) :: starEach [.Tuple es j pt] X.env) (hpl : (backTo pos (starEach [.Tuple es j pt] X.env)).any (·.1) = false) :
    PE X (.Call (.Name "isinstance" p) [e, .Tuple es j pt] [] pos) (tE b W (ev (.isi a ts))) := by
  refine (pe_callB (call_isiT (X := X)) gl hm boot_isinstance (pa_cons (snd_opd ha) (pa_cons (pe_tup hts) pa_nil rfl) he) (by decide) (by decide) he hpl).weak fun σ H Q ⟨RR, F, s, r, q⟩ => ?_
  simp only [ev] at q
  refine ⟨RR, F, s, r, (settled q).imp fun x s1 R1 F1 H1 p1 e1 r1 ⟨n1, q1⟩ v hv => ⟨by rw [List.length_map]; exact len_ok hl, fun T hT => ?_⟩⟩
  have r2 := r1.same (same_new (o := .tup (ts.map fun t => V.ty t.nm)) hT)
  obtain ⟨u, h1, q2⟩ := isi_red A r2 (hv.up (s' := s1) (H' := upd H1 T (.tup (ts.map fun t => V.ty t.nm))) n1 (List.prefix_refl _) (Same.refl _)) q1
  exact ⟨v, T, _, _, _, _, rfl, upd_same, cls_list ts, h1, kit_list ts ht, q2.now r2 _ (Rep.bl _)⟩

/-! ### objects made, and put into the store -/
theorem alc_weak {a : E} : ∀ σ H Q, tE b W (ev (.alc a)) σ H Q → tE b W (ev a) σ H Q := by
  rintro σ H Q ⟨RR, F, s, r, q⟩
  simp only [ev] at q
  refine ⟨RR, F, s, r, q.bind fun x s1 R1 F1 H1 p1 e1 r1 q1 v hv => ?_⟩
  split at q1
  · rename_i c
    split at q1
    · rename_i hp
      obtain ⟨a, rfl, h1, h2⟩ := hv
      refine q1 (R1 ++ [a]) F1 H1 (List.prefix_append _ _) (Same.refl _) (r1.push h1 h2 hp) _ (Rep.obj ?_)
      rw [r1.stl]; simp
    · exact q1.elim
  · exact q1.elim

theorem snd_alc {e : Expr} {a : E} (ha : PE X e (tE b W (ev a))) : PE X e (tE b W (ev (.alc a))) := ha.weak alc_weak

/-! ### methods -/
theorem cell_of {x : R} {v : V} {c : Cell} (r : Rel b RR F s σ H) (hv : RRel b RR F s σ H x v) (hn : ∀ c, x ≠ .new c) (e : s.cell x = some c) :
    ∃ a, v = .ref a ∧ CellAt b.K b.g RR F H a c ∧ ∀ c' o s', CellAt b.K b.g RR F (upd H a o) a c' → s.put c' x = some s' → Rel b RR F s' σ (upd H a o) := by
  have ob : ∀ {n : Nat} {a : Addr}, RR[n]? = some a → s.st[n]? = some c → CellAt b.K b.g RR F H a c ∧ ∀ c' o s', CellAt b.K b.g RR F (upd H a o) a c' → (if c'.pure then some { s with st := s.st.set n c' } else none) = some s' → Rel b RR F s' σ (upd H a o) := fun {n a} h1 h2 =>
    ⟨(r.st n c a h2 h1).1, fun c' o s' k z => by
      split at z
      · rename_i hp
        cases z
        exact r.writeC h1 k hp
      · cases z⟩
  cases x with
  | new c => exact absurd rfl (hn c)
  | d x =>
    cases x <;> simp only [S.cell, reduceCtorEq] at e
    rename_i n
    cases hv with
    | obj h =>
      obtain ⟨h1, h2⟩ := ob h e
      exact ⟨_, rfl, h1, fun c' o s' k z => h2 c' o s' k z⟩
  | pl i =>
    simp only [S.cell] at e
    have hv : σ[i]? = some (some v) := hv
    cases q : s.sl[i]? with
    | none => rw [q] at e; cases e
    | some z =>
      rw [q] at e
      cases z with
      | un => cases e
      | own d =>
        cases e
        obtain ⟨a, h1, h2, _⟩ := r.so i c q
        rw [hv] at h1; cases h1
        refine ⟨a, rfl, h2, fun c' o s' k z => ?_⟩
        simp only [S.put, q, Option.some.injEq] at z
        subst z
        exact r.writeS q hv k
      | d x =>
        cases x <;> simp only [reduceCtorEq] at e
        rename_i n
        obtain ⟨w, h1, h2⟩ := r.sd i _ q
        rw [hv] at h1; cases h1
        cases h2 with
        | obj h =>
          obtain ⟨h3, h4⟩ := ob h e
          refine ⟨_, rfl, h3, fun c' o s' k z => h4 c' o s' k ?_⟩
          simp only [S.put, q] at z
          exact z
theorem lst_of {x : R} {v : V} (r : Rel b RR F s σ H) (hv : RRel b RR F s σ H x v) (e : s.isLst x = true) : (∀ c, x ≠ .new c) ∧ ∃ a l vs, v = .ref a ∧ s.cell x = some (.lst l) ∧ H a = some (.lst vs) := by
  unfold S.isLst at e
  split at e
  · cases e
  · rename_i hn
    refine ⟨fun c z => hn c z, ?_⟩
    split at e
    · rename_i l hl
      obtain ⟨a, rfl, h1, _⟩ := cell_of r hv (fun c z => hn c z) hl
      cases h1 with
      | lst h _ => exact ⟨a, l, _, rfl, hl, h⟩
    · cases e
theorem _root_.L2.MtR.imp {X : Cx} {id : String} {r r' : V → List V → Hp → VK → Prop} (h : MtR X id r) (k : ∀ x xs H Q, r' x xs H Q → r x xs H Q) : MtR X id r' := by
  intro pins s σ H x xs v us Q I r1 r2 q
  exact h pins s σ H x xs v us Q I r1 r2 (k _ _ _ _ q)
/-- a writing method by values -/
def rMu (b : Bs) (W : WX) (σ : L2.St) (m : Mt) : V → List V → Hp → VK → Prop := fun v vs H Q => ∃ RR F s x l, Rel b RR F s σ H ∧ RRel b RR F s σ H x v ∧ (∀ c, x ≠ .new c) ∧ Reps b.K b.g RR F l vs ∧
  Go b W σ RR F (muV m x l s) fun r s' RR' F' H' => ∀ v, RRel b RR' F' s' σ H' r v → Q v H'
theorem mu_red {m : Mt} {x : R} {l : List D} {v : V} (r : Rel b RR F s σ H) (hv : RRel b RR F s σ H x v) (hn : ∀ c, x ≠ .new c)
    (q : Go b W σ RR F (muV m x l s) fun r s' RR' F' H' => ∀ v, RRel b RR' F' s' σ H' r v → Q v H') :
    ∃ a c res c', v = .ref a ∧ CellAt b.K b.g RR F H a c ∧ muSem m c l = some (res, c') ∧ ∀ o, CellAt b.K b.g RR F (upd H a o) a c' → ∀ w x, res = .d x → Rep b.K b.g RR F x w → Q w (upd H a o) := by
  unfold muV at q
  cases h1 : s.cell x with
  | none => rw [h1] at q; exact q.elim
  | some c =>
    rw [h1, Option.bind_some] at q
    cases h2 : muSem m c l with
    | none => rw [h2] at q; exact q.elim
    | some p =>
      obtain ⟨res, c'⟩ := p
      rw [h2] at q
      simp only at q
      cases h3 : s.put c' x with
      | none => rw [h3] at q; exact q.elim
      | some s' =>
        rw [h3] at q
        obtain ⟨a, rfl, h4, h5⟩ := cell_of r hv hn h1
        refine ⟨a, c, res, c', rfl, h4, h2, fun o k w y e hw => ?_⟩
        subst e
        exact q RR F (upd H a o) (List.prefix_refl _) (Same.refl _) (h5 c' o s' k h3) w hw
theorem ok_append : MtR X "list.append" (rMu b W σ .append) := by
  refine MtR.imp (X := X) (mt_append (X := X)) ?_
  rintro v vs H Q ⟨RR, F, s, x, l, r, hv, hn, hl, q⟩
  obtain ⟨a, c, res, c', rfl, h1, h2, h3⟩ := mu_red r hv hn q
  simp only [muSem] at h2
  unfold muApp at h2
  split at h2
  · split at h2
    · rename_i hz
      cases h2
      cases h1 with
      | lst h k =>
        cases hl with
        | cons hy t =>
          cases t
          refine ⟨a, _, _, rfl, rfl, h, ?_, h3 _ (.lst upd_same (k.app (.cons hy .nil))) _ _ rfl .non⟩
          rw [← k.len, big_eq]; exact hz
    · cases h2
  · cases h2
theorem ok_extend : MtR X "list.extend" (rMu b W σ .extend) := by
  refine MtR.imp (X := X) (mt_extend (X := X)) ?_
  rintro v vs H Q ⟨RR, F, s, x, l, r, hv, hn, hl, q⟩
  obtain ⟨a, c, res, c', rfl, h1, h2, h3⟩ := mu_red r hv hn q
  simp only [muSem] at h2
  unfold muExt at h2
  split at h2
  · split at h2
    · rename_i hz
      cases h2
      cases h1 with
      | lst h k =>
        cases hl with
        | cons hy t =>
          cases t
          cases hy with
          | lst h' k' =>
            refine ⟨a, _, _, _, rfl, rfl, h, r.fz _ _ h', ?_, h3 _ (.lst upd_same (k.app k')) _ _ rfl .non⟩
            rw [← k.len, ← k'.len, big_eq]; exact hz
    · cases h2
  · cases h2
theorem Reps.erase {K : PySem.W.Frag} {g : Str → Option Addr} {l : List D} {vs : List V} (h : Reps K g RR F l vs) (i : Nat) : Reps K g RR F (l.eraseIdx i) (vs.eraseIdx i) := by
  rw [List.eraseIdx_eq_take_drop_succ, List.eraseIdx_eq_take_drop_succ]
  exact (h.take _).app (h.drop _)
theorem ok_pop : MtR X "list.pop" (rMu b W σ .pop) := by
  refine MtR.imp (X := X) (mt_popAt (X := X)) ?_
  rintro v vs H Q ⟨RR, F, s, x, l, r, hv, hn, hl, q⟩
  obtain ⟨a, c, res, c', rfl, h1, h2, h3⟩ := mu_red r hv hn q
  simp only [muSem] at h2
  unfold muPop at h2
  split at h2
  · split at h2
    · rename_i j hj
      split at h2
      · rename_i y hy
        split at h2
        · rename_i hz
          cases h2
          cases h1 with
          | lst h k =>
            cases hl with
            | cons hi t =>
              cases t
              cases hi
              obtain ⟨w, h4, h5⟩ := k.get hy
              have hs := ixN_seq hj
              refine ⟨a, _, _, j, w, rfl, rfl, h, by have := small_iff hz; omega, by have := small_iff hz; omega, by rw [← k.len]; exact hs.1, h4, h3 _ (.lst upd_same (k.erase _)) _ _ rfl h5⟩
        · cases h2
      · cases h2
    · cases h2
  · cases h2
theorem ok_insert : MtR X "list.insert" (rMu b W σ .insert) := by
  refine MtR.imp (X := X) (mt_insert (X := X)) ?_
  rintro v vs H Q ⟨RR, F, s, x, l, r, hv, hn, hl, q⟩
  obtain ⟨a, c, res, c', rfl, h1, h2, h3⟩ := mu_red r hv hn q
  simp only [muSem] at h2
  unfold muIns at h2
  split at h2
  · split at h2
    · rename_i hz
      cases h2
      cases h1 with
      | lst h k =>
        cases hl with
        | cons hi t =>
          cases t with
          | cons hy t =>
            cases t
            cases hi
            have hs := small_iff hz.2.1
            refine ⟨a, _, _, _, rfl, rfl, h, by rw [← k.len, big_eq]; exact hz.2.2, hz.1, by omega, h3 _ (.lst upd_same (((k.take _).app (.cons hy .nil)).app (k.drop _))) _ _ rfl .non⟩
    · cases h2
  · cases h2
end
end G4

namespace G4
open PySem PySem.Spec PyProof.Rows L2

/-! ### shapes of expressions -/
def notStar : Expr → Bool
  | .Starred _ _ => false
  | _ => true
def notSet : Expr → Bool
  | .Set _ _ _ => false
  | _ => true
def notSlice : Expr → Bool
  | .Slice _ _ _ _ => false
  | _ => true
def plainObj : Expr → Bool
  | .Call (.Name _ _) [] [] _ => false
  | _ => true
def notComp : Expr → Bool
  | .ListComp _ _ _ _ => false
  | .SetComp _ _ _ _ => false
  | .DictComp _ _ _ _ _ => false
  | _ => true
section
variable {env : Env} {e : Expr} {es : List Expr}
theorem star_cons (h : notStar e = true) : starEach (e :: es) env = (false, eval e env) :: starEach es env := by
  cases e <;> first | rfl | cases h
theorem star_any (pos : Pos) (h : es.all notStar = true) : (backTo pos (starEach es env)).any (·.1) = false := by
  induction es with
  | nil => rfl
  | cons e es ih =>
    rw [List.all_cons, Bool.and_eq_true] at h
    rw [star_cons h.1]
    show (false || (backTo pos (starEach es env)).any (·.1)) = false
    rw [ih h.2]; rfl
theorem star_all (pos : Pos) (h : es.all notStar = true) : (backTo pos (starEach es env)).all (fun x => !x.1) = true := by
  induction es with
  | nil => rfl
  | cons e es ih =>
    rw [List.all_cons, Bool.and_eq_true] at h
    rw [star_cons h.1]
    show (true && (backTo pos (starEach es env)).all (fun x => !x.1)) = true
    rw [ih h.2]; rfl
theorem asg_cons (h : notStar e = true) : assignEach (e :: es) env = (false, assign e env) :: assignEach es env := by
  cases e <;> first | rfl | cases h
theorem asg_len (h : es.all notStar = true) : (assignEach es env).length = es.length := by
  induction es with
  | nil => rfl
  | cons e es ih =>
    rw [List.all_cons, Bool.and_eq_true] at h
    rw [asg_cons h.1, List.length_cons, List.length_cons, ih h.2]
theorem asg_find (h : es.all notStar = true) : (assignEach es env).findIdx? (·.1) = none := by
  induction es with
  | nil => rfl
  | cons e es ih =>
    rw [List.all_cons, Bool.and_eq_true] at h
    rw [asg_cons h.1, List.findIdx?_cons, ih h.2]
    rfl
theorem set_pure (h : notSet e = true) (x : Value) : foldedSetIterable e env x = pure x := by
  cases e <;> first | rfl | cases h
theorem mark_no {op : CmpOp} (h : notSet e = true) : behindInMarks op e = false := by
  cases e <;> first | rfl | cases h
theorem slice_no (h : notSlice e = true) : PlainIx e := fun o i => by
  cases e <;> first | rfl | cases h
theorem base_no {a : Str} {w : Sem Value} (h : plainObj e = true) : attributeBase e a env w = w := by
  unfold attributeBase
  split
  · cases h
  · rfl
theorem swap_no {t : Option Expr} {l : Nat} (h : notComp e = true) : swapsWith e t l env = pure false := by
  cases e <;> first | rfl | cases h
end
section
variable {X : Cx} {b : Bs} {W : WX} {k : Nat} {σ : L2.St} {RR RR' : List Addr} {F F' H H' : Hp} {s : S} {Q : VK}
theorem bm_list {o e : Expr} {name : Str} {id : String} {m : Mt} {a : E} {as : Es} {apos cpos : Pos} (slot : Slot "list" name id) (hty : typeOf (.builtin id) = pure (.type "method_descriptor")) (hm : ∀ σ, MtR X id (rMu b W σ m))
    (ho : PE X o (tE b W (ev a))) (ha : PA X [e] (tAs b W (evs as))) (hp : plainObj o = true) (hs : notStar e = true) (hl : (apos.endLine == cpos.line) = true) : PE X (.Call (.Attribute o name apos) [e] [] cpos) (tE b W (ev (.mu m a as))) := by
  refine ⟨fun pins s σ H Q I ⟨RR, F, s0, r, q⟩ => ?_⟩
  have few : ((backTo cpos (starEach [e] X.env)).all (fun x => !x.1) && (backToKw cpos (keywordEach [] X.env)).all (fun x => x.1.isSome)
      && decide ([e].length + ([] : List Keyword).length + (if ([] : List Keyword).isEmpty then 0 else 1) < 30)) = true := by
    rw [star_all cpos (show [e].all notStar = true by simp [hs])]; rfl
  refine (pe_bm PySem.F.plainAttrs_list slot hty (hm σ) ho ha (base_no hp) few hl (star_cons hs) rfl).run pins s σ H Q I ?_
  simp only [ev] at q
  refine ⟨RR, F, s0, r, q.bind fun x s1 R1 F1 H1 p1 e1 r1 q1 v hv => ?_⟩
  split at q1
  · rename_i hx
    obtain ⟨hn, a2, l2, vs2, rfl, h2, h3⟩ := lst_of r1 hv hx
    refine ⟨.inl ⟨rfl, vs2, .inl (.inl h3)⟩, R1, F1, s1, r1, q1.bind fun l s3 R3 F3 H3 p3 e3 r3 q3 vs hvs => ?_⟩
    exact ⟨R3, F3, s3, x, l, r3, hv.up hn p3 e3, hn, hvs, q3⟩
  · exact q1.elim
theorem bm_list2 {o e f : Expr} {name : Str} {id : String} {m : Mt} {a : E} {as : Es} {apos cpos : Pos} (slot : Slot "list" name id) (hty : typeOf (.builtin id) = pure (.type "method_descriptor")) (hm : ∀ σ, MtR X id (rMu b W σ m))
    (ho : PE X o (tE b W (ev a))) (ha : PA X [e, f] (tAs b W (evs as))) (hp : plainObj o = true) (hs : notStar e = true) (ht : notStar f = true) (hl : (apos.endLine == cpos.line) = true) : PE X (.Call (.Attribute o name apos) [e, f] [] cpos) (tE b W (ev (.mu m a as))) := by
  refine ⟨fun pins s σ H Q I ⟨RR, F, s0, r, q⟩ => ?_⟩
  have few : ((backTo cpos (starEach [e, f] X.env)).all (fun x => !x.1) && (backToKw cpos (keywordEach [] X.env)).all (fun x => x.1.isSome)
      && decide ([e, f].length + ([] : List Keyword).length + (if ([] : List Keyword).isEmpty then 0 else 1) < 30)) = true := by
    rw [star_all cpos (show [e, f].all notStar = true by simp [hs, ht])]; rfl
  refine (pe_bm PySem.F.plainAttrs_list slot hty (hm σ) ho ha (base_no hp) few hl (star_cons hs) (by rw [star_cons ht]; rfl)).run pins s σ H Q I ?_
  simp only [ev] at q
  refine ⟨RR, F, s0, r, q.bind fun x s1 R1 F1 H1 p1 e1 r1 q1 v hv => ?_⟩
  split at q1
  · rename_i hx
    obtain ⟨hn, a2, l2, vs2, rfl, h2, h3⟩ := lst_of r1 hv hx
    refine ⟨.inl ⟨rfl, vs2, .inl (.inl h3)⟩, R1, F1, s1, r1, q1.bind fun l s3 R3 F3 H3 p3 e3 r3 q3 vs hvs => ?_⟩
    exact ⟨R3, F3, s3, x, l, r3, hv.up hn p3 e3, hn, hvs, q3⟩
  · exact q1.elim
theorem snd_insert {o e f : Expr} {a : E} {as : Es} {apos cpos : Pos} (ho : PE X o (tE b W (ev a))) (ha : PA X [e, f] (tAs b W (evs as))) (hp : plainObj o = true) (hs : notStar e = true) (ht : notStar f = true) (hl : (apos.endLine == cpos.line) = true) :
    PE X (.Call (.Attribute o "insert" apos) [e, f] [] cpos) (tE b W (ev (.mu .insert a as))) := bm_list2 PySem.F.slot_list_insert PySem.F.type_list_insert (fun _ => ok_insert) ho ha hp hs ht hl
theorem snd_append {o e : Expr} {a : E} {as : Es} {apos cpos : Pos} (ho : PE X o (tE b W (ev a))) (ha : PA X [e] (tAs b W (evs as))) (hp : plainObj o = true) (hs : notStar e = true) (hl : (apos.endLine == cpos.line) = true) :
    PE X (.Call (.Attribute o "append" apos) [e] [] cpos) (tE b W (ev (.mu .append a as))) := bm_list PySem.F.slot_list_append PySem.F.type_list_append (fun _ => ok_append) ho ha hp hs hl
theorem snd_extend {o e : Expr} {a : E} {as : Es} {apos cpos : Pos} (ho : PE X o (tE b W (ev a))) (ha : PA X [e] (tAs b W (evs as))) (hp : plainObj o = true) (hs : notStar e = true) (hl : (apos.endLine == cpos.line) = true) :
    PE X (.Call (.Attribute o "extend" apos) [e] [] cpos) (tE b W (ev (.mu .extend a as))) := bm_list PySem.F.slot_list_extend PySem.F.type_list_extend (fun _ => ok_extend) ho ha hp hs hl
theorem snd_pop {o e : Expr} {a : E} {as : Es} {apos cpos : Pos} (ho : PE X o (tE b W (ev a))) (ha : PA X [e] (tAs b W (evs as))) (hp : plainObj o = true) (hs : notStar e = true) (hl : (apos.endLine == cpos.line) = true) :
    PE X (.Call (.Attribute o "pop" apos) [e] [] cpos) (tE b W (ev (.mu .pop a as))) := bm_list PySem.F.slot_list_pop PySem.F.type_list_pop (fun _ => ok_pop) ho ha hp hs hl
/-- flat data and flat values -/
theorem flat_rep {d : D} {v : V} {K : PySem.W.Frag} {g : Str → Option Addr} (h : Rep K g RR F d v) (f : d.flat = true) : flatV v = true := by
  cases h <;> first | rfl | cases f
theorem flat_reps {K : PySem.W.Frag} {g : Str → Option Addr} : ∀ {l : List D} {vs : List V}, Reps K g RR F l vs → l.all D.flat = true → vs.all flatV = true
  | [], _, .nil, _ => rfl
  | d :: l, _, .cons h r, f => by
    rw [List.all_cons, Bool.and_eq_true] at f
    rw [List.all_cons, flat_rep h f.1, flat_reps r f.2]; rfl
theorem eqv_flat {d e : D} {v w : V} {K : PySem.W.Frag} {g : Str → Option Addr} (h : Rep K g RR F d v) (k : Rep K g RR F e w) (f : d.flat = true) (f2 : e.flat = true) : eqV v w = D.eqv d e := by
  cases h <;> first | (cases f; done) | (cases k <;> first | (cases f2; done) | rfl | (simp only [eqV, D.eqv, b2i]; done) | (simp only [eqV, D.eqv]; exact (Bool.beq_eq_decide_eq _ _)) | (simp only [eqV, D.eqv]; rfl))
theorem cnt_flat {K : PySem.W.Frag} {g : Str → Option Addr} {e : D} {w : V} (k : Rep K g RR F e w) (f2 : e.flat = true) : ∀ {l : List D} {vs : List V}, Reps K g RR F l vs → l.all D.flat = true → (vs.countP fun y => eqV y w) = l.countP fun y => D.eqv y e
  | [], _, .nil, _ => rfl
  | d :: l, _, .cons h r, f => by
    rw [List.all_cons, Bool.and_eq_true] at f
    rw [List.countP_cons, List.countP_cons, cnt_flat k f2 r f.2, eqv_flat h k f.1 f2]
theorem cnt_eqU {x : V} : ∀ {xs : List V} {us : List Value}, Vals xs us → xs.all flatV = true → us.countP (eqU x) = xs.countP fun y => eqV y x
  | _, _, .nil, _ => rfl
  | y :: xs, u :: us, .cons r t, f => by
    rw [List.all_cons, Bool.and_eq_true] at f
    rw [List.countP_cons, List.countP_cons, cnt_eqU t f.2, eqU_of r f.1]
def rCntF (K : PySem.W.Frag) : V → List V → Hp → VK → Prop := fun x xs H Q => ∃ (p : Addr) (vs : List V) (k : V), x = .ref p ∧ xs = [k] ∧ SqL K H p vs ∧ vs.all flatV = true ∧ flatV k = true ∧ Q (.int (vs.countP fun y => eqV y k : Nat)) H
theorem mt_cntF : MtR X "list.count" (rCntF X.K) := by
  intro pins s σ H x xs v us Q I rx rxs h
  obtain ⟨p, vs, k, rfl, rfl, hs, fs, fk, q⟩ := h
  cases rx
  obtain ⟨u, rfl, ru⟩ := rxs.one
  obtain ⟨its, rv, ⟨⟨cls, dd, data, sl⟩, n, ho, hc, hdn, hd⟩, hlen⟩ := I.list hs
  simp only at hc hd
  subst hc hd
  refine call_meets PySem.F.slot_list_count ⟨_, ho, rfl⟩ PySem.F.entry_list_count (PySem.F.args_list_count_2 _ _)
    (SeqAt.list_countAt p its.toArray n dd sl u (eqU k)) ⟨ho, fun y hy => mem_eqAt ru fk rv fs y (by simpa using hy), ?_⟩
  have ec : its.toArray.toList.countP (eqU k) = vs.countP fun y => eqV y k := cnt_eqU rv fs
  refine ⟨.int (vs.countP fun y => eqV y k : Nat), H, I.tok _, ⟨s.toks, ?_⟩, q⟩
  show Value.int ((its.toArray.toList.countP (eqU k) : Nat) : Int) s.toks = Value.int ((vs.countP fun y => eqV y k : Nat) : Int) s.toks
  rw [ec]
theorem snd_count {o e : Expr} {a : E} {as : Es} {apos cpos : Pos} (ho : PE X o (tE b W (ev a))) (ha : PA X [e] (tAs b W (evs as))) (hp : plainObj o = true) (hs : notStar e = true) (hl : (apos.endLine == cpos.line) = true) :
    PE X (.Call (.Attribute o "count" apos) [e] [] cpos) (tE b W (ev (.mt .count a as))) := by
  have few : ((backTo cpos (starEach [e] X.env)).all (fun x => !x.1) && (backToKw cpos (keywordEach [] X.env)).all (fun x => x.1.isSome)
      && decide ([e].length + ([] : List Keyword).length + (if ([] : List Keyword).isEmpty then 0 else 1) < 30)) = true := by
    rw [star_all cpos (show [e].all notStar = true by simp [hs])]; rfl
  refine (pe_bm PySem.F.plainAttrs_list PySem.F.slot_list_count PySem.F.type_list_count (mt_cntF (X := X)) (snd_opd ho) ha (base_no hp) few hl (star_cons hs) rfl).weak fun σ H Q ⟨RR, F, s, r, q⟩ => ?_
  simp only [ev] at q
  refine ⟨RR, F, s, r, (settled q).imp fun x s1 R1 F1 H1 p1 e1 r1 ⟨n1, q1⟩ v hv => ?_⟩
  split at q1
  · rename_i hx
    unfold S.rdLst at hx
    split at hx
    · rename_i l hl2
      cases vw_of r1 hv hl2 with
      | lst h kk =>
        refine ⟨.inl ⟨rfl, _, .inl (.inl h)⟩, R1, F1, s1, r1, q1.bind fun xs s3 R3 F3 H3 p3 e3 r3 q3 vs hvs => ?_⟩
        unfold mtV at q3
        obtain ⟨res, h3, q3⟩ := q3.opt
        cases h4 : s3.rd x with
        | none => rw [h4] at h3; cases h3
        | some x' =>
          rw [h4, Option.bind_some] at h3
          have hw := vw_of r3 (hv.up (s' := s3) (H' := H3) n1 p3 e3) h4
          simp only [mtSem] at h3
          unfold mtCount at h3
          split at h3
          · rename_i l' y'
            split at h3
            · rename_i hf
              rw [Bool.and_eq_true] at hf
              cases h3
              cases hvs with
              | cons hy t =>
                cases t
                cases hw with
                | lst h5 k5 =>
                  refine ⟨_, _, _, rfl, rfl, .inl (.inl h5), flat_reps k5 hf.2, flat_rep hy hf.1, ?_⟩
                  rw [cnt_flat hy hf.1 k5 hf.2]
                  exact q3.now r3 _ (Rep.int _)
            · cases h3
          · cases h3
    · cases hx
  · exact q1.elim

/-! ### targets -/
def tT (b : Bs) (t : T) : TG := fun v σ H Q => ∃ RR F s x s', Rel b RR F s σ H ∧ Rep b.K b.g RR F x v ∧ T.asg t x s = some s' ∧ ∀ σ', Rel b RR F s' σ' H → σ'.length = σ.length → (∀ j, j ∉ t.ixs → σ'[j]? = σ[j]?) → Q σ' H
def tTs (b : Bs) (t : List T) : TGs := fun v σ H Q => ∃ RR F s x s', Rel b RR F s σ H ∧ Reps b.K b.g RR F x v ∧ T.asgs t x s = some s' ∧ ∀ σ', Rel b RR F s' σ' H → σ'.length = σ.length → (∀ j, j ∉ T.ixss t → σ'[j]? = σ[j]?) → Q σ' H
theorem snd_index {o e : Expr} {a : E} {as : Es} {apos cpos : Pos} (ho : PE X o (tE b W (ev a))) (ha : PA X [e] (tAs b W (evs as))) (hp : plainObj o = true) (hs : notStar e = true) (hl : (apos.endLine == cpos.line) = true) :
    PE X (.Call (.Attribute o "index" apos) [e] [] cpos) (tE b W (ev (.mt .index a as))) := by
  have few : ((backTo cpos (starEach [e] X.env)).all (fun x => !x.1) && (backToKw cpos (keywordEach [] X.env)).all (fun x => x.1.isSome)
      && decide ([e].length + ([] : List Keyword).length + (if ([] : List Keyword).isEmpty then 0 else 1) < 30)) = true := by
    rw [star_all cpos (show [e].all notStar = true by simp [hs])]; rfl
  refine (pe_bm PySem.F.plainAttrs_list PySem.F.slot_list_index PySem.F.type_list_index (L2.mt_index (X := X)) (snd_opd ho) ha (base_no hp) few hl (star_cons hs) rfl).weak fun σ H Q ⟨RR, F, s, r, q⟩ => ?_
  simp only [ev] at q
  refine ⟨RR, F, s, r, (settled q).imp fun x s1 R1 F1 H1 p1 e1 r1 ⟨n1, q1⟩ v hv => ?_⟩
  split at q1
  · rename_i hx
    unfold S.rdLst at hx
    split at hx
    · rename_i l hl2
      cases vw_of r1 hv hl2 with
      | lst h kk =>
        refine ⟨.inl ⟨rfl, _, .inl (.inl h)⟩, R1, F1, s1, r1, q1.bind fun xs s3 R3 F3 H3 p3 e3 r3 q3 vs hvs => ?_⟩
        unfold mtV at q3
        obtain ⟨res, h3, q3⟩ := q3.opt
        cases h4 : s3.rd x with
        | none => rw [h4] at h3; cases h3
        | some x' =>
          rw [h4, Option.bind_some] at h3
          have hw := vw_of r3 (hv.up (s' := s3) (H' := H3) n1 p3 e3) h4
          simp only [mtSem] at h3
          unfold mtIdx at h3
          split at h3
          · rename_i l' y'
            split at h3
            · rename_i hf
              rw [Bool.and_eq_true] at hf
              obtain ⟨j, hj, rfl⟩ := Option.map_eq_some_iff.mp h3
              obtain ⟨hjl, hj1, hj2⟩ := List.findIdx?_eq_some_iff_getElem.mp hj
              cases hvs with
              | cons hy t =>
                cases t
                cases hw with
                | lst h5 k5 =>
                  obtain ⟨w, hw1, hw2⟩ := k5.get (List.getElem?_eq_getElem hjl)
                  have fz : ∀ (m : Nat) (hm : m < l'.length), (l'[m]).flat = true := fun m hm => List.all_eq_true.mp hf.2 _ (List.getElem_mem hm)
                  refine ⟨_, _, _, j, w, rfl, rfl, .inl (.inl h5), flat_rep hy hf.1, flat_reps k5 hf.2, hw1, ?_, fun m z' hm hz => ?_, q3.now r3 _ (Rep.int _)⟩
                  · rw [eqv_flat hw2 hy (fz j hjl) hf.1]; exact hj1
                  · have hml : m < l'.length := by omega
                    obtain ⟨w', hw1', hw2'⟩ := k5.get (List.getElem?_eq_getElem hml)
                    rw [hw1'] at hz
                    cases hz
                    rw [eqv_flat hw2' hy (fz m hml) hf.1]
                    have := hj2 m hm
                    simpa using this
            · cases h3
          · cases h3
    · cases hx
  · exact q1.elim

theorem _root_.L2.PG.weak {X : Cx} {e : Expr} {t t' : TG} (h : PG X e t) (k : ∀ v σ H Q, t' v σ H Q → t v σ H Q) : PG X e t' := ⟨fun pins s σ H v u Q I r q => h.run pins s σ H v u Q I r (k v σ H Q q)⟩
theorem _root_.L2.PGs.weak {X : Cx} {e : List Expr} {t t' : TGs} (h : PGs X e t) (k : ∀ v σ H Q, t' v σ H Q → t v σ H Q) : PGs X e t' := ⟨fun pins s σ H v u Q I r q => h.run pins s σ H v u Q I r (k v σ H Q q)⟩
theorem snd_nm {i : Nat} {x : Str} {pos : Pos} (hN : X.N.Nodup) (hi : X.N[i]? = some x) (hx : Loc X.env.scope x) (hf : X.fn x = true ∨ X.env.scope.names.lookup x = some .local) : PG X (.Name x pos) (tT b (.nm i)) := by
  refine (pg_name hN hi hx hf).weak fun v σ H Q ⟨RR, F, s, y, s', r, hv, h, q⟩ => ?_
  simp only [T.asg, Option.some.injEq] at h
  subst h
  refine q _ (r.storeD hv) (by simp) fun j hj => ?_
  have : j ≠ i := by simpa [T.ixs] using hj
  rw [List.getElem?_set_ne (Ne.symm this)]
theorem snd_tpn : PGs X [] (tTs b []) := by
  refine pgs_nil.weak fun v σ H Q ⟨RR, F, s, y, s', r, hv, h, q⟩ => ?_
  cases hv with
  | nil =>
    simp only [T.asgs, Option.some.injEq] at h
    subst h
    exact ⟨rfl, q σ r rfl fun _ _ => rfl⟩
  | cons _ _ => simp [T.asgs] at h
theorem snd_tpc {t : T} {ts : List T} {e : Expr} {es : List Expr} (h1 : PG X e (tT b t)) (h2 : PGs X es (tTs b ts)) (hs : notStar e = true) : PGs X (e :: es) (tTs b (t :: ts)) := by
  refine (pgs_cons h1 h2 (by rw [asg_cons hs]; rfl)).weak ?_
  rintro v σ H Q ⟨RR, F, s, y, s', r, hv, h, q⟩
  cases hv with
  | nil => simp [T.asgs] at h
  | cons ha hb =>
    rename_i x w xs ws
    simp only [T.asgs] at h
    cases h3 : T.asg t x s with
    | none => rw [h3] at h; cases h
    | some s1 =>
      rw [h3, Option.bind_some] at h
      refine ⟨w, ws, rfl, RR, F, s, x, s1, r, ha, h3, fun σ1 r1 l1 k1 => ?_⟩
      refine ⟨RR, F, s1, xs, s', r1, hb, h, fun σ2 r2 l2 k2 => q σ2 r2 (l2.trans l1) fun j hj => ?_⟩
      simp only [T.ixss, List.mem_append, not_or] at hj
      rw [k2 j hj.2, k1 j hj.1]
theorem snd_tp {ts : List T} {es : List Expr} {j : Nat} {pos : Pos} (A : Amb X b k) (h : PGs X es (tTs b ts)) (hs : es.all notStar = true) (hl : ts.length = es.length) : PG X (.Tuple es j pos) (tT b (.tp ts)) := by
  refine (pg_tup A.calm h (asg_len hs) (asg_find hs)).weak ?_
  clear h
  rintro v σ H Q ⟨RR, F, s, y, s', r, hv, h, q⟩
  cases hv <;> simp only [T.asg, reduceCtorEq] at h
  rename_i l a vs h1 h2
  split at h
  · rename_i hl2
    exact ⟨a, vs, rfl, A.K ▸ r.fz.seqT h1, by rw [← h2.len, hl2, hl], RR, F, s, l, s', r, h2, h, q⟩
  · cases h

/-! ### what a loop walks -/
def WalkD (K : PySem.W.Frag) (g : Str → Option Addr) (RR : List Addr) (F : Hp) (J : It) (L : List D) : Prop :=
  ∀ RR' F' H, RR <+: RR' → Same F F' → Same F' H → (∀ i, i < L.length → J.go i H ∧ ∀ x H', J.yld i H x H' → ∃ F2 d, L[i]? = some d ∧ Same F' F2 ∧ Same H H' ∧ (∀ a o, F2 a = some o → F' a = some o ∨ (H a = none ∧ H' a = some o)) ∧ Rep K g RR' F2 d x) ∧ J.stop L.length H
def tSrc (b : Bs) (W : WX) (f : S → O (List D)) : TI := fun σ H R => ∃ RR F s, Rel b RR F s σ H ∧ Go b W σ RR F (f s) fun L _ RR' F' H' => ∀ J, WalkD b.K b.g RR' F' J L → R J H'
theorem _root_.L2.PI.weak {X : Cx} {tg e : Expr} {t t' : TI} (h : PI X tg e t) (k : ∀ σ H Q, t' σ H Q → t σ H Q) : PI X tg e t' := ⟨fun pins s σ H Q I q => h.run pins s σ H Q I (k σ H Q q)⟩
theorem walk_list {l : List D} {a : Addr} {vs : List V} (h : F a = some (.lst vs)) (r : Reps b.K b.g RR F l vs) : WalkD b.K b.g RR F (Itl b.K a) l := fun RR' F' H p e e2 => by
  have ha : H a = some (.lst vs) := e2 _ _ (e _ _ h)
  refine ⟨fun i hi => ?_, ⟨vs, .inl (.inl ha), by rw [r.len]; exact Nat.le_refl _⟩⟩
  obtain ⟨v, h1, h2⟩ := r.get (List.getElem?_eq_getElem hi)
  refine ⟨⟨vs, v, .inl (.inl ha), h1⟩, fun x H' ⟨e3, hx⟩ => ?_⟩
  have h3 := hx vs (.inl (.inl ha))
  rw [h1] at h3; cases h3
  subst e3
  exact ⟨F', _, List.getElem?_eq_getElem hi, Same.refl _, Same.refl _, fun _ _ z => .inl z, h2.mono e p⟩
theorem walk_tup {l : List D} {a : Addr} {vs : List V} (h : SqT b.K F a vs) (r : Reps b.K b.g RR F l vs) : WalkD b.K b.g RR F (Itt b.K a) l := fun RR' F' H p e e2 => by
  have ha : SqT b.K H a vs := e2.seqT (e.seqT h)
  refine ⟨fun i hi => ?_, ⟨vs, ha, by rw [r.len]; exact Nat.le_refl _⟩⟩
  obtain ⟨v, h1, h2⟩ := r.get (List.getElem?_eq_getElem hi)
  refine ⟨⟨vs, v, ha, h1⟩, fun x H' ⟨e3, hx⟩ => ?_⟩
  have h3 := hx vs ha
  rw [h1] at h3; cases h3
  subst e3
  exact ⟨F', _, List.getElem?_eq_getElem hi, Same.refl _, Same.refl _, fun _ _ z => .inl z, h2.mono e p⟩
theorem rangeD_get : ∀ (n : Nat) (a : Int) (i : Nat), i < n → (rangeD a n)[i]? = some (.int (a + i))
  | 0, _, _, h => absurd h (Nat.not_lt_zero _)
  | n + 1, a, 0, _ => by simp [rangeD]
  | n + 1, a, i + 1, h => by
    rw [rangeD, List.getElem?_cons_succ, rangeD_get n (a + 1) i (by omega)]
    congr 2
    omega
theorem rangeD_len : ∀ (n : Nat) (a : Int), (rangeD a n).length = n
  | 0, _ => rfl
  | n + 1, a => by rw [rangeD, List.length_cons, rangeD_len]
theorem walk_range (a : Int) (n : Nat) : WalkD b.K b.g RR F (Itr a n) (rangeD a n) := fun RR' F' H p e e2 => by
  refine ⟨fun i hi => ?_, by rw [rangeD_len]; exact Nat.le_refl _⟩
  rw [rangeD_len] at hi
  refine ⟨hi, fun x H' ⟨e3, hx⟩ => ?_⟩
  subst e3 hx
  exact ⟨F', _, rangeD_get n a i hi, Same.refl _, Same.refl _, fun _ _ z => .inl z, .int _⟩
/-- a list or a tuple, walked -/
def iAny (K : PySem.W.Frag) (tl : TE) : TI := fun σ H R => tl σ H fun x H1 => ∃ a, x = .ref a ∧ (((∃ xs, SqL K H1 a xs) ∧ R (Itl K a) H1) ∨ ((∃ xs, SqT K H1 a xs) ∧ R (Itt K a) H1))
theorem pi_any {tg l : Expr} {tl : TE} (hl : PE X l tl) : PI X tg l (iAny X.K tl) := by
  refine ⟨fun pins s σ H R I h => ?_⟩
  refine thn (hl.run pins s σ H _ I h) fun v s1 ⟨x, H1, I1, r1, a, e, q⟩ => ?_
  subst e
  cases r1
  have fp : ∀ b ∈ [s1.heap.objs.size], FpOk X pins H1 b := fun b hb => by
    have e : b = s1.heap.objs.size := by simpa using hb
    subst e
    exact I1.fpOk (Nat.le_refl _) (I1.hok.fresh (Nat.le_refl _))
  rcases q with ⟨⟨xs, hq⟩, q⟩ | ⟨⟨xs, hq⟩, q⟩
  · obtain ⟨its, rv, p, hz⟩ := I1.list hq
    refine wpAny_pyIter_list p.isList ⟨s1.heap.objs.size, [s1.heap.objs.size], _, _, H1, rfl, ?_, turn_list a _, ⟨_, Heap.get?_push_size _ rfl, rfl, rfl⟩, fp, q⟩
    exact I1.kept (t' := s1.toks) fun b o e => Heap.get?_push_of_some _ e
  · obtain ⟨its, rv, p, hz⟩ := I1.tuple hq
    refine wpAny_pyIter_tuple (show s1.heap.IsTuple a its.toArray from p) ⟨s1.heap.objs.size, [s1.heap.objs.size], _, _, H1, rfl, ?_, turn_tuple a _, ⟨_, Heap.get?_push_size _ rfl, rfl, rfl⟩, fp, q⟩
    exact I1.kept (t' := s1.toks) fun b o e => Heap.get?_push_of_some _ e
theorem snd_seq {tg e : Expr} {a : E} (hK : b.K = X.K) (ha : PE X e (tE b W (ev a))) : PI X tg e (tSrc b W (evSrc (.seq a))) := by
  refine (pi_any (snd_val ha)).weak fun σ H R ⟨RR, F, s, r, q⟩ => ?_
  simp only [evSrc] at q
  refine ⟨RR, F, s, r, q.bind fun x s1 R1 F1 H1 p1 e1 r1 q1 v hv => ?_⟩
  rw [← hK]
  split at q1
  · cases hv with
    | lst h k => exact ⟨_, rfl, .inl ⟨⟨_, .inl (.inl (r1.fz _ _ h))⟩, q1.now r1 _ (walk_list h k)⟩⟩
  · cases hv with
    | tup h k => exact ⟨_, rfl, .inr ⟨⟨_, r1.fz.seqT h⟩, q1.now r1 _ (walk_tup h k)⟩⟩
  · exact q1.elim
theorem snd_rng1 {tg e : Expr} {a : E} {p pos : Pos} (hg : Gl X "range") (hm : X.mg "range" = none) (ha : PE X e (tE b W (ev a))) (hs : notStar e = true) : PI X tg (.Call (.Name "range" p) [e] [] pos) (tSrc b W (evSrc (.rng1 a))) := by
  refine (pi_range1 hg hm (pa_cons (snd_val ha) pa_nil (star_cons hs)) (star_cons hs)).weak fun σ H R ⟨RR, F, s, r, q⟩ => ?_
  simp only [evSrc] at q
  refine ⟨RR, F, s, r, q.bind fun x s1 R1 F1 H1 p1 e1 r1 q1 v hv => ?_⟩
  obtain ⟨L, h1, q1⟩ := q1.opt
  unfold rng1Sem at h1
  split at h1
  · rename_i j h2
    cases h2
    split at h1
    · rename_i hj
      cases h1
      cases hv
      have := small_iff hj
      exact ⟨j, rfl, this.1, this.2, q1.now r1 _ (walk_range _ _)⟩
    · cases h1
  · cases h1
theorem snd_rng2 {tg e f : Expr} {a c : E} {p pos : Pos} (hg : Gl X "range") (hm : X.mg "range" = none) (ha : PE X e (tE b W (ev a))) (hb : PE X f (tE b W (ev c))) (hs : notStar e = true) (ht : notStar f = true) : PI X tg (.Call (.Name "range" p) [e, f] [] pos) (tSrc b W (evSrc (.rng2 a c))) := by
  have e1 : starEach [e, f] X.env = [(false, eval e X.env), (false, eval f X.env)] := by rw [star_cons hs, star_cons ht]; rfl
  refine (pi_range2 hg hm (pa_cons (snd_val ha) (pa_cons (snd_val hb) pa_nil (star_cons ht)) (star_cons hs)) e1 (star_cons ht)).weak fun σ H R ⟨RR, F, s, r, q⟩ => ?_
  simp only [evSrc] at q
  refine ⟨RR, F, s, r, q.bind fun x s1 R1 F1 H1 p1 e1 r1 q1 v hv => ?_⟩
  refine ⟨R1, F1, s1, r1, q1.bind fun y s2 R2 F2 H2 p2 e2 r2 q2 u hu => ?_⟩
  obtain ⟨L, h1, q2⟩ := q2.opt
  unfold rng2Sem at h1
  split at h1
  · rename_i i j h2
    cases h2
    split at h1
    · rename_i hj
      cases h1
      cases hv; cases hu
      rw [Bool.and_eq_true] at hj
      have k1 := small_iff hj.1
      have k2 := small_iff hj.2
      exact ⟨i, j, rfl, ⟨k1.1, k1.2, k2.1, k2.2⟩, q2.now r2 _ (walk_range _ _)⟩
    · cases h1
  · cases h1
theorem enumFrom_get : ∀ (l : List D) (k i : Nat) (d : D), l[i]? = some d → (enumFrom k l)[i]? = some (.tup [.int ((k + i : Nat) : Int), d])
  | [], _, _, _, h => by simp at h
  | x :: l, k, 0, d, h => by simp at h; subst h; simp [enumFrom]
  | x :: l, k, i + 1, d, h => by
    rw [enumFrom, List.getElem?_cons_succ, enumFrom_get l (k + 1) i d (by simpa using h), Nat.add_right_comm, Nat.add_assoc]
theorem enumFrom_len : ∀ (l : List D) (k : Nat), (enumFrom k l).length = l.length
  | [], _ => rfl
  | _ :: l, k => by rw [enumFrom, List.length_cons, List.length_cons, enumFrom_len]
/-- a new tuple, kept -/
theorem new_tup {K : PySem.W.Frag} {g : Str → Option Addr} {l : List D} {vs : List V} {T : Addr} (e : Same F H) (hT : H T = none) (r : Reps K g RR F l vs) :
    ∃ F2, Same F F2 ∧ Same H (upd H T (.tup vs)) ∧ (∀ a o, F2 a = some o → F a = some o ∨ (H a = none ∧ upd H T (.tup vs) a = some o)) ∧ Rep K g RR F2 (.tup l) (.ref T) := by
  have fp : F T = none := by
    cases z : F T with
    | none => rfl
    | some o => rw [e _ _ z] at hT; cases hT
  have e1 : Same F (upd F T (.tup vs)) := same_new fp
  refine ⟨_, e1, same_new hT, fun a o h => ?_, .tup (.inl (.inl upd_same)) (r.mono e1 (List.prefix_refl _))⟩
  by_cases z : a = T
  · subst z
    rw [upd_same] at h; cases h
    exact .inr ⟨hT, upd_same⟩
  · rw [upd_ne z] at h; exact .inl h
theorem walk_enum {l : List D} {a : Addr} {vs : List V} (h : F a = some (.lst vs)) (r : Reps b.K b.g RR F l vs) : WalkD b.K b.g RR F (Ite b.K a) (enumFrom 0 l) := fun RR' F' H p e e2 => by
  have ha : H a = some (.lst vs) := e2 _ _ (e _ _ h)
  rw [enumFrom_len]
  refine ⟨fun i hi => ?_, ⟨vs, .inl (.inl ha), by rw [r.len]; exact Nat.le_refl _⟩⟩
  have hd := List.getElem?_eq_getElem hi
  obtain ⟨v, h1, h2⟩ := r.get hd
  refine ⟨⟨vs, v, .inl (.inl ha), h1⟩, fun x H' ⟨T, y, hx, hT, hH, hy⟩ => ?_⟩
  have h3 := hy vs (.inl (.inl ha))
  rw [h1] at h3; cases h3
  subst hx hH
  have rr : Reps b.K b.g RR' F' [.int ((0 + i : Nat) : Int), l[i]] [.int (i : Nat), v] := .cons (by rw [Nat.zero_add]; exact .int _) (.cons (h2.mono e p) .nil)
  obtain ⟨F2, k1, k2, k3, k4⟩ := new_tup e2 hT rr
  exact ⟨F2, _, enumFrom_get l 0 i _ hd, k1, k2, k3, k4⟩
theorem snd_enum {e : Expr} {a : E} {p pos tpos : Pos} {elts : List Expr} {kk : Nat} (hK : b.K = X.K) (hg : Gl X "enumerate") (hm : X.mg "enumerate" = none) (ha : PE X e (tE b W (ev a))) (hs : notStar e = true) :
    PI X (.Tuple elts kk tpos) (.Call (.Name "enumerate" p) [e] [] pos) (tSrc b W (evSrc (.enum a))) := by
  refine (pi_enum hg hm (pa_cons (snd_val ha) pa_nil (star_cons hs)) (star_cons hs)).weak fun σ H R ⟨RR, F, s, r, q⟩ => ?_
  simp only [evSrc] at q
  refine ⟨RR, F, s, r, q.bind fun x s1 R1 F1 H1 p1 e1 r1 q1 v hv => ?_⟩
  rw [← hK]
  split at q1
  · cases hv with
    | lst h k => exact ⟨_, _, rfl, .inl (.inl (r1.fz _ _ h)), q1.now r1 _ (walk_enum h k)⟩
  · exact q1.elim
theorem zipD_get : ∀ (l m : List D) (i : Nat) (d e : D), l[i]? = some d → m[i]? = some e → (zipD l m)[i]? = some (.tup [d, e])
  | [], _, _, _, _, h, _ => by simp at h
  | _ :: _, [], _, _, _, _, h => by simp at h
  | x :: l, y :: m, 0, d, e, h, k => by simp at h k; subst h k; simp [zipD]
  | x :: l, y :: m, i + 1, d, e, h, k => by
    rw [zipD, List.getElem?_cons_succ]
    exact zipD_get l m i d e (by simpa using h) (by simpa using k)
theorem zipD_len : ∀ l m : List D, (zipD l m).length = min l.length m.length
  | [], m => by simp [zipD]
  | _ :: _, [] => by simp [zipD]
  | _ :: l, _ :: m => by
    rw [zipD, List.length_cons, zipD_len l m, List.length_cons, List.length_cons]
    omega
theorem walk_zip {l m : List D} {a c : Addr} {vs ws : List V} (h : F a = some (.lst vs)) (r : Reps b.K b.g RR F l vs) (h' : F c = some (.lst ws)) (r' : Reps b.K b.g RR F m ws) : WalkD b.K b.g RR F (Itz b.K a c) (zipD l m) := fun RR' F' H p e e2 => by
  have ha : H a = some (.lst vs) := e2 _ _ (e _ _ h)
  have hc : H c = some (.lst ws) := e2 _ _ (e _ _ h')
  rw [zipD_len]
  have l1 := r.len
  have l2 := r'.len
  refine ⟨fun i hi => ?_, ⟨vs, ws, .inl (.inl ha), .inl (.inl hc), by omega⟩⟩
  have hd : l[i]? = some l[i] := List.getElem?_eq_getElem (by omega)
  have hd' : m[i]? = some m[i] := List.getElem?_eq_getElem (by omega)
  obtain ⟨v, h1, h2⟩ := r.get hd
  obtain ⟨w, h3, h4⟩ := r'.get hd'
  refine ⟨⟨vs, ws, v, w, .inl (.inl ha), .inl (.inl hc), h1, h3⟩, fun x H' ⟨T, y, z, hx, hT, hH, hy, hz⟩ => ?_⟩
  have h5 := hy vs (.inl (.inl ha))
  rw [h1] at h5; cases h5
  have h6 := hz ws (.inl (.inl hc))
  rw [h3] at h6; cases h6
  subst hx hH
  have rr : Reps b.K b.g RR' F' [l[i], m[i]] [v, w] := .cons (h2.mono e p) (.cons (h4.mono e p) .nil)
  obtain ⟨F2, k1, k2, k3, k4⟩ := new_tup e2 hT rr
  exact ⟨F2, _, zipD_get l m i _ _ hd hd', k1, k2, k3, k4⟩
theorem snd_zip {e f : Expr} {a c : E} {p pos tpos : Pos} {elts : List Expr} {kk : Nat} (hK : b.K = X.K) (hg : Gl X "zip") (hm : X.mg "zip" = none) (ha : PE X e (tE b W (ev a))) (hb : PE X f (tE b W (ev c))) (hs : notStar e = true) (ht : notStar f = true) :
    PI X (.Tuple elts kk tpos) (.Call (.Name "zip" p) [e, f] [] pos) (tSrc b W (evSrc (.zip a c))) := by
  refine (pi_zip hg hm (pa_cons (snd_val ha) (pa_cons (snd_val hb) pa_nil (star_cons ht)) (star_cons hs)) (star_cons hs) (star_any pos (by simp [ht]))).weak fun σ H R ⟨RR, F, s, r, q⟩ => ?_
  simp only [evSrc] at q
  refine ⟨RR, F, s, r, q.bind fun x s1 R1 F1 H1 p1 e1 r1 q1 v hv => ?_⟩
  refine ⟨R1, F1, s1, r1, q1.bind fun y s2 R2 F2 H2 p2 e2 r2 q2 u hu => ?_⟩
  rw [← hK]
  have hv := hv.mono e2 p2
  split at q2
  · cases hv with
    | lst h k =>
      cases hu with
      | lst h' k' => exact ⟨_, _, _, _, rfl, .inl (.inl (r2.fz _ _ h)), .inl (.inl (r2.fz _ _ h')), q2.now r2 _ (walk_zip h k h' k')⟩
  · exact q2.elim
end
end G4

namespace G4
open PySem PySem.Spec PyProof.Rows L2
/-! ### dicts -/
section
variable {X : Cx} {b : Bs} {W : WX} {k : Nat} {σ : L2.St} {RR RR' : List Addr} {F F' H H' : Hp} {s : S} {Q : VK}
theorem nosl_no {e : Expr} (h : notSlice e = true) : NoSl e := fun ov iv => by
  cases e <;> first | rfl | cases h
theorem dct_of {x : R} {v : V} {l : List (Key × D)} (r : Rel b RR F s σ H) (hv : RRel b RR F s σ H x v) (e : s.rd x = some (.dct l)) : ∃ a vs, v = .ref a ∧ Rd H a (.dK vs) ∧ RepK b.K b.g RR F l vs := by
  cases vw_of r hv e with
  | dct h k => exact ⟨_, _, rfl, h, k⟩
theorem rdDct_of {x : R} (e : s.rdDct x = true) : ∃ l, s.rd x = some (.dct l) := by
  unfold S.rdDct at e
  split at e
  · exact ⟨_, by assumption⟩
  · cases e
theorem key_of' {y : R} {u : V} {kk : Key} (r : Rel b RR F s σ H) (hu : RRel b RR F s σ H y u) (e : (s.rd y).bind keyOf = some kk) : u = kV kk := by
  cases h : s.rd y with
  | none => rw [h] at e; cases e
  | some d =>
    rw [h, Option.bind_some] at e
    exact key_vw (vw_of r hu h) e
theorem snd_dix {e f : Expr} {a c : E} {pos : Pos} (A : Amb X b k) (ha : PE X e (tE b W (ev a))) (hb : PE X f (tE b W (ev c))) (hp : notSlice f = true) : PE X (.Subscript e f pos) (tE b W (ev (.dix a c))) := by
  refine (pe_dget (by have := A.hu; omega) (snd_opd ha) (snd_opd hb) (nosl_no hp)).weak fun σ H Q ⟨RR, F, s, r, q⟩ => ?_
  simp only [ev] at q
  refine ⟨RR, F, s, r, (settled q).imp fun x s1 R1 F1 H1 p1 e1 r1 ⟨n1, q1⟩ v hv => ?_⟩
  refine ⟨R1, F1, s1, r1, (settled q1).imp fun y s2 R2 F2 H2 p2 e2 r2 ⟨n2, q2⟩ u hu => ?_⟩
  have hv2 := hv.up (s' := s2) (H' := H2) n1 p2 e2
  unfold dixV at q2
  split at q2
  · rename_i l kk h1 h2
    obtain ⟨a2, vs, rfl, h3, h4⟩ := dct_of r2 hv2 h1
    have h5 := key_of' r2 hu h2
    subst h5
    obtain ⟨res, h6, q3⟩ := q2.opt
    obtain ⟨d, h7, rfl⟩ := map_some h6
    obtain ⟨w, h8, h9⟩ := (h4.look kk).1 d h7
    refine ⟨a2, w, rfl, ?_, q3.now r2 w h9⟩
    have : DGet H2 a2 (kV kk) (valV vs kk) := .inl ⟨vs, kk, h3, rfl, rfl⟩
    rw [h8] at this
    exact this
  · exact q2.elim
theorem snd_dget {o e f : Expr} {a c d : E} {apos cpos : Pos} (A : Amb X b k) (ho : PE X o (tE b W (ev a))) (he : PE X e (tE b W (ev c))) (hf : PE X f (tE b W (ev d))) (hp : plainObj o = true) (hs : notStar e = true) (hs2 : notStar f = true) (hl : (apos.endLine == cpos.line) = true) :
    PE X (.Call (.Attribute o "get" apos) [e, f] [] cpos) (tE b W (ev (.dget a c d))) := by
  have few : ((backTo cpos (starEach [e, f] X.env)).all (fun x => !x.1) && (backToKw cpos (keywordEach [] X.env)).all (fun x => x.1.isSome)
      && decide ([e, f].length + ([] : List Keyword).length + (if ([] : List Keyword).isEmpty then 0 else 1) < 30)) = true := by
    rw [star_all cpos (show [e, f].all notStar = true by simp [hs, hs2])]; rfl
  have tr : backTo cpos (starEach [e, f] X.env) = [(false, eval e X.env), (false, eval f X.env)] := by
    rw [star_cons hs, star_cons hs2]; rfl
  refine (pe_dget2 (by have := A.hu; omega) (snd_opd ho) (snd_opd he) (snd_val hf) ⟨base_no hp, few, hl, tr⟩).weak fun σ H Q ⟨RR, F, s, r, q⟩ => ?_
  simp only [ev] at q
  refine ⟨RR, F, s, r, (settled q).imp fun x s1 R1 F1 H1 p1 e1 r1 ⟨n1, q1⟩ v hv => ?_⟩
  split at q1
  · rename_i hx
    obtain ⟨l0, hl0⟩ := rdDct_of hx
    obtain ⟨a2, vs0, rfl, h3, _⟩ := dct_of r1 hv hl0
    refine ⟨a2, rfl, .inl ⟨vs0, h3⟩, R1, F1, s1, r1, (settled q1).imp fun y s2 R2 F2 H2 p2 e2 r2 ⟨n2, q2⟩ u hu => ?_⟩
    have hv2 := hv.up (s' := s2) (H' := H2) n1 p2 e2
    refine ⟨R2, F2, s2, r2, q2.bind fun z s3 R3 F3 H3 p3 e3 r3 q3 t ht => ?_⟩
    have hv3 := hv2.up (s' := s3) (H' := H3) n1 p3 e3
    have hu3 := hu.up (s' := s3) (H' := H3) n2 p3 e3
    unfold dgetV at q3
    split at q3
    · rename_i l kk h1 h2
      obtain ⟨a3, vs, ea, h4, h5⟩ := dct_of r3 hv3 h1
      cases ea
      have h6 := key_of' r3 hu3 h2
      subst h6
      refine ⟨_, .inl ⟨vs, kk, h4, rfl, rfl⟩, ?_⟩
      obtain ⟨g1, g2⟩ := h5.look kk
      cases hq : lookK l kk with
      | some d =>
        obtain ⟨w, h8, h9⟩ := g1 d hq
        rw [h8]
        rw [hq] at q3
        exact q3.now r3 w h9
      | none =>
        rw [g2 hq]
        rw [hq] at q3
        exact q3.now r3 t ht
    · exact q3.elim
  · exact q1.elim
/-! ### op= -/
theorem iop_mulW : OpR X (inplaceOp .Mult) (rI CMulW fun i j => .int (i * j)) := opI fun _ _ _ _ _ _ _ hc q => imul_int q hc.ok
/-- ints by their operator, in place -/
def rIp (o : Operator) : R2 := fun v w H Q => ∃ i j z, v = .int i ∧ w = .int j ∧ o ≠ .Pow ∧ opBin o (.int i) (.int j) = some (.d (.int z)) ∧ Q (.int z) H
theorem ok_ip (o : Operator) : OpR X (inplaceOp o) (rIp o) := by
  have no : ∀ {o}, (∀ i j, opBin o (.int i) (.int j) = none) → OpR X (inplaceOp o) (rIp o) := fun h => by
    intro pins s σ H x y v u Q I r1 r2 ⟨i, j, z, e1, e2, _, ho, q⟩
    rw [h] at ho; cases ho
  cases o with
  | Add => exact (iop_add (X := X)).imp fun v w H Q ⟨i, j, z, h1, h2, _, ho, q⟩ => by cases ho; exact ⟨i, j, h1, h2, q⟩
  | Sub => exact (iop_sub (X := X)).imp fun v w H Q ⟨i, j, z, h1, h2, _, ho, q⟩ => by cases ho; exact ⟨i, j, h1, h2, q⟩
  | Mult =>
    refine (iop_mulW (X := X)).imp fun v w H Q ⟨i, j, z, h1, h2, _, ho, q⟩ => ?_
    simp only [opBin] at ho
    split at ho
    · rename_i hl; cases ho; exact ⟨i, j, h1, h2, hl, q⟩
    · cases ho
  | FloorDiv =>
    refine (iop_fdivW (X := X)).imp fun v w H Q ⟨i, j, z, h1, h2, _, ho, q⟩ => ?_
    simp only [opBin] at ho
    split at ho
    · rename_i hl; cases ho; exact ⟨i, j, h1, h2, hl, q⟩
    · cases ho
  | Mod =>
    refine (iop_mod (X := X)).imp fun v w H Q ⟨i, j, z, h1, h2, _, ho, q⟩ => ?_
    simp only [opBin] at ho
    split at ho
    · rename_i hl; cases ho; exact ⟨i, j, h1, h2, hl, q⟩
    · cases ho
  | LShift =>
    refine (iop_shlW (X := X)).imp fun v w H Q ⟨i, j, z, h1, h2, _, ho, q⟩ => ?_
    simp only [opBin] at ho
    split at ho
    · rename_i hl; cases ho; exact ⟨i, j, h1, h2, hl, q⟩
    · cases ho
  | RShift =>
    refine (iop_shr (X := X)).imp fun v w H Q ⟨i, j, z, h1, h2, _, ho, q⟩ => ?_
    simp only [opBin] at ho
    split at ho
    · rename_i hl; cases ho; exact ⟨i, j, h1, h2, hl, q⟩
    · cases ho
  | BitAnd => exact (iop_and (X := X)).imp fun v w H Q ⟨i, j, z, h1, h2, _, ho, q⟩ => by cases ho; exact ⟨i, j, h1, h2, q⟩
  | BitOr => exact (iop_or (X := X)).imp fun v w H Q ⟨i, j, z, h1, h2, _, ho, q⟩ => by cases ho; exact ⟨i, j, h1, h2, q⟩
  | Pow => intro pins s σ H x y v u Q I r1 r2 ⟨i, j, z, e1, e2, hne, ho, q⟩; exact absurd rfl hne
  | MatMult => exact no fun i j => rfl
  | Div => exact no fun i j => rfl
  | BitXor => exact no fun i j => rfl
end
end G4

namespace G4
open PySem PySem.Spec PyProof.Rows L2

/-! ### slots hidden and brought back -/
theorem hideSl_len (sl : List SV) : ∀ vs : List Nat, (hideSl sl vs).length = sl.length
  | [] => rfl
  | v :: vs => by rw [hideSl, List.length_set, hideSl_len sl vs]
theorem hideSl_get {sl : List SV} {i : Nat} {x : SV} : ∀ {vs : List Nat}, (hideSl sl vs)[i]? = some x → x ≠ .un → sl[i]? = some x ∧ i ∉ vs
  | [], h, _ => ⟨h, by simp⟩
  | v :: vs, h, n => by
    rw [hideSl] at h
    rcases set_cases h with ⟨rfl, e, _⟩ | ⟨m, h⟩
    · exact absurd e n
    · obtain ⟨h1, h2⟩ := hideSl_get h n
      exact ⟨h1, by simp only [List.mem_cons, not_or]; exact ⟨m, h2⟩⟩
theorem hideSl_out {sl : List SV} {i : Nat} : ∀ {vs : List Nat}, i ∉ vs → (hideSl sl vs)[i]? = sl[i]?
  | [], _ => rfl
  | v :: vs, h => by
    simp only [List.mem_cons, not_or] at h
    rw [hideSl, List.getElem?_set_ne (Ne.symm h.1), hideSl_out h.2]
theorem backSl_len (old sl : List SV) : ∀ vs : List Nat, (backSl old sl vs).length = sl.length
  | [] => rfl
  | v :: vs => by rw [backSl, List.length_set, backSl_len old sl vs]
theorem backSl_get {old sl : List SV} {i : Nat} {x : SV} : ∀ {vs : List Nat}, (backSl old sl vs)[i]? = some x → (i ∈ vs ∧ x = old.getD i .un) ∨ (i ∉ vs ∧ sl[i]? = some x)
  | [], h => .inr ⟨by simp, h⟩
  | v :: vs, h => by
    rw [backSl] at h
    rcases set_cases h with ⟨rfl, e, _⟩ | ⟨m, h⟩
    · exact .inl ⟨by simp, e⟩
    · rcases backSl_get h with ⟨h1, h2⟩ | ⟨h1, h2⟩
      · exact .inl ⟨by simp [h1], h2⟩
      · exact .inr ⟨by simp only [List.mem_cons, not_or]; exact ⟨m, h1⟩, h2⟩
theorem wipe_in {σ : L2.St} {i : Nat} : ∀ {vs : List Nat}, i ∈ vs → i < σ.length → (wipe σ vs)[i]? = some none
  | [], h, _ => by simp at h
  | v :: vs, h, hl => by
    unfold wipe
    by_cases e : v = i
    · subst e; rw [List.getElem?_set_self (by rw [wipe_length]; exact hl)]
    · rw [List.getElem?_set_ne e]
      rcases List.mem_cons.mp h with z | z
      · exact absurd z.symm e
      · exact wipe_in z hl
theorem wipe_eq {σ τ : L2.St} {vs : List Nat} (hl : τ.length = σ.length) (h : ∀ j, j ∉ vs → τ[j]? = σ[j]?) : wipe τ vs = wipe σ vs := by
  apply List.ext_getElem?
  intro i
  by_cases hi : i ∈ vs
  · by_cases hb : i < σ.length
    · rw [wipe_in hi hb, wipe_in hi (by rw [hl]; exact hb)]
    · rw [List.getElem?_eq_none (by rw [wipe_length]; omega), List.getElem?_eq_none (by rw [wipe_length]; omega)]
  · rw [wipe_out hi, wipe_out hi, h i hi]
section
variable {X : Cx} {b : Bs} {W : WX} {k : Nat} {σ : L2.St} {RR RR' : List Addr} {F F' H H' : Hp} {s : S} {Q : VK}
theorem Rel.hide (r : Rel b RR F s σ H) (vs : List Nat) : Rel b RR F (s.hide vs) (wipe σ vs) H :=
  r.un (by rw [hideSl_len, wipe_length]; exact r.len) fun i x h n => by
    obtain ⟨h1, h2⟩ := hideSl_get h n
    exact ⟨h1, wipe_out h2⟩
/-- a lone object is written -/
theorem Rel.writeL {a : Addr} {o : HO} (r : Rel b RR F s σ H) (l : Lone b RR F s σ a) : Rel b RR F s σ (upd H a o) where
  fz := fun c x q => by rw [upd_ne fun z => by rw [z, l.f] at q; cases q]; exact r.fz _ _ q
  f0 := r.f0
  fn := r.fn
  keep := fun c x q n => by rw [upd_ne fun z => by rw [z, l.h] at q; cases q]; exact r.keep c x q n
  pre := r.pre
  new := r.new
  nd := r.nd
  rf := r.rf
  stl := r.stl
  st := fun n c x q p => by
    have hx : x ≠ a := fun z => l.r (z ▸ List.mem_of_getElem? p)
    exact ⟨(r.st n c x q p).1.mono (Same.refl _) (List.prefix_refl _) fun o w => by rw [upd_ne hx]; exact w, (r.st n c x q p).2⟩
  len := r.len
  sd := r.sd
  so := fun i c q => by
    obtain ⟨x, h1, h2, h3⟩ := r.so i c q
    have hx : x ≠ a := fun z => l.o i c q (by rw [← z]; exact h1)
    exact ⟨x, h1, h2.mono (Same.refl _) (List.prefix_refl _) fun o w => by rw [upd_ne hx]; exact w, h3⟩
  ap := r.ap
theorem Lone.hide {a : Addr} (l : Lone b RR F s σ a) (vs : List Nat) : Lone b RR F (s.hide vs) (wipe σ vs) a := ⟨l.f, l.r, l.h, fun i c h q => by
  obtain ⟨h1, h2⟩ := hideSl_get h (by intro z; cases z)
  rw [wipe_out h2] at q
  exact l.o i c h1 q⟩
abbrev Wf : WX := fun _ _ _ _ => False
/-- whatever is set aside -/
def anyE (b : Bs) (t : Bs → TE) : TE := fun σ H Q => ∃ c : Bs, c.K = b.K ∧ c.g = b.g ∧ t c σ H Q
def anyT (b : Bs) (t : Bs → TT) : TT := fun σ H Q => ∃ c : Bs, c.K = b.K ∧ c.g = b.g ∧ t c σ H Q
def anyG (b : Bs) (t : Bs → TG) : TG := fun v σ H Q => ∃ c : Bs, c.K = b.K ∧ c.g = b.g ∧ t c v σ H Q
theorem any_e {e : Expr} {t : Bs → TE} (h : ∀ c : Bs, c.K = b.K → c.g = b.g → PE X e (t c)) : PE X e (anyE b t) := ⟨fun pins s σ H Q I ⟨c, h1, h2, q⟩ => (h c h1 h2).run pins s σ H Q I q⟩
theorem any_t {e : List Expr} {t : Bs → TT} (h : ∀ c : Bs, c.K = b.K → c.g = b.g → PTs X e (t c)) : PTs X e (anyT b t) := ⟨fun pins s σ H Q I ⟨c, h1, h2, q⟩ => (h c h1 h2).run pins s σ H Q I q⟩
theorem any_g {e : Expr} {t : Bs → TG} (h : ∀ c : Bs, c.K = b.K → c.g = b.g → PG X e (t c)) : PG X e (anyG b t) := ⟨fun pins s σ H v u Q I r ⟨c, h1, h2, q⟩ => (h c h1 h2).run pins s σ H v u Q I r q⟩
theorem bind_inv {α β : Type} {o : O α} {f : α → S → O β} {y : β} {t : S} (h : o.bind f = .ok y t) : ∃ a s, o = .ok a s ∧ f a s = .ok y t := by
  cases o with
  | ok a s => exact ⟨a, s, rfl, h⟩
  | ex e s => cases h
  | bad => cases h
theorem noex_go {α β : Type} {o : O α} {f : α → S → O β} {P : β → S → List Addr → Hp → Hp → Prop} (q : Go b W σ RR F (o.noex.bind f) P) : ∃ a t, o = .ok a t ∧ Go b W σ RR F (f a t) P := by
  cases o with
  | ok a t => exact ⟨a, t, rfl, q⟩
  | ex e s => exact q.elim
  | bad => exact q.elim
/-- a value known to come -/
theorem go_ok {α : Type} {a : α} {o : O α} {t : S} {P : α → S → List Addr → Hp → Hp → Prop} (h : o = .ok a t) (k : ∀ RR' F' H', RR <+: RR' → Same F F' → Rel b RR' F' t σ H' → P a t RR' F' H') : Go b W σ RR F o P := by
  subst h
  exact k
theorem snd_lc {own : List (Str × Nat)} {e : E} {g : T} {src : Src} {c : EO} {elt tg iter : Expr} {ifs : List Expr} {scope : Scope} {pos : Pos} (A : Amb X b k) (ok : BlkOk X.N X.env.scope scope own) (hix : ∀ i ∈ g.ixs, i ∈ own.map (·.2))
    (hi : PI X tg iter (tSrc b W (evSrc src))) (hs : notSet iter = true)
    (hg : ∀ b' : Bs, b'.K = b.K → b'.g = b.g → ∀ (s : Shared) (H : Hp) (C : Addr) (cl : List (Str × Addr)) (fp : List Addr), PG (X.blk s H scope (compEnvC scope cl C X.env) fp) tg (tT b' g))
    (ht : ∀ b' : Bs, b'.K = b.K → b'.g = b.g → ∀ (s : Shared) (H : Hp) (C : Addr) (cl : List (Str × Addr)) (fp : List Addr), PTs (X.blk s H scope (compEnvC scope cl C X.env) fp) ifs (tB' b' Wf (evc c)))
    (he : ∀ b' : Bs, b'.K = b.K → b'.g = b.g → ∀ (s : Shared) (H : Hp) (C : Addr) (cl : List (Str × Addr)) (fp : List Addr), PE (X.blk s H scope (compEnvC scope cl C X.env) fp) elt (tE b' Wf (ev e))) :
    ∃ wi gg tt te, PI X tg iter wi ∧ (∀ (s : Shared) (H : Hp) (C : Addr) (cl : List (Str × Addr)) (fp : List Addr), PG (X.blk s H scope (compEnvC scope cl C X.env) fp) tg gg) ∧
      (∀ (s : Shared) (H : Hp) (C : Addr) (cl : List (Str × Addr)) (fp : List Addr), PTs (X.blk s H scope (compEnvC scope cl C X.env) fp) ifs tt) ∧
      (∀ (s : Shared) (H : Hp) (C : Addr) (cl : List (Str × Addr)) (fp : List Addr), PE (X.blk s H scope (compEnvC scope cl C X.env) fp) elt te) ∧
      ∀ σ H Q, tE b W (ev (.lc own e g src c)) σ H Q → tLc wi gg tt te (own.map (·.2)) σ H Q := by
  refine ⟨tSrc b W (evSrc src), anyG b fun b' => tT b' g, anyT b fun b' => tB' b' Wf (evc c), anyE b fun b' => tV b' Wf fun s => (ev e s).val, hi,
    fun s H C cl fp => any_g fun b' h1 h2 => hg b' h1 h2 s H C cl fp, fun s H C cl fp => any_t fun b' h1 h2 => ht b' h1 h2 s H C cl fp, fun s H C cl fp => any_e fun b' h1 h2 => snd_val (he b' h1 h2 s H C cl fp), ?_⟩
  rintro σ H Q ⟨RR, F, s, r, q⟩
  simp only [ev] at q
  refine ⟨RR, F, s, r, q.bind fun items s1 R1 F1 H1 p1 e1 r1 q1 J hJ dl hD => ?_⟩
  generalize hvs : own.map (·.2) = vs at q1 hix ⊢
  split at q1
  case isFalse => exact q1.elim
  rename_i hcond
  rw [Bool.and_eq_true] at hcond
  obtain ⟨hown, hsz⟩ := hcond
  have hsz := of_decide_eq_true hsz
  obtain ⟨L, tF, hL, q2⟩ := noex_go q1
  have lD := r1.lone hD
  -- what holds between two turns
  let Pv : Nat → Hp → Prop := fun i Hc => i ≤ items.length ∧ ∃ acc t RR2 F2 ov, R1 <+: RR2 ∧ Same F1 F2 ∧ Rel b RR2 F2 (t.hide vs) (wipe σ vs) Hc ∧ Lone b RR2 F2 (t.hide vs) (wipe σ vs) dl ∧ Hc dl = some (.lst ov) ∧ Reps b.K b.g RR2 F2 acc ov ∧ acc.length ≤ i ∧
    t.sl.length = s1.sl.length ∧ lcLoop vs (fun x s => T.asg g x s) (fun s => evc c s) (fun s => (ev e s).val) (items.drop i) acc t = .ok L tF
  have h0 : Pv 0 (upd H1 dl (.lst [])) := ⟨Nat.zero_le _, [], s1, R1, F1, [], List.prefix_refl _, Same.refl _, (r1.same (same_new hD)).hide vs, lD.hide vs, upd_same, .nil, Nat.le_refl _, rfl, hL⟩
  refine ⟨fun i m Hc => m = items.length - i ∧ Pv i Hc, ⟨_, rfl, h0⟩, ?_⟩
  rintro i m Hc ⟨rfl, hi, acc, t, R2, F2, ov, p2, e2, r2, l2, hov, hacc, hal, htl, hloop⟩
  obtain ⟨hJ1, hJ2⟩ := hJ R2 F2 Hc p2 e2 r2.fz
  by_cases hlt : i < items.length
  · obtain ⟨hgo, hyld⟩ := hJ1 i hlt
    refine .inr ⟨hgo, Pv (i + 1), fun H' p' => ⟨items.length - (i + 1), by omega, rfl, p'⟩, fun x H' hy => ?_⟩
    obtain ⟨F3, d, hd, e3, h3, u3, rd⟩ := hyld x H' hy
    have hdrop : items.drop i = d :: items.drop (i + 1) := by
      obtain ⟨h4, h5⟩ := List.getElem?_eq_some_iff.mp hd
      rw [← h5]
      exact List.drop_eq_getElem_cons h4
    rw [hdrop, lcLoop] at hloop
    cases ha : T.asg g d (t.hide vs) with
    | none => rw [ha] at hloop; cases hloop
    | some t1 =>
      rw [ha] at hloop
      simp only at hloop
      have r3 := r2.upg e3 h3 u3
      have l3 : Lone b R2 F3 (t.hide vs) (wipe σ vs) dl := by
        refine ⟨?_, l2.r, l2.h, l2.o⟩
        cases z : F3 dl with
        | none => rfl
        | some o =>
          rcases u3 dl o z with w | ⟨w, _⟩
          · rw [l2.f] at w; cases w
          · rw [hov] at w; cases w
      have hov3 : H' dl = some (.lst ov) := h3 _ _ hov
      -- the list so far is set aside
      have nf0 : b.F0 dl = none := by
        cases z : b.F0 dl with
        | none => rfl
        | some o => have w := r1.f0 _ _ z; rw [lD.f] at w; cases w
      have nr0 : dl ∉ b.R0 := fun m => lD.r (r1.pre.subset m)
      have r4 := r3.aside l3 hov3
      refine ⟨b.aside dl (.lst ov), rfl, rfl, R2, F3, t.hide vs, d, t1, r4, rd, ha, fun σ2 r5 hl5 k5 => ?_⟩
      have hw : wipe σ2 vs = wipe (wipe σ vs) vs := wipe_eq hl5 fun j hj => k5 j fun z => hj (hix j z)
      have hww : wipe (wipe σ vs) vs = wipe σ vs := wipe_eq (wipe_length _ _) fun j hj => wipe_out hj
      refine ⟨hw.trans hww, b.aside dl (.lst ov), rfl, rfl, R2, F3, t1, r5, ?_⟩
      obtain ⟨kk, t2, hc1, hloop⟩ := bind_inv hloop
      refine go_ok hc1 fun R6 F6 H6 p6 e6 r6 => ?_
      have hw2 := hw.trans hww
      have done : ∀ {R7 F7 H7 t3 acc'} {ov' : List V}, R6 <+: R7 → Same F6 F7 → Rel (b.aside dl (.lst ov)) R7 F7 t3 σ2 H7 → Reps b.K b.g R7 F7 acc' ov' → acc'.length ≤ i + 1 → (ov' = ov ∨ True) → 
          lcLoop vs (fun x s => T.asg g x s) (fun s => evc c s) (fun s => (ev e s).val) (items.drop (i + 1)) acc' t3 = .ok L tF → (∀ o, o = HO.lst ov' → Pv (i + 1) (upd H7 dl o)) ∧ (ov' = ov → Pv (i + 1) H7) ∧ H7 dl = some (.lst ov) := by
        intro R7 F7 H7 t3 acc' ov' p7 e7 r7 ra hl7 _ hl
        obtain ⟨r8, l8, h8⟩ := r7.unaside l2.h nr0 nf0
        have len7 : t3.sl.length = s1.sl.length := by
          have a1 := r8.len
          have a2 := r1.len
          rw [a1, hl5, wipe_length, ← a2]
        refine ⟨fun o ho => ?_, fun ho => ?_, h8⟩
        · subst ho
          have r9 := (r8.writeL (o := .lst ov') l8).hide vs
          rw [hw2] at r9
          have l9 := l8.hide vs
          rw [hw2] at l9
          exact ⟨hlt, acc', t3, R7, F7, ov', (p2.trans p6).trans p7, ((e2.trans e3).trans e6).trans e7, r9, l9, upd_same, ra, hl7, len7, hl⟩
        · subst ho
          have r9 := r8.hide vs
          rw [hw2] at r9
          have l9 := l8.hide vs
          rw [hw2] at l9
          exact ⟨hlt, acc', t3, R7, F7, ov', (p2.trans p6).trans p7, ((e2.trans e3).trans e6).trans e7, r9, l9, h8, ra, hl7, len7, hl⟩
      cases kk with
      | false =>
        rw [if_neg Bool.false_ne_true] at hloop
        refine iteF ?_
        exact (done (List.prefix_refl _) (Same.refl _) r6 (hacc.mono (e3.trans e6) p6) (Nat.le_succ_of_le hal) (.inl rfl) hloop).2.1 rfl
      | true =>
        rw [if_pos rfl] at hloop
        refine iteT ?_
        obtain ⟨y, t3, hy1, hloop⟩ := bind_inv hloop
        refine ⟨b.aside dl (.lst ov), rfl, rfl, R6, F6, t2, r6, go_ok hy1 fun R7 F7 H7 p7 e7 r7 w hw7 => ?_⟩
        have ra : Reps b.K b.g R7 F7 (acc ++ [y]) (ov ++ [w]) := (hacc.mono ((e3.trans e6).trans e7) (p6.trans p7)).app (.cons hw7 .nil)
        obtain ⟨d1, _, d3⟩ := done p7 e7 r7 ra (by rw [List.length_append, List.length_singleton]; omega) (.inr trivial) hloop
        refine ⟨ov, d3, ?_, d1 _ rfl⟩
        rw [← hacc.len, big_eq]
        omega
  · have ei : i = items.length := by omega
    subst ei
    refine .inl ⟨hJ2, ?_⟩
    rw [List.drop_length, lcLoop] at hloop
    cases hloop
    have noOwn : ∀ {j : Nat} {cc : Cell}, (backSl s1.sl tF.sl vs)[j]? = some (.own cc) → j ∉ vs ∧ (hideSl tF.sl vs)[j]? = some (.own cc) := fun {j cc} hx => by
      rcases backSl_get hx with ⟨h1, h2⟩ | ⟨h1, h2⟩
      · rw [← hvs] at h1
        obtain ⟨p, hp, rfl⟩ := List.mem_map.mp h1
        have := List.all_eq_true.mp hown p hp
        rw [← h2] at this
        cases this
      · exact ⟨h1, by rw [hideSl_out h1]; exact h2⟩
    have base : Rel b R2 F2 ⟨hideSl tF.sl vs, tF.st⟩ (wipe σ vs) Hc := r2
    have hf : Rel b R2 F2 ⟨backSl s1.sl tF.sl vs, tF.st⟩ σ Hc := by
      refine ⟨base.fz, base.f0, base.fn, base.keep, base.pre, base.new, base.nd, base.rf, base.stl, base.st, ?_, fun j x hx => ?_, fun j cc hx => ?_, fun j l c1 c2 a h1 h2 h3 h4 => ?_⟩
      · show (backSl s1.sl tF.sl vs).length = σ.length
        rw [backSl_len, htl]; exact r1.len
      · rcases backSl_get hx with ⟨h1, h2⟩ | ⟨h1, h2⟩
        · have h3 : s1.sl[j]? = some (.d x) := by
            rw [List.getD_eq_getElem?_getD] at h2
            cases z : s1.sl[j]? with
            | none => rw [z] at h2; cases h2
            | some w => rw [z] at h2; rw [h2]; rfl
          obtain ⟨v, g1, g2⟩ := r1.sd j x h3
          exact ⟨v, g1, g2.mono e2 p2⟩
        · have h3 : (hideSl tF.sl vs)[j]? = some (.d x) := by rw [hideSl_out h1]; exact h2
          obtain ⟨v, g1, g2⟩ := base.sd j x h3
          rw [wipe_out h1] at g1
          exact ⟨v, g1, g2⟩
      · obtain ⟨h1, h2⟩ := noOwn hx
        obtain ⟨a, g1, g2⟩ := base.so j cc h2
        rw [wipe_out h1] at g1
        exact ⟨a, g1, g2⟩
      · obtain ⟨n1, h1⟩ := noOwn h1
        obtain ⟨n2, h2⟩ := noOwn h2
        exact base.ap j l c1 c2 a h1 h2 (by rw [wipe_out n1]; exact h3) (by rw [wipe_out n2]; exact h4)
    refine q2 R2 F2 Hc p2 e2 hf _ ⟨dl, rfl, .lst hov hacc, l2.f, l2.r, l2.h, fun j cc hx hy => ?_⟩
    obtain ⟨n1, h1⟩ := noOwn hx
    exact l2.o j cc h1 (by rw [wipe_out n1]; exact hy)
theorem snd_lend {e : E} {pe : Expr} {is : List Nat} (h : ∀ b' : Bs, b'.K = b.K → b'.g = b.g → PE X pe (tE b' W (ev e))) : PE X pe (tE b W (ev (.lend is e))) := by
  refine (any_e (b := b) (t := fun b' => tE b' W (ev e)) h).weak fun σ H Q ⟨RR, F, s, r, q⟩ => ?_
  simp only [ev] at q
  split at q
  · rename_i s1 hs
    obtain ⟨F1, e1, r1⟩ := lend_rel r hs
    refine ⟨⟨b.K, b.g, H, RR, F1⟩, rfl, rfl, RR, F1, s1, r1, ?_⟩
    cases he : ev e s1 with
    | bad => rw [he] at q; exact q.elim
    | ex x t => rw [he] at q; exact q.elim
    | ok y t =>
      rw [he] at q
      cases y with
      | new c => exact q.elim
      | pl i => exact q.elim
      | d y =>
        simp only [lendD] at q
        split at q
        · rename_i hf
          rw [Bool.and_eq_true] at hf
          intro R' F' H' hp e2 r2 v hv
          exact q R' F H' hp (Same.refl _) (r.lent e1 r2 hp e2 hf.2) v (flat_lent hv hf.1)
        · exact q.elim
  · exact q.elim
theorem any_pt {e : Expr} {t : Bs → TT} (h : ∀ c : Bs, c.K = b.K → c.g = b.g → PT X e (t c)) : PT X e (anyT b t) := ⟨fun pins s σ H Q I ⟨c, h1, h2, q⟩ => (h c h1 h2).run pins s σ H Q I q⟩
theorem tst_lend {e : E} {pe : Expr} {is : List Nat} (h : ∀ b' : Bs, b'.K = b.K → b'.g = b.g → PT X pe (tB' b' W (evT e))) : PT X pe (tB' b W (evT (.lend is e))) := by
  refine (any_pt (b := b) (t := fun b' => tB' b' W (evT e)) h).weak fun σ H Q ⟨RR, F, s, r, q⟩ => ?_
  simp only [evT] at q
  split at q
  · rename_i s1 hs
    obtain ⟨F1, e1, r1⟩ := lend_rel r hs
    refine ⟨⟨b.K, b.g, H, RR, F1⟩, rfl, rfl, RR, F1, s1, r1, ?_⟩
    cases he : evT e s1 with
    | bad => rw [he] at q; exact q.elim
    | ex x t => rw [he] at q; exact q.elim
    | ok y t =>
      rw [he] at q
      simp only [lendB] at q
      split at q
      · rename_i hf
        intro R' F' H' hp e2 r2
        exact q R' F H' hp (Same.refl _) (r.lent e1 r2 hp e2 hf)
      · exact q.elim
  · exact q.elim
end
/-! ### dicts walked -/
section
variable {X : Cx} {b : Bs} {W : WX} {k : Nat} {σ : L2.St} {RR RR' : List Addr} {F F' H H' : Hp} {s : S} {Q : VK}
theorem Rel.lockS (r : Rel b RR F s σ H) {i : Nat} {l : List (Key × D)} (e : s.sl[i]? = some (.own (.dK l))) :
    ∃ a vs, σ[i]? = some (some (.ref a)) ∧ H a = some (.dK vs) ∧ ∀ od, ∃ F', Same F F' ∧ F' a = some (.frz od (.dK vs)) ∧ RepK b.K b.g RR F' l vs ∧ Rel b RR F' ⟨s.sl.set i (.d (.kys l)), s.st⟩ σ (upd H a (.frz od (.dK vs))) := by
  obtain ⟨a, h1, h2, h3, h4, h5⟩ := r.so i _ e
  have hi : i < s.sl.length := (List.getElem?_eq_some_iff.mp e).1
  have r1 : Rel b RR F ⟨s.sl.set i .un, s.st⟩ σ H := r.un (by simp [r.len]) fun j y q n => by
    rcases set_cases q with ⟨rfl, e, _⟩ | ⟨m, q⟩
    · exact absurd e n
    · exact ⟨q, rfl⟩
  have l1 : Lone b RR F ⟨s.sl.set i .un, s.st⟩ σ a := ⟨h3, h4, h5, fun j d q p => by
    rcases set_cases q with ⟨rfl, e2, _⟩ | ⟨m, q⟩
    · cases e2
    · exact m (r.ap j i d _ a q e p h1)⟩
  have hσ : σ.set i (some (.ref a)) = σ := by
    apply List.ext_getElem?
    intro j
    by_cases hj : j = i
    · subst hj
      rw [List.getElem?_set_self (by rw [← r.len]; exact hi), h1]
    · rw [List.getElem?_set_ne (Ne.symm hj)]
  cases h2 with
  | @dK _ vs h rr =>
    refine ⟨a, vs, h1, h, fun od => ?_⟩
    have r2 := r1.writeL (o := .frz od (.dK vs)) l1
    obtain ⟨r3, e3⟩ := r2.frz l1 upd_same
    have rx : RepK b.K b.g RR (upd F a (.frz od (.dK vs))) l vs := rr.mono e3 (List.prefix_refl _)
    have r4 := r3.storeD (i := i) (Rep.kys upd_same rx)
    rw [hσ] at r4
    refine ⟨_, e3, upd_same, rx, ?_⟩
    have el : (s.sl.set i SV.un).set i (.d (.kys l)) = s.sl.set i (.d (.kys l)) := by rw [List.set_set]
    rw [← el]
    exact r4
def tLk (t : TE) : TE := fun σ H Q => t σ H fun v H1 => Q v H1 ∨ ∃ d u, H1 d = some u ∧ Mut (some u) ∧ ∀ od, Q v (upd H1 d (.frz od u))
theorem pe_lk {e : Expr} {t : TE} (h : PE X e t) : PE X e (tLk t) := by
  refine ⟨fun pins s σ H Q I hw => ?_⟩
  refine thn (h.run pins s σ H _ I hw) fun v s1 ⟨x, H1, I1, r, q⟩ => ?_
  rcases q with q | ⟨d, u, hd, mu, q⟩
  · exact ⟨x, H1, I1, r, q⟩
  · obtain ⟨od, I2⟩ := I1.lock hd mu
    exact ⟨x, _, I2, r, q od⟩
theorem lock_red {α : Type} {i : Nat} {f : List (Key × D) → S → O α} {P : α → S → List Addr → Hp → Hp → Prop} (r : Rel b RR F s σ H) (q : Go b W σ RR F (match s.lock i with
    | some (l, s) => f l s
    | none => .bad) P) : ∃ a vs l, σ[i]? = some (some (.ref a)) ∧ ∀ J : Hp → Prop, (∀ H' od F' s', Same F F' → F' a = some (.frz od (.dK vs)) → RepK b.K b.g RR F' l vs → Rel b RR F' s' σ H' → Go b W σ RR F' (f l s') P → J H') →
      J H ∨ ∃ d u, H d = some u ∧ Mut (some u) ∧ ∀ od, J (upd H d (.frz od u)) := by
  unfold S.lock at q
  cases e : s.sl[i]? with
  | none => rw [e] at q; exact q.elim
  | some z =>
    rw [e] at q
    cases z with
    | un => exact q.elim
    | d x =>
      cases x with
      | kys l =>
        obtain ⟨w, h1, h2⟩ := r.sd i _ e
        cases h2 with
        | @kys _ a o vs h rk => exact ⟨a, vs, l, h1, fun J j => .inl (j H o F s (Same.refl _) h rk r q)⟩
      | _ => exact q.elim
    | own c =>
      cases c with
      | dK l =>
        obtain ⟨a, vs, h1, h2, h3⟩ := r.lockS e
        refine ⟨a, vs, l, h1, fun J j => .inr ⟨a, _, h2, trivial, fun od => ?_⟩⟩
        obtain ⟨F', e1, hF, rk, r1⟩ := h3 od
        exact j _ od F' _ e1 hF rk r1 (q.up (List.prefix_refl _) e1)
      | _ => exact q.elim
theorem repK_get {K : PySem.W.Frag} {g : Str → Option Addr} {l : List (Key × D)} {vs : List (Key × V)} (h : RepK K g RR F l vs) {i : Nat} {p : Key × D} (e : l[i]? = some p) : ∃ v, vs[i]? = some (p.1, v) ∧ Rep K g RR F p.2 v := by
  induction l generalizing vs i with
  | nil => simp at e
  | cons x l ih =>
    cases h with
    | cons a b =>
      cases i with
      | zero => simp at e; subst e; exact ⟨_, rfl, a⟩
      | succ i => simpa using ih b (by simpa using e)
theorem rep_key {K : PySem.W.Frag} {g : Str → Option Addr} : ∀ k : Key, Rep K g RR F (keyD k) (kV k)
  | .inl i => .int i
  | .inr x => .str x
theorem walk_keys {l : List (Key × D)} {a : Addr} {od : Obj} {vs : List (Key × V)} (h : F a = some (.frz od (.dK vs))) (rk : RepK b.K b.g RR F l vs) : WalkD b.K b.g RR F (Itk a od vs) (l.map fun p => keyD p.1) := fun RR' F' H p e e2 => by
  have ha : H a = some (.frz od (.dK vs)) := e2 _ _ (e _ _ h)
  have hl := repK_len rk
  rw [List.length_map]
  refine ⟨fun i hi => ?_, ⟨ha, by omega⟩⟩
  obtain ⟨v, h1, h2⟩ := repK_get rk (List.getElem?_eq_getElem hi)
  refine ⟨⟨ha, by omega⟩, fun x H' ⟨e3, k', v', hkv, hx⟩ => ?_⟩
  rw [h1] at hkv; cases hkv
  subst e3 hx
  exact ⟨F', _, by rw [List.getElem?_map, List.getElem?_eq_getElem hi]; rfl, Same.refl _, Same.refl _, fun _ _ z => .inl z, rep_key _⟩
theorem walk_itms {l : List (Key × D)} {a : Addr} {od : Obj} {vs : List (Key × V)} (h : F a = some (.frz od (.dK vs))) (rk : RepK b.K b.g RR F l vs) : WalkD b.K b.g RR F (Iti a od vs) (l.map itmD) := fun RR' F' H p e e2 => by
  have ha : H a = some (.frz od (.dK vs)) := e2 _ _ (e _ _ h)
  have hl := repK_len rk
  rw [List.length_map]
  refine ⟨fun i hi => ?_, ⟨ha, by omega⟩⟩
  obtain ⟨v, h1, h2⟩ := repK_get rk (List.getElem?_eq_getElem hi)
  refine ⟨⟨ha, by omega⟩, fun x H' ⟨T, k', v', hkv, hx, hT, hH⟩ => ?_⟩
  rw [h1] at hkv; cases hkv
  subst hx hH
  have rr : Reps b.K b.g RR' F' [keyD l[i].1, l[i].2] [kV l[i].1, v] := .cons (rep_key _) (.cons (h2.mono e p) .nil)
  obtain ⟨F2, k1, k2, k3, k4⟩ := new_tup e2 hT rr
  exact ⟨F2, _, by rw [List.getElem?_map, List.getElem?_eq_getElem hi]; rfl, k1, k2, k3, k4⟩
theorem snd_dks {tg : Expr} {i : Nat} {x : Str} {pos : Pos} (hN : X.N[i]? = some x) (hv : Vis X.env.scope x) (hd : (x == ("__debug__" : Str)) = false) (hc : (x == ("__classdict__" : Str)) = false) : PI X tg (.Name x pos) (tSrc b W (evSrc (.dks i))) := by
  refine (pi_keys (pe_lk (pe_var hN hv hd hc))).weak fun σ H R ⟨RR, F, s, r, q⟩ => ?_
  simp only [evSrc] at q
  obtain ⟨a, vs, l, hσ, kk⟩ := lock_red r q
  refine ⟨.ref a, hσ, kk (fun H1 => ∃ d o, V.ref a = .ref d ∧ ((∃ kvs, H1 d = some (.frz o (.dK kvs)) ∧ R (Itk d o kvs) H1) ∨ ∃ kvs, H1 d = some (.frz o (.dT kvs)) ∧ R (Itkt d o kvs) H1)) fun H' od F' s' e hF rk r' q' => ?_⟩
  exact ⟨a, od, rfl, .inl ⟨vs, r'.fz _ _ hF, q'.now r' _ (walk_keys hF rk)⟩⟩
theorem snd_dit {i : Nat} {x : Str} {pos apos cpos tpos : Pos} {elts : List Expr} {kk : Nat} (hN : X.N[i]? = some x) (hv : Vis X.env.scope x) (hd : (x == ("__debug__" : Str)) = false) (hc : (x == ("__classdict__" : Str)) = false) (hp : plainObj (.Name x pos) = true) (hl : (apos.endLine == cpos.line) = true) :
    PI X (.Tuple elts kk tpos) (.Call (.Attribute (.Name x pos) "items" apos) [] [] cpos) (tSrc b W (evSrc (.dit i))) := by
  refine (pi_items (pe_lk (pe_var hN hv hd hc)) (base_no hp) hl).weak fun σ H R ⟨RR, F, s, r, q⟩ => ?_
  simp only [evSrc] at q
  obtain ⟨a, vs, l, hσ, kk⟩ := lock_red r q
  refine ⟨.ref a, hσ, kk (fun H1 => ∃ d o kvs, V.ref a = .ref d ∧ H1 d = some (.frz o (.dK kvs)) ∧ R (Iti d o kvs) H1) fun H' od F' s' e hF rk r' q' => ?_⟩
  exact ⟨a, od, vs, rfl, r'.fz _ _ hF, q'.now r' _ (walk_itms hF rk)⟩
end
end G4

namespace G4
open PySem PySem.Spec PyProof.Rows L2
/-! ### list(zip(three lists)) -/
section
variable {P : Program} {w : World} {A : Around} {E : Value → Shared → Prop} {s : Shared} {z TI TO i1 i2 i3 l1 l2 l3 T : Addr} {xs ys zs : Array Value} {i : Nat}
/-- the three iterators at place i -/
structure Its3 (h : Heap) (TI i1 i2 i3 l1 l2 l3 : Addr) (xs ys zs : Array Value) (i : Nat) : Prop where
  ti : IsTupOf3 h TI (.ref i1) (.ref i2) (.ref i3)
  a : h.IsListIter i1 l1 i ∧ h.IsList l1 xs
  b : h.IsListIter i2 l2 i ∧ h.IsList l2 ys
  c : h.IsListIter i3 l3 i ∧ h.IsList l3 zs
abbrev Sep (z TI TO i1 i2 i3 l1 l2 l3 : Addr) : Prop := ZipSep3 z TI TO i1 i2 i3 [i1, l1] [i2, l2] [i3, l3]
theorem held_item {f : Bool} {oT : Obj} {Q : Value → Shared → Prop} {x y u : Value} (S : Sep z TI TO i1 i2 i3 l1 l2 l3) (e1 : l1 ≠ i1) (e2 : l2 ≠ i2) (e3 : l3 ≠ i3) (hz : IsZipHeld s.heap z TI TO T f) (hT : s.heap.get? T = some oT) (I : Its3 s.heap TI i1 i2 i3 l1 l2 l3 xs ys zs i)
    (hx : xs[i]? = some x) (hy : ys[i]? = some y) (hu : zs[i]? = some u)
    (q : ∀ h', IsZipHeld h' z TI TO T true → Its3 h' TI i1 i2 i3 l1 l2 l3 xs ys zs (i + 1) → IsTupOf3 h' s.heap.objs.size x y u → h'.objs.size = s.heap.objs.size + 1 →
      (∀ c o, c ≠ z → c ≠ i1 → c ≠ i2 → c ≠ i3 → s.heap.get? c = some o → h'.get? c = some o) → Q (.ref s.heap.objs.size) { s with heap := h' }) :
    wpAny (model P w) A (Builtin.«zip.__next__» ⟨[.ref z], []⟩) (fun fin s' => ∃ v, fin = .done (.ret v) ∧ Q v s') E s := by
  have nz1 : z ≠ i1 := fun e => S.zf1 (by rw [e]; simp)
  have nz2 : z ≠ i2 := fun e => S.zf2 (by rw [e]; simp)
  have nz3 : z ≠ i3 := fun e => S.zf3 (by rw [e]; simp)
  have lz1 : l1 ≠ z := fun e => S.zf1 (by rw [e]; simp)
  have lz2 : l2 ≠ z := fun e => S.zf2 (by rw [e]; simp)
  have lz3 : l3 ≠ z := fun e => S.zf3 (by rw [e]; simp)
  have n12 : i1 ≠ i2 := fun e => S.sep1_2 (by rw [e]; simp)
  have n13 : i1 ≠ i3 := fun e => S.sep1_3 (by rw [e]; simp)
  have n23 : i2 ≠ i3 := fun e => S.sep2_3 (by rw [e]; simp)
  have a21 : l2 ≠ i1 := fun e => S.sep1_2 (by rw [← e]; simp)
  have a31 : l3 ≠ i1 := fun e => S.sep1_3 (by rw [← e]; simp)
  have a32 : l3 ≠ i2 := fun e => S.sep2_3 (by rw [← e]; simp)
  have a12 : l1 ≠ i2 := fun e => S.sep2_1 (by rw [← e]; simp)
  have a13 : l1 ≠ i3 := fun e => S.sep3_1 (by rw [← e]; simp)
  have a23 : l2 ≠ i3 := fun e => S.sep3_2 (by rw [← e]; simp)
  show wpAny _ _ (field (.ref z) 2 >>= _) _ _ _
  refine wpAny_bind (wpAny_field hz rfl (x := .bool false) rfl ?_)
  show wpAny _ _ (field (.ref z) 3 >>= _) _ _ _
  refine wpAny_bind (wpAny_field hz rfl (x := .ref TI) rfl (wpAny_bind (wpAny_seqItems I.ti rfl ?_)))
  show wpAny _ _ (Builtin.SmallTypes.ownedTupleIsFree (.ref z) >>= _) _ _ _
  refine wpAny_bind (wpAny_tupleHeld_zip hz hT fun g0 z0 b0 => ?_)
  simp only [Bool.false_eq_true, if_false]
  refine wpAny_bind ?_
  rw [← Array.forIn_toList]
  simp only [List.forIn_cons, List.forIn_nil]
  have r1 := I.a.1.extBut b0.extBut (Ne.symm nz1)
  have r2 := I.b.1.extBut b0.extBut (Ne.symm nz2)
  have r3 := I.c.1.extBut b0.extBut (Ne.symm nz3)
  have k1 := I.a.2.extBut b0.extBut lz1
  have k2 := I.b.2.extBut b0.extBut lz2
  have k3 := I.c.2.extBut b0.extBut lz3
  refine wpAny_bind (wpAny_bind (wpAny_holding ?_))
  show wpAny _ _ (Builtin.SmallTypes.nextOf (.ref i1) >>= _) _ _ _
  refine wpAny_bind (wpAny_nextOf_list_item (s := { s with heap := g0 }) r1 k1 hx fun g1 d1 b1 => wpAny_pure (wpAny_pure ?_))
  refine wpAny_bind (wpAny_bind (wpAny_holding ?_))
  show wpAny _ _ (Builtin.SmallTypes.nextOf (.ref i2) >>= _) _ _ _
  refine wpAny_bind (wpAny_nextOf_list_item (s := { s with heap := g1 }) (r2.extBut b1.extBut n12.symm) (k2.extBut b1.extBut a21) hy fun g2 d2 b2 => wpAny_pure (wpAny_pure ?_))
  refine wpAny_bind (wpAny_bind (wpAny_holding ?_))
  show wpAny _ _ (Builtin.SmallTypes.nextOf (.ref i3) >>= _) _ _ _
  refine wpAny_bind (wpAny_nextOf_list_item (s := { s with heap := g2 }) ((r3.extBut b1.extBut n13.symm).extBut b2.extBut n23.symm) ((k3.extBut b1.extBut a31).extBut b2.extBut a32) hu fun g3 d3 b3 => wpAny_pure (wpAny_pure (wpAny_pure ?_)))
  show wpAny _ _ (newTuple [x, y, u] >>= _) _ _ _
  refine wpAny_bind (wpAny_newTuple (wpAny_pure ⟨_, rfl, ?_⟩))
  have size : g3.objs.size = s.heap.objs.size := by rw [b3.1, b2.1, b1.1, b0.1]
  have up : ∀ c o, c ≠ z → c ≠ i1 → c ≠ i2 → c ≠ i3 → s.heap.get? c = some o → (g3.push { cls := .type "tuple", data := .seq #[x, y, u] }).get? c = some o := fun c o c0 c1 c2 c3 e =>
    Heap.get?_push_of_some _ (b3.extBut _ _ c3 (b2.extBut _ _ c2 (b1.extBut _ _ c1 (b0.extBut _ _ c0 e))))
  have hp : IsTupOf3 (g3.push { cls := .type "tuple", data := .seq #[x, y, u] }) g3.objs.size x y u := Heap.get?_push_size _ rfl
  show Q (.ref g3.objs.size) _
  rw [size] at hp ⊢
  refine q _ (Heap.get?_push_of_some _ (b3.extBut _ _ nz3 (b2.extBut _ _ nz2 (b1.extBut _ _ nz1 z0)))) ⟨up _ _ S.TIz S.TIi1 S.TIi2 S.TIi3 I.ti, ⟨?_, ?_⟩, ⟨?_, ?_⟩, ⟨?_, ?_⟩⟩ hp (by rw [Heap.size_push, size]) up
  · exact ((d1.extBut b2.extBut n12).extBut b3.extBut n13).at fun o e => Heap.get?_push_of_some _ e
  · exact I.a.2.at fun o e => up _ _ lz1 e1 a12 a13 e
  · exact (d2.extBut b3.extBut n23).at fun o e => Heap.get?_push_of_some _ e
  · exact I.b.2.at fun o e => up _ _ lz2 a21 e2 a23 e
  · exact d3.at fun o e => Heap.get?_push_of_some _ e
  · exact I.c.2.at fun o e => up _ _ lz3 a31 a32 e3 e
theorem held_end (hh : A.handled = none) {f : Bool} {oT : Obj} {Q : Fin → Shared → Prop} (S : Sep z TI TO i1 i2 i3 l1 l2 l3) (hz : IsZipHeld s.heap z TI TO T f) (hT : s.heap.get? T = some oT) (I : Its3 s.heap TI i1 i2 i3 l1 l2 l3 xs ys zs i) (hx : xs[i]? = none)
    (q : ∀ h' e, (∀ c o, c ≠ z → c ≠ i1 → s.heap.get? c = some o → h'.get? c = some o) → (∃ o, h'.get? e = some o ∧ o.cls = .type "StopIteration") → E (.ref e) { s with heap := h' }) :
    wpAny (model P w) A (Builtin.«zip.__next__» ⟨[.ref z], []⟩) Q E s := by
  have nz1 : z ≠ i1 := fun e => S.zf1 (by rw [e]; simp)
  have lz1 : l1 ≠ z := fun e => S.zf1 (by rw [e]; simp)
  show wpAny _ _ (field (.ref z) 2 >>= _) _ _ _
  refine wpAny_bind (wpAny_field hz rfl (x := .bool false) rfl ?_)
  show wpAny _ _ (field (.ref z) 3 >>= _) _ _ _
  refine wpAny_bind (wpAny_field hz rfl (x := .ref TI) rfl (wpAny_bind (wpAny_seqItems I.ti rfl ?_)))
  show wpAny _ _ (Builtin.SmallTypes.ownedTupleIsFree (.ref z) >>= _) _ _ _
  refine wpAny_bind (wpAny_tupleHeld_zip hz hT fun g0 z0 b0 => ?_)
  simp only [Bool.false_eq_true, if_false]
  refine wpAny_bind ?_
  rw [← Array.forIn_toList]
  simp only [List.forIn_cons, List.forIn_nil]
  refine wpAny_bind (wpAny_bind (wpAny_holding ?_))
  show wpAny _ _ (Builtin.SmallTypes.nextOf (.ref i1) >>= _) _ _ _
  refine wpAny_bind (wpAny_nextOf_list_end (s := { s with heap := g0 }) hh (I.a.1.extBut b0.extBut (Ne.symm nz1)) (I.a.2.extBut b0.extBut lz1) hx fun g1 e b1 he => ?_)
  exact q g1 e (fun c o c1 c2 x => b1 _ _ c2 (b0.extBut _ _ c1 x)) he
/-- the zip, free or with its last tuple still out -/
def Zs (h : Heap) (z TI TO SS i1 i2 i3 : Addr) : Prop := (IsZip h z TI TO .none ∧ ∃ a1 a2 a3, IsTupOf3 h TO a1 a2 a3) ∨ ∃ T f oT, IsZipHeld h z TI TO T f ∧ h.get? T = some oT ∧ (∃ oO, h.get? TO = some oO) ∧ T ≠ SS ∧ T ≠ z ∧ T ≠ i1 ∧ T ≠ i2 ∧ T ≠ i3
theorem z3_item {SS : Addr} (hh : A.handled = none) {Q : Option Value → Shared → Prop} {x y u : Value} (S : Sep z TI TO i1 i2 i3 l1 l2 l3) (e1 : l1 ≠ i1) (e2 : l2 ≠ i2) (e3 : l3 ≠ i3) (st : Zs s.heap z TI TO SS i1 i2 i3) (I : Its3 s.heap TI i1 i2 i3 l1 l2 l3 xs ys zs i)
    (hx : xs[i]? = some x) (hy : ys[i]? = some y) (hu : zs[i]? = some u) (hS : SS < s.heap.objs.size)
    (q : ∀ h' tk, Zs h' z TI TO SS i1 i2 i3 → Its3 h' TI i1 i2 i3 l1 l2 l3 xs ys zs (i + 1) → IsTupOf3 h' s.heap.objs.size x y u →
      (∀ c o, c ≠ z → c ≠ TO → c ≠ i1 → c ≠ i2 → c ≠ i3 → s.heap.get? c = some o → h'.get? c = some o) → Q (some (.ref s.heap.objs.size)) { s with heap := h', toks := tk }) :
    wpAny (model P w) A (pyNext (.ref z)) Q E s := by
  have ne : s.heap.objs.size ≠ SS := Nat.ne_of_gt hS
  have no : ∀ {b : Addr} {o : Obj}, s.heap.get? b = some o → s.heap.objs.size ≠ b := fun e => Nat.ne_of_gt (Heap.lt_size e)
  have no1 : s.heap.objs.size ≠ i1 := let ⟨o, e, _⟩ := I.a.1; no e
  have no2 : s.heap.objs.size ≠ i2 := let ⟨o, e, _⟩ := I.b.1; no e
  have no3 : s.heap.objs.size ≠ i3 := let ⟨o, e, _⟩ := I.c.1; no e
  rcases st with ⟨hz, a1, a2, a3, hO⟩ | ⟨T, f, oT, hz, hT, ⟨oO, hOO⟩, hne, w0, w1, w2, w3⟩
  · have D1 := Draws.list (prog := P) (w := w) (A := A.in1) (by simp [hh]) i1 l1 e1 xs
    have D2 := Draws.list (prog := P) (w := w) (A := A.in1) (by simp [hh]) i2 l2 e2 ys
    have D3 := Draws.list (prog := P) (w := w) (A := A.in1) (by simp [hh]) i3 l3 e3 zs
    refine wpAny_pyNext_zipD3_item S D1 D2 D3 hz I.ti hO I.a I.b I.c (Array.getElem?_eq_some_iff.mp hx).1 (Array.getElem?_eq_some_iff.mp hy).1 (Array.getElem?_eq_some_iff.mp hu).1 fun x1 x2 x3 h' tk p1 p2 p3 b1 b2 d1 d2 d3 b5 b6 b7 => ?_
    have p1 : xs[i]? = some x1 := p1
    have p2 : ys[i]? = some x2 := p2
    have p3 : zs[i]? = some x3 := p3
    rw [hx] at p1; rw [hy] at p2; rw [hu] at p3
    cases p1; cases p2; cases p3
    exact q h' tk (.inr ⟨_, false, _, b1, b5, ⟨_, b2⟩, ne, no hz, no1, no2, no3⟩) ⟨b7 _ _ S.TIz S.TITO S.TIi1 S.TIi2 S.TIi3 I.ti, d1, d2, d3⟩ b5 b7
  · have typ : s.TypeIs (.ref z) "zip" := ⟨_, hz, rfl⟩
    unfold pyNext
    exact wpAny_bind (wpAny_attempt (wpAny_callSpecial?_slot (name := Str.ofString "__next__") typ F.slot_zip_next
      (wpAny_call_entry F.slot_zip_next typ F.entry_zip_next (held_item S e1 e2 e3 hz hT I hx hy hu fun h' k1 k2 k3 k4 k5 => wpAny_pure (q h' s.toks (.inr ⟨T, true, oT, k1, k5 _ _ w0 w1 w2 w3 hT, ⟨_, k5 _ _ S.TOz (fun e => S.Tf1 (by rw [e]; simp)) (fun e => S.Tf2 (by rw [e]; simp)) (fun e => S.Tf3 (by rw [e]; simp)) hOO⟩, hne, w0, w1, w2, w3⟩) k2 k3 fun c o c0 _ c1 c2 c3 e => k5 c o c0 c1 c2 c3 e)) (F.args_zip_next_1 _))))
theorem z3_end {SS : Addr} (hh : A.handled = none) {Q : Option Value → Shared → Prop} (S : Sep z TI TO i1 i2 i3 l1 l2 l3) (e1 : l1 ≠ i1) (e2 : l2 ≠ i2) (e3 : l3 ≠ i3) (st : Zs s.heap z TI TO SS i1 i2 i3) (I : Its3 s.heap TI i1 i2 i3 l1 l2 l3 xs ys zs i) (hx : i = xs.size) (hy : i = ys.size) (hu : i = zs.size)
    (q : ∀ h' tk, (∀ c o, c ≠ z → c ≠ TO → c ≠ i1 → c ≠ i2 → c ≠ i3 → s.heap.get? c = some o → h'.get? c = some o) → Q none { s with heap := h', toks := tk }) :
    wpAny (model P w) A (pyNext (.ref z)) Q E s := by
  rcases st with ⟨hz, a1, a2, a3, hO⟩ | ⟨T, f, oT, hz, hT, ⟨oO, hOO⟩, hne, w0, w1, w2, w3⟩
  · have D1 := Draws.list (prog := P) (w := w) (A := A.in1) (by simp [hh]) i1 l1 e1 xs
    have D2 := Draws.list (prog := P) (w := w) (A := A.in1) (by simp [hh]) i2 l2 e2 ys
    have D3 := Draws.list (prog := P) (w := w) (A := A.in1) (by simp [hh]) i3 l3 e3 zs
    exact wpAny_pyNext_zipD3_end S D1 D2 D3 hz I.ti hO I.a I.b I.c (Nat.le_of_eq hx) (Nat.le_of_eq hy) (Nat.le_of_eq hu) (.inl hx) q
  · have typ : s.TypeIs (.ref z) "zip" := ⟨_, hz, rfl⟩
    unfold pyNext
    refine wpAny_bind (wpAny_attempt (wpAny_callSpecial?_slot (name := Str.ofString "__next__") typ F.slot_zip_next
      (wpAny_call_entry F.slot_zip_next typ F.entry_zip_next (held_end (by simp [hh]) S hz hT I (by rw [hx]; simp) fun h' e hk he => ?_) (F.args_zip_next_1 _))))
    obtain ⟨o, ho, hc⟩ := he
    exact wpAny_bind (wpAny_isInstance (T := "StopIteration") (b := true) ⟨o, ho, hc⟩ isSubtype_stop (wpAny_pure (q _ s.toks fun c o c0 _ c1 _ _ x => hk c o c0 c1 x)))
/-- the tuples made so far -/
def Tups (h : Heap) (SS : Addr) (L : List Addr) (xs ys zs acc : Array Value) : Prop := acc.toList.Nodup ∧ ∀ (j : Nat) (v : Value), acc[j]? = some v → ∃ T x y u, v = .ref T ∧ xs[j]? = some x ∧ ys[j]? = some y ∧ zs[j]? = some u ∧ IsTupOf3 h T x y u ∧ SS < T ∧ ∀ b ∈ L, T ≠ b
theorem z3_loop {SS : Addr} {R : Result → Shared → Prop} (hh : A.handled = none) (S : Sep z TI TO i1 i2 i3 l1 l2 l3) (e1 : l1 ≠ i1) (e2 : l2 ≠ i2) (e3 : l3 ≠ i3) (h12 : xs.size = ys.size) (h13 : xs.size = zs.size) (hn : xs.size ≤ 1000) (ap : ∀ b ∈ [z, TI, TO, i1, i2, i3, l1, l2, l3], SS ≠ b) (res : Value) :
    ∀ (k i : Nat) (s : Shared) (acc : Array Value) (c : Nat), xs.size - i = k → i ≤ xs.size → Zs s.heap z TI TO SS i1 i2 i3 → Its3 s.heap TI i1 i2 i3 l1 l2 l3 xs ys zs i → s.heap.get? SS = some { cls := .type "list", dict := none, data := .seq acc c, slots := #[] } → acc.size = i → Tups s.heap SS [SS, z, TO, i1, i2, i3] xs ys zs acc →
    (∀ h' tk acc' c', h'.get? SS = some { cls := .type "list", dict := none, data := .seq acc' c', slots := #[] } → acc'.size = xs.size → Tups h' SS [SS, z, TO, i1, i2, i3] xs ys zs acc' → (∀ c o, c ≠ SS → c ≠ z → c ≠ TO → c ≠ i1 → c ≠ i2 → c ≠ i3 → s.heap.get? c = some o → h'.get? c = some o) → R (.ok (.ret res)) { s with heap := h', toks := tk }) →
    codeAny (model P w) A (.builtin "list.extend.loop" ⟨[.ref SS, .ref z, res], []⟩) R s := by
  have aSz : SS ≠ z := ap z (by simp)
  have aTI : SS ≠ TI := ap TI (by simp)
  have aTO : SS ≠ TO := ap TO (by simp)
  have a1 : SS ≠ i1 := ap i1 (by simp)
  have a2 : SS ≠ i2 := ap i2 (by simp)
  have a3 : SS ≠ i3 := ap i3 (by simp)
  have b1 : SS ≠ l1 := ap l1 (by simp)
  have b2 : SS ≠ l2 := ap l2 (by simp)
  have b3 : SS ≠ l3 := ap l3 (by simp)
  intro k
  induction k with
  | zero =>
    intro i s acc c hk hi st I hS hacc ht hR
    have ei : i = xs.size := by omega
    refine codeAny_builtin F.entry_extend_loop ?_
    rw [Around.under_plainId F.plain_extend_loop _]
    show wpAny _ A.in1 (pyNext (.ref z) >>= _) _ _ s
    refine wpAny_bind (z3_end (by simp [hh]) S e1 e2 e3 st I ei (by omega) (by omega) fun h' tk kk => wpAny_pure ?_)
    exact hR h' tk acc c (kk _ _ aSz aTO a1 a2 a3 hS) (by omega) ⟨ht.1, fun j v hj => by
      obtain ⟨T, x, y, u, q1, q2, q3, q4, q5, q7, q6⟩ := ht.2 j v hj
      exact ⟨T, x, y, u, q1, q2, q3, q4, kk _ _ (q6 z (by simp)) (q6 TO (by simp)) (q6 i1 (by simp)) (q6 i2 (by simp)) (q6 i3 (by simp)) q5, q7, q6⟩⟩ fun c o _ c0 cT c1 c2 c3 e => kk c o c0 cT c1 c2 c3 e
  | succ k ih =>
    intro i s acc c hk hi st I hS hacc ht hR
    have hlt : i < xs.size := by omega
    have x0 : xs[i]? = some xs[i] := Array.getElem?_eq_getElem hlt
    have y0 : ys[i]? = some (ys[i]'(by omega)) := Array.getElem?_eq_getElem (by omega)
    have u0 : zs[i]? = some (zs[i]'(by omega)) := Array.getElem?_eq_getElem (by omega)
    have no : ∀ {b : Addr} {o : Obj}, s.heap.get? b = some o → s.heap.objs.size ≠ b := fun e => Nat.ne_of_gt (Heap.lt_size e)
    have nz : s.heap.objs.size ≠ z := by
      rcases st with ⟨e, _⟩ | ⟨_, _, _, e, _⟩
      · exact no e
      · exact no e
    have nTO : s.heap.objs.size ≠ TO := by
      rcases st with ⟨_, _, _, _, e⟩ | ⟨_, _, _, _, _, ⟨_, e⟩, _⟩
      · exact no e
      · exact no e
    refine codeAny_builtin F.entry_extend_loop ?_
    rw [Around.under_plainId F.plain_extend_loop _]
    show wpAny _ A.in1 (pyNext (.ref z) >>= _) _ _ s
    refine wpAny_bind (z3_item (by simp [hh]) S e1 e2 e3 st I x0 y0 u0 (Heap.lt_size hS) fun h' tk st' I' tp kk => ?_)
    have hS' := kk _ _ aSz aTO a1 a2 a3 hS
    show wpAny _ A.in1 (updateSeq SS (·.push (.ref s.heap.objs.size)) >>= _) _ _ _
    refine wpAny_bind ?_
    have up : ∀ b o, b ≠ SS → h'.get? b = some o → (h'.update SS (Obj.mapSeq (·.push (.ref s.heap.objs.size)))).get? b = some o := fun b o hb e => (Heap.get?_update_other _ _ (Ne.symm hb)).trans e
    refine wpAny_updateSeq (s := { s with heap := h', toks := tk }) hS' rfl (wpAny_pure ⟨plainId_quiet F.plain_extend_loop _, ih (i + 1) _ (acc.push (.ref s.heap.objs.size)) _ (by omega) (by omega) ?_ ?_ (Heap.get?_update_self _ hS' rfl) (by rw [Array.size_push, hacc]) ?_ fun h2 tk2 acc2 c2 m1 m2 m3 m4 => ?_⟩)
      (by rw [hacc, sizeLine_eq]; omega) (by show (acc.push _).size ≤ sizeLine + 1; rw [Array.size_push, hacc, sizeLine_eq]; omega)
    · rcases st' with ⟨q1, q2⟩ | ⟨T, f, oT, q1, q2, ⟨oO, qO⟩, q3, q4⟩
      · exact .inl ⟨up _ _ (Ne.symm aSz) q1, let ⟨a, b, c, q⟩ := q2; ⟨a, b, c, up _ _ (Ne.symm aTO) q⟩⟩
      · exact .inr ⟨T, f, oT, up _ _ (Ne.symm aSz) q1, up _ _ q3 q2, ⟨oO, up _ _ (Ne.symm aTO) qO⟩, q3, q4⟩
    · exact ⟨up _ _ (Ne.symm aTI) I'.ti, ⟨I'.a.1.at fun o e => up _ _ (Ne.symm a1) e, I'.a.2.at fun o e => up _ _ (Ne.symm b1) e⟩, ⟨I'.b.1.at fun o e => up _ _ (Ne.symm a2) e, I'.b.2.at fun o e => up _ _ (Ne.symm b2) e⟩, ⟨I'.c.1.at fun o e => up _ _ (Ne.symm a3) e, I'.c.2.at fun o e => up _ _ (Ne.symm b3) e⟩⟩
    · refine ⟨?_, ?_⟩
      · rw [Array.toList_push, List.nodup_append]
        refine ⟨ht.1, by simp, fun v hv v' hv' e => ?_⟩
        rw [List.mem_singleton] at hv'
        obtain ⟨j, hj⟩ := List.mem_iff_getElem?.mp hv
        rw [Array.getElem?_toList] at hj
        obtain ⟨T, x, y, u, q1, _, _, _, q5, _⟩ := ht.2 j v hj
        rw [e, hv'] at q1
        cases q1
        exact no q5 rfl
      intro j v hj
      rw [Array.getElem?_push] at hj
      split at hj
      · rename_i ej
        cases hj
        rw [hacc] at ej
        subst ej
        refine ⟨s.heap.objs.size, _, _, _, rfl, x0, y0, u0, up _ _ (no hS) tp, Heap.lt_size hS, fun b hb => ?_⟩
        simp only [List.mem_cons, List.not_mem_nil, or_false] at hb
        rcases hb with rfl | rfl | rfl | rfl | rfl | rfl
        · exact no hS
        · exact nz
        · exact nTO
        · exact let ⟨o, e, _⟩ := I.a.1; no e
        · exact let ⟨o, e, _⟩ := I.b.1; no e
        · exact let ⟨o, e, _⟩ := I.c.1; no e
      · obtain ⟨T, x, y, u, q1, q2, q3, q4, q5, q7, q6⟩ := ht.2 j v hj
        exact ⟨T, x, y, u, q1, q2, q3, q4, up _ _ (q6 SS (by simp)) (kk _ _ (q6 z (by simp)) (q6 TO (by simp)) (q6 i1 (by simp)) (q6 i2 (by simp)) (q6 i3 (by simp)) q5), q7, q6⟩
    · exact hR h2 tk2 acc2 c2 m1 m2 m3 fun c o cS c0 cT c1 c2 c3 e => m4 c o cS c0 cT c1 c2 c3 (up _ _ cS (kk c o c0 cT c1 c2 c3 e))
theorem no_len_zip : typeLookup (.type "zip") "__len__" = pure none := by rw [typeLookup_type, builtinLookup_eq_fast]; kernel_rfl
theorem no_hint_zip : typeLookup (.type "zip") "__length_hint__" = pure none := by rw [typeLookup_type, builtinLookup_eq_fast]; kernel_rfl
theorem z3_list {Q : Value → Shared → Prop} (hh : A.handled = none) (S : Sep z TI TO i1 i2 i3 l1 l2 l3) (e1 : l1 ≠ i1) (e2 : l2 ≠ i2) (e3 : l3 ≠ i3) (h12 : xs.size = ys.size) (h13 : xs.size = zs.size) (hn : xs.size ≤ 1000)
    (hz : IsZip s.heap z TI TO .none) (hO : IsTupOf3 s.heap TO .none .none .none) (I : Its3 s.heap TI i1 i2 i3 l1 l2 l3 xs ys zs 0)
    (q : ∀ h' tk acc c, h'.get? s.heap.objs.size = some { cls := .type "list", dict := none, data := .seq acc c, slots := #[] } → acc.size = xs.size → Tups h' s.heap.objs.size [s.heap.objs.size, z, TO, i1, i2, i3] xs ys zs acc →
      (∀ c o, c ≠ z → c ≠ TO → c ≠ i1 → c ≠ i2 → c ≠ i3 → s.heap.get? c = some o → h'.get? c = some o) → Q (.ref s.heap.objs.size) { s with heap := h', toks := tk }) :
    wpAny (model P w) A (call (.type "list") [.ref z]) Q E s := by
  have no : ∀ {b : Addr} {o : Obj}, s.heap.get? b = some o → s.heap.objs.size ≠ b := fun e => Nat.ne_of_gt (Heap.lt_size e)
  have noZ := no hz
  have noTI := no I.ti
  have noTO := no hO
  have no1 : s.heap.objs.size ≠ i1 := let ⟨o, e, _⟩ := I.a.1; no e
  have no2 : s.heap.objs.size ≠ i2 := let ⟨o, e, _⟩ := I.b.1; no e
  have no3 : s.heap.objs.size ≠ i3 := let ⟨o, e, _⟩ := I.c.1; no e
  have nl1 : s.heap.objs.size ≠ l1 := let ⟨o, e, _⟩ := I.a.2; no e
  have nl2 : s.heap.objs.size ≠ l2 := let ⟨o, e, _⟩ := I.b.2; no e
  have nl3 : s.heap.objs.size ≠ l3 := let ⟨o, e, _⟩ := I.c.2; no e
  refine callType_codes (Q₁ := fun v t => v = .ref s.heap.objs.size ∧ t = { s with heap := s.heap.push { cls := .type "list", data := .seq #[] } }) F.called_list (F.typeCall_list_1 _) F.entry_list_init (code_list_new _ ⟨rfl, rfl⟩) fun v t ht => ?_
  obtain ⟨rfl, rfl⟩ := ht
  have g0 : (s.heap.push { cls := .type "list", data := .seq #[] }).get? s.heap.objs.size = some { cls := .type "list", data := .seq #[] } := Heap.get?_push_size _ rfl
  refine ⟨⟨_, g0, rfl⟩, F.args_list_init_2 _ _, ?_⟩
  show wpAny _ A.in1.in1 (do let old ← Builtin.List.listItems (.ref s.heap.objs.size); Builtin.List.listUpdate (.ref s.heap.objs.size) (fun _ => #[]); letGo old.toList.reverse; Builtin.List.listExtendWith (.ref s.heap.objs.size) (.ref z) .none) _ _ _
  refine wpAny_bind ?_
  unfold Builtin.List.listItems
  refine wpAny_bind (wpAny_seqItems g0 rfl (wpAny_pure ?_))
  show wpAny _ A.in1.in1 (updateSeq s.heap.objs.size (fun _ => #[]) >>= fun _ => letGo (#[] : Array Value).toList.reverse >>= fun _ => Builtin.List.listExtendWith (.ref s.heap.objs.size) (.ref z) .none) _ _ _
  refine wpAny_bind (wpAny_updateSeq g0 rfl (wpAny_bind (wpAny_letGo ?_)))
  have g1 := Heap.get?_update_self (Obj.mapSeq (fun _ => (#[] : Array Value))) g0 rfl
  generalize hg : (s.heap.push { cls := .type "list", data := .seq #[] }).update s.heap.objs.size (Obj.mapSeq (fun _ => (#[] : Array Value))) = hA at g1 ⊢
  have up1 : ∀ b o, s.heap.get? b = some o → hA.get? b = some o := fun b o e => by
    rw [← hg]
    exact (Heap.get?_update_other _ _ (no e)).trans (Heap.get?_push_of_some _ e)
  have typ : Shared.TypeIs { s with heap := hA } (.ref z) "zip" := ⟨_, up1 _ _ hz, rfl⟩
  unfold Builtin.List.listExtendWith
  refine wpAny_bind (wpAny_typeOf typ ?_)
  have c1 : Builtin.List.listSameRef (.ref s.heap.objs.size) (.ref z) = false := by simp [Builtin.List.listSameRef, noZ]
  have c2 : (Value.type "zip" == Value.type "list") = false := by decide
  have c3 : (Value.type "zip" == Value.type "tuple") = false := by decide
  simp only [c1, c2, c3, Bool.or_false, Bool.false_eq_true, if_false]
  refine wpAny_bind (wpAny_pyIter_zip (s := { s with heap := hA }) (up1 _ _ hz) (wpAny_bind (wpAny_holding ?_)))
  unfold Builtin.List.listLengthHint
  refine wpAny_bind (wpAny_specialOf typ no_len_zip ?_)
  show wpAny _ A.in1.in1 (specialOf (Value.ref z) (Str.ofString "__length_hint__") >>= _) _ _ _
  refine wpAny_bind (wpAny_specialOf typ no_hint_zip (wpAny_pure ?_))
  show wpAny _ A.in1.in1 (rule "list.extend.makes-room" >>= fun _ => Builtin.List.listTouch (.ref s.heap.objs.size) >>= fun _ => again (.builtin "list.extend.loop" ⟨[.ref s.heap.objs.size, .ref z, .none], []⟩)) _ _ _
  refine wpAny_bind (wpAny_rule (wpAny_bind ?_))
  show wpAny _ A.in1.in1 (updateSeq s.heap.objs.size (·.push .none) >>= fun _ => updateSeq s.heap.objs.size (·.pop)) _ _ _
  refine wpAny_bind (wpAny_updateSeq g1 rfl ?_)
  have g2 := Heap.get?_update_self (Obj.mapSeq (·.push Value.none)) g1 rfl
  refine wpAny_updateSeq (hz := by seq_fits) g2 rfl ?_
  have g3 := Heap.get?_update_self (Obj.mapSeq (·.pop)) g2 rfl
  have up2 : ∀ b o, s.heap.get? b = some o → ((hA.update s.heap.objs.size (Obj.mapSeq (·.push Value.none))).update s.heap.objs.size (Obj.mapSeq (·.pop))).get? b = some o := fun b o e =>
    (Heap.get?_update_other _ _ (no e)).trans ((Heap.get?_update_other _ _ (no e)).trans (up1 b o e))
  refine wpAny_pure ⟨plainId_quiet F.plain_extend_loop _, z3_loop (by simp [hh]) S e1 e2 e3 h12 h13 hn (fun b hb => ?_) _ _ 0 _ _ _ rfl (Nat.zero_le _) (.inl ⟨up2 _ _ hz, _, _, _, up2 _ _ hO⟩) ⟨up2 _ _ I.ti, ⟨I.a.1.at fun o e => up2 _ _ e, I.a.2.at fun o e => up2 _ _ e⟩, ⟨I.b.1.at fun o e => up2 _ _ e, I.b.2.at fun o e => up2 _ _ e⟩, ⟨I.c.1.at fun o e => up2 _ _ e, I.c.2.at fun o e => up2 _ _ e⟩⟩ g3 rfl
    ⟨by simp, fun j v hj => by simp at hj⟩ fun h' tk acc c m1 m2 m3 m4 => ⟨rfl, q h' tk acc c m1 m2 m3 fun c o c0 cT c1 c2 c3 e => m4 c o (Ne.symm (no e)) c0 cT c1 c2 c3 (up2 _ _ e)⟩⟩
  simp only [List.mem_cons, List.not_mem_nil, or_false] at hb
  rcases hb with rfl | rfl | rfl | rfl | rfl | rfl | rfl | rfl | rfl <;> assumption
end
/-! ### several objects tracked at once -/
def putO : Hp → List (Addr × HO) → Hp
  | H, [] => H
  | H, (a, o) :: l => upd (putO H l) a o
theorem putO_off {H : Hp} {b : Addr} : ∀ {l : List (Addr × HO)}, b ∉ l.map (·.1) → putO H l b = H b
  | [], _ => rfl
  | (a, o) :: l, h => by
    simp only [List.map_cons, List.mem_cons, not_or] at h
    rw [putO, upd_ne h.1, putO_off h.2]
theorem putO_cases {H : Hp} {b : Addr} {u : HO} : ∀ {l : List (Addr × HO)}, putO H l b = some u → (b, u) ∈ l ∨ (b ∉ l.map (·.1) ∧ H b = some u)
  | [], h => .inr ⟨by simp, h⟩
  | (a, o) :: l, h => by
    rw [putO] at h
    by_cases e : b = a
    · subst e
      rw [upd_same] at h
      cases h
      exact .inl (by simp)
    · rw [upd_ne e] at h
      rcases putO_cases h with q | ⟨q1, q2⟩
      · exact .inl (List.mem_cons_of_mem _ q)
      · exact .inr ⟨by simp only [List.map_cons, List.mem_cons, not_or]; exact ⟨e, q1⟩, q2⟩
theorem putO_in {H : Hp} {p : Addr × HO} : ∀ {l : List (Addr × HO)}, p ∈ l → (l.map (·.1)).Nodup → putO H l p.1 = some p.2
  | (a, o) :: l, h, nd => by
    rw [List.map_cons, List.nodup_cons] at nd
    rw [putO]
    rcases List.mem_cons.mp h with rfl | h
    · exact upd_same
    · have ne : p.1 ≠ a := fun e => nd.1 (by rw [← e]; exact List.mem_map.mpr ⟨p, h, rfl⟩)
      rw [upd_ne ne, putO_in h nd.2]
theorem putO_same {H : Hp} {l : List (Addr × HO)} (h : ∀ p ∈ l, H p.1 = none) : Same H (putO H l) := fun a o e => by
  have : a ∉ l.map (·.1) := fun m => by
    obtain ⟨p, hp, rfl⟩ := List.mem_map.mp m
    rw [h p hp] at e; cases e
  rw [putO_off this]; exact e
section
variable {X : Cx} {b : Bs} {W : WX} {k : Nat} {σ : L2.St} {RR RR' : List Addr} {F F' H H' : Hp} {s : S} {Q : VK}
theorem laid_all {pins : List (Addr × Obj)} {sh : Shared} {h' : Heap} {tk : Nat} {l : List (Addr × HO)} (I : L2.Inv X pins σ H sh) (kp : ∀ b o, sh.heap.get? b = some o → h'.get? b = some o) (hn : ∀ p ∈ l, sh.heap.objs.size ≤ p.1) (ok : ∀ p ∈ l, ∀ H2, ObjOk X.prog X.w H2 h' p.1 p.2) :
    L2.Inv X pins σ (putO H l) { sh with heap := h', toks := tk } := by
  have fresh : ∀ p ∈ l, H p.1 = none := fun p hp => I.hok.fresh (hn p hp)
  have sm : Same H (putO H l) := putO_same fresh
  refine I.call' (ch := []) rfl ⟨fun b o q _ _ _ => kp b o q, fun b o q _ _ _ => ⟨o.slots, kp b o q⟩, fun b o q n _ => ?_, fun b o q _ => ⟨o, kp b o q⟩, fun b _ q => sm b _ q, fun b _ _ q => sm b _ q, fun b ps q => ⟨#[], by rw [sm b _ q]; simp⟩⟩ (fun b u q => ?_) I.bare fun b z => by simp at z
  · have : b ∉ l.map (·.1) := fun m => by
      obtain ⟨p, hp, rfl⟩ := List.mem_map.mp m
      exact Nat.lt_irrefl _ (Nat.lt_of_lt_of_le (Heap.lt_size q) (hn p hp))
    rw [putO_off this]; exact n
  · rcases putO_cases q with q | ⟨_, q⟩
    · exact ok _ q _
    · exact (I.hok b u q).stay (fun c v _ y => kp c v y) (fun c y => sm c _ y) fun c xs y => sm c _ y
def mk3 : List Value → List V → List V → List V → List (Addr × HO)
  | .ref T :: r, a :: l, b :: m, c :: n => (T, .tup [a, b, c]) :: mk3 r l m n
  | _, _, _, _ => []
theorem mk3_all {P : Program} {w : World} {h : Heap} {SS : Addr} : ∀ (L i1 i2 i3 : List Value) (v1 v2 v3 : List V), Vals v1 i1 → Vals v2 i2 → Vals v3 i3 → L.length = v1.length → L.length = v2.length → L.length = v3.length →
    (∀ (j : Nat) (v : Value), L[j]? = some v → ∃ T x y u, v = .ref T ∧ i1[j]? = some x ∧ i2[j]? = some y ∧ i3[j]? = some u ∧ IsTupOf3 h T x y u ∧ SS < T) →
    (∀ p ∈ mk3 L v1 v2 v3, SS < p.1 ∧ ∀ H2, ObjOk P w H2 h p.1 p.2) ∧ (mk3 L v1 v2 v3).map (fun p => Value.ref p.1) = L
  | [], _, _, _, v1, v2, v3, _, _, _, _, _, _, _ => by
    have : mk3 [] v1 v2 v3 = [] := by unfold mk3; rfl
    rw [this]; exact ⟨fun p hp => by simp at hp, rfl⟩
  | x :: L, _, _, _, _, _, _, .nil, _, _, h1, _, _, _ => by simp at h1
  | x :: L, _, _, _, _, _, _, .cons _ _, .nil, _, _, h1, _, _ => by simp at h1
  | x :: L, _, _, _, _, _, _, .cons _ _, .cons _ _, .nil, _, _, h1, _ => by simp at h1
  | x :: L, _, _, _, _, _, _, .cons r1 t1, .cons r2 t2, .cons r3 t3, h1, h2, h3, hh => by
    obtain ⟨T, p, q, u, rfl, e1, e2, e3, tp, lt⟩ := hh 0 x rfl
    cases e1; cases e2; cases e3
    obtain ⟨g1, g2⟩ := mk3_all (P := P) (w := w) L _ _ _ _ _ _ t1 t2 t3 (by simpa using h1) (by simpa using h2) (by simpa using h3) fun j v hj => hh (j + 1) v hj
    refine ⟨fun p hp => ?_, by rw [mk3, List.map_cons, g2]⟩
    rw [mk3] at hp
    rcases List.mem_cons.mp hp with rfl | hp
    · exact ⟨lt, fun H2 => ⟨by show 3 ≤ sizeLine; rw [sizeLine_eq]; omega, _, .cons r1 (.cons r2 (.cons r3 .nil)), ⟨_, tp, rfl, _, rfl⟩⟩⟩
    · exact g1 p hp
theorem mk3_reps {K : PySem.W.Frag} {g : Str → Option Addr} : ∀ (L : List Value) (l m n : List D) (v1 v2 v3 : List V), Reps K g RR F l v1 → Reps K g RR F m v2 → Reps K g RR F n v3 → L.length = v1.length → L.length = v2.length → L.length = v3.length → (∀ v ∈ L, ∃ T, v = .ref T) → Same F F' →
    (∀ p ∈ mk3 L v1 v2 v3, F' p.1 = some p.2) → Reps K g RR F' (zip3D l m n) ((mk3 L v1 v2 v3).map fun p => V.ref p.1)
  | [], _, _, _, _, _, _, .nil, _, _, _, _, _, _, _, _ => by unfold zip3D mk3; exact .nil
  | [], _, _, _, _, _, _, .cons _ _, _, _, h, _, _, _, _, _ => by simp at h
  | _ :: _, _, _, _, _, _, _, .nil, _, _, h, _, _, _, _, _ => by simp at h
  | _ :: _, _, _, _, _, _, _, .cons _ _, .nil, _, _, h, _, _, _, _ => by simp at h
  | _ :: _, _, _, _, _, _, _, .cons _ _, .cons _ _, .nil, _, _, h, _, _, _ => by simp at h
  | x :: L, _, _, _, _, _, _, .cons r1 t1, .cons r2 t2, .cons r3 t3, h1, h2, h3, hr, sm, hF => by
    obtain ⟨T, rfl⟩ := hr x List.mem_cons_self
    rw [mk3] at hF
    rw [zip3D, mk3, List.map_cons]
    refine .cons (.tup (.inl (.inl (hF _ List.mem_cons_self))) (.cons (r1.mono sm (List.prefix_refl _)) (.cons (r2.mono sm (List.prefix_refl _)) (.cons (r3.mono sm (List.prefix_refl _)) .nil)))) ?_
    exact mk3_reps L _ _ _ _ _ _ t1 t2 t3 (by simpa using h1) (by simpa using h2) (by simpa using h3) (fun v hv => hr v (List.mem_cons_of_mem _ hv)) sm fun p hp => hF p (List.mem_cons_of_mem _ hp)
/-- what the three arguments are -/
def Args3 (b : Bs) (W : WX) (σ : L2.St) (Q : VK) : List V → Hp → Prop := fun vs H => ∃ R F s l m n a1 a2 a3 v1 v2 v3, vs = [.ref a1, .ref a2, .ref a3] ∧ Rel b R F s σ H ∧ F a1 = some (.lst v1) ∧ F a2 = some (.lst v2) ∧ F a3 = some (.lst v3) ∧
  Reps b.K b.g R F l v1 ∧ Reps b.K b.g R F m v2 ∧ Reps b.K b.g R F n v3 ∧ l.length = m.length ∧ l.length = n.length ∧ l.length ≤ 1000 ∧ Go b W σ R F (.ok (.new (.lst (zip3D l m n))) s) fun r s' RR' F' H' => ∀ v, RRel b RR' F' s' σ H' r v → Q v H'
theorem snd_zip3 {e f g : Expr} {a c d : E} {p p2 p3 pos : Pos} (A : Amb X b k) (gl : Gl X "list") (hm : X.mg "list" = none) (gl2 : Gl X "zip") (hm2 : X.mg "zip" = none) (ha : PE X e (tE b W (ev a))) (hc : PE X f (tE b W (ev c))) (hd : PE X g (tE b W (ev d)))
    (hs : notStar e = true) (ht : notStar f = true) (hu : notStar g = true) :
    PE X (.Call (.Name "list" p) [.Call (.Name "zip" p2) [e, f, g] [] p3] [] pos) (tE b W (ev (.zip3 a c d))) := by
  have pa := pa_cons (snd_val ha) (pa_cons (snd_val hc) (pa_cons (snd_val hd) pa_nil (star_cons hu)) (star_cons ht)) (star_cons hs)
  refine ⟨fun pins s σ H Q I ⟨RR, F, s0, r, q⟩ => ?_⟩
  simp only [ev] at q
  refine wpAny_Call_Name_kw (ld_blt I gl hm (Bi.boot .list) ?_ (by decide) (by decide))
  refine PyProof.Rows.callWith_type1 (PyProof.Rows.args_cons ?_ rfl) rfl rfl
  refine wpAny_Call_Name_kw (ld_blt I gl2 hm2 (u := .type "zip") (by decide +kernel) ?_ (by decide) (by decide))
  refine PyProof.Rows.callWith_type1 (thn (pa.run p3 pins s σ H (Args3 b W σ Q) I ?_) fun us s1 ⟨vs, H1, I1, rv, q1⟩ => ?_) (star_cons hs) (star_any _ (by simp [ht, hu]))
  · refine ⟨RR, F, s0, r, q.bind fun x s1 R1 F1 H1 p1 e1 r1 q1 v hv => ?_⟩
    refine ⟨R1, F1, s1, r1, q1.bind fun y s2 R2 F2 H2 p2 e2 r2 q2 u hu2 => ?_⟩
    refine ⟨R2, F2, s2, r2, q2.bind fun z s3 R3 F3 H3 p3 e3 r3 q3 t ht2 => ?_⟩
    have hv3 := (hv.mono e2 p2).mono e3 p3
    have hu3 := hu2.mono e3 p3
    split at q3
    · split at q3
      · rename_i hl
        cases hv3 with
        | lst f1 k1 =>
          cases hu3 with
          | lst f2 k2 =>
            cases ht2 with
            | lst f3 k3 => exact ⟨R3, F3, s3, _, _, _, _, _, _, _, _, _, rfl, r3, f1, f2, f3, k1, k2, k3, hl.1, hl.2.1, hl.2.2, q3⟩
      · exact q3.elim
    · exact q3.elim
  · obtain ⟨R, F1, s2, l, m, n, a1, a2, a3, v1, v2, v3, rfl, r1, f1, f2, f3, k1, k2, k3, h12, h13, hl, q2⟩ := q1
    obtain ⟨i1, t1, pl1, z1⟩ := I1.list (.inl (.inl (r1.fz _ _ f1)))
    obtain ⟨i2, t2, pl2, z2⟩ := I1.list (.inl (.inl (r1.fz _ _ f2)))
    obtain ⟨i3, t3, pl3, z3⟩ := I1.list (.inl (.inl (r1.fz _ _ f3)))
    have hus : us = [.ref a1, .ref a2, .ref a3] := by
      cases rv with
      | cons b1 rv => cases rv with
        | cons b2 rv => cases rv with
          | cons b3 rv => cases rv; cases b1; cases b2; cases b3; rfl
    subst hus
    have lt : ∀ {a : Addr} {items : Array Value}, s1.heap.IsList a items → ∀ b ∈ [a], b < s1.heap.objs.size := fun h b hb => by
      rw [List.mem_singleton.mp hb]; obtain ⟨o, e, _⟩ := h; exact Heap.lt_size e
    refine zip_begins3 (begins_list a1 i1.toArray) (begins_list a2 i2.toArray) (begins_list a3 i3.toArray) pl1.isList pl2.isList pl3.isList fun h1 hz hTI hTO g1 g2 g3 hsz kp => PyProof.Rows.args_nil ?_
    have S := zip_sep3 (lt pl1.isList) (lt pl2.isList) (lt pl3.isList)
    have sz1 : i1.toArray.size = l.length := by rw [List.size_toArray, ← t1.length, k1.len]
    have sz2 : i2.toArray.size = m.length := by rw [List.size_toArray, ← t2.length, k2.len]
    have sz3 : i3.toArray.size = n.length := by rw [List.size_toArray, ← t3.length, k3.len]
    have al1 := lt pl1.isList a1 (by simp)
    have al2 := lt pl2.isList a2 (by simp)
    have al3 := lt pl3.isList a3 (by simp)
    refine z3_list (s := { s1 with heap := h1 }) (I1.ok.hd A.calm) S (Nat.ne_of_lt al1) (Nat.ne_of_lt (Nat.lt_succ_of_lt al2)) (Nat.ne_of_lt (Nat.lt_succ_of_lt (Nat.lt_succ_of_lt al3))) (by rw [sz1, sz2, h12]) (by rw [sz1, sz3, h13]) (by rw [sz1]; exact hl) hz hTO
      ⟨hTI, ⟨⟨_, g1, rfl, rfl⟩, pl1.isList.at fun o e => kp _ _ e⟩, ⟨⟨_, g2, rfl, rfl⟩, pl2.isList.at fun o e => kp _ _ e⟩, ⟨⟨_, g3, rfl, rfl⟩, pl3.isList.at fun o e => kp _ _ e⟩⟩ fun h2 tk acc cc hL hn hT kp2 => ?_
    have hsz1 : s1.heap.objs.size ≤ h1.objs.size := by rw [hsz]; omega
    have kp3 : ∀ c o, s1.heap.get? c = some o → h2.get? c = some o := fun c o e => by
      have lc := Heap.lt_size e
      have ne : ∀ j : Nat, c ≠ s1.heap.objs.size + j := fun j => Nat.ne_of_lt (Nat.lt_of_lt_of_le lc (Nat.le_add_right _ _))
      exact kp2 c o (ne 5) (ne 4) (ne 0) (ne 1) (ne 2) (kp c o e)
    have ll1 : acc.toList.length = v1.length := by rw [Array.length_toList, hn, sz1, k1.len]
    have ll2 : acc.toList.length = v2.length := by rw [Array.length_toList, hn, sz1, h12, k2.len]
    have ll3 : acc.toList.length = v3.length := by rw [Array.length_toList, hn, sz1, h13, k3.len]
    obtain ⟨m1, m2⟩ := mk3_all (P := X.prog) (w := X.w) (h := h2) (SS := h1.objs.size) acc.toList i1 i2 i3 v1 v2 v3 t1 t2 t3 ll1 ll2 ll3 fun j v hj => by
      rw [Array.getElem?_toList] at hj
      obtain ⟨T, x, y, u, w1, w2, w3, w4, w5, w6, _⟩ := hT.2 j v hj
      exact ⟨T, x, y, u, w1, by simpa using w2, by simpa using w3, by simpa using w4, w5, w6⟩
    have ndA : ((mk3 acc.toList v1 v2 v3).map (·.1)).Nodup := by
      have h := hT.1
      rw [← m2] at h
      have e : (mk3 acc.toList v1 v2 v3).map (fun p => Value.ref p.1) = ((mk3 acc.toList v1 v2 v3).map (·.1)).map Value.ref := by rw [List.map_map]; rfl
      rw [e] at h
      exact List.Pairwise.of_map Value.ref (fun a b h e => h (by rw [e])) h
    have refs : ∀ v ∈ acc.toList, ∃ T, v = .ref T := fun v hv => by
      obtain ⟨j, hj⟩ := List.mem_iff_getElem?.mp hv
      rw [Array.getElem?_toList] at hj
      obtain ⟨T, _, _, _, w1, _⟩ := hT.2 j v hj
      exact ⟨T, w1⟩
    have vrefs : Vals ((mk3 acc.toList v1 v2 v3).map fun p => V.ref p.1) acc.toList := by
      have : ∀ l : List (Addr × HO), Vals (l.map fun p => V.ref p.1) (l.map fun p => Value.ref p.1) := fun l => by
        induction l with
        | nil => exact .nil
        | cons p l ih => exact .cons rfl ih
      have h := this (mk3 acc.toList v1 v2 v3)
      rw [m2] at h; exact h
    generalize hL3 : mk3 acc.toList v1 v2 v3 = L3 at *
    have big1 : ∀ p ∈ (h1.objs.size, HO.lst (L3.map fun p => V.ref p.1)) :: L3, s1.heap.objs.size ≤ p.1 := fun p hp => by
      rcases List.mem_cons.mp hp with rfl | hp
      · exact hsz1
      · exact Nat.le_of_lt (Nat.lt_of_le_of_lt hsz1 (m1 p hp).1)
    have I2 := laid_all (tk := tk) (l := (h1.objs.size, HO.lst (L3.map fun p => V.ref p.1)) :: L3) I1 kp3 big1 fun p hp H2 => by
      rcases List.mem_cons.mp hp with rfl | hp
      · refine ⟨?_, acc.toList, cc, vrefs, by rw [Array.toArray_toList]; exact hL⟩
        rw [vrefs.length, ll1, ← k1.len, sizeLine_eq]; omega
      · exact (m1 p hp).2 H2
    refine ⟨.ref h1.objs.size, _, I2, rfl, ?_⟩
    have frH : ∀ p ∈ L3, H1 p.1 = none := fun p hp => I1.hok.fresh (big1 p (List.mem_cons_of_mem _ hp))
    have frF : ∀ p ∈ L3, F1 p.1 = none := fun p hp => by
      cases z : F1 p.1 with
      | none => rfl
      | some o => have := r1.fz _ _ z; rw [frH p hp] at this; cases this
    have smF : Same F1 (putO F1 L3) := putO_same frF
    have r2 : Rel b R (putO F1 L3) s2 σ (putO H1 L3) := r1.upg smF (putO_same frH) fun a o q => by
      rcases putO_cases q with q | ⟨_, q⟩
      · exact .inr ⟨frH _ q, putO_in q ndA⟩
      · exact .inl q
    have hp0 : putO H1 L3 h1.objs.size = none := by
      rw [putO_off]
      · exact I1.hok.fresh hsz1
      · intro mm
        obtain ⟨p, hp, e⟩ := List.mem_map.mp mm
        have := (m1 p hp).1
        rw [show p.1 = h1.objs.size from e] at this
        exact Nat.lt_irrefl _ this
    have reps : Reps b.K b.g R (putO F1 L3) (zip3D l m n) (L3.map fun p => V.ref p.1) := by
      have := mk3_reps (F' := putO F1 L3) acc.toList l m n v1 v2 v3 k1 k2 k3 ll1 ll2 ll3 refs smF (by rw [hL3]; exact fun p hp => putO_in hp ndA)
      rw [hL3] at this; exact this
    exact (res_ok (q2.up (List.prefix_refl _) smF) r2 fun i z => by cases z).lst reps _ hp0
end
end G4

namespace G4
open PySem PySem.Spec PyProof.Rows L2
/-! ### set(a list of ints) -/
section
variable {P : Program} {w : World} {A : Around} {E : Value → Shared → Prop}
/-- a set just made -/
def freshSet (w : World) : Obj := { cls := .type "set", dict := none, data := .set #[] 0 (.fresh 0 0 (!w.params.followText "set-order")) }
/-- its start from a list -/
theorem set_start {t : Shared} {S l : Addr} {items : Array Value} (ns : List Int) {R : Value → Shared → Prop} (hA : A.handled = none) (hS : t.heap.get? S = some (freshSet w)) (hl : t.heap.IsList l items) (hn : l ≠ S) (hi : IntsAre items.toList ns) (hb : ns.length + 1 < scanBound)
    (q : ∀ (h' : Heap) (tk c : Nat), SetR w h' S (fun j => decide (j ∈ ns)) c → c ≤ ns.length → (∀ b o, b ≠ S → t.heap.get? b = some o → h'.get? b = some o) → R .none { t with heap := h', toks := tk }) :
    codeAny (model P w) A (.call (.builtin "set.__init__") ⟨[.ref S, .ref l], []⟩) (wants R E) t := by
  have size : items.size = ns.length := by
    have := IntsAre.length hi
    rwa [Array.length_toList] at this
  have typ : t.TypeIs (.ref S) "set" := ⟨_, hS, rfl⟩
  refine codeAny_call_builtin (R := wants R E) F.called_set.init.plain F.entry_set_init (check_set_init_1 typ ?_)
  obtain ⟨⟨k1, k2, k3, k4⟩, hol, hcl, nl, hdl⟩ := hl
  simp only at hcl hdl
  subst hcl hdl
  have z1 := F.sub_list_set
  have z2 := F.sub_list_frozenset
  have z3 : (Value.type "list" == Value.type "dict") = false := by decide
  have isl : t.heap.IsList l items := ⟨_, hol, rfl, nl, rfl⟩
  unfold Builtin.«set.__init__» noKeywords Builtin.Frozenset.updateFrom
  generalize hPI : pyIter = PI
  wp_walk
  subst hPI
  refine wpAny_pyIter_list isl (wpAny_bind (wpAny_runValue ?_))
  have lS := Heap.lt_size hS
  have ll := Heap.lt_size hol
  have out : S ∉ [t.heap.objs.size, l] := by
    simp only [List.mem_cons, List.not_mem_nil, or_false, not_or]
    exact ⟨Nat.ne_of_lt lS, Ne.symm hn⟩
  have val : ∀ (i : Nat) (v : Value), items[i]? = some v → ∃ k u, ns[i]? = some k ∧ v = .int k u := fun i v hv => by
    have lt : i < ns.length := by rw [← size]; exact (Array.getElem?_eq_some_iff.mp hv).1
    obtain ⟨u, e⟩ := IntsAre.int_at hi i v (by rw [Array.getElem?_toList]; exact hv)
    exact ⟨ns[i], u, List.getElem?_eq_getElem lt, by rw [e, List.getD_eq_getElem?_getD, List.getElem?_eq_getElem lt]; rfl⟩
  refine set_update_ints ((Walks.list (by simp [hA]) _ l (Nat.ne_of_lt ll) items).toS) S out ns size hb val _ 0 _ rfl (Nat.zero_le _) ⟨⟨_, Heap.get?_push_size _ rfl, rfl, rfl⟩, isl.push _⟩ ⟨0, Nat.le_refl 0, setR_new_at (Heap.get?_push_of_some _ hS)⟩ fun s' c hm hc hR => ?_
  obtain ⟨h', g2, d2, tk, os2⟩ := s'
  obtain rfl : g2 = t.gens := hm.gens
  obtain rfl : d2 = t.drawn := hm.drawn
  obtain rfl : os2 = t.os := hm.os
  refine wpAny_pure (wpAny_pure ?_)
  refine q h' tk c hR (size ▸ hc) fun b o nb e => hm.heap b o ?_ (Heap.get?_push_of_some _ e)
  simp only [List.mem_cons, List.not_mem_nil, or_false, not_or]
  exact ⟨nb, Nat.ne_of_lt (Heap.lt_size e)⟩
theorem call_setL {s : Shared} {l : Addr} {items : Array Value} (ns : List Int) {Q : Value → Shared → Prop} (hA : A.handled = none) (hl : s.heap.IsList l items) (hi : IntsAre items.toList ns) (hb : ns.length + 1 < scanBound)
    (q : ∀ (h' : Heap) (tk c : Nat), SetR w h' s.heap.objs.size (fun j => decide (j ∈ ns)) c → c ≤ ns.length → (∀ b o, s.heap.get? b = some o → h'.get? b = some o) → Q (.ref s.heap.objs.size) { s with heap := h', toks := tk }) :
    wpAny (model P w) A (call (.type "set") [.ref l]) Q E s := by
  obtain ⟨_, _, mro⟩ := F.called_set.mro
  have f1 := F.called_set.made
  have f2 := F.called_set.sub
  have f3 := F.called_set.notType
  have f4 := F.called_set.canCreate
  have f5 := F.typeCall_set_1 (.ref l)
  refine wpAny_call (codeAny_of_tree ?_)
  show wpAny _ _ (callAny (.type "set") _) _ _ _
  refine wpAny_pure ⟨Code.quiet_builtin _ (by decide +kernel), codeAny_builtin F.entry_type_call ?_⟩
  rw [Around.under_plain (weight_type_call_type "set" [.ref l] []) rfl]
  repeat (any_goals (first | assumption | wp_step))
  refine codeAny_mono (code_set_led1 (.ref l) (E := E) (Q₁ := fun v t => v = .ref s.heap.objs.size ∧ t = { s with heap := s.heap.push (freshSet w) }) ⟨rfl, rfl⟩) fun r t hr => ?_
  cases r with
  | error e => exact hr
  | ok fl =>
    cases fl with
    | next => exact hr.elim
    | brk => exact hr.elim
    | cont => exact hr.elim
    | ret v =>
      obtain ⟨rfl, rfl⟩ := hr
      have hS : (s.heap.push (freshSet w)).get? s.heap.objs.size = some (freshSet w) := Heap.get?_push_size _ rfl
      have typ : Shared.TypeIs { s with heap := s.heap.push (freshSet w) } (.ref s.heap.objs.size) "set" := ⟨_, hS, rfl⟩
      have f6 := F.called_set.init.lookup
      have f7 := F.called_set.init.bind (.ref s.heap.objs.size)
      repeat (any_goals (first | assumption | wp_step))
      obtain ⟨ol, hol, _⟩ := id hl
      have ne : l ≠ s.heap.objs.size := Nat.ne_of_lt (Heap.lt_size hol)
      refine codeAny_mono (set_start (E := E) (t := { s with heap := s.heap.push (freshSet w) }) ns (R := fun v t => v = .none ∧ ∃ h' tk c, t = { s with heap := h', toks := tk } ∧ SetR w h' s.heap.objs.size (fun j => decide (j ∈ ns)) c ∧ c ≤ ns.length ∧ ∀ b o, s.heap.get? b = some o → h'.get? b = some o)
        (by simp [hA]) hS (hl.push _) ne hi hb fun h' tk c a1 a2 a3 => ⟨rfl, h', tk, c, rfl, a1, a2, fun b o e => a3 b o (Nat.ne_of_lt (Heap.lt_size e)) (Heap.get?_push_of_some _ e)⟩) fun r2 t2 h2 => ?_
      cases r2 with
      | error e => exact h2
      | ok fl2 =>
        cases fl2 with
        | next => exact h2.elim
        | brk => exact h2.elim
        | cont => exact h2.elim
        | ret r =>
          obtain ⟨rfl, h', tk, c, rfl, a1, a2, a3⟩ := h2
          repeat (any_goals (first | assumption | wp_step))
          exact q _ _ _ a1 a2 a3
end
/-! ### list(range(a, b, -1)) -/
theorem rangeSize_down (a b : Int) : Builtin.Range.rangeSize a b (-1) = ((a - b).toNat : Int) := by
  unfold Builtin.Range.rangeSize
  rw [if_neg (by decide)]
  split
  · rw [show (-(-1 : Int)) = 1 from rfl, Int.ediv_one]; omega
  · omega
theorem small_down {a b : Int} (ha : -(2 ^ 61) ≤ a) (ha' : a < 2 ^ 61) (hb : -(2 ^ 61) ≤ b) (hb' : b < 2 ^ 61) : Builtin.Range.small a b (-1) = true := by
  unfold Builtin.Range.small
  rw [rangeSize_down]
  simp only [Builtin.Range.rangeFitsLong, Bool.and_eq_true, Bool.or_eq_true, decide_eq_true_eq, beq_iff_eq, show ¬ (-1 : Int) > 0 by decide, if_false]
  omega
def downV (a b : Int) : List V := (List.range (a - b).toNat).map fun i => V.int (a - (i : Nat))
theorem vals_down {a b : Int} {acc : Array Value} (h : ItemsOf (fun i v => ∃ t, v = .int (a + i * (-1)) t) acc (a - b).toNat) : Vals (downV a b) acc.toList := by
  have e : acc.toList.length = (a - b).toNat := by rw [Array.length_toList]; exact h.1
  unfold downV
  rw [← e]
  refine vals_of_get acc.toList _ fun j u hj => ?_
  obtain ⟨t, rfl⟩ := h.2 j u (by rw [← hj, Array.getElem?_toList])
  exact ⟨t, by congr 1; omega⟩
section
variable {X : Cx} {a b c : Expr} {ta : TA}
def tDown (ta : TA) : TE := fun σ H Q => ta σ H fun vs H1 => ∃ i j : Int, vs = [.int i, .int j, .int (-1)] ∧ (-(2 ^ 61) ≤ i ∧ i < 2 ^ 61 ∧ -(2 ^ 61) ≤ j ∧ j < 2 ^ 61 ∧ (i - j).toNat ≤ 2 ^ 24) ∧ ∀ q, H1 q = none → Q (.ref q) (upd H1 q (.lst (downV i j)))
theorem pe_listDown {p p2 p3 pos : Pos} (hc : X.calm = true) (hg : Gl X "list") (hm : X.mg "list" = none) (hg2 : Gl X "range") (hm2 : X.mg "range" = none) (ha : PA X [a, b, c] ta)
    (hs : starEach [a, b, c] X.env = (false, eval a X.env) :: starEach [b, c] X.env := by rfl) (hpl : (backTo p3 (starEach [b, c] X.env)).any (·.1) = false := by rfl)
    (na : starEach [.Call (.Name "range" p2) [a, b, c] [] p3] X.env = (false, eval (.Call (.Name "range" p2) [a, b, c] [] p3) X.env) :: starEach [] X.env := by rfl) :
    PE X (.Call (.Name "list" p) [.Call (.Name "range" p2) [a, b, c] [] p3] [] pos) (tDown ta) := by
  refine ⟨fun pins s σ H Q I h => ?_⟩
  refine Call_ (ld_blt I hg hm boot_list (PyProof.Rows.callWith_type1 (args_cons (thn (Q := fun x s' => ∃ r i j t u v H', x = .ref r ∧ IsRange s'.heap r i j (-1) t u v ∧ Inv X pins σ H' s' ∧ (-(2 ^ 61) ≤ i ∧ i < 2 ^ 61 ∧ -(2 ^ 61) ≤ j ∧ j < 2 ^ 61 ∧ (i - j).toNat ≤ 2 ^ 24) ∧ ∀ q, H' q = none → Q (.ref q) (upd H' q (.lst (downV i j)))) ?_ fun x s1 ⟨r, i, j, t, u, v, H1, ex, hr, I1, ok, q⟩ => args_nil ?_) na) na))
  · refine Call_ (ld_blt I hg2 hm2 boot_range (PyProof.Rows.callWith_type1 (thn (ha.run p3 pins s σ H _ I h) fun us s1 ⟨vs, H1, I1, r1, q1⟩ => ?_) hs hpl))
    obtain ⟨i, j, e, ok, q⟩ := q1
    subst e
    cases r1 with
    | cons r rr =>
      cases rr with
      | cons r' rr =>
        cases rr with
        | cons r'' rr =>
          cases rr
          obtain ⟨t, rfl⟩ := r
          obtain ⟨t', rfl⟩ := r'
          obtain ⟨t'', rfl⟩ := r''
          refine call_range_3 (by decide) ?_ (.inl (PyProof.noPylong_small (by decide)))
          exact ⟨_, i, j, _, _, _, H1, rfl, IsRange.new _ _ _ _ _ _ _, I1.kept (t' := s1.toks) fun b u e => Heap.get?_push_of_some _ e, ok, q⟩
  · subst ex
    obtain ⟨b1, b2, b3, b4, b5⟩ := ok
    refine call_list_range (n := (i - j).toNat) (I1.ok.hd hc) hr (small_down b1 b2 b3 b4) (rangeSize_down i j) b5 fun h' tk acc c' hk e' hi => ?_
    refine ⟨.ref s1.heap.objs.size, upd H1 s1.heap.objs.size (.lst (downV i j)), I1.laid hk (Nat.le_refl _) (show ObjOk X.prog X.w _ _ _ (.lst (downV i j)) from ⟨?_, acc.toList, c', vals_down hi, ?_⟩), rfl, q _ (I1.hok.fresh (Nat.le_refl _))⟩
    · unfold downV
      rw [List.length_map, List.length_range, sizeLine_eq]; omega
    · rw [Array.toArray_toList]; exact e'
end
theorem log61 {i : Int} (h : i.natAbs.log2 < 61) : -(2 ^ 61) ≤ i ∧ i < 2 ^ 61 := by
  by_cases z : i.natAbs = 0
  · omega
  · have := (Nat.log2_lt z).mp h
    omega
section
variable {X : Cx} {b : Bs} {W : WX} {k : Nat} {σ : L2.St} {RR RR' : List Addr} {F F' H H' : Hp} {s : S} {Q : VK}
theorem dd_mem {a : Int} : ∀ l : List Int, a ∈ dd l ↔ a ∈ l
  | [] => Iff.rfl
  | c :: l => by
    rw [dd]
    split
    · rename_i h
      rw [dd_mem l, List.mem_cons]
      exact ⟨.inr, fun z => z.elim (fun e => e ▸ h) id⟩
    · rw [List.mem_cons, List.mem_cons, dd_mem l]
theorem dd_nodup : ∀ l : List Int, (dd l).Nodup
  | [] => List.nodup_nil
  | c :: l => by
    rw [dd]
    split
    · exact dd_nodup l
    · rename_i h
      exact List.nodup_cons.mpr ⟨fun z => h ((dd_mem l).mp z), dd_nodup l⟩
theorem dd_len : ∀ l : List Int, (dd l).length ≤ l.length
  | [] => Nat.le_refl _
  | c :: l => by
    have := dd_len l
    rw [dd]
    split <;> simp only [List.length_cons] <;> omega
theorem setR_dd {w : World} {h : Heap} {a : Addr} {ns : List Int} {c : Nat} (R : SetR w h a (fun j => decide (j ∈ ns)) c) : c = (dd ns).length := by
  obtain ⟨o, es, ep, t, ho, hx, hd, g, nd, hm, hb, hf, hn, _⟩ := R
  have p := (List.perm_ext_iff_of_nodup nd (dd_nodup ns)).mpr fun a => by rw [← hm, decide_eq_true_eq, dd_mem]
  have := p.length_eq
  rw [List.length_map, Array.length_toList] at this
  omega
def rSetL (X : Cx) : List V → Hp → VK → Prop := fun xs H Q => ∃ (l : Addr) (ns : List Int), xs = [.ref l] ∧ SqL X.K H l (ns.map V.int) ∧ ns.length < 4000 ∧ ∀ p c, H p = none → c = (dd ns).length → Q (.ref p) (upd H p (SetO X.w p (fun j => decide (j ∈ ns)) c))
theorem cr_setL (hc : X.calm = true) : CallR X (.type "set") (rSetL X) := by
  intro pins s σ H xs us Q I r h
  obtain ⟨l, ns, rfl, hl, h64, q⟩ := h
  rw [Vals.ref1 r]
  obtain ⟨its, rv, pl, hz⟩ := I.list hl
  refine call_setL ns (I.ok.hd hc) pl.isList (by simpa using RZ.intsAre_vals rv) (by unfold scanBound; omega) fun h' tk c R hcl kk => ?_
  exact ⟨.ref _, _, I.laid (t' := tk) kk (Nat.le_refl _) (setO_new R), rfl, q _ c (I.hok.fresh (Nat.le_refl _)) (setR_dd R)⟩
theorem isort_strict {ns m : List Int} (h1 : m.Pairwise (· < ·)) (h2 : ∀ k : Int, k ∈ m ↔ decide (k ∈ ns) = true) : m = isort (dd ns) := by
  refine isort_only ?_ (h1.imp fun q => Int.le_of_lt q)
  refine (List.perm_ext_iff_of_nodup (h1.imp fun q => Int.ne_of_lt q) (dd_nodup ns)).mpr fun a => ?_
  rw [h2, dd_mem, decide_eq_true_eq]
theorem snd_sset {e : Expr} {a : E} {p p2 p3 pos : Pos} (A : Amb X b k) (gl : Gl X "sorted") (hm : X.mg "sorted" = none) (gl2 : Gl X "set") (hm2 : X.mg "set" = none) (ha : PE X e (tE b W (ev a))) (hs : notStar e = true) :
    PE X (.Call (.Name "sorted" p) [.Call (.Name "set" p2) [e] [] p3] [] pos) (tE b W (ev (.sset a))) := by
  have inner := pe_callTy (pos := p3) (p := p2) (cr_setL (X := X) A.calm) gl2 hm2 (by exact Bi.boot .set) (pa_cons (snd_opd ha) pa_nil (star_cons hs)) (by decide) (by decide) (star_cons hs) rfl
  refine (pe_callB (cr_sortedSet (X := X) A.calm) gl hm (by exact Bi.boot .sorted) (pa_cons inner pa_nil rfl) (by decide) (by decide) rfl rfl).weak fun σ H Q ⟨RR, F, s, r, q⟩ => ?_
  simp only [ev] at q
  refine ⟨RR, F, s, r, (settled q).imp fun x s1 R1 F1 H1 p1 e1 r1 ⟨n1, q1⟩ v hv => ?_⟩
  obtain ⟨res, h1, q1⟩ := q1.opt
  cases h2 : s1.rd x with
  | none => rw [h2] at h1; cases h1
  | some y =>
    rw [h2, Option.bind_some] at h1
    have hw := vw_of r1 hv h2
    have key : ∃ (l : List D) (ns : List Int), y = .lst l ∧ intsD l = some ns ∧ ns.length < 4000 ∧ (dd ns).length < 64 ∧ res = .new (.lst ((isort (dd ns)).map .int)) := by
      unfold ssetD at h1
      split at h1
      · rename_i l
        split at h1
        · rename_i ns hns
          split at h1
          · rename_i hlen
            cases h1
            exact ⟨l, ns, rfl, hns, by omega, Nat.lt_of_le_of_lt (dd_len ns) hlen, rfl⟩
          · split at h1
            · rename_i hlen
              cases h1
              rw [Bool.and_eq_true, decide_eq_true_eq, decide_eq_true_eq] at hlen
              exact ⟨l, ns, rfl, hns, hlen.1, hlen.2, rfl⟩
            · cases h1
        · cases h1
      · cases h1
    obtain ⟨l, ns, ey, hns, hlen, h64, er⟩ := key
    subst ey er
    cases hw with
    | lst h kk =>
      have e5 := kk.toInts hns
      subst e5
      refine ⟨_, ns, rfl, .inl (.inl h), hlen, fun p c hp hcl => ?_⟩
      refine ⟨p, _, c, rfl, upd_same, by omega, fun m o hs hmm _ ho => ?_⟩
      have e6 := isort_strict hs hmm
      subst e6
      have r2 := r1.same (same_new (o := SetO X.w p (fun j => decide (j ∈ ns)) c) hp)
      exact (res_ok (q1.up (List.prefix_refl _) (Same.refl _)) r2 fun i z => by cases z).lst (.ofInts _) o ho
/-! ### repr of a list of objects; len(set(..)) -/
theorem deep_reps {s : S} : ∀ {l l' : List D} {vs : List V}, Rel b RR F s σ H → Reps b.K b.g RR F l vs → l.mapM s.rdD = some l' → Reps b.K b.g RR H l' vs
  | [], l', vs, r, h, e => by
    cases h; cases e; exact .nil
  | d :: l, l', _, r, .cons (v := v) (vs := vs) a t, e => by
    rw [List.mapM_cons] at e
    obtain ⟨x, h1, h2⟩ := Option.bind_eq_some_iff.mp e
    obtain ⟨m, h3, h4⟩ := Option.bind_eq_some_iff.mp h2
    cases h4
    refine .cons ?_ (deep_reps r t h3)
    cases a with
    | @obj n ad hn =>
      simp only [S.rdD] at h1
      obtain ⟨c, g1, g2⟩ := Option.bind_eq_some_iff.mp h1
      exact ((r.st n c ad g1 hn).1.view g2).rep r.fz
    | non => cases h1; exact .non
    | bl => cases h1; exact .bl _
    | int => cases h1; exact .int _
    | str => cases h1; exact .str _
    | tup h k => cases h1; exact (Rep.tup h k).mono r.fz (List.prefix_refl _)
    | lst h k => cases h1; exact (Rep.lst h k).mono r.fz (List.prefix_refl _)
    | dct h k => cases h1; exact (Rep.dct h k).mono r.fz (List.prefix_refl _)
    | kys h k => cases h1; exact (Rep.dct (.inr ⟨_, h⟩) k).mono r.fz (List.prefix_refl _)
    | fn h => cases h1; exact .fn h
    | scr h => cases h1; exact (Rep.scr h).mono r.fz (List.prefix_refl _)
theorem snd_rpd {e : Expr} {a : E} {p pos : Pos} (A : Amb X b k) (gl : Gl X "repr") (hm : X.mg "repr" = none) (ha : PE X e (tE b W (ev a))) (hs : notStar e = true) :
    PE X (.Call (.Name "repr" p) [e] [] pos) (tE b W (ev (.rpd a))) := by
  have key := pe_callB (pos := pos) (p := p) (ok_repr (b := b) A.K A.gd A.hu) gl hm (by exact Bi.boot .repr) (pa_cons (snd_opd ha) pa_nil (star_cons hs)) (by decide) (by decide) (star_cons hs) rfl
  refine key.weak fun σ H Q ⟨RR, F, s, r, q⟩ => ?_
  simp only [ev] at q
  refine ⟨RR, F, s, r, (settled q).imp fun x s1 R1 F1 H1 p1 e1 r1 ⟨n1, q1⟩ v hv => ?_⟩
  obtain ⟨res, h1, q1⟩ := q1.opt
  obtain ⟨y, h2, h3⟩ := Option.bind_eq_some_iff.mp h1
  obtain ⟨z, h4, h5⟩ := Option.bind_eq_some_iff.mp h2
  have hw := vw_of r1 hv h4
  unfold deepV at h5
  split at h5
  · rename_i l
    obtain ⟨l', h6, rfl⟩ := map_some h5
    cases hw with
    | lst h kk =>
      have h7 := deep_reps r1 kk h6
      obtain ⟨t, h8, rfl⟩ := map_some (show (reprD (.lst l')).map (fun s => R.d (.str s)) = some res from h3)
      have q2 : ResOk b R1 F1 H1 (.d (.str t)) Q := res_ok q1 r1 fun i z => by cases z
      refine ⟨R1, H1, [.lst l'], _, Same.refl _, .cons (.lst h h7) .nil, h3, fun v F' H' _ hH _ hr => ?_⟩
      cases hr
      exact q2 (.str t) F1 H' (Same.refl _) hH (fun _ _ w => .inl w) (.str t)
  · cases h5
theorem snd_lrng {e f g : Expr} {a c d : E} {p p2 p3 pos : Pos} (A : Amb X b k) (gl : Gl X "list") (hm : X.mg "list" = none) (gl2 : Gl X "range") (hm2 : X.mg "range" = none) (ha : PE X e (tE b W (ev a))) (hc : PE X f (tE b W (ev c))) (hd : PE X g (tE b W (ev d)))
    (hs : notStar e = true) (ht : notStar f = true) (hu : notStar g = true) :
    PE X (.Call (.Name "list" p) [.Call (.Name "range" p2) [e, f, g] [] p3] [] pos) (tE b W (ev (.lrng a c d))) := by
  have pa := pa_cons (snd_val ha) (pa_cons (snd_val hc) (pa_cons (snd_val hd) pa_nil (star_cons hu)) (star_cons ht)) (star_cons hs)
  refine (pe_listDown A.calm gl hm gl2 hm2 pa (star_cons hs) (star_any _ (by simp [ht, hu])) rfl).weak fun σ H Q ⟨RR, F, s, r, q⟩ => ?_
  simp only [ev] at q
  refine ⟨RR, F, s, r, q.bind fun x s1 R1 F1 H1 p1 e1 r1 q1 v hv => ?_⟩
  refine ⟨R1, F1, s1, r1, q1.bind fun y s2 R2 F2 H2 p2 e2 r2 q2 u hu2 => ?_⟩
  refine ⟨R2, F2, s2, r2, q2.bind fun z s3 R3 F3 H3 p3 e3 r3 q3 t ht2 => ?_⟩
  obtain ⟨res, h1, q4⟩ := q3.opt
  unfold lrngD at h1
  split at h1
  · split at h1
    · rename_i i j k hok
      cases h1
      cases hv; cases hu2; cases ht2
      simp only [Bool.and_eq_true, decide_eq_true_eq, beq_iff_eq] at hok
      obtain ⟨⟨⟨h1, h2⟩, h3⟩, h4⟩ := hok
      subst h3
      have b1 := log61 h1
      have b2 := log61 h2
      refine ⟨i, j, rfl, ⟨b1.1, b1.2, b2.1, b2.2, by omega⟩, fun o ho => ?_⟩
      have e5 : downV i j = (downL i j).map V.int := by unfold downV downL; rw [List.map_map]; rfl
      rw [e5]
      exact (res_ok q4 r3 fun i z => by cases z).lst (.ofInts _) o ho
    · cases h1
  · cases h1
theorem snd_lset {e : Expr} {a : E} {p p2 p3 pos : Pos} (A : Amb X b k) (gl : Gl X "len") (hm : X.mg "len" = none) (gl2 : Gl X "set") (hm2 : X.mg "set" = none) (ha : PE X e (tE b W (ev a))) (hs : notStar e = true) :
    PE X (.Call (.Name "len" p) [.Call (.Name "set" p2) [e] [] p3] [] pos) (tE b W (ev (.lset a))) := by
  refine (RZ.pe_lenSetI gl hm gl2 hm2 (snd_opd ha) A.calm (star_cons hs)).weak fun σ H Q ⟨RR, F, s, r, q⟩ => ?_
  simp only [ev] at q
  refine ⟨RR, F, s, r, (settled q).imp fun x s1 R1 F1 H1 p1 e1 r1 ⟨n1, q1⟩ v hv => ?_⟩
  obtain ⟨res, h1, q1⟩ := q1.opt
  obtain ⟨y, h2, h3⟩ := Option.bind_eq_some_iff.mp h1
  have hw := vw_of r1 hv h2
  unfold lsetD at h3
  split at h3
  · rename_i l
    split at h3
    · rename_i ns hns
      split at h3
      · rename_i hok
        cases h3
        cases hw with
        | lst h kk =>
          have e5 := kk.toInts hns
          subst e5
          exact ⟨_, ns, rfl, .inl (.inl h), hok.1, by have := hok.2; omega, (res_ok q1 r1 fun i z => by cases z).imm (.int _)⟩
      · cases h3
    · cases h3
  · cases h3
theorem snd_bits {o : Expr} {a : E} {apos cpos : Pos} (ha : PE X o (tE b W (ev a))) (hp : plainObj o = true) (hl : (apos.endLine == cpos.line) = true) :
    PE X (.Call (.Attribute o "bit_length" apos) [] [] cpos) (tE b W (ev (.bits a))) := by
  refine (pe_bits (snd_val ha) (base_no hp) hl).weak fun σ H Q ⟨RR, F, s, r, q⟩ => ?_
  simp only [ev] at q
  refine ⟨RR, F, s, r, q.bind fun x s1 R1 F1 H1 p1 e1 r1 q1 v hv => ?_⟩
  obtain ⟨res, h1, q1⟩ := q1.opt
  unfold bitsD at h1
  split at h1
  · cases h1
    cases hv
    exact ⟨_, rfl, (res_ok q1 r1 fun i z => by cases z).imm (.int _)⟩
  · cases h1
theorem items_seq {x : D} {l : List D} {v : V} {RR : List Addr} {F H : Hp} (hK : b.K = X.K) (hv : Rep b.K b.g RR F x v) (e : Same F H) (h : x.items = some l) : ∃ p xs, v = .ref p ∧ (SqT X.K H p xs ∨ SqL X.K H p xs) ∧ Reps b.K b.g RR F l xs := by
  cases hv with
  | tup h1 h2 => cases h; exact ⟨_, _, rfl, .inl (hK ▸ e.seqT h1), h2⟩
  | lst h1 h2 => cases h; exact ⟨_, _, rfl, .inr (.inl (.inl (e _ _ h1))), h2⟩
  | _ => cases h
theorem small1001 {n : Nat} (h : n < 1000) : n + 1 ≤ sizeLine := by rw [sizeLine_eq]; omega
theorem snd_starT {e f : Expr} {x a : E} {j : Nat} {p pos : Pos} (hK : b.K = X.K) (hx : PE X e (tE b W (ev x))) (ha : PE X f (tE b W (ev a))) (hs : notStar e = true) : PE X (.Tuple [e, .Starred f p] j pos) (tE b W (ev (.starT x a))) := by
  refine (pe_tup (pa_cons (snd_val hx) (StX.pa_star (snd_val ha) pa_nil rfl) (star_cons hs))).weak fun σ H Q ⟨RR, F, s, r, q⟩ => ?_
  simp only [ev] at q
  refine ⟨RR, F, s, r, q.bind fun d s1 R1 F1 H1 p1 e1 r1 q1 v hv => ?_⟩
  refine ⟨R1, F1, s1, r1, q1.bind fun y s2 R2 F2 H2 p2 e2 r2 q2 u hu => ?_⟩
  obtain ⟨res, h1, q3⟩ := q2.opt
  unfold starTD at h1
  obtain ⟨l, h2, h3⟩ := Option.bind_eq_some_iff.mp h1
  split at h3
  · rename_i hl
    cases h3
    obtain ⟨ad, xs, rfl, h4, h5⟩ := items_seq hK hu r2.fz h2
    have hr : Reps b.K b.g R2 F2 (d :: l) (v :: (xs ++ [])) := by rw [List.append_nil]; exact .cons (hv.mono e2 p2) h5
    exact ⟨ad, xs, rfl, h4, by rw [List.length_cons, List.append_nil, ← h5.len]; exact small1001 hl, fun pp hp => (res_ok q3 r2 fun i z => by cases z).tup r2.fz hr pp hp⟩
  · cases h3
theorem snd_starL {e f : Expr} {x a : E} {p pos : Pos} (hK : b.K = X.K) (hx : PE X e (tE b W (ev x))) (ha : PE X f (tE b W (ev a))) (hs : notStar e = true) : PE X (.List [e, .Starred f p] pos) (tE b W (ev (.starL x a))) := by
  refine (pe_lst (pa_cons (snd_val hx) (StX.pa_star (snd_val ha) pa_nil rfl) (star_cons hs))).weak fun σ H Q ⟨RR, F, s, r, q⟩ => ?_
  simp only [ev] at q
  refine ⟨RR, F, s, r, q.bind fun d s1 R1 F1 H1 p1 e1 r1 q1 v hv => ?_⟩
  refine ⟨R1, F1, s1, r1, q1.bind fun y s2 R2 F2 H2 p2 e2 r2 q2 u hu => ?_⟩
  obtain ⟨res, h1, q3⟩ := q2.opt
  unfold starLD at h1
  obtain ⟨l, h2, h3⟩ := Option.bind_eq_some_iff.mp h1
  split at h3
  · rename_i hl
    cases h3
    obtain ⟨ad, xs, rfl, h4, h5⟩ := items_seq hK hu r2.fz h2
    have hr : Reps b.K b.g R2 F2 (d :: l) (v :: (xs ++ [])) := by rw [List.append_nil]; exact .cons (hv.mono e2 p2) h5
    exact ⟨ad, xs, rfl, h4, by rw [List.length_cons, List.append_nil, ← h5.len]; exact small1001 hl, fun pp hp => (res_ok q3 r2 fun i z => by cases z).lst hr pp hp⟩
  · cases h3
theorem Reps.snoc {K : PySem.W.Frag} {g : Str → Option Addr} {RR : List Addr} {F : Hp} : ∀ {l : List D} {vs : List V} {d : D} {v : V}, Reps K g RR F l vs → Rep K g RR F d v → Reps K g RR F (l ++ [d]) (vs ++ [v])
  | _, _, _, _, .nil, h => .cons h .nil
  | _, _, _, _, .cons a r, h => .cons a (Reps.snoc r h)
theorem snd_starR {e f : Expr} {x a : E} {p pos : Pos} (hK : b.K = X.K) (ha : PE X f (tE b W (ev a))) (hx : PE X e (tE b W (ev x))) (hs : notStar e = true) : PE X (.List [.Starred f p, e] pos) (tE b W (ev (.starR a x))) := by
  refine (pe_lst (StX.pa_star (snd_val ha) (pa_cons (snd_val hx) pa_nil (star_cons hs)) rfl)).weak fun σ H Q ⟨RR, F, s, r, q⟩ => ?_
  simp only [ev] at q
  refine ⟨RR, F, s, r, q.bind fun y s1 R1 F1 H1 p1 e1 r1 q1 u hu => ?_⟩
  split at q1
  · rename_i l h2
    obtain ⟨ad, xs, rfl, h4, h5⟩ := items_seq hK hu r1.fz h2
    refine ⟨ad, xs, rfl, h4, R1, F1, s1, r1, q1.bind fun d s2 R2 F2 H2 p2 e2 r2 q2 v hv => ?_⟩
    obtain ⟨res, h1, q3⟩ := q2.opt
    unfold starRD at h1
    split at h1
    · rename_i hl
      cases h1
      have h6 := Reps.mono e2 p2 h5
      exact ⟨by rw [List.length_append, ← h6.len]; exact small1001 hl, fun pp hp => (res_ok q3 r2 fun i z => by cases z).lst (h6.snoc hv) pp hp⟩
    · cases h1
  · exact q1.elim
end
/-! ### max(d.values()) -/
section
variable {X : Cx} {pins : List (Addr × Obj)} {σ : L2.St} {H : Hp} {s : Shared} {a : Addr} {kvs : List (L2.Key × V)}
theorem dK_at (I : Inv X pins σ H s) (h : Rd H a (.dK kvs)) : (a == sysModules) = false ∧ ∃ (o : Obj) (es : Array DictEntry) (ep : Nat) (vs : List (L2.Key × Value)), s.heap.get? a = some o ∧ o.data = .dict es ep ∧ es.size = kvs.length ∧ KV kvs vs ∧ Pairs (mixKind X.prog X.w) es.toList vs ∧ s.heap.DictAt (mixKind X.prog X.w) a vs ep := by
  obtain ⟨z, hs, vs, kv, o', es, ep, ho, hx, hdt, r⟩ := h.ok I.hok
  refine ⟨hs, o', es, ep, vs, ho, hdt, ?_, kv, r.2.1, o', es, ho, hx, hdt, r⟩
  have l1 := r.2.1.length
  have l2 : kvs.length = vs.length := Paired.length kv
  rw [Array.length_toList] at l1
  omega
def tDValsK (t : TE) : TE := fun σ H Q => t σ H fun x H1 => ∃ a kvs, x = .ref a ∧ Rd H1 a (.dK kvs) ∧ ∀ p, H1 p = none → Q (.ref p) (upd H1 p (viewO "dict_values" p a))
theorem pe_dvalsK {e : Expr} {t : TE} {apos cpos : Pos} (he : PE X e t) (hbase : attributeBase e "values" X.env (eval e X.env) = eval e X.env := by rfl) (hline : (apos.endLine == cpos.line) = true := by rfl) :
    PE X (.Call (.Attribute e "values" apos) [] [] cpos) (tDValsK t) := by
  refine ⟨fun pins s σ H Q I h => ?_⟩
  refine wpAny_Call_method (T := "dict") (id := "dict.values") hbase rfl hline F.plainAttrs_dict F.slot_dict_values F.type_dict_values (thn (he.run pins s σ H _ I h) fun u s1 ⟨x, H1, I1, rx, d, kvs, ex, hd, q⟩ => ?_)
  subst ex
  obtain rfl : u = Value.ref d := rx
  obtain ⟨hs, o, es, ep, vs, hgd, hdt, hsz, kv, prs, hm⟩ := dK_at I1 hd
  refine ⟨hm.dictOf.typeIs, hm.dictOf.mapOf.noDict, ?_⟩
  show wpAny _ _ (callWith cpos (.builtin "dict.values") [.ref d] [] []) _ X.xe s1
  exact method_meetsIn F.slot_dict_values F.entry_dict_values rfl (PySem.evalArgs_none ⟨rfl, hm.dictOf.typeIs, F.args_dict_values_1 _, _, meets_dict_values (mixKind X.prog X.w) d hs, ⟨vs, hm.dictOf⟩, ⟨.ref s1.heap.objs.size, _, I1.laid (t' := s1.toks) (fun b o q => Heap.get?_push_of_some _ q) (Nat.le_refl _) (viewO_ok (Heap.get?_push_size _ rfl)), rfl, q _ (I1.hok.fresh (Nat.le_refl _))⟩⟩)
def rMaxK : List V → Hp → VK → Prop := fun xs H Q => ∃ (p a : Addr) (kvs : List (L2.Key × V)) (ns : List Int), xs = [.ref p] ∧ H p = some (viewO "dict_values" p a) ∧ Rd H a (.dK kvs) ∧ kvs.map Prod.snd = ns.map V.int ∧ 0 < ns.length ∧ ∀ m, m ∈ ns → (∀ y, y ∈ ns → y ≤ m) → Q (.int m) H
theorem cr_maxK (hc : X.calm = true) : CallR X (.builtin "max") rMaxK := by
  intro pins s σ H xs us Q I rx h
  obtain ⟨p, a, kvs, ns, rfl, hp, hd, hns, hne, q⟩ := h
  rw [Vals.ref1 rx]
  obtain ⟨hsm, ob, es, ep, vs, hob, hdt, hsz0, kv, prs, hm⟩ := dK_at I hd
  have hv : s.heap.get? p = some (DSub.viewOb "dict_values" a) := (show ObjOk X.prog X.w H s.heap p (viewO "dict_values" p a) from I.hok p _ hp).1
  have hkn : kvs.length = ns.length := by
    have e := congrArg List.length hns
    rw [List.length_map, List.length_map] at e
    exact e
  have hsz : es.size = ns.length := hsz0.trans hkn
  have hP : ∀ (i : Nat) (e : DictEntry), es[i]? = some e → ∃ t, e.val = .int (ns.getD i 0) t := fun i e he => by
    have hi : i < es.size := by
      rcases Nat.lt_or_ge i es.size with z | z
      · exact z
      · rw [Array.getElem?_eq_none z] at he
        cases he
    have hi2 : i < kvs.length := by omega
    have hi3 : i < ns.length := by omega
    obtain ⟨u, hu, r⟩ := kv_get kv (i := i) (k := kvs[i].1) (v := kvs[i].2) (List.getElem?_eq_getElem hi2)
    have he' : es.toList[i]? = some e := by rw [Array.getElem?_toList]; exact he
    obtain ⟨_, h2⟩ := prs.get? he' hu
    have e2 : kvs[i].2 = V.int ns[i] := by
      have z : (kvs.map Prod.snd)[i]? = (ns.map V.int)[i]? := by rw [hns]
      rw [List.getElem?_map, List.getElem?_map, List.getElem?_eq_getElem hi2, List.getElem?_eq_getElem hi3] at z
      exact Option.some.inj z
    have e3 : ns.getD i 0 = ns[i] := by rw [List.getD_eq_getElem?_getD, List.getElem?_eq_getElem hi3] <;> rfl
    rw [e2] at r
    rw [e3, h2]
    exact r
  refine call_max_walk ?_
  refine DSub.iter_vals hv hob hdt ?_
  have ha : a < s.heap.objs.size := Heap.lt_size hob
  refine ⟨s.heap.objs.size, [s.heap.objs.size, a], [s.heap.objs.size], es.size, fun i v => ∃ t, v = .int (ns.getD i 0) t, _, fun i j => decide (ns.getD i 0 > ns.getD j 0), rfl, DSub.walksVal (a := a) (show X.A.in1.handled = none from I.ok.hd hc) (Nat.ne_of_lt ha) hdt hP, ⟨Heap.get?_push_size _ rfl, Heap.get?_push_of_some _ hob⟩, fun b hb => ?_, by omega, CmpOf.ints_gt (fun i => ns.getD i 0) (fun i v z => z), fun v h' tk hv' hk => ?_⟩
  · show b < (s.heap.push _).objs.size
    rw [size_push']
    rcases List.mem_cons.mp hb with z | z
    · rw [z]
      exact Nat.lt_succ_self _
    · rw [List.mem_singleton.mp z]
      exact Nat.lt_succ_of_lt ha
  · obtain ⟨t, rfl⟩ := hv'
    obtain ⟨m1', m2'⟩ := argBest_gt (fun i => ns.getD i 0) (es.size - 1)
    have m1 : argBest (fun i j => decide (ns.getD i 0 > ns.getD j 0)) (es.size - 1) ≤ es.size - 1 := m1'
    have m2 : ∀ j, j ≤ es.size - 1 → ns.getD j 0 ≤ ns.getD (argBest (fun i j => decide (ns.getD i 0 > ns.getD j 0)) (es.size - 1)) 0 := m2'
    have hk2 : ∀ b o, s.heap.get? b = some o → h'.get? b = some o := fun b o e => hk b o (fun z => by rw [List.mem_singleton.mp z] at e; exact absurd (Heap.lt_size e) (Nat.lt_irrefl _)) (Heap.get?_push_of_some _ e)
    refine ⟨.int _, H, I.kept (t' := tk) hk2, ⟨t, rfl⟩, q _ (PySem.getD_mem (by omega)) fun y hy => ?_⟩
    obtain ⟨j, hj, e⟩ := List.mem_iff_getElem.mp hy
    have z := m2 j (by omega)
    have e3 : ns.getD j 0 = y := by rw [List.getD_eq_getElem?_getD, List.getElem?_eq_getElem hj, ← e] <;> rfl
    rw [e3] at z
    exact z
theorem maxI_mem : ∀ (l : List Int) (a : Int), maxI a l ∈ a :: l ∧ ∀ y ∈ a :: l, y ≤ maxI a l
  | [], a => by simp [maxI]
  | b :: l, a => by
    by_cases g : b > a
    · rw [maxI, if_pos g]
      obtain ⟨h1, h2⟩ := maxI_mem l b
      have h3 := h2 _ List.mem_cons_self
      refine ⟨List.mem_cons_of_mem _ h1, fun y hy => ?_⟩
      rcases List.mem_cons.mp hy with z | z
      · subst z; omega
      · exact h2 y z
    · rw [maxI, if_neg g]
      obtain ⟨h1, h2⟩ := maxI_mem l a
      have h3 := h2 _ List.mem_cons_self
      refine ⟨?_, fun y hy => ?_⟩
      · rcases List.mem_cons.mp h1 with z | z
        · rw [z]; simp
        · exact List.mem_cons_of_mem _ (List.mem_cons_of_mem _ z)
      · rcases List.mem_cons.mp hy with z | z
        · subst z; omega
        · rcases List.mem_cons.mp z with z | z
          · subst z; omega
          · exact h2 y (List.mem_cons_of_mem _ z)
end
section
variable {X : Cx} {b : Bs} {W : WX} {k : Nat} {σ : L2.St} {RR RR' : List Addr} {F F' H H' : Hp} {s : S} {Q : VK}
theorem valsI_snd {RR : List Addr} {F : Hp} : ∀ {l : List (L2.Key × D)} {vs : List (L2.Key × V)} {ns : List Int}, RepK b.K b.g RR F l vs → valsI l = some ns → vs.map Prod.snd = ns.map V.int
  | [], _, ns, .nil, h => by cases h; rfl
  | (k2, d) :: l, _, ns, .cons hd r, h => by
    cases d with
    | int i =>
      simp only [valsI] at h
      obtain ⟨m, h1, rfl⟩ := map_some h
      cases hd
      rw [List.map_cons, List.map_cons, valsI_snd r h1]
    | _ => simp only [valsI] at h; cases h
theorem snd_maxv {o : Expr} {a : E} {p apos cpos pos : Pos} (A : Amb X b k) (gl : Gl X "max") (hm : X.mg "max" = none) (ha : PE X o (tE b W (ev a))) (hp : plainObj o = true) (hl : (apos.endLine == cpos.line) = true) :
    PE X (.Call (.Name "max" p) [.Call (.Attribute o "values" apos) [] [] cpos] [] pos) (tE b W (ev (.maxv a))) := by
  have inner := pe_dvalsK (snd_opd ha) (base_no hp) hl
  refine (pe_callB (cr_maxK (X := X) A.calm) gl hm (by exact Bi.boot .max2) (pa_cons inner pa_nil rfl) (by decide) (by decide) rfl rfl).weak fun σ H Q ⟨RR, F, s, r, q⟩ => ?_
  simp only [ev] at q
  refine ⟨RR, F, s, r, (settled q).imp fun x s1 R1 F1 H1 p1 e1 r1 ⟨n1, q1⟩ v hv => ?_⟩
  obtain ⟨res, h1, q1⟩ := q1.opt
  cases h2 : s1.rd x with
  | none => rw [h2] at h1; cases h1
  | some y =>
    rw [h2, Option.bind_some] at h1
    have hw := vw_of r1 hv h2
    have key : ∃ (l : List (L2.Key × D)) (n : Int) (ns : List Int), y = .dct l ∧ valsI l = some (n :: ns) ∧ res = .d (.int (maxI n ns)) := by
      unfold maxvD at h1
      split at h1
      · rename_i l
        split at h1
        · rename_i n ns hns
          cases h1
          exact ⟨l, n, ns, rfl, hns, rfl⟩
        · cases h1
      · cases h1
    obtain ⟨l, n, ns, rfl, hns, rfl⟩ := key
    cases hw with
    | @dct _ ad _ h kk =>
      refine ⟨_, _, rfl, h, fun p hp => ?_⟩
      obtain ⟨m1, m2⟩ := maxI_mem ns n
      refine ⟨p, _, _, n :: ns, rfl, upd_same, ?_, valsI_snd kk hns, by simp, fun m hm hy => ?_⟩
      · exact (same_new hp).rd h
      · have em : m = maxI n ns := Int.le_antisymm (m2 m hm) (hy _ m1)
        subst em
        have r2 := r1.same (same_new (o := viewO "dict_values" p ad) hp)
        exact (res_ok (q1.up (List.prefix_refl _) (Same.refl _)) r2 fun i z => by cases z).imm (.int _)
end
/-! ### d != {} -/
section
variable {X : Cx}
def rDne : R2 := fun x y H Q => ∃ a b ks, x = .ref a ∧ y = .ref b ∧ Rd H a (.dK ks) ∧ H b = some (.dK []) ∧ Q (.bl (!ks.isEmpty)) H
theorem op_dne (hu : X.A.units < cLine) : OpR X (compareOp .NotEq) rDne := by
  intro pins s σ H x y v u Q I rx ry h
  obtain ⟨a, b, ks, rfl, rfl, ea, eb, q⟩ := h
  obtain rfl : v = Value.ref a := rx
  obtain rfl : u = Value.ref b := ry
  obtain ⟨_, ya, va, ra, da⟩ := (show ObjOk X.prog X.w H s.heap a (.dK ks) from ea.ok I.hok)
  obtain ⟨_, yb, vb, rb, db⟩ := (show ObjOk X.prog X.w H s.heap b (.dK []) from I.hok b _ eb)
  have hb : vb.length = 0 := by rw [← rb.length]; rfl
  have ha : va.length = ks.length := ra.length.symm
  have hvb : vb = [] := List.length_eq_zero_iff.mp hb
  refine PySem.W.keq_ne (knd := mixKind X.prog X.w) (r := true) ya yb da db hu (fun e => ?_) (fin_bl I q ?_)
  · have hk : ks = [] := List.length_eq_zero_iff.mp (by omega)
    subst hk
    exact hits_all rb ra (fun p hp => by cases hp)
  · cases ks with
    | nil =>
      have : va = [] := List.length_eq_zero_iff.mp (by rw [ha]; rfl)
      simp [this, hvb]
    | cons p l =>
      have : va.length ≠ 0 := by rw [ha]; simp
      simp [hb, this]
end
section
variable {X : Cx} {b : Bs} {W : WX} {k : Nat} {σ : L2.St} {RR RR' : List Addr} {F F' H H' : Hp} {s : S} {Q : VK}
theorem dne_key {x : R} {v : V} {kk : Bool} {σ : L2.St} (r1 : Rel b RR F s σ H) (hv : RRel b RR F s σ H x v) (h : (s.rd x).bind dneB = some kk) : ∃ ad vs, v = .ref ad ∧ Rd H ad (.dK vs) ∧ kk = !vs.isEmpty := by
  obtain ⟨y, h2, h3⟩ := Option.bind_eq_some_iff.mp h
  have hw := vw_of r1 hv h2
  have e : ∃ l : List (L2.Key × D), y = .dct l ∧ kk = !l.isEmpty := by
    unfold dneB at h3
    split at h3
    · cases h3; exact ⟨_, rfl, rfl⟩
    · cases h3
  obtain ⟨l, rfl, rfl⟩ := e
  cases hw with
  | @dct _ ad vs h kk =>
    have := kk.len
    refine ⟨ad, vs, rfl, h, ?_⟩
    cases l <;> cases vs <;> simp_all
theorem snd_dne {ea : Expr} {a : E} {p pos : Pos} (A : Amb X b k) (ha : PE X ea (tE b W (ev a))) : PE X (.Compare ea [.NotEq] [.Dict [] [] p] pos) (tE b W (ev (.dne a))) := by
  refine (pe_cmpR (op_dne (by have := A.hu; omega)) (snd_opd ha) pe_dnewK rfl).weak fun σ H Q ⟨RR, F, s, r, q⟩ => ?_
  simp only [ev] at q
  refine ⟨RR, F, s, r, (settled q).imp fun x s1 R1 F1 H1 p1 e1 r1 ⟨n1, q1⟩ v hv => ?_⟩
  obtain ⟨res, h1, q1⟩ := q1.opt
  obtain ⟨kk, h2, rfl⟩ := map_some h1
  obtain ⟨ad, vs, rfl, h3, rfl⟩ := dne_key r1 hv h2
  intro p hp
  have r2 := r1.same (same_new (o := .dK []) hp)
  refine ⟨ad, p, vs, rfl, rfl, ?_, upd_same, (res_ok (q1.up (List.prefix_refl _) (Same.refl _)) r2 fun i z => by cases z).imm (.bl _)⟩
  exact (same_new hp).rd h3
theorem tst_dne {ea : Expr} {a : E} {p pos : Pos} (A : Amb X b k) (ha : PE X ea (tE b W (ev a))) : PT X (.Compare ea [.NotEq] [.Dict [] [] p] pos) (tB' b W (evT (.dne a))) := by
  refine (pt_cmpR (op_dne (by have := A.hu; omega)) (snd_opd ha) pe_dnewK rfl).weak fun σ H Q ⟨RR, F, s, r, q⟩ => ?_
  simp only [evT] at q
  refine ⟨RR, F, s, r, (settled q).imp fun x s1 R1 F1 H1 p1 e1 r1 ⟨n1, q1⟩ v hv => ?_⟩
  obtain ⟨kk, h2, q1⟩ := q1.opt
  obtain ⟨ad, vs, rfl, h3, rfl⟩ := dne_key r1 hv h2
  intro p hp
  have r2 := r1.same (same_new (o := .dK []) hp)
  refine ⟨ad, p, vs, rfl, rfl, ?_, upd_same, _, rfl, (q1.up (List.prefix_refl _) (Same.refl _)).now r2⟩
  exact (same_new hp).rd h3
end
end G4

namespace G4
open PySem PySem.Spec PyProof.Rows L2

/-! ### is it the text's expression? -/
structure CK where
  N : List Str
  sc : Scope
  bs : List Str
  fc : Str → Bool
def okName (x : Str) : Bool := !(x == ("__debug__" : Str)) && !(x == ("__classdict__" : Str))
def CK.vis (c : CK) (i : Nat) (x : Str) : Bool := decide (c.N[i]? = some x) && (match c.sc.names.lookup x with | some .local => true | some .cell => true | some .free => true | _ => false) && okName x
def CK.gl (c : CK) (x : Str) : Bool := decide (c.sc.names.lookup x = some .globalImplicit) && okName x
def CK.bi (c : CK) (x : Str) : Bool := c.gl x && c.bs.contains x
def CK.loc (c : CK) (i : Nat) (x : Str) : Bool := decide (c.N[i]? = some x) && (match c.sc.names.lookup x with | some .local => true | some .cell => c.fc x | _ => false)
def CK.blk (c : CK) (scope : Scope) : CK := { c with sc := relS scope c.sc, fc := fun x => scope.names.lookup x == some .cell }
mutual
def ckT (c : CK) : T → Expr → Bool
  | .nm i, .Name x _ => c.loc i x
  | .tp l, .Tuple es _ _ => ckTs c l es
  | _, _ => false
def ckTs (c : CK) : List T → List Expr → Bool
  | [], [] => true
  | t :: l, e :: es => ckT c t e && ckTs c l es
  | _, _ => false
end
def ckTy (c : CK) : List Ty → List Expr → Bool
  | [], [] => true
  | t :: l, .Name x _ :: es => decide (x = t.py) && decide (t ≠ .none) && c.bi x && ckTy c l es
  | _, _ => false
def ckM (m : Mt) (n : Str) : Bool := match m with
  | .append => decide (n = ("append" : Str))
  | .extend => decide (n = ("extend" : Str))
  | .pop => decide (n = ("pop" : Str))
  | _ => false
def ckMr (m : Mt) (n : Str) : Bool := match m with
  | .count => decide (n = ("count" : Str))
  | .index => decide (n = ("index" : Str))
  | _ => false
def isStar : Expr → Bool
  | .Starred _ _ => true
  | _ => false
def isTup : Expr → Bool
  | .Tuple _ _ _ => true
  | _ => false
mutual
def ck (c : CK) : E → Expr → Bool
  | .var i, pe => match pe with
    | .Name x _ => c.vis i x
    | _ => false
  | .glo y _, pe => match pe with
    | .Name x _ => decide (x = y) && c.gl x
    | _ => false
  | .int i, pe => match pe with
    | .Constant (.int j) _ _ => decide (i = j)
    | _ => false
  | .str i, pe => match pe with
    | .Constant (.str j) _ _ => decide (i = j)
    | _ => false
  | .bl i, pe => match pe with
    | .Constant (.bool j) _ _ => decide (i = j)
    | _ => false
  | .non, pe => match pe with
    | .Constant .none _ _ => true
    | _ => false
  | .bin o a b, pe => match pe with
    | .BinOp l u r _ => decide (o = u) && ck c a l && ck c b r
    | _ => false
  | .neg a, pe => match pe with
    | .UnaryOp .USub x _ => ck c a x
    | _ => false
  | .not a, pe => match pe with
    | .UnaryOp .Not x _ => ck c a x
    | _ => false
  | .and a b, pe => match pe with
    | .BoolOp .And [x, y] _ => ck c a x && ck c b y
    | .BoolOp .And (x :: y :: z :: r) p => ck c a x && ck c b (.BoolOp .And (y :: z :: r) p)
    | _ => false
  | .or a b, pe => match pe with
    | .BoolOp .Or [x, y] _ => ck c a x && ck c b y
    | .BoolOp .Or (x :: y :: z :: r) p => ck c a x && ck c b (.BoolOp .Or (y :: z :: r) p)
    | _ => false
  | .ifx t a b, pe => match pe with
    | .IfExp u x y _ => ck c t u && ck c a x && ck c b y
    | _ => false
  | .cmp o a b, pe => match pe with
    | .Compare l [u] [r] _ => decide (o = u) && ck c a l && ck c b r && notSet r
    | _ => false
  | .cmp2 o v a b d, pe => match pe with
    | .Compare l [u, w] [r, s] _ => decide (o = u) && decide (v = w) && ck c a l && ck c b r && ck c d s && notSet s
    | _ => false
  | .cmp3 o v u a b d f, pe => match pe with
    | .Compare l [p, q, r] [x, y, z] _ => decide (o = p) && decide (v = q) && decide (u = r) && ck c a l && ck c b x && ck c d y && ck c f z && notSet z
    | _ => false
  | .tup es, pe => match pe with
    | .Tuple xs _ _ => cks c es xs && decide (es.len ≤ 1000)
    | _ => false
  | .lst es, pe => match pe with
    | .List xs _ => cks c es xs && decide (es.len ≤ 1000)
    | _ => false
  | .take i, pe => match pe with
    | .Name x _ => c.vis i x
    | _ => false
  | .dlit a d, pe => match pe with
    | .Dict [some (.Constant (.int k) _ _)] [.Constant (.int v) _ _] _ => decide (k = a) && decide (v = d)
    | _ => false
  | .dnil, pe => match pe with
    | .Dict [] [] _ => true
    | _ => false
  | .ix a b, pe => match pe with
    | .Subscript v i _ => ck c a v && ck c b i && notSlice i
    | _ => false
  | .sl a lo hi, pe => match pe with
    | .Subscript v (.Slice l h none _) _ => ck c a v && cko c lo l && cko c hi h
    | _ => false
  | .rev a, pe => match pe with
    | .Subscript v (.Slice none none (some (.UnaryOp .USub (.Constant (.int 1) _ _) _)) _) _ => ck c a v
    | _ => false
  | .lc own e g src d, pe => match pe with
    | .ListComp elt [⟨tg, iter, ifs, 0⟩] scope _ => blkC c.N c.sc scope own && (g.ixs.all fun i => decide (i ∈ own.map (·.2))) && notSet iter && ckS c src tg iter && ckT (c.blk scope) g tg && ckc (c.blk scope) d ifs && ck (c.blk scope) e elt
    | _ => false
  | .call x _ es, pe => match pe with
    | .Call (.Name y _) args [] _ => decide (x = y) && c.gl x && cks c es args
    | _ => false
  | .callk x _ _ ks ws, pe => match pe with
    | .Call (.Name y _) [] kws _ => decide (x = y) && c.gl x && ckk c ks ws kws
    | _ => false
  | .bi b es, pe => match pe with
    | .Call (.Name y _) args [] _ => decide (y = b.name) && c.bi y && cks c es args && decide (0 < es.len)
    | _ => false
  | .isi a ts, pe => match pe with
    | .Call (.Name y _) [x, .Name u _] [] _ => decide (y = ("isinstance" : Str)) && c.bi y && ck c a x && notStar x && (match ts with
      | [t] => decide (u = t.py) && decide (t ≠ .none) && c.bi u
      | _ => false)
    | .Call (.Name y _) [x, .Tuple es _ _] [] _ => decide (y = ("isinstance" : Str)) && c.bi y && ck c a x && notStar x && ckTy c ts es && decide (ts.length ≤ 1000)
    | _ => false
  | .mt m a es, pe => match pe with
    | .Call (.Attribute o n apos) [x] [] cpos => ckMr m n && ck c a o && cks c es [x] && plainObj o && (apos.endLine == cpos.line)
    | _ => false
  | .mu m a es, pe => match pe with
    | .Call (.Attribute o n apos) [x] [] cpos => ckM m n && ck c a o && cks c es [x] && plainObj o && (apos.endLine == cpos.line)
    | .Call (.Attribute o n apos) [x, y] [] cpos => decide (m = .insert) && decide (n = ("insert" : Str)) && ck c a o && cks c es [x, y] && plainObj o && (apos.endLine == cpos.line)
    | _ => false
  | .alc e, pe => ck c e pe
  | .sset a, pe => match pe with
    | .Call (.Name y _) [.Call (.Name z _) [x] [] _] [] _ => decide (y = ("sorted" : Str)) && c.bi y && decide (z = ("set" : Str)) && c.bi z && ck c a x && notStar x
    | _ => false
  | .zip3 a b d, pe => match pe with
    | .Call (.Name y _) [.Call (.Name z _) [x, u, v] [] _] [] _ => decide (y = ("list" : Str)) && c.bi y && decide (z = ("zip" : Str)) && c.bi z && ck c a x && notStar x && ck c b u && notStar u && ck c d v && notStar v
    | _ => false
  | .dget a e d, pe => match pe with
    | .Call (.Attribute o n apos) [x, y] [] cpos => decide (n = ("get" : Str)) && ck c a o && ck c e x && ck c d y && plainObj o && notStar x && notStar y && (apos.endLine == cpos.line)
    | _ => false
  | .dead, pe => !isStar pe
  | .mov i, pe => match pe with
    | .Name x _ => c.vis i x
    | _ => false
  | .callb x _ i, pe => match pe with
    | .Call (.Name y _) [.Name z _] [] _ => decide (x = y) && c.gl x && c.vis i z
    | _ => false
  | .lend _ e, pe => match pe with
    | .BoolOp _ _ _ => false
    | pe => ck c e pe
  | .rpd a, pe => match pe with
    | .Call (.Name y _) [x] [] _ => decide (y = ("repr" : Str)) && c.bi y && ck c a x && notStar x
    | _ => false
  | .lrng a b d, pe => match pe with
    | .Call (.Name y _) [.Call (.Name z _) [x, u, v] [] _] [] _ => decide (y = ("list" : Str)) && c.bi y && decide (z = ("range" : Str)) && c.bi z && ck c a x && notStar x && ck c b u && notStar u && ck c d v && notStar v
    | _ => false
  | .lset a, pe => match pe with
    | .Call (.Name y _) [.Call (.Name z _) [x] [] _] [] _ => decide (y = ("len" : Str)) && c.bi y && decide (z = ("set" : Str)) && c.bi z && ck c a x && notStar x
    | _ => false
  | .dix a e, pe => match pe with
    | .Subscript v i _ => ck c a v && ck c e i && notSlice i
    | _ => false
  | .dne a, pe => match pe with
    | .Compare l [.NotEq] [.Dict [] [] _] _ => ck c a l
    | _ => false
  | .maxv a, pe => match pe with
    | .Call (.Name y _) [.Call (.Attribute o n apos) [] [] cpos] [] _ => decide (y = ("max" : Str)) && c.bi y && decide (n = ("values" : Str)) && ck c a o && plainObj o && (apos.endLine == cpos.line)
    | _ => false
  | .bits a, pe => match pe with
    | .Call (.Attribute o n apos) [] [] cpos => decide (n = ("bit_length" : Str)) && ck c a o && plainObj o && (apos.endLine == cpos.line)
    | _ => false
  | .starT x a, pe => match pe with
    | .Tuple [u, .Starred v _] _ _ => ck c x u && notStar u && ck c a v
    | _ => false
  | .starL x a, pe => match pe with
    | .List [u, .Starred v _] _ => ck c x u && notStar u && ck c a v
    | _ => false
  | .starR a x, pe => match pe with
    | .List [.Starred v _, u] _ => ck c a v && ck c x u && notStar u
    | _ => false
def cks (c : CK) : Es → List Expr → Bool
  | .nil, l => l.isEmpty
  | .cons a r, l => match l with
    | x :: xs => ck c a x && notStar x && cks c r xs
    | [] => false
def ckk (c : CK) : List Str → Es → List Keyword → Bool
  | ns, .nil, l => ns.isEmpty && l.isEmpty
  | ns, .cons a r, l => match ns, l with
    | n :: ns, ⟨m, x, _⟩ :: kws => decide (m = some n) && ck c a x && ckk c ns r kws
    | _, _ => false
def cko (c : CK) : EO → Option Expr → Bool
  | .no, l => l.isNone
  | .so a, l => match l with
    | some x => ck c a x
    | none => false
def ckc (c : CK) : EO → List Expr → Bool
  | .no, l => l.isEmpty
  | .so a, l => match l with
    | [x] => ck c a x
    | _ => false
def ckS (c : CK) : Src → Expr → Expr → Bool
  | .seq a, _, x => ck c a x
  | .rng1 a, _, pe => match pe with
    | .Call (.Name y _) [x] [] _ => decide (y = ("range" : Str)) && c.bi y && ck c a x && notStar x
    | _ => false
  | .rng2 a b, _, pe => match pe with
    | .Call (.Name y _) [x, z] [] _ => decide (y = ("range" : Str)) && c.bi y && ck c a x && notStar x && ck c b z && notStar z
    | _ => false
  | .enum a, t, pe => match pe with
    | .Call (.Name y _) [x] [] _ => decide (y = ("enumerate" : Str)) && c.bi y && ck c a x && notStar x && isTup t
    | _ => false
  | .zip a b, t, pe => match pe with
    | .Call (.Name y _) [x, z] [] _ => decide (y = ("zip" : Str)) && c.bi y && ck c a x && notStar x && ck c b z && notStar z && isTup t
    | _ => false
  | .dks i, _, pe => match pe with
    | .Name x _ => c.vis i x
    | _ => false
  | .dit i, t, pe => match pe with
    | .Call (.Attribute o y apos) [] [] cpos => match o with
      | .Name x _ => decide (y = ("items" : Str)) && c.vis i x && plainObj o && (apos.endLine == cpos.line) && isTup t
      | _ => false
    | _ => false
end
/-! ### what is known of its calls -/
section
variable (P : Program) (w : World) (K : PySem.W.Frag) (mg : Str → Option Value) (base : Heap) (g : Str → Option Addr) (k : Nat)
mutual
def OkE : E → Prop
  | .glo x d => GK mg K g x d
  | .bin _ a b => OkE a ∧ OkE b
  | .neg a => OkE a
  | .not a => OkE a
  | .and a b => OkE a ∧ OkE b
  | .or a b => OkE a ∧ OkE b
  | .ifx c a b => OkE c ∧ OkE a ∧ OkE b
  | .cmp _ a b => OkE a ∧ OkE b
  | .cmp2 _ _ a b c => OkE a ∧ OkE b ∧ OkE c
  | .cmp3 _ _ _ a b c d => OkE a ∧ OkE b ∧ OkE c ∧ OkE d
  | .tup es => OkEs es
  | .lst es => OkEs es
  | .ix a b => OkE a ∧ OkE b
  | .sl a lo hi => OkE a ∧ OkO lo ∧ OkO hi
  | .rev a => OkE a
  | .lc _ e _ src c => OkE e ∧ OkS src ∧ OkO c
  | .call x f es => Kn P w K mg base g k x f es.len ∧ OkEs es
  | .callk x f pm ks ws => KnK P w K mg base g k x f pm ks ∧ OkEs ws
  | .bi _ es => OkEs es
  | .isi a _ => OkE a
  | .mt _ a es => OkE a ∧ OkEs es
  | .mu _ a es => OkE a ∧ OkEs es
  | .alc a => OkE a
  | .sset a => OkE a
  | .rpd a => OkE a
  | .lend _ a => OkE a
  | .callb x f _ => Kn P w K mg base g k x f 1
  | .lrng a b d => OkE a ∧ OkE b ∧ OkE d
  | .lset a => OkE a
  | .bits a => OkE a
  | .maxv a => OkE a
  | .dne a => OkE a
  | .starT a b => OkE a ∧ OkE b
  | .starL a b => OkE a ∧ OkE b
  | .starR a b => OkE a ∧ OkE b
  | .zip3 a b d => OkE a ∧ OkE b ∧ OkE d
  | .dget a b d => OkE a ∧ OkE b ∧ OkE d
  | .dix a b => OkE a ∧ OkE b
  | _ => True
def OkEs : Es → Prop
  | .nil => True
  | .cons a r => OkE a ∧ OkEs r
def OkO : EO → Prop
  | .no => True
  | .so a => OkE a
def OkS : Src → Prop
  | .seq a => OkE a
  | .rng1 a => OkE a
  | .rng2 a b => OkE a ∧ OkE b
  | .enum a => OkE a
  | .zip a b => OkE a ∧ OkE b
  | .dks _ => True
  | .dit _ => True
end
end
abbrev OkX (X : Cx) (b : Bs) (k : Nat) (e : E) : Prop := OkE X.prog X.w X.K X.mg X.base b.g k e
abbrev OkXs (X : Cx) (b : Bs) (k : Nat) (e : Es) : Prop := OkEs X.prog X.w X.K X.mg X.base b.g k e
abbrev OkXo (X : Cx) (b : Bs) (k : Nat) (e : EO) : Prop := OkO X.prog X.w X.K X.mg X.base b.g k e
abbrev OkXS (X : Cx) (b : Bs) (k : Nat) (e : Src) : Prop := OkS X.prog X.w X.K X.mg X.base b.g k e
/-- the surroundings are as the check was told -/
structure CkX (c : CK) (X : Cx) : Prop where
  N : X.N = c.N
  sc : X.env.scope = c.sc
  fc : ∀ x, c.fc x = true → X.fn x = true
  bs : ∀ x, c.bs.contains x = true → X.mg x = none
section
variable {c : CK} {X : Cx} {b : Bs} {W : WX} {k : Nat}
theorem CkX.blk (h : CkX c X) (s : Shared) (H : Hp) (scope : Scope) (C : Addr) (cl : List (Str × Addr)) (fp : List Addr) : CkX (c.blk scope) (X.blk s H scope (compEnvC scope cl C X.env) fp) :=
  ⟨h.N, by show relS scope X.env.scope = relS scope c.sc; rw [h.sc], fun x q => q, h.bs⟩
theorem okName_1 {x : Str} (h : okName x = true) : (x == ("__debug__" : Str)) = false := by
  unfold okName at h; rw [Bool.and_eq_true] at h; simpa using h.1
theorem okName_2 {x : Str} (h : okName x = true) : (x == ("__classdict__" : Str)) = false := by
  unfold okName at h; rw [Bool.and_eq_true] at h; simpa using h.2
theorem CkX.vis (h : CkX c X) {i : Nat} {x : Str} (q : c.vis i x = true) : X.N[i]? = some x ∧ Vis X.env.scope x ∧ okName x = true := by
  unfold CK.vis at q
  simp only [Bool.and_eq_true, decide_eq_true_eq] at q
  refine ⟨by rw [h.N]; exact q.1.1, ?_, q.2⟩
  have z := q.1.2
  unfold Vis
  rw [h.sc]
  split at z <;> simp_all
theorem CkX.gl (h : CkX c X) {x : Str} (q : c.gl x = true) : Gl X x ∧ okName x = true := by
  unfold CK.gl at q
  simp only [Bool.and_eq_true, decide_eq_true_eq] at q
  refine ⟨?_, q.2⟩
  show X.env.scope.names.lookup x = _
  rw [h.sc]; exact q.1
theorem CkX.bi (h : CkX c X) {x : Str} (q : c.bi x = true) : Gl X x ∧ X.mg x = none := by
  unfold CK.bi at q
  rw [Bool.and_eq_true] at q
  exact ⟨(h.gl q.1).1, h.bs x q.2⟩
theorem CkX.loc (h : CkX c X) {i : Nat} {x : Str} (q : c.loc i x = true) : X.N[i]? = some x ∧ L2.Loc X.env.scope x ∧ (X.fn x = true ∨ X.env.scope.names.lookup x = some .local) := by
  unfold CK.loc at q
  simp only [Bool.and_eq_true, decide_eq_true_eq] at q
  refine ⟨by rw [h.N]; exact q.1, ?_⟩
  have z := q.2
  unfold L2.Loc
  rw [h.sc]
  split at z
  · rename_i e; exact ⟨.inl e, .inr e⟩
  · rename_i e; exact ⟨.inr e, .inl (h.fc x z)⟩
  · cases z
mutual
theorem ok_T (A : Amb X b k) (C : CkX c X) : ∀ (t : T) (e : Expr), ckT c t e = true → PG X e (tT b t)
  | .nm i, e, h => by
    cases e <;> simp only [ckT, reduceCtorEq] at h
    obtain ⟨h1, h2, h3⟩ := C.loc h
    exact snd_nm A.nd h1 h2 h3
  | .tp l, e, h => by
    cases e <;> simp only [ckT, reduceCtorEq] at h
    obtain ⟨h1, h2, h3⟩ := ok_Ts A C l _ h
    exact snd_tp A h1 h2 h3
theorem ok_Ts (A : Amb X b k) (C : CkX c X) : ∀ (l : List T) (es : List Expr), ckTs c l es = true → PGs X es (tTs b l) ∧ es.all notStar = true ∧ l.length = es.length
  | [], [], _ => ⟨snd_tpn, rfl, rfl⟩
  | [], _ :: _, h => by simp [ckTs] at h
  | _ :: _, [], h => by simp [ckTs] at h
  | t :: l, e :: es, h => by
    simp only [ckTs, Bool.and_eq_true] at h
    have ns : notStar e = true := by
      have := h.1
      cases t <;> cases e <;> first | rfl | (simp [ckT] at this)
    obtain ⟨h1, h2, h3⟩ := ok_Ts A C l es h.2
    exact ⟨snd_tpc (ok_T A C t e h.1) h1 ns, by rw [List.all_cons, ns, h2]; rfl, by rw [List.length_cons, List.length_cons, h3]⟩
end
theorem ok_Ty (C : CkX c X) : ∀ (l : List Ty) (es : List Expr), ckTy c l es = true → TyArgs X l es ∧ ∀ u ∈ l, u ≠ .none
  | [], [], _ => ⟨tyArgs_nil, fun _ h => by simp at h⟩
  | [], _ :: _, h => by simp [ckTy] at h
  | _ :: _, [], h => by simp [ckTy] at h
  | t :: l, e :: es, h => by
    cases e <;> simp only [ckTy, Bool.and_eq_true, decide_eq_true_eq, reduceCtorEq] at h
    obtain ⟨⟨⟨rfl, h1⟩, h2⟩, h3⟩ := h
    obtain ⟨h4, h5⟩ := ok_Ty C l es h3
    obtain ⟨g1, g2⟩ := C.bi h2
    refine ⟨tyArgs_cons h1 g1 g2 h4, fun u hu => ?_⟩
    rcases List.mem_cons.mp hu with rfl | hu
    · exact h1
    · exact h5 u hu
end
end G4

namespace G4
open PySem PySem.Spec PyProof.Rows L2

theorem blk_wf {X : Cx} {s : Shared} {H : Hp} {scope : Scope} {cenv : Env} {fp : List Addr} : Takes (X.blk s H scope cenv fp) Wf := takes0
theorem cks_star {c : CK} : ∀ {l : Es} {es : List Expr}, cks c l es = true → es.all notStar = true ∧ l.len = es.length
  | .nil, es, h => by
    simp only [cks, List.isEmpty_iff] at h
    subst h; exact ⟨rfl, rfl⟩
  | .cons a r, es, h => by
    cases es with
    | nil => simp [cks] at h
    | cons x xs =>
      simp only [cks, Bool.and_eq_true] at h
      obtain ⟨h1, h2⟩ := cks_star h.2
      exact ⟨by rw [List.all_cons, h.1.2, h1]; rfl, by rw [List.length_cons, ← h2]; rfl⟩
theorem kw_red {env : Env} {pos : Pos} {kws : List Keyword} {ks : List Str} {ws : Es} {c : CK} (h : ckk c ks ws kws = true) :
    (backToKw pos (keywordEach kws env)).all (·.1.isSome) = true ∧ (backToKw pos (keywordEach kws env)).filterMap (·.1) = ks ∧ (backToKw pos (keywordEach kws env)).any (·.1.isNone) = false ∧ ws.len = ks.length := by
  induction kws generalizing ks ws with
  | nil =>
    cases ws with
    | nil =>
      simp only [ckk, Bool.and_eq_true, List.isEmpty_iff] at h
      obtain ⟨rfl, _⟩ := h
      exact ⟨rfl, rfl, rfl, rfl⟩
    | cons a r => cases ks <;> simp [ckk] at h
  | cons kw kws ih =>
    cases ws with
    | nil => simp [ckk] at h
    | cons a r =>
      cases ks with
      | nil => simp [ckk] at h
      | cons n ns =>
        obtain ⟨m, x, p⟩ := kw
        simp only [ckk, Bool.and_eq_true, decide_eq_true_eq] at h
        obtain ⟨⟨rfl, h2⟩, h3⟩ := h
        obtain ⟨i1, i2, i3, i4⟩ := ih h3
        refine ⟨?_, ?_, ?_, ?_⟩
        · show (true && (backToKw pos (keywordEach kws env)).all (·.1.isSome)) = true
          rw [i1]; rfl
        · show n :: (backToKw pos (keywordEach kws env)).filterMap (·.1) = n :: ns
          rw [i2]
        · show (false || (backToKw pos (keywordEach kws env)).any (·.1.isNone)) = false
          rw [i3]; rfl
        · show r.len + 1 = ns.length + 1
          rw [i4]
section
variable {X : Cx} {b : Bs} {W : WX} {k : Nat}
/-- what is to be shown of an expression -/
def SE (e : E) : Prop := ∀ (c : CK) (X : Cx) (b : Bs) (W : WX) (k : Nat) (pe : Expr), Amb X b k → CkX c X → Takes X W → ck c e pe = true → OkX X b k e → PE X pe (tE b W (ev e))
def ST (e : E) : Prop := ∀ (c : CK) (X : Cx) (b : Bs) (W : WX) (k : Nat) (pe : Expr), Amb X b k → CkX c X → Takes X W → ck c e pe = true → OkX X b k e → PT X pe (tB' b W (evT e)) ∧ ∀ o l p, pe = .BoolOp o l p → PW X pe (tB' b W (evT e))
def SA (e : Es) : Prop := ∀ (c : CK) (X : Cx) (b : Bs) (W : WX) (k : Nat) (pe : List Expr), Amb X b k → CkX c X → Takes X W → cks c e pe = true → OkXs X b k e → PA X pe (tAs b W (evs e)) ∧ PA X pe (tOs b W (evOs e))
def SK (e : Es) : Prop := ∀ (c : CK) (X : Cx) (b : Bs) (W : WX) (k : Nat) (ks : List Str) (pe : List Keyword), Amb X b k → CkX c X → Takes X W → ckk c ks e pe = true → OkXs X b k e → PK X pe (tAs b W (evs e))
def SO (e : EO) : Prop := ∀ (c : CK) (X : Cx) (b : Bs) (W : WX) (k : Nat) (pe : Option Expr), Amb X b k → CkX c X → Takes X W → cko c e pe = true → OkXo X b k e → PO X pe (tOo b W (evo e))
def SC (e : EO) : Prop := ∀ (c : CK) (X : Cx) (b : Bs) (W : WX) (k : Nat) (pe : List Expr), Amb X b k → CkX c X → Takes X W → ckc c e pe = true → OkXo X b k e → PTs X pe (tB' b W (evc e))
def SS (e : Src) : Prop := ∀ (c : CK) (X : Cx) (b : Bs) (W : WX) (k : Nat) (tg pe : Expr), Amb X b k → CkX c X → Takes X W → ckS c e tg pe = true → OkXS X b k e → PI X tg pe (tSrc b W (evSrc e))
theorem pt_eq {e : Expr} {f g : S → O Bool} (h : PT X e (tB' b W f)) (k : ∀ s, g s = f s) : PT X e (tB' b W g) := by
  have : g = f := funext k
  rw [this]; exact h
/-- a test that is a value -/
theorem t_val {c : CK} {e : E} {pe : Expr} (A : Amb X b k) (ha : PE X pe (tE b W (ev e))) (hn : ∀ o l p, pe ≠ .BoolOp o l p) (he : ∀ whole, isTrue pe X.env whole = (do let v ← whole; standAt pe.pos; holding [v] (truthy v))) (q : ∀ s, evT e s = (ev e s).opd.bind fun r s => truV r s) :
    PT X pe (tB' b W (evT e)) ∧ ∀ o l p, pe = .BoolOp o l p → PW X pe (tB' b W (evT e)) :=
  ⟨pt_eq (tst_val A ha he) q, fun o l p z => absurd z (hn o l p)⟩
theorem t_no {pe : Expr} {e : E} (q : ∀ s, evT e s = .bad) : PT X pe (tB' b W (evT e)) ∧ ∀ o l p, pe = .BoolOp o l p → PW X pe (tB' b W (evT e)) := by
  have z : ∀ σ H Q, ¬ tB' b W (evT e) σ H Q := by
    rintro σ H Q ⟨RR, F, s, r, q'⟩
    rw [q s] at q'
    exact q'
  exact ⟨⟨fun pins s σ H Q I h => absurd h (z _ _ _)⟩, fun o l p _ => ⟨fun wh pins s σ H Q I h => absurd h (z _ _ _)⟩⟩
theorem rm_bind {o : O Bool} : (asBl o).opd.bind (fun r s => truV r s) = o := by
  cases o with
  | ok k s => cases k <;> rfl
  | ex e s => rfl
  | bad => rfl
theorem rm_bind2 {α : Type} {o : O α} {f : α → S → O Bool} : (o.bind fun x s => asBl (f x s)).opd.bind (fun r s => truV r s) = o.bind f := by
  cases o with
  | ok k s => exact rm_bind
  | ex e s => rfl
  | bad => rfl
end
mutual
theorem ok_E : ∀ e : E, SE e
  | .var i, c, X, b, W, k, pe, A, C, tk, h, o => by
    simp only [ck] at h
    split at h <;> first | contradiction | skip
    obtain ⟨h1, h2, h3⟩ := C.vis h
    exact snd_var h1 h2 (okName_1 h3) (okName_2 h3)
  | .glo y d, c, X, b, W, k, pe, A, C, tk, h, o => by
    simp only [ck] at h
    split at h <;> first | contradiction | skip
    rw [Bool.and_eq_true, decide_eq_true_eq] at h
    obtain ⟨rfl, h⟩ := h
    obtain ⟨h1, h3⟩ := C.gl h
    simp only [OkX, OkE] at o
    exact snd_glo h1 (A.K ▸ o) (okName_1 h3)
  | .int i, c, X, b, W, k, pe, A, C, tk, h, o => by
    simp only [ck] at h
    split at h <;> first | contradiction | skip
    obtain rfl := of_decide_eq_true h
    exact snd_int
  | .str i, c, X, b, W, k, pe, A, C, tk, h, o => by
    simp only [ck] at h
    split at h <;> first | contradiction | skip
    obtain rfl := of_decide_eq_true h
    exact snd_str
  | .bl i, c, X, b, W, k, pe, A, C, tk, h, o => by
    simp only [ck] at h
    split at h <;> first | contradiction | skip
    obtain rfl := of_decide_eq_true h
    exact snd_bl
  | .non, c, X, b, W, k, pe, A, C, tk, h, o => by
    simp only [ck] at h
    split at h <;> first | contradiction | skip
    exact snd_non
  | .bin op x y, c, X, b, W, k, pe, A, C, tk, h, o => by
    simp only [ck] at h
    split at h <;> first | contradiction | skip
    simp only [Bool.and_eq_true, decide_eq_true_eq] at h
    obtain ⟨⟨rfl, h1⟩, h2⟩ := h
    simp only [OkX, OkE] at o
    exact snd_bin (ok_E x c X b W k _ A C tk h1 o.1) (ok_E y c X b W k _ A C tk h2 o.2)
  | .neg x, c, X, b, W, k, pe, A, C, tk, h, o => by
    simp only [ck] at h
    split at h <;> first | contradiction | skip
    simp only [OkX, OkE] at o
    exact snd_neg (ok_E x c X b W k _ A C tk h o)
  | .not x, c, X, b, W, k, pe, A, C, tk, h, o => by
    simp only [ck] at h
    split at h <;> first | contradiction | skip
    simp only [OkX, OkE] at o
    exact snd_not A (ok_E x c X b W k _ A C tk h o)
  | .and x y, c, X, b, W, k, pe, A, C, tk, h, o => by
    simp only [OkX, OkE] at o
    simp only [ck] at h
    split at h <;> first | contradiction | skip
    · rw [Bool.and_eq_true] at h
      exact snd_and (ok_E x c X b W k _ A C tk h.1 o.1) (pe_one (ok_E y c X b W k _ A C tk h.2 o.2))
    · rw [Bool.and_eq_true] at h
      exact snd_and (ok_E x c X b W k _ A C tk h.1 o.1) (ok_E y c X b W k _ A C tk h.2 o.2)
  | .or x y, c, X, b, W, k, pe, A, C, tk, h, o => by
    simp only [OkX, OkE] at o
    simp only [ck] at h
    split at h <;> first | contradiction | skip
    · rw [Bool.and_eq_true] at h
      exact snd_or (ok_E x c X b W k _ A C tk h.1 o.1) (pe_one (ok_E y c X b W k _ A C tk h.2 o.2))
    · rw [Bool.and_eq_true] at h
      exact snd_or (ok_E x c X b W k _ A C tk h.1 o.1) (ok_E y c X b W k _ A C tk h.2 o.2)
  | .ifx t x y, c, X, b, W, k, pe, A, C, tk, h, o => by
    simp only [OkX, OkE] at o
    simp only [ck] at h
    split at h <;> first | contradiction | skip
    simp only [Bool.and_eq_true] at h
    exact snd_ifx (ok_T' t c X b W k _ A C tk h.1.1 o.1).1 (ok_E x c X b W k _ A C tk h.1.2 o.2.1) (ok_E y c X b W k _ A C tk h.2 o.2.2)
  | .cmp op x y, c, X, b, W, k, pe, A, C, tk, h, o => by
    simp only [OkX, OkE] at o
    simp only [ck] at h
    split at h <;> first | contradiction | skip
    simp only [Bool.and_eq_true, decide_eq_true_eq] at h
    obtain ⟨⟨⟨rfl, h1⟩, h2⟩, h3⟩ := h
    exact snd_cmp A (ok_E x c X b W k _ A C tk h1 o.1) (ok_E y c X b W k _ A C tk h2 o.2) (mark_no h3)
  | .cmp2 op u x y z, c, X, b, W, k, pe, A, C, tk, h, o => by
    simp only [OkX, OkE] at o
    simp only [ck] at h
    split at h <;> first | contradiction | skip
    simp only [Bool.and_eq_true, decide_eq_true_eq] at h
    obtain ⟨⟨⟨⟨⟨rfl, rfl⟩, h1⟩, h2⟩, h3⟩, h4⟩ := h
    exact snd_cmp2 A (ok_E x c X b W k _ A C tk h1 o.1) (ok_E y c X b W k _ A C tk h2 o.2.1) (ok_E z c X b W k _ A C tk h3 o.2.2) (mark_no h4)
  | .cmp3 op u v x y z d, c, X, b, W, k, pe, A, C, tk, h, o => by
    simp only [OkX, OkE] at o
    simp only [ck] at h
    split at h <;> first | contradiction | skip
    simp only [Bool.and_eq_true, decide_eq_true_eq] at h
    obtain ⟨⟨⟨⟨⟨⟨⟨rfl, rfl⟩, rfl⟩, h1⟩, h2⟩, h3⟩, h5⟩, h4⟩ := h
    exact snd_cmp3 A (ok_E x c X b W k _ A C tk h1 o.1) (ok_E y c X b W k _ A C tk h2 o.2.1) (ok_E z c X b W k _ A C tk h3 o.2.2.1) (ok_E d c X b W k _ A C tk h5 o.2.2.2) (mark_no h4)
  | .tup es, c, X, b, W, k, pe, A, C, tk, h, o => by
    simp only [OkX, OkE] at o
    simp only [ck] at h
    split at h <;> first | contradiction | skip
    simp only [Bool.and_eq_true, decide_eq_true_eq] at h
    exact snd_tup (ok_A es c X b W k _ A C tk h.1 o).1 h.2
  | .lst es, c, X, b, W, k, pe, A, C, tk, h, o => by
    simp only [OkX, OkE] at o
    simp only [ck] at h
    split at h <;> first | contradiction | skip
    simp only [Bool.and_eq_true, decide_eq_true_eq] at h
    exact snd_lst (ok_A es c X b W k _ A C tk h.1 o).1 h.2
  | .take i, c, X, b, W, k, pe, A, C, tk, h, o => by
    simp only [ck] at h
    split at h <;> first | contradiction | skip
    obtain ⟨h1, h2, h3⟩ := C.vis h
    exact snd_take h1 h2 (okName_1 h3) (okName_2 h3)
  | .dlit i j, c, X, b, W, k, pe, A, C, tk, h, o => by
    simp only [ck] at h
    split at h <;> first | contradiction | skip
    rw [Bool.and_eq_true, decide_eq_true_eq, decide_eq_true_eq] at h
    obtain ⟨rfl, rfl⟩ := h
    exact snd_dlit
  | .dnil, c, X, b, W, k, pe, A, C, tk, h, o => by
    simp only [ck] at h
    split at h <;> first | contradiction | skip
    exact snd_dnil
  | .ix x y, c, X, b, W, k, pe, A, C, tk, h, o => by
    simp only [OkX, OkE] at o
    simp only [ck] at h
    split at h <;> first | contradiction | skip
    simp only [Bool.and_eq_true] at h
    exact snd_ix A.K (ok_E x c X b W k _ A C tk h.1.1 o.1) (ok_E y c X b W k _ A C tk h.1.2 o.2) (slice_no h.2)
  | .sl x lo hi, c, X, b, W, k, pe, A, C, tk, h, o => by
    simp only [OkX, OkE] at o
    simp only [ck] at h
    split at h <;> first | contradiction | skip
    simp only [Bool.and_eq_true] at h
    exact snd_sl A.K (ok_E x c X b W k _ A C tk h.1.1 o.1) (ok_O lo c X b W k _ A C tk h.1.2 o.2.1) (ok_O hi c X b W k _ A C tk h.2 o.2.2)
  | .rev x, c, X, b, W, k, pe, A, C, tk, h, o => by
    simp only [OkX, OkE] at o
    simp only [ck] at h
    split at h <;> first | contradiction | skip
    exact snd_rev (ok_E x c X b W k _ A C tk h o)
  | .lc own e g src d, c, X, b, W, k, pe, A, C, tk, h, o => by
    simp only [OkX, OkE] at o
    simp only [ck] at h
    split at h <;> first | contradiction | skip
    rename_i elt tg iter ifs scope pos
    simp only [Bool.and_eq_true] at h
    obtain ⟨⟨⟨⟨⟨⟨h1, h2⟩, h3⟩, h4⟩, h5⟩, h6⟩, h7⟩ := h
    have ok : BlkOk X.N X.env.scope scope own := by rw [C.N, C.sc]; exact blkOk_by h1
    have hg : ∀ b' : Bs, b'.K = b.K → b'.g = b.g → ∀ (s : Shared) (H : Hp) (Ca : Addr) (cl : List (Str × Addr)) (fp : List Addr), PG (X.blk s H scope (compEnvC scope cl Ca X.env) fp) tg (tT b' g) := fun b' e1 e2 s H Ca cl fp =>
      ok_T (b := b') (k := k) (Amb.blk (b := b') ⟨e1.trans A.K, A.nd, A.calm, A.room, A.gd⟩ s H scope _ fp) (C.blk s H scope Ca cl fp) g tg h5
    have ht : ∀ b' : Bs, b'.K = b.K → b'.g = b.g → ∀ (s : Shared) (H : Hp) (Ca : Addr) (cl : List (Str × Addr)) (fp : List Addr), PTs (X.blk s H scope (compEnvC scope cl Ca X.env) fp) ifs (tB' b' Wf (evc d)) := fun b' e1 e2 s H Ca cl fp =>
      ok_C d (c.blk scope) _ b' Wf k ifs ⟨e1.trans A.K, A.nd, A.calm, A.room, A.gd⟩ (C.blk s H scope Ca cl fp) blk_wf h6 (by unfold OkXo; rw [e2]; exact o.2.2)
    have he : ∀ b' : Bs, b'.K = b.K → b'.g = b.g → ∀ (s : Shared) (H : Hp) (Ca : Addr) (cl : List (Str × Addr)) (fp : List Addr), PE (X.blk s H scope (compEnvC scope cl Ca X.env) fp) elt (tE b' Wf (ev e)) := fun b' e1 e2 s H Ca cl fp =>
      ok_E e (c.blk scope) _ b' Wf k elt ⟨e1.trans A.K, A.nd, A.calm, A.room, A.gd⟩ (C.blk s H scope Ca cl fp) blk_wf h7 (by unfold OkX; rw [e2]; exact o.1)
    obtain ⟨wi, gg, tt, te, g1, g2, g3, g4, g5⟩ := snd_lc (W := W) (pos := pos) A ok (fun i hi => of_decide_eq_true (List.all_eq_true.mp h2 i hi)) (ok_S src c X b W k tg iter A C tk h4 o.2.1) h3 hg ht he
    exact (pe_lc A.calm A.nd g1 ok g2 g3 g4 (fun x => set_pure h3 x)).weak g5
  | .call x f es, c, X, b, W, k, pe, A, C, tk, h, o => by
    simp only [OkX, OkE] at o
    simp only [ck] at h
    split at h <;> first | contradiction | skip
    simp only [Bool.and_eq_true, decide_eq_true_eq] at h
    obtain ⟨⟨rfl, h1⟩, h2⟩ := h
    obtain ⟨h3, h4⟩ := C.gl h1
    have hs := (cks_star h2).1
    cases es with
    | nil =>
      simp only [cks, List.isEmpty_iff] at h2
      subst h2
      exact snd_call0 A tk o.1 h3 (okName_1 h4)
    | cons a r =>
      rename_i args _
      cases args with
      | nil => simp [cks] at h2
      | cons e es =>
        rw [List.all_cons, Bool.and_eq_true] at hs
        exact snd_call A tk o.1 h3 (ok_A (.cons a r) c X b W k _ A C tk h2 o.2).1 (okName_1 h4) (star_cons hs.1) (star_any _ hs.2)
  | .callk x f pm ks ws, c, X, b, W, k, pe, A, C, tk, h, o => by
    simp only [OkX, OkE] at o
    simp only [ck] at h
    split at h <;> first | contradiction | skip
    simp only [Bool.and_eq_true, decide_eq_true_eq] at h
    obtain ⟨⟨rfl, h1⟩, h2⟩ := h
    obtain ⟨h3, h4⟩ := C.gl h1
    obtain ⟨k1, k2, k3, k4⟩ := kw_red (env := X.env) (pos := _) h2
    exact snd_callk A tk o.1 h3 (ok_K ws c X b W k ks _ A C tk h2 o.2) k1 k2 k4 (okName_1 h4) k3
  | .bi B es, c, X, b, W, k, pe, A, C, tk, h, o => by
    simp only [OkX, OkE] at o
    simp only [ck] at h
    split at h <;> first | contradiction | skip
    simp only [Bool.and_eq_true, decide_eq_true_eq] at h
    obtain ⟨⟨⟨rfl, h1⟩, h2⟩, h5⟩ := h
    obtain ⟨h3, h4⟩ := C.bi h1
    obtain ⟨hs, hl⟩ := cks_star h2
    rename_i args _
    cases args with
    | nil => rw [hl] at h5; exact absurd h5 (Nat.lt_irrefl _)
    | cons e es' =>
      rw [List.all_cons, Bool.and_eq_true] at hs
      exact snd_bi A h3 h4 (ok_A es c X b W k _ A C tk h2 o).2 (star_cons hs.1) (star_any _ hs.2)
  | .isi a ts, c, X, b, W, k, pe, A, C, tk, h, o => by
    simp only [OkX, OkE] at o
    simp only [ck] at h
    split at h <;> first | contradiction | skip
    · simp only [Bool.and_eq_true, decide_eq_true_eq] at h
      obtain ⟨⟨⟨⟨rfl, h1⟩, h2⟩, h3⟩, h4⟩ := h
      split at h4 <;> first | contradiction | skip
      simp only [Bool.and_eq_true, decide_eq_true_eq] at h4
      obtain ⟨⟨rfl, h5⟩, h6⟩ := h4
      obtain ⟨g1, g2⟩ := C.bi h1
      obtain ⟨g3, g4⟩ := C.bi h6
      exact snd_isi1 A g1 g2 (ok_E a c X b W k _ A C tk h2 o) h5 g3 g4 (star_cons h3) rfl
    · simp only [Bool.and_eq_true, decide_eq_true_eq] at h
      obtain ⟨⟨⟨⟨⟨rfl, h1⟩, h2⟩, h3⟩, h4⟩, h5⟩ := h
      obtain ⟨g1, g2⟩ := C.bi h1
      obtain ⟨g3, g4⟩ := ok_Ty C ts _ h4
      exact snd_isi A g1 g2 (ok_E a c X b W k _ A C tk h2 o) g4 h5 g3 (star_cons h3) rfl
  | .mt m a es, c, X, b, W, k, pe, A, C, tk, h, o => by
    simp only [OkX, OkE] at o
    simp only [ck] at h
    split at h <;> first | contradiction | skip
    simp only [Bool.and_eq_true, decide_eq_true_eq] at h
    obtain ⟨⟨⟨⟨hm, h1⟩, h2⟩, h3⟩, h4⟩ := h
    have hs := (cks_star h2).1
    rw [List.all_cons, Bool.and_eq_true] at hs
    unfold ckMr at hm
    split at hm <;> first | contradiction | skip
    · obtain rfl := of_decide_eq_true hm
      exact snd_count (ok_E a c X b W k _ A C tk h1 o.1) (ok_A es c X b W k _ A C tk h2 o.2).1 h3 hs.1 h4
    · obtain rfl := of_decide_eq_true hm
      exact snd_index (ok_E a c X b W k _ A C tk h1 o.1) (ok_A es c X b W k _ A C tk h2 o.2).1 h3 hs.1 h4
  | .mu m a es, c, X, b, W, k, pe, A, C, tk, h, o => by
    simp only [OkX, OkE] at o
    simp only [ck] at h
    split at h <;> first | contradiction | skip
    · simp only [Bool.and_eq_true, decide_eq_true_eq] at h
      obtain ⟨⟨⟨⟨hm, h1⟩, h2⟩, h3⟩, h4⟩ := h
      have hs := (cks_star h2).1
      rw [List.all_cons, Bool.and_eq_true] at hs
      have ia := ok_E a c X b W k _ A C tk h1 o.1
      have ie := (ok_A es c X b W k _ A C tk h2 o.2).1
      unfold ckM at hm
      split at hm <;> first | contradiction | skip
      · obtain rfl := of_decide_eq_true hm
        exact snd_append ia ie h3 hs.1 h4
      · obtain rfl := of_decide_eq_true hm
        exact snd_extend ia ie h3 hs.1 h4
      · obtain rfl := of_decide_eq_true hm
        exact snd_pop ia ie h3 hs.1 h4
    · simp only [Bool.and_eq_true, decide_eq_true_eq] at h
      obtain ⟨⟨⟨⟨⟨rfl, rfl⟩, h1⟩, h2⟩, h3⟩, h4⟩ := h
      have hs := (cks_star h2).1
      rw [List.all_cons, Bool.and_eq_true, List.all_cons, Bool.and_eq_true] at hs
      exact snd_insert (ok_E a c X b W k _ A C tk h1 o.1) (ok_A es c X b W k _ A C tk h2 o.2).1 h3 hs.1 hs.2.1 h4
  | .alc e, c, X, b, W, k, pe, A, C, tk, h, o => by
    simp only [OkX, OkE] at o
    simp only [ck] at h
    exact snd_alc (ok_E e c X b W k _ A C tk h o)
  | .dead, c, X, b, W, k, pe, A, C, tk, h, o => ⟨fun pins s σ H Q I ⟨RR, F, s0, r, q⟩ => by
      simp only [ev] at q
      exact q.elim⟩
  | .dget x y z, c, X, b, W, k, pe, A, C, tk, h, o => by
    simp only [OkX, OkE] at o
    simp only [ck] at h
    split at h <;> first | contradiction | skip
    simp only [Bool.and_eq_true, decide_eq_true_eq] at h
    obtain ⟨⟨⟨⟨⟨⟨⟨rfl, h1⟩, h2⟩, h3⟩, h4⟩, h5⟩, h6⟩, h7⟩ := h
    exact snd_dget A (ok_E x c X b W k _ A C tk h1 o.1) (ok_E y c X b W k _ A C tk h2 o.2.1) (ok_E z c X b W k _ A C tk h3 o.2.2) h4 h5 h6 h7
  | .dix x y, c, X, b, W, k, pe, A, C, tk, h, o => by
    simp only [OkX, OkE] at o
    simp only [ck] at h
    split at h <;> first | contradiction | skip
    simp only [Bool.and_eq_true] at h
    exact snd_dix A (ok_E x c X b W k _ A C tk h.1.1 o.1) (ok_E y c X b W k _ A C tk h.1.2 o.2) h.2
  | .sset a, c, X, b, W, k, pe, A, C, tk, h, o => by
    simp only [OkX, OkE] at o
    simp only [ck] at h
    split at h <;> first | contradiction | skip
    simp only [Bool.and_eq_true, decide_eq_true_eq] at h
    obtain ⟨⟨⟨⟨⟨rfl, h1⟩, rfl⟩, h2⟩, h3⟩, h4⟩ := h
    obtain ⟨g1, g2⟩ := C.bi h1
    obtain ⟨g3, g4⟩ := C.bi h2
    exact snd_sset A g1 g2 g3 g4 (ok_E a c X b W k _ A C tk h3 o) h4
  | .mov i, c, X, b, W, k, pe, A, C, tk, h, o => by
    simp only [ck] at h
    split at h <;> first | contradiction | skip
    obtain ⟨h1, h2, h3⟩ := C.vis h
    exact snd_mov h1 h2 (okName_1 h3) (okName_2 h3)
  | .callb x f i, c, X, b, W, k, pe, A, C, tk, h, o => by
    simp only [OkX, OkE] at o
    simp only [ck] at h
    split at h <;> first | contradiction | skip
    simp only [Bool.and_eq_true, decide_eq_true_eq] at h
    obtain ⟨⟨rfl, h1⟩, h2⟩ := h
    obtain ⟨h3, h4⟩ := C.gl h1
    obtain ⟨g1, g2, g3⟩ := C.vis h2
    exact snd_callb A tk o h3 g1 g2 (okName_1 g3) (okName_2 g3) (okName_1 h4) rfl rfl
  | .lend is e, c, X, b, W, k, pe, A, C, tk, h, o => by
    simp only [OkX, OkE] at o
    simp only [ck] at h
    split at h <;> first | contradiction | skip
    exact snd_lend fun b' h1 h2 => ok_E e c X b' W k _ ⟨h1.trans A.K, A.nd, A.calm, A.room, A.gd⟩ C tk h (by rw [OkX, h2]; exact o)
  | .rpd a, c, X, b, W, k, pe, A, C, tk, h, o => by
    simp only [OkX, OkE] at o
    simp only [ck] at h
    split at h <;> first | contradiction | skip
    simp only [Bool.and_eq_true, decide_eq_true_eq] at h
    obtain ⟨⟨⟨rfl, h1⟩, h3⟩, h4⟩ := h
    obtain ⟨g1, g2⟩ := C.bi h1
    exact snd_rpd A g1 g2 (ok_E a c X b W k _ A C tk h3 o) h4
  | .dne a, c, X, b, W, k, pe, A, C, tk, h, o => by
    simp only [OkX, OkE] at o
    simp only [ck] at h
    split at h <;> first | contradiction | skip
    exact snd_dne A (ok_E a c X b W k _ A C tk h o)
  | .maxv a, c, X, b, W, k, pe, A, C, tk, h, o => by
    simp only [OkX, OkE] at o
    simp only [ck] at h
    split at h <;> first | contradiction | skip
    simp only [Bool.and_eq_true, decide_eq_true_eq] at h
    obtain ⟨⟨⟨⟨⟨rfl, h1⟩, rfl⟩, h2⟩, h3⟩, h4⟩ := h
    obtain ⟨g1, g2⟩ := C.bi h1
    exact snd_maxv A g1 g2 (ok_E a c X b W k _ A C tk h2 o) h3 h4
  | .bits a, c, X, b, W, k, pe, A, C, tk, h, o => by
    simp only [OkX, OkE] at o
    simp only [ck] at h
    split at h <;> first | contradiction | skip
    simp only [Bool.and_eq_true, decide_eq_true_eq] at h
    obtain ⟨⟨⟨rfl, h1⟩, h2⟩, h3⟩ := h
    exact snd_bits (ok_E a c X b W k _ A C tk h1 o) h2 h3
  | .starT x a, c, X, b, W, k, pe, A, C, tk, h, o => by
    simp only [OkX, OkE] at o
    simp only [ck] at h
    split at h <;> first | contradiction | skip
    simp only [Bool.and_eq_true] at h
    exact snd_starT A.K (ok_E x c X b W k _ A C tk h.1.1 o.1) (ok_E a c X b W k _ A C tk h.2 o.2) h.1.2
  | .starL x a, c, X, b, W, k, pe, A, C, tk, h, o => by
    simp only [OkX, OkE] at o
    simp only [ck] at h
    split at h <;> first | contradiction | skip
    simp only [Bool.and_eq_true] at h
    exact snd_starL A.K (ok_E x c X b W k _ A C tk h.1.1 o.1) (ok_E a c X b W k _ A C tk h.2 o.2) h.1.2
  | .starR a x, c, X, b, W, k, pe, A, C, tk, h, o => by
    simp only [OkX, OkE] at o
    simp only [ck] at h
    split at h <;> first | contradiction | skip
    simp only [Bool.and_eq_true] at h
    exact snd_starR A.K (ok_E a c X b W k _ A C tk h.1.1 o.1) (ok_E x c X b W k _ A C tk h.1.2 o.2) h.2
  | .lset a, c, X, b, W, k, pe, A, C, tk, h, o => by
    simp only [OkX, OkE] at o
    simp only [ck] at h
    split at h <;> first | contradiction | skip
    simp only [Bool.and_eq_true, decide_eq_true_eq] at h
    obtain ⟨⟨⟨⟨⟨rfl, h1⟩, rfl⟩, h2⟩, h3⟩, h4⟩ := h
    obtain ⟨g1, g2⟩ := C.bi h1
    obtain ⟨g3, g4⟩ := C.bi h2
    exact snd_lset A g1 g2 g3 g4 (ok_E a c X b W k _ A C tk h3 o) h4
  | .lrng a d f, c, X, b, W, k, pe, A, C, tk, h, o => by
    simp only [OkX, OkE] at o
    simp only [ck] at h
    split at h <;> first | contradiction | skip
    simp only [Bool.and_eq_true, decide_eq_true_eq] at h
    obtain ⟨⟨⟨⟨⟨⟨⟨⟨⟨rfl, h1⟩, rfl⟩, h2⟩, h3⟩, h4⟩, h5⟩, h6⟩, h7⟩, h8⟩ := h
    obtain ⟨g1, g2⟩ := C.bi h1
    obtain ⟨g3, g4⟩ := C.bi h2
    exact snd_lrng A g1 g2 g3 g4 (ok_E a c X b W k _ A C tk h3 o.1) (ok_E d c X b W k _ A C tk h5 o.2.1) (ok_E f c X b W k _ A C tk h7 o.2.2) h4 h6 h8
  | .zip3 a d f, c, X, b, W, k, pe, A, C, tk, h, o => by
    simp only [OkX, OkE] at o
    simp only [ck] at h
    split at h <;> first | contradiction | skip
    simp only [Bool.and_eq_true, decide_eq_true_eq] at h
    obtain ⟨⟨⟨⟨⟨⟨⟨⟨⟨rfl, h1⟩, rfl⟩, h2⟩, h3⟩, h4⟩, h5⟩, h6⟩, h7⟩, h8⟩ := h
    obtain ⟨g1, g2⟩ := C.bi h1
    obtain ⟨g3, g4⟩ := C.bi h2
    exact snd_zip3 A g1 g2 g3 g4 (ok_E a c X b W k _ A C tk h3 o.1) (ok_E d c X b W k _ A C tk h5 o.2.1) (ok_E f c X b W k _ A C tk h7 o.2.2) h4 h6 h8
theorem ok_T' : ∀ e : E, ST e
  | .not x, c, X, b, W, k, pe, A, C, tk, h, o => by
    simp only [OkX, OkE] at o
    simp only [ck] at h
    split at h <;> first | contradiction | skip
    exact ⟨tst_not (ok_T' x c X b W k _ A C tk h o).1, fun _ _ _ z => by cases z⟩
  | .and x y, c, X, b, W, k, pe, A, C, tk, h, o => by
    simp only [OkX, OkE] at o
    simp only [ck] at h
    split at h <;> first | contradiction | skip
    · rename_i p
      rw [Bool.and_eq_true] at h
      have w := tst_and (ok_T' x c X b W k _ A C tk h.1 o.1).1 (pw_and1 (pos := p) (ok_T' y c X b W k _ A C tk h.2 o.2).1)
      exact ⟨w.pt, fun _ _ _ _ => w⟩
    · rw [Bool.and_eq_true] at h
      have w := tst_and (ok_T' x c X b W k _ A C tk h.1 o.1).1 ((ok_T' y c X b W k _ A C tk h.2 o.2).2 _ _ _ rfl)
      exact ⟨w.pt, fun _ _ _ _ => w⟩
  | .or x y, c, X, b, W, k, pe, A, C, tk, h, o => by
    simp only [OkX, OkE] at o
    simp only [ck] at h
    split at h <;> first | contradiction | skip
    · rename_i p
      rw [Bool.and_eq_true] at h
      have w := tst_or (ok_T' x c X b W k _ A C tk h.1 o.1).1 (pw_or1 (pos := p) (ok_T' y c X b W k _ A C tk h.2 o.2).1)
      exact ⟨w.pt, fun _ _ _ _ => w⟩
    · rw [Bool.and_eq_true] at h
      have w := tst_or (ok_T' x c X b W k _ A C tk h.1 o.1).1 ((ok_T' y c X b W k _ A C tk h.2 o.2).2 _ _ _ rfl)
      exact ⟨w.pt, fun _ _ _ _ => w⟩
  | .cmp op x y, c, X, b, W, k, pe, A, C, tk, h, o => by
    simp only [OkX, OkE] at o
    simp only [ck] at h
    split at h <;> first | contradiction | skip
    simp only [Bool.and_eq_true, decide_eq_true_eq] at h
    obtain ⟨⟨⟨rfl, h1⟩, h2⟩, h3⟩ := h
    exact ⟨tst_cmp A (ok_E x c X b W k _ A C tk h1 o.1) (ok_E y c X b W k _ A C tk h2 o.2) (mark_no h3), fun _ _ _ z => by cases z⟩
  | .cmp2 op u x y z, c, X, b, W, k, pe, A, C, tk, h, o => by
    simp only [OkX, OkE] at o
    simp only [ck] at h
    split at h <;> first | contradiction | skip
    simp only [Bool.and_eq_true, decide_eq_true_eq] at h
    obtain ⟨⟨⟨⟨⟨rfl, rfl⟩, h1⟩, h2⟩, h3⟩, h4⟩ := h
    exact ⟨tst_cmp2 A (ok_E x c X b W k _ A C tk h1 o.1) (ok_E y c X b W k _ A C tk h2 o.2.1) (ok_E z c X b W k _ A C tk h3 o.2.2) (mark_no h4), fun _ _ _ z => by cases z⟩
  | .cmp3 op u v x y z d, c, X, b, W, k, pe, A, C, tk, h, o => by
    simp only [OkX, OkE] at o
    simp only [ck] at h
    split at h <;> first | contradiction | skip
    simp only [Bool.and_eq_true, decide_eq_true_eq] at h
    obtain ⟨⟨⟨⟨⟨⟨⟨rfl, rfl⟩, rfl⟩, h1⟩, h2⟩, h3⟩, h5⟩, h4⟩ := h
    exact ⟨tst_cmp3 A (ok_E x c X b W k _ A C tk h1 o.1) (ok_E y c X b W k _ A C tk h2 o.2.1) (ok_E z c X b W k _ A C tk h3 o.2.2.1) (ok_E d c X b W k _ A C tk h5 o.2.2.2) (mark_no h4), fun _ _ _ z => by cases z⟩
  | .call x f es, c, X, b, W, k, pe, A, C, tk, h, o => by
    have g := ok_E (.call x f es) c X b W k pe A C tk h o
    simp only [ck] at h
    split at h <;> first | contradiction | skip
    exact t_val (c := c) A g (fun _ _ _ z => by cases z) (fun _ => rfl) fun s => by simp only [ev, evT]
  | .var i, c, X, b, W, k, pe, A, C, tk, h, o => by
    have g := ok_E (.var i) c X b W k pe A C tk h o
    simp only [ck] at h
    split at h <;> first | contradiction | skip
    refine t_val (c := c) A g (fun _ _ _ z => by cases z) (fun _ => rfl) fun s => ?_
    simp only [ev, evT]
    cases s.sl[i]? with
    | none => rfl
    | some z => cases z <;> rfl
  | .bi B es, c, X, b, W, k, pe, A, C, tk, h, o => by
    have g := ok_E (.bi B es) c X b W k pe A C tk h o
    simp only [ck] at h
    split at h <;> first | contradiction | skip
    exact t_val (c := c) A g (fun _ _ _ z => by cases z) (fun _ => rfl) fun s => by simp only [ev, evT]
  | .ix x y, c, X, b, W, k, pe, A, C, tk, h, o => by
    have g := ok_E (.ix x y) c X b W k pe A C tk h o
    simp only [ck] at h
    split at h <;> first | contradiction | skip
    exact t_val (c := c) A g (fun _ _ _ z => by cases z) (fun _ => rfl) fun s => by simp only [ev, evT]
  | .isi a ts, c, X, b, W, k, pe, A, C, tk, h, o => by
    have g := ok_E (.isi a ts) c X b W k pe A C tk h o
    simp only [ck] at h
    split at h <;> first | contradiction | skip
    · exact t_val (c := c) A g (fun _ _ _ z => by cases z) (fun _ => rfl) fun s => by simp only [ev, evT, rm_bind2]
    · exact t_val (c := c) A g (fun _ _ _ z => by cases z) (fun _ => rfl) fun s => by simp only [ev, evT, rm_bind2]
  | .bl v, c, X, b, W, k, pe, A, C, tk, h, o => by
    have g := ok_E (.bl v) c X b W k pe A C tk h o
    simp only [ck] at h
    split at h <;> first | contradiction | skip
    refine t_val (c := c) A g (fun _ _ _ z => by cases z) (fun _ => rfl) fun s => ?_
    simp only [ev, evT]
    cases v <;> rfl
  | .glo _ _, c, X, b, W, k, pe, A, C, tk, h, o => t_no fun s => by simp only [evT]
  | .int _, c, X, b, W, k, pe, A, C, tk, h, o => t_no fun s => by simp only [evT]
  | .str _, c, X, b, W, k, pe, A, C, tk, h, o => t_no fun s => by simp only [evT]
  | .non, c, X, b, W, k, pe, A, C, tk, h, o => t_no fun s => by simp only [evT]
  | .bin _ _ _, c, X, b, W, k, pe, A, C, tk, h, o => t_no fun s => by simp only [evT]
  | .neg _, c, X, b, W, k, pe, A, C, tk, h, o => t_no fun s => by simp only [evT]
  | .ifx _ _ _, c, X, b, W, k, pe, A, C, tk, h, o => t_no fun s => by simp only [evT]
  | .tup _, c, X, b, W, k, pe, A, C, tk, h, o => t_no fun s => by simp only [evT]
  | .lst _, c, X, b, W, k, pe, A, C, tk, h, o => t_no fun s => by simp only [evT]
  | .dnil, c, X, b, W, k, pe, A, C, tk, h, o => t_no fun s => by simp only [evT]
  | .take _, c, X, b, W, k, pe, A, C, tk, h, o => t_no fun s => by simp only [evT]
  | .dlit _ _, c, X, b, W, k, pe, A, C, tk, h, o => t_no fun s => by simp only [evT]
  | .sl _ _ _, c, X, b, W, k, pe, A, C, tk, h, o => t_no fun s => by simp only [evT]
  | .rev _, c, X, b, W, k, pe, A, C, tk, h, o => t_no fun s => by simp only [evT]
  | .lc _ _ _ _ _, c, X, b, W, k, pe, A, C, tk, h, o => t_no fun s => by simp only [evT]
  | .callk _ _ _ _ _, c, X, b, W, k, pe, A, C, tk, h, o => t_no fun s => by simp only [evT]
  | .mt _ _ _, c, X, b, W, k, pe, A, C, tk, h, o => t_no fun s => by simp only [evT]
  | .mu _ _ _, c, X, b, W, k, pe, A, C, tk, h, o => t_no fun s => by simp only [evT]
  | .alc _, c, X, b, W, k, pe, A, C, tk, h, o => t_no fun s => by simp only [evT]
  | .sset _, c, X, b, W, k, pe, A, C, tk, h, o => t_no fun s => by simp only [evT]
  | .zip3 _ _ _, c, X, b, W, k, pe, A, C, tk, h, o => t_no fun s => by simp only [evT]
  | .dget _ _ _, c, X, b, W, k, pe, A, C, tk, h, o => t_no fun s => by simp only [evT]
  | .dead, c, X, b, W, k, pe, A, C, tk, h, o => t_no fun s => by simp only [evT]
  | .rpd _, c, X, b, W, k, pe, A, C, tk, h, o => t_no fun s => by simp only [evT]
  | .lend is e, c, X, b, W, k, pe, A, C, tk, h, o => by
    simp only [OkX, OkE] at o
    simp only [ck] at h
    split at h <;> first | contradiction | skip
    rename_i hne
    exact ⟨tst_lend fun b' h1 h2 => (ok_T' e c X b' W k _ ⟨h1.trans A.K, A.nd, A.calm, A.room, A.gd⟩ C tk h (by rw [OkX, h2]; exact o)).1, fun o l p z => absurd z (hne o l p)⟩
  | .mov _, c, X, b, W, k, pe, A, C, tk, h, o => t_no fun s => by simp only [evT]
  | .callb _ _ _, c, X, b, W, k, pe, A, C, tk, h, o => t_no fun s => by simp only [evT]
  | .lset _, c, X, b, W, k, pe, A, C, tk, h, o => t_no fun s => by simp only [evT]
  | .bits _, c, X, b, W, k, pe, A, C, tk, h, o => t_no fun s => by simp only [evT]
  | .maxv _, c, X, b, W, k, pe, A, C, tk, h, o => t_no fun s => by simp only [evT]
  | .dne a, c, X, b, W, k, pe, A, C, tk, h, o => by
    simp only [OkX, OkE] at o
    simp only [ck] at h
    split at h <;> first | contradiction | skip
    exact ⟨tst_dne A (ok_E a c X b W k _ A C tk h o), fun _ _ _ z => by cases z⟩
  | .starT _ _, c, X, b, W, k, pe, A, C, tk, h, o => t_no fun s => by simp only [evT]
  | .starL _ _, c, X, b, W, k, pe, A, C, tk, h, o => t_no fun s => by simp only [evT]
  | .starR _ _, c, X, b, W, k, pe, A, C, tk, h, o => t_no fun s => by simp only [evT]
  | .lrng _ _ _, c, X, b, W, k, pe, A, C, tk, h, o => t_no fun s => by simp only [evT]
  | .dix _ _, c, X, b, W, k, pe, A, C, tk, h, o => t_no fun s => by simp only [evT]
theorem ok_A : ∀ e : Es, SA e
  | .nil, c, X, b, W, k, pe, A, C, tk, h, o => by
    simp only [cks, List.isEmpty_iff] at h
    subst h
    exact ⟨snd_nil, sndO_nil⟩
  | .cons a r, c, X, b, W, k, pe, A, C, tk, h, o => by
    simp only [OkXs, OkEs] at o
    simp only [cks] at h
    split at h <;> first | contradiction | skip
    simp only [Bool.and_eq_true] at h
    have i1 := ok_E a c X b W k _ A C tk h.1.1 o.1
    have i2 := ok_A r c X b W k _ A C tk h.2 o.2
    exact ⟨snd_cons i1 i2.1 (star_cons h.1.2), sndO_cons i1 i2.2 (star_cons h.1.2)⟩
theorem ok_K : ∀ e : Es, SK e
  | .nil, c, X, b, W, k, ks, pe, A, C, tk, h, o => by
    simp only [ckk, Bool.and_eq_true, List.isEmpty_iff] at h
    obtain ⟨rfl, rfl⟩ := h
    exact sndK_nil
  | .cons a r, c, X, b, W, k, ks, pe, A, C, tk, h, o => by
    simp only [OkXs, OkEs] at o
    cases ks with
    | nil => simp [ckk] at h
    | cons n ns =>
      cases pe with
      | nil => simp [ckk] at h
      | cons kw kws =>
        obtain ⟨m, x, p⟩ := kw
        simp only [ckk, Bool.and_eq_true, decide_eq_true_eq] at h
        exact sndK_cons (ok_E a c X b W k _ A C tk h.1.2 o.1) (ok_K r c X b W k ns _ A C tk h.2 o.2)
theorem ok_O : ∀ e : EO, SO e
  | .no, c, X, b, W, k, pe, A, C, tk, h, o => by
    simp only [cko, Option.isNone_iff_eq_none] at h
    subst h
    exact snd_no
  | .so a, c, X, b, W, k, pe, A, C, tk, h, o => by
    simp only [OkXo, OkO] at o
    simp only [cko] at h
    split at h <;> first | contradiction | skip
    exact snd_so (ok_E a c X b W k _ A C tk h o)
theorem ok_C : ∀ e : EO, SC e
  | .no, c, X, b, W, k, pe, A, C, tk, h, o => by
    simp only [ckc, List.isEmpty_iff] at h
    subst h
    refine ⟨fun pins s σ H Q I ⟨RR, F, s0, r, q⟩ => pts_nil.run pins s σ H Q I ?_⟩
    simp only [evc] at q
    exact q.now r
  | .so a, c, X, b, W, k, pe, A, C, tk, h, o => by
    simp only [OkXo, OkO] at o
    simp only [ckc] at h
    split at h <;> first | contradiction | skip
    have i := pts_one (ok_T' a c X b W k _ A C tk h o).1
    refine ⟨fun pins s σ H Q I ⟨RR, F, s0, r, q⟩ => i.run pins s σ H Q I ⟨RR, F, s0, r, ?_⟩⟩
    simp only [evc] at q
    exact q
theorem ok_S : ∀ e : Src, SS e
  | .seq a, c, X, b, W, k, tg, pe, A, C, tk, h, o => by
    simp only [OkXS, OkS] at o
    simp only [ckS] at h
    exact snd_seq A.K (ok_E a c X b W k _ A C tk h o)
  | .rng1 a, c, X, b, W, k, tg, pe, A, C, tk, h, o => by
    simp only [OkXS, OkS] at o
    simp only [ckS] at h
    split at h <;> first | contradiction | skip
    simp only [Bool.and_eq_true, decide_eq_true_eq] at h
    obtain ⟨⟨⟨rfl, h1⟩, h2⟩, h3⟩ := h
    obtain ⟨g1, g2⟩ := C.bi h1
    exact snd_rng1 g1 g2 (ok_E a c X b W k _ A C tk h2 o) h3
  | .rng2 a d, c, X, b, W, k, tg, pe, A, C, tk, h, o => by
    simp only [OkXS, OkS] at o
    simp only [ckS] at h
    split at h <;> first | contradiction | skip
    simp only [Bool.and_eq_true, decide_eq_true_eq] at h
    obtain ⟨⟨⟨⟨⟨rfl, h1⟩, h2⟩, h3⟩, h4⟩, h5⟩ := h
    obtain ⟨g1, g2⟩ := C.bi h1
    exact snd_rng2 g1 g2 (ok_E a c X b W k _ A C tk h2 o.1) (ok_E d c X b W k _ A C tk h4 o.2) h3 h5
  | .enum a, c, X, b, W, k, tg, pe, A, C, tk, h, o => by
    simp only [OkXS, OkS] at o
    simp only [ckS] at h
    split at h <;> first | contradiction | skip
    simp only [Bool.and_eq_true, decide_eq_true_eq] at h
    obtain ⟨⟨⟨⟨rfl, h1⟩, h2⟩, h3⟩, h4⟩ := h
    obtain ⟨g1, g2⟩ := C.bi h1
    unfold isTup at h4
    split at h4 <;> first | contradiction | skip
    exact snd_enum A.K g1 g2 (ok_E a c X b W k _ A C tk h2 o) h3
  | .zip a d, c, X, b, W, k, tg, pe, A, C, tk, h, o => by
    simp only [OkXS, OkS] at o
    simp only [ckS] at h
    split at h <;> first | contradiction | skip
    simp only [Bool.and_eq_true, decide_eq_true_eq] at h
    obtain ⟨⟨⟨⟨⟨⟨rfl, h1⟩, h2⟩, h3⟩, h4⟩, h5⟩, h6⟩ := h
    obtain ⟨g1, g2⟩ := C.bi h1
    unfold isTup at h6
    split at h6 <;> first | contradiction | skip
    exact snd_zip A.K g1 g2 (ok_E a c X b W k _ A C tk h2 o.1) (ok_E d c X b W k _ A C tk h4 o.2) h3 h5
  | .dks i, c, X, b, W, k, tg, pe, A, C, tk, h, o => by
    simp only [ckS] at h
    split at h <;> first | contradiction | skip
    obtain ⟨h1, h2, h3⟩ := C.vis h
    exact snd_dks h1 h2 (okName_1 h3) (okName_2 h3)
  | .dit i, c, X, b, W, k, tg, pe, A, C, tk, h, o => by
    simp only [ckS] at h
    split at h <;> first | contradiction | skip
    split at h <;> first | contradiction | skip
    simp only [Bool.and_eq_true, decide_eq_true_eq] at h
    obtain ⟨⟨⟨⟨rfl, h1⟩, h2⟩, h4⟩, h5⟩ := h
    obtain ⟨g1, g2, g3⟩ := C.vis h1
    unfold isTup at h5
    split at h5 <;> first | contradiction | skip
    exact snd_dit g1 g2 (okName_1 g3) (okName_2 g3) h2 h4
end
end G4

namespace G4
open PySem PySem.Spec PyProof.Rows L2

/-! ### objects of the store forgotten -/
mutual
theorem under_pure (n : Nat) : ∀ d : D, d.pure = true → d.under n = true
  | .non, _ => by rw [D.under]
  | .bl _, _ => by rw [D.under]
  | .int _, _ => by rw [D.under]
  | .str _, _ => by rw [D.under]
  | .tup l, h => by rw [D.under]; exact unders_pure n l (by rw [D.pure] at h; exact h)
  | .lst l, h => by rw [D.under]; exact unders_pure n l (by rw [D.pure] at h; exact h)
  | .dct l, h => by rw [D.under]; exact underK_pure n l (by rw [D.pure] at h; exact h)
  | .kys l, h => by rw [D.under]; exact underK_pure n l (by rw [D.pure] at h; exact h)
  | .obj k, h => by rw [D.pure] at h; cases h
  | .fn _, _ => by rw [D.under]
  | .scr _, _ => by rw [D.under]
theorem unders_pure (n : Nat) : ∀ l : List D, D.pures l = true → D.unders n l = true
  | [], _ => by rw [D.unders]
  | d :: l, h => by
    rw [D.pures, Bool.and_eq_true] at h
    rw [D.unders, under_pure n d h.1, unders_pure n l h.2]; rfl
theorem underK_pure (n : Nat) : ∀ l : List (Key × D), D.pureK l = true → D.underK n l = true
  | [], _ => by rw [D.underK]
  | (k, d) :: l, h => by
    rw [D.pureK, Bool.and_eq_true] at h
    rw [D.underK, under_pure n d h.1, underK_pure n l h.2]; rfl
end
section
variable {K : PySem.W.Frag} {g : Str → Option Addr} {RR : List Addr} {F H : Hp} {n : Nat}
mutual
theorem Rep.low : ∀ {d : D} {v : V}, Rep K g RR F d v → d.under n = true → Rep K g (RR.take n) F d v
  | .non, _, .non, _ => .non
  | .bl _, _, .bl _, _ => .bl _
  | .int _, _, .int _, _ => .int _
  | .str _, _, .str _, _ => .str _
  | .tup l, _, .tup h r, u => .tup h (Reps.low r (by rw [D.under] at u; exact u))
  | .lst l, _, .lst h r, u => .lst h (Reps.low r (by rw [D.under] at u; exact u))
  | .dct l, _, .dct h r, u => .dct h (RepK.low r (by rw [D.under] at u; exact u))
  | .kys l, _, .kys h r, u => .kys h (RepK.low r (by rw [D.under] at u; exact u))
  | .obj k, _, .obj h, u => .obj (by rw [D.under] at u; rw [List.getElem?_take_of_lt (of_decide_eq_true u)]; exact h)
  | .fn _, _, .fn h, _ => .fn h
  | .scr _, _, .scr h, _ => .scr h
theorem Reps.low : ∀ {l : List D} {vs : List V}, Reps K g RR F l vs → D.unders n l = true → Reps K g (RR.take n) F l vs
  | [], _, .nil, _ => .nil
  | d :: l, _, .cons h r, u => by
    rw [D.unders, Bool.and_eq_true] at u
    exact .cons (Rep.low h u.1) (Reps.low r u.2)
theorem RepK.low : ∀ {l : List (Key × D)} {vs : List (Key × V)}, RepK K g RR F l vs → D.underK n l = true → RepK K g (RR.take n) F l vs
  | [], _, .nil, _ => .nil
  | (k, d) :: l, _, .cons h r, u => by
    rw [D.underK, Bool.and_eq_true] at u
    exact .cons (Rep.low h u.1) (RepK.low r u.2)
end
theorem CellAt.low {a : Addr} {c : Cell} (h : CellAt K g RR F H a c) (p : c.pure = true) : CellAt K g (RR.take n) F H a c := by
  cases h with
  | lst h r => exact .lst h (r.low (unders_pure n _ p))
  | dK h r => exact .dK h (r.low (underK_pure n _ p))
end
section
variable {X : Cx} {b : Bs} {W : WX} {k : Nat} {σ : L2.St} {RR RR' : List Addr} {F F' H H' : Hp} {s : S} {Q : VK} {n : Nat}
theorem take_pre {α : Type} {l m : List α} (h : l <+: m) : m.take l.length = l := by
  obtain ⟨r, rfl⟩ := h
  simp
theorem keepSl {sl : List SV} {i : Nat} {x : SV} (h : (sl.map (SV.keep n))[i]? = some x) : ∃ y, sl[i]? = some y ∧ y.keep n = x := by
  rw [List.getElem?_map] at h
  cases q : sl[i]? with
  | none => rw [q] at h; cases h
  | some y => rw [q] at h; cases h; exact ⟨y, rfl, rfl⟩
theorem keep_d {y : SV} {x : D} (h : y.keep n = .d x) : y = .d x ∧ x.under n = true := by
  cases y with
  | un => cases h
  | d z =>
    simp only [SV.keep] at h
    split at h
    · cases h; exact ⟨rfl, by assumption⟩
    · cases h
  | own c => simp only [SV.keep] at h; split at h <;> cases h
theorem keep_o {y : SV} {c : Cell} (h : y.keep n = .own c) : y = .own c ∧ c.pure = true := by
  cases y with
  | un => cases h
  | d z => simp only [SV.keep] at h; split at h <;> cases h
  | own d =>
    simp only [SV.keep] at h
    split at h
    · cases h; exact ⟨rfl, by assumption⟩
    · cases h
theorem Rel.gc (r : Rel b RR F s σ H) (h0 : b.R0.length ≤ n) (hn : n ≤ RR.length) : Rel b (RR.take n) F (s.gc n) σ H := by
  unfold S.gc
  split
  · rename_i e
    have : RR.take n = RR := List.take_of_length_le (by rw [← r.stl, e]; exact Nat.le_refl _)
    rw [this]; exact r
  · have sub : ∀ {a}, a ∈ RR.take n → a ∈ RR := fun h => (List.take_sublist n RR).subset h
    refine ⟨r.fz, r.f0, r.fn, r.keep, ?_, fun a m => r.new a (sub m), r.nd.sublist (List.take_sublist n RR), fun a m => r.rf a (sub m), ?_, fun m c a h1 h2 => ?_, ?_, fun i x h => ?_, fun i c h => ?_, fun i j c d a h1 h2 h3 h4 => ?_⟩
    · rw [List.prefix_take_iff]; exact ⟨r.pre, h0⟩
    · show (s.st.take n).length = (RR.take n).length
      rw [List.length_take, List.length_take, r.stl]
    · have hm : m < n := by
        have := (List.getElem?_eq_some_iff.mp h2).1
        rw [List.length_take] at this; omega
      rw [List.getElem?_take_of_lt hm] at h1 h2
      obtain ⟨g1, g2⟩ := r.st m c a h1 h2
      exact ⟨g1.low g2, g2⟩
    · show (s.sl.map (SV.keep n)).length = σ.length
      rw [List.length_map]; exact r.len
    · obtain ⟨y, h1, h2⟩ := keepSl h
      obtain ⟨rfl, hu⟩ := keep_d h2
      obtain ⟨v, g1, g2⟩ := r.sd i x h1
      exact ⟨v, g1, g2.low hu⟩
    · obtain ⟨y, h1, h2⟩ := keepSl h
      obtain ⟨rfl, hu⟩ := keep_o h2
      obtain ⟨a, g1, g2, g3, g4, g5⟩ := r.so i c h1
      exact ⟨a, g1, g2.low hu, g3, fun m => g4 (sub m), g5⟩
    · obtain ⟨y, k1, k2⟩ := keepSl h1
      obtain ⟨z, k3, k4⟩ := keepSl h2
      obtain ⟨rfl, _⟩ := keep_o k2
      obtain ⟨rfl, _⟩ := keep_o k4
      exact r.ap i j c d a k1 k3 h3 h4
theorem Lone.setD {a : Addr} (l : Lone b RR F s σ a) {i : Nat} {x : D} {v : V} : Lone b RR F ⟨s.sl.set i (.d x), s.st⟩ (σ.set i (some v)) a := ⟨l.f, l.r, l.h, fun j c h q => by
  rcases set_cases h with ⟨_, e, _⟩ | ⟨m, h⟩
  · cases e
  · rw [List.getElem?_set_ne (Ne.symm m)] at q; exact l.o j c h q⟩
theorem Lone.setO {a a' : Addr} (l : Lone b RR F s σ a) (ne : a ≠ a') {i : Nat} {x : Cell} : Lone b RR F ⟨s.sl.set i (.own x), s.st⟩ (σ.set i (some (.ref a'))) a := ⟨l.f, l.r, l.h, fun j c h q => by
  rcases set_cases h with ⟨rfl, e, hl⟩ | ⟨m, h⟩
  · rw [List.getElem?_set] at q
    split at q
    · split at q
      · cases q; exact ne rfl
      · cases q
    · rename_i z; exact z rfl
  · rw [List.getElem?_set_ne (Ne.symm m)] at q; exact l.o j c h q⟩
theorem Rel.lonePop (r : Rel b RR F s σ H) (h0 : b.R0.length ≤ n) (hn : n ≤ RR.length) {m : Nat} {a : Addr} (hm : n ≤ m) (ha : RR[m]? = some a) : Lone b (RR.take n) F (s.gc n) σ a := by
  have ha' := List.mem_of_getElem? ha
  have nr : a ∉ RR.take n := fun z => by
    obtain ⟨j, hj, e⟩ := List.getElem_of_mem z
    rw [List.length_take] at hj
    have e2 : RR[j]? = some a := by rw [← e, List.getElem_take]; exact List.getElem?_eq_getElem (by omega)
    obtain ⟨h1, e1⟩ := List.getElem?_eq_some_iff.mp ha
    obtain ⟨h2, e3⟩ := List.getElem?_eq_some_iff.mp e2
    have := (List.getElem_inj r.nd).mp (e1.trans e3.symm)
    omega
  refine ⟨r.rf a ha', nr, r.new a ha' fun z => nr ((List.prefix_take_iff.mpr ⟨r.pre, h0⟩).subset z), fun i c h q => ?_⟩
  have h2 : s.sl[i]? = some (.own c) := by
    unfold S.gc at h
    split at h
    · exact h
    · obtain ⟨y, k1, k2⟩ := keepSl h
      obtain ⟨rfl, _⟩ := keep_o k2
      exact k1
  obtain ⟨x, g1, _, _, g4, _⟩ := r.so i c h2
  rw [q] at g1; cases g1
  exact g4 ha'

/-! ### a, b = x, y -/
def setAll : L2.St → List Nat → List V → L2.St
  | σ, i :: l, v :: vs => setAll (σ.set i (some v)) l vs
  | σ, _, _ => σ
theorem put_ok {stF : List Cell} {st0 : List Cell} {R0 : List Addr} (pend : Nat → Addr → Prop)
    (hp : ∀ m a c, RR[m]? = some a → stF[m]? = some c → n ≤ m → CellAt b.K b.g R0 F H a c) (hR : R0 = RR.take n) (hnd : RR.Nodup) : ∀ (l : List Nat) (xs : List D) (vs : List V) (sl sl' : List SV) (σ : L2.St), Rel b R0 F ⟨sl, st0⟩ σ H → Reps b.K b.g RR F xs vs →
      (∀ m, m ∈ xs.filterMap (D.isNew n) → ∀ a, RR[m]? = some a → Lone b R0 F ⟨sl, st0⟩ σ a) → (xs.filterMap (D.isNew n)).Nodup → putPar n stF l xs sl = some sl' → Rel b R0 F ⟨sl', st0⟩ (setAll σ l vs) H ∧ vs.length = l.length
  | [], [], _, sl, sl', σ, r, .nil, hl, nd, h => by
    simp only [putPar, Option.some.injEq] at h
    subst h
    exact ⟨r, rfl⟩
  | [], _ :: _, _, _, _, _, _, _, _, _, h => by simp [putPar] at h
  | _ :: _, [], _, _, _, _, _, _, _, _, h => by simp [putPar] at h
  | i :: l, x :: xs, _, sl, sl', σ, r, .cons (v := v) (vs := vs) hv hvs, hl, nd, h => by
    rw [putPar] at h
    cases e : x.isNew n with
    | none =>
      rw [e] at h
      simp only at h
      have ef : (x :: xs).filterMap (D.isNew n) = xs.filterMap (D.isNew n) := by rw [List.filterMap_cons, e]
      rw [ef] at hl nd
      split at h
      · rename_i hu
        have hv' : Rep b.K b.g R0 F x v := hR ▸ hv.low hu
        obtain ⟨g1, g2⟩ := put_ok pend hp hR hnd l xs vs _ sl' _ (r.storeD (i := i) hv') hvs (fun m hm a ha => (hl m hm a ha).setD) nd h
        exact ⟨g1, by rw [List.length_cons, List.length_cons, g2]⟩
      · cases h
    | some m =>
      rw [e] at h
      simp only at h
      have ef : (x :: xs).filterMap (D.isNew n) = m :: xs.filterMap (D.isNew n) := by rw [List.filterMap_cons, e]
      rw [ef] at hl nd
      cases hc : stF[m]? with
      | none => rw [hc] at h; cases h
      | some c =>
        rw [hc] at h
        simp only at h
        have hx : x = .obj m ∧ n ≤ m := by
          cases x <;> simp only [D.isNew, reduceCtorEq] at e
          split at e
          · cases e
          · cases e; exact ⟨rfl, by omega⟩
        obtain ⟨rfl, hm⟩ := hx
        cases hv with
        | @obj _ a ha =>
          have lone := hl m List.mem_cons_self a ha
          rw [List.nodup_cons] at nd
          obtain ⟨g1, g2⟩ := put_ok pend hp hR hnd l xs vs _ sl' _ (r.storeO (i := i) (hp m a c ha hc hm) lone) hvs (fun m' hm' a' ha' => (hl m' (List.mem_cons_of_mem _ hm') a' ha').setO fun z => by
            subst z
            obtain ⟨h1, e1⟩ := List.getElem?_eq_some_iff.mp ha
            obtain ⟨h2, e3⟩ := List.getElem?_eq_some_iff.mp ha'
            have := (List.getElem_inj hnd).mp (e1.trans e3.symm)
            exact nd.1 (this ▸ hm')) nd.2 h
          exact ⟨g1, by rw [List.length_cons, List.length_cons, g2]⟩
/-- what stands behind a, b = x, y -/
theorem par_ok {t : S} {l : List Nat} {xs : List D} {vs : List V} {sl : List SV} (r : Rel b RR F t σ H) (h0 : b.R0.length ≤ n) (hn : n ≤ RR.length) (hx : Reps b.K b.g RR F xs vs) (nd : (xs.filterMap (D.isNew n)).Nodup) (h : putPar n t.st l xs (t.gc n).sl = some sl) :
    Rel b (RR.take n) F ⟨sl, t.st.take n⟩ (setAll σ l vs) H ∧ vs.length = l.length := by
  have r0 := r.gc h0 hn
  have est : (t.gc n).st = t.st.take n := by
    unfold S.gc
    split
    · rename_i e; rw [← e, List.take_length]
    · rfl
  have r0 : Rel b (RR.take n) F ⟨(t.gc n).sl, t.st.take n⟩ σ H := by rw [← est]; exact r0
  refine put_ok (fun _ _ => True) (fun m a c h1 h2 h3 => ?_) rfl r.nd l xs vs _ sl σ r0 hx (fun m hm a ha => ?_) nd h
  · obtain ⟨g1, g2⟩ := r.st m c a h2 h1
    exact g1.low g2
  · have hm' : n ≤ m := by
      obtain ⟨d, _, e⟩ := List.mem_filterMap.mp hm
      cases d <;> simp only [D.isNew, reduceCtorEq] at e
      split at e
      · cases e
      · cases e; omega
    have l1 := r.lonePop h0 hn hm' ha
    exact ⟨l1.f, l1.r, l1.h, l1.o⟩
end

/-! ### statements -/
def GoS (b : Bs) (W : WX) (RR : List Addr) (F : Hp) (D : Ends) : OS → Prop
  | .nx s => ∀ RR' F' σ' H', RR <+: RR' → Same F F' → Rel b RR' F' s σ' H' → D.nx σ' H'
  | .bk s => ∀ RR' F' σ' H', RR <+: RR' → Same F F' → Rel b RR' F' s σ' H' → D.bk σ' H'
  | .ct s => ∀ RR' F' σ' H', RR <+: RR' → Same F F' → Rel b RR' F' s σ' H' → D.ct σ' H'
  | .rt x s => ∀ RR' F' σ' H' v, RR <+: RR' → Same F F' → Rel b RR' F' s σ' H' → RRel b RR' F' s σ' H' x v → D.rt v H'
  | .ex e s => ∀ cls d RR' F' σ' H', RR <+: RR' → Same F F' → Rel b RR' F' s σ' H' → XRel b e cls d H' → W cls d σ' H'
  | .bad => False
def tS (b : Bs) (W : WX) (f : S → OS) : TS := fun D σ H => ∃ RR F s, Rel b RR F s σ H ∧ GoS b W RR F D (f s)
section
variable {X : Cx} {b : Bs} {W : WX} {k : Nat} {σ : L2.St} {RR RR' : List Addr} {F F' H H' : Hp} {s : S} {Q : VK} {n : Nat} {D D' : Ends}
theorem GoS.up {o : OS} (h : GoS b W RR F D o) (p : RR <+: RR') (e : Same F F') : GoS b W RR' F' D o := by
  cases o with
  | nx s => exact fun R2 F2 σ2 H2 q f r => h R2 F2 σ2 H2 (p.trans q) (e.trans f) r
  | bk s => exact fun R2 F2 σ2 H2 q f r => h R2 F2 σ2 H2 (p.trans q) (e.trans f) r
  | ct s => exact fun R2 F2 σ2 H2 q f r => h R2 F2 σ2 H2 (p.trans q) (e.trans f) r
  | rt x s => exact fun R2 F2 σ2 H2 v q f r => h R2 F2 σ2 H2 v (p.trans q) (e.trans f) r
  | ex x s => exact fun c d R2 F2 σ2 H2 q f r => h c d R2 F2 σ2 H2 (p.trans q) (e.trans f) r
  | bad => exact h
theorem GoS.of {α : Type} {o : O α} {f : α → S → OS} (h : GoS b W RR F D (OS.of o f)) : Go b W σ RR F o fun a s RR' F' _ => GoS b W RR' F' D (f a s) := by
  cases o with
  | ok a s => exact fun R2 F2 H2 q e r => GoS.up h q e
  | ex x s => exact fun c d R2 F2 H2 q e r => h c d R2 F2 σ H2 q e r
  | bad => exact h
theorem GoS.of' {α : Type} {o : O α} {f : α → S → OS} (h : GoS b W RR F D (OS.of o f)) : Go b W σ RR F o fun a s RR' F' _ => o = .ok a s ∧ GoS b W RR' F' D (f a s) := by
  cases o with
  | ok a s => exact fun R2 F2 H2 q e r => ⟨rfl, GoS.up h q e⟩
  | ex x s => exact fun c d R2 F2 H2 q e r => h c d R2 F2 σ H2 q e r
  | bad => exact h
theorem GoS.of0 {α : Type} {o : O α} {f : α → S → OS} (h : GoS b W RR F D (OS.of o f)) : Go b W σ RR F o fun a s _ F' _ => GoS b W RR F' D (f a s) := by
  cases o with
  | ok a s => exact fun R2 F2 H2 q e r => GoS.up h (List.prefix_refl _) e
  | ex x s => exact fun c d R2 F2 H2 q e r => h c d R2 F2 σ H2 q e r
  | bad => exact h
theorem GoS.now {s : S} (h : GoS b W RR F D (.nx s)) (r : Rel b RR F s σ H) : D.nx σ H := h RR F σ H (List.prefix_refl _) (Same.refl _) r
theorem GoS.opt {o : Option S} (h : GoS b W RR F D (OS.opt o)) : ∃ s, o = some s ∧ GoS b W RR F D (.nx s) := by
  cases o with
  | none => exact h.elim
  | some s => exact ⟨s, rfl, h⟩
theorem _root_.L2.PS.weak {X : Cx} {e : Stmt} {t t' : TS} (h : PS X e t) (k : ∀ D σ H, t' D σ H → t D σ H) : PS X e t' := ⟨fun pins s σ H D I q => h.run pins s σ H D I (k D σ H q)⟩
theorem _root_.L2.PSs.weak {X : Cx} {e : List Stmt} {t t' : TS} (h : PSs X e t) (k : ∀ D σ H, t' D σ H → t D σ H) : PSs X e t' := ⟨fun pins s σ H D I q => h.run pins s σ H D I (k D σ H q)⟩
theorem sns_nil : PSs X [] (tS b W (exms .nil)) := pss_nil.weak fun D σ H ⟨RR, F, s, r, q⟩ => by
  simp only [exms] at q
  exact q.now r
theorem sns_cons {st : Stmt} {rest : List Stmt} {a : Sm} {r : Sms} (h1 : PS X st (tS b W (exm a))) (h2 : PSs X rest (tS b W (exms r))) : PSs X (st :: rest) (tS b W (exms (.cons a r))) := by
  refine (pss_cons h1 h2).weak fun D σ H ⟨RR, F, s, rl, q⟩ => ?_
  simp only [exms] at q
  refine ⟨RR, F, s, rl, ?_⟩
  cases e : exm a s with
  | nx s' =>
    rw [e] at q
    exact fun R2 F2 σ2 H2 p2 e2 r2 => ⟨R2, F2, s', r2, GoS.up q p2 e2⟩
  | bk s' => rw [e] at q; exact q
  | ct s' => rw [e] at q; exact q
  | rt x s' => rw [e] at q; exact q
  | ex x s' => rw [e] at q; exact q
  | bad => rw [e] at q; exact q
theorem sn_pass {pos : Pos} : PS X (.Pass pos) (tS b W (exm .pass)) := ps_pass.weak fun D σ H ⟨RR, F, s, r, q⟩ => by
  simp only [exm] at q; exact q.now r
theorem sn_doc {x : Str} {j : Nat} {p pos : Pos} : PS X (.Expr (.Constant (.str x) j p) pos) (tS b W (exm .pass)) := ps_doc.weak fun D σ H ⟨RR, F, s, r, q⟩ => by
  simp only [exm] at q; exact q.now r
theorem sn_brk {pos : Pos} : PS X (.Break pos) (tS b W (exm .brk)) := ps_break.weak fun D σ H ⟨RR, F, s, r, q⟩ => by
  simp only [exm] at q; exact q RR F σ H (List.prefix_refl _) (Same.refl _) r
theorem sn_cont {pos : Pos} : PS X (.Continue pos) (tS b W (exm .cont)) := ps_continue.weak fun D σ H ⟨RR, F, s, r, q⟩ => by
  simp only [exm] at q; exact q RR F σ H (List.prefix_refl _) (Same.refl _) r
theorem sn_retN {pos : Pos} : PS X (.Return none pos) (tS b W (exm .retN)) := ps_retN.weak fun D σ H ⟨RR, F, s, r, q⟩ => by
  simp only [exm] at q; exact q RR F σ H .non (List.prefix_refl _) (Same.refl _) r .non
theorem sn_ret {e : Expr} {a : E} {pos : Pos} (ha : PE X e (tE b W (ev a))) : PS X (.Return (some e) pos) (tS b W (exm (.ret a))) := (ps_ret ha).weak fun D σ H ⟨RR, F, s, r, q⟩ => by
  simp only [exm] at q
  exact ⟨RR, F, s, r, q.of.imp fun x s1 R1 F1 H1 p1 e1 r1 q1 v hv => q1 R1 F1 σ H1 v (List.prefix_refl _) (Same.refl _) r1 hv⟩
theorem sn_expr {e : Expr} {a : E} {pos : Pos} (ha : PE X e (tE b W (ev a))) (hn : notComp e = true) : PS X (.Expr e pos) (tS b W (exm (.expr a))) := (ps_expr ha (swap_no hn)).weak fun D σ H ⟨RR, F, s, r, q⟩ => by
  simp only [exm] at q
  exact ⟨RR, F, s, r, q.of.imp fun x s1 R1 F1 H1 p1 e1 r1 q1 v hv => q1.now r1⟩
/-- a name is given what an expression gave -/
theorem store_go {x : R} {v : V} {i : Nat} (r : Rel b RR F s σ H) (hv : RRel b RR F s σ H x v) (q : GoS b W RR F D (OS.opt (s.store i x))) : D.nx (σ.set i (some v)) H := by
  obtain ⟨s', h1, q⟩ := q.opt
  cases x with
  | d x =>
    simp only [S.store, Option.some.injEq] at h1
    subst h1
    exact q.now (r.storeD hv)
  | new c =>
    simp only [S.store, Option.some.injEq] at h1
    subst h1
    obtain ⟨a, rfl, k1, k2⟩ := hv
    exact q.now (r.storeO k1 k2)
  | pl j =>
    simp only [S.store, S.fz] at h1
    have hv : σ[j]? = some (some v) := hv
    cases e : s.sl[j]? with
    | none => rw [e] at h1; cases h1
    | some z =>
      rw [e] at h1
      cases z with
      | un => cases h1
      | d x =>
        cases h1
        obtain ⟨w, g1, g2⟩ := r.sd j x e
        rw [hv] at g1; cases g1
        exact q.now (r.storeD g2)
      | own c =>
        cases ev : c.view with
        | none => simp [ev] at h1
        | some x =>
          simp only [ev, Option.map_some, Option.some.injEq] at h1
          subst h1
          obtain ⟨a, F', g1, e1, k1, r1⟩ := r.frzS e ev
          rw [hv] at g1; cases g1
          exact q RR F' _ H (List.prefix_refl _) e1 (r1.storeD k1)
theorem sn_set {i : Nat} {x : Str} {e : Expr} {a : E} {pos p : Pos} (hN : X.N.Nodup) (hi : X.N[i]? = some x) (hx : L2.Loc X.env.scope x) (hf : X.fn x = true ∨ X.env.scope.names.lookup x = some .local) (ha : PE X e (tE b W (ev a))) (hs : swapsWith e (some (.Name x p)) pos.line X.env = pure false) :
    PS X (.Assign [.Name x p] e pos) (tS b W (exm (.set i a))) := (ps_set hN hi hx ha hs hf).weak fun D σ H ⟨RR, F, s, r, q⟩ => by
  simp only [exm] at q
  exact ⟨RR, F, s, r, q.of.imp fun x s1 R1 F1 H1 p1 e1 r1 q1 v hv => store_go r1 hv q1⟩
theorem sn_unp {tg e : Expr} {t : T} {a : E} {pos : Pos} (ha : PE X e (tE b W (ev a))) (hg : PG X tg (tT b t)) (hs : swapsWithSole [tg] e pos.line X.env = pure false) (hw : swappedStores [tg] e X.env = pure none) (h1 : (assignEach [tg] X.env).map (·.2) = [assign tg X.env]) :
    PS X (.Assign [tg] e pos) (tS b W (exm (.unp t a))) := (ps_asg (snd_val ha) hg hs hw h1).weak fun D σ H ⟨RR, F, s, r, q⟩ => by
  simp only [exm] at q
  refine ⟨RR, F, s, r, q.of.imp fun x s1 R1 F1 H1 p1 e1 r1 q1 v hv => ?_⟩
  obtain ⟨s', h2, q1⟩ := q1.opt
  exact ⟨R1, F1, s1, x, s', r1, hv, h2, fun σ' r' _ _ => q1.now r'⟩
theorem _root_.L2.PSet.or {X : Cx} {t u : TSet} (h : PSet X t) (h' : PSet X u) : PSet X (fun o i v H Q => t o i v H Q ∨ u o i v H Q) := by
  intro pins s σ H o i v ov iv w Q I r1 r2 r3 q
  rcases q with q | q
  · exact h pins s σ H o i v ov iv w Q I r1 r2 r3 q
  · exact h' pins s σ H o i v ov iv w Q I r1 r2 r3 q
theorem wr_of {x : R} (e : (s.isLst x || s.isDct x) = true) : ∀ c, x ≠ .new c := fun c z => by
  subst z
  cases e
/-- o[k] = x, the object written -/
theorem setix_go {y : R} {z x : G4.D} {w u v : V} {cc c' : Cell} {s s' : S} (r3 : Rel b RR F s σ H) (hw3 : RRel b RR F s σ H y w) (hn : ∀ c, y ≠ .new c) (hu : Rep b.K b.g RR F z u) (hv : Rep b.K b.g RR F x v) (h4 : s.cell y = some cc) (h5 : setIx cc z x = some c') (h6 : s.put c' y = some s')
    (q : ∀ H', Rel b RR F s' σ H' → D.nx σ H') : L2.rSetL w u v H (fun H' => D.nx σ H') ∨ L2.rSetD w u v H (fun H' => D.nx σ H') := by
  obtain ⟨a2, rfl, h7, h8⟩ := cell_of r3 hw3 hn h4
  unfold setIx at h5
  split at h5
  · rename_i l kk
    split at h5
    · rename_i hlt
      obtain ⟨kk, h9, rfl⟩ := map_some h5
      cases h7 with
      | dK h k =>
        have h10 := key_rep hu h9
        subst h10
        refine .inr ⟨a2, _, rfl, DPut.k h (by rw [← k.len, big_eq]; exact hlt), ?_⟩
        exact q _ (h8 _ _ s' (.dK upd_same (k.put hv kk)) h6)
    · cases h5
  · obtain ⟨j, h9, rfl⟩ := map_some h5
    cases h7 with
    | lst h k =>
      cases hu
      refine .inl ⟨a2, _, _, j, rfl, rfl, h, by rw [← k.len]; exact h9, ?_⟩
      exact q _ (h8 _ _ s' (.lst upd_same (k.set hv _)) h6)
  · cases h5
theorem sn_setix {o i e : Expr} {a c d : E} {pos p : Pos} (A : Amb X b k) (ho : PE X o (tE b W (ev a))) (hi : PE X i (tE b W (ev c))) (he : PE X e (tE b W (ev d))) (hp : notSlice i = true) (hs : swapsWithSole [.Subscript o i p] e pos.line X.env = pure false) :
    PS X (.Assign [.Subscript o i p] e pos) (tS b W (exm (.setix a c d))) := by
  have hg := pg_sub (pos := p) ho (snd_val hi) ((set_list (X := X)).or (set_dict (by have := A.hu; omega))) (by intro v; cases i <;> first | rfl | cases hp)
  refine (ps_asg (snd_val he) hg hs (by rfl) (by rfl)).weak fun D σ H ⟨RR, F, s, r, q⟩ => ?_
  simp only [exm] at q
  refine ⟨RR, F, s, r, q.of.imp fun x s1 R1 F1 H1 p1 e1 r1 q1 v hv => ?_⟩
  refine ⟨R1, F1, s1, r1, q1.of.imp fun y s2 R2 F2 H2 p2 e2 r2 q2 w hw => ?_⟩
  split at q2
  · rename_i hl
    have hn := wr_of hl
    refine ⟨R2, F2, s2, r2, q2.of.imp fun z s3 R3 F3 H3 p3 e3 r3 q3 u hu => ?_⟩
    have hw3 := hw.up (s' := s3) (H' := H3) hn p3 e3
    cases h4 : s3.cell y with
    | none => rw [h4] at q3; exact q3.elim
    | some cc =>
      rw [h4, Option.bind_some] at q3
      cases h5 : setIx cc z x with
      | none => rw [h5] at q3; exact q3.elim
      | some c' =>
        rw [h5] at q3
        simp only at q3
        obtain ⟨s', h6, q4⟩ := q3.opt
        exact setix_go r3 hw3 hn hu ((hv.mono e2 p2).mono e3 p3) h4 h5 h6 fun H' r4 => q4.now r4
  · exact q2.elim
theorem sn_if {c : Expr} {x : E} {sa sb : List Stmt} {p q : Sms} {pos : Pos} (hc : PT X c (tB' b W (evT x))) (h1 : PSs X sa (tS b W (exms p))) (h2 : PSs X sb (tS b W (exms q))) : PS X (.If c sa sb pos) (tS b W (exm (.ifs x p q))) := by
  refine (ps_if hc h1 h2).weak fun D σ H ⟨RR, F, s, r, q⟩ => ?_
  simp only [exm] at q
  refine ⟨RR, F, s, r, q.of.imp fun y s1 R1 F1 H1 p1 e1 r1 q1 => ?_⟩
  cases y with
  | true => exact ⟨R1, F1, s1, r1, q1⟩
  | false => exact ⟨R1, F1, s1, r1, q1⟩
/-! ### a, b = x, y -/
theorem par_nil : PA X [] (tAs b W (evPar .nil)) := pa_nil.weak fun σ H Q ⟨RR, F, s, r, q⟩ => by
  simp only [evPar] at q
  exact q.now r _ .nil
theorem par_cons {e : Expr} {es : List Expr} {a : E} {as : Es} (ha : PE X e (tE b W (ev a))) (hb : PA X es (tAs b W (evPar as))) (hs : starEach (e :: es) X.env = (false, eval e X.env) :: starEach es X.env) : PA X (e :: es) (tAs b W (evPar (.cons a as))) := by
  refine (pa_cons ha hb hs).weak fun σ H Q ⟨RR, F, s, r, q⟩ => ?_
  simp only [evPar] at q
  refine ⟨RR, F, s, r, q.bind fun x s1 R1 F1 H1 p1 e1 r1 q1 v hv => ?_⟩
  have rest : ∀ {R1 F1 s1 x}, Rel b R1 F1 s1 σ H1 → Rep b.K b.g R1 F1 x v → Go b W σ R1 F1 ((evPar as s1).bind fun l t => .ok (x :: l) t) (fun x _ RR' F' H' => ∀ vs, Reps b.K b.g RR' F' x vs → Q vs H') → tAs b W (evPar as) σ H1 fun vs H2 => Q (v :: vs) H2 := fun {R1 F1 s1 x} r1 hv q1 =>
    ⟨R1, F1, s1, r1, q1.bind fun l s2 R2 F2 H2 p2 e2 r2 q2 vs hvs => q2.now r2 _ (.cons (hv.mono e2 p2) hvs)⟩
  cases x with
  | new c =>
    simp only at q1
    split at q1
    · rename_i hp
      obtain ⟨a, rfl, h1, h2⟩ := hv
      have rp := r1.push h1 h2 hp
      exact rest rp (Rep.obj (by rw [r1.stl]; simp)) (q1.up (List.prefix_append _ _) (Same.refl _))
    · exact q1.elim
  | d x => exact rest r1 hv q1
  | pl j =>
    simp only [S.fz] at q1
    have hv : σ[j]? = some (some v) := hv
    cases e : s1.sl[j]? with
    | none => rw [e] at q1; exact q1.elim
    | some z =>
      rw [e] at q1
      cases z with
      | un => exact q1.elim
      | d x =>
        obtain ⟨w, g1, g2⟩ := r1.sd j x e
        rw [hv] at g1; cases g1
        exact rest r1 g2 q1
      | own c =>
        cases ev : c.view with
        | none => simp only [ev, Option.map_none] at q1; exact q1.elim
        | some x =>
          simp only [ev, Option.map_some] at q1
          obtain ⟨a, F', g1, e1, k1, r2⟩ := r1.frzS e ev
          rw [hv] at g1; cases g1
          exact rest r2 k1 (q1.up (List.prefix_refl _) e1)
/-- the values, then all names at once -/
theorem par_go {l : List Nat} {es : Es} (q : GoS b W RR F D (exm (.par l es) s)) (r : Rel b RR F s σ H) : tAs b W (evPar es) σ H fun vs H1 => vs.length = l.length ∧ ∀ H2, Same H1 H2 → D.nx (setAll σ l vs) H2 := by
  simp only [exm] at q
  refine ⟨RR, F, s, r, q.of0.imp fun xs t R1 F1 H1 p1 e1 r1 q1 vs hvs => ?_⟩
  split at q1
  · rename_i hc
    cases h1 : putPar s.st.length t.st l xs (t.gc s.st.length).sl with
    | none => rw [h1] at q1; exact q1.elim
    | some sl =>
      rw [h1] at q1
      have el : RR.length = s.st.length := r.stl.symm
      have hn : s.st.length ≤ R1.length := by rw [← el]; exact p1.length_le
      have h0 : b.R0.length ≤ s.st.length := by rw [← el]; exact r.pre.length_le
      obtain ⟨g1, g2⟩ := par_ok r1 h0 hn hvs hc.2 h1
      have eR : R1.take s.st.length = RR := by rw [← el]; exact take_pre p1
      rw [eR] at g1
      exact ⟨g2, fun H2 e2 => q1.now (g1.same e2)⟩
  · exact q1.elim
/-- targets that are names, all at once -/
def gAll (l : List Nat) : TGs := fun vs σ H Q => vs.length = l.length ∧ Q (setAll σ l vs) H
def NamesOk (X : Cx) : List Nat → List Expr → Prop
  | [], [] => True
  | i :: l, .Name x _ :: es => X.N[i]? = some x ∧ L2.Loc X.env.scope x ∧ (X.fn x = true ∨ X.env.scope.names.lookup x = some .local) ∧ NamesOk X l es
  | _, _ => False
theorem names_all (hN : X.N.Nodup) : ∀ (l : List Nat) (es : List Expr), NamesOk X l es → PGs X es (gAll l) ∧ es.all notStar = true ∧ l.length = es.length
  | [], [], _ => ⟨pgs_nil.weak fun vs σ H Q ⟨h1, h2⟩ => by
      cases vs with
      | nil => exact ⟨rfl, h2⟩
      | cons _ _ => simp at h1, rfl, rfl⟩
  | [], _ :: _, h => by simp [NamesOk] at h
  | _ :: _, [], h => by simp [NamesOk] at h
  | i :: l, e :: es, h => by
    cases e <;> simp only [NamesOk] at h
    obtain ⟨h1, h2, h3, h4⟩ := h
    obtain ⟨g1, g2, g3⟩ := names_all hN l es h4
    refine ⟨(pgs_cons (pg_name hN h1 h2 h3) g1 (by rfl)).weak fun vs σ H Q ⟨q1, q2⟩ => ?_, by rw [List.all_cons, g2]; rfl, by rw [List.length_cons, List.length_cons, g3]⟩
    cases vs with
    | nil => simp at q1
    | cons v vs =>
      refine ⟨v, vs, rfl, ?_⟩
      exact ⟨by simpa using q1, q2⟩
theorem sn_par {l : List Nat} {ts es : List Expr} {as : Es} {kt k2 : Nat} {pt p2 pos : Pos} (A : Amb X b k) (hn : NamesOk X l ts) (ha : PA X es (tAs b W (evPar as))) (hs : es.all notStar = true)
    (hw : swappedStores [.Tuple ts kt pt] (.Tuple es k2 p2) X.env = pure none) (hl : l.length ≤ 1000) :
    PS X (.Assign [.Tuple ts kt pt] (.Tuple es k2 p2) pos) (tS b W (exm (.par l as))) := by
  obtain ⟨g1, g2, g3⟩ := names_all A.nd l ts hn
  refine (ps_asg (pe_tup ha) (pg_tup A.calm g1 (asg_len g2) (asg_find g2)) (by rfl) hw (by rfl)).weak fun D σ H ⟨RR, F, s, r, q⟩ => ?_
  obtain ⟨RR, F, s, r, q⟩ := par_go q r
  refine ⟨RR, F, s, r, q.imp fun xs s1 R1 F1 H1 p1 e1 r1 q1 vs hvs => ?_⟩
  obtain ⟨h1, h2⟩ := q1 vs hvs
  refine ⟨by rw [h1]; exact len_ok hl, fun T hT => ?_⟩
  exact ⟨T, vs, rfl, .inl (.inl upd_same), by rw [h1, g3], h1, h2 _ (same_new hT)⟩
theorem sn_par2 {i j : Nat} {x y : Str} {a c : Expr} {as : Es} {px py pt p2 pos : Pos} {kt k2 : Nat} (A : Amb X b k) (hi : X.N[i]? = some x) (hj : X.N[j]? = some y) (hij : i ≠ j) (hx : X.env.scope.names.lookup x = some .local) (hy : X.env.scope.names.lookup y = some .local)
    (ha : PA X [a, c] (tAs b W (evPar as))) (hw : swappedStores [.Tuple [.Name x px, .Name y py] kt pt] (.Tuple [a, c] k2 p2) X.env = pure (some [x, y])) :
    PS X (.Assign [.Tuple [.Name x px, .Name y py] kt pt] (.Tuple [a, c] k2 p2) pos) (tS b W (exm (.par [i, j] as))) := by
  refine (ps_par A.calm A.nd hi hj hij hx hy ha hw).weak fun D σ H ⟨RR, F, s, r, q⟩ => ?_
  obtain ⟨RR, F, s, r, q⟩ := par_go q r
  refine ⟨RR, F, s, r, q.imp fun xs s1 R1 F1 H1 p1 e1 r1 q1 vs hvs => ?_⟩
  obtain ⟨h1, h2⟩ := q1 vs hvs
  match vs, h1, h2 with
  | [v, w], _, h2 => exact ⟨v, w, rfl, h2 _ (Same.refl _)⟩
theorem sn_par3 {i j l : Nat} {x y z : Str} {a c d : Expr} {as : Es} {px py pz pt p2 pos : Pos} {kt k2 : Nat} (A : Amb X b k) (hi : X.N[i]? = some x) (hj : X.N[j]? = some y) (hl : X.N[l]? = some z) (hij : i ≠ j) (hil : i ≠ l) (hjl : j ≠ l)
    (hx : X.env.scope.names.lookup x = some .local) (hy : X.env.scope.names.lookup y = some .local) (hz : X.env.scope.names.lookup z = some .local)
    (ha : PA X [a, c, d] (tAs b W (evPar as))) (hw : swappedStores [.Tuple [.Name x px, .Name y py, .Name z pz] kt pt] (.Tuple [a, c, d] k2 p2) X.env = pure (some [x, y, z])) :
    PS X (.Assign [.Tuple [.Name x px, .Name y py, .Name z pz] kt pt] (.Tuple [a, c, d] k2 p2) pos) (tS b W (exm (.par [i, j, l] as))) := by
  refine (ps_par3 A.calm A.nd hi hj hl hij hil hjl hx hy hz ha hw).weak fun D σ H ⟨RR, F, s, r, q⟩ => ?_
  obtain ⟨RR, F, s, r, q⟩ := par_go q r
  refine ⟨RR, F, s, r, q.imp fun xs s1 R1 F1 H1 p1 e1 r1 q1 vs hvs => ?_⟩
  obtain ⟨h1, h2⟩ := q1 vs hvs
  match vs, h1, h2 with
  | [u, v, w], _, h2 => exact ⟨u, v, w, rfl, h2 _ (Same.refl _)⟩

/-! ### for -/
theorem sn_for {t : T} {src : Src} {tg iter : Expr} {body : List Stmt} {p : Sms} {pos : Pos} (A : Amb X b k) (hp : PassesOwn (model X.prog X.w) X.A X.env X.xe) (hi : PI X tg iter (tSrc b W (evSrc src))) (hs : notSet iter = true) (hg : PG X tg (tT b t)) (hb : PSs X body (tS b W (exms p))) :
    PS X (.For tg iter body [] pos) (tS b W (exm (.fors t src p))) := by
  refine (ps_for hp A.calm hi hg hb (fun x => set_pure hs x)).weak fun D σ H ⟨RR, F, s, r, q⟩ => ?_
  simp only [exm] at q
  refine ⟨RR, F, s, r, q.of.imp fun L s1 R1 F1 H1 p1 e1 r1 q1 J hJ => ?_⟩
  have el : R1.length = s1.st.length := r1.stl.symm
  have h0 : b.R0.length ≤ s1.st.length := by rw [← el]; exact r1.pre.length_le
  have gcd : ∀ {R2 F2 s2 σ2 H2}, R1 <+: R2 → Rel b R2 F2 s2 σ2 H2 → Rel b R1 F2 (s2.gc s1.st.length) σ2 H2 := fun {R2 F2 s2 σ2 H2} p2 r2 => by
    have := r2.gc h0 (by rw [← el]; exact p2.length_le)
    rw [← el, take_pre p2, el] at this
    exact this
  let Pv : Nat → L2.St → Hp → Prop := fun i σ2 H2 => i ≤ L.length ∧ ∃ s2 F2, Same F1 F2 ∧ Rel b R1 F2 s2 σ2 H2 ∧ GoS b W R1 F2 D (forLoop (fun x s => T.asg t x s) (fun s => exms p s) s1.st.length (L.drop i) s2)
  refine ⟨fun i m σ2 H2 => m = L.length - i ∧ Pv i σ2 H2, ⟨_, rfl, Nat.zero_le _, s1, F1, Same.refl _, r1, q1⟩, ?_⟩
  rintro i m σ2 H2 ⟨rfl, hi, s2, F2, e2, r2, q2⟩
  obtain ⟨hJ1, hJ2⟩ := hJ R1 F2 H2 (List.prefix_refl _) e2 r2.fz
  by_cases hlt : i < L.length
  · obtain ⟨hgo, hyld⟩ := hJ1 i hlt
    refine .inr ⟨hgo, Pv (i + 1), fun σ' H' p' => ⟨L.length - (i + 1), by omega, rfl, p'⟩, fun x H' hy => ?_⟩
    obtain ⟨F3, d, hd, e3, h3, u3, rd⟩ := hyld x H' hy
    have hdrop : L.drop i = d :: L.drop (i + 1) := by
      obtain ⟨h4, h5⟩ := List.getElem?_eq_some_iff.mp hd
      rw [← h5]
      exact List.drop_eq_getElem_cons h4
    rw [hdrop, forLoop] at q2
    cases ha : T.asg t d s2 with
    | none => rw [ha] at q2; exact q2.elim
    | some t1 =>
      rw [ha] at q2
      simp only at q2
      have r3 := r2.upg e3 h3 u3
      refine ⟨R1, F3, s2, d, t1, r3, rd, ha, fun σ4 r4 _ _ => ⟨R1, F3, t1, r4, ?_⟩⟩
      have q3 := GoS.up q2 (List.prefix_refl _) e3
      cases eb : exms p t1 with
      | nx s5 =>
        rw [eb] at q3
        exact fun R5 F5 σ5 H5 p5 e5 r5 => ⟨hlt, _, F5, (e2.trans e3).trans e5, gcd p5 r5, GoS.up q3 (List.prefix_refl _) e5⟩
      | ct s5 =>
        rw [eb] at q3
        exact fun R5 F5 σ5 H5 p5 e5 r5 => ⟨hlt, _, F5, (e2.trans e3).trans e5, gcd p5 r5, GoS.up q3 (List.prefix_refl _) e5⟩
      | bk s5 =>
        rw [eb] at q3
        exact fun R5 F5 σ5 H5 p5 e5 r5 => q3 R1 F5 σ5 H5 (List.prefix_refl _) e5 (gcd p5 r5)
      | rt x s5 => rw [eb] at q3; exact q3
      | ex x s5 => rw [eb] at q3; exact q3
      | bad => rw [eb] at q3; exact q3
  · have ei : i = L.length := by omega
    subst ei
    refine .inl ⟨hJ2, ?_⟩
    rw [List.drop_length, forLoop] at q2
    exact q2.now r2

/-! ### values given to targets, one after the other -/
/-- the layer's targets for the little Python's -/
def gTs (b : Bs) (W : WX) : List Tg → TGs
  | [] => gNil
  | .nm i :: l => gCons (gName i) (gTs b W l)
  | .sub a c :: l => gCons (gSub (tE b W (ev a)) (tV b W fun s => (ev c s).val) fun o i v H Q => L2.rSetL o i v H Q ∨ L2.rSetD o i v H Q) (gTs b W l)
theorem putTs_go : ∀ (l : List Tg) (xs : List G4.D) (vs : List V) (s : S) (RR : List Addr) (F : Hp) (σ : L2.St) (H : Hp), Rel b RR F s σ H → Reps b.K b.g RR F xs vs → GoS b W RR F D (putTs l xs s) → gTs b W l vs σ H fun σ' H' => D.nx σ' H'
  | [], [], _, s, RR, F, σ, H, r, .nil, q => by
    rw [putTs] at q
    exact ⟨rfl, q.now r⟩
  | [], _ :: _, _, s, RR, F, σ, H, r, .cons _ _, q => by simp [putTs] at q; exact q.elim
  | .nm i :: l, [], _, s, RR, F, σ, H, r, .nil, q => by simp [putTs] at q; exact q.elim
  | .sub a c :: l, [], _, s, RR, F, σ, H, r, .nil, q => by simp [putTs] at q; exact q.elim
  | .nm i :: l, x :: xs, _, s, RR, F, σ, H, r, .cons (v := v) (vs := vs) hx hxs, q => by
    rw [putTs] at q
    exact ⟨v, vs, rfl, putTs_go l xs vs _ RR F (σ.set i (some v)) H (r.storeD hx) hxs q⟩
  | .sub a c :: l, x :: xs, _, s, RR, F, σ, H, r, .cons (v := v) (vs := vs) hx hxs, q => by
    rw [putTs] at q
    refine ⟨v, vs, rfl, RR, F, s, r, q.of.imp fun p s1 R1 F1 H1 p1 e1 r1 q1 w hw => ?_⟩
    split at q1
    · rename_i hl
      have hn := wr_of hl
      refine ⟨R1, F1, s1, r1, q1.of.imp fun z s2 R2 F2 H2 p2 e2 r2 q2 u hu => ?_⟩
      have hw2 := hw.up (s' := s2) (H' := H2) hn p2 e2
      cases h4 : s2.cell p with
      | none => rw [h4] at q2; exact q2.elim
      | some cc =>
        rw [h4, Option.bind_some] at q2
        cases h5 : setIx cc z x with
        | none => rw [h5] at q2; exact q2.elim
        | some c' =>
          rw [h5] at q2
          simp only at q2
          cases h6 : s2.put c' p with
          | none => rw [h6] at q2; exact q2.elim
          | some s' =>
            rw [h6] at q2
            exact setix_go (D := { D with nx := fun σ' H' => gTs b W l vs σ' H' fun σ'' H'' => D.nx σ'' H'' }) r2 hw2 hn hu ((hx.mono e1 p1).mono e2 p2) h4 h5 h6 fun H' r4 =>
              putTs_go l xs vs s' R2 F2 σ H' r4 (hxs.mono (e1.trans e2) (p1.trans p2)) q2
    · exact q1.elim
/-- targets of the text -/
def TgsOk (X : Cx) (b : Bs) (W : WX) : List Tg → List Expr → Prop
  | [], [] => True
  | .nm i :: l, .Name x _ :: es => X.N[i]? = some x ∧ L2.Loc X.env.scope x ∧ (X.fn x = true ∨ X.env.scope.names.lookup x = some .local) ∧ TgsOk X b W l es
  | .sub a c :: l, .Subscript o i _ :: es => PE X o (tE b W (ev a)) ∧ PE X i (tE b W (ev c)) ∧ notSlice i = true ∧ TgsOk X b W l es
  | _, _ => False
theorem tgs_all (A : Amb X b k) : ∀ (l : List Tg) (es : List Expr), TgsOk X b W l es → PGs X es (gTs b W l) ∧ es.all notStar = true ∧ l.length = es.length
  | [], [], _ => ⟨pgs_nil, rfl, rfl⟩
  | [], _ :: _, h => by simp [TgsOk] at h
  | .nm _ :: _, [], h => by simp [TgsOk] at h
  | .sub _ _ :: _, [], h => by simp [TgsOk] at h
  | .nm i :: l, e :: es, h => by
    cases e <;> simp only [TgsOk] at h
    obtain ⟨h1, h2, h3, h4⟩ := h
    obtain ⟨g1, g2, g3⟩ := tgs_all A l es h4
    exact ⟨pgs_cons (pg_name A.nd h1 h2 h3) g1 (by rfl), by rw [List.all_cons, g2]; rfl, by rw [List.length_cons, List.length_cons, g3]⟩
  | .sub a c :: l, e :: es, h => by
    cases e <;> simp only [TgsOk] at h
    rename_i o i p
    obtain ⟨h1, h2, h3, h4⟩ := h
    obtain ⟨g1, g2, g3⟩ := tgs_all A l es h4
    have hg := pg_sub (pos := p) h1 (snd_val h2) ((set_list (X := X)).or (set_dict (by have := A.hu; omega))) (by intro v; cases i <;> first | rfl | cases h3)
    exact ⟨pgs_cons hg g1 (by rfl), by rw [List.all_cons, g2]; rfl, by rw [List.length_cons, List.length_cons, g3]⟩
theorem sn_parT {l : List Tg} {ts es : List Expr} {as : Es} {kt k2 : Nat} {pt p2 pos : Pos} (A : Amb X b k) (hn : TgsOk X b W l ts) (ha : PA X es (tAs b W (evs as))) (hw : swappedStores [.Tuple ts kt pt] (.Tuple es k2 p2) X.env = pure none) (hl : l.length ≤ 1000) :
    PS X (.Assign [.Tuple ts kt pt] (.Tuple es k2 p2) pos) (tS b W (exm (.parT l as))) := by
  obtain ⟨g1, g2, g3⟩ := tgs_all A l ts hn
  refine (ps_asg (pe_tup ha) (pg_tup A.calm g1 (asg_len g2) (asg_find g2)) (by rfl) hw (by rfl)).weak fun D σ H ⟨RR, F, s, r, q⟩ => ?_
  simp only [exm] at q
  refine ⟨RR, F, s, r, q.of.imp fun xs s1 R1 F1 H1 p1 e1 r1 q1 vs hvs => ?_⟩
  split at q1
  · rename_i hx
    refine ⟨by rw [← hvs.len, hx]; exact len_ok hl, fun T hT => ?_⟩
    exact ⟨T, vs, rfl, .inl (.inl upd_same), by rw [← hvs.len, hx, g3], putTs_go l xs vs s1 R1 F1 σ _ (r1.same (same_new hT)) hvs q1⟩
  · exact q1.elim
/-- a, b = f(..): what was made by the call stands in the store, and goes to the names -/
theorem sn_unpO {l : List Nat} {ts : List Expr} {e : Expr} {a : E} {kt : Nat} {pt pos : Pos} (A : Amb X b k) (hn : NamesOk X l ts) (ha : PE X e (tE b W (ev a))) (hs : swapsWithSole [.Tuple ts kt pt] e pos.line X.env = pure false) (hw : swappedStores [.Tuple ts kt pt] e X.env = pure none) :
    PS X (.Assign [.Tuple ts kt pt] e pos) (tS b W (exm (.unpO l a))) := by
  obtain ⟨g1, g2, g3⟩ := names_all A.nd l ts hn
  refine (ps_asg (snd_val ha) (pg_tup A.calm g1 (asg_len g2) (asg_find g2)) hs hw (by rfl)).weak fun D σ H ⟨RR, F, s, r, q⟩ => ?_
  simp only [exm] at q
  refine ⟨RR, F, s, r, q.of0.imp fun x t R1 F1 H1 p1 e1 r1 q1 v hv => ?_⟩
  split at q1
  · rename_i xs
    split at q1
    · rename_i hc
      cases hv with
      | @tup _ ad vs hT hvs =>
        cases h1 : putPar s.st.length t.st l xs (t.gc s.st.length).sl with
        | none => rw [h1] at q1; exact q1.elim
        | some sl =>
          rw [h1] at q1
          have el : RR.length = s.st.length := r.stl.symm
          have hn' : s.st.length ≤ R1.length := by rw [← el]; exact p1.length_le
          have h0 : b.R0.length ≤ s.st.length := by rw [← el]; exact r.pre.length_le
          obtain ⟨k1, k2⟩ := par_ok r1 h0 hn' hvs hc.2 h1
          have eR : R1.take s.st.length = RR := by rw [← el]; exact take_pre p1
          rw [eR] at k1
          exact ⟨ad, vs, rfl, A.K ▸ r1.fz.seqT hT, by rw [k2, g3], k2, q1.now k1⟩
    · exact q1.elim
  · exact q1.elim
/-! ### o[i] op= e, ints of a list -/
theorem get_listN : PGet X (fun o i H Q => ∃ (p : Addr) (xs : List V) (j : Int) (z : V), o = .ref p ∧ i = .int j ∧ H p = some (.lst xs) ∧ 0 ≤ j ∧ xs[j.toNat]? = some z ∧ Q z H) := by
  intro pins s σ H o i ov iv Q I r1 r2 ⟨p, xs, j, z, e1, e2, hp, h0, hz, q⟩
  subst e1; subst e2
  cases r1
  obtain ⟨t, rfl⟩ := r2
  obtain ⟨its, r, pl, hsz⟩ := I.list (.inl (.inl hp))
  obtain ⟨u, hu, ru⟩ := r.get hz
  have hl := r.length
  have hn := line63
  have hj := (List.getElem?_eq_some_iff.mp hz).1
  exact wpAny_getItem_list pl.isList h0 (by omega) (by simpa using hu) ⟨z, H, I, ru, q⟩
theorem sn_augs {x j v : Expr} {a c e : E} {o : Operator} {tpos pos : Pos} (A : Amb X b k) (hx : PE X x (tE b W (ev a))) (hj : PE X j (tE b W (ev c))) (hp : notSlice j = true) (hv : PE X v (tE b W (ev e))) :
    PS X (.AugAssign (.Subscript x j tpos) o v pos) (tS b W (exm (.augs a c o e))) := by
  refine (ps_augS hx (snd_val hj) get_listN (snd_opd hv) (show PIp X o (rIp o) from ok_ip o) ((set_list (X := X)).or (set_dict (by have := A.hu; omega))) (by intro ov iv new; cases j <;> first | rfl | cases hp)).weak fun D σ H ⟨RR, F, s, r, q⟩ => ?_
  simp only [exm] at q
  refine ⟨RR, F, s, r, q.of.imp fun y s1 R1 F1 H1 p1 e1 r1 q1 w hw => ?_⟩
  split at q1
  · rename_i hl
    have hn := wr_of (s := s1) (x := y) (by rw [hl]; rfl)
    refine ⟨R1, F1, s1, r1, q1.of.imp fun z s2 R2 F2 H2 p2 e2 r2 q2 u hu => ?_⟩
    have hw2 := hw.up (s' := s2) (H' := H2) hn p2 e2
    split at q2
    · rename_i l jj hc
      split at q2
      · rename_i h0
        split at q2
        · rename_i m hm
          cases hu
          obtain ⟨ad, rfl, hca, _⟩ := cell_of r2 hw2 hn hc
          cases hca with
          | @lst _ vs hH hk =>
            obtain ⟨vv, hvv, hrep⟩ := hk.get hm
            cases hrep
            refine ⟨ad, vs, jj, .int m, rfl, rfl, hH, h0, hvv, R2, F2, s2, r2, q2.of.imp fun y3 s3 R3 F3 H3 p3 e3 r3 q3 u3 hu3 => ?_⟩
            have hw3 := hw2.up (s' := s3) (H' := H3) hn p3 e3
            split at q3
            · rename_i n hnn
              split at q3
              · exact q3.elim
              · rename_i ho
                split at q3
                · rename_i zz hzz
                  have : u3 = .int n := by
                    cases vw_of r3 hu3 hnn
                    rfl
                  subst this
                  refine ⟨m, n, zz, rfl, rfl, ho, hzz, ?_⟩
                  cases h4 : s3.cell y with
                  | none => rw [h4] at q3; exact q3.elim
                  | some cc =>
                    rw [h4, Option.bind_some] at q3
                    cases h5 : setIx cc (.int jj) (.int zz) with
                    | none => rw [h5] at q3; exact q3.elim
                    | some c' =>
                      rw [h5] at q3
                      simp only at q3
                      obtain ⟨s', h6, q4⟩ := q3.opt
                      exact setix_go r3 hw3 hn (.int jj) (.int zz) h4 h5 h6 fun H' r4 => q4.now r4
                · exact q3.elim
            · exact q3.elim
        · exact q2.elim
      · exact q2.elim
    · exact q2.elim
  · exact q1.elim
/-! ### name op= e; while -/
theorem sn_aug {i : Nat} {o : Operator} {x : Str} {e : Expr} {a : E} {pos p : Pos} (hN : X.N.Nodup) (hi : X.N[i]? = some x) (hx : L2.Loc X.env.scope x) (hf : X.fn x = true ∨ X.env.scope.names.lookup x = some .local) (ha : PE X e (tE b W (ev a))) :
    PS X (.AugAssign (.Name x p) o e pos) (tS b W (exm (.aug i o a))) := by
  refine (ps_aug hN hi hx (snd_opd ha) (show PIp X o (rIp o) from ok_ip o) hf).weak fun D σ H ⟨RR, F, s, r, q⟩ => ?_
  simp only [exm] at q
  split at q
  · rename_i m hm
    obtain ⟨v, h1, h2⟩ := r.sd i _ hm
    cases h2
    refine ⟨.int m, h1, RR, F, s, r, q.of.imp fun y s1 R1 F1 H1 p1 e1 r1 q1 u hu => ?_⟩
    unfold augV at q1
    split at q1
    · rename_i n hn
      split at q1
      · exact q1.elim
      · rename_i ho
        split at q1
        · rename_i z hz
          have : u = .int n := by
            cases vw_of r1 hu hn
            rfl
          subst this
          exact ⟨m, n, z, rfl, rfl, ho, hz, q1.now (r1.storeD (.int z))⟩
        · exact q1.elim
    · exact q1.elim
  · exact q.elim
theorem sn_whl {n : Nat} {c : Expr} {x : E} {body : List Stmt} {p : Sms} {pos : Pos} (hp : PassesOwn (model X.prog X.w) X.A X.env X.xe) (hc : PT X c (tB' b W (evT x))) (hb : PSs X body (tS b W (exms p))) : PS X (.While c body [] pos) (tS b W (exm (.whl n x p))) := by
  refine (ps_while hp hc hb).weak fun D σ H ⟨RR, F, s, r, q⟩ => ?_
  simp only [exm] at q
  have el : RR.length = s.st.length := r.stl.symm
  have h0 : b.R0.length ≤ s.st.length := by rw [← el]; exact r.pre.length_le
  have gcd : ∀ {R2 F2 s2 σ2 H2}, RR <+: R2 → Rel b R2 F2 s2 σ2 H2 → Rel b RR F2 (s2.gc s.st.length) σ2 H2 := fun {R2 F2 s2 σ2 H2} p2 r2 => by
    have := r2.gc h0 (by rw [← el]; exact p2.length_le)
    rw [← el, take_pre p2, el] at this
    exact this
  let Wf : Nat → L2.St → Hp → Prop := fun m σ2 H2 => ∃ s2 F2, Same F F2 ∧ Rel b RR F2 s2 σ2 H2 ∧ GoS b W RR F2 D (whLoop (fun s => evT x s) (fun s => exms p s) s.st.length m s2)
  refine ⟨Wf, ⟨n, s, F, Same.refl _, r, q⟩, ?_⟩
  rintro m σ2 H2 ⟨s2, F2, e2, r2, q2⟩
  cases m with
  | zero => rw [whLoop] at q2; exact q2.elim
  | succ m =>
    rw [whLoop] at q2
    refine ⟨RR, F2, s2, r2, q2.of0.imp fun y s3 R3 F3 H3 p3 e3 r3 q3 => ?_⟩
    cases y with
    | false =>
      rw [if_neg Bool.false_ne_true] at q3 ⊢
      exact q3 R3 F3 σ2 H3 p3 (Same.refl _) r3
    | true =>
      rw [if_pos rfl] at q3 ⊢
      refine ⟨fun σ' H' => Wf m σ' H', fun σ' H' h => ⟨m, Nat.lt_succ_self m, h⟩, R3, F3, s3, r3, ?_⟩
      cases eb : exms p s3 with
      | nx s5 =>
        rw [eb] at q3
        exact fun R5 F5 σ5 H5 p5 e5 r5 => ⟨_, F5, (e2.trans e3).trans e5, gcd (p3.trans p5) r5, GoS.up q3 (List.prefix_refl _) e5⟩
      | ct s5 =>
        rw [eb] at q3
        exact fun R5 F5 σ5 H5 p5 e5 r5 => ⟨_, F5, (e2.trans e3).trans e5, gcd (p3.trans p5) r5, GoS.up q3 (List.prefix_refl _) e5⟩
      | bk s5 =>
        rw [eb] at q3
        exact fun R5 F5 σ5 H5 p5 e5 r5 => q3 RR F5 σ5 H5 (List.prefix_refl _) e5 (gcd (p3.trans p5) r5)
      | rt z s5 => rw [eb] at q3; exact GoS.up q3 p3 (Same.refl _)
      | ex z s5 => rw [eb] at q3; exact GoS.up q3 p3 (Same.refl _)
      | bad => rw [eb] at q3; exact q3

/-! ### raise -/
/-- an exception class of the text -/
def XK (K : PySem.W.Frag) (mg : Str → Option Value) (g : Str → Option Addr) (x : Str) : Prop := ∃ C B newId initId bmB, ExcBaseFacts B newId initId bmB ∧ PySem.W.excIn K C bmB newId = true ∧ mg x = some (.ref C) ∧ PySem.W.keepIn K (.ref C) = true ∧
  PySem.W.subIn K (.ref C) (.type "BaseException") = some true ∧ PySem.W.typeIn K (.ref C) = some (.type "type") ∧ g x = some C
theorem sn_rais {x m : Str} {j : Nat} {p p2 p3 pos : Pos} (A : Amb X b k) (tk : Takes X W) (hk : XK X.K X.mg b.g x) (hg : Gl X x) (hdb : (x == ("__debug__" : Str)) = false) :
    PS X (.Raise (some (.Call (.Name x p) [.Constant (.str m) j p2] [] p3)) none pos) (tS b W (exm (.rais x m))) := by
  obtain ⟨C, B, newId, initId, bmB, h1, h2, h3, h4, h5, h6, h7⟩ := hk
  refine (ps_raise A.calm tk (pmk_own h1 h2 h3 h4 (raises_own h5 h6) hg hdb)).weak fun D σ H ⟨RR, F, s, r, q⟩ => ?_
  simp only [exm] at q
  exact q (.ref C) none RR F σ H (List.prefix_refl _) (Same.refl _) r ⟨C, h7, rfl, .inl ⟨rfl, rfl⟩⟩
/-! ### name = [..] -/
theorem sn_setLc {own : List (Str × Nat)} {e' : E} {i : Nat} {y : Str} {py pos spos : Pos} {elt tg iter : Expr} {ifs : List Expr} {scope : Scope} {wi gg tt te} (A : Amb X b k) (hy : X.N[i]? = some y) (hyl : X.env.scope.names.lookup y = some .local)
    (hsw : swapsWith (.ListComp elt [⟨tg, iter, ifs, 0⟩] scope pos) (some (.Name y py)) spos.line X.env = pure true) (hi : PI X tg iter wi) (ok : BlkOk X.N X.env.scope scope own)
    (hg : ∀ (s : Shared) (H : Hp) (C : Addr) (cl : List (Str × Addr)) (fp : List Addr), PG (X.blk s H scope (compEnvC scope cl C X.env) fp) tg gg) (ht : ∀ (s : Shared) (H : Hp) (C : Addr) (cl : List (Str × Addr)) (fp : List Addr), PTs (X.blk s H scope (compEnvC scope cl C X.env) fp) ifs tt)
    (he : ∀ (s : Shared) (H : Hp) (C : Addr) (cl : List (Str × Addr)) (fp : List Addr), PE (X.blk s H scope (compEnvC scope cl C X.env) fp) elt te) (hs : notSet iter = true)
    (hq : ∀ σ H Q, tE b W (ev e') σ H Q → tLc wi gg tt te (own.map (·.2)) σ H Q) :
    PS X (.Assign [.Name y py] (.ListComp elt [⟨tg, iter, ifs, 0⟩] scope pos) spos) (tS b W (exm (.set i e'))) := by
  refine (ps_setLc A.calm A.nd hy hyl hsw hi ok hg ht he (fun x => set_pure hs x)).weak fun D σ H ⟨RR, F, s, r, q⟩ => ?_
  refine hq _ _ _ ?_
  simp only [exm] at q
  exact ⟨RR, F, s, r, q.of.imp fun x s1 R1 F1 H1 p1 e1 r1 q1 v hv => store_go r1 hv q1⟩
end
end G4

namespace G4
open PySem PySem.Spec PyProof.Rows L2

/-! ### try -/
section
variable {X : Cx} {b : Bs} {W W' : WX} {k : Nat} {σ : L2.St} {RR RR' : List Addr} {F F' H H' : Hp} {s : S} {Dn : Ends}
theorem Amb.tr (A : Amb X b k) (pn : List (Addr × Obj)) (xe : Value → Shared → Prop) : Amb (X.tr pn xe) b k := ⟨A.K, A.nd, A.calm, A.room, A.gd⟩
/-- a class that is caught by its own name -/
def XC (K : PySem.W.Frag) (mg : Str → Option Value) (g : Str → Option Addr) (x : Str) : Prop := ∃ C, mg x = some (.ref C) ∧ g x = some C ∧ PySem.W.exmOne K (.ref C) (.ref C) = some true
/-- .. whose instances' fields are read -/
def XD (K : PySem.W.Frag) (g : Str → Option Addr) (x : Str) (f : Str) : Prop := ∃ C, g x = some C ∧ XfC K C ∧ PySem.W.findIn K (.ref C) f = some none
theorem GoS.try0 {c : Str} {h : Hd} {o : OS} (q : GoS b W RR F Dn (o.tryB c h)) (k : ∀ e s, e.c = c → GoS b W RR F Dn (hdS h e s) → GoS b W' RR F Dn (.ex e s)) : GoS b W' RR F Dn o := by
  cases o with
  | ex e s =>
    simp only [OS.tryB] at q
    split at q
    · rename_i hc
      exact k e s hc q
    · exact q.elim
  | nx s => exact q
  | bk s => exact q
  | ct s => exact q
  | rt x s => exact q
  | bad => exact q
theorem sn_tryB {x y : Str} {i j : Nat} {v : Bool} {m : Sms} {body : List Stmt} {np yp vp ap hp pos : Pos} (A : Amb X b k) (hs : X.stack = X.env :: X.outer) (hf : X.env.frame = some X.env.locals) (tk : Takes X W)
    (hx : XC X.K X.mg b.g x) (hg : Gl X x) (hdb : (x == ("__debug__" : Str)) = false) (hy : X.N[i]? = some y) (hyl : Loc X.env.scope y) (hfn : X.fn y = true ∨ X.env.scope.names.lookup y = some .local)
    (hb : ∀ (W : WX) (pn : List (Addr × Obj)) (xe : Value → Shared → Prop), Takes (X.tr pn xe) W → PassesOwn (model X.prog X.w) X.A X.env xe → PSs (X.tr pn xe) body (tS b W (exms m))) :
    PS X (.Try body [.ExceptHandler (some (.Name x np)) none [.Assign [.Name y yp] (.Constant (.bool v) j vp) ap] hp] [] [] pos) (tS b W (exm (.tryc m x (.setB i v)))) := by
  obtain ⟨C, h1, h2, h3⟩ := hx
  refine (ps_try_only (tb := fun W' => tS b W' (exms m)) (ts := fun _ _ _ => tSeq (tAsg (tC (.bl v)) (gName i)) tNext) hs hf ⟨hg, hdb, .inl h1⟩ tk hb
    (fun a oe cls d pn hz hvs => pss_cons (ps_set A.nd hy hyl pe_bl (by rfl) hfn) pss_nil)).weak fun D σ H ⟨RR, F, s, r, q⟩ => ⟨RR, F, s, r, ?_⟩
  simp only [exm] at q
  refine GoS.try0 q fun e s' hc q2 => fun cls d R2 F2 σ2 H2 p2 e2 r2 xr => ?_
  obtain ⟨C', c1, rfl, _⟩ := xr
  have : C' = C := by rw [hc, h2] at c1; exact (Option.some.inj c1).symm
  subst this
  exact ⟨true, h3, fun _ a na => q2 R2 F2 _ H2 p2 e2 (r2.storeD (.bl v)), fun z => by cases z⟩
theorem toV_rep {x : D} {v : V} (h : x.toV = some v) : Rep b.K b.g RR F x v := by
  cases x <;> simp only [D.toV, Option.some.injEq, reduceCtorEq] at h <;> subst h
  · exact .non
  · exact .bl _
  · exact .int _
  · exact .str _
theorem Rel.tup2 (r : Rel b RR F s σ H) {x y : D} {v u : V} (hx : x.toV = some v) (hy : y.toV = some u) {p : Addr} (hp : H p = none) :
    ∃ F', Same F F' ∧ Rel b RR F' s σ (upd H p (.tup [v, u])) ∧ Rep b.K b.g RR F' (.tup [x, y]) (.ref p) := by
  have r1 := r.same (same_new (o := .tup [v, u]) hp)
  have l1 : Lone b RR F s σ p := r.lone hp
  obtain ⟨r2, e2⟩ := r1.frz l1 upd_same
  exact ⟨_, e2, r2, .tup (.inl (.inl upd_same)) (.cons (toV_rep hx) (.cons (toV_rep hy) .nil))⟩
theorem Rel.gone (r : Rel b RR F s σ H) {j : Nat} (z : Option V) : Rel b RR F ⟨s.sl.set j .un, s.st⟩ (σ.set j z) H :=
  r.un (by rw [List.length_set, List.length_set]; exact r.len) fun i x hi hx => by
    rcases set_cases hi with ⟨_, h, _⟩ | ⟨h1, h2⟩
    · exact absurd h hx
    · exact ⟨h2, List.getElem?_set_ne (Ne.symm h1)⟩
theorem sn_tryS {x y n f g : Str} {i j jt : Nat} {m : Sms} {body : List Stmt} {np yp ep fp ep2 gp tp ap hp pos : Pos} (A : Amb X b k) (hs : X.stack = X.env :: X.outer) (hf : X.env.frame = some X.env.locals) (tk : Takes X W)
    (hx : XC X.K X.mg b.g x) (hxf : XD X.K b.g x f) (hxg : XD X.K b.g x g) (hg : Gl X x) (hdb : (x == ("__debug__" : Str)) = false) (hy : X.N[i]? = some y) (hyl : Loc X.env.scope y) (hfn : X.fn y = true ∨ X.env.scope.names.lookup y = some .local)
    (hn : X.N[j]? = some n) (hln : X.env.kindOf n = some .local) (hv : Vis X.env.scope n) (hnd : (n == ("__debug__" : Str)) = false) (hnc : (n == ("__classdict__" : Str)) = false)
    (hb : ∀ (W : WX) (pn : List (Addr × Obj)) (xe : Value → Shared → Prop), Takes (X.tr pn xe) W → PassesOwn (model X.prog X.w) X.A X.env xe → PSs (X.tr pn xe) body (tS b W (exms m))) :
    PS X (.Try body [.ExceptHandler (some (.Name x np)) (some n) [.Assign [.Name y yp] (.Tuple [.Attribute (.Name n ep) f fp, .Attribute (.Name n ep2) g gp] jt tp) ap] hp] [] [] pos) (tS b W (exm (.tryc m x (.setT j i f g)))) := by
  obtain ⟨C, h1, h2, h3⟩ := hx
  obtain ⟨C1, k1, k2, k3⟩ := hxf
  obtain ⟨C2, l1, l2, l3⟩ := hxg
  obtain rfl : C1 = C := by rw [h2] at k1; exact (Option.some.inj k1).symm
  obtain rfl : C2 = C1 := by rw [h2] at l1; exact (Option.some.inj l1).symm
  refine (ps_try_as (tb := fun W' => tS b W' (exms m)) (ts := fun a cls d => tSeq (tAsg (tTup (tCons (tXf a cls d C2 f (tVar j)) (tCons (tXf a cls d C2 g (tVar j)) tNil))) (gName i)) tNext) hs hf A.nd hn hln ⟨hg, hdb, .inl h1⟩ tk hb
    (fun a oe cls d pn hz hvs => pss_cons (ps_set A.nd hy hyl (pe_tup (pa_cons (pe_xf k2 k3 hz hvs (pe_var hn hv hnd hnc)) (pa_cons (pe_xf l2 l3 hz hvs (pe_var hn hv hnd hnc)) pa_nil))) (by rfl) hfn) pss_nil)).weak fun D σ H ⟨RR, F, s, r, q⟩ => ⟨RR, F, s, r, ?_⟩
  simp only [exm] at q
  refine GoS.try0 q fun e s' hc q2 => fun cls d R2 F2 σ2 H2 p2 e2 r2 xr => ?_
  obtain ⟨C', c1, rfl, c2⟩ := xr
  obtain rfl : C' = C2 := by rw [hc, h2] at c1; exact (Option.some.inj c1).symm
  refine ⟨true, h3, fun _ a na => ?_, fun z => by cases z⟩
  simp only [hdS] at q2
  split at q2
  · rename_i x1 x2 g0 g1 g2
    rcases c2 with ⟨c3, _⟩ | ⟨dd, ws, rfl, c4, c5⟩
    · rw [c3] at g1; cases g1
    · obtain ⟨v1, t1, w1⟩ := c5 _ _ g1
      obtain ⟨v2, t2, w2⟩ := c5 _ _ g2
      have hj : j < σ2.length := by rw [← r2.len]; exact (List.getElem?_eq_some_iff.mp g0).1
      have gj : (σ2.set j (some (V.ref a)))[j]? = some (some (.ref a)) := by rw [List.getElem?_set_self hj]
      refine ⟨_, gj, rfl, rfl, dd, ws, v1, rfl, c4, w1, _, gj, rfl, rfl, dd, ws, v2, rfl, c4, w2, ⟨by show 2 ≤ sizeLine; rw [sizeLine_eq]; decide, fun p hp => ?_⟩⟩
      obtain ⟨F3, e3, r3, r4⟩ := (r2.gone (j := j) (some (V.ref a))).tup2 t1 t2 hp
      exact q2 R2 F3 _ _ p2 (e2.trans e3) ((r3.storeD (i := i) r4).gone (j := j) none)
  · exact q2.elim
theorem sn_tryR {x n f g : Str} {j jt : Nat} {m : Sms} {body : List Stmt} {np ep fp ep2 gp tp ap hp pos : Pos} (A : Amb X b k) (hs : X.stack = X.env :: X.outer) (hf : X.env.frame = some X.env.locals) (tk : Takes X W)
    (hx : XC X.K X.mg b.g x) (hxf : XD X.K b.g x f) (hxg : XD X.K b.g x g) (hg : Gl X x) (hdb : (x == ("__debug__" : Str)) = false)
    (hn : X.N[j]? = some n) (hln : X.env.kindOf n = some .local) (hv : Vis X.env.scope n) (hnd : (n == ("__debug__" : Str)) = false) (hnc : (n == ("__classdict__" : Str)) = false)
    (hb : ∀ (W : WX) (pn : List (Addr × Obj)) (xe : Value → Shared → Prop), Takes (X.tr pn xe) W → PassesOwn (model X.prog X.w) X.A X.env xe → PSs (X.tr pn xe) body (tS b W (exms m))) :
    PS X (.Try body [.ExceptHandler (some (.Name x np)) (some n) [.Return (some (.Tuple [.Attribute (.Name n ep) f fp, .Attribute (.Name n ep2) g gp] jt tp)) ap] hp] [] [] pos) (tS b W (exm (.tryc m x (.retT j f g)))) := by
  obtain ⟨C, h1, h2, h3⟩ := hx
  obtain ⟨C1, k1, k2, k3⟩ := hxf
  obtain ⟨C2, l1, l2, l3⟩ := hxg
  obtain rfl : C1 = C := by rw [h2] at k1; exact (Option.some.inj k1).symm
  obtain rfl : C2 = C1 := by rw [h2] at l1; exact (Option.some.inj l1).symm
  refine (ps_try_as (tb := fun W' => tS b W' (exms m)) (ts := fun a cls d => tSeq (fun D σ H => tTup (tCons (tXf a cls d C2 f (tVar j)) (tCons (tXf a cls d C2 g (tVar j)) tNil)) σ H D.rt) tNext) hs hf A.nd hn hln ⟨hg, hdb, .inl h1⟩ tk hb
    (fun a oe cls d pn hz hvs => pss_cons (ps_ret (pe_tup (pa_cons (pe_xf k2 k3 hz hvs (pe_var hn hv hnd hnc)) (pa_cons (pe_xf l2 l3 hz hvs (pe_var hn hv hnd hnc)) pa_nil)))) pss_nil)).weak fun D σ H ⟨RR, F, s, r, q⟩ => ⟨RR, F, s, r, ?_⟩
  simp only [exm] at q
  refine GoS.try0 q fun e s' hc q2 => fun cls d R2 F2 σ2 H2 p2 e2 r2 xr => ?_
  obtain ⟨C', c1, rfl, c2⟩ := xr
  obtain rfl : C' = C2 := by rw [hc, h2] at c1; exact (Option.some.inj c1).symm
  refine ⟨true, h3, fun _ a na => ?_, fun z => by cases z⟩
  simp only [hdS] at q2
  split at q2
  · rename_i x1 x2 g0 g1 g2
    rcases c2 with ⟨c3, _⟩ | ⟨dd, ws, rfl, c4, c5⟩
    · rw [c3] at g1; cases g1
    · obtain ⟨v1, t1, w1⟩ := c5 _ _ g1
      obtain ⟨v2, t2, w2⟩ := c5 _ _ g2
      have hj : j < σ2.length := by rw [← r2.len]; exact (List.getElem?_eq_some_iff.mp g0).1
      have gj : (σ2.set j (some (V.ref a)))[j]? = some (some (.ref a)) := by rw [List.getElem?_set_self hj]
      refine ⟨_, gj, rfl, rfl, dd, ws, v1, rfl, c4, w1, _, gj, rfl, rfl, dd, ws, v2, rfl, c4, w2, ⟨by show 2 ≤ sizeLine; rw [sizeLine_eq]; decide, fun p hp => ?_⟩⟩
      obtain ⟨F3, e3, r3, r4⟩ := (r2.gone (j := j) (some (V.ref a))).tup2 t1 t2 hp
      exact q2 R2 F3 _ _ _ p2 (e2.trans e3) r3 r4
  · exact q2.elim
end
end G4

namespace G4
open PySem PySem.Spec PyProof.Rows L2

/-! ### raise C(a, b): a class with an __init__ of its own that keeps two fields -/
section
variable {X : Cx} {o e : Expr} {es : List Expr} {to te : TE} {ta : TA} {p p' p1 p2 pos : Pos}
/-- B.__init__(self, ..), B a class of the text that takes ValueError's -/
theorem pe_binit {x : Str} {B : Addr} {pl : Sem Bool} (hg : Gl X x) (hm : X.mg x = some (.ref B)) (hdb : (x == ("__debug__" : Str)) = false) (hr : PySem.W.readsIn X.K B (.type "type") = true) (hf : PySem.W.findCls X.K (.ref B) (.type "type") "__init__" = some (.val (.builtin "ValueError.__init__")))
    (hs : PySem.W.specialIn X.K (.ref B) "__getattribute__" = some (some (.builtin "type.__getattribute__"))) (ha : PA X (e :: es) ta)
    (hc : eval (.Call (.Attribute (.Name x p1) "__init__" p2) (e :: es) [] pos) X.env = (do
      let ov ← eval (.Name x p1) X.env
      standAt p2.atName
      let (f, first) ← holding [ov] (getMethod ov "__init__" pl)
      callWith pos f first (backTo pos (starEach (e :: es) X.env)) (backToKw pos (keywordEach [] X.env))) := by rfl)
    (he : starEach (e :: es) X.env = (false, eval e X.env) :: starEach es X.env := by rfl) (hpl : (backTo pos (starEach es X.env)).any (·.1) = false := by rfl) :
    PE X (.Call (.Attribute (.Name x p1) "__init__" p2) (e :: es) [] pos) (tVeI X.K ta) := by
  refine ⟨fun pins s σ H Q I h => ?_⟩
  refine PySem.W.methodCall_KW (ld_glob I hg hm ?_ hdb) hc
  refine PySem.W.method_cls I.kIn hs (PySem.W.cls_value I.kIn hr hf (by decide +kernel) ?_)
  show wpAny _ _ (callWith pos (Value.builtin "ValueError.__init__") [] (backTo pos (starEach (e :: es) X.env)) []) _ _ _
  refine PyProof.Rows.callWith_method1 (thn (ha.run pos pins _ σ H _ (I.tok _) h) fun us s1 ⟨vs, H1, I1, r1, a, C, ws, ev, hl, T, ea, q⟩ => ?_) he hpl
  subst ev
  cases r1 with
  | @cons _ u0 _ ur ra rw' =>
    obtain rfl : u0 = Value.ref a := ra
    have hlen : ur.length ≤ sizeLine := by
      rw [← Paired.length rw', sizeLine_eq]
      omega
    exact oinit_ok T I1 ea hlen fun s' J => ⟨.non, H1, J, rfl, q⟩
end
theorem hc_name {env : Env} {x nm : Str} {p1 p2 p5 : Pos} {es : List Expr} (hp : (p2.endLine == p5.line) = true) (hf : methodCallForm (es.length + 0) (backTo p5 (starEach es env)) (backToKw p5 (keywordEach [] env)) = true) : eval (.Call (.Attribute (.Name x p1) nm p2) es [] p5) env = (do
      let ov ← eval (.Name x p1) env
      standAt p2.atName
      let (f, first) ← holding [ov] (getMethod ov nm (do return (← importBound (.Name x p1) env).getD true))
      callWith p5 f first (backTo p5 (starEach es env)) (backToKw p5 (keywordEach [] env))) := by
  have e : eval (.Call (.Attribute (.Name x p1) nm p2) es [] p5) env = (do
    let ov ← attributeBase (.Name x p1) nm env (eval (.Name x p1) env)
    standAt p2.atName
    methodCall (.Name x p1) nm p2 p5 env ov (es.length + 0) (backTo p5 (starEach es env)) (backToKw p5 (keywordEach [] env))) := by
    rw [eval]; rfl
  rw [e]
  unfold methodCall methodCallPos calleeOf
  simp only [hf, hp, Bool.or_true, if_true, pure_bind]
  rfl
/-- what that __init__ does -/
def spI (C : Addr) (f g : Str) : Sp := fun vs H Q _ => ∃ (a : Addr) (v u : V), vs = [.ref a, v, u] ∧ H a = some (exo a C none) ∧
  ∀ dx, H dx = none → dx ≠ a → Q .non (upd (upd (upd H dx (exd dx [(f, v)])) a (exo a C (some dx))) dx (exd dx [(g, u), (f, v)]))
section
variable {P : Program} {w : World} {K : PySem.W.Frag} {mg : Str → Option Value} {base : Heap}
theorem init2_ok {f g N1 N2 m qual : Str} {B C fI : Addr} {fd : FuncData} {st : Stmt} {j : Nat} {p1 p2 p3 p4 p5 p6 p7 p8 p9 q1 q2 q3 q4 q5 : Pos} (D : Fun K "__init__" qual st fI fd) (S : FnScope ["self", N1, N2] ["self", N1, N2] (defScope st))
    (hbody : defBody st = [.Expr (.Call (.Attribute (.Name "ClubError" p1) "__init__" p2) [.Name "self" p3, .Constant (.str m) j p4] [] p5) p6, .Assign [.Attribute (.Name "self" p7) f p8] (.Name N1 p9) q1, .Assign [.Attribute (.Name "self" q2) g q3] (.Name N2 q4) q5])
    (l0 : (defScope st).names.lookup ("self" : Str) = some .local) (l1 : (defScope st).names.lookup N1 = some .local) (l2 : (defScope st).names.lookup N2 = some .local) (lg : (defScope st).names.lookup ("ClubError" : Str) = some .globalImplicit)
    (n1 : (N1 == ("__debug__" : Str)) = false) (n2 : (N2 == ("__debug__" : Str)) = false) (n3 : (N1 == ("__classdict__" : Str)) = false) (n4 : (N2 == ("__classdict__" : Str)) = false)
    (hpos : (p2.endLine == p5.line) = true) (hm : mg "ClubError" = some (.ref B)) (hr : PySem.W.readsIn K B (.type "type") = true) (hf : PySem.W.findCls K (.ref B) (.type "type") "__init__" = some (.val (.builtin "ValueError.__init__")))
    (hs : PySem.W.specialIn K (.ref B) "__getattribute__" = some (some (.builtin "type.__getattribute__"))) (T : OexC K C) (hf1 : PySem.W.findIn K (.ref C) f = some none) (hf2 : PySem.W.findIn K (.ref C) g = some none) :
    FnOk P w K mg base (L2.CX P w) 1 fI fd ["self", N1, N2] (spI C f g) := by
  obtain ⟨oc, od, kV, doc, pm, an, cdv, ct, osl, rfl, lk, hcd⟩ := D.ex
  refine fn_of lk hcd S (fun vs H Q E ⟨a, v, u, e, _⟩ => by rw [e]; rfl) fun A outer s H vs Q E hr' ⟨a, v, u, e, ha, hq⟩ => ?_
  subst e
  rw [hbody]
  have v0 : ∀ pos, PE (cxOf (L2.CX P w) P w K mg base ["self", N1, N2] qual (defScope st) fI cdv A outer s H E) (.Name "self" pos) (tVar 0) := fun pos => pe_var rfl (.inl l0) (by decide) (by decide)
  have v1 : ∀ pos, PE (cxOf (L2.CX P w) P w K mg base ["self", N1, N2] qual (defScope st) fI cdv A outer s H E) (.Name N1 pos) (tVar 1) := fun pos => pe_var rfl (.inl l1) n1 n3
  have v2 : ∀ pos, PE (cxOf (L2.CX P w) P w K mg base ["self", N1, N2] qual (defScope st) fI cdv A outer s H E) (.Name N2 pos) (tVar 2) := fun pos => pe_var rfl (.inl l2) n2 n4
  refine ⟨_, pss_cons (ps_expr (pe_binit lg hm (by decide) hr hf hs (pa_cons (v0 _) (pa_cons pe_str pa_nil)) (hc_name hpos rfl))) (pss_cons (ps_ost (v0 _) (v1 _)) (pss_cons (ps_ost (v0 _) (v2 _)) pss_nil)), ?_⟩
  refine ⟨.ref a, rfl, a, C, [.str m], rfl, by show 1 ≤ 1000; decide, T, ha, ?_⟩
  refine ⟨v, rfl, .ref a, rfl, a, C, rfl, T, hf1, .inl ⟨ha, fun dx h1 h2 => ?_⟩⟩
  refine ⟨u, rfl, .ref a, rfl, a, C, rfl, T, hf2, .inr ⟨dx, [(f, v)], ?_, ?_, by show 1 ≤ 900; decide, hq dx h1 h2⟩⟩
  · rw [upd_same]
  · rw [upd_ne h2, upd_same]
end
/-- a class with such an __init__ -/
def XO (P : Program) (w : World) (K : PySem.W.Frag) (mg : Str → Option Value) (base : Heap) (gg : Str → Option Addr) (k : Nat) (x f g : Str) : Prop := ∃ (C fI : Addr) (fd : FuncData) (ps : List Str), mg x = some (.ref C) ∧ gg x = some C ∧ OexC K C ∧
  PySem.W.findIn K (.ref C) "__init__" = some (some (.ref fI)) ∧ PySem.W.typeIn K (.ref fI) = some (.type "function") ∧ FnOk P w K mg base (L2.CX P w) 1 fI fd ps (spI C f g) ∧ Binds K fd ps [] ∧ f ≠ g ∧ 2 ≤ k
theorem flat_toV {b : Bs} {RR : List Addr} {F : Hp} {x : D} {v : V} (h : Rep b.K b.g RR F x v) (hf : x.flat = true) : x.toV = some v := by
  cases h <;> first | rfl | (simp only [D.flat, Bool.false_eq_true] at hf)
section
variable {X : Cx} {b : Bs} {W : WX} {k : Nat}
theorem sn_raisO {x f g : Str} {e1 e2 : Expr} {es : Es} {p p2 pos : Pos} (A : Amb X b k) (tk : Takes X W) (hk : XO X.prog X.w X.K X.mg X.base b.g k x f g) (hg : Gl X x) (hdb : (x == ("__debug__" : Str)) = false)
    (ha : PA X [e1, e2] (tAs b W (evs es))) (hst : starEach [e1, e2] X.env = (false, eval e1 X.env) :: starEach [e2] X.env) (hpl : (backTo p2 (starEach [e2] X.env)).any (·.1) = false) :
    PS X (.Raise (some (.Call (.Name x p) [e1, e2] [] p2)) none pos) (tS b W (exm (.raisO x f g es))) := by
  obtain ⟨C, fI, fd, ps, h1, h2, T, h3, h4, h5, h6, hfg, hk2⟩ := hk
  refine (ps_raise A.calm tk (pmk_oex (k := 1) (dvs := []) (ds := []) T h3 h4 h5 (A.room.mono hk2) h6 .nil passL hg h1 ha hdb hst hpl)).weak fun D σ H ⟨RR, F, s, r, q⟩ => ?_
  simp only [exm] at q
  refine ⟨RR, F, s, r, q.of.imp fun l s1 R1 F1 H1 p1 e1' r1 q1 vs hvs => ?_⟩
  match l, hvs, q1 with
  | [x1, x2], .cons (v := v) w1 (.cons (v := u) w2 .nil), q1 =>
    simp only at q1
    split at q1
    · rename_i hf
      rw [Bool.and_eq_true] at hf
      have t1 := flat_toV w1 hf.1
      have t2 := flat_toV w2 hf.2
      refine ⟨by show 2 ≤ 1000; decide, fun a na => ⟨a, v, u, rfl, upd_same, fun dx h7 h8 => ?_⟩⟩
      rw [upd_ne h8] at h7
      refine ⟨rfl, dx, [(g, u), (f, v)], ?_, upd_same, h7, ?_⟩
      · rw [upd_ne (Ne.symm h8), upd_same]
      · have e : upd (del (upd (upd (upd (upd H1 a (exo a C none)) dx (exd dx [(f, v)])) a (exo a C (some dx))) dx (exd dx [(g, u), (f, v)])) a) dx (.xd [(g, u), (f, v)]) = upd H1 dx (.xd [(g, u), (f, v)]) := by
          funext y
          by_cases hy : y = dx
          · subst hy; rw [upd_same, upd_same]
          · rw [upd_ne hy, upd_ne hy]
            by_cases hya : y = a
            · subst hya; rw [del_same, na]
            · rw [del_ne hya, upd_ne hy, upd_ne hya, upd_ne hy, upd_ne hya]
        rw [e]
        have r2 := r1.same (same_new (o := .xd [(g, u), (f, v)]) h7)
        refine q1 _ _ R1 F1 _ _ (List.prefix_refl _) (Same.refl _) r2 ⟨C, h2, rfl, .inr ⟨dx, _, rfl, upd_same, fun y z hz => ?_⟩⟩
        have hz : ([(f, x1), (g, x2)] : List (Str × G4.D)).lookup y = some z := hz
        rw [List.lookup_cons] at hz
        by_cases hy : y = f
        · subst hy
          rw [beq_self_eq_true] at hz
          cases hz
          have e3 : (y == g) = false := by simpa using hfg
          exact ⟨v, t1, by rw [List.lookup_cons, e3, List.lookup_cons, beq_self_eq_true]⟩
        · have e4 : (y == f) = false := by simpa using hy
          rw [e4] at hz
          have hz : ([(g, x2)] : List (Str × G4.D)).lookup y = some z := hz
          rw [List.lookup_cons] at hz
          by_cases hy2 : y = g
          · subst hy2
            rw [beq_self_eq_true] at hz
            cases hz
            exact ⟨u, t2, by rw [List.lookup_cons, beq_self_eq_true]⟩
          · have e5 : (y == g) = false := by simpa using hy2
            rw [e5] at hz
            cases hz
    · exact q1.elim
  | [], _, q1 => exact q1.elim
  | [_], _, q1 => exact q1.elim
  | _ :: _ :: _ :: _, _, q1 => exact q1.elim
end
/-- an error of a class is what a clause that names the class takes -/
theorem exm_own {K : PySem.W.Frag} {C : Addr} (h1 : PySem.W.subIn K (.ref C) (.type "BaseException") = some true) (h2 : PySem.W.isClsIn K C = true) (h3 : PySem.W.typeIn K (.ref C) = some (.type "type")) (h4 : PySem.W.subIn K (.ref C) (.ref C) = some true) : PySem.W.exmOne K (.ref C) (.ref C) = some true := by
  have e1 : (PySem.W.subIn K (.ref C) (.type "BaseException") == some true) = true := by rw [h1] <;> rfl
  have e2 : ((PySem.W.clsIn K C).isSome && PySem.W.typeIn K (.ref C) == some (.type "type")) = true := by
    have q : (PySem.W.clsIn K C).isSome = true := h2
    rw [q, h3] <;> rfl
  show (if (PySem.W.subIn K (.ref C) (.type "BaseException") == some true) = true then (if ((PySem.W.clsIn K C).isSome && PySem.W.typeIn K (.ref C) == some (.type "type")) = true then PySem.W.subIn K (.ref C) (.ref C) else none) else none) = some true
  rw [if_pos e1, if_pos e2]
  exact h4
/-- a def in a class's body -/
def methS (st : Stmt) (i : Nat) : Stmt := match st with
  | .ClassDef _ _ _ body _ _ _ _ _ _ _ => body.getD i (.Pass ⟨0, 0, 0, 0⟩)
  | _ => .Pass ⟨0, 0, 0, 0⟩
end G4

namespace G4
open PySem PySem.Spec PyProof.Rows L2

/-! ### which stores are exchanged -/
def CK.lo (c : CK) (x : Str) : Bool := decide (c.sc.names.lookup x = some .local)
def isFn (sc : Scope) : Bool := match sc.kind with
  | .function => true
  | _ => false
def notSD : Expr → Bool
  | .SetComp _ _ _ _ => false
  | .DictComp _ _ _ _ _ => false
  | _ => true
/-- is a comprehension's value taken straight by the name? -/
def swC (c : CK) (e : Expr) (x : Str) (p : Pos) : Bool := match e with
  | .ListComp _ _ sc pos => c.lo x && p.line == pos.line && !(sc.names.any fun (n, k) => n == x && (k == .local || k == .cell))
  | _ => false
theorem blockKind_fn {env : Env} (h : isFn env.scope = true) : env.blockKind = .function := by
  unfold isFn at h
  unfold Env.blockKind
  split at h
  · rename_i e; rw [e]; rfl
  · cases h
theorem lo_beq {o : Option NameKind} : (o == some NameKind.local) = decide (o = some .local) := by
  cases o with
  | none => rfl
  | some k => cases k <;> rfl
theorem swC_eq {c : CK} {e : Expr} {x : Str} {p : Pos} {l : Nat} {env : Env} (hs : env.scope = c.sc) (hf : isFn c.sc = true) (hc : notSD e = true) : swapsWith e (some (.Name x p)) l env = pure (swC c e x p) := by
  have hb := blockKind_fn (env := env) (by rw [hs]; exact hf)
  cases e
  case ListComp elt gs sc pos =>
    unfold swapsWith swC
    simp only [hb, Expr.pos]
    have : env.kindOf x = c.sc.names.lookup x := by unfold Env.kindOf; rw [hs]
    rw [this, lo_beq]
    rfl
  case SetComp => cases hc
  case DictComp => cases hc
  all_goals rfl
def isLo (c : CK) (l : Nat) : Expr → Bool
  | .Name x p => c.lo x && p.line == l
  | _ => false
def sw0 (c : CK) (ts vs : List Expr) : Bool := decide (3 < ts.length) || vs.all (foldedForSure 8) || !(ts.all (isLo c ((ts.head?.map (·.pos.line)).getD 0)))
theorem filterMap_len {α β : Type} {f : α → Option β} {g : α → Bool} (h : ∀ a, (f a).isSome = g a) : ∀ l : List α, (l.filterMap f).length ≤ l.length ∧ ((l.filterMap f).length = l.length → l.all g = true)
  | [] => ⟨Nat.le_refl _, fun _ => rfl⟩
  | a :: l => by
    obtain ⟨h1, h2⟩ := filterMap_len h l
    rw [List.filterMap_cons]
    have ha := h a
    cases e : f a with
    | none =>
      rw [e] at ha
      exact ⟨Nat.le_succ_of_le h1, fun z => by have z : (l.filterMap f).length = l.length + 1 := z; omega⟩
    | some b =>
      rw [e] at ha
      refine ⟨by rw [List.length_cons, List.length_cons]; omega, fun z => ?_⟩
      rw [List.all_cons, ← ha, h2 (by rw [List.length_cons, List.length_cons] at z; omega)]
      rfl
theorem sw0_eq {c : CK} {ts vs : List Expr} {k k2 : Nat} {p p2 : Pos} {env : Env} (hs : env.scope = c.sc) (h : sw0 c ts vs = true) : swappedStores [.Tuple ts k p] (.Tuple vs k2 p2) env = pure none := by
  have hk : ∀ x, env.kindOf x = c.sc.names.lookup x := fun x => by unfold Env.kindOf; rw [hs]
  have hf : ∀ l (e : Expr), (match e with
      | Expr.Name id pos => if (env.kindOf id == some NameKind.local && pos.line == l) = true then some id else none
      | x => none : Option Str).isSome = isLo c l e := fun l e => by
    cases e <;> first | rfl | skip
    simp only [isLo, hk, lo_beq, CK.lo]
    split
    · rename_i z; rw [z]; rfl
    · rename_i z; rw [Bool.not_eq_true] at z; rw [z]; rfl
  unfold swappedStores
  dsimp only
  split
  · rfl
  rename_i h1
  split
  · rfl
  split
  · rfl
  rename_i h2
  split
  · rfl
  rename_i h3
  exfalso
  unfold sw0 at h
  rw [Bool.or_eq_true, Bool.or_eq_true] at h
  rcases h with (h | h) | h
  · have := of_decide_eq_true h
    apply h1
    have e2 : (ts.length == 2) = false := by rw [beq_eq_false_iff_ne]; omega
    have e3 : (ts.length == 3) = false := by rw [beq_eq_false_iff_ne]; omega
    rw [e2, e3]; rfl
  · exact h3 h
  · apply h2
    have hl := filterMap_len (hf ((ts.head?.map (·.pos.line)).getD 0)) ts
    have ne : ∀ {n m : Nat}, n ≠ m → (n != m) = true := fun h => by simpa using h
    rw [Bool.or_eq_true]
    refine .inl (ne fun z => ?_)
    rw [hl.2 z] at h
    cases h
theorem sw2_eq {c : CK} {x y : Str} {px py p p2 : Pos} {vs : List Expr} {k k2 : Nat} {env : Env} (hs : env.scope = c.sc) (hf : isFn c.sc = true) (hx : c.lo x = true) (hy : c.lo y = true) (hl : (py.line == px.line) = true) (hne : x ≠ y) (hv : vs.length = 2) (hst : vs.all notStar = true)
    (h1 : vs.all (foldedForSure 8) = false) (h2 : vs.all (constantsAlone 8) = false) : swappedStores [.Tuple [.Name x px, .Name y py] k p] (.Tuple vs k2 p2) env = pure (some [x, y]) := by
  have hk : ∀ x, env.kindOf x = c.sc.names.lookup x := fun x => by unfold Env.kindOf; rw [hs]
  have hb := blockKind_fn (env := env) (by rw [hs]; exact hf)
  have na : (vs.any fun e => match e with
      | .Starred .. => true
      | _ => false) = false := by
    rw [List.any_eq_false]
    intro e he
    have := List.all_eq_true.mp hst e he
    cases e <;> first | (cases this; done) | simp
  unfold CK.lo at hx hy
  unfold swappedStores
  simp only [hv, hb, na, h1, h2, List.length_cons, List.length_nil, List.head?_cons, Option.map_some, Option.getD_some, Expr.pos, List.filterMap_cons, List.filterMap_nil, hk, lo_beq, hx, hy, hl, Bool.and_self, if_true, beq_self_eq_true, Bool.and_true]
  have e1 : ([x, y] : List Str).eraseDups.length = 2 := by
    have : (y == x) = false := by rw [beq_eq_false_iff_ne]; exact Ne.symm hne
    simp [List.eraseDups_cons, this]
  rw [e1]
  refine (if_neg (by decide)).trans ((if_neg fun h => ?_).trans rfl)
  exact Bool.noConfusion (h.symm.trans na)
theorem sw3_eq {c : CK} {x y z : Str} {px py pz p p2 : Pos} {vs : List Expr} {k k2 : Nat} {env : Env} (hs : env.scope = c.sc) (hf : isFn c.sc = true) (hx : c.lo x = true) (hy : c.lo y = true) (hz : c.lo z = true) (hl : (py.line == px.line) = true) (hl2 : (pz.line == px.line) = true) (hne : x ≠ y) (hne2 : x ≠ z) (hne3 : y ≠ z) (hv : vs.length = 3) (hst : vs.all notStar = true)
    (h1 : vs.all (foldedForSure 8) = false) (h2 : vs.all (constantsAlone 8) = false) : swappedStores [.Tuple [.Name x px, .Name y py, .Name z pz] k p] (.Tuple vs k2 p2) env = pure (some [x, y, z]) := by
  have hk : ∀ x, env.kindOf x = c.sc.names.lookup x := fun x => by unfold Env.kindOf; rw [hs]
  have hb := blockKind_fn (env := env) (by rw [hs]; exact hf)
  have na : (vs.any fun e => match e with
      | .Starred .. => true
      | _ => false) = false := by
    rw [List.any_eq_false]
    intro e he
    have := List.all_eq_true.mp hst e he
    cases e <;> first | (cases this; done) | simp
  unfold CK.lo at hx hy hz
  unfold swappedStores
  simp only [hv, hb, na, h1, h2, List.length_cons, List.length_nil, List.head?_cons, Option.map_some, Option.getD_some, Expr.pos, List.filterMap_cons, List.filterMap_nil, hk, lo_beq, hx, hy, hz, hl, hl2, Bool.and_self, if_true, beq_self_eq_true, Bool.and_true]
  have e1 : ([x, y, z] : List Str).eraseDups.length = 3 := by
    have a1 : (y == x) = false := by rw [beq_eq_false_iff_ne]; exact Ne.symm hne
    have a2 : (z == x) = false := by rw [beq_eq_false_iff_ne]; exact Ne.symm hne2
    have a3 : (z == y) = false := by rw [beq_eq_false_iff_ne]; exact Ne.symm hne3
    simp [List.eraseDups_cons, a1, a2, a3]
  rw [e1]
  refine (if_neg (by decide)).trans ((if_neg fun h => ?_).trans rfl)
  exact Bool.noConfusion (h.symm.trans na)
end G4

namespace G4
open PySem PySem.Spec PyProof.Rows L2

/-! ### is it the text's statement? -/
def notTup : Expr → Bool
  | .Tuple _ _ _ => false
  | _ => true
def isLc : E → Bool
  | .lc _ _ _ _ _ => true
  | .alc (.lc _ _ _ _ _) => true
  | _ => false
def ckNames (c : CK) : List Nat → List Expr → Bool
  | [], [] => true
  | i :: l, .Name x _ :: es => c.loc i x && ckNames c l es
  | _, _ => false
def sw23 (c : CK) : List Nat → List Expr → List Expr → Bool
  | [i, j], [.Name x px, .Name y py], [a, b] => c.lo x && c.lo y && py.line == px.line && decide (x ≠ y) && decide (i ≠ j) && !([a, b].all (foldedForSure 8)) && !([a, b].all (constantsAlone 8))
  | [i, j, l], [.Name x px, .Name y py, .Name z pz], [a, b, d] => c.lo x && c.lo y && c.lo z && py.line == px.line && pz.line == px.line && decide (x ≠ y) && decide (x ≠ z) && decide (y ≠ z) && decide (i ≠ j) && decide (i ≠ l) && decide (j ≠ l) && !([a, b, d].all (foldedForSure 8)) && !([a, b, d].all (constantsAlone 8))
  | _, _, _ => false
def ckTgs (c : CK) : List Tg → List Expr → Bool
  | [], [] => true
  | .nm i :: l, .Name x _ :: es => c.loc i x && ckTgs c l es
  | .sub a i :: l, .Subscript o j _ :: es => ck c a o && ck c i j && notSlice j && ckTgs c l es
  | _, _ => false
/-- is it the clause? -/
def ckHd (c : CK) : Hd → Option Str → List Stmt → Bool
  | .setB i v, nm, su => match nm, su with
    | none, [.Assign [.Name y _] (.Constant (.bool u) _ _) _] => c.loc i y && decide (u = v)
    | _, _ => false
  | .setT j i f g, nm, su => match nm, su with
    | some n, [.Assign [.Name y _] (.Tuple [.Attribute (.Name n1 _) f1 _, .Attribute (.Name n2 _) g1 _] _ _) _] => c.loc i y && c.vis j n && decide (c.sc.names.lookup n = some .local) && decide (n1 = n) && decide (n2 = n) && decide (f1 = f) && decide (g1 = g)
    | _, _ => false
  | .retT j f g, nm, su => match nm, su with
    | some n, [.Return (some (.Tuple [.Attribute (.Name n1 _) f1 _, .Attribute (.Name n2 _) g1 _] _ _)) _] => c.vis j n && decide (c.sc.names.lookup n = some .local) && decide (n1 = n) && decide (n2 = n) && decide (f1 = f) && decide (g1 = g)
    | _, _ => false
mutual
def ckm (c : CK) : Sm → Stmt → Bool
  | .dead, _ => true
  | .parT l es, st => match st with
    | .Assign [.Tuple ts _ _] (.Tuple vs _ _) _ => cks c es vs && ckTgs c l ts && decide (l.length ≤ 1000) && sw0 c ts vs
    | _ => false
  | .pass, st => match st with
    | .Pass _ => true
    | .Expr (.Constant (.str _) _ _) _ => true
    | _ => false
  | .expr e, st => match st with
    | .Expr x _ => ck c e x && notComp x
    | _ => false
  | .set i e, st => match st with
    | .Assign [.Name x p] v _ => c.loc i x && notSD v && ck c e v && (!(swC c v x p) || isLc e)
    | _ => false
  | .par l es, st => match st with
    | .Assign [.Tuple ts _ _] (.Tuple vs _ _) _ => cks c es vs && ckNames c l ts && decide (l.length ≤ 1000) && (sw0 c ts vs || sw23 c l ts vs)
    | _ => false
  | .unp t e, st => match st with
    | .Assign [.Tuple ts k p] v _ => ckT c t (.Tuple ts k p) && ck c e v && notComp v && notTup v
    | _ => false
  | .augs a i o e, st => match st with
    | .AugAssign (.Subscript x j _) u v _ => ck c a x && ck c i j && notSlice j && decide (o = u) && ck c e v
    | _ => false
  | .unpO l e, st => match st with
    | .Assign [.Tuple ts _ _] v _ => ckNames c l ts && ck c e v && notComp v && notTup v
    | _ => false
  | .setix a b e, st => match st with
    | .Assign [.Subscript o i _] v _ => ck c a o && ck c b i && ck c e v && notSlice i && notComp v
    | _ => false
  | .ifs e a b, st => match st with
    | .If t x y _ => ck c e t && ckms c a x && ckms c b y
    | _ => false
  | .fors t src b, st => match st with
    | .For tg it body [] _ => ckT c t tg && ckS c src tg it && notSet it && ckms c b body
    | _ => false
  | .ret e, st => match st with
    | .Return (some v) _ => ck c e v
    | _ => false
  | .retN, st => match st with
    | .Return none _ => true
    | _ => false
  | .brk, st => match st with
    | .Break _ => true
    | _ => false
  | .cont, st => match st with
    | .Continue _ => true
    | _ => false
  | .rais x m, st => match st with
    | .Raise (some (.Call (.Name y _) [.Constant (.str n) _ _] [] _)) none _ => decide (x = y) && decide (m = n) && c.gl y
    | _ => false
  | .raisO x _ _ es, st => match st with
    | .Raise (some (.Call (.Name y _) [e1, e2] [] _)) none _ => decide (x = y) && c.gl y && cks c es [e1, e2]
    | _ => false
  | .tryc b x h, st => match st with
    | .Try body [.ExceptHandler (some (.Name y _)) nm suite _] [] [] _ => decide (x = y) && c.gl y && ckms c b body && ckHd c h nm suite
    | _ => false
  | .aug i o e, st => match st with
    | .AugAssign (.Name x _) u v _ => c.loc i x && decide (o = u) && ck c e v
    | _ => false
  | .whl _ e b, st => match st with
    | .While t body [] _ => ck c e t && ckms c b body
    | _ => false
def ckms (c : CK) : Sms → List Stmt → Bool
  | .nil, l => l.isEmpty
  | .cons a r, l => match l with
    | x :: xs => ckm c a x && ckms c r xs
    | [] => false
end
section
variable (P : Program) (w : World) (K : PySem.W.Frag) (mg : Str → Option Value) (base : Heap) (g : Str → Option Addr) (k : Nat)
def OkTgs : List Tg → Prop
  | [] => True
  | .nm _ :: l => OkTgs l
  | .sub a i :: l => OkE P w K mg base g k a ∧ OkE P w K mg base g k i ∧ OkTgs l
def OkH (x : Str) : Hd → Prop
  | .setB _ _ => True
  | .setT _ _ a d => XD K g x a ∧ XD K g x d
  | .retT _ a d => XD K g x a ∧ XD K g x d
mutual
def OkM : Sm → Prop
  | .parT l es => OkTgs P w K mg base g k l ∧ OkEs P w K mg base g k es
  | .expr e => OkE P w K mg base g k e
  | .set _ e => OkE P w K mg base g k e
  | .par _ es => OkEs P w K mg base g k es
  | .unp _ e => OkE P w K mg base g k e
  | .unpO _ e => OkE P w K mg base g k e
  | .augs a i _ e => OkE P w K mg base g k a ∧ OkE P w K mg base g k i ∧ OkE P w K mg base g k e
  | .setix a b e => OkE P w K mg base g k a ∧ OkE P w K mg base g k b ∧ OkE P w K mg base g k e
  | .ifs e a b => OkE P w K mg base g k e ∧ OkMs a ∧ OkMs b
  | .fors _ src b => OkS P w K mg base g k src ∧ OkMs b
  | .ret e => OkE P w K mg base g k e
  | .rais x _ => XK K mg g x
  | .raisO x a d es => XO P w K mg base g k x a d ∧ OkEs P w K mg base g k es
  | .tryc b x h => OkMs b ∧ XC K mg g x ∧ OkH K g x h
  | .aug _ _ e => OkE P w K mg base g k e
  | .whl _ e b => OkE P w K mg base g k e ∧ OkMs b
  | _ => True
def OkMs : Sms → Prop
  | .nil => True
  | .cons a r => OkM a ∧ OkMs r
end
end
section
variable {X : Cx} {b : Bs} {W : WX} {k : Nat} {c : CK}
theorem names_ok (C : CkX c X) : ∀ (l : List Nat) (ts : List Expr), ckNames c l ts = true → NamesOk X l ts
  | [], [], _ => trivial
  | [], _ :: _, h => by simp [ckNames] at h
  | _ :: _, [], h => by simp [ckNames] at h
  | i :: l, e :: es, h => by
    cases e <;> simp only [ckNames, Bool.and_eq_true, reduceCtorEq, Bool.false_eq_true] at h
    obtain ⟨h1, h2, h3⟩ := C.loc h.1
    exact ⟨h1, h2, h3, names_ok C l es h.2⟩
theorem tgs_ok (A : Amb X b k) (C : CkX c X) (tk : Takes X W) : ∀ (l : List Tg) (ts : List Expr), ckTgs c l ts = true → OkTgs X.prog X.w X.K X.mg X.base b.g k l → TgsOk X b W l ts
  | [], [], _, _ => trivial
  | [], _ :: _, h, _ => by simp [ckTgs] at h
  | .nm _ :: _, [], h, _ => by simp [ckTgs] at h
  | .sub _ _ :: _, [], h, _ => by simp [ckTgs] at h
  | .nm i :: l, e :: es, h, o => by
    cases e <;> simp only [ckTgs, Bool.and_eq_true, reduceCtorEq, Bool.false_eq_true] at h
    obtain ⟨h1, h2, h3⟩ := C.loc h.1
    exact ⟨h1, h2, h3, tgs_ok A C tk l es h.2 o⟩
  | .sub a i :: l, e :: es, h, o => by
    cases e <;> simp only [ckTgs, Bool.and_eq_true, reduceCtorEq, Bool.false_eq_true] at h
    exact ⟨ok_E a c X b W k _ A C tk h.1.1.1 o.1, ok_E i c X b W k _ A C tk h.1.1.2 o.2.1, h.1.2, tgs_ok A C tk l es h.2 o.2.2⟩
/-- the values of a, b = x, y -/
theorem ok_Pa (A : Amb X b k) (C : CkX c X) (tk : Takes X W) : ∀ (e : Es) (pe : List Expr), cks c e pe = true → OkXs X b k e → PA X pe (tAs b W (evPar e))
  | .nil, pe, h, o => by
    simp only [cks, List.isEmpty_iff] at h
    subst h
    exact par_nil
  | .cons a r, pe, h, o => by
    simp only [OkXs, OkEs] at o
    simp only [cks] at h
    split at h <;> first | contradiction | skip
    simp only [Bool.and_eq_true] at h
    exact par_cons (ok_E a c X b W k _ A C tk h.1.1 o.1) (ok_Pa A C tk r _ h.2 o.2) (star_cons h.1.2)
/-- the parts of a comprehension -/
theorem lc_parts {own : List (Str × Nat)} {e : E} {g : T} {src : Src} {d : EO} {elt tg iter : Expr} {ifs : List Expr} {scope : Scope} {pos : Pos} (A : Amb X b k) (C : CkX c X) (tk : Takes X W)
    (h : ck c (.lc own e g src d) (.ListComp elt [⟨tg, iter, ifs, 0⟩] scope pos) = true) (o : OkX X b k (.lc own e g src d)) :
    ∃ wi gg tt te, BlkOk X.N X.env.scope scope own ∧ notSet iter = true ∧ PI X tg iter wi ∧ (∀ (s : Shared) (H : Hp) (C : Addr) (cl : List (Str × Addr)) (fp : List Addr), PG (X.blk s H scope (compEnvC scope cl C X.env) fp) tg gg) ∧
      (∀ (s : Shared) (H : Hp) (C : Addr) (cl : List (Str × Addr)) (fp : List Addr), PTs (X.blk s H scope (compEnvC scope cl C X.env) fp) ifs tt) ∧
      (∀ (s : Shared) (H : Hp) (C : Addr) (cl : List (Str × Addr)) (fp : List Addr), PE (X.blk s H scope (compEnvC scope cl C X.env) fp) elt te) ∧
      ∀ σ H Q, tE b W (ev (.lc own e g src d)) σ H Q → tLc wi gg tt te (own.map (·.2)) σ H Q := by
  simp only [OkX, OkE] at o
  simp only [ck, Bool.and_eq_true] at h
  obtain ⟨⟨⟨⟨⟨⟨h1, h2⟩, h3⟩, h4⟩, h5⟩, h6⟩, h7⟩ := h
  have ok : BlkOk X.N X.env.scope scope own := by rw [C.N, C.sc]; exact blkOk_by h1
  have hg : ∀ b' : Bs, b'.K = b.K → b'.g = b.g → ∀ (s : Shared) (H : Hp) (Ca : Addr) (cl : List (Str × Addr)) (fp : List Addr), PG (X.blk s H scope (compEnvC scope cl Ca X.env) fp) tg (tT b' g) := fun b' e1 e2 s H Ca cl fp =>
    ok_T (b := b') (k := k) (Amb.blk (b := b') ⟨e1.trans A.K, A.nd, A.calm, A.room, A.gd⟩ s H scope _ fp) (C.blk s H scope Ca cl fp) g tg h5
  have ht : ∀ b' : Bs, b'.K = b.K → b'.g = b.g → ∀ (s : Shared) (H : Hp) (Ca : Addr) (cl : List (Str × Addr)) (fp : List Addr), PTs (X.blk s H scope (compEnvC scope cl Ca X.env) fp) ifs (tB' b' Wf (evc d)) := fun b' e1 e2 s H Ca cl fp =>
    ok_C d (c.blk scope) _ b' Wf k ifs ⟨e1.trans A.K, A.nd, A.calm, A.room, A.gd⟩ (C.blk s H scope Ca cl fp) blk_wf h6 (by unfold OkXo; rw [e2]; exact o.2.2)
  have he : ∀ b' : Bs, b'.K = b.K → b'.g = b.g → ∀ (s : Shared) (H : Hp) (Ca : Addr) (cl : List (Str × Addr)) (fp : List Addr), PE (X.blk s H scope (compEnvC scope cl Ca X.env) fp) elt (tE b' Wf (ev e)) := fun b' e1 e2 s H Ca cl fp =>
    ok_E e (c.blk scope) _ b' Wf k elt ⟨e1.trans A.K, A.nd, A.calm, A.room, A.gd⟩ (C.blk s H scope Ca cl fp) blk_wf h7 (by unfold OkX; rw [e2]; exact o.1)
  obtain ⟨wi, gg, tt, te, g1, g2, g3, g4, g5⟩ := snd_lc (W := W) (pos := pos) A ok (fun i hi => of_decide_eq_true (List.all_eq_true.mp h2 i hi)) (ok_S src c X b W k tg iter A C tk h4 o.2.1) h3 hg ht he
  exact ⟨wi, gg, tt, te, ok, h3, g1, g2, g3, g4, g5⟩
theorem sole_no {tg v : Expr} {l : Nat} {env : Env} (h : notComp v = true) : swapsWithSole [tg] v l env = pure false := swap_no h
theorem swC_inv {e : Expr} {x : Str} {p : Pos} (h : swC c e x p = true) : ∃ elt gs sc pos, e = .ListComp elt gs sc pos ∧ c.lo x = true := by
  unfold swC at h
  split at h
  · simp only [Bool.and_eq_true] at h
    exact ⟨_, _, _, _, rfl, h.1.1⟩
  · cases h
theorem lc_shape {own : List (Str × Nat)} {e : E} {g : T} {src : Src} {d : EO} {elt : Expr} {gs : List Comprehension} {sc : Scope} {pos : Pos} (h : ck c (.lc own e g src d) (.ListComp elt gs sc pos) = true) : ∃ tg iter ifs, gs = [⟨tg, iter, ifs, 0⟩] := by
  simp only [ck] at h
  split at h <;> first | contradiction | skip
  rename_i z
  cases z
  exact ⟨_, _, _, rfl⟩
end
section
variable {X : Cx} {b : Bs} {W : WX} {k : Nat} {c : CK}
mutual
theorem ok_M : ∀ (m : Sm) (X : Cx) (b : Bs) (W : WX) (k : Nat) (c : CK) (A : Amb X b k) (C : CkX c X) (tk : Takes X W) (hp : PassesOwn (model X.prog X.w) X.A X.env X.xe) (hf : isFn c.sc = true) (hst0 : X.stack = X.env :: X.outer) (hfr0 : X.env.frame = some X.env.locals) (st : Stmt), ckm c m st = true → OkM X.prog X.w X.K X.mg X.base b.g k m → PS X st (tS b W (exm m))
  | .pass, X, b, W, k, c, A, C, tk, hp, hf, hst0, hfr0, st, h, o => by
    simp only [ckm] at h
    split at h <;> first | contradiction | skip
    · exact sn_pass
    · exact sn_doc
  | .expr e, X, b, W, k, c, A, C, tk, hp, hf, hst0, hfr0, st, h, o => by
    simp only [OkM] at o
    simp only [ckm] at h
    split at h <;> first | contradiction | skip
    rw [Bool.and_eq_true] at h
    exact sn_expr (ok_E e c X b W k _ A C tk h.1 o) h.2
  | .set i e, X, b, W, k, c, A, C, tk, hp, hf, hst0, hfr0, st, h, o => by
    simp only [OkM] at o
    simp only [ckm] at h
    split at h <;> first | contradiction | skip
    rename_i x p v spos
    simp only [Bool.and_eq_true, Bool.or_eq_true] at h
    obtain ⟨⟨⟨h1, h2⟩, h3⟩, h4⟩ := h
    obtain ⟨g1, g2, g3⟩ := C.loc h1
    have hs := swC_eq (x := x) (p := p) (l := spos.line) C.sc hf h2
    cases e5 : swC c v x p with
    | false => exact sn_set A.nd g1 g2 g3 (ok_E e c X b W k _ A C tk h3 o) (by rw [hs, e5])
    | true =>
      rw [e5] at hs h4
      obtain ⟨elt, gs, sc, pos, rfl, hl⟩ := swC_inv e5
      have hl' : X.env.scope.names.lookup x = some .local := by rw [C.sc]; exact of_decide_eq_true hl
      have h4 : isLc e = true := by simpa using h4
      have fin : ∀ {own e1 g src d} (e' : E), (∀ σ H Q, tE b W (ev e') σ H Q → tE b W (ev (.lc own e1 g src d)) σ H Q) → ck c (.lc own e1 g src d) (.ListComp elt gs sc pos) = true → OkX X b k (.lc own e1 g src d) → PS X (.Assign [.Name x p] (.ListComp elt gs sc pos) spos) (tS b W (exm (.set i e'))) := fun {own e1 g src d} e' hw h o => by
        obtain ⟨tg, iter, ifs, rfl⟩ := lc_shape h
        obtain ⟨wi, gg, tt, te, k1, k2, k3, k4, k5, k6, k7⟩ := lc_parts A C tk h o
        exact sn_setLc A g1 hl' hs k3 k1 k4 k5 k6 k2 fun σ H Q q => k7 σ H Q (hw σ H Q q)
      unfold isLc at h4
      split at h4
      · exact fin _ (fun _ _ _ q => q) h3 o
      · simp only [ck] at h3
        simp only [OkE] at o
        exact fin _ alc_weak (by simp only [ck]; exact h3) (by simp only [OkX, OkE]; exact o)
      · cases h4
  | .par l es, X, b, W, k, c, A, C, tk, hp, hf, hst0, hfr0, st, h, o => by
    simp only [OkM] at o
    simp only [ckm] at h
    split at h <;> first | contradiction | skip
    simp only [Bool.and_eq_true, Bool.or_eq_true, decide_eq_true_eq] at h
    obtain ⟨⟨⟨h1, h2⟩, h3⟩, h4⟩ := h
    have hn := names_ok C l _ h2
    have ha := ok_Pa A C tk es _ h1 o
    have hs := (cks_star h1).1
    rcases h4 with h4 | h4
    · exact sn_par A hn ha hs (sw0_eq C.sc h4) h3
    · unfold sw23 at h4
      split at h4
      · simp only [Bool.and_eq_true, Bool.not_eq_true', decide_eq_true_eq] at h4
        obtain ⟨⟨⟨⟨⟨⟨a1, a2⟩, a3⟩, a4⟩, a5⟩, a6⟩, a7⟩ := h4
        simp only [NamesOk] at hn
        exact sn_par2 A hn.1 hn.2.2.2.1 a5 (by rw [C.sc]; exact of_decide_eq_true a1) (by rw [C.sc]; exact of_decide_eq_true a2) ha (sw2_eq C.sc hf a1 a2 a3 a4 rfl hs a6 a7)
      · simp only [Bool.and_eq_true, Bool.not_eq_true', decide_eq_true_eq] at h4
        obtain ⟨⟨⟨⟨⟨⟨⟨⟨⟨⟨⟨⟨a1, a2⟩, a3⟩, a4⟩, a5⟩, a6⟩, a7⟩, a8⟩, a9⟩, b1⟩, b2⟩, b3⟩, b4⟩ := h4
        simp only [NamesOk] at hn
        exact sn_par3 A hn.1 hn.2.2.2.1 hn.2.2.2.2.2.2.1 a9 b1 b2 (by rw [C.sc]; exact of_decide_eq_true a1) (by rw [C.sc]; exact of_decide_eq_true a2) (by rw [C.sc]; exact of_decide_eq_true a3) ha (sw3_eq C.sc hf a1 a2 a3 a4 a5 a6 a7 a8 rfl hs b3 b4)
      · cases h4
  | .unp t e, X, b, W, k, c, A, C, tk, hp, hf, hst0, hfr0, st, h, o => by
    simp only [OkM] at o
    simp only [ckm] at h
    split at h <;> first | contradiction | skip
    rename_i v _
    simp only [Bool.and_eq_true] at h
    obtain ⟨⟨⟨h1, h2⟩, h3⟩, h4⟩ := h
    exact sn_unp (ok_E e c X b W k _ A C tk h2 o) (ok_T A C t _ h1) (sole_no h3) (by cases v <;> first | rfl | cases h4) (by rfl)
  | .augs a i u e, X, b, W, k, c, A, C, tk, hp, hf, hst0, hfr0, st, h, o => by
    simp only [OkM] at o
    simp only [ckm] at h
    split at h <;> first | contradiction | skip
    simp only [Bool.and_eq_true, decide_eq_true_eq] at h
    obtain ⟨⟨⟨⟨h1, h2⟩, h3⟩, rfl⟩, h4⟩ := h
    exact sn_augs A (ok_E a c X b W k _ A C tk h1 o.1) (ok_E i c X b W k _ A C tk h2 o.2.1) h3 (ok_E e c X b W k _ A C tk h4 o.2.2)
  | .unpO l e, X, b, W, k, c, A, C, tk, hp, hf, hst0, hfr0, st, h, o => by
    simp only [OkM] at o
    simp only [ckm] at h
    split at h <;> first | contradiction | skip
    rename_i v _
    simp only [Bool.and_eq_true] at h
    obtain ⟨⟨⟨h1, h2⟩, h3⟩, h4⟩ := h
    exact sn_unpO A (names_ok C l _ h1) (ok_E e c X b W k _ A C tk h2 o) (sole_no h3) (by cases v <;> first | rfl | cases h4)
  | .setix x y e, X, b, W, k, c, A, C, tk, hp, hf, hst0, hfr0, st, h, o => by
    simp only [OkM] at o
    simp only [ckm] at h
    split at h <;> first | contradiction | skip
    simp only [Bool.and_eq_true] at h
    obtain ⟨⟨⟨⟨h1, h2⟩, h3⟩, h4⟩, h5⟩ := h
    exact sn_setix A (ok_E x c X b W k _ A C tk h1 o.1) (ok_E y c X b W k _ A C tk h2 o.2.1) (ok_E e c X b W k _ A C tk h3 o.2.2) h4 (sole_no h5)
  | .ifs e p q, X, b, W, k, c, A, C, tk, hp, hf, hst0, hfr0, st, h, o => by
    simp only [OkM] at o
    simp only [ckm] at h
    split at h <;> first | contradiction | skip
    simp only [Bool.and_eq_true] at h
    exact sn_if (ok_T' e c X b W k _ A C tk h.1.1 o.1).1 (ok_Ms p _ _ _ _ _ A C tk hp hf hst0 hfr0 _ h.1.2 o.2.1) (ok_Ms q _ _ _ _ _ A C tk hp hf hst0 hfr0 _ h.2 o.2.2)
  | .fors t src p, X, b, W, k, c, A, C, tk, hp, hf, hst0, hfr0, st, h, o => by
    simp only [OkM] at o
    simp only [ckm] at h
    split at h <;> first | contradiction | skip
    simp only [Bool.and_eq_true] at h
    obtain ⟨⟨⟨h1, h2⟩, h3⟩, h4⟩ := h
    exact sn_for A hp (ok_S src c X b W k _ _ A C tk h2 o.1) h3 (ok_T A C t _ h1) (ok_Ms p _ _ _ _ _ A C tk hp hf hst0 hfr0 _ h4 o.2)
  | .ret e, X, b, W, k, c, A, C, tk, hp, hf, hst0, hfr0, st, h, o => by
    simp only [OkM] at o
    simp only [ckm] at h
    split at h <;> first | contradiction | skip
    exact sn_ret (ok_E e c X b W k _ A C tk h o)
  | .retN, X, b, W, k, c, A, C, tk, hp, hf, hst0, hfr0, st, h, o => by
    simp only [ckm] at h
    split at h <;> first | contradiction | skip
    exact sn_retN
  | .brk, X, b, W, k, c, A, C, tk, hp, hf, hst0, hfr0, st, h, o => by
    simp only [ckm] at h
    split at h <;> first | contradiction | skip
    exact sn_brk
  | .cont, X, b, W, k, c, A, C, tk, hp, hf, hst0, hfr0, st, h, o => by
    simp only [ckm] at h
    split at h <;> first | contradiction | skip
    exact sn_cont
  | .rais x m, X, b, W, k, c, A, C, tk, hp, hf, hst0, hfr0, st, h, o => by
    simp only [OkM] at o
    simp only [ckm] at h
    split at h <;> first | contradiction | skip
    simp only [Bool.and_eq_true, decide_eq_true_eq] at h
    obtain ⟨⟨rfl, rfl⟩, h1⟩ := h
    obtain ⟨h3, h4⟩ := C.gl h1
    exact sn_rais A tk o h3 (okName_1 h4)
  | .raisO x f g es, X, b, W, k, c, A, C, tk, hp, hf, hst0, hfr0, st, h, o => by
    simp only [OkM] at o
    simp only [ckm] at h
    split at h <;> first | contradiction | skip
    simp only [Bool.and_eq_true, decide_eq_true_eq] at h
    obtain ⟨⟨rfl, h1⟩, h2⟩ := h
    obtain ⟨h3, h4⟩ := C.gl h1
    have hs := (cks_star h2).1
    rw [List.all_cons, Bool.and_eq_true] at hs
    exact sn_raisO A tk o.1 h3 (okName_1 h4) (ok_A es c X b W k _ A C tk h2 o.2).1 (star_cons hs.1) (star_any _ hs.2)
  | .tryc m x hd, X, b, W, k, c, A, C, tk, hp, hf, hst0, hfr0, st, h, o => by
    simp only [OkM] at o
    simp only [ckm] at h
    split at h <;> first | contradiction | skip
    simp only [Bool.and_eq_true, decide_eq_true_eq] at h
    obtain ⟨⟨⟨rfl, h1⟩, h2⟩, h5⟩ := h
    obtain ⟨h3, h4⟩ := C.gl h1
    obtain ⟨o1, o2, o3⟩ := o
    have hb : ∀ (W' : WX) (pn : List (Addr × Obj)) (xe : Value → Shared → Prop), Takes (X.tr pn xe) W' → PassesOwn (model X.prog X.w) X.A X.env xe → PSs (X.tr pn xe) _ (tS b W' (exms m)) := fun W' pn xe t1 t2 =>
      ok_Ms m (X.tr pn xe) b W' k c (A.tr pn xe) ⟨C.N, C.sc, C.fc, C.bs⟩ t1 t2 hf hst0 hfr0 _ h2 o1
    cases hd with
    | setB i v =>
      simp only [ckHd] at h5
      split at h5 <;> first | contradiction | skip
      simp only [Bool.and_eq_true, decide_eq_true_eq] at h5
      obtain ⟨h6, rfl⟩ := h5
      obtain ⟨g1, g2, g3⟩ := C.loc h6
      exact sn_tryB A hst0 hfr0 tk o2 h3 (okName_1 h4) g1 g2 g3 hb
    | setT j i f g =>
      simp only [ckHd] at h5
      split at h5 <;> first | contradiction | skip
      simp only [Bool.and_eq_true, decide_eq_true_eq] at h5
      obtain ⟨⟨⟨⟨⟨⟨h6, h7⟩, h8⟩, rfl⟩, rfl⟩, rfl⟩, rfl⟩ := h5
      obtain ⟨g1, g2, g3⟩ := C.loc h6
      obtain ⟨v1, v2, v3⟩ := C.vis h7
      exact sn_tryS A hst0 hfr0 tk o2 o3.1 o3.2 h3 (okName_1 h4) g1 g2 g3 v1 (by rw [← C.sc] at h8; exact h8) v2 (okName_1 v3) (okName_2 v3) hb
    | retT j f g =>
      simp only [ckHd] at h5
      split at h5 <;> first | contradiction | skip
      simp only [Bool.and_eq_true, decide_eq_true_eq] at h5
      obtain ⟨⟨⟨⟨⟨h7, h8⟩, rfl⟩, rfl⟩, rfl⟩, rfl⟩ := h5
      obtain ⟨v1, v2, v3⟩ := C.vis h7
      exact sn_tryR A hst0 hfr0 tk o2 o3.1 o3.2 h3 (okName_1 h4) v1 (by rw [← C.sc] at h8; exact h8) v2 (okName_1 v3) (okName_2 v3) hb
  | .dead, X, b, W, k, c, A, C, tk, hp, hf, hst0, hfr0, st, h, o => ⟨fun pins s σ H D I ⟨RR, F, s0, r, q⟩ => by
      simp only [exm] at q
      exact q.elim⟩
  | .parT l es, X, b, W, k, c, A, C, tk, hp, hf, hst0, hfr0, st, h, o => by
    simp only [OkM] at o
    simp only [ckm] at h
    split at h <;> first | contradiction | skip
    simp only [Bool.and_eq_true, decide_eq_true_eq] at h
    obtain ⟨⟨⟨h1, h2⟩, h3⟩, h4⟩ := h
    exact sn_parT A (tgs_ok A C tk l _ h2 o.1) (ok_A es c X b W k _ A C tk h1 o.2).1 (sw0_eq C.sc h4) h3
  | .aug i u e, X, b, W, k, c, A, C, tk, hp, hf, hst0, hfr0, st, h, o => by
    simp only [OkM] at o
    simp only [ckm] at h
    split at h <;> first | contradiction | skip
    simp only [Bool.and_eq_true, decide_eq_true_eq] at h
    obtain ⟨⟨h1, rfl⟩, h2⟩ := h
    obtain ⟨g1, g2, g3⟩ := C.loc h1
    exact sn_aug A.nd g1 g2 g3 (ok_E e c X b W k _ A C tk h2 o)
  | .whl n e p, X, b, W, k, c, A, C, tk, hp, hf, hst0, hfr0, st, h, o => by
    simp only [OkM] at o
    simp only [ckm] at h
    split at h <;> first | contradiction | skip
    simp only [Bool.and_eq_true] at h
    exact sn_whl hp (ok_T' e c X b W k _ A C tk h.1 o.1).1 (ok_Ms p _ _ _ _ _ A C tk hp hf hst0 hfr0 _ h.2 o.2)
theorem ok_Ms : ∀ (m : Sms) (X : Cx) (b : Bs) (W : WX) (k : Nat) (c : CK) (A : Amb X b k) (C : CkX c X) (tk : Takes X W) (hp : PassesOwn (model X.prog X.w) X.A X.env X.xe) (hf : isFn c.sc = true) (hst0 : X.stack = X.env :: X.outer) (hfr0 : X.env.frame = some X.env.locals) (st : List Stmt), ckms c m st = true → OkMs X.prog X.w X.K X.mg X.base b.g k m → PSs X st (tS b W (exms m))
  | .nil, X, b, W, k, c, A, C, tk, hp, hf, hst0, hfr0, st, h, o => by
    simp only [ckms, List.isEmpty_iff] at h
    subst h
    exact sns_nil
  | .cons a r, X, b, W, k, c, A, C, tk, hp, hf, hst0, hfr0, st, h, o => by
    simp only [OkMs] at o
    simp only [ckms] at h
    split at h <;> first | contradiction | skip
    rw [Bool.and_eq_true] at h
    exact sns_cons (ok_M a _ _ _ _ _ A C tk hp hf hst0 hfr0 _ h.1 o.1) (ok_Ms r _ _ _ _ _ A C tk hp hf hst0 hfr0 _ h.2 o.2)
end
end
end G4

namespace G4
open PySem PySem.Spec PyProof.Rows L2

/-! ### a def's end -/
section
variable {K : PySem.W.Frag} {g : Str → Option Addr} {RR RR' : List Addr} {F F' H H' : Hp} {s : S} {σ : L2.St} {Q : VK}
theorem Rel.leave {n : Nat} (r : Rel ⟨K, g, H, RR, F⟩ RR' F' s σ H') (hn : RR.length = n) : Rel ⟨K, g, H, RR, F⟩ RR F' ⟨[], s.st.take n⟩ [] H' := by
  have er : RR'.take n = RR := by rw [← hn]; exact take_pre r.pre
  have hl : n ≤ RR'.length := by rw [← hn]; exact r.pre.length_le
  have h1 := r.gc (n := n) (by show RR.length ≤ n; omega) hl
  rw [er] at h1
  have est : (s.gc n).st = s.st.take n := by
    unfold S.gc
    split
    · rename_i e; rw [← e, List.take_length]
    · rfl
  refine ⟨h1.fz, h1.f0, h1.fn, h1.keep, h1.pre, h1.new, h1.nd, h1.rf, ?_, fun m c a p q => ?_, rfl, fun i x h => by simp at h, fun i c h => by simp at h, fun i j c d a h => by simp at h⟩
  · have := h1.stl; rw [est] at this; exact this
  · exact h1.st m c a (by rw [est]; exact p) q
theorem lone_out {n : Nat} {a : Addr} {st : List Cell} (r : Rel ⟨K, g, H, RR, F⟩ RR' F' s σ H') (hf : F' a = none) (hr : a ∉ RR) (h0 : H a = none) : Lone ⟨K, g, H, RR, F⟩ RR F' ⟨[], st⟩ [] a := ⟨hf, hr, h0, fun i c h => by simp at h⟩
theorem cell_low {n : Nat} {a : Addr} {c : Cell} (hp : RR <+: RR') (hn : RR.length = n) (h : CellAt K g RR' F' H' a c) (p : c.pure = true) : CellAt K g RR F' H' a c := by
  have er : RR'.take n = RR := by rw [← hn]; exact take_pre hp
  have := h.low (n := n) p
  rw [er] at this; exact this
theorem finish_ok {n : Nat} {x r' : R} {st' : List Cell} {v : V} (r : Rel ⟨K, g, H, RR, F⟩ RR' F' s σ H') (hn : RR.length = n) (hv : RRel ⟨K, g, H, RR, F⟩ RR' F' s σ H' x v) (h : finish n x s = .ok r' st') :
    ∃ R2, RR <+: R2 ∧ Rel ⟨K, g, H, RR, F⟩ R2 F' ⟨[], st'⟩ [] H' ∧ RRel ⟨K, g, H, RR, F⟩ R2 F' ⟨[], st'⟩ [] H' r' v := by
  have er : RR'.take n = RR := by rw [← hn]; exact take_pre r.pre
  have lv := r.leave hn
  have new_of : ∀ {c : Cell} {a : Addr} {st : List Cell}, CellAt K g RR' F' H' a c → c.pure = true → F' a = none → a ∉ RR → H a = none → RRel ⟨K, g, H, RR, F⟩ RR F' ⟨[], st⟩ [] H' (.new c) (.ref a) := fun h p h1 h2 h3 =>
    ⟨_, rfl, cell_low r.pre hn h p, lone_out (n := n) r h1 h2 h3⟩
  have dat : ∀ {y : D}, RRel ⟨K, g, H, RR, F⟩ RR' F' s σ H' (.d y) v → (if y.pure then FO.ok (.d y) (s.st.take n) else .ok (.d y) s.st) = .ok r' st' → ∃ R2, RR <+: R2 ∧ Rel ⟨K, g, H, RR, F⟩ R2 F' ⟨[], st'⟩ [] H' ∧ RRel ⟨K, g, H, RR, F⟩ R2 F' ⟨[], st'⟩ [] H' r' v := fun {y} hv h => by
    split at h
    · rename_i hp
      cases h
      refine ⟨RR, List.prefix_refl _, lv, ?_⟩
      have := Rep.low (n := n) hv (under_pure n _ hp)
      rw [er] at this
      exact this
    · cases h
      exact ⟨RR', r.pre, ⟨r.fz, r.f0, r.fn, r.keep, r.pre, r.new, r.nd, r.rf, r.stl, r.st, rfl, fun i x h => by simp at h, fun i c h => by simp at h, fun i j c d a h => by simp at h⟩, hv⟩
  cases x with
  | d y =>
    cases y
    case obj k =>
      simp only [finish] at h
      cases hv with
      | @obj _ a ha =>
        split at h
        · rename_i hk
          cases h
          refine ⟨RR, List.prefix_refl _, lv, ?_⟩
          have : RR[k]? = some a := by rw [← er, List.getElem?_take_of_lt hk]; exact ha
          exact Rep.obj this
        · rename_i hk
          split at h
          · rename_i c hc
            cases h
            obtain ⟨h1, h2⟩ := r.st k c a hc ha
            have nr : a ∉ RR := fun z => by
              obtain ⟨j, hj, e⟩ := List.getElem_of_mem z
              have e2 : RR'[j]? = some a := by
                have := List.getElem?_take_of_lt (l := RR') (i := j) (j := n) (by omega)
                rw [er, List.getElem?_eq_getElem hj, e] at this
                exact this.symm
              obtain ⟨g1, e1⟩ := List.getElem?_eq_some_iff.mp ha
              obtain ⟨g2, e3⟩ := List.getElem?_eq_some_iff.mp e2
              have := (List.getElem_inj r.nd).mp (e1.trans e3.symm)
              omega
            exact ⟨RR, List.prefix_refl _, lv, new_of h1 h2 (r.rf a (List.mem_of_getElem? ha)) nr (r.new a (List.mem_of_getElem? ha) nr)⟩
          · cases h
    all_goals exact dat hv (by simpa only [finish] using h)
  | new c =>
    simp only [finish] at h
    split at h
    · rename_i hp
      cases h
      obtain ⟨a, rfl, h1, h2⟩ := hv
      exact ⟨RR, List.prefix_refl _, lv, new_of h1 hp h2.f (fun z => h2.r (r.pre.subset z)) h2.h⟩
    · cases h
  | pl i =>
    simp only [finish] at h
    split at h
    · rename_i c hc
      split at h
      · rename_i hp
        cases h
        obtain ⟨a, h1, h2, h3, h4, h5⟩ := r.so i c hc
        have hv : σ[i]? = some (some v) := hv
        rw [hv] at h1; cases h1
        exact ⟨RR, List.prefix_refl _, lv, new_of h2 hp h3 (fun z => h4 (r.pre.subset z)) h5⟩
      · cases h
    · cases h
end
/-- what the text says of a def: its names, its parameters -/
def ckDef (N ps : List Str) (bs : List Str) (body : Sms) (st : Stmt) : Bool := C8.scC N ps (defScope st) && isFn (defScope st) && ckms ⟨N, defScope st, bs, fun _ => true⟩ body (defBody st)
section
variable {P : Program} {w : World} {K : PySem.W.Frag} {mg : Str → Option Value} {base : Heap} {g : Str → Option Addr}
theorem def_ok {k n : Nat} {x qual : Str} {st : Stmt} {f : Addr} {fd : FuncData} {N ps bs : List Str} {body : Sms} (D : Fun K x qual st f fd) (hck : ckDef N ps bs body st = true) (hb : ∀ y, bs.contains y = true → mg y = none) (o : OkMs P w K mg base g k body) (hn : ps.length = n) :
    FnG P w K mg base (k + 1) f fd ps (spF K g n (runDef N.length body)) := by
  unfold ckDef at hck
  simp only [Bool.and_eq_true] at hck
  obtain ⟨⟨h1, h2⟩, h3⟩ := hck
  have Sc := C8.fnScope_by h1
  refine fn_ofG D Sc (fun vs H Q E h => by rw [h.1, hn]) fun cdv A outer s H vs Q E hr hg h => ?_
  obtain ⟨hl, RR, F, ds, st0, r, hv, q⟩ := h
  let b : Bs := ⟨K, g, H, RR, F⟩
  let X := cxOf (L2.CX P w) P w K mg base N qual (defScope st) f cdv A outer s H E
  have am : Amb X b k := ⟨rfl, Sc.nd, rfl, hr, hg⟩
  have cx : CkX ⟨N, defScope st, bs, fun _ => true⟩ X := ⟨rfl, rfl, fun _ _ => rfl, hb⟩
  have tk : Takes X (fun cls d _ H' => E cls d H') := takes_of rfl rfl rfl rfl
  refine ⟨_, ok_Ms body _ b (fun cls d _ H' => E cls d H') _ _ am cx tk (passes_of rfl) h2 rfl rfl _ h3 o, RR, F, ⟨ds.map .d ++ List.replicate (N.length - ds.length) .un, st0⟩, ?_, ?_⟩
  · have hlen := hv.len
    refine ⟨r.fz, r.f0, r.fn, r.keep, r.pre, r.new, r.nd, r.rf, r.stl, r.st, ?_, fun i x hx => ?_, fun i c hx => ?_, fun i j c d a hx => ?_⟩
    · show (ds.map SV.d ++ List.replicate (N.length - ds.length) SV.un).length = (L2.start N vs).length
      unfold L2.start
      simp only [List.length_append, List.length_map, List.length_replicate, hlen]
    · have hx : (ds.map SV.d ++ List.replicate (N.length - ds.length) SV.un)[i]? = some (.d x) := hx
      by_cases hi : i < ds.length
      · rw [List.getElem?_append_left (by rw [List.length_map]; exact hi), List.getElem?_map, List.getElem?_eq_getElem hi] at hx
        have hx : SV.d ds[i] = SV.d x := Option.some.inj hx
        cases hx
        obtain ⟨v, k1, k2⟩ := hv.get (List.getElem?_eq_getElem hi)
        refine ⟨v, ?_, k2⟩
        unfold L2.start
        rw [List.getElem?_append_left (by rw [List.length_map]; omega), List.getElem?_map, k1]
        rfl
      · rw [List.getElem?_append_right (by rw [List.length_map]; omega), List.getElem?_replicate] at hx
        split at hx <;> cases hx
    · have hx : (ds.map SV.d ++ List.replicate (N.length - ds.length) SV.un)[i]? = some (.own c) := hx
      by_cases hi : i < ds.length
      · rw [List.getElem?_append_left (by rw [List.length_map]; exact hi), List.getElem?_map, List.getElem?_eq_getElem hi] at hx
        cases hx
      · rw [List.getElem?_append_right (by rw [List.length_map]; omega), List.getElem?_replicate] at hx
        split at hx <;> cases hx
    · have hx : (ds.map SV.d ++ List.replicate (N.length - ds.length) SV.un)[i]? = some (.own c) := hx
      by_cases hi : i < ds.length
      · rw [List.getElem?_append_left (by rw [List.length_map]; exact hi), List.getElem?_map, List.getElem?_eq_getElem hi] at hx
        cases hx
      · rw [List.getElem?_append_right (by rw [List.length_map]; omega), List.getElem?_replicate] at hx
        split at hx <;> cases hx
  · have en : RR.length = st0.length := r.stl.symm
    unfold runDef at q
    cases e : exms body ⟨ds.map .d ++ List.replicate (N.length - ds.length) .un, st0⟩ with
    | nx s' =>
      rw [e] at q
      exact fun R2 F2 σ2 H2 p2 e2 r2 => q _ RR F2 H2 (List.prefix_refl _) e2 (r2.leave en) .non
    | rt y s' =>
      rw [e] at q
      simp only at q
      intro R2 F2 σ2 H2 v p2 e2 r2 hv2
      show Q v H2
      cases ef : finish st0.length y s' with
      | ok r' st' =>
        rw [ef] at q
        obtain ⟨R3, p3, r3, k1⟩ := finish_ok r2 en hv2 ef
        exact q v R3 F2 H2 p3 e2 r3 k1
      | ex e st' => unfold finish at ef; split at ef <;> (try split at ef) <;> (try split at ef) <;> cases ef
      | bad => rw [ef] at q; exact q.elim
    | ex y s' =>
      rw [e] at q
      exact fun cls d R2 F2 σ2 H2 p2 e2 r2 xr => q cls d F2 H2 e2 (r2.leave en) xr
    | bk s' => rw [e] at q; exact q.elim
    | ct s' => rw [e] at q; exact q.elim
    | bad => rw [e] at q; exact q.elim
def badF : Fn := fun _ _ => .bad
theorem bad_fn {k n : Nat} {fa : Addr} {fd : FuncData} {ps : List Str} (hn : ps.length = n) : FnG P w K mg base k fa fd ps (spF K g n badF) :=
  ⟨fun vs H Q E h => by rw [h.1, hn], fun A outer s H args us vs Q E hr hg he hb hv h => by
    obtain ⟨_, RR, F, ds, st, _, _, z⟩ := h
    exact z.elim⟩
theorem kn_of {k n : Nat} {x : Str} {f : Fn} {fa : Addr} {fd : FuncData} {ps : List Str} (G : FnG P w K mg base k fa fd ps (spF K g n f)) (m : mg x = some (.ref fa)) (kp : PySem.W.keepIn K (.ref fa) = true) (b : Binds K fd ps []) : Kn P w K mg base g k x f n := ⟨fa, fd, ps, m, kp, G, b⟩
theorem Kn.mono {j k n : Nat} {x : Str} {f : Fn} (h : Kn P w K mg base g j x f n) (l : j ≤ k) : Kn P w K mg base g k x f n := by
  obtain ⟨fa, fd, ps, h1, h2, h3, h4⟩ := h
  exact ⟨fa, fd, ps, h1, h2, h3.mono l, h4⟩
theorem KnK.mono {j k : Nat} {x : Str} {f : Fn} {pm : List Nat} {ks : List Str} (h : KnK P w K mg base g j x f pm ks) (l : j ≤ k) : KnK P w K mg base g k x f pm ks := by
  obtain ⟨fa, fd, ps, h1, h2, h3, h4⟩ := h
  exact ⟨fa, fd, ps, h1, h2, h3.mono l, h4⟩
end

/-! ### the law's own end -/
theorem noCX {P : Program} {w : World} {st : List Env} {H : Hp} {s : Shared} {e : Value} {s' : Shared} (h : L2.CX P w st H s (fun _ _ _ => False) e s') : False := by
  obtain ⟨_, _, _, _, _, _, _, _, _, _, _, _, z⟩ := h
  exact z.elim
theorem law_callG {P : Program} {w : World} {K : PySem.W.Frag} {mg mb : Str → Option Value} {k : Nat} {fa a : Addr} {fd : FuncData} {x : Str} {sp : Sp} {s₁ : Shared} {vs : List Value} {ns : List Int}
    (KX : K.In s₁.heap) (hns : s₁.heap.Ns mainGlobals mg) (hb : s₁.heap.Ns builtinsNs mb) (hbb : ∀ x : Str, x ≠ "__name__" → mb x = bootBuiltins x) (hlim : s₁.heap.NoLimit) (hg : s₁.gens = #[])
    (ha : s₁.heap.get? a = some { cls := .type "list", data := .seq vs.toArray }) (hi : IntsAre vs ns) (hl : ns.length ≤ sizeLine) (hr : Room k callerA)
    (F : ∀ base : Heap, K.In base → base.Ns mainGlobals mg → FnG P w K mg base k fa fd [x] sp) (hbind : ∀ (s : Shared) (u : Value), BindsTo s fd ⟨[u], []⟩ [(x, u)])
    (hsp : ∀ H : Hp, Only H → SqL K H a (ns.map V.int) → sp [.ref a] H (fun v _ => v = .bl true) fun _ _ _ => False) :
    codeAny (model P w) callerA (.call (.ref fa) ⟨[.ref a], []⟩) (fun r s' => r = .ok (.ret (.bool true)) ∧ OldK s₁.heap s'.heap ∧ s'.os = s₁.os ∧ AllBare s'.gens) s₁ := by
  have rv := vals_ints hi
  have lenV := hi.length
  have core : ∀ H : Hp, Only H → SqL K H a (ns.map V.int) → HOk P w H s₁.heap → (∀ b, H b ≠ none → b = a) → (H a ≠ none → K.lookup a = none) →
      codeAny (model P w) callerA (.call (.ref fa) ⟨[.ref a], []⟩) (fun r s' => r = .ok (.ret (.bool true)) ∧ OldK s₁.heap s'.heap ∧ s'.os = s₁.os ∧ AllBare s'.gens) s₁ := by
    intro H hO hS hok hA hK
    have base_of : ∀ {b : Addr} {o : Obj}, s₁.heap.get? b = some o → H b = none → (hidT s₁.heap H).get? b = some o := fun e n => hidT_get e n
    have noA : ∀ {b : Addr} {o : Obj} {es : Array DictEntry} {ep : Nat}, s₁.heap.get? b = some o → o.data = .dict es ep → H b = none := fun {b o es ep} e d => by
      cases q : H b with
      | none => rfl
      | some u =>
        have e' : b = a := hA b (by rw [q]; simp)
        subst e'
        rw [ha] at e; cases e
        have d' : Data.seq vs.toArray _ = Data.dict es ep := d
        cases d'
    have nsK : ∀ {b : Addr} {m : Str → Option Value}, s₁.heap.Ns b m → (hidT s₁.heap H).Ns b m := fun {b m} ⟨o, es, ep, e, d, r⟩ => ⟨o, es, ep, base_of e (noA e d), d, r⟩
    have hKb : K.In (hidT s₁.heap H) := fun b o e => base_of (KX b o e) (by
      cases q : H b with
      | none => rfl
      | some u =>
        have e' : b = a := hA b (by rw [q]; simp)
        subst e'
        rw [hK (by rw [q]; simp)] at e; cases e)
    have hM : Mod K mg (hidT s₁.heap H) := ⟨hKb, nsK hns, ⟨mb, nsK hb, hbb⟩, let ⟨mc, h1, h2⟩ := hlim; ⟨mc, nsK h1, h2⟩⟩
    have e0 : Env0 P w K mg (hidT s₁.heap H) callerA [] s₁ H := ⟨rfl, hM, fun b o e => of_hidT e, Nat.le_of_eq (hidT_size _ _), trivial, fun b hb => absurd (show b ∈ ([] : List Addr) from hb) (by simp), hok, .of_eq hg⟩
    refine codeAny_mono ((F _ hKb (nsK hns)).run callerA [] s₁ H ⟨[.ref a], []⟩ [.ref a] [.ref a] _ _ hr rfl e0 (hbind s₁ (.ref a)) (.cons rfl .nil) (hsp H hO hS)) fun r s' h => ?_
    cases r with
    | error e => exact (noCX h).elim
    | ok fl =>
      cases fl with
      | next => exact False.elim h
      | brk => exact False.elim h
      | cont => exact False.elim h
      | ret u =>
        obtain ⟨v, H', os, bare, un, hok', r', q⟩ := h
        have q' : v = .bl true := q
        subst q'
        obtain rfl : u = Value.bool true := r'
        refine ⟨rfl, OldK.of_keep fun b o e => ?_, os, bare⟩
        cases q : H b with
        | none => exact un.keep b o e q (by intro z; exact absurd (show b ∈ ([] : List Addr) from z) (by simp)) (by simp)
        | some u =>
          rcases hO b with z | ⟨ob, xs, z⟩
          · rw [q] at z; cases z
          · have z2 := un.frzs b ob _ z
            obtain ⟨e1, _⟩ := hok b _ z
            obtain ⟨e2, _⟩ := hok' b _ z2
            rw [e] at e1; cases e1
            exact e2
  cases hk : K.lookup a with
  | some o =>
    have e := KX a o hk
    rw [ha] at e
    cases e
    refine core (fun _ => none) (fun _ => .inl rfl) (.inr ⟨_, vs.toArray, _, hk, rfl, rfl, rfl, by rw [List.size_toArray, lenV]; exact hl, by simpa using rv⟩) (fun b u z => by have z' : (none : Option HO) = some u := z; cases z') (fun b z => absurd rfl z) fun z => absurd rfl z
  | none =>
    refine core (fun b => if b = a then some (.frz { cls := .type "list", data := .seq vs.toArray } (.lst (ns.map V.int))) else none) (fun b => ?_) (.inl (.inr ⟨{ cls := .type "list", data := .seq vs.toArray }, if_pos rfl⟩)) (fun b u z => ?_) (fun b z => ?_) fun _ => hk
    · by_cases hb : b = a
      · exact .inr ⟨_, _, if_pos hb⟩
      · exact .inl (if_neg hb)
    · by_cases hb : b = a
      · have z' := (if_pos hb).symm.trans z
        cases z'
        subst hb
        exact ⟨ha, by rw [List.length_map]; exact hl, vs, _, rv, ha⟩
      · have z' := (if_neg hb).symm.trans z
        cases z'
    · by_cases hb : b = a
      · exact hb
      · exact absurd (if_neg hb) z
/-- the law's value, by the little Python, is the law's value -/
theorem sp_law {K : PySem.W.Frag} {g : Str → Option Addr} {f : Fn} {H : Hp} {a : Addr} {ns : List Int} {st : List Cell} (hS : SqL K H a (ns.map V.int)) (h : f [.scr ns] [] = .ok (.d (.bl true)) st) : spF K g 1 f [.ref a] H (fun v _ => v = .bl true) fun _ _ _ => False := by
  refine ⟨rfl, [], H, [.scr ns], [], ?_, .cons (.scr hS) .nil, ?_⟩
  · exact ⟨Same.refl _, Same.refl _, fun _ _ h => .inl h, fun _ _ h _ => h, List.prefix_refl _, fun _ m => by simp at m, List.nodup_nil, fun _ m => by simp at m, rfl, fun n c a h => by simp at h, rfl, fun i x h => by simp at h, fun i c h => by simp at h, fun i j c d a h => by simp at h⟩
  · rw [h]
    intro v R' F' H' _ _ _ hv
    cases hv
    rfl
theorem walk_ofG {l : PySem.W.OpenLaw} {n k : Nat} {q : Program} {loose : List Str} {XP : (Str → Option Value) → Heap → Prop} {YP : World → Heap → Prop} {d : DefRec} {K : Params → PySem.W.Frag} {f : Fn} {x : Str}
    (hn : l.most = some n) (hn2 : n ≤ sizeLine) (hdf : d.params.defaults = []) (hr : Room k callerA)
    (hY : ∀ (w : World) (h : Heap), YP w h → (K w.params).In h)
    (F : ∀ (w : World) (mg : Str → Option Value) (fa : Addr) (h : Heap), (K w.params).In h → h.Ns mainGlobals mg → mg d.name = some (.ref fa) →
      ∃ (fd : FuncData) (g : Str → Option Addr), (∀ (s : Shared) (u : Value), BindsTo s fd ⟨[u], []⟩ [(x, u)]) ∧
        ∀ base : Heap, (K w.params).In base → base.Ns mainGlobals mg → FnG l.prog w (K w.params) mg base k fa fd [x] (spF (K w.params) g 1 f))
    (hf : ∀ ns : List Int, ns.length ≤ n → (∀ i ∈ ns, Builtin.Int.intBits i ≤ 1048576) → ∃ st, f [.scr ns] [] = .ok (.d (.bl true)) st) :
    PySem.W.WalkO q loose XP YP l.row.toRowW d [] (fun f vs => PySem.call f vs) := by
  refine Att.attach_callB hn hdf fun w s₀ s₁ mg mb fa o pm cd doc a vs ns G Y ho hd hcd hmg hobj hints hlen hbits hg => ?_
  have KX := hY w _ Y
  obtain ⟨fd, g, hb, hF⟩ := F w mg fa _ KX G.T.g hmg
  obtain ⟨st, hv⟩ := hf ns hlen hbits
  exact law_callG KX G.T.g G.T.b G.T.builtins G.T.nolimit hg hobj hints (Nat.le_trans hlen hn2) hr hF hb fun H hO hS => sp_law hS hv
end G4

namespace G4
open PySem L2
/-! ### how the little Python runs: comprehensions, loops -/
theorem hideSl_twice (sl : List SV) (vs : List Nat) : hideSl (hideSl sl vs) vs = hideSl sl vs := by
  apply List.ext_getElem?
  intro i
  by_cases h : i ∈ vs
  · have key : ∀ (sl : List SV) (vs : List Nat), i ∈ vs → (hideSl sl vs)[i]? = if i < sl.length then some .un else none := fun sl vs h => by
      induction vs with
      | nil => simp at h
      | cons v vs ih =>
        rw [hideSl]
        by_cases e : v = i
        · subst e
          rw [List.getElem?_set]
          simp [hideSl_len]
        · rw [List.getElem?_set_ne e]
          exact ih (by simpa [Ne.symm e] using h)
    rw [key _ _ h, key _ _ h, hideSl_len]
  · rw [hideSl_out h]
theorem back_eq {old sl : List SV} {vs : List Nat} (h : hideSl sl vs = hideSl old vs) : backSl old sl vs = old := by
  have hl : sl.length = old.length := by rw [← hideSl_len sl vs, h, hideSl_len]
  apply List.ext_getElem?
  intro i
  have key : ∀ (vs : List Nat), i ∈ vs → (backSl old sl vs)[i]? = if i < sl.length then some (old.getD i .un) else none := fun vs h => by
    induction vs with
    | nil => simp at h
    | cons v vs ih =>
      rw [backSl]
      by_cases e : v = i
      · subst e
        rw [List.getElem?_set]
        simp [backSl_len]
      · rw [List.getElem?_set_ne e]
        exact ih (by simpa [Ne.symm e] using h)
  have key2 : ∀ (vs : List Nat), i ∉ vs → (backSl old sl vs)[i]? = sl[i]? := fun vs h => by
    induction vs with
    | nil => rfl
    | cons v vs ih =>
      rw [backSl, List.getElem?_set_ne (by intro e; exact h (by simp [e]))]
      exact ih fun z => h (List.mem_cons_of_mem _ z)
  by_cases hi : i ∈ vs
  · rw [key vs hi, hl]
    split
    · rename_i h3
      rw [List.getD_eq_getElem?_getD, List.getElem?_eq_getElem h3]; rfl
    · rename_i h3
      rw [List.getElem?_eq_none (by omega)]
  · have e := congrArg (fun l => l[i]?) h
    simp only [hideSl_out hi] at e
    rw [key2 vs hi, e]
/-- a comprehension's loop: each turn begins at S0 -/
theorem lcLoop_eq {vs : List Nat} {tgt : D → S → Option S} {cond : S → O Bool} {elt : S → O D} {S0 : S} (f : D → Option D) :
    ∀ (items acc : List D) (s : S), s.hide vs = S0 → (∀ x ∈ items, ∃ s1, tgt x S0 = some s1 ∧ ((f x = none ∧ ∃ s2, cond s1 = .ok false s2 ∧ s2.hide vs = S0) ∨ ∃ y s2 s3, f x = some y ∧ cond s1 = .ok true s2 ∧ elt s2 = .ok y s3 ∧ s3.hide vs = S0)) →
    ∃ t, lcLoop vs tgt cond elt items acc s = .ok (acc ++ items.filterMap f) t ∧ t.hide vs = S0
  | [], acc, s, hs, _ => ⟨s, by simp [lcLoop], hs⟩
  | x :: l, acc, s, hs, h => by
    obtain ⟨s1, h1, h2⟩ := h x List.mem_cons_self
    have rest := fun acc s hs => lcLoop_eq f l acc s hs fun y hy => h y (List.mem_cons_of_mem _ hy)
    rw [lcLoop, hs, h1]
    rcases h2 with ⟨h2, s2, h3, h4⟩ | ⟨y, s2, s3, h2, h3, h4, h5⟩
    · obtain ⟨t, g1, g2⟩ := rest acc s2 h4
      refine ⟨t, ?_, g2⟩
      simp only [h3, O.bind, List.filterMap_cons, h2]
      rw [if_neg Bool.false_ne_true]; exact g1
    · obtain ⟨t, g1, g2⟩ := rest (acc ++ [y]) s3 h5
      refine ⟨t, ?_, g2⟩
      simp only [h3, O.bind, h4, List.filterMap_cons, h2]
      simp only [if_true]; rw [g1]; simp
/-- a comprehension -/
theorem ev_lc {own : List (Str × Nat)} {e : E} {g : T} {src : Src} {c : EO} {s : S} {items : List D} (f : D → Option D) (h1 : evSrc src s = .ok items s) (h2 : items.length ≤ big) (h3 : (own.all fun p => !(s.sl.getD p.2 .un).isOwn) = true)
    (h : ∀ x ∈ items, ∃ s1, T.asg g x (s.hide (own.map (·.2))) = some s1 ∧ ((f x = none ∧ ∃ s2, evc c s1 = .ok false s2 ∧ s2.hide (own.map (·.2)) = s.hide (own.map (·.2))) ∨
      ∃ y s2 s3, f x = some y ∧ evc c s1 = .ok true s2 ∧ (ev e s2).val = .ok y s3 ∧ s3.hide (own.map (·.2)) = s.hide (own.map (·.2)))) :
    ev (.lc own e g src c) s = .ok (.new (.lst (items.filterMap f))) s := by
  obtain ⟨t, g1, g2⟩ := lcLoop_eq (vs := own.map (·.2)) (tgt := fun x s => T.asg g x s) (cond := fun s => evc c s) (elt := fun s => (ev e s).val) f items [] s rfl h
  simp only [ev, h1, O.bind, h3, h2, decide_true, Bool.and_self, if_true]
  rw [g1]
  simp only [O.noex, List.nil_append]
  have e1 : (S.hide (own.map (·.2)) t).st = (S.hide (own.map (·.2)) s).st := by rw [g2]
  have e2 : (S.hide (own.map (·.2)) t).sl = (S.hide (own.map (·.2)) s).sl := by rw [g2]
  have e1 : t.st = s.st := e1
  have e2 : hideSl t.sl (own.map (·.2)) = hideSl s.sl (own.map (·.2)) := e2
  rw [back_eq e2, e1]
end G4
namespace G4
open PySem L2
/-! ### the little Python runs: the first part of a sequence alone is looked at -/
section
variable {α β : Type}
/-- what comes behind is held: simp does not look into it -/
inductive Hold {γ : Type} (f : γ) : Type where
  | mk
def O.bnd (o : O α) (f : α → S → O β) (_ : Hold f) : O β := o.bind f
def OS.off (o : O α) (f : α → S → OS) (_ : Hold f) : OS := OS.of o f
def OS.thn (o : OS) (f : S → OS) (_ : Hold f) : OS := o.then f
theorem bnd_eq (o : O α) (f : α → S → O β) : o.bind f = o.bnd f .mk := rfl
theorem off_eq (o : O α) (f : α → S → OS) : OS.of o f = OS.off o f .mk := rfl
theorem thn_eq (o : OS) (f : S → OS) : o.then f = o.thn f .mk := rfl
theorem hb_ok (a : α) (s : S) (f : α → S → O β) (h : Hold f) : (O.ok a s).bnd f h = f a s := rfl
theorem hb_ex (e : Exn) (s : S) (f : α → S → O β) (h : Hold f) : (O.ex e s : O α).bnd f h = .ex e s := rfl
theorem ho_ok (a : α) (s : S) (f : α → S → OS) (h : Hold f) : OS.off (O.ok a s) f h = f a s := rfl
theorem ho_ex (e : Exn) (s : S) (f : α → S → OS) (h : Hold f) : OS.off (O.ex e s : O α) f h = .ex e s := rfl
theorem ht_nx (s : S) (f : S → OS) (h : Hold f) : (OS.nx s).thn f h = f s := rfl
theorem ht_rt (r : R) (s : S) (f : S → OS) (h : Hold f) : (OS.rt r s).thn f h = .rt r s := rfl
theorem ht_ex (r : Exn) (s : S) (f : S → OS) (h : Hold f) : (OS.ex r s).thn f h = .ex r s := rfl
theorem b_ok (a : α) (s : S) (f : α → S → O β) : (O.ok a s).bind f = f a s := rfl
theorem b_ex (e : Exn) (s : S) (f : α → S → O β) : (O.ex e s : O α).bind f = .ex e s := rfl
theorem o_ok (a : α) (s : S) (f : α → S → OS) : OS.of (O.ok a s) f = f a s := rfl
theorem o_ex (e : Exn) (s : S) (f : α → S → OS) : OS.of (O.ex e s : O α) f = .ex e s := rfl
theorem t_nx (s : S) (f : S → OS) : (OS.nx s).then f = f s := rfl
theorem t_rt (r : R) (s : S) (f : S → OS) : (OS.rt r s).then f = .rt r s := rfl
theorem t_ex (r : Exn) (s : S) (f : S → OS) : (OS.ex r s).then f = .ex r s := rfl
theorem opd_d (x : D) (s : S) : (O.ok (R.d x) s).opd = .ok (.d x) s := rfl
theorem opd_pl (x : Nat) (s : S) : (O.ok (R.pl x) s).opd = .ok (.pl x) s := rfl
theorem opd_lst (l : List D) (s : S) : (O.ok (R.new (.lst l)) s).opd = .ok (.d (.lst l)) s := rfl
theorem opd_ex (e : Exn) (s : S) : (O.ex e s : O R).opd = .ex e s := rfl
theorem val_d (x : D) (s : S) : (O.ok (R.d x) s).val = .ok x s := rfl
theorem val_lst (l : List D) (s : S) : (O.ok (R.new (.lst l)) s).val = .ok (.lst l) s := rfl
theorem val_ex (e : Exn) (s : S) : (O.ex e s : O R).val = .ex e s := rfl
theorem opt_some (a : α) (s : S) : O.ofOpt (some a) s = .ok a s := rfl
theorem toO_ok (sl : List SV) (r : R) (st : List Cell) : (FO.ok r st).toO sl = .ok r ⟨sl, st⟩ := rfl
theorem toO_ex (sl : List SV) (r : Exn) (st : List Cell) : (FO.ex r st).toO sl = .ex r ⟨sl, st⟩ := rfl
theorem asBl_ok (b : Bool) (s : S) : asBl (.ok b s) = .ok (.d (.bl b)) s := rfl
/-- a comprehension whose turns leave all as it is -/
theorem ev_lcp {own : List (Str × Nat)} {e : E} {g : T} {src : Src} {c : EO} {s : S} {items : List D} (f : D → Option D) (h1 : evSrc src s = .ok items s) (h2 : items.length ≤ big) (h3 : (own.all fun p => !(s.sl.getD p.2 .un).isOwn) = true)
    (h : ∀ x ∈ items, ∃ s1, T.asg g x (s.hide (own.map (·.2))) = some s1 ∧ s1.hide (own.map (·.2)) = s.hide (own.map (·.2)) ∧ ((f x = none ∧ evc c s1 = .ok false s1) ∨ ∃ y, f x = some y ∧ evc c s1 = .ok true s1 ∧ (ev e s1).val = .ok y s1)) :
    ev (.lc own e g src c) s = .ok (.new (.lst (items.filterMap f))) s := by
  refine ev_lc f h1 h2 h3 fun x hx => ?_
  obtain ⟨s1, g1, g2, g3⟩ := h x hx
  refine ⟨s1, g1, ?_⟩
  rcases g3 with ⟨q1, q2⟩ | ⟨y, q1, q2, q3⟩
  · exact .inl ⟨q1, s1, q2, g2⟩
  · exact .inr ⟨y, s1, s1, q1, q2, q3, g2⟩
end
section
theorem ev_var (i : Nat) (s : S) : ev (.var i) s = match s.sl[i]? with
    | some (.d x) => .ok (.d x) s
    | some (.own _) => .ok (.pl i) s
    | _ => .bad := by first | (simp only [ev]; done) | (simp only [ev]; rfl)
theorem ev_glo (x : Str) (d : D) (s : S) : ev (.glo x d) s = .ok (.d d) s := by first | (simp only [ev]; done) | (simp only [ev]; rfl)
theorem ev_int (i : Int) (s : S) : ev (.int i) s = .ok (.d (.int i)) s := by first | (simp only [ev]; done) | (simp only [ev]; rfl)
theorem ev_str (i : Str) (s : S) : ev (.str i) s = .ok (.d (.str i)) s := by first | (simp only [ev]; done) | (simp only [ev]; rfl)
theorem ev_bl (i : Bool) (s : S) : ev (.bl i) s = .ok (.d (.bl i)) s := by first | (simp only [ev]; done) | (simp only [ev]; rfl)
theorem ev_non (s : S) : ev .non s = .ok (.d .non) s := by first | (simp only [ev]; done) | (simp only [ev]; rfl)
theorem ev_bin (o : Operator) (a b : E) (s : S) : ev (.bin o a b) s = (ev a s).opd.bind fun x s => (ev b s).opd.bind fun y s => binV o x y s := by first | (simp only [ev]; done) | (simp only [ev]; rfl)
theorem ev_not (a : E) (s : S) : ev (.not a) s = (ev a s).opd.bind fun x s => (truV x s).bind fun b s => .ok (.d (.bl (!b))) s := by first | (simp only [ev]; done) | (simp only [ev]; rfl)
theorem ev_and (a b : E) (s : S) : ev (.and a b) s = (ev a s).opd.bind fun x s => match x with
    | .d (.bl true) => ev b s
    | .d (.bl false) => .ok (.d (.bl false)) s
    | _ => .bad := by first | (simp only [ev]; done) | (simp only [ev]; rfl)
theorem ev_or (a b : E) (s : S) : ev (.or a b) s = (ev a s).opd.bind fun x s => match x with
    | .d (.bl true) => .ok (.d (.bl true)) s
    | .d (.bl false) => ev b s
    | _ => .bad := by first | (simp only [ev]; done) | (simp only [ev]; rfl)
theorem ev_ifx (c a b : E) (s : S) : ev (.ifx c a b) s = (evT c s).bind fun k s => if k then ev a s else ev b s := by first | (simp only [ev]; done) | (simp only [ev]; rfl)
theorem ev_cmp (o : CmpOp) (a b : E) (s : S) : ev (.cmp o a b) s = (ev a s).opd.bind fun x s => (ev b s).opd.bind fun y s => asBl (cmpV o x y s) := by first | (simp only [ev]; done) | (simp only [ev]; rfl)
theorem ev_cmp2 (o u : CmpOp) (a b c : E) (s : S) : ev (.cmp2 o u a b c) s = (ev a s).opd.bind fun x s => (ev b s).opd.bind fun y s => (cmpV o x y s).bind fun k s => if k then (ev c s).opd.bind fun z s => asBl (cmpV u y z s) else .ok (.d (.bl false)) s := by first | (simp only [ev]; done) | (simp only [ev]; rfl)
theorem ev_tup (es : Es) (s : S) : ev (.tup es) s = (evs es s).bind fun l s => .ok (.d (.tup l)) s := by first | (simp only [ev]; done) | (simp only [ev]; rfl)
theorem ev_lst (es : Es) (s : S) : ev (.lst es) s = (evs es s).bind fun l s => .ok (.new (.lst l)) s := by first | (simp only [ev]; done) | (simp only [ev]; rfl)
theorem ev_ix (a b : E) (s : S) : ev (.ix a b) s = (ev a s).opd.bind fun x s => (ev b s).opd.bind fun y s => ixV x y s := by first | (simp only [ev]; done) | (simp only [ev]; rfl)
theorem ev_call (x : Str) (F : Fn) (es : Es) (s : S) : ev (.call x F es) s = (evs es s).bind fun l s => (F l s.st).toO s.sl := by first | (simp only [ev]; done) | (simp only [ev]; rfl)
theorem ev_callk (x : Str) (F : Fn) (pm : List Nat) (ks : List Str) (es : Es) (s : S) : ev (.callk x F pm ks es) s = (evs es s).bind fun l s => (F (perm pm l) s.st).toO s.sl := by first | (simp only [ev]; done) | (simp only [ev]; rfl)
theorem ev_bi (b : Bi) (es : Es) (s : S) : ev (.bi b es) s = (evOs es s).bind fun l s => biV b l s := by first | (simp only [ev]; done) | (simp only [ev]; rfl)
theorem ev_isi (a : E) (ts : List Ty) (s : S) : ev (.isi a ts) s = (ev a s).opd.bind fun x s => asBl (isiV ts x s) := by first | (simp only [ev]; done) | (simp only [ev]; rfl)
theorem ev_sset (a : E) (s : S) : ev (.sset a) s = (ev a s).opd.bind fun x s => .ofOpt ((s.rd x).bind ssetD) s := by first | (simp only [ev]; done) | (simp only [ev]; rfl)
end
end G4

namespace G4
open PySem L2
/-! ### comprehensions over told lists, loops with invariants -/
theorem S.hide_st (vs : List Nat) (s : S) : (s.hide vs).st = s.st := rfl
/-- a comprehension over a list of a type -/
theorem lc_gen {α : Type} {own : List (Str × Nat)} {e : E} {g : T} {src : Src} {c : EO} {s : S} {s0 : S} (l : List α) (h : α → D) (F : α → Option D) (h1 : evSrc src s = .ok (l.map h) s0) (h2 : l.length ≤ big) (h3 : (own.all fun p => !(s0.sl.getD p.2 .un).isOwn) = true)
    (k : ∀ a ∈ l, ∃ s1, T.asg g (h a) (s0.hide (own.map (·.2))) = some s1 ∧ s1.hide (own.map (·.2)) = s0.hide (own.map (·.2)) ∧ ((F a = none ∧ evc c s1 = .ok false s1) ∨ ∃ y, F a = some y ∧ evc c s1 = .ok true s1 ∧ (ev e s1).val = .ok y s1)) :
    ev (.lc own e g src c) s = .ok (.new (.lst (l.filterMap F))) s0 := by
  have key : ∀ (l : List α) (acc : List D) (t : S), t.hide (own.map (·.2)) = s0.hide (own.map (·.2)) → (∀ a ∈ l, ∃ s1, T.asg g (h a) (s0.hide (own.map (·.2))) = some s1 ∧ s1.hide (own.map (·.2)) = s0.hide (own.map (·.2)) ∧ ((F a = none ∧ evc c s1 = .ok false s1) ∨ ∃ y, F a = some y ∧ evc c s1 = .ok true s1 ∧ (ev e s1).val = .ok y s1)) →
      ∃ t', lcLoop (own.map (·.2)) (fun x s => T.asg g x s) (fun s => evc c s) (fun s => (ev e s).val) (l.map h) acc t = .ok (acc ++ l.filterMap F) t' ∧ t'.hide (own.map (·.2)) = s0.hide (own.map (·.2)) := by
    intro l
    induction l with
    | nil => exact fun acc t ht _ => ⟨t, by simp [lcLoop], ht⟩
    | cons a l ih =>
      intro acc t ht k
      obtain ⟨s1, g1, g2, g3⟩ := k a List.mem_cons_self
      have k' : ∀ b ∈ l, _ := fun b hb => k b (List.mem_cons_of_mem _ hb)
      rw [List.map_cons, lcLoop, ht, g1]
      rcases g3 with ⟨q1, q2⟩ | ⟨y, q1, q2, q3⟩
      · obtain ⟨t', w1, w2⟩ := ih acc s1 g2 k'
        refine ⟨t', ?_, w2⟩
        simp only [q2, O.bind, List.filterMap_cons, q1]
        rw [if_neg Bool.false_ne_true]; exact w1
      · obtain ⟨t', w1, w2⟩ := ih (acc ++ [y]) s1 g2 k'
        refine ⟨t', ?_, w2⟩
        simp only [q2, O.bind, q3, List.filterMap_cons, q1]
        simp only [if_true]; rw [w1]; simp
  obtain ⟨t, g1, g2⟩ := key l [] s0 rfl k
  simp only [ev, h1, O.bind, h3, List.length_map, h2, decide_true, Bool.and_self, if_true]
  rw [g1]
  simp only [O.noex, List.nil_append]
  have e1 : (S.hide (own.map (·.2)) t).st = (S.hide (own.map (·.2)) s0).st := by rw [g2]
  have e2 : (S.hide (own.map (·.2)) t).sl = (S.hide (own.map (·.2)) s0).sl := by rw [g2]
  have e1 : t.st = s0.st := e1
  have e2 : hideSl t.sl (own.map (·.2)) = hideSl s0.sl (own.map (·.2)) := e2
  rw [back_eq e2, e1]
/-- all of them, mapped -/
theorem lc_map {α : Type} {own : List (Str × Nat)} {e : E} {g : T} {src : Src} {s s0 : S} (l : List α) (h : α → D) (v : α → D) (h1 : evSrc src s = .ok (l.map h) s0) (h2 : l.length ≤ big) (h3 : (own.all fun p => !(s0.sl.getD p.2 .un).isOwn) = true)
    (k : ∀ a ∈ l, ∃ s1, T.asg g (h a) (s0.hide (own.map (·.2))) = some s1 ∧ s1.hide (own.map (·.2)) = s0.hide (own.map (·.2)) ∧ (ev e s1).val = .ok (v a) s1) :
    ev (.lc own e g src .no) s = .ok (.new (.lst (l.map v))) s0 := by
  have := lc_gen (c := .no) l h (fun a => some (v a)) h1 h2 h3 fun a ha => by
    obtain ⟨s1, g1, g2, g3⟩ := k a ha
    exact ⟨s1, g1, g2, .inr ⟨_, rfl, by simp only [evc], g3⟩⟩
  rw [this]; simp
/-- some of them, mapped -/
theorem lc_filt {α : Type} {own : List (Str × Nat)} {e : E} {g : T} {src : Src} {c : E} {s s0 : S} (l : List α) (h : α → D) (p : α → Bool) (v : α → D) (h1 : evSrc src s = .ok (l.map h) s0) (h2 : l.length ≤ big) (h3 : (own.all fun p => !(s0.sl.getD p.2 .un).isOwn) = true)
    (k : ∀ a ∈ l, ∃ s1, T.asg g (h a) (s0.hide (own.map (·.2))) = some s1 ∧ s1.hide (own.map (·.2)) = s0.hide (own.map (·.2)) ∧ evT c s1 = .ok (p a) s1 ∧ (p a = true → (ev e s1).val = .ok (v a) s1)) :
    ev (.lc own e g src (.so c)) s = .ok (.new (.lst ((l.filter p).map v))) s0 := by
  have := lc_gen (c := .so c) l h (fun a => if p a then some (v a) else none) h1 h2 h3 fun a ha => by
    obtain ⟨s1, g1, g2, g3, g4⟩ := k a ha
    refine ⟨s1, g1, g2, ?_⟩
    simp only [evc]
    cases q : p a with
    | false => exact .inl ⟨by simp, by rw [g3, q]⟩
    | true => exact .inr ⟨_, by simp, by rw [g3, q], g4 q⟩
  rw [this]
  congr 3
  clear this k h1 h2
  induction l with
  | nil => rfl
  | cons a l ih => rw [List.filterMap_cons, List.filter_cons, ih]; cases p a <;> rfl
/-- a loop by its invariant -/
theorem for_inv {tgt : D → S → Option S} {body : S → OS} {n : Nat} (I : Nat → S → Prop) : ∀ (items : List D) (j : Nat) (s : S),
    (∀ (i : Nat) (x : D) (s : S), items[i]? = some x → I (j + i) s → ∃ s1 s2, tgt x s = some s1 ∧ (body s1 = .nx s2 ∨ body s1 = .ct s2) ∧ I (j + i + 1) (s2.gc n)) → I j s → ∃ s', forLoop tgt body n items s = .nx s' ∧ I (j + items.length) s'
  | [], j, s, _, h => ⟨s, rfl, h⟩
  | x :: l, j, s, k, h => by
    obtain ⟨s1, s2, g1, g2, g3⟩ := k 0 x s rfl h
    obtain ⟨s', w1, w2⟩ := for_inv I l (j + 1) (s2.gc n) (fun i y t hy ht => by
      have := k (i + 1) y t (by simpa using hy) (by rw [show j + (i + 1) = j + 1 + i by omega]; exact ht)
      rw [show j + (i + 1) = j + 1 + i by omega] at this
      exact this) g3
    refine ⟨s', ?_, by rw [List.length_cons, show j + (l.length + 1) = j + 1 + l.length by omega]; exact w2⟩
    rw [forLoop, g1]
    rcases g2 with g2 | g2 <;> simp only [g2] <;> exact w1
theorem gc_same {s : S} {n : Nat} (h : s.st.length = n) : s.gc n = s := by unfold S.gc; rw [if_pos h]
theorem rangeD_map (n : Nat) : ∀ a : Int, rangeD a n = (List.range n).map fun i : Nat => D.int (a + i) := by
  induction n with
  | zero => intro a; rfl
  | succ n ih =>
    intro a
    rw [rangeD, ih, List.range_succ_eq_map, List.map_cons, List.map_map]
    congr 1
    · simp
    · refine List.map_congr_left fun i _ => ?_
      show D.int _ = D.int _
      congr 1
      simp only [Nat.succ_eq_add_one]
      omega
theorem rangeD0 (n : Nat) : rangeD 0 n = (List.range n).map fun i : Nat => D.int i := by
  rw [rangeD_map]
  refine List.map_congr_left fun i _ => ?_
  rw [Int.zero_add]
/-! ### plain data -/
theorem plainsN_iff (n : Nat) : ∀ l : List D, D.plainsN n l = true ↔ ∀ d ∈ l, D.plainN n d = true
  | [] => by simp [D.plainsN]
  | d :: l => by simp [D.plainsN, plainsN_iff n l]
theorem plain_int' (n : Nat) (i : Int) : D.plainN n (.int i) = true := by cases n <;> rfl
theorem plain_lst (n : Nat) (l : List D) : D.plainN (n + 1) (.lst l) = D.plainsN n l := rfl
theorem plain_tup (n : Nat) (l : List D) : D.plainN (n + 1) (.tup l) = D.plainsN n l := rfl
theorem plain_ints (n : Nat) (l : List Int) : D.plainsN n (l.map D.int) = true := (plainsN_iff n _).mpr fun d hd => by
  obtain ⟨i, _, rfl⟩ := List.mem_map.mp hd
  exact plain_int' n i
mutual
theorem eqv_refl : ∀ (n : Nat) (d : D), D.plainN n d = true → D.eqv d d = true
  | _, .non, _ => rfl
  | _, .bl b, _ => by cases b <;> rfl
  | _, .int i, _ => by simp [D.eqv]
  | _, .str x, _ => by simp [D.eqv]
  | n + 1, .tup l, h => by rw [D.eqv]; exact eqvs_refl n l h
  | n + 1, .lst l, h => by rw [D.eqv]; exact eqvs_refl n l h
  | 0, .tup l, h => by cases h
  | 0, .lst l, h => by cases h
  | 0, .dct l, h => by cases h
  | n + 1, .dct l, h => by cases h
  | 0, .obj l, h => by cases h
  | n + 1, .obj l, h => by cases h
  | 0, .fn l, h => by cases h
  | n + 1, .fn l, h => by cases h
  | 0, .scr l, h => by cases h
  | n + 1, .scr l, h => by cases h
theorem eqvs_refl : ∀ (n : Nat) (l : List D), D.plainsN n l = true → D.eqvs l l = true
  | _, [], _ => rfl
  | n, d :: l, h => by
    simp only [D.plainsN, Bool.and_eq_true] at h
    rw [D.eqvs, eqv_refl n d h.1, eqvs_refl n l h.2]; rfl
end
theorem opEq_str (x y : Str) : opEq (.str x) (.str y) = some (decide (x = y)) := rfl
theorem opEq_int (i : Int) (d : D) : opEq (.int i) d = if (D.int i).plain && d.plain then some ((D.int i).eqv d) else none := rfl
theorem opEq_bl (i : Bool) (d : D) : opEq (.bl i) d = if (D.bl i).plain && d.plain then some ((D.bl i).eqv d) else none := rfl
theorem opEq_non (d : D) : opEq .non d = if D.plain .non && d.plain then some (D.eqv .non d) else none := rfl
theorem opEq_lst (i : List D) (d : D) : opEq (.lst i) d = if (D.lst i).plain && d.plain then some ((D.lst i).eqv d) else none := rfl
theorem opEq_tup (i : List D) (d : D) : opEq (.tup i) d = if (D.tup i).plain && d.plain then some ((D.tup i).eqv d) else none := rfl
theorem opEq_self {d : D} (h : d.plain = true) : opEq d d = some true := by
  cases d <;> simp [opEq, h, eqv_refl 60 _ h]
theorem eqv_int (i j : Int) : (D.int i).eqv (D.int j) = (i == j) := by simp only [D.eqv]
end G4
namespace G4
open PySem L2
def valPl (i : Nat) (sl : List SV) (st : List Cell) : Option SV → O D
  | some (.own c) => match c.view with
    | some x => .ok x ⟨sl.set i (.d x), st⟩
    | none => .bad
  | some (.d x) => .ok x ⟨sl, st⟩
  | _ => .bad
theorem val_pl (i : Nat) (sl : List SV) (st : List Cell) : (O.ok (R.pl i) ⟨sl, st⟩).val = valPl i sl st sl[i]? := by
  simp only [O.val, O.bind, S.fz]
  cases h : sl[i]? with
  | none => rfl
  | some v => cases v with
    | un => rfl
    | d x => rfl
    | own c =>
      simp only [valPl]
      cases c.view <;> rfl
theorem valPl_lst (i : Nat) (sl : List SV) (st : List Cell) (l : List D) : valPl i sl st (some (.own (.lst l))) = .ok (.lst l) ⟨sl.set i (.d (.lst l)), st⟩ := rfl
theorem valPl_d (i : Nat) (sl : List SV) (st : List Cell) (l : D) : valPl i sl st (some (.d l)) = .ok l ⟨sl, st⟩ := rfl
theorem plain_non (n : Nat) : D.plainN n .non = true := by cases n <;> rfl
theorem plain_bl (n : Nat) (b : Bool) : D.plainN n (.bl b) = true := by cases n <;> rfl
theorem pures_ints (l : List Int) : D.pures (l.map D.int) = true := by
  induction l with
  | nil => rfl
  | cons i l ih => rw [List.map_cons, D.pures, D.pure, ih]; rfl
theorem at1 (x : D) : atI [x] 0 = some x := rfl
theorem at2 (x y : D) : atI [x, y] 0 = some x ∧ atI [x, y] 1 = some y := ⟨rfl, rfl⟩
theorem at3 (x y z : D) : atI [x, y, z] 0 = some x ∧ atI [x, y, z] 1 = some y ∧ atI [x, y, z] 2 = some z := ⟨rfl, rfl, rfl⟩
theorem at4 (x y z u : D) : atI [x, y, z, u] 0 = some x ∧ atI [x, y, z, u] 1 = some y ∧ atI [x, y, z, u] 2 = some z ∧ atI [x, y, z, u] 3 = some u := ⟨rfl, rfl, rfl, rfl⟩
theorem at5 (x y z u v : D) : atI [x, y, z, u, v] 0 = some x ∧ atI [x, y, z, u, v] 1 = some y ∧ atI [x, y, z, u, v] 2 = some z ∧ atI [x, y, z, u, v] 3 = some u ∧ atI [x, y, z, u, v] 4 = some v := ⟨rfl, rfl, rfl, rfl, rfl⟩
theorem intsD_map (l : List Int) : intsD (l.map D.int) = some l := by
  induction l with
  | nil => rfl
  | cons i l ih => rw [List.map_cons, intsD, ih]; rfl
theorem blsD_map (l : List Bool) : blsD (l.map D.bl) = some l := by
  induction l with
  | nil => rfl
  | cons i l ih => rw [List.map_cons, blsD, ih]; rfl
theorem cut1 (l : List D) : cut l (some 1) none = l.drop 1 := by
  unfold cut
  rw [show HT.sIx l.length 0 (some 1) = min 1 l.length from HT.sIx_nat l.length 0 1, HT.sIx_none]
  cases l with
  | nil => rfl
  | cons x r =>
    rw [show min 1 (x :: r).length = 1 by rw [List.length_cons]; omega]
    rw [List.take_of_length_le]
    rw [List.length_drop]
    exact Nat.le_refl _
theorem big_le {n : Nat} (h : n ≤ 1000000) : n ≤ big := by show n ≤ 16777216; omega
/-- a def's end -/
def OS.fin (n : Nat) : OS → FO
  | .nx s => .ok (.d .non) (s.st.take n)
  | .rt r s => finish n r s
  | .ex e s => .ex e (s.st.take n)
  | _ => .bad
theorem tb_nx (c : Str) (h : Hd) (s : S) : OS.tryB c h (.nx s) = .nx s := rfl
theorem tb_rt (c : Str) (h : Hd) (x : R) (s : S) : OS.tryB c h (.rt x s) = .rt x s := rfl
theorem tb_ex (c : Str) (h : Hd) (e : Exn) (s : S) : OS.tryB c h (.ex e s) = if e.c = c then hdS h e s else .bad := rfl
theorem hd_setB (i : Nat) (k : Bool) (e : Exn) (s : S) : hdS (.setB i k) e s = .nx ⟨s.sl.set i (.d (.bl k)), s.st⟩ := rfl
theorem hd_setT (j i : Nat) (x y : D) (c : Str) (s : S) : hdS (.setT j i "word" "number") ⟨c, [("word", x), ("number", y)]⟩ s = match s.sl[j]? with
    | some .un => .nx ⟨((s.sl.set j .un).set i (.d (.tup [x, y]))).set j .un, s.st⟩
    | _ => .bad := by
  have h1 : (([("word", x), ("number", y)] : List (Str × D)).lookup ("word" : Str)) = some x := by rw [List.lookup_cons, beq_self_eq_true]
  have h2 : (([("word", x), ("number", y)] : List (Str × D)).lookup ("number" : Str)) = some y := by rw [List.lookup_cons, show (("number" : Str) == "word") = false by decide, List.lookup_cons, beq_self_eq_true]
  simp only [hdS, h1, h2]
  cases s.sl[j]? with
  | none => rfl
  | some z => cases z <;> rfl
theorem hd_retT (j : Nat) (x y : D) (c : Str) (s : S) : hdS (.retT j "word" "number") ⟨c, [("word", x), ("number", y)]⟩ s = match s.sl[j]? with
    | some .un => .rt (.d (.tup [x, y])) ⟨s.sl.set j .un, s.st⟩
    | _ => .bad := by
  have h1 : (([("word", x), ("number", y)] : List (Str × D)).lookup ("word" : Str)) = some x := by rw [List.lookup_cons, beq_self_eq_true]
  have h2 : (([("word", x), ("number", y)] : List (Str × D)).lookup ("number" : Str)) = some y := by rw [List.lookup_cons, show (("number" : Str) == "word") = false by decide, List.lookup_cons, beq_self_eq_true]
  simp only [hdS, h1, h2]
  cases s.sl[j]? with
  | none => rfl
  | some z => cases z <;> rfl
theorem run_eq (m : Nat) (body : Sms) (args : List D) (st : List Cell) : runDef m body args st = OS.fin st.length (exms body ⟨args.map .d ++ List.replicate (m - args.length) .un, st⟩) := by
  unfold runDef
  generalize exms body ⟨args.map .d ++ List.replicate (m - args.length) .un, st⟩ = o
  cases o <;> rfl
theorem fin_nx (n : Nat) (s : S) : OS.fin n (.nx s) = .ok (.d .non) (s.st.take n) := rfl
theorem fin_rt (n : Nat) (r : R) (s : S) : OS.fin n (.rt r s) = finish n r s := rfl
theorem fin_ex (n : Nat) (r : Exn) (s : S) : OS.fin n (.ex r s) = .ex r (s.st.take n) := rfl
theorem small_of {i : Int} (h : -(2 ^ 62) < i ∧ i < 2 ^ 62) : small i = true := by
  refine decide_eq_true ?_
  by_cases z : i.natAbs = 0
  · rw [z]; decide
  · exact (Nat.log2_lt z).mpr (by omega)
theorem small_nat {j : Nat} (h : j ≤ 1000000) : small (j : Int) = true := small_of (by omega)
theorem rng1_eq (i : Int) : rng1Sem [.int i] = (bif small i then some (rangeD 0 i.toNat) else none) := by
  show (if small i = true then some (rangeD 0 i.toNat) else none) = _
  cases small i <;> rfl
theorem rng1_nat {j : Nat} (h : j ≤ 1000000) : rng1Sem [.int (j : Int)] = some ((List.range j).map fun i : Nat => D.int i) := by
  rw [rng1_eq, small_nat h, Int.toNat_natCast, rangeD0]; rfl
theorem ixN_nat' {n j : Nat} (hj : j < n) : ixN n (j : Int) = some j := by
  unfold ixN
  rw [if_pos (by omega), if_pos (by omega)]
  simp
/-! ### several names at once: the store in between -/
theorem gc_push {sl : List SV} {a l : List Cell} {c : Cell} {n : Nat} (h : a.length = n) : S.gc n ⟨sl, a ++ c :: l⟩ = ⟨sl.map (SV.keep n), a⟩ := by
  unfold S.gc
  rw [if_neg (by show ¬ (a ++ c :: l).length = n; rw [List.length_append, List.length_cons]; omega)]
  rw [List.take_left' h]
theorem gc_id {sl : List SV} {a : List Cell} {n : Nat} (h : a.length = n) : S.gc n ⟨sl, a⟩ = ⟨sl, a⟩ := gc_same h
theorem take_push {a l : List Cell} {c : Cell} {n : Nat} (h : a.length = n) : (a ++ c :: l).take n = a := List.take_left' h
theorem take_id {a : List Cell} {n : Nat} (h : a.length = n) : a.take n = a := by rw [← h, List.take_length]
theorem get_app0 {a l : List Cell} {c : Cell} {n : Nat} (h : a.length = n) : (a ++ c :: l)[n]? = some c := by
  rw [List.getElem?_append_right (by omega), h, Nat.sub_self]; rfl
theorem get_app1 {a l : List Cell} {c d : Cell} {n : Nat} (h : a.length = n) : (a ++ c :: d :: l)[n + 1]? = some d := by
  rw [List.getElem?_append_right (by omega), h, Nat.add_sub_cancel_left]; rfl
theorem get_app2 {a l : List Cell} {c d e : Cell} {n : Nat} (h : a.length = n) : (a ++ c :: d :: e :: l)[n + 2]? = some e := by
  rw [List.getElem?_append_right (by omega), h, Nat.add_sub_cancel_left]; rfl
theorem isNew0 (n : Nat) : D.isNew n (.obj n) = some n := by simp only [D.isNew, Nat.lt_irrefl, if_false]
theorem isNew1 (n k : Nat) : D.isNew n (.obj (n + k)) = some (n + k) := by simp only [D.isNew, show ¬ (n + k < n) by omega, if_false]
theorem isNew_int (n : Nat) (i : Int) : D.isNew n (.int i) = none := rfl
theorem isNew_str (n : Nat) (i : Str) : D.isNew n (.str i) = none := rfl
theorem isNew_bl (n : Nat) (i : Bool) : D.isNew n (.bl i) = none := rfl
theorem isNew_non (n : Nat) : D.isNew n .non = none := rfl
theorem isNew_tup (n : Nat) (l : List D) : D.isNew n (.tup l) = none := rfl
theorem isNew_lst (n : Nat) (l : List D) : D.isNew n (.lst l) = none := rfl
theorem keep_un (n : Nat) : SV.keep n .un = .un := rfl
theorem keep_int (n : Nat) (i : Int) : SV.keep n (.d (.int i)) = .d (.int i) := rfl
theorem keep_bl (n : Nat) (i : Bool) : SV.keep n (.d (.bl i)) = .d (.bl i) := rfl
theorem keep_non (n : Nat) : SV.keep n (.d .non) = .d .non := rfl
theorem keep_str (n : Nat) (i : Str) : SV.keep n (.d (.str i)) = .d (.str i) := rfl
theorem keep_scr (n : Nat) (i : List Int) : SV.keep n (.d (.scr i)) = .d (.scr i) := rfl
theorem keep_obj {n p : Nat} (h : p < n) : SV.keep n (.d (.obj p)) = .d (.obj p) := by
  simp only [SV.keep, D.under, h, decide_true, if_true]
theorem keep_own {n : Nat} {c : Cell} (h : c.pure = true) : SV.keep n (.own c) = .own c := by simp only [SV.keep, h, if_true]
theorem nodup2 (n : Nat) : [n, n + 1].Nodup := by simp
theorem nodup3 (n : Nat) : [n, n + 1, n + 2].Nodup := by simp
theorem ne_succ (n k : Nat) : (n = n + (k + 1)) = False := by simp
theorem ne_succ1 (n : Nat) : (n = n + 1) = False := by simp
theorem keep_own_lst (n : Nat) (l : List D) : SV.keep n (.own (.lst l)) = if D.pures l then .own (.lst l) else .un := rfl
theorem keep_lst (n : Nat) (l : List D) : SV.keep n (.d (.lst l)) = if D.unders n l then .d (.lst l) else .un := rfl
theorem keep_tup (n : Nat) (l : List D) : SV.keep n (.d (.tup l)) = if D.unders n l then .d (.tup l) else .un := rfl
theorem bits10 : Builtin.Int.intBits 10 = 4 := by decide +kernel
theorem asg_nm (i : Nat) (x : D) (s : S) : T.asg (.nm i) x s = some ⟨s.sl.set i (.d x), s.st⟩ := by rw [T.asg]
theorem asg_tp (l : List T) (xs : List D) (s : S) : T.asg (.tp l) (.tup xs) s = if xs.length = l.length then T.asgs l xs s else none := by rw [T.asg]
theorem asgs_nil (s : S) : T.asgs [] [] s = some s := by rw [T.asgs]
theorem asgs_cons (t : T) (l : List T) (x : D) (xs : List D) (s : S) : T.asgs (t :: l) (x :: xs) s = (T.asg t x s).bind fun s => T.asgs l xs s := by rw [T.asgs]
/-- a loop over a list of a type -/
theorem for_lst {α : Type} {t : T} {body : S → OS} {n : Nat} (l : List α) (h : α → D) (I : Nat → S → Prop) (s : S) (h0 : I 0 s)
    (k : ∀ (j : Nat) (a : α) (s : S), l[j]? = some a → I j s → ∃ s1 s2, T.asg t (h a) s = some s1 ∧ (body s1 = .nx s2 ∨ body s1 = .ct s2) ∧ I (j + 1) (s2.gc n)) :
    ∃ s', forLoop (fun x s => T.asg t x s) body n (l.map h) s = .nx s' ∧ I l.length s' := by
  obtain ⟨s', e1, e2⟩ := for_inv (tgt := fun x s => T.asg t x s) (body := body) (n := n) I (l.map h) 0 s (fun i x s hx hI => by
    rw [Nat.zero_add] at hI ⊢
    rw [List.getElem?_map] at hx
    cases q : l[i]? with
    | none => rw [q] at hx; cases hx
    | some a =>
      rw [q] at hx
      cases hx
      exact k i a s q hI) h0
  refine ⟨s', e1, ?_⟩
  rw [Nat.zero_add, List.length_map] at e2
  exact e2
theorem for_rng {v : Nat} {body : S → OS} {n : Nat} (m : Nat) (I : Nat → S → Prop) (s : S) (h0 : I 0 s)
    (k : ∀ (j : Nat) (s : S), j < m → I j s → ∃ s2, (body ⟨s.sl.set v (.d (.int j)), s.st⟩ = .nx s2 ∨ body ⟨s.sl.set v (.d (.int j)), s.st⟩ = .ct s2) ∧ I (j + 1) (s2.gc n)) :
    ∃ s', forLoop (fun x s => T.asg (.nm v) x s) body n ((List.range m).map fun i : Nat => D.int i) s = .nx s' ∧ I m s' := by
  obtain ⟨s', e1, e2⟩ := for_lst (t := .nm v) (body := body) (n := n) (List.range m) (fun i : Nat => D.int i) I s h0 fun j a s ha hI => by
    have hj : j < m := by
      have := (List.getElem?_eq_some_iff.mp ha).1
      simpa using this
    rw [List.getElem?_range hj] at ha
    cases ha
    obtain ⟨s2, g1, g2⟩ := k j s hj hI
    exact ⟨_, s2, asg_nm _ _ _, g1, g2⟩
  rw [List.length_range] at e2
  exact ⟨s', e1, e2⟩
end G4
namespace G4
open PySem L2
/-! ### more of data: equality, membership, repr, what stays under a line -/
theorem eqv_lst (a b : List D) : D.eqv (.lst a) (.lst b) = D.eqvs a b := by rw [D.eqv]
theorem eqv_tup (a b : List D) : D.eqv (.tup a) (.tup b) = D.eqvs a b := by rw [D.eqv]
theorem eqvs_nil : D.eqvs [] [] = true := by rw [D.eqvs]
theorem eqvs_cons (a b : D) (l m : List D) : D.eqvs (a :: l) (b :: m) = (D.eqv a b && D.eqvs l m) := by rw [D.eqvs]
theorem eqv_str (a b : Str) : D.eqv (.str a) (.str b) = decide (a = b) := by rw [D.eqv]
theorem eqvs_ints : ∀ l m : List Int, D.eqvs (l.map .int) (m.map .int) = (l == m)
  | [], [] => by simp [D.eqvs]
  | [], b :: m => by simp [D.eqvs]
  | a :: l, [] => by simp [D.eqvs]
  | a :: l, b :: m => by rw [List.map_cons, List.map_cons, eqvs_cons, eqv_int, eqvs_ints l m]; rfl
theorem mem_ints (i : Int) (l : List Int) : D.mem (.int i) (l.map .int) = decide (i ∈ l) := by
  unfold D.mem
  induction l with
  | nil => simp
  | cons a l ih =>
    rw [List.map_cons, List.any_cons, ih, eqv_int]
    by_cases h : i = a
    · subst h; simp
    · have : (a == i) = false := by simpa using fun e => h e.symm
      simp [this, h]
theorem opIn_ints (i : Int) (l : List Int) : opIn (.int i) (.lst (l.map .int)) = some (decide (i ∈ l)) := by
  have h : ((D.int i).plain && D.plains (l.map D.int)) = true := by rw [show (D.int i).plain = true from rfl, show D.plains (l.map D.int) = true from plain_ints 60 l]; rfl
  show (if (D.int i).plain && D.plains (l.map D.int) then some (D.mem (.int i) (l.map .int)) else none) = _
  rw [if_pos h, mem_ints]
theorem unders_iff (n : Nat) : ∀ l : List D, D.unders n l = true ↔ ∀ d ∈ l, D.under n d = true
  | [] => by simp [D.unders]
  | d :: l => by simp [D.unders, unders_iff n l]
theorem unders_ints (n : Nat) (l : List Int) : D.unders n (l.map .int) = true := (unders_iff n _).mpr fun d hd => by
  obtain ⟨i, _, rfl⟩ := List.mem_map.mp hd
  rfl
theorem set_app {a l : List Cell} {p : Nat} {c : Cell} (h : p < a.length) : a.set p c ++ l = (a ++ l).set p c := by rw [List.set_append_left _ _ h]
theorem set_app0 {a l : List Cell} {c d : Cell} {n : Nat} (h : a.length = n) : (a ++ c :: l).set n d = a ++ d :: l := by
  subst h
  rw [List.set_append_right _ _ (Nat.le_refl _), Nat.sub_self]; rfl
theorem set_app1 {a l : List Cell} {c d e : Cell} {n : Nat} (h : a.length = n) : (a ++ c :: d :: l).set (n + 1) e = a ++ c :: e :: l := by
  subst h
  rw [List.set_append_right _ _ (by omega), Nat.add_sub_cancel_left]; rfl
/-- an int of some 75 digits at most -/
def Fit (i : Int) : Prop := -(2 ^ 250) < i ∧ i < 2 ^ 250
theorem Fit.log {i : Int} (h : Fit i) : i.natAbs.log2 < 250 := by
  obtain ⟨h1, h2⟩ := h
  by_cases z : i.natAbs = 0
  · rw [z]; decide
  · exact (Nat.log2_lt z).mpr (by omega)
theorem fit_int {i : Int} (h : Fit i) : (D.int i).shows = true ∧ (D.int i).cost ≤ 260 := by
  have := h.log
  refine ⟨?_, ?_⟩
  · show decide (i.natAbs.log2 < 1920) = true
    exact decide_eq_true (by omega)
  · show i.natAbs.log2 + 3 ≤ 260
    omega
theorem fit_list {k : Nat} : ∀ l : List D, (∀ d ∈ l, d.shows = true ∧ d.cost ≤ k) → D.showss l = true ∧ D.costs l ≤ (k + 2) * l.length
  | [], _ => ⟨rfl, by simp [D.costs]⟩
  | d :: l, h => by
    obtain ⟨h1, h2⟩ := h d List.mem_cons_self
    obtain ⟨h3, h4⟩ := fit_list l fun x hx => h x (List.mem_cons_of_mem _ hx)
    refine ⟨?_, ?_⟩
    · rw [D.showss, h1, h3]; rfl
    · rw [D.costs, List.length_cons, Nat.mul_add, Nat.mul_one]; omega
theorem fit_ints {l : List Int} (h : ∀ i ∈ l, Fit i) : D.showss (l.map .int) = true ∧ D.costs (l.map .int) ≤ 262 * l.length := by
  have := fit_list (k := 260) (l.map D.int) fun d hd => by
    obtain ⟨i, hi, rfl⟩ := List.mem_map.mp hd
    exact fit_int (h i hi)
  rw [List.length_map] at this
  exact this
theorem repr_lst {l : List D} (hp : D.plainsN 59 l = true) (hs : D.showss l = true) (hc : D.costs l ≤ 1000000) : biRepr [.lst l] = some (.d (.str (toPD (.lst l)).shown)) := by
  have hb : D.costs l + 2 ≤ big := by show D.costs l + 2 ≤ 16777216; omega
  have h : (D.plainsN 59 l && D.showss l && decide (D.costs l + 2 ≤ big)) = true := by
    rw [hp, hs, decide_eq_true hb]; rfl
  show (reprD (.lst l)).map _ = _
  rw [reprD, if_pos h]; rfl
theorem repr_eq (d : D) : biRepr [d] = (reprD d).map fun s => R.d (.str s) := rfl
theorem repr_bl (b : Bool) : reprD (.bl b) = (some (if b then "True" else "False") : Option Str) := rfl
theorem eqv_bl (a b : Bool) : D.eqv (.bl a) (.bl b) = (a == b) := by rw [D.eqv]
end G4
namespace G4
theorem pures_app : ∀ a b : List D, D.pures (a ++ b) = (D.pures a && D.pures b)
  | [], b => by simp [D.pures]
  | d :: a, b => by rw [List.cons_append, D.pures, D.pures, pures_app a b, Bool.and_assoc]
theorem enum_map {α : Type} (h : α → D) : ∀ (l : List α) (k : Nat), enumFrom k (l.map h) = (l.zipIdx k).map fun p => .tup [.int p.2, h p.1]
  | [], _ => rfl
  | a :: l, k => by rw [List.map_cons, enumFrom, enum_map h l (k + 1), List.zipIdx_cons, List.map_cons]
theorem val_dK (l : List (L2.Key × D)) (s : S) : (O.ok (R.new (.dK l)) s).val = .ok (.dct l) s := rfl
theorem putTs_nil (s : S) : putTs [] [] s = .nx s := rfl
theorem putTs_nm (i : Nat) (l : List Tg) (x : D) (xs : List D) (s : S) : putTs (.nm i :: l) (x :: xs) s = putTs l xs ⟨s.sl.set i (.d x), s.st⟩ := rfl
theorem putTs_sub (a b : E) (l : List Tg) (x : D) (xs : List D) (s : S) : putTs (.sub a b :: l) (x :: xs) s = OS.of (ev a s) fun p s => if s.isLst p || s.isDct p then .of (ev b s).val fun k s => match (s.cell p).bind fun c => setIx c k x with
    | some c => match s.put c p with
      | some s => putTs l xs s
      | none => .bad
    | none => .bad else .bad := rfl
/-! ### sorted lists -/
theorem sorted_ext : ∀ l m : List Int, l.Pairwise (· < ·) → m.Pairwise (· < ·) → (∀ x, x ∈ l ↔ x ∈ m) → l = m
  | [], [], _, _, _ => rfl
  | [], b :: m, _, _, h => absurd ((h b).mpr List.mem_cons_self) (by simp)
  | a :: l, [], _, _, h => absurd ((h a).mp List.mem_cons_self) (by simp)
  | a :: l, b :: m, hl, hm, h => by
    obtain ⟨l1, l2⟩ := List.pairwise_cons.mp hl
    obtain ⟨m1, m2⟩ := List.pairwise_cons.mp hm
    have e : a = b := by
      rcases List.mem_cons.mp ((h a).mp List.mem_cons_self) with e | e
      · exact e
      · rcases List.mem_cons.mp ((h b).mpr List.mem_cons_self) with f | f
        · exact f.symm
        · have := m1 a e; have := l1 b f; omega
    subst e
    congr 1
    refine sorted_ext l m l2 m2 fun x => ⟨fun hx => ?_, fun hx => ?_⟩
    · rcases List.mem_cons.mp ((h x).mp (List.mem_cons_of_mem _ hx)) with e | e
      · have := l1 x hx; omega
      · exact e
    · rcases List.mem_cons.mp ((h x).mpr (List.mem_cons_of_mem _ hx)) with e | e
      · have := m1 x hx; omega
      · exact e
theorem isort_lt {l : List Int} (h : l.Nodup) : (isort l).Pairwise (· < ·) := by
  have p : (isort l).Perm l := List.mergeSort_perm l _
  have n : (isort l).Nodup := p.nodup_iff.mpr h
  have s : (isort l).Pairwise fun a b => decide (a ≤ b) = true := List.pairwise_mergeSort (fun a b c h1 h2 => by simp at *; omega) (fun a b => by simp; omega) l
  refine (s.and n).imp fun {a b} ⟨h1, h2⟩ => ?_
  have := of_decide_eq_true h1
  omega
theorem keep_own_dK (n : Nat) (l : List (L2.Key × D)) : SV.keep n (.own (.dK l)) = if D.pureK l then .own (.dK l) else .un := rfl
theorem pureK_nil : D.pureK [] = true := by rw [D.pureK]
theorem back_hide (old sl : List SV) : ∀ vs : List Nat, backSl old (hideSl sl vs) vs = backSl old sl vs := fun vs => by
  have key : ∀ (sl : List SV) (vs : List Nat) (i : Nat), i ∈ vs → (backSl old sl vs)[i]? = if i < sl.length then some (old.getD i .un) else none := fun sl vs i h => by
    induction vs with
    | nil => simp at h
    | cons v vs ih =>
      rw [backSl]
      by_cases e : v = i
      · subst e
        rw [List.getElem?_set]
        simp [backSl_len]
      · rw [List.getElem?_set_ne e]
        exact ih (by simpa [Ne.symm e] using h)
  have key2 : ∀ (sl : List SV) (vs : List Nat) (i : Nat), i ∉ vs → (backSl old sl vs)[i]? = sl[i]? := fun sl vs i h => by
    induction vs with
    | nil => rfl
    | cons v vs ih =>
      rw [backSl, List.getElem?_set_ne (by intro e; exact h (by simp [e]))]
      exact ih fun z => h (List.mem_cons_of_mem _ z)
  apply List.ext_getElem?
  intro i
  by_cases hi : i ∈ vs
  · rw [key _ vs i hi, key _ vs i hi, hideSl_len]
  · rw [key2 _ vs i hi, key2 _ vs i hi, hideSl_out hi]
/-- a comprehension in which a name's own object is kept from the first turn on: sA ahead, sB behind -/
theorem lc_frz {α : Type} {own : List (PySem.Str × Nat)} {e : E} {g : T} {src : Src} {c : EO} {s sA sB : S} (l : List α) (h : α → D) (p : α → Bool) (v : α → D) (h1 : evSrc src s = .ok (l.map h) sA) (h2 : l.length ≤ big) (h3 : (own.all fun p => !(sA.sl.getD p.2 .un).isOwn) = true)
    (hAB : backSl sA.sl (hideSl sB.sl (own.map (·.2))) (own.map (·.2)) = sB.sl)
    (k : ∀ a ∈ l, ∀ s0, (s0 = sA ∨ s0 = sB) → ∃ s1 s2, T.asg g (h a) (s0.hide (own.map (·.2))) = some s1 ∧ evc c s1 = .ok (p a) s2 ∧ ((p a = false ∧ s2.hide (own.map (·.2)) = sB.hide (own.map (·.2))) ∨ (p a = true ∧ ∃ s3, (ev e s2).val = .ok (v a) s3 ∧ s3.hide (own.map (·.2)) = sB.hide (own.map (·.2))))) :
    ev (.lc own e g src c) s = .ok (.new (.lst ((l.filter p).map v))) (if l.isEmpty then sA else sB) := by
  have key : ∀ (l : List α) (acc : List D) (t s0 : S), (s0 = sA ∨ s0 = sB) → t.hide (own.map (·.2)) = s0.hide (own.map (·.2)) →
      (∀ a ∈ l, ∀ s0, (s0 = sA ∨ s0 = sB) → ∃ s1 s2, T.asg g (h a) (s0.hide (own.map (·.2))) = some s1 ∧ evc c s1 = .ok (p a) s2 ∧ ((p a = false ∧ s2.hide (own.map (·.2)) = sB.hide (own.map (·.2))) ∨ (p a = true ∧ ∃ s3, (ev e s2).val = .ok (v a) s3 ∧ s3.hide (own.map (·.2)) = sB.hide (own.map (·.2))))) →
      ∃ t', lcLoop (own.map (·.2)) (fun x s => T.asg g x s) (fun s => evc c s) (fun s => (ev e s).val) (l.map h) acc t = .ok (acc ++ (l.filter p).map v) t' ∧ t'.hide (own.map (·.2)) = (if l.isEmpty then s0 else sB).hide (own.map (·.2)) := by
    intro l
    induction l with
    | nil => exact fun acc t s0 _ ht _ => ⟨t, by simp [lcLoop], ht⟩
    | cons a l ih =>
      intro acc t s0 hs ht k
      obtain ⟨s1, s2, g1, g2, g3⟩ := k a List.mem_cons_self s0 hs
      have k' : ∀ b ∈ l, _ := fun b hb => k b (List.mem_cons_of_mem _ hb)
      have fin : ∀ s' : S, (if l.isEmpty then sB else sB) = sB := fun _ => by split <;> rfl
      rw [List.map_cons, lcLoop, ht, g1]
      rcases g3 with ⟨q1, q2⟩ | ⟨q1, s3, q2, q3⟩
      · obtain ⟨t', w1, w2⟩ := ih acc s2 sB (.inr rfl) q2 k'
        refine ⟨t', ?_, by rw [w2, fin t']; rfl⟩
        simp only [g2, q1, O.bind, List.filter_cons]
        rw [if_neg Bool.false_ne_true, if_neg Bool.false_ne_true]; exact w1
      · obtain ⟨t', w1, w2⟩ := ih (acc ++ [v a]) s3 sB (.inr rfl) q3 k'
        refine ⟨t', ?_, by rw [w2, fin t']; rfl⟩
        simp only [g2, q1, O.bind, q2, List.filter_cons, if_true]
        rw [w1]; simp
  obtain ⟨t, g1, g2⟩ := key l [] sA sA (.inl rfl) rfl k
  simp only [ev, h1, O.bind, h3, List.length_map, h2, decide_true, Bool.and_self, if_true]
  rw [g1]
  simp only [O.noex, List.nil_append]
  cases hl : l.isEmpty
  · rw [hl] at g2
    have e1 : (S.hide (own.map (·.2)) t).st = (S.hide (own.map (·.2)) sB).st := by rw [g2]; rfl
    have e2 : (S.hide (own.map (·.2)) t).sl = (S.hide (own.map (·.2)) sB).sl := by rw [g2]; rfl
    have e1 : t.st = sB.st := e1
    have e2 : hideSl t.sl (own.map (·.2)) = hideSl sB.sl (own.map (·.2)) := e2
    have e3 : backSl sA.sl t.sl (own.map (·.2)) = backSl sA.sl (hideSl t.sl (own.map (·.2))) (own.map (·.2)) := (back_hide _ _ _).symm
    rw [e3, e2, hAB, e1]; rfl
  · rw [hl] at g2
    have e1 : (S.hide (own.map (·.2)) t).st = (S.hide (own.map (·.2)) sA).st := by rw [g2]; rfl
    have e2 : (S.hide (own.map (·.2)) t).sl = (S.hide (own.map (·.2)) sA).sl := by rw [g2]; rfl
    have e1 : t.st = sA.st := e1
    have e2 : hideSl t.sl (own.map (·.2)) = hideSl sA.sl (own.map (·.2)) := e2
    rw [back_eq e2, e1]; rfl
end G4

namespace G4
open PySem PySem.Spec PyProof.Rows L2
def topS (i : Nat) : Stmt := PySem.Challenge.pw_broughtin_k67_whole_entries_put_right.main.body.getD i (.Pass ⟨0, 0, 0, 0⟩)
def k_MOST_MEMBERS : D := (.int 60)
def k_MOST_NUMBER : D := (.int 1000000000000000000000000000000)
def k_WORDS : D := (.tup [(.str "alone"), (.str "brought")])
def k_MOST : D := (.int 1000000000000000000000000000000)
def N_is_integer : List Str := ["thing"]
def b_is_integer : Sms := (.cons (.ret (.and (.isi (.var 0) [.int]) (.not (.isi (.var 0) [.bool]))))
  .nil)
def f_is_integer : Fn := runDef 1 b_is_integer
theorem c_is_integer : ckDef N_is_integer ["thing"] ["isinstance", "bool", "int"] b_is_integer (topS 8) = true := by decide +kernel
def N_is_count : List Str := ["thing"]
def b_is_count : Sms := (.cons (.ret (.and (.call "is_integer" f_is_integer (.cons (.var 0) .nil)) (.cmp2 .LtE .LtE (.int 0) (.var 0) (.glo "MOST_NUMBER" k_MOST_NUMBER))))
  .nil)
def f_is_count : Fn := runDef 1 b_is_count
theorem c_is_count : ckDef N_is_count ["thing"] [] b_is_count (topS 9) = true := by decide +kernel
def N_is_told_member : List Str := ["thing", "words"]
def b_is_told_member : Sms := (.cons (.ifs (.or (.not (.isi (.var 0) [.tuple])) (.or (.cmp .NotEq (.bi .len (.cons (.var 0) .nil)) (.int 3)) (.not (.isi (.ix (.var 0) (.int 1)) [.str])))) (.cons (.ret (.bl false))
  .nil) .nil)
  (.cons (.ret (.and (.call "is_count" f_is_count (.cons (.ix (.var 0) (.int 0)) .nil)) (.and (.cmp .In (.ix (.var 0) (.int 1)) (.var 1)) (.call "is_count" f_is_count (.cons (.ix (.var 0) (.int 2)) .nil)))))
  .nil))
def f_is_told_member : Fn := runDef 2 b_is_told_member
theorem c_is_told_member : ckDef N_is_told_member ["thing", "words"] ["isinstance", "str", "len", "tuple"] b_is_told_member (topS 10) = true := by decide +kernel
def N_is_club_of : List Str := ["thing", "words", "earlier", "later", "item"]
def lc_is_club_of_1 : E := (.lc [("earlier", 2), ("later", 3)] (.cmp .LtE (.ix (.var 2) (.int 0)) (.ix (.var 3) (.int 0))) (.tp [(.nm 2), (.nm 3)]) (.zip (.var 0) (.sl (.var 0) (.so (.int 1)) .no)) .no)
def lc_is_club_of_2 : E := (.lc [("item", 4)] (.call "is_told_member" f_is_told_member (.cons (.var 4) (.cons (.var 1) .nil))) (.nm 4) (.seq (.var 0)) .no)
def b_is_club_of : Sms := (.cons (.ifs (.or (.not (.isi (.var 0) [.list])) (.not (.cmp2 .LtE .LtE (.int 1) (.bi .len (.cons (.var 0) .nil)) (.glo "MOST_MEMBERS" k_MOST_MEMBERS)))) (.cons (.ret (.bl false))
  .nil) .nil)
  (.cons (.ifs (.not (.bi .all (.cons lc_is_club_of_2 .nil))) (.cons (.ret (.bl false))
  .nil) .nil)
  (.cons (.ret (.bi .all (.cons lc_is_club_of_1 .nil)))
  .nil)))
def f_is_club_of : Fn := runDef 5 b_is_club_of
theorem c_is_club_of : ckDef N_is_club_of ["thing", "words"] ["all", "zip", "len", "isinstance", "list"] b_is_club_of (topS 11) = true := by decide +kernel
def N_need_club : List Str := ["thing"]
def b_need_club : Sms := (.cons (.ifs (.not (.call "is_club_of" f_is_club_of (.cons (.var 0) (.cons (.glo "WORDS" k_WORDS) .nil)))) (.cons (.rais "InvalidClub" "not a club")
  .nil) .nil)
  .nil)
def f_need_club : Fn := runDef 1 b_need_club
theorem c_need_club : ckDef N_need_club ["thing"] [] b_need_club (topS 12) = true := by decide +kernel
def N_need_member : List Str := ["club", "member"]
def b_need_member : Sms := (.cons (.ifs (.not (.cmp2 .LtE .Lt (.int 0) (.var 1) (.bi .len (.cons (.var 0) .nil)))) (.cons (.rais "InvalidMember" "there is no such member")
  .nil) .nil)
  .nil)
def f_need_member : Fn := runDef 2 b_need_member
theorem c_need_member : ckDef N_need_member ["club", "member"] ["len"] b_need_member (topS 13) = true := by decide +kernel
def N_days_of : List Str := ["club", "day", "came", "number"]
def lc_days_of_1 : E := (.lc [("day", 1), ("came", 2), ("number", 3)] (.var 1) (.tp [(.nm 1), (.nm 2), (.nm 3)]) (.seq (.var 0)) .no)
def b_days_of : Sms := (.cons (.ret (.sset lc_days_of_1))
  .nil)
def f_days_of : Fn := runDef 4 b_days_of
theorem c_days_of : ckDef N_days_of ["club"] ["sorted", "set"] b_days_of (topS 14) = true := by decide +kernel
def N_brought_of : List Str := ["club", "member", "one"]
def lc_brought_of_1 : E := (.lc [("member", 1), ("one", 2)] (.var 1) (.tp [(.nm 1), (.nm 2)]) (.enum (.var 0)) (.so (.cmp .Eq (.ix (.var 2) (.int 1)) (.str "brought"))))
def b_brought_of : Sms := (.cons (.ret lc_brought_of_1)
  .nil)
def f_brought_of : Fn := runDef 3 b_brought_of
theorem c_brought_of : ckDef N_brought_of ["club"] ["enumerate"] b_brought_of (topS 15) = true := by decide +kernel
def N_table_of : List Str := ["club", "slots", "brought", "day", "came", "number", "found", "free", "slack"]
def fb_table_of_1 : Sms := (.cons (.set 8 (.bin .Sub (.var 7) (.dix (.var 2) (.var 3))))
  (.cons (.expr (.mu .append (.var 6) (.cons (.tup (.cons (.var 3) (.cons (.var 7) (.cons (.var 8) .nil)))) .nil)))
  (.cons (.set 7 (.bin .Add (.var 8) (.dix (.var 1) (.var 3))))
  .nil)))
def tl_table_of_1 : Sms := (.cons (.fors (.nm 3) (.seq (.bi .sorted (.cons (.var 1) .nil))) fb_table_of_1)
  (.cons (.ret (.var 6))
  .nil))
def tl_table_of_2 : Sms := (.cons (.par [6, 7] (.cons (.lst .nil) (.cons (.int 0) .nil)))
  tl_table_of_1)
def fb_table_of_2 : Sms := (.cons (.setix (.var 1) (.var 3) (.bin .Add (.dget (.var 1) (.var 3) (.int 0)) (.var 5)))
  (.cons (.setix (.var 2) (.var 3) (.bin .Add (.dget (.var 2) (.var 3) (.int 0)) (.bi .toInt (.cons (.cmp .Eq (.var 4) (.str "brought")) .nil))))
  .nil))
def tl_table_of_3 : Sms := (.cons (.fors (.tp [(.nm 3), (.nm 4), (.nm 5)]) (.seq (.var 0)) fb_table_of_2)
  tl_table_of_2)
def b_table_of : Sms := (.cons (.par [1, 2] (.cons .dnil (.cons .dnil .nil)))
  tl_table_of_3)
def f_table_of : Fn := runDef 9 b_table_of
theorem c_table_of : ckDef N_table_of ["club"] ["sorted", "int"] b_table_of (topS 16) = true := by decide +kernel
def N_left_over : List Str := ["club", "day", "came", "number"]
def lc_left_over_1 : E := (.lc [("day", 1), ("came", 2), ("number", 3)] (.var 3) (.tp [(.nm 1), (.nm 2), (.nm 3)]) (.seq (.var 0)) .no)
def b_left_over : Sms := (.cons (.ret (.bin .Sub (.bi .sum (.cons lc_left_over_1 .nil)) (.bi .len (.cons (.call "brought_of" f_brought_of (.cons (.var 0) .nil)) .nil))))
  .nil)
def f_left_over : Fn := runDef 4 b_left_over
theorem c_left_over : ckDef N_left_over ["club"] ["sum", "len"] b_left_over (topS 17) = true := by decide +kernel
def N_conflict_in : List Str := ["club", "days", "day", "free", "slack"]
def lc_conflict_in_1 : E := (.lc [("day", 2), ("free", 3), ("slack", 4)] (.var 2) (.tp [(.nm 2), (.nm 3), (.nm 4)]) (.seq (.call "table_of" f_table_of (.cons (.var 0) .nil))) (.so (.cmp .Lt (.var 4) (.int 0))))
def b_conflict_in : Sms := (.cons (.set 1 lc_conflict_in_1)
  (.cons (.ifs (.cmp .NotEq (.var 1) (.lst .nil)) (.cons (.ret (.tup (.cons (.str "day") (.cons (.ix (.var 1) (.int 0)) .nil))))
  .nil) .nil)
  (.cons (.ret (.ifx (.cmp .NotEq (.call "left_over" f_left_over (.cons (.var 0) .nil)) (.int 0)) (.tup (.cons (.str "left") (.cons (.call "left_over" f_left_over (.cons (.var 0) .nil)) .nil))) .non))
  .nil)))
def f_conflict_in : Fn := runDef 5 b_conflict_in
theorem c_conflict_in : ckDef N_conflict_in ["club"] [] b_conflict_in (topS 18) = true := by decide +kernel
def N_conflict_of : List Str := ["club"]
def b_conflict_of : Sms := (.cons (.expr (.call "need_club" f_need_club (.cons (.var 0) .nil)))
  (.cons (.ret (.call "conflict_in" f_conflict_in (.cons (.var 0) .nil)))
  .nil))
def f_conflict_of : Fn := runDef 1 b_conflict_of
theorem c_conflict_of : ckDef N_conflict_of ["club"] [] b_conflict_of (topS 19) = true := by decide +kernel
def N_club_told : List Str := ["club", "member", "item", "others", "ahead", "one"]
def lc_club_told_1 : E := (.lc [("one", 5)] (.var 5) (.nm 5) (.seq (.var 3)) (.so (.cmp .Gt (.ix (.var 5) (.int 0)) (.ix (.var 2) (.int 0)))))
def lc_club_told_2 : E := (.lc [("one", 5)] (.var 5) (.nm 5) (.seq (.var 3)) (.so (.cmp .LtE (.ix (.var 5) (.int 0)) (.ix (.var 2) (.int 0)))))
def b_club_told : Sms := (.cons (.set 3 (.bin .Add (.sl (.var 0) .no (.so (.var 1))) (.sl (.var 0) (.so (.bin .Add (.var 1) (.int 1))) .no)))
  (.cons (.set 4 lc_club_told_2)
  (.cons (.ret (.bin .Add (.bin .Add (.var 4) (.lst (.cons (.var 2) .nil))) lc_club_told_1))
  .nil)))
def f_club_told : Fn := runDef 6 b_club_told
theorem c_club_told : ckDef N_club_told ["club", "member", "item"] [] b_club_told (topS 22) = true := by decide +kernel
def N_one_number : List Str := ["club", "found", "more", "member", "day", "came", "number", "value"]
def fb_one_number_1 : Sms := (.cons (.set 7 (.bin .Sub (.var 6) (.var 2)))
  (.cons (.ifs (.and (.cmp2 .LtE .LtE (.int 0) (.var 7) (.glo "MOST" k_MOST)) (.cmp .Is (.call "conflict_in" f_conflict_in (.cons (.call "club_told" f_club_told (.cons (.var 0) (.cons (.var 3) (.cons (.tup (.cons (.var 4) (.cons (.var 5) (.cons (.var 7) .nil)))) .nil)))) .nil)) .non)) (.cons (.expr (.mu .append (.var 1) (.cons (.tup (.cons (.var 3) (.cons (.var 7) .nil))) .nil)))
  .nil) .nil)
  .nil))
def tl_one_number_1 : Sms := (.cons (.fors (.tp [(.nm 3), (.tp [(.nm 4), (.nm 5), (.nm 6)])]) (.enum (.var 0)) fb_one_number_1)
  (.cons (.ret (.var 1))
  .nil))
def tl_one_number_2 : Sms := (.cons (.par [1, 2] (.cons (.lst .nil) (.cons (.call "left_over" f_left_over (.cons (.var 0) .nil)) .nil)))
  tl_one_number_1)
def b_one_number : Sms := (.cons (.expr (.call "need_club" f_need_club (.cons (.var 0) .nil)))
  tl_one_number_2)
def f_one_number : Fn := runDef 8 b_one_number
theorem c_one_number : ckDef N_one_number ["club"] ["enumerate"] b_one_number (topS 23) = true := by decide +kernel
def N_moves_of : List Str := ["club", "table", "raised", "lowered", "one", "other", "least", "greatest", "day", "free", "slack"]
def fb_moves_of_1 : Sms := (.cons (.ifs (.cmp2 .Lt .LtE (.var 4) (.var 8) (.var 5)) (.cons (.set 6 (.bi .max2 (.cons (.var 6) (.cons (.neg (.var 10)) .nil))))
  .nil) (.cons (.ifs (.cmp2 .Lt .LtE (.var 5) (.var 8) (.var 4)) (.cons (.set 7 (.bi .min2 (.cons (.var 7) (.cons (.var 10) .nil))))
  .nil) (.cons (.ifs (.cmp .Lt (.var 10) (.int 0)) (.cons (.ret .non)
  .nil) .nil)
  .nil))
  .nil))
  .nil)
def tl_moves_of_1 : Sms := (.cons (.fors (.tp [(.nm 8), (.nm 9), (.nm 10)]) (.seq (.var 1)) fb_moves_of_1)
  (.cons (.ret (.ifx (.cmp .LtE (.var 6) (.var 7)) (.tup (.cons (.var 6) (.cons (.var 7) .nil))) .non))
  .nil))
def tl_moves_of_2 : Sms := (.cons (.par [6, 7] (.cons (.int 1) (.cons (.ix (.ix (.var 0) (.var 3)) (.int 2)) .nil)))
  tl_moves_of_1)
def b_moves_of : Sms := (.cons (.par [4, 5] (.cons (.ix (.ix (.var 0) (.var 2)) (.int 0)) (.cons (.ix (.ix (.var 0) (.var 3)) (.int 0)) .nil)))
  tl_moves_of_2)
def f_moves_of : Fn := runDef 11 b_moves_of
theorem c_moves_of : ckDef N_moves_of ["club", "table", "raised", "lowered"] ["max", "min"] b_moves_of (topS 24) = true := by decide +kernel
def N_two_numbers : List Str := ["club", "found", "table", "raised", "lowered", "ends"]
def fb_two_numbers_1 : Sms := (.cons (.set 5 (.ifx (.cmp .NotEq (.var 3) (.var 4)) (.call "moves_of" f_moves_of (.cons (.var 0) (.cons (.var 2) (.cons (.var 3) (.cons (.var 4) .nil))))) .non))
  (.cons (.ifs (.cmp .IsNot (.var 5) .non) (.cons (.expr (.mu .append (.var 1) (.cons (.tup (.cons (.var 3) (.cons (.var 4) (.cons (.ix (.var 5) (.int 0)) (.cons (.ix (.var 5) (.int 1)) .nil))))) .nil)))
  .nil) .nil)
  .nil))
def fb_two_numbers_2 : Sms := (.cons (.fors (.nm 4) (.rng1 (.bi .len (.cons (.var 0) .nil))) fb_two_numbers_1)
  .nil)
def tl_two_numbers_1 : Sms := (.cons (.fors (.nm 3) (.rng1 (.bi .len (.cons (.var 0) .nil))) fb_two_numbers_2)
  (.cons (.ret (.var 1))
  .nil))
def tl_two_numbers_2 : Sms := (.cons (.ifs (.cmp .NotEq (.call "left_over" f_left_over (.cons (.var 0) .nil)) (.int 0)) (.cons (.ret (.var 1))
  .nil) .nil)
  tl_two_numbers_1)
def tl_two_numbers_3 : Sms := (.cons (.par [1, 2] (.cons (.lst .nil) (.cons (.call "table_of" f_table_of (.cons (.var 0) .nil)) .nil)))
  tl_two_numbers_2)
def b_two_numbers : Sms := (.cons (.expr (.call "need_club" f_need_club (.cons (.var 0) .nil)))
  tl_two_numbers_3)
def f_two_numbers : Fn := runDef 6 b_two_numbers
theorem c_two_numbers : ckDef N_two_numbers ["club"] ["range", "len"] b_two_numbers (topS 25) = true := by decide +kernel
def N_one_came : List Str := ["club", "found", "member", "day", "came", "number", "other"]
def fb_one_came_1 : Sms := (.cons (.set 6 (.ifx (.cmp .Eq (.var 4) (.str "alone")) (.str "brought") (.str "alone")))
  (.cons (.ifs (.cmp .Is (.call "conflict_in" f_conflict_in (.cons (.call "club_told" f_club_told (.cons (.var 0) (.cons (.var 2) (.cons (.tup (.cons (.var 3) (.cons (.var 6) (.cons (.var 5) .nil)))) .nil)))) .nil)) .non) (.cons (.expr (.mu .append (.var 1) (.cons (.var 2) .nil)))
  .nil) .nil)
  .nil))
def tl_one_came_1 : Sms := (.cons (.fors (.tp [(.nm 2), (.tp [(.nm 3), (.nm 4), (.nm 5)])]) (.enum (.var 0)) fb_one_came_1)
  (.cons (.ret (.var 1))
  .nil))
def tl_one_came_2 : Sms := (.cons (.set 1 (.lst .nil))
  tl_one_came_1)
def b_one_came : Sms := (.cons (.expr (.call "need_club" f_need_club (.cons (.var 0) .nil)))
  tl_one_came_2)
def f_one_came : Fn := runDef 7 b_one_came
theorem c_one_came : ckDef N_one_came ["club"] ["enumerate"] b_one_came (topS 26) = true := by decide +kernel
def N_stretches_of : List Str := ["days", "found", "first", "day"]
def fb_stretches_of_1 : Sms := (.cons (.ifs (.cmp .Lt (.var 2) (.var 3)) (.cons (.expr (.mu .append (.var 1) (.cons (.tup (.cons (.var 2) (.cons (.bin .Sub (.var 3) (.int 1)) .nil))) .nil)))
  .nil) .nil)
  (.cons (.expr (.mu .append (.var 1) (.cons (.tup (.cons (.var 3) (.cons (.var 3) .nil))) .nil)))
  (.cons (.set 2 (.bin .Add (.var 3) (.int 1)))
  .nil)))
def b_stretches_of : Sms := (.cons (.par [1, 2] (.cons (.lst .nil) (.cons (.int 0) .nil)))
  (.cons (.fors (.nm 3) (.seq (.var 0)) fb_stretches_of_1)
  (.cons (.ret (.ifx (.cmp .LtE (.var 2) (.glo "MOST" k_MOST)) (.starR (.var 1) (.tup (.cons (.var 2) (.cons (.glo "MOST" k_MOST) .nil)))) (.var 1)))
  .nil)))
def f_stretches_of : Fn := runDef 4 b_stretches_of
theorem c_stretches_of : ckDef N_stretches_of ["days"] [] b_stretches_of (topS 27) = true := by decide +kernel
def N_one_day : List Str := ["club", "member", "former", "came", "number", "found", "first", "last"]
def fb_one_day_1 : Sms := (.cons (.ifs (.cmp .Is (.call "conflict_in" f_conflict_in (.cons (.call "club_told" f_club_told (.cons (.var 0) (.cons (.var 1) (.cons (.tup (.cons (.var 6) (.cons (.var 3) (.cons (.var 4) .nil)))) .nil)))) .nil)) .non) (.cons (.ifs (.and (.cmp .NotEq (.var 5) (.lst .nil)) (.cmp .Eq (.bin .Add (.ix (.ix (.var 5) (.neg (.int 1))) (.int 1)) (.int 1)) (.var 6))) (.cons (.setix (.var 5) (.neg (.int 1)) (.tup (.cons (.ix (.ix (.var 5) (.neg (.int 1))) (.int 0)) (.cons (.var 7) .nil))))
  .nil) (.cons (.expr (.mu .append (.var 5) (.cons (.tup (.cons (.var 6) (.cons (.var 7) .nil))) .nil)))
  .nil))
  .nil) .nil)
  .nil)
def tl_one_day_1 : Sms := (.cons (.fors (.tp [(.nm 6), (.nm 7)]) (.seq (.call "stretches_of" f_stretches_of (.cons (.call "days_of" f_days_of (.cons (.bin .Add (.sl (.var 0) .no (.so (.var 1))) (.sl (.var 0) (.so (.bin .Add (.var 1) (.int 1))) .no)) .nil)) .nil))) fb_one_day_1)
  (.cons (.ret (.var 5))
  .nil))
def tl_one_day_2 : Sms := (.cons (.set 5 (.lst .nil))
  tl_one_day_1)
def tl_one_day_3 : Sms := (.cons (.unp (.tp [(.nm 2), (.nm 3), (.nm 4)]) (.ix (.var 0) (.var 1)))
  tl_one_day_2)
def tl_one_day_4 : Sms := (.cons (.expr (.call "need_member" f_need_member (.cons (.var 0) (.cons (.var 1) .nil))))
  tl_one_day_3)
def b_one_day : Sms := (.cons (.expr (.call "need_club" f_need_club (.cons (.var 0) .nil)))
  tl_one_day_4)
def f_one_day : Fn := runDef 8 b_one_day
theorem c_one_day : ckDef N_one_day ["club", "member"] [] b_one_day (topS 28) = true := by decide +kernel
def N__law_bag : List Str := ["script", "stir", "cell"]
def lc__law_bag_1 : E := (.lc [("cell", 2)] (.bin .Mod (.bi .toInt (.cons (.bi .abs (.cons (.var 2) .nil)) .nil)) (.bin .Pow (.bin .Pow (.int 10) (.int 60)) (.int 10))) (.nm 2) (.seq (.sl (.var 0) .no (.so (.int 63)))) .no)
def fb__law_bag_1 : Sms := (.cons (.set 1 (.bin .Mod (.bi .toInt (.cons (.bin .Add (.bin .Add (.bin .Mult (.var 1) (.int 48271)) (.bin .Mod (.bi .toInt (.cons (.var 2) .nil)) (.int 2147483629))) (.int 1)) .nil)) (.int 2147483647)))
  .nil)
def b__law_bag : Sms := (.cons (.set 1 (.int 167))
  (.cons (.fors (.nm 2) (.seq (.sl (.var 0) .no (.so (.int 63)))) fb__law_bag_1)
  (.cons (.ret (.lst (.cons lc__law_bag_1 (.cons (.int 0) (.cons (.int 0) (.cons (.var 1) (.cons (.int 0) .nil)))))))
  .nil)))
def f__law_bag : Fn := runDef 3 b__law_bag
theorem c__law_bag : ckDef N__law_bag ["script"] ["int", "abs"] b__law_bag (topS 30) = true := by decide +kernel
def N__law_stirred : List Str := ["bag", "wide", "found", "k", "mixed"]
def tl__law_stirred_1 : Sms := (.cons (.setix (.var 0) (.int 3) (.bin .Mod (.bi .toInt (.cons (.var 4) .nil)) (.int 2147483647)))
  (.cons (.set 2 (.bin .Add (.bin .Mult (.var 2) (.int 134217728)) (.bin .FloorDiv (.ix (.var 0) (.int 3)) (.int 16))))
  .nil))
def tl__law_stirred_2 : Sms := (.cons (.set 4 (.bin .Add (.bin .Add (.bin .Add (.bin .Pow (.ix (.var 0) (.int 3)) (.int 3)) (.bin .Mult (.int 69621) (.ix (.var 0) (.int 3)))) (.bin .Mult (.int 1031) (.ix (.var 0) (.int 4)))) (.int 1)))
  tl__law_stirred_1)
def fb__law_stirred_1 : Sms := (.cons (.setix (.var 0) (.int 4) (.bin .Add (.ix (.var 0) (.int 4)) (.int 1)))
  tl__law_stirred_2)
def b__law_stirred : Sms := (.cons (.set 2 (.int 0))
  (.cons (.fors (.nm 3) (.rng1 (.bin .Add (.int 1) (.bin .FloorDiv (.bits (.var 1)) (.int 27)))) fb__law_stirred_1)
  (.cons (.ret (.bin .Mod (.bi .toInt (.cons (.var 2) .nil)) (.var 1)))
  .nil)))
def f__law_stirred : Fn := runDef 5 b__law_stirred
theorem c__law_stirred : ckDef N__law_stirred ["bag", "wide"] ["int", "range"] b__law_stirred (topS 31) = true := by decide +kernel
def N__law_draw : List Str := ["bag", "wide", "found"]
def tl__law_draw_1 : Sms := (.cons (.setix (.var 0) (.int 2) (.bin .FloorDiv (.ix (.var 0) (.int 2)) (.var 1)))
  (.cons (.ret (.var 2))
  .nil))
def tl__law_draw_2 : Sms := (.cons (.set 2 (.bin .Mod (.bi .toInt (.cons (.ix (.var 0) (.int 2)) .nil)) (.var 1)))
  tl__law_draw_1)
def b__law_draw : Sms := (.cons (.ifs (.and (.cmp .Eq (.ix (.var 0) (.int 2)) (.int 0)) (.cmp .Lt (.ix (.var 0) (.int 1)) (.bi .len (.cons (.ix (.var 0) (.int 0)) .nil)))) (.cons (.setix (.var 0) (.int 2) (.ix (.ix (.var 0) (.int 0)) (.ix (.var 0) (.int 1))))
  (.cons (.setix (.var 0) (.int 1) (.bin .Add (.ix (.var 0) (.int 1)) (.int 1)))
  .nil)) (.cons (.ifs (.cmp .Eq (.ix (.var 0) (.int 2)) (.int 0)) (.cons (.ret (.call "_law_stirred" f__law_stirred (.cons (.var 0) (.cons (.var 1) .nil))))
  .nil) .nil)
  .nil))
  tl__law_draw_2)
def f__law_draw : Fn := runDef 3 b__law_draw
theorem c__law_draw : ckDef N__law_draw ["bag", "wide"] ["int", "len"] b__law_draw (topS 32) = true := by decide +kernel
def N__law_alike : List Str := ["found", "due", "k"]
def lc__law_alike_1 (fr : Fn) : E := (.lc [("k", 2)] (.call "_law_alike" fr (.cons (.ix (.var 0) (.var 2)) (.cons (.ix (.var 1) (.var 2)) .nil))) (.nm 2) (.rng1 (.bi .len (.cons (.var 1) .nil))) .no)
def b__law_alike (fr : Fn) : Sms := (.cons (.ifs (.isi (.var 1) [.list, .tuple]) (.cons (.ifs (.or (.not (.isi (.var 0) [.list, .tuple])) (.cmp .NotEq (.isi (.var 0) [.list]) (.isi (.var 1) [.list]))) (.cons (.ret (.bl false))
  .nil) .nil)
  (.cons (.ifs (.cmp .NotEq (.bi .len (.cons (.var 0) .nil)) (.bi .len (.cons (.var 1) .nil))) (.cons (.ret (.bl false))
  .nil) .nil)
  (.cons (.ret (.bi .all (.cons (lc__law_alike_1 fr) .nil)))
  .nil))) .nil)
  (.cons (.ifs (.or (.cmp .NotEq (.isi (.var 0) [.bool]) (.isi (.var 1) [.bool])) (.cmp .NotEq (.isi (.var 0) [.int]) (.isi (.var 1) [.int]))) (.cons (.ret (.bl false))
  .nil) .nil)
  (.cons (.ret (.and (.cmp .Eq (.isi (.var 0) [.str]) (.isi (.var 1) [.str])) (.cmp .Eq (.var 0) (.var 1))))
  .nil)))
def f__law_alike_0 : Fn := badF
def f__law_alike_1 : Fn := runDef 3 (b__law_alike f__law_alike_0)
def f__law_alike_2 : Fn := runDef 3 (b__law_alike f__law_alike_1)
def f__law_alike_3 : Fn := runDef 3 (b__law_alike f__law_alike_2)
def f__law_alike_4 : Fn := runDef 3 (b__law_alike f__law_alike_3)
def f__law_alike_5 : Fn := runDef 3 (b__law_alike f__law_alike_4)
def f__law_alike_6 : Fn := runDef 3 (b__law_alike f__law_alike_5)
def f__law_alike : Fn := f__law_alike_6
theorem c__law_alike_1 : ckDef N__law_alike ["found", "due"] ["isinstance", "str", "int", "bool", "list", "tuple", "all", "range", "len"] (b__law_alike f__law_alike_0) (topS 33) = true := by decide +kernel
theorem c__law_alike_2 : ckDef N__law_alike ["found", "due"] ["isinstance", "str", "int", "bool", "list", "tuple", "all", "range", "len"] (b__law_alike f__law_alike_1) (topS 33) = true := by decide +kernel
theorem c__law_alike_3 : ckDef N__law_alike ["found", "due"] ["isinstance", "str", "int", "bool", "list", "tuple", "all", "range", "len"] (b__law_alike f__law_alike_2) (topS 33) = true := by decide +kernel
theorem c__law_alike_4 : ckDef N__law_alike ["found", "due"] ["isinstance", "str", "int", "bool", "list", "tuple", "all", "range", "len"] (b__law_alike f__law_alike_3) (topS 33) = true := by decide +kernel
theorem c__law_alike_5 : ckDef N__law_alike ["found", "due"] ["isinstance", "str", "int", "bool", "list", "tuple", "all", "range", "len"] (b__law_alike f__law_alike_4) (topS 33) = true := by decide +kernel
theorem c__law_alike_6 : ckDef N__law_alike ["found", "due"] ["isinstance", "str", "int", "bool", "list", "tuple", "all", "range", "len"] (b__law_alike f__law_alike_5) (topS 33) = true := by decide +kernel
def N__law_days : List Str := ["bag", "many", "found", "k"]
def fb__law_days_1 : Sms := (.cons (.expr (.mu .append (.var 2) (.cons (.bin .Add (.ix (.var 2) (.neg (.int 1))) (.ix (.lst (.cons (.int 0) (.cons (.int 1) (.cons (.int 1) (.cons (.int 2) (.cons (.call "_law_draw" f__law_draw (.cons (.var 0) (.cons (.bin .Pow (.int 10) (.int 28)) .nil))) .nil)))))) (.call "_law_draw" f__law_draw (.cons (.var 0) (.cons (.int 5) .nil))))) .nil)))
  .nil)
def b__law_days : Sms := (.cons (.set 2 (.lst (.cons (.call "_law_draw" f__law_draw (.cons (.var 0) (.cons (.ix (.lst (.cons (.int 3) (.cons (.bin .Pow (.int 10) (.int 28)) .nil))) (.call "_law_draw" f__law_draw (.cons (.var 0) (.cons (.int 2) .nil)))) .nil))) .nil)))
  (.cons (.fors (.nm 3) (.rng1 (.bin .Sub (.var 1) (.int 1))) fb__law_days_1)
  (.cons (.ret (.var 2))
  .nil)))
def f__law_days : Fn := runDef 4 b__law_days
theorem c__law_days : ckDef N__law_days ["bag", "many"] ["range"] b__law_days (topS 34) = true := by decide +kernel
def N__law_story : List Str := ["bag", "many", "days_here", "way", "k", "words", "ahead", "one", "i"]
def lc__law_story_1 : E := (.lc [("k", 4)] (.tup (.cons (.ix (.var 2) (.var 4)) (.cons (.ix (.var 5) (.var 4)) (.cons (.mt .count (.var 3) (.cons (.var 4) .nil)) .nil)))) (.nm 4) (.rng1 (.var 1)) .no)
def lc__law_story_2 : E := (.lc [("one", 7)] (.ifx (.cmp .Is (.var 7) .non) (.str "alone") (.str "brought")) (.nm 7) (.seq (.var 3)) .no)
def tl__law_story_1 : Sms := (.cons (.set 5 lc__law_story_2)
  (.cons (.ret (.tup (.cons lc__law_story_1 (.cons (.var 3) .nil))))
  .nil))
def lc__law_story_3 : E := (.lc [("i", 8)] (.var 8) (.nm 8) (.rng1 (.var 4)) (.so (.cmp .Lt (.ix (.var 2) (.var 8)) (.ix (.var 2) (.var 4)))))
def fb__law_story_1 : Sms := (.cons (.set 6 lc__law_story_3)
  (.cons (.ifs (.or (.cmp .Eq (.var 6) (.lst .nil)) (.cmp .Eq (.call "_law_draw" f__law_draw (.cons (.var 0) (.cons (.int 4) .nil))) (.int 0))) (.cons (.expr (.mu .append (.var 3) (.cons .non .nil)))
  .nil) (.cons (.expr (.mu .append (.var 3) (.cons (.ix (.lst (.cons (.ix (.var 6) (.int 0)) (.cons (.ix (.var 6) (.neg (.int 1))) (.cons (.ix (.var 6) (.call "_law_draw" f__law_draw (.cons (.var 0) (.cons (.bi .len (.cons (.var 6) .nil)) .nil)))) .nil)))) (.call "_law_draw" f__law_draw (.cons (.var 0) (.cons (.int 3) .nil)))) .nil)))
  .nil))
  .nil))
def tl__law_story_2 : Sms := (.cons (.fors (.nm 4) (.rng1 (.var 1)) fb__law_story_1)
  tl__law_story_1)
def b__law_story : Sms := (.cons (.par [2, 3] (.cons (.call "_law_days" f__law_days (.cons (.var 0) (.cons (.var 1) .nil))) (.cons (.lst .nil) .nil)))
  tl__law_story_2)
def f__law_story : Fn := runDef 9 b__law_story
theorem c__law_story : ckDef N__law_story ["bag", "many"] ["range", "len"] b__law_story (topS 35) = true := by decide +kernel
def N__law_with : List Str := ["some", "spot", "one"]
def b__law_with : Sms := (.cons (.ret (.bi .sorted (.cons (.bin .Add (.bin .Add (.sl (.var 0) .no (.so (.var 1))) (.sl (.var 0) (.so (.bin .Add (.var 1) (.int 1))) .no)) (.lst (.cons (.var 2) .nil))) .nil)))
  .nil)
def f__law_with : Fn := runDef 3 b__law_with
theorem c__law_with : ckDef N__law_with ["some", "spot", "one"] ["sorted"] b__law_with (topS 36) = true := by decide +kernel
def N__law_number_right : List Str := ["bag", "some", "spot", "day", "came", "number", "wrong", "told", "k", "size"]
def lc__law_number_right_1 : E := (.lc [("k", 8)] (.tup (.cons (.var 8) (.cons (.ix (.ix (.var 1) (.var 8)) (.int 2)) .nil))) (.nm 8) (.rng1 (.bi .len (.cons (.var 1) .nil))) .no)
def fb__law_number_right_1 : Sms := (.cons (.ifs (.cmp .IsNot (.call "conflict_of" f_conflict_of (.cons (.call "_law_with" f__law_with (.cons (.var 6) (.cons (.var 8) (.cons (.tup (.cons (.ix (.ix (.var 6) (.var 8)) (.int 0)) (.cons (.ix (.ix (.var 6) (.var 8)) (.int 1)) (.cons (.var 9) .nil)))) .nil)))) .nil)) .non) (.cons (.ret (.bl false))
  .nil) .nil)
  .nil)
def tl__law_number_right_1 : Sms := (.cons (.fors (.tp [(.nm 8), (.nm 9)]) (.seq (.var 7)) fb__law_number_right_1)
  (.cons (.ret (.cmp .Eq (.call "one_number" f_one_number (.cons (.var 1) .nil)) lc__law_number_right_1))
  .nil))
def tl__law_number_right_2 : Sms := (.cons (.ifs (.cmp .NotIn (.tup (.cons (.var 2) (.cons (.var 5) .nil))) (.var 7)) (.cons (.ret (.bl false))
  .nil) .nil)
  tl__law_number_right_1)
def tl__law_number_right_3 : Sms := (.cons (.set 7 (.call "one_number" f_one_number (.cons (.var 6) .nil)))
  tl__law_number_right_2)
def tl__law_number_right_4 : Sms := (.cons (.set 6 (.bin .Add (.bin .Add (.sl (.var 1) .no (.so (.var 2))) (.lst (.cons (.tup (.cons (.var 3) (.cons (.var 4) (.cons (.bin .Add (.var 5) (.ix (.lst (.cons (.int 1) (.cons (.int 2) (.cons (.bin .Pow (.int 10) (.int 29)) .nil)))) (.call "_law_draw" f__law_draw (.cons (.var 0) (.cons (.int 3) .nil))))) .nil)))) .nil))) (.sl (.var 1) (.so (.bin .Add (.var 2) (.int 1))) .no)))
  tl__law_number_right_3)
def tl__law_number_right_5 : Sms := (.cons (.unp (.tp [(.nm 3), (.nm 4), (.nm 5)]) (.ix (.var 1) (.var 2)))
  tl__law_number_right_4)
def b__law_number_right : Sms := (.cons (.set 2 (.call "_law_draw" f__law_draw (.cons (.var 0) (.cons (.bi .len (.cons (.var 1) .nil)) .nil))))
  tl__law_number_right_5)
def f__law_number_right : Fn := runDef 10 b__law_number_right
theorem c__law_number_right : ckDef N__law_number_right ["bag", "some"] ["range", "len"] b__law_number_right (topS 37) = true := by decide +kernel
def N__law_came_right : List Str := ["bag", "some", "spot", "day", "came", "number", "wrong", "told", "k", "word"]
def fb__law_came_right_1 : Sms := (.cons (.set 9 (.ix (.lst (.cons (.str "brought") (.cons (.str "alone") .nil))) (.bi .toInt (.cons (.cmp .Eq (.ix (.ix (.var 6) (.var 8)) (.int 1)) (.str "brought")) .nil))))
  (.cons (.ifs (.cmp .IsNot (.call "conflict_of" f_conflict_of (.cons (.call "_law_with" f__law_with (.cons (.var 6) (.cons (.var 8) (.cons (.tup (.cons (.ix (.ix (.var 6) (.var 8)) (.int 0)) (.cons (.var 9) (.cons (.ix (.ix (.var 6) (.var 8)) (.int 2)) .nil)))) .nil)))) .nil)) .non) (.cons (.ret (.bl false))
  .nil) .nil)
  .nil))
def tl__law_came_right_1 : Sms := (.cons (.fors (.nm 8) (.seq (.var 7)) fb__law_came_right_1)
  (.cons (.ret (.and (.cmp .In (.var 2) (.var 7)) (.cmp .Eq (.call "one_came" f_one_came (.cons (.var 1) .nil)) (.lst .nil))))
  .nil))
def tl__law_came_right_2 : Sms := (.cons (.set 7 (.call "one_came" f_one_came (.cons (.var 6) .nil)))
  tl__law_came_right_1)
def tl__law_came_right_3 : Sms := (.cons (.set 6 (.bin .Add (.bin .Add (.sl (.var 1) .no (.so (.var 2))) (.lst (.cons (.tup (.cons (.var 3) (.cons (.ix (.lst (.cons (.str "brought") (.cons (.str "alone") .nil))) (.bi .toInt (.cons (.cmp .Eq (.var 4) (.str "brought")) .nil))) (.cons (.var 5) .nil)))) .nil))) (.sl (.var 1) (.so (.bin .Add (.var 2) (.int 1))) .no)))
  tl__law_came_right_2)
def tl__law_came_right_4 : Sms := (.cons (.unp (.tp [(.nm 3), (.nm 4), (.nm 5)]) (.ix (.var 1) (.var 2)))
  tl__law_came_right_3)
def b__law_came_right : Sms := (.cons (.set 2 (.call "_law_draw" f__law_draw (.cons (.var 0) (.cons (.bi .len (.cons (.var 1) .nil)) .nil))))
  tl__law_came_right_4)
def f__law_came_right : Fn := runDef 10 b__law_came_right
theorem c__law_came_right : ckDef N__law_came_right ["bag", "some"] ["int", "len"] b__law_came_right (topS 38) = true := by decide +kernel
def N__law_day_right : List Str := ["bag", "some", "spot", "day", "came", "number", "wrong", "told", "first", "last", "places", "far", "k", "one"]
def lc__law_day_right_1 : E := (.lc [("k", 12)] (.call "one_day" f_one_day (.cons (.var 6) (.cons (.var 12) .nil))) (.nm 12) (.seq (.var 10)) .no)
def lc__law_day_right_2 : E := (.lc [("k", 12)] (.var 12) (.nm 12) (.rng1 (.bi .len (.cons (.var 6) .nil))) (.so (.cmp .Eq (.tup (.cons (.ix (.ix (.var 6) (.var 12)) (.int 1)) (.cons (.ix (.ix (.var 6) (.var 12)) (.int 2)) .nil))) (.tup (.cons (.var 4) (.cons (.var 5) .nil))))))
def tl__law_day_right_1 : Sms := (.cons (.set 10 lc__law_day_right_2)
  (.cons (.ret (.cmp .In (.var 7) lc__law_day_right_1))
  .nil))
def fb__law_day_right_1 : Sms := (.cons (.ifs (.and (.cmp2 .LtE .LtE (.int 0) (.var 11) (.bin .Pow (.int 10) (.int 30))) (.cmp .Is (.call "conflict_of" f_conflict_of (.cons (.call "_law_with" f__law_with (.cons (.var 1) (.cons (.var 2) (.cons (.tup (.cons (.var 11) (.cons (.var 4) (.cons (.var 5) .nil)))) .nil)))) .nil)) .non)) (.cons (.ret (.bl false))
  .nil) .nil)
  .nil)
def fb__law_day_right_2 : Sms := (.cons (.ifs (.cmp .IsNot (.call "conflict_of" f_conflict_of (.cons (.call "_law_with" f__law_with (.cons (.var 1) (.cons (.var 2) (.cons (.tup (.cons (.var 11) (.cons (.var 4) (.cons (.var 5) .nil)))) .nil)))) .nil)) .non) (.cons (.ret (.bl false))
  .nil) .nil)
  .nil)
def fb__law_day_right_3 : Sms := (.cons (.fors (.nm 11) (.seq (.tup (.cons (.var 8) (.cons (.var 9) (.cons (.bin .Add (.var 8) (.call "_law_draw" f__law_draw (.cons (.var 0) (.cons (.bin .Add (.bin .Sub (.var 9) (.var 8)) (.int 1)) .nil)))) .nil))))) fb__law_day_right_2)
  (.cons (.fors (.nm 11) (.seq (.tup (.cons (.bin .Sub (.var 8) (.int 1)) (.cons (.bin .Add (.var 9) (.int 1)) .nil)))) fb__law_day_right_1)
  .nil))
def tl__law_day_right_2 : Sms := (.cons (.fors (.tp [(.nm 8), (.nm 9)]) (.seq (.var 7)) fb__law_day_right_3)
  tl__law_day_right_1)
def lc__law_day_right_3 : E := (.lc [("one", 13)] (.var 13) (.nm 13) (.seq (.var 7)) (.so (.cmp2 .LtE .LtE (.ix (.var 13) (.int 0)) (.var 3) (.ix (.var 13) (.int 1)))))
def tl__law_day_right_3 : Sms := (.cons (.ifs (.cmp .Eq lc__law_day_right_3 (.lst .nil)) (.cons (.ret (.bl false))
  .nil) .nil)
  tl__law_day_right_2)
def tl__law_day_right_4 : Sms := (.cons (.set 7 (.call "one_day" f_one_day (.cons (.var 1) (.cons (.var 2) .nil))))
  tl__law_day_right_3)
def tl__law_day_right_5 : Sms := (.cons (.set 6 (.call "_law_with" f__law_with (.cons (.var 1) (.cons (.var 2) (.cons (.tup (.cons (.ix (.lst (.cons (.int 0) (.cons (.bin .Pow (.int 10) (.int 30)) (.cons (.ix (.ix (.var 1) (.call "_law_draw" f__law_draw (.cons (.var 0) (.cons (.bi .len (.cons (.var 1) .nil)) .nil)))) (.int 0)) .nil)))) (.call "_law_draw" f__law_draw (.cons (.var 0) (.cons (.int 3) .nil)))) (.cons (.var 4) (.cons (.var 5) .nil)))) .nil)))))
  tl__law_day_right_4)
def tl__law_day_right_6 : Sms := (.cons (.unp (.tp [(.nm 3), (.nm 4), (.nm 5)]) (.ix (.var 1) (.var 2)))
  tl__law_day_right_5)
def b__law_day_right : Sms := (.cons (.set 2 (.call "_law_draw" f__law_draw (.cons (.var 0) (.cons (.bi .len (.cons (.var 1) .nil)) .nil))))
  tl__law_day_right_6)
def f__law_day_right : Fn := runDef 14 b__law_day_right
theorem c__law_day_right : ckDef N__law_day_right ["bag", "some"] ["range", "len"] b__law_day_right (topS 39) = true := by decide +kernel
def N__law_moved_right : List Str := ["bag", "some", "one", "two", "many", "wrong", "good", "stretched", "row"]
def lc__law_moved_right_1 : E := (.lc [("row", 8)] (.tup (.cons (.bin .Add (.bin .Mult (.int 2) (.ix (.var 8) (.int 0))) (.int 5)) (.cons (.ix (.var 8) (.int 1)) (.cons (.ix (.var 8) (.int 2)) .nil)))) (.nm 8) (.seq (.var 5)) .no)
def tl__law_moved_right_1 : Sms := (.cons (.set 7 lc__law_moved_right_1)
  (.cons (.ret (.and (.cmp .Eq (.bi .len (.cons (.var 6) .nil)) (.int 1)) (.cmp .Eq (.call "two_numbers" f_two_numbers (.cons (.var 7) .nil)) (.call "two_numbers" f_two_numbers (.cons (.var 5) .nil)))))
  .nil))
def lc__law_moved_right_2 : E := (.lc [("row", 8)] (.var 8) (.nm 8) (.seq (.call "two_numbers" f_two_numbers (.cons (.var 5) .nil))) (.so (.and (.cmp .Eq (.ix (.var 8) (.int 0)) (.var 3)) (.and (.cmp .Eq (.ix (.var 8) (.int 1)) (.var 2)) (.cmp2 .LtE .LtE (.ix (.var 8) (.int 2)) (.var 4) (.ix (.var 8) (.int 3)))))))
def tl__law_moved_right_2 : Sms := (.cons (.set 6 lc__law_moved_right_2)
  tl__law_moved_right_1)
def tl__law_moved_right_3 : Sms := (.cons (.setix (.var 5) (.var 3) (.tup (.cons (.ix (.ix (.var 1) (.var 3)) (.int 0)) (.cons (.ix (.ix (.var 1) (.var 3)) (.int 1)) (.cons (.bin .Sub (.ix (.ix (.var 1) (.var 3)) (.int 2)) (.var 4)) .nil)))))
  tl__law_moved_right_2)
def tl__law_moved_right_4 : Sms := (.cons (.setix (.var 5) (.var 2) (.tup (.cons (.ix (.ix (.var 1) (.var 2)) (.int 0)) (.cons (.ix (.ix (.var 1) (.var 2)) (.int 1)) (.cons (.bin .Add (.ix (.ix (.var 1) (.var 2)) (.int 2)) (.var 4)) .nil)))))
  tl__law_moved_right_3)
def tl__law_moved_right_5 : Sms := (.cons (.set 5 (.bi .list (.cons (.var 1) .nil)))
  tl__law_moved_right_4)
def tl__law_moved_right_6 : Sms := (.cons (.set 4 (.bin .Add (.int 1) (.call "_law_draw" f__law_draw (.cons (.var 0) (.cons (.ix (.ix (.var 1) (.var 3)) (.int 2)) .nil)))))
  tl__law_moved_right_5)
def tl__law_moved_right_7 : Sms := (.cons (.ifs (.or (.cmp .Eq (.var 2) (.var 3)) (.cmp .Eq (.ix (.ix (.var 1) (.var 3)) (.int 2)) (.int 0))) (.cons (.ret (.bl true))
  .nil) .nil)
  tl__law_moved_right_6)
def b__law_moved_right : Sms := (.cons (.par [2, 3] (.cons (.call "_law_draw" f__law_draw (.cons (.var 0) (.cons (.bi .len (.cons (.var 1) .nil)) .nil))) (.cons (.call "_law_draw" f__law_draw (.cons (.var 0) (.cons (.bi .len (.cons (.var 1) .nil)) .nil))) .nil)))
  tl__law_moved_right_7)
def f__law_moved_right : Fn := runDef 9 b__law_moved_right
theorem c__law_moved_right : ckDef N__law_moved_right ["bag", "some"] ["len", "list"] b__law_moved_right (topS 40) = true := by decide +kernel
def N_law : List Str := ["script", "bag", "turn", "some", "way"]
def fb_law_1 : Sms := (.cons (.unp (.tp [(.nm 3), (.nm 4)]) (.call "_law_story" f__law_story (.cons (.var 1) (.cons (.bin .Add (.int 1) (.call "_law_draw" f__law_draw (.cons (.var 1) (.cons (.ix (.lst (.cons (.int 8) (.cons (.int 24) .nil))) (.bi .toInt (.cons (.cmp .Eq (.var 2) (.int 0)) .nil))) .nil)))) .nil))))
  (.cons (.ifs (.or (.not (.call "_law_number_right" f__law_number_right (.cons (.var 1) (.cons (.var 3) .nil)))) (.not (.call "_law_came_right" f__law_came_right (.cons (.var 1) (.cons (.var 3) .nil))))) (.cons (.ret (.bl false))
  .nil) .nil)
  (.cons (.ifs (.or (.not (.call "_law_day_right" f__law_day_right (.cons (.var 1) (.cons (.var 3) .nil)))) (.not (.call "_law_moved_right" f__law_moved_right (.cons (.var 1) (.cons (.var 3) .nil))))) (.cons (.ret (.bl false))
  .nil) .nil)
  .nil)))
def b_law : Sms := (.cons (.set 1 (.alc (.call "_law_bag" f__law_bag (.cons (.var 0) .nil))))
  (.cons (.fors (.nm 2) (.rng1 (.int 5)) fb_law_1)
  (.cons (.ret (.bl true))
  .nil)))
def f_law : Fn := runDef 5 b_law
theorem c_law : ckDef N_law ["script"] ["range", "int"] b_law (topS 41) = true := by decide +kernel
end G4

namespace G4
open PySem PySem.Spec PyProof.Rows L2
local macro_rules
  | `(tactic| simp_arith [$as,*]) => `(tactic| simp -implicitDefEqProofs only [tl_table_of_1, tl_table_of_2, tl_table_of_3, tl_one_number_1, tl_one_number_2, tl_moves_of_1, tl_moves_of_2, tl_two_numbers_1, tl_two_numbers_2, tl_two_numbers_3, tl_one_came_1, tl_one_came_2, tl_one_day_1, tl_one_day_2, tl_one_day_3, tl_one_day_4, tl__law_stirred_1, tl__law_stirred_2, tl__law_draw_1, tl__law_draw_2, tl__law_story_1, tl__law_story_2, tl__law_number_right_1, tl__law_number_right_2, tl__law_number_right_3, tl__law_number_right_4, tl__law_number_right_5, tl__law_came_right_1, tl__law_came_right_2, tl__law_came_right_3, tl__law_came_right_4, tl__law_day_right_1, tl__law_day_right_2, tl__law_day_right_3, tl__law_day_right_4, tl__law_day_right_5, tl__law_day_right_6, tl__law_moved_right_1, tl__law_moved_right_2, tl__law_moved_right_3, tl__law_moved_right_4, tl__law_moved_right_5, tl__law_moved_right_6, tl__law_moved_right_7, ↓bnd_eq, ↓off_eq, ↓thn_eq, run_eq, fin_nx, fin_rt, fin_ex, S.hide, hideSl, exms, exm, ev, evT, evs, evOs, evo, evc, evSrc, evPar, hb_ok, hb_ex, ho_ok, ho_ex, ht_nx, ht_rt, ht_ex, tb_nx, tb_rt, tb_ex, hd_setB, hd_setT, hd_retT, D.flat, opd_d, opd_pl, opd_lst, opd_ex, val_d, val_lst, List.append_assoc, List.length_set, gc_push, gc_id, take_push, take_id, get_app0, get_app1, get_app2, isNew0, isNew1, isNew_int, isNew_str, isNew_bl, isNew_non, isNew_tup, isNew_lst, keep_un, keep_int, keep_bl, keep_non, keep_str, keep_scr, keep_obj, keep_own_lst, keep_own_dK, pureK_nil, keep_lst, keep_tup, D.unders, ne_succ, ne_succ1, eq_self, nodup2, nodup3, List.filterMap_cons, List.filterMap_nil, putPar, D.under, List.nodup_cons, List.mem_cons, List.not_mem_nil, or_self, or_false, Nat.reduceEqDiff, List.nodup_nil, true_and, and_true, bits10, Int.reduceMul, Int.reduceLE, Int.reduceLT, Int.reducePow, Int.reduceAdd, Int.reduceSub, Int.reduceNeg, Int.reduceToNat, val_dK, putTs_nil, putTs_nm, putTs_sub, val_ex, val_pl, valPl_lst, valPl_d, opt_some, toO_ok, toO_ex, asBl_ok, List.map_cons, List.map_nil, List.length_cons, List.length_nil, Nat.reduceAdd, Nat.reduceSub, Nat.zero_add, List.replicate, List.cons_append, List.nil_append, List.getElem?_cons_zero, List.getElem?_cons_succ, List.set_cons_zero, List.set_cons_succ, S.rd, S.rdD, S.store, OS.opt, Option.bind_some, Option.map_some, Cell.view, S.cell, S.isLst, S.isDct, S.rdDct, dgetV, dixV, augV, S.put, S.rdLst, cmpV, opCmp, opEq_str, opEq_int, opEq_bl, opEq_non, opEq_lst, opEq_tup, pures_app, eqv_int, eqv_bl, eqv_lst, eqv_tup, eqvs_nil, eqvs_ints, eqvs_cons, eqv_str, opIn_ints, unders_ints, set_app0, set_app1, binV, opBin, ixV, opIx, biV, biSem, biLen, biInt, biAbs, biMax2, biMin2, biSum, biAll, biAny, biList, biTuple, List.mapM_cons, List.mapM_nil, bind, pure, Option.bind, truV, D.tru, isiV, D.kind, Ty.sub, List.any_cons, List.any_nil, decide_true, decide_false, Int.cast_ofNat_Int, beq_self_eq_true, Bool.false_and, Bool.true_or, Bool.false_or, Bool.or_false, Bool.and_true, Bool.true_and, Bool.and_self, if_true, if_false, Bool.false_eq_true, reduceCtorEq, Bool.not_true, Bool.not_false, finish, D.pure, D.pures, Cell.pure, List.take_length, and_self, not_true_eq_false, not_false_eq_true, plain_int', plain_lst, plain_tup, plain_non, plain_bl, D.plainsN, pures_ints, plain_ints, List.length_map, List.length_append, at1, at2, at3, at4, at5, muV, muSem, muApp, setIx, S.fz, perm, List.getD_cons_zero, List.getD_cons_succ, $as,*])
/-! ### the bag of drawn numbers -/
def bcell (cs : List Int) (i : Nat) (c s k : Int) : Cell := .lst [.lst (cs.map .int), .int i, .int c, .int s, .int k]
theorem ix5 : ixN 5 0 = some 0 ∧ ixN 5 1 = some 1 ∧ ixN 5 2 = some 2 ∧ ixN 5 3 = some 3 ∧ ixN 5 4 = some 4 := ⟨rfl, rfl, rfl, rfl, rfl⟩
theorem log_lt {i : Int} {k : Nat} (h0 : 0 ≤ i) (h : i < 2 ^ k) : i.natAbs.log2 ≤ k := by
  by_cases z : i.natAbs = 0
  · rw [z]; exact Nat.zero_le _
  · have h3 : ((i.natAbs : Nat) : Int) = i := Int.natAbs_of_nonneg h0
    have h4 : ((i.natAbs : Nat) : Int) < ((2 ^ k : Nat) : Int) := by rw [h3]; exact_mod_cast h
    exact Nat.le_of_lt ((Nat.log2_lt z).mpr (Int.ofNat_lt.mp h4))
theorem bits_le {i : Int} {k : Nat} (h0 : 0 ≤ i) (h : i < 2 ^ k) : Builtin.Int.intBits i ≤ k + 1 := by
  have := log_lt h0 h
  unfold Builtin.Int.intBits
  split <;> omega
theorem pow3_ok {i : Int} (h0 : 0 ≤ i) (h : i < 2 ^ 250) : (Builtin.Int.intBits i : Int) * 3 ≤ 134217728 := by
  have := bits_le h0 h
  omega
/-- a bag from which n more numbers can be drawn -/
def Bg (x : Cell) (n : Nat) : Prop := ∃ cs i c s k, x = bcell cs i c s k ∧ cs.length ≤ 63 ∧ (0 ≤ s ∧ s < 2147483647) ∧ 0 ≤ k ∧ k + 10 * n ≤ 2 ^ 90
theorem Bg.mono {x : Cell} {m n : Nat} (h : Bg x n) (k : m ≤ n) : Bg x m := by
  obtain ⟨cs, i, c, s, t, h1, h2, h3, h4, h5⟩ := h
  exact ⟨cs, i, c, s, t, h1, h2, h3, h4, by omega⟩
section
variable {st : List Cell}
theorem stir_turn {p j i : Nat} {cs : List Int} {c s k wide f : Int} {v4 : SV} (hp : p < st.length) (hs : 0 ≤ s ∧ s < 2147483647) (hk : 0 ≤ k ∧ k < 2 ^ 100) (hf : 0 ≤ f ∧ f < 2 ^ (27 * j)) (hj : j ≤ 20) :
    ∃ f' s' u4, exms fb__law_stirred_1 ⟨[.d (.obj p), .d (.int wide), .d (.int f), .d (.int j), v4], st.set p (bcell cs i c s k)⟩ = .nx ⟨[.d (.obj p), .d (.int wide), .d (.int f'), .d (.int j), u4], st.set p (bcell cs i c s' (k + 1))⟩ ∧ (0 ≤ s' ∧ s' < 2147483647) ∧ 0 ≤ f' ∧ f' < 2 ^ (27 * (j + 1)) := by
  have g0 := List.getElem?_set_self (l := st) (i := p) (a := bcell cs i c s k) hp
  have g1 := List.getElem?_set_self (l := st) (i := p) (a := bcell cs i c s (k + 1)) hp
  generalize hX : (s ^ 3 + 69621 * s + 1031 * (k + 1) + 1) = X
  have x0 : 0 ≤ X % 2147483647 := Int.emod_nonneg _ (by decide)
  have x1 : X % 2147483647 < 2147483647 := Int.emod_lt_of_pos _ (by decide)
  generalize hY : X % 2147483647 = Y at x0 x1
  have g2 := List.getElem?_set_self (l := st) (i := p) (a := bcell cs i c Y (k + 1)) hp
  have k1 := pow3_ok hs.1 (by omega)
  have k2 : (69621 : Int).natAbs.log2 + s.natAbs.log2 < 1000000 := by
    have := log_lt (k := 40) hs.1 (by omega)
    have e : (69621 : Int).natAbs.log2 < 30 := by decide +kernel
    omega
  have k3 : (1031 : Int).natAbs.log2 + (k + 1).natAbs.log2 < 1000000 := by
    have := log_lt (i := k + 1) (k := 110) (by omega) (by omega)
    have e : (1031 : Int).natAbs.log2 < 30 := by decide +kernel
    omega
  have k4 : f.natAbs.log2 + (134217728 : Int).natAbs.log2 < 1000000 := by
    have := log_lt hf.1 hf.2
    have e : (134217728 : Int).natAbs.log2 < 30 := by decide +kernel
    omega
  have k5 : (16 : Int).natAbs.log2 < 9000 := by decide +kernel
  have y0 : 0 ≤ Y / 16 := by omega
  have y1 : Y / 16 < 134217728 := by omega
  refine ⟨f * 134217728 + Y / 16, Y, .d (.int X), ?_, ⟨x0, x1⟩, by omega, ?_⟩
  · unfold bcell at g0 g1 g2
    unfold fb__law_stirred_1 bcell
    simp_arith [g0, g1, g2, ix5, k1, k2, k3, k4, k5, hX, hY, List.set_set, S.isLst]
  · have e : (2 : Int) ^ (27 * (j + 1)) = 2 ^ (27 * j) * 134217728 := by
      rw [Nat.mul_add, Int.pow_add]; rfl
    rw [e]
    have : f + 1 ≤ 2 ^ (27 * j) := by omega
    have := Int.mul_le_mul_of_nonneg_right this (show (0 : Int) ≤ 134217728 by decide)
    rw [Int.add_mul] at this
    omega
theorem stirred_ok {p i n : Nat} {cs : List Int} {c s k wide : Int} (hp : p < st.length) (hs : 0 ≤ s ∧ s < 2147483647) (hk : 0 ≤ k) (hn : k + 10 * (n + 1) ≤ 2 ^ 90) (hw : 0 < wide) (hw2 : wide < 2 ^ 200) :
    ∃ f s' k', f__law_stirred [.obj p, .int wide] (st.set p (bcell cs i c s k)) = .ok (.d (.int (f % wide))) (st.set p (bcell cs i c s' k')) ∧ (0 ≤ s' ∧ s' < 2147483647) ∧ 0 ≤ k' ∧ k' + 10 * n ≤ 2 ^ 90 := by
  have hb := bits_le (k := 200) (by omega) hw2
  obtain ⟨m, hm, hm2⟩ : ∃ m : Nat, (1 : Int) + (Builtin.Int.intBits wide : Nat) / 27 = (m : Int) ∧ m ≤ 9 := ⟨1 + Builtin.Int.intBits wide / 27, by omega, by omega⟩
  obtain ⟨s1, l1, f, s', v3, v4, rfl, h1, h2, h3⟩ := for_rng (v := 3) (body := fun s => exms fb__law_stirred_1 s) (n := st.length) m (fun j z => ∃ f s v3 v4, z = ⟨[.d (.obj p), .d (.int wide), .d (.int f), v3, v4], st.set p (bcell cs i c s (k + j))⟩ ∧ (0 ≤ s ∧ s < 2147483647) ∧ 0 ≤ f ∧ f < 2 ^ (27 * j))
    ⟨[.d (.obj p), .d (.int wide), .d (.int 0), .un, .un], st.set p (bcell cs i c s k)⟩ ⟨0, s, _, _, by rw [show k + ((0 : Nat) : Int) = k by omega], hs, by omega, by decide⟩ fun j z hj hI => by
      obtain ⟨f, s, v3, v4, rfl, q1, q2, q3⟩ := hI
      obtain ⟨f', s', u4, g1, g2, g3, g4⟩ := stir_turn (st := st) (cs := cs) (i := i) (c := c) (wide := wide) (v4 := v4) (j := j) (k := k + j) hp q1 ⟨by omega, by omega⟩ ⟨q2, q3⟩ (by omega)
      exact ⟨_, .inl g1, f', s', _, u4, by rw [show k + (j : Int) + 1 = k + ((j + 1 : Nat) : Int) by omega]; exact gc_id (by simp), g2, g3, g4⟩
  refine ⟨f, s', k + m, ?_, h1, by omega, by omega⟩
  have hr := rng1_nat (show m ≤ 1000000 by omega)
  have k5 : (27 : Int).natAbs.log2 < 9000 := by decide +kernel
  unfold f__law_stirred
  simp_arith [b__law_stirred, bitsD, hm, hr, k5]
  rw [l1]
  simp_arith [hw, hp]
theorem draw_ok {p n : Nat} {x : Cell} {wide : Int} (hp : p < st.length) (h : Bg x (n + 1)) (hw : 0 < wide) (hw2 : wide < 2 ^ 200) :
    ∃ r y, f__law_draw [.obj p, .int wide] (st.set p x) = .ok (.d (.int r)) (st.set p y) ∧ 0 ≤ r ∧ r < wide ∧ Bg y n := by
  obtain ⟨cs, i, c, s, k, rfl, h1, h2, h3, h4⟩ := h
  have hlog : wide.natAbs.log2 < 9000 := by
    have := log_lt (by omega) hw2
    omega
  have g0 := List.getElem?_set_self (l := st) (i := p) (a := bcell cs i c s k) hp
  have r0 := fun z : Int => Int.emod_nonneg z (show wide ≠ 0 by omega)
  have r1 := fun z : Int => Int.emod_lt_of_pos z hw
  by_cases z : c = 0
  · subst z
    by_cases y : i < cs.length
    · have a1 : atI (cs.map D.int) (i : Int) = some (.int cs[i]) := atI_nat (by rw [List.getElem?_map, List.getElem?_eq_getElem y]; rfl)
      have y2 : (i : Int) < (cs.length : Int) := by omega
      generalize cs[i] = v at a1
      have g1 := List.getElem?_set_self (l := st) (i := p) (a := bcell cs i v s k) hp
      have g2 := List.getElem?_set_self (l := st) (i := p) (a := bcell cs (i + 1) v s k) hp
      refine ⟨v % wide, bcell cs (i + 1) (v / wide) s k, ?_, r0 v, r1 v, cs, i + 1, v / wide, s, k, rfl, h1, h2, h3, by omega⟩
      unfold bcell at g0 g1 g2 ⊢
      rw [Int.natCast_add, Int.natCast_one] at g2 ⊢
      unfold f__law_draw
      simp_arith [b__law_draw, g0, g1, g2, ix5, y2, a1, hw, hlog, List.set_set, hp]
    · have y2 : ¬ (i : Int) < (cs.length : Int) := by omega
      obtain ⟨f, s', k', e, q1, q2, q3⟩ := stirred_ok (st := st) (cs := cs) (i := i) (c := 0) (s := s) (k := k) (n := n) hp h2 h3 (by omega) hw hw2
      refine ⟨f % wide, bcell cs i 0 s' k', ?_, r0 f, r1 f, cs, i, 0, s', k', rfl, h1, q1, q2, q3⟩
      unfold bcell at g0 e ⊢
      unfold f__law_draw
      simp_arith [b__law_draw, g0, ix5, y2, e, hp]
  · have zb : (c == 0) = false := by simpa using z
    refine ⟨c % wide, bcell cs i (c / wide) s k, ?_, r0 c, r1 c, cs, i, c / wide, s, k, rfl, h1, h2, h3, by omega⟩
    unfold bcell at g0 ⊢
    unfold f__law_draw
    simp_arith [b__law_draw, g0, ix5, zb, hw, hlog, List.set_set, hp]
/-- the bag of a script -/
theorem bag_ok {ns : List Int} {st : List Cell} : ∃ x, f__law_bag [.scr ns] st = .ok (.new x) st ∧ Bg x (2 ^ 80) ∧ x.pure = true := by
  have hcut : opSl (.scr ns) none (some 63) = some (.new (.lst ((cut ns none (some 63)).map .int))) := rfl
  generalize hms : cut ns none (some 63) = ms at hcut
  have hml : ms.length ≤ 63 := by
    rw [← hms]
    unfold cut
    rw [HT.sIx_none]
    have e : HT.sIx ns.length ns.length (some ((63 : Nat) : Int)) = min 63 ns.length := HT.sIx_nat ns.length ns.length 63
    have e : HT.sIx ns.length ns.length (some 63) = min 63 ns.length := e
    rw [e, List.length_take]
    omega
  obtain ⟨s1, l1, s, v2, rfl, hv2, h1⟩ := for_lst (t := .nm 2) (body := fun s => exms fb__law_bag_1 s) (n := st.length) ms D.int (fun j z => ∃ s v2, z = ⟨[.d (.scr ns), .d (.int s), v2], st⟩ ∧ v2.isOwn = false ∧ 0 ≤ s ∧ s < 2147483647)
    ⟨[.d (.scr ns), .d (.int 167), .un], st⟩ ⟨167, _, rfl, rfl, by omega, by omega⟩ fun j m z hm hI => by
      obtain ⟨s, v2, rfl, _, q1, q2⟩ := hI
      have k1 : s.natAbs.log2 + (48271 : Int).natAbs.log2 < 1000000 := by
        have := log_lt (k := 40) q1 (by omega)
        have e : (48271 : Int).natAbs.log2 < 30 := by decide +kernel
        omega
      refine ⟨_, ⟨[.d (.scr ns), .d (.int ((s * 48271 + m % 2147483629 + 1) % 2147483647)), .d (.int m)], st⟩, asg_nm _ _ _, .inl ?_, _, _, gc_id rfl, rfl, Int.emod_nonneg _ (by decide), Int.emod_lt_of_pos _ (by decide)⟩
      unfold fb__law_bag_1
      simp_arith [k1]
  obtain ⟨M, hM, hM0⟩ : ∃ M : Int, M = 1000000000000000000000000000000000000000000000000000000000000000000000000000000000000000000000000000000000000000000000000000000000000000000000000000000000000000000000000000000000000000000000000000000000000000000000000000000000000000000000000000000000000000000000000000000000000000000000000000000000000000000000000000000000000000000000000000000000000000000000000000000000000000000000000000000000000000000000000000000000000000000000000000000000000000000000000000000000000000000000000000000000000000000000000000000000000000000000000000000000000000000000000000000000000000000000000000000000000000000000000 ∧ 0 < M := ⟨_, rfl, by decide⟩
  have lc : ev lc__law_bag_1 ⟨[.d (.scr ns), .d (.int s), v2], st⟩ = .ok (.new (.lst (ms.map fun m => .int ((if m < 0 then -m else m) % M)))) ⟨[.d (.scr ns), .d (.int s), v2], st⟩ := by
    refine lc_map ms D.int (fun m => .int ((if m < 0 then -m else m) % M)) ?_ (big_le (by omega)) (by show (!v2.isOwn && true) = true; rw [hv2]; rfl) fun m hm => ⟨_, rfl, rfl, ?_⟩
    · simp_arith [hideSl, hcut]
    · have b60 : Builtin.Int.intBits 1000000000000000000000000000000000000000000000000000000000000 = 200 := by decide +kernel
      simp_arith [hideSl, b60, ← hM, hM0]
  refine ⟨bcell (ms.map fun m => (if m < 0 then -m else m) % M) 0 0 s 0, ?_, ⟨_, 0, 0, s, 0, rfl, by rw [List.length_map]; exact hml, h1, by omega, by omega⟩, ?_⟩
  · have e : (ms.map fun m => (if m < 0 then -m else m) % M).map D.int = ms.map fun m => D.int ((if m < 0 then -m else m) % M) := by rw [List.map_map]; rfl
    have pp := pures_ints (ms.map fun m => (if m < 0 then -m else m) % M)
    unfold bcell
    rw [e] at pp ⊢
    unfold f__law_bag
    simp_arith [b__law_bag, hcut]
    rw [l1]
    simp_arith [lc, pp, Int.natCast_zero]
  · show D.pures [.lst _, .int _, .int _, .int _, .int _] = true
    simp only [D.pures, D.pure, pures_ints, Bool.and_self]
end

end G4

namespace G4
open PySem PySem.Spec PyProof.Rows L2
local macro_rules
  | `(tactic| simp_arith [$as,*]) => `(tactic| simp -implicitDefEqProofs only [tl_table_of_1, tl_table_of_2, tl_table_of_3, tl_one_number_1, tl_one_number_2, tl_moves_of_1, tl_moves_of_2, tl_two_numbers_1, tl_two_numbers_2, tl_two_numbers_3, tl_one_came_1, tl_one_came_2, tl_one_day_1, tl_one_day_2, tl_one_day_3, tl_one_day_4, tl__law_stirred_1, tl__law_stirred_2, tl__law_draw_1, tl__law_draw_2, tl__law_story_1, tl__law_story_2, tl__law_number_right_1, tl__law_number_right_2, tl__law_number_right_3, tl__law_number_right_4, tl__law_number_right_5, tl__law_came_right_1, tl__law_came_right_2, tl__law_came_right_3, tl__law_came_right_4, tl__law_day_right_1, tl__law_day_right_2, tl__law_day_right_3, tl__law_day_right_4, tl__law_day_right_5, tl__law_day_right_6, tl__law_moved_right_1, tl__law_moved_right_2, tl__law_moved_right_3, tl__law_moved_right_4, tl__law_moved_right_5, tl__law_moved_right_6, tl__law_moved_right_7, ↓bnd_eq, ↓off_eq, ↓thn_eq, run_eq, fin_nx, fin_rt, fin_ex, S.hide, hideSl, exms, exm, ev, evT, evs, evOs, evo, evc, evSrc, evPar, hb_ok, hb_ex, ho_ok, ho_ex, ht_nx, ht_rt, ht_ex, tb_nx, tb_rt, tb_ex, hd_setB, hd_setT, hd_retT, D.flat, opd_d, opd_pl, opd_lst, opd_ex, val_d, val_lst, List.append_assoc, List.length_set, gc_push, gc_id, take_push, take_id, get_app0, get_app1, get_app2, isNew0, isNew1, isNew_int, isNew_str, isNew_bl, isNew_non, isNew_tup, isNew_lst, keep_un, keep_int, keep_bl, keep_non, keep_str, keep_scr, keep_obj, keep_own_lst, keep_own_dK, pureK_nil, keep_lst, keep_tup, D.unders, ne_succ, ne_succ1, eq_self, nodup2, nodup3, List.filterMap_cons, List.filterMap_nil, putPar, D.under, List.nodup_cons, List.mem_cons, List.not_mem_nil, or_self, or_false, Nat.reduceEqDiff, List.nodup_nil, true_and, and_true, bits10, Int.reduceMul, Int.reduceLE, Int.reduceLT, Int.reducePow, Int.reduceAdd, Int.reduceSub, Int.reduceNeg, Int.reduceToNat, val_dK, putTs_nil, putTs_nm, putTs_sub, val_ex, val_pl, valPl_lst, valPl_d, opt_some, toO_ok, toO_ex, asBl_ok, List.map_cons, List.map_nil, List.length_cons, List.length_nil, Nat.reduceAdd, Nat.reduceSub, Nat.zero_add, List.replicate, List.cons_append, List.nil_append, List.getElem?_cons_zero, List.getElem?_cons_succ, List.set_cons_zero, List.set_cons_succ, S.rd, S.rdD, S.store, OS.opt, Option.bind_some, Option.map_some, Cell.view, S.cell, S.isLst, S.isDct, S.rdDct, dgetV, dixV, augV, S.put, S.rdLst, cmpV, opCmp, opEq_str, opEq_int, opEq_bl, opEq_non, opEq_lst, opEq_tup, pures_app, eqv_int, eqv_bl, eqv_lst, eqv_tup, eqvs_nil, eqvs_ints, eqvs_cons, eqv_str, opIn_ints, unders_ints, set_app0, set_app1, binV, opBin, ixV, opIx, biV, biSem, biLen, biInt, biAbs, biMax2, biMin2, biSum, biAll, biAny, biList, biTuple, List.mapM_cons, List.mapM_nil, bind, pure, Option.bind, truV, D.tru, isiV, D.kind, Ty.sub, List.any_cons, List.any_nil, decide_true, decide_false, Int.cast_ofNat_Int, beq_self_eq_true, Bool.false_and, Bool.true_or, Bool.false_or, Bool.or_false, Bool.and_true, Bool.true_and, Bool.and_self, if_true, if_false, Bool.false_eq_true, reduceCtorEq, Bool.not_true, Bool.not_false, finish, D.pure, D.pures, Cell.pure, List.take_length, and_self, not_true_eq_false, not_false_eq_true, plain_int', plain_lst, plain_tup, plain_non, plain_bl, D.plainsN, pures_ints, plain_ints, List.length_map, List.length_append, at1, at2, at3, at4, at5, muV, muSem, muApp, setIx, S.fz, perm, List.getD_cons_zero, List.getD_cons_succ, $as,*])
/-! ### clubs -/
structure Mem where
  d : Int
  w : Bool
  n : Int
def wd (w : Bool) : Str := if w then "brought" else "alone"
def Mem.D (m : Mem) : D := .tup [.int m.d, .str (wd m.w), .int m.n]
def clubD (c : List Mem) : D := .lst (c.map Mem.D)
theorem wd_br (w : Bool) : decide (wd w = "brought") = w := by cases w <;> decide +kernel
theorem wd_al (w : Bool) : decide (wd w = "alone") = !w := by cases w <;> decide +kernel
theorem plain_wd (n : Nat) (w : Bool) : D.plainN n (.str (wd w)) = true := by cases w <;> cases n <;> exact (show strOk _ = true by decide +kernel)
theorem plain_br (n : Nat) : D.plainN n (.str "brought") = true := by cases n <;> exact (show strOk _ = true by decide +kernel)
theorem plain_al (n : Nat) : D.plainN n (.str "alone") = true := by cases n <;> exact (show strOk _ = true by decide +kernel)
theorem Mem.plain (n : Nat) (m : Mem) : D.plainN (n + 1) m.D = true := by
  simp only [Mem.D, plain_tup, D.plainsN, plain_int', plain_wd, Bool.and_self]
theorem plain_mems (n : Nat) (c : List Mem) : D.plainsN (n + 1) (c.map Mem.D) = true := (plainsN_iff _ _).mpr fun d hd => by
  obtain ⟨m, _, rfl⟩ := List.mem_map.mp hd
  exact m.plain n
theorem plain_club (n : Nat) (c : List Mem) : D.plainN (n + 2) (clubD c) = true := plain_mems n c
theorem Mem.pure (m : Mem) : D.pure m.D = true := by simp only [Mem.D, D.pure, D.pures, Bool.and_self]
theorem pure_mems (c : List Mem) : D.pures (c.map Mem.D) = true := by
  induction c with
  | nil => rfl
  | cons m c ih => rw [List.map_cons, D.pures, m.pure, ih]; rfl
theorem pure_club (c : List Mem) : D.pure (clubD c) = true := pure_mems c
def slotsB (c : List Mem) (t : Int) : Int := ((c.filter fun m => decide (m.d < t)).map (·.n)).sum
def cntB (c : List Mem) (t : Int) : Nat := (c.filter fun m => decide (m.d < t) && m.w).length
def cntL (c : List Mem) (t : Int) : Nat := (c.filter fun m => decide (m.d ≤ t) && m.w).length
section
variable {st : List Cell} {c : List Mem} {t : Int}
theorem is_integer_int (i : Int) : f_is_integer [.int i] st = .ok (.d (.bl true)) st := by
  unfold f_is_integer
  simp_arith [b_is_integer]
theorem is_count_ok {i : Int} (h : 0 ≤ i ∧ i ≤ 10 ^ 30) : f_is_count [.int i] st = .ok (.d (.bl true)) st := by
  have h1 := h.1
  have h2 : i ≤ 1000000000000000000000000000000 := h.2
  unfold f_is_count
  simp_arith [b_is_count, is_integer_int, k_MOST_NUMBER, h1, h2]
/-- a member that may be told -/
def Mem.ok (m : Mem) : Prop := (0 ≤ m.d ∧ m.d ≤ 10 ^ 30) ∧ (0 ≤ m.n ∧ m.n ≤ 10 ^ 30)
abbrev WORDS : D := .tup [.str "alone", .str "brought"]
theorem words_in (w : Bool) : opIn (.str (wd w)) WORDS = some true := by cases w <;> decide +kernel
theorem is_told_ok {m : Mem} (h : m.ok) : f_is_told_member [m.D, WORDS] st = .ok (.d (.bl true)) st := by
  unfold f_is_told_member
  simp_arith [b_is_told_member, Mem.D, is_count_ok h.1, is_count_ok h.2, words_in]
theorem all_told (hc : ∀ m ∈ c, m.ok) (hl : c.length ≤ 1000) : ev lc_is_club_of_2 ⟨[SV.d (clubD c), .d WORDS, .un, .un, .un], st⟩ = .ok (.new (.lst ((c.map fun _ => true).map .bl))) ⟨[SV.d (clubD c), .d WORDS, .un, .un, .un], st⟩ := by
  rw [List.map_map]
  refine lc_map c Mem.D (fun _ => .bl true) ?_ (big_le (by omega)) rfl fun m hm => ⟨_, rfl, rfl, ?_⟩
  · simp_arith [clubD]
  · simp_arith [is_told_ok (hc m hm)]
/-- in the sequence of days -/
def Asc (c : List Mem) : Prop := c.Pairwise fun a b => a.d ≤ b.d
theorem zip_pairs : ∀ c : List Mem, zipD (c.map Mem.D) ((c.drop 1).map Mem.D) = (c.zip (c.drop 1)).map fun p => .tup [p.1.D, p.2.D]
  | [] => rfl
  | [a] => rfl
  | a :: b :: r => by
    have := zip_pairs (b :: r)
    simp only [List.drop_succ_cons, List.drop_zero, List.map_cons, zipD, List.zip_cons_cons] at this ⊢
    rw [this]
theorem zip_asc : ∀ (c : List Mem), Asc c → ∀ p ∈ c.zip (c.drop 1), p.1.d ≤ p.2.d
  | [], _, x, hx => by simp at hx
  | [a], _, x, hx => by simp at hx
  | a :: b :: r, h, x, hx => by
    obtain ⟨h1, h2⟩ := List.pairwise_cons.mp h
    simp only [List.drop_succ_cons, List.drop_zero, List.zip_cons_cons, List.mem_cons] at hx
    rcases hx with rfl | hx
    · exact h1 b List.mem_cons_self
    · exact zip_asc (b :: r) h2 x (by simpa using hx)
theorem all_asc (hc : Asc c) (hl : c.length ≤ 1000) : ev lc_is_club_of_1 ⟨[SV.d (clubD c), .d WORDS, .un, .un, .un], st⟩ = .ok (.new (.lst (((c.zip (c.drop 1)).map fun _ => true).map .bl))) ⟨[SV.d (clubD c), .d WORDS, .un, .un, .un], st⟩ := by
  rw [List.map_map]
  refine lc_map (c.zip (c.drop 1)) (fun p => .tup [p.1.D, p.2.D]) (fun _ => .bl true) ?_ (big_le (by rw [List.length_zip]; omega)) rfl fun p hp => ⟨_, rfl, rfl, ?_⟩
  · simp_arith [clubD, opSl, cut1, ← List.map_drop, zip_pairs]
  · have h := zip_asc c hc p hp
    simp_arith [Mem.D, h]
/-- a club -/
structure Club (c : List Mem) : Prop where
  some : c ≠ []
  few : c.length ≤ 60
  ok : ∀ m ∈ c, m.ok
  asc : Asc c
theorem all_trues {α : Type} (l : List α) : (l.map fun _ => true).all id = true := by simp
theorem is_club_of_ok (h : Club c) : f_is_club_of [clubD c, WORDS] st = .ok (.d (.bl true)) st := by
  have l1 : ((1 : Int) ≤ (c.length : Int)) := by
    have := List.length_pos_iff.mpr h.some
    omega
  have l2 : ((c.length : Int) ≤ 60) := by have := h.few; omega
  have e1 := all_told (st := st) h.ok (by have := h.few; omega)
  have e2 := all_asc (st := st) h.asc (by have := h.few; omega)
  unfold clubD at e1 e2
  unfold f_is_club_of
  simp_arith [b_is_club_of, k_MOST_MEMBERS, clubD, e1, e2, l1, l2, blsD_map, all_trues]
theorem need_club_ok (h : Club c) : f_need_club [clubD c] st = .ok (.d .non) st := by
  unfold f_need_club
  simp_arith [b_need_club, k_WORDS, is_club_of_ok h]
end
theorem Mem.fits {m : Mem} (h : m.ok) : m.D.shows = true ∧ m.D.cost ≤ 600 := by
  obtain ⟨a1, a2⟩ := fit_int (i := m.d) ⟨by have := h.1; omega, by have := h.1; omega⟩
  obtain ⟨b1, b2⟩ := fit_int (i := m.n) ⟨by have := h.2; omega, by have := h.2; omega⟩
  have w2 : (D.str (wd m.w)).cost ≤ 20 := by
    show (reprText (wd m.w)).length ≤ 20
    cases m.w <;> decide +kernel
  refine ⟨?_, ?_⟩
  · show ((D.int m.d).shows && (true && ((D.int m.n).shows && true))) = true
    rw [a1, b1]; rfl
  · show ((D.int m.d).cost + 2 + ((D.str (wd m.w)).cost + 2 + ((D.int m.n).cost + 2 + 0))) + 3 ≤ 600
    omega
theorem club_fits {c : List Mem} (h : Club c) : D.showss (c.map Mem.D) = true ∧ D.costs (c.map Mem.D) ≤ 100000 := by
  have := fit_list (k := 600) (c.map Mem.D) fun d hd => by
    obtain ⟨m, hm, rfl⟩ := List.mem_map.mp hd
    exact Mem.fits (h.ok m hm)
  rw [List.length_map] at this
  refine ⟨this.1, ?_⟩
  have h1 := this.2
  have := h.few
  have : (600 + 2) * c.length ≤ 602 * 60 := Nat.mul_le_mul_left 602 this
  omega
theorem repr_club {c : List Mem} (h : Club c) : biRepr [.lst (c.map Mem.D)] = some (.d (.str (toPD (clubD c)).shown)) :=
  repr_lst (plain_mems 58 c) (club_fits h).1 (Nat.le_trans (club_fits h).2 (by omega))
theorem unders_mems (n : Nat) (c : List Mem) : D.unders n (c.map Mem.D) = true := (unders_iff n _).mpr fun d hd => by
  obtain ⟨m, _, rfl⟩ := List.mem_map.mp hd
  simp only [Mem.D, D.under, D.unders, Bool.and_self]
/-- a member by its place -/
def mAt (c : List Mem) (i : Nat) : Mem := c.getD i ⟨0, false, 0⟩
theorem mAt_get {c : List Mem} {i : Nat} (h : i < c.length) : (c.map Mem.D)[i]? = some (mAt c i).D := by
  rw [List.getElem?_map, List.getElem?_eq_getElem h, mAt, List.getD_eq_getElem?_getD, List.getElem?_eq_getElem h]; rfl
theorem mAt_at {c : List Mem} {i : Nat} (h : i < c.length) : atI (c.map Mem.D) (i : Int) = some (mAt c i).D := atI_nat (mAt_get h)
theorem mAt_int {c : List Mem} {b : Int} (h0 : 0 ≤ b) (h : b < c.length) : atI (c.map Mem.D) b = some (mAt c b.toNat).D := by
  have := mAt_at (c := c) (i := b.toNat) (by omega)
  rwa [Int.toNat_of_nonneg h0] at this

end G4

namespace G4
open PySem PySem.Spec PyProof.Rows L2
local macro_rules
  | `(tactic| simp_arith [$as,*]) => `(tactic| simp -implicitDefEqProofs only [tl_table_of_1, tl_table_of_2, tl_table_of_3, tl_one_number_1, tl_one_number_2, tl_moves_of_1, tl_moves_of_2, tl_two_numbers_1, tl_two_numbers_2, tl_two_numbers_3, tl_one_came_1, tl_one_came_2, tl_one_day_1, tl_one_day_2, tl_one_day_3, tl_one_day_4, tl__law_stirred_1, tl__law_stirred_2, tl__law_draw_1, tl__law_draw_2, tl__law_story_1, tl__law_story_2, tl__law_number_right_1, tl__law_number_right_2, tl__law_number_right_3, tl__law_number_right_4, tl__law_number_right_5, tl__law_came_right_1, tl__law_came_right_2, tl__law_came_right_3, tl__law_came_right_4, tl__law_day_right_1, tl__law_day_right_2, tl__law_day_right_3, tl__law_day_right_4, tl__law_day_right_5, tl__law_day_right_6, tl__law_moved_right_1, tl__law_moved_right_2, tl__law_moved_right_3, tl__law_moved_right_4, tl__law_moved_right_5, tl__law_moved_right_6, tl__law_moved_right_7, ↓bnd_eq, ↓off_eq, ↓thn_eq, run_eq, fin_nx, fin_rt, fin_ex, S.hide, hideSl, exms, exm, ev, evT, evs, evOs, evo, evc, evSrc, evPar, hb_ok, hb_ex, ho_ok, ho_ex, ht_nx, ht_rt, ht_ex, tb_nx, tb_rt, tb_ex, hd_setB, hd_setT, hd_retT, D.flat, opd_d, opd_pl, opd_lst, opd_ex, val_d, val_lst, List.append_assoc, List.length_set, gc_push, gc_id, take_push, take_id, get_app0, get_app1, get_app2, isNew0, isNew1, isNew_int, isNew_str, isNew_bl, isNew_non, isNew_tup, isNew_lst, keep_un, keep_int, keep_bl, keep_non, keep_str, keep_scr, keep_obj, keep_own_lst, keep_own_dK, pureK_nil, keep_lst, keep_tup, D.unders, ne_succ, ne_succ1, eq_self, nodup2, nodup3, List.filterMap_cons, List.filterMap_nil, putPar, D.under, List.nodup_cons, List.mem_cons, List.not_mem_nil, or_self, or_false, Nat.reduceEqDiff, List.nodup_nil, true_and, and_true, bits10, Int.reduceMul, Int.reduceLE, Int.reduceLT, Int.reducePow, Int.reduceAdd, Int.reduceSub, Int.reduceNeg, Int.reduceToNat, val_dK, putTs_nil, putTs_nm, putTs_sub, val_ex, val_pl, valPl_lst, valPl_d, opt_some, toO_ok, toO_ex, asBl_ok, List.map_cons, List.map_nil, List.length_cons, List.length_nil, Nat.reduceAdd, Nat.reduceSub, Nat.zero_add, List.replicate, List.cons_append, List.nil_append, List.getElem?_cons_zero, List.getElem?_cons_succ, List.set_cons_zero, List.set_cons_succ, S.rd, S.rdD, S.store, OS.opt, Option.bind_some, Option.map_some, Cell.view, S.cell, S.isLst, S.isDct, S.rdDct, dgetV, dixV, augV, S.put, S.rdLst, cmpV, opCmp, opEq_str, opEq_int, opEq_bl, opEq_non, opEq_lst, opEq_tup, pures_app, eqv_int, eqv_bl, eqv_lst, eqv_tup, eqvs_nil, eqvs_ints, eqvs_cons, eqv_str, opIn_ints, unders_ints, set_app0, set_app1, binV, opBin, ixV, opIx, biV, biSem, biLen, biInt, biAbs, biMax2, biMin2, biSum, biAll, biAny, biList, biTuple, List.mapM_cons, List.mapM_nil, bind, pure, Option.bind, truV, D.tru, isiV, D.kind, Ty.sub, List.any_cons, List.any_nil, decide_true, decide_false, Int.cast_ofNat_Int, beq_self_eq_true, Bool.false_and, Bool.true_or, Bool.false_or, Bool.or_false, Bool.and_true, Bool.true_and, Bool.and_self, if_true, if_false, Bool.false_eq_true, reduceCtorEq, Bool.not_true, Bool.not_false, finish, D.pure, D.pures, Cell.pure, List.take_length, and_self, not_true_eq_false, not_false_eq_true, plain_int', plain_lst, plain_tup, plain_non, plain_bl, D.plainsN, pures_ints, plain_ints, List.length_map, List.length_append, at1, at2, at3, at4, at5, muV, muSem, muApp, setIx, S.fz, perm, List.getD_cons_zero, List.getD_cons_succ, $as,*])
/-! ### made clubs: plain law -/
def obD : Option Nat → D
  | none => .non
  | some b => .int b
def numsOf (n : Nat) (w : List (Option Nat)) : List Int := (List.range n).map fun i => ((w.count (some i) : Nat) : Int)
theorem numsOf_none (n : Nat) (w : List (Option Nat)) : numsOf n (w ++ [none]) = numsOf n w := by
  unfold numsOf
  refine List.map_congr_left fun i _ => ?_
  rw [List.count_append]
  simp
theorem numsOf_get {n i : Nat} (w : List (Option Nat)) (h : i < n) : (numsOf n w)[i]? = some ((w.count (some i) : Nat) : Int) := by
  unfold numsOf
  rw [List.getElem?_map, List.getElem?_range h]; rfl
theorem numsOf_len (n : Nat) (w : List (Option Nat)) : (numsOf n w).length = n := by simp [numsOf]
theorem numsOf_some {n o : Nat} (w : List (Option Nat)) (h : o < n) : (numsOf n w).set o (((w.count (some o) : Nat) : Int) + 1) = numsOf n (w ++ [some o]) := by
  apply List.ext_getElem?
  intro i
  by_cases hi : i < n
  · rw [numsOf_get _ hi]
    by_cases e : o = i
    · subst e
      rw [List.getElem?_set_self (by rw [numsOf_len]; exact h), List.count_append]
      simp
    · rw [List.getElem?_set_ne e, numsOf_get _ hi, List.count_append]
      simp [e]
  · rw [List.getElem?_eq_none (by rw [List.length_set, numsOf_len]; omega), List.getElem?_eq_none (by rw [numsOf_len]; omega)]
/-- what is made so far -/
structure MadeI (rows : List Int) (w : List (Option Nat)) (t : Int) : Prop where
  asc : rows.Pairwise (· ≤ ·)
  all : ∀ d ∈ rows, 0 ≤ d ∧ d ≤ t
  len : w.length = rows.length
  br : ∀ i b : Nat, w[i]? = some (some b) → ∃ db di, rows[b]? = some db ∧ rows[i]? = some di ∧ db < di
theorem MadeI.push {rows : List Int} {w : List (Option Nat)} {t t' : Int} (h : MadeI rows w t) (ht : t ≤ t') (h0 : 0 ≤ t) (o : Option Nat) (ho : ∀ b, o = some b → ∃ db, rows[b]? = some db ∧ db < t') : MadeI (rows ++ [t']) (w ++ [o]) t' := by
  refine ⟨?_, ?_, by simp [h.len], fun i b q => ?_⟩
  · rw [List.pairwise_append]
    refine ⟨h.asc, by simp, fun a ha b hb => ?_⟩
    rw [List.mem_singleton.mp hb]
    have := (h.all a ha).2; omega
  · intro d hd
    rcases List.mem_append.mp hd with hd | hd
    · have := h.all d hd; omega
    · rw [List.mem_singleton.mp hd]; omega
  · by_cases hi : i < w.length
    · rw [List.getElem?_append_left hi] at q
      obtain ⟨db, di, h1, h2, h3⟩ := h.br i b q
      refine ⟨db, di, ?_, ?_, h3⟩
      · rw [List.getElem?_append_left (List.getElem?_eq_some_iff.mp h1).1]; exact h1
      · rw [List.getElem?_append_left (List.getElem?_eq_some_iff.mp h2).1]; exact h2
    · have e : i = w.length := by
        have := (List.getElem?_eq_some_iff.mp q).1
        simp at this; omega
      subst e
      rw [List.getElem?_concat_length] at q
      obtain ⟨db, h1, h2⟩ := ho b (Option.some.inj q)
      refine ⟨db, t', ?_, ?_, h2⟩
      · rw [List.getElem?_append_left (List.getElem?_eq_some_iff.mp h1).1]; exact h1
      · rw [h.len, List.getElem?_concat_length]
def mkC : List Int → List (Option Nat) → List Int → List Mem
  | d :: r, b :: w, n :: m => ⟨d, b.isSome, n⟩ :: mkC r w m
  | _, _, _ => []
theorem mkC_zip : ∀ (r : List Int) (w : List (Option Nat)) (m : List Int), zip3D (r.map D.int) (w.map fun o => .str (wd o.isSome)) (m.map D.int) = (mkC r w m).map Mem.D
  | [], w, m => by simp [zip3D, mkC]
  | d :: r, [], m => by simp [zip3D, mkC]
  | d :: r, b :: w, [] => by simp [zip3D, mkC]
  | d :: r, b :: w, n :: m => by
    rw [List.map_cons, List.map_cons, List.map_cons, zip3D, mkC_zip r w m]; rfl
theorem mkC_get : ∀ (r : List Int) (w : List (Option Nat)) (m : List Int), w.length = r.length → m.length = r.length → ∀ (i : Nat) (x : Mem), (mkC r w m)[i]? = some x → ∃ b, r[i]? = some x.d ∧ w[i]? = some b ∧ x.w = b.isSome ∧ m[i]? = some x.n
  | [], [], [], _, _, i, x, h => by simp [mkC] at h
  | d :: r, b :: w, n :: m, h1, h2, 0, x, h => by
    simp [mkC] at h
    subst h
    exact ⟨b, rfl, rfl, rfl, rfl⟩
  | d :: r, b :: w, n :: m, h1, h2, i + 1, x, h => mkC_get r w m (by simpa using h1) (by simpa using h2) i x (by simpa [mkC] using h)
theorem mkC_len : ∀ (r : List Int) (w : List (Option Nat)) (m : List Int), w.length = r.length → m.length = r.length → (mkC r w m).length = r.length
  | [], [], [], _, _ => rfl
  | d :: r, b :: w, n :: m, h1, h2 => by rw [mkC, List.length_cons, List.length_cons, mkC_len r w m (by simpa using h1) (by simpa using h2)]
theorem mkC_days : ∀ (r : List Int) (w : List (Option Nat)) (m : List Int), w.length = r.length → m.length = r.length → (mkC r w m).map (·.d) = r
  | [], [], [], _, _ => rfl
  | d :: r, b :: w, n :: m, h1, h2 => by rw [mkC, List.map_cons, mkC_days r w m (by simpa using h1) (by simpa using h2)]
/-- a way of a club -/
structure IsWay (c : List Mem) (w : List (Option Nat)) : Prop where
  len : w.length = c.length
  br : ∀ (i b : Nat), w[i]? = some (some b) → ∃ x y, c[b]? = some x ∧ c[i]? = some y ∧ x.d < y.d
  mem : ∀ (i : Nat) (x : Mem) (o : Option Nat), c[i]? = some x → w[i]? = some o → x.w = o.isSome
  cnt : ∀ (i : Nat) (x : Mem), c[i]? = some x → x.n = (w.count (some i) : Nat)
theorem made_way {rows : List Int} {w : List (Option Nat)} {t : Int} (h : MadeI rows w t) (n : Nat) (hn : rows.length = n) (h1 : 1 ≤ n) (h2 : n ≤ 60) (ht : t ≤ 10 ^ 30) :
    Club (mkC rows w (numsOf n w)) ∧ IsWay (mkC rows w (numsOf n w)) w ∧ (mkC rows w (numsOf n w)).length = n ∧ ∀ x ∈ mkC rows w (numsOf n w), x.n ≤ 60 := by
  have l1 : (numsOf n w).length = rows.length := by rw [numsOf_len, hn]
  have L := mkC_len rows w (numsOf n w) h.len l1
  have G := mkC_get rows w (numsOf n w) h.len l1
  have hcnt : ∀ i : Nat, w.count (some i) ≤ 60 := fun i => by
    have := List.count_le_length (a := some i) (l := w)
    have := h.len
    omega
  have N : ∀ (i : Nat) (x : Mem), (mkC rows w (numsOf n w))[i]? = some x → x.n = (w.count (some i) : Nat) := fun i x hx => by
    obtain ⟨b, _, _, _, h4⟩ := G i x hx
    have hi := (List.getElem?_eq_some_iff.mp hx).1
    rw [L, hn] at hi
    rw [numsOf_get w hi] at h4
    exact (Option.some.inj h4).symm
  refine ⟨⟨fun e => ?_, by rw [L, hn]; exact h2, fun m hm => ?_, ?_⟩, ⟨by rw [L, h.len], fun i b q => ?_, fun i x o hx ho => ?_, N⟩, by rw [L, hn], fun x hx => ?_⟩
  · rw [e] at L; simp at L; omega
  · obtain ⟨i, hi, e⟩ := List.getElem_of_mem hm
    have q : (mkC rows w (numsOf n w))[i]? = some m := by rw [List.getElem?_eq_getElem hi, e]
    have := N i m q
    have := hcnt i
    obtain ⟨b, h1, _⟩ := G i m q
    have := h.all m.d (List.mem_of_getElem? h1)
    exact ⟨⟨by omega, by omega⟩, by omega, by omega⟩
  · have : (mkC rows w (numsOf n w)).map (·.d) = rows := mkC_days rows w (numsOf n w) h.len l1
    have q := h.asc
    rw [← this, List.pairwise_map] at q
    exact q
  · obtain ⟨db, di, g1, g2, g3⟩ := h.br i b q
    have hb : b < (mkC rows w (numsOf n w)).length := by rw [L]; exact (List.getElem?_eq_some_iff.mp g1).1
    have hi : i < (mkC rows w (numsOf n w)).length := by rw [L]; exact (List.getElem?_eq_some_iff.mp g2).1
    refine ⟨_, _, List.getElem?_eq_getElem hb, List.getElem?_eq_getElem hi, ?_⟩
    obtain ⟨_, e1, _⟩ := G b _ (List.getElem?_eq_getElem hb)
    obtain ⟨_, e2, _⟩ := G i _ (List.getElem?_eq_getElem hi)
    rw [g1] at e1; rw [g2] at e2
    rw [← Option.some.inj e1, ← Option.some.inj e2]; exact g3
  · obtain ⟨b, e1, e2, e3, _⟩ := G i x hx
    rw [ho] at e2
    rw [e3, Option.some.inj e2]
  · obtain ⟨i, hi, e⟩ := List.getElem_of_mem hx
    have := N i x (by rw [List.getElem?_eq_getElem hi, e])
    have := hcnt i
    omega

end G4

namespace G4
open PySem PySem.Spec PyProof.Rows L2
local macro_rules
  | `(tactic| simp_arith [$as,*]) => `(tactic| simp -implicitDefEqProofs only [tl_table_of_1, tl_table_of_2, tl_table_of_3, tl_one_number_1, tl_one_number_2, tl_moves_of_1, tl_moves_of_2, tl_two_numbers_1, tl_two_numbers_2, tl_two_numbers_3, tl_one_came_1, tl_one_came_2, tl_one_day_1, tl_one_day_2, tl_one_day_3, tl_one_day_4, tl__law_stirred_1, tl__law_stirred_2, tl__law_draw_1, tl__law_draw_2, tl__law_story_1, tl__law_story_2, tl__law_number_right_1, tl__law_number_right_2, tl__law_number_right_3, tl__law_number_right_4, tl__law_number_right_5, tl__law_came_right_1, tl__law_came_right_2, tl__law_came_right_3, tl__law_came_right_4, tl__law_day_right_1, tl__law_day_right_2, tl__law_day_right_3, tl__law_day_right_4, tl__law_day_right_5, tl__law_day_right_6, tl__law_moved_right_1, tl__law_moved_right_2, tl__law_moved_right_3, tl__law_moved_right_4, tl__law_moved_right_5, tl__law_moved_right_6, tl__law_moved_right_7, ↓bnd_eq, ↓off_eq, ↓thn_eq, run_eq, fin_nx, fin_rt, fin_ex, S.hide, hideSl, exms, exm, ev, evT, evs, evOs, evo, evc, evSrc, evPar, hb_ok, hb_ex, ho_ok, ho_ex, ht_nx, ht_rt, ht_ex, tb_nx, tb_rt, tb_ex, hd_setB, hd_setT, hd_retT, D.flat, opd_d, opd_pl, opd_lst, opd_ex, val_d, val_lst, List.append_assoc, List.length_set, gc_push, gc_id, take_push, take_id, get_app0, get_app1, get_app2, isNew0, isNew1, isNew_int, isNew_str, isNew_bl, isNew_non, isNew_tup, isNew_lst, keep_un, keep_int, keep_bl, keep_non, keep_str, keep_scr, keep_obj, keep_own_lst, keep_own_dK, pureK_nil, keep_lst, keep_tup, D.unders, ne_succ, ne_succ1, eq_self, nodup2, nodup3, List.filterMap_cons, List.filterMap_nil, putPar, D.under, List.nodup_cons, List.mem_cons, List.not_mem_nil, or_self, or_false, Nat.reduceEqDiff, List.nodup_nil, true_and, and_true, bits10, Int.reduceMul, Int.reduceLE, Int.reduceLT, Int.reducePow, Int.reduceAdd, Int.reduceSub, Int.reduceNeg, Int.reduceToNat, val_dK, putTs_nil, putTs_nm, putTs_sub, val_ex, val_pl, valPl_lst, valPl_d, opt_some, toO_ok, toO_ex, asBl_ok, List.map_cons, List.map_nil, List.length_cons, List.length_nil, Nat.reduceAdd, Nat.reduceSub, Nat.zero_add, List.replicate, List.cons_append, List.nil_append, List.getElem?_cons_zero, List.getElem?_cons_succ, List.set_cons_zero, List.set_cons_succ, S.rd, S.rdD, S.store, OS.opt, Option.bind_some, Option.map_some, Cell.view, S.cell, S.isLst, S.isDct, S.rdDct, dgetV, dixV, augV, S.put, S.rdLst, cmpV, opCmp, opEq_str, opEq_int, opEq_bl, opEq_non, opEq_lst, opEq_tup, pures_app, eqv_int, eqv_bl, eqv_lst, eqv_tup, eqvs_nil, eqvs_ints, eqvs_cons, eqv_str, opIn_ints, unders_ints, set_app0, set_app1, binV, opBin, ixV, opIx, biV, biSem, biLen, biInt, biAbs, biMax2, biMin2, biSum, biAll, biAny, biList, biTuple, List.mapM_cons, List.mapM_nil, bind, pure, Option.bind, truV, D.tru, isiV, D.kind, Ty.sub, List.any_cons, List.any_nil, decide_true, decide_false, Int.cast_ofNat_Int, beq_self_eq_true, Bool.false_and, Bool.true_or, Bool.false_or, Bool.or_false, Bool.and_true, Bool.true_and, Bool.and_self, if_true, if_false, Bool.false_eq_true, reduceCtorEq, Bool.not_true, Bool.not_false, finish, D.pure, D.pures, Cell.pure, List.take_length, and_self, not_true_eq_false, not_false_eq_true, plain_int', plain_lst, plain_tup, plain_non, plain_bl, D.plainsN, pures_ints, plain_ints, List.length_map, List.length_append, at1, at2, at3, at4, at5, muV, muSem, muApp, setIx, S.fz, perm, List.getD_cons_zero, List.getD_cons_succ, $as,*])
/-! ### drawn stories -/
theorem cntS_obs (i : Nat) : ∀ w : List (Option Nat), ((w.map obD).countP fun y => D.eqv y (.int i)) = w.count (some i)
  | [] => rfl
  | o :: w => by
    rw [List.map_cons, List.countP_cons, List.count_cons, cntS_obs i w]
    cases o with
    | none => rfl
    | some b =>
      show _ + (if D.eqv (.int b) (.int i) = true then 1 else 0) = _
      rw [eqv_int]
      by_cases z : b = i
      · subst z; simp
      · have z1 : ((b : Int) == (i : Int)) = false := by simp; omega
        have z2 : ((some b : Option Nat) == some i) = false := by simp; omega
        rw [z1, z2]
theorem flatS_obs (w : List (Option Nat)) : (w.map obD).all D.flat = true := by
  rw [List.all_eq_true]
  intro d hd
  obtain ⟨o, _, rfl⟩ := List.mem_map.mp hd
  cases o <;> rfl
theorem pure_obs (w : List (Option Nat)) : D.pures (w.map obD) = true := by
  induction w with
  | nil => rfl
  | cons o w ih => rw [List.map_cons]; cases o <;> simpa [D.pures, D.pure, obD] using ih
theorem atI_lastS {α : Type} {l : List α} {x : α} (h : l.getLast? = some x) : atI l (-1) = some x := by
  rw [List.getLast?_eq_getElem?] at h
  have hl := (List.getElem?_eq_some_iff.mp h).1
  have e : ixN l.length (-1) = some (l.length - 1) := by
    unfold ixN
    rw [if_neg (by omega), if_pos (by omega)]
    congr 1
    omega
  unfold atI
  rw [e]
  exact h
section
variable {st : List Cell}
theorem days_turn {p n : Nat} {x : Cell} {ds : List Int} {m : Int} {j : Nat} {t : Int} (hp : p < st.length) (h : Bg x (n + 2)) (hl : ds.getLast? = some t) (hlen : ds.length ≤ 1000) :
    ∃ u y, exms fb__law_days_1 ⟨[.d (.obj p), .d (.int m), .own (.lst (ds.map .int)), .d (.int j)], st.set p x⟩ = .nx ⟨[.d (.obj p), .d (.int m), .own (.lst ((ds ++ [t + u]).map .int)), .d (.int j)], st.set p y⟩ ∧ 0 ≤ u ∧ u ≤ 10 ^ 28 ∧ Bg y n := by
  obtain ⟨r1, y1, e1, a1, b1, q1⟩ := draw_ok hp (n := n + 1) h (wide := 10 ^ 28) (by decide) (by decide)
  obtain ⟨r2, y2, e2, a2, b2, q2⟩ := draw_ok hp q1 (wide := 5) (by decide) (by decide)
  obtain ⟨u, hu, u0, u1⟩ : ∃ u, atI [D.int 0, .int 1, .int 1, .int 2, .int r1] r2 = some (.int u) ∧ 0 ≤ u ∧ u ≤ 10 ^ 28 := by
    have : r2 = 0 ∨ r2 = 1 ∨ r2 = 2 ∨ r2 = 3 ∨ r2 = 4 := by omega
    rcases this with rfl | rfl | rfl | rfl | rfl
    · exact ⟨0, rfl, by omega, by omega⟩
    · exact ⟨1, rfl, by omega, by omega⟩
    · exact ⟨1, rfl, by omega, by omega⟩
    · exact ⟨2, rfl, by omega, by omega⟩
    · exact ⟨r1, rfl, by omega, by omega⟩
  have al : atI (ds.map D.int) (-1) = some (.int t) := atI_lastS (by rw [List.getLast?_map, hl]; rfl)
  have hb : ds.length < big := Nat.lt_of_le_of_lt hlen (by decide)
  refine ⟨u, y2, ?_, u0, u1, q2⟩
  have e1 : f__law_draw [.obj p, .int 10000000000000000000000000000] (st.set p x) = .ok (.d (.int r1)) (st.set p y1) := e1
  unfold fb__law_days_1
  simp_arith [al, e1, e2, hu, hb, List.map_append]
theorem days_ok {p n many : Nat} {x : Cell} (hp : p < st.length) (h : Bg x (n + 200)) (h1 : 1 ≤ many) (h2 : many ≤ 60) :
    ∃ (ds : List Int) (y : Cell), f__law_days [.obj p, .int many] (st.set p x) = .ok (.new (.lst (ds.map .int))) (st.set p y) ∧ Bg y n ∧ ds.length = many ∧ ds.Pairwise (· ≤ ·) ∧ ∀ d ∈ ds, 0 ≤ d ∧ d ≤ 10 ^ 28 * many := by
  obtain ⟨r1, y1, e1, a1, b1, q1⟩ := draw_ok hp (n := n + 199) h (wide := 2) (by decide) (by decide)
  obtain ⟨wd0, hwd, w0, w1⟩ : ∃ u, atI [D.int 3, .int 10000000000000000000000000000] r1 = some (.int u) ∧ 0 < u ∧ u ≤ 10 ^ 28 := by
    have : r1 = 0 ∨ r1 = 1 := by omega
    rcases this with rfl | rfl
    · exact ⟨3, rfl, by omega, by omega⟩
    · exact ⟨_, rfl, by omega, by omega⟩
  obtain ⟨t0, y2, e2, a2, b2, q2⟩ := draw_ok hp (n := n + 198) q1 (wide := wd0) w0 (by omega)
  obtain ⟨s', l1, ds, v3, y, rfl, g1, g2, t, g3, g4, g5⟩ := for_rng (v := 3) (body := fun s => exms fb__law_days_1 s) (n := st.length) (many - 1) (fun j z => ∃ (ds : List Int) (v3 : SV) (y : Cell), z = ⟨[.d (.obj p), .d (.int many), .own (.lst (ds.map .int)), v3], st.set p y⟩ ∧ Bg y (n + 2 * (many - 1 - j)) ∧ ds.length = j + 1 ∧ ∃ t, ds.getLast? = some t ∧ t ≤ 10 ^ 28 * (j + 1) ∧ ds.Pairwise (· ≤ ·) ∧ ∀ d ∈ ds, 0 ≤ d ∧ d ≤ t)
    ⟨[.d (.obj p), .d (.int many), .own (.lst (([t0] : List Int).map .int)), .un], st.set p y2⟩ ⟨[t0], _, y2, rfl, q2.mono (by omega), rfl, t0, rfl, by omega, by simp, fun d hd => by cases List.mem_singleton.mp hd; exact ⟨a2, Int.le_refl _⟩⟩ fun j z hj hI => by
      obtain ⟨ds, v3, y, rfl, g1, g2, t, g3, g4, g5, g6⟩ := hI
      obtain ⟨u, y', k1, k2, k3, k4⟩ := days_turn (st := st) (n := n + 2 * (many - 1 - (j + 1))) (x := y) (ds := ds) (m := many) (j := j) (t := t) hp (g1.mono (by omega)) g3 (by omega)
      refine ⟨_, .inl k1, ds ++ [t + u], _, y', gc_id (by simp), k4, by simp [g2], t + u, by simp, ?_, ?_, fun d hd => ?_⟩
      · have : (10 : Int) ^ 28 * (((j + 1 : Nat) : Int) + 1) = 10 ^ 28 * ((j : Int) + 1) + 10 ^ 28 := by omega
        omega
      · refine List.pairwise_append.mpr ⟨g5, List.pairwise_singleton _ _, fun a ha b hb => ?_⟩
        cases List.mem_singleton.mp hb
        have := (g6 a ha).2
        omega
      · rcases List.mem_append.mp hd with q | q
        · have := g6 d q; omega
        · cases List.mem_singleton.mp q
          have := g6 t (List.mem_of_getLast? g3)
          omega
  refine ⟨ds, y, ?_, g1.mono (by omega), by omega, g5.1, fun d hd => ?_⟩
  · have hr := rng1_nat (show many - 1 ≤ 1000000 by omega)
    rw [show ((many - 1 : Nat) : Int) = (many : Int) - 1 by omega] at hr
    simp only [List.map_cons, List.map_nil] at l1
    unfold f__law_days
    simp_arith [b__law_days, e1, hwd, e2, hr]
    rw [l1]
    simp_arith []
  · have h1 := g5.2 d hd
    have : (10 : Int) ^ 28 * (((many - 1 : Nat) : Int) + 1) ≤ 10 ^ 28 * many := Int.mul_le_mul_of_nonneg_left (by omega) (by decide)
    omega
/-! the story -/
structure StI (ds : List Int) (w : List (Option Nat)) : Prop where
  len : w.length ≤ ds.length
  br : ∀ i b : Nat, w[i]? = some (some b) → ∃ db di, ds[b]? = some db ∧ ds[i]? = some di ∧ db < di
theorem StI.push {ds : List Int} {w : List (Option Nat)} (h : StI ds w) (hl : w.length < ds.length) {o : Option Nat} (ho : ∀ b, o = some b → ds.getD b 0 < ds.getD w.length 0 ∧ b < ds.length) : StI ds (w ++ [o]) := by
  refine ⟨by simp; omega, fun i b e => ?_⟩
  by_cases hi : i < w.length
  · rw [List.getElem?_append_left hi] at e
    exact h.br i b e
  · have hi2 : i = w.length := by have := (List.getElem?_eq_some_iff.mp e).1; simp at this; omega
    subst hi2
    rw [List.getElem?_append_right (Nat.le_refl _), Nat.sub_self] at e
    have e : o = some b := by simpa using e
    obtain ⟨h1, h2⟩ := ho b e
    refine ⟨ds[b], ds[w.length], List.getElem?_eq_getElem h2, List.getElem?_eq_getElem hl, ?_⟩
    rw [List.getD_eq_getElem?_getD, List.getD_eq_getElem?_getD, List.getElem?_eq_getElem h2, List.getElem?_eq_getElem hl] at h1
    exact h1
def aheadS (ds : List Int) (k : Nat) : List Nat := (List.range k).filter fun i => decide (ds.getD i 0 < ds.getD k 0)
theorem atDs {ds : List Int} {i : Nat} (h : i < ds.length) : atI (ds.map D.int) (i : Int) = some (.int (ds.getD i 0)) := atI_nat (by rw [List.getElem?_map, List.getElem?_eq_getElem h, List.getD_eq_getElem?_getD, List.getElem?_eq_getElem h]; rfl)
theorem story_turn {p n k : Nat} {x : Cell} {ds : List Int} {w : List (Option Nat)} {m v5 v6 v7 : SV} (hp : p < st.length) (h : Bg x (n + 3)) (I : StI ds w) (hk : w.length = k) (hkd : k < ds.length) (hd : ds.length ≤ 60) :
    ∃ o u6 y, exms fb__law_story_1 ⟨[.d (.obj p), m, .own (.lst (ds.map .int)), .own (.lst (w.map obD)), .d (.int k), v5, v6, v7, .un], st.set p x⟩ = .nx ⟨[.d (.obj p), m, .own (.lst (ds.map .int)), .own (.lst ((w ++ [o]).map obD)), .d (.int k), v5, u6, v7, .un], st.set p y⟩ ∧ StI ds (w ++ [o]) ∧ Bg y n := by
  have lc : ∀ (x : Cell), ev lc__law_story_3 ⟨[.d (.obj p), m, .own (.lst (ds.map .int)), .own (.lst (w.map obD)), .d (.int k), v5, v6, v7, .un], st.set p x⟩ = .ok (.new (.lst ((aheadS ds k).map fun i : Nat => D.int i))) ⟨[.d (.obj p), m, .own (.lst (ds.map .int)), .own (.lst (w.map obD)), .d (.int k), v5, v6, v7, .un], st.set p x⟩ := fun x => by
    have hr := rng1_nat (show k ≤ 1000000 by omega)
    refine lc_filt (List.range k) (fun i : Nat => D.int i) (fun i => decide (ds.getD i 0 < ds.getD k 0)) (fun i : Nat => D.int i) ?_ (big_le (by rw [List.length_range]; omega)) rfl fun i hi => ⟨_, rfl, rfl, ?_, fun _ => ?_⟩
    · simp_arith [hideSl, hr]
    · have a1 := atDs (ds := ds) (i := i) (by have := List.mem_range.mp hi; omega)
      have a2 := atDs (ds := ds) hkd
      simp_arith [hideSl, a1, a2]
    · simp_arith [hideSl]
  have hm : ∀ i ∈ aheadS ds k, i < k ∧ ds.getD i 0 < ds.getD k 0 := fun i hi => by
    obtain ⟨h1, h2⟩ := List.mem_filter.mp hi
    exact ⟨List.mem_range.mp h1, by simpa using h2⟩
  have hal : (aheadS ds k).length ≤ k := by
    have := List.length_filter_le (fun i => decide (ds.getD i 0 < ds.getD k 0)) (List.range k)
    rw [List.length_range] at this
    exact this
  have hb : w.length < big := Nat.lt_of_le_of_lt (show w.length ≤ 60 by omega) (by decide)
  generalize aheadS ds k = G at lc hm hal
  have pG : D.plainsN 59 (G.map fun i : Nat => D.int i) = true := (plainsN_iff _ _).mpr fun d hd => by
    obtain ⟨i, _, rfl⟩ := List.mem_map.mp hd
    exact plain_int' _ i
  by_cases hG : G = []
  · subst hG
    refine ⟨none, .own (.lst []), x, ?_, I.push (by omega) (fun b e => by cases e), h.mono (by omega)⟩
    simp only [List.map_nil] at lc
    unfold fb__law_story_1
    simp_arith [lc, hb, List.map_append, obD, eqvs_nil]
  · have ne : D.eqvs (G.map fun i : Nat => D.int i) [] = false := by
      cases G with
      | nil => exact absurd rfl hG
      | cons a G => simp only [List.map_cons, D.eqvs]
    have hGl := List.length_pos_iff.mpr hG
    obtain ⟨r1, y1, e1, a1, b1, q1⟩ := draw_ok hp (n := n + 2) h (wide := 4) (by decide) (by decide)
    by_cases z : r1 = 0
    · subst z
      refine ⟨none, .own (.lst (G.map fun i : Nat => D.int i)), y1, ?_, I.push (by omega) (fun b e => by cases e), q1.mono (by omega)⟩
      unfold fb__law_story_1
      simp_arith [lc, pG, ne, e1, hb, List.map_append, obD]
    · have zb : (r1 == 0) = false := by simpa using z
      obtain ⟨r2, y2, e2, a2, b2, q2⟩ := draw_ok hp (n := n + 1) q1 (wide := (G.length : Int)) (by omega) (by omega)
      obtain ⟨r3, y3, e3, a3, b3, q3⟩ := draw_ok hp (n := n) q2 (wide := 3) (by decide) (by decide)
      obtain ⟨i0, h0⟩ : ∃ i, G[0]? = some i := ⟨_, List.getElem?_eq_getElem hGl⟩
      obtain ⟨i1, h1⟩ : ∃ i, G.getLast? = some i := ⟨_, List.getLast?_eq_some_getLast hG⟩
      obtain ⟨i2, h2⟩ : ∃ i, G[r2.toNat]? = some i := ⟨_, List.getElem?_eq_getElem (by omega)⟩
      have c0 : atI (G.map fun i : Nat => D.int i) 0 = some (.int i0) := atI_nat (xs := G.map fun i : Nat => D.int i) (j := 0) (by rw [List.getElem?_map, h0]; rfl)
      have c1 : atI (G.map fun i : Nat => D.int i) (-1) = some (.int i1) := atI_lastS (by rw [List.getLast?_map, h1]; rfl)
      have c2 : atI (G.map fun i : Nat => D.int i) r2 = some (.int i2) := by
        have := atI_nat (xs := G.map fun i : Nat => D.int i) (j := r2.toNat) (v := .int i2) (by rw [List.getElem?_map, h2]; rfl)
        rwa [Int.toNat_of_nonneg a2] at this
      obtain ⟨o, ho, hoG⟩ : ∃ o : Nat, atI [D.int i0, .int i1, .int i2] r3 = some (.int o) ∧ o ∈ G := by
        have : r3 = 0 ∨ r3 = 1 ∨ r3 = 2 := by omega
        rcases this with rfl | rfl | rfl
        · exact ⟨i0, rfl, List.mem_of_getElem? h0⟩
        · exact ⟨i1, rfl, List.mem_of_getLast? h1⟩
        · exact ⟨i2, rfl, List.mem_of_getElem? h2⟩
      refine ⟨some o, .own (.lst (G.map fun i : Nat => D.int i)), y3, ?_, I.push (by omega) (fun b e => ?_), q3⟩
      · unfold fb__law_story_1
        simp_arith [lc, pG, ne, e1, zb, e2, e3, c0, c1, c2, ho, hb, List.map_append, obD]
      · cases e
        have := hm o hoG
        rw [hk]
        exact ⟨this.2, by omega⟩
theorem story_okB {p n many : Nat} {x : Cell} (hp : p < st.length) (h : Bg x (n + 400)) (h1 : 1 ≤ many) (h2 : many ≤ 60) :
    ∃ (c : List Mem) (w : List (Option Nat)) (y : Cell), f__law_story [.obj p, .int many] (st.set p x) = .ok (.d (.tup [clubD c, .lst (w.map obD)])) (st.set p y) ∧ Bg y n ∧ Club c ∧ IsWay c w ∧ c.length = many ∧ (∀ m ∈ c, m.n ≤ 60) ∧ ∀ m ∈ c, m.d ≤ 10 ^ 28 * many := by
  obtain ⟨ds, y1, e1, q1, d1, d2, d3⟩ := days_ok hp (n := n + 200) (h.mono (by omega)) h1 h2
  obtain ⟨s', l1, w, v4, v6, y, rfl, g1, g2, g3⟩ := for_rng (v := 4) (body := fun s => exms fb__law_story_1 s) (n := st.length) many (fun j z => ∃ (w : List (Option Nat)) (v4 v6 : SV) (y : Cell), z = ⟨[.d (.obj p), .d (.int many), .own (.lst (ds.map .int)), .own (.lst (w.map obD)), v4, .un, v6, .un, .un], st.set p y⟩ ∧ Bg y (n + 3 * (many - j)) ∧ StI ds w ∧ w.length = j ∧ v4.isOwn = false)
    ⟨[.d (.obj p), .d (.int many), .own (.lst (ds.map .int)), .own (.lst (([] : List (Option Nat)).map obD)), .un, .un, .un, .un, .un], st.set p y1⟩ ⟨[], _, _, y1, rfl, q1.mono (by omega), ⟨by simp, fun i b e => by simp at e⟩, rfl, rfl⟩ fun j z hj hI => by
      obtain ⟨w, v4, v6, y, rfl, g1, g2, g3, g4⟩ := hI
      obtain ⟨o, u6, y', k1, k2, k3⟩ := story_turn (st := st) (n := n + 3 * (many - (j + 1))) (k := j) (x := y) (m := .d (.int many)) (v5 := .un) (v6 := v6) (v7 := .un) hp (g1.mono (by omega)) g2 g3 (by omega) (by omega)
      exact ⟨_, .inl k1, w ++ [o], _, u6, y', gc_id (by simp), k3, k2, by simp [g3], rfl⟩
  obtain ⟨g3, g4⟩ := g3
  have M : MadeI ds w (10 ^ 30) := ⟨d2, fun d hd => by have := d3 d hd; omega, by omega, g2.br⟩
  obtain ⟨z1, z2, z3, z4⟩ := made_way M many d1 h1 h2 (Int.le_refl _)
  generalize hC : mkC ds w (numsOf many w) = c at z1 z2 z3 z4
  have hget := fun (i : Nat) (x : Mem) (e : c[i]? = some x) => mkC_get ds w (numsOf many w) (by omega) (by rw [numsOf_len, d1]) i x (by rw [hC]; exact e)
  refine ⟨c, w, y, ?_, g1.mono (by omega), z1, z2, z3, z4, fun m hm => ?_⟩
  · have hr := rng1_nat (show many ≤ 1000000 by omega)
    have lc2 : ev lc__law_story_2 ⟨[.d (.obj p), .d (.int many), .own (.lst (ds.map .int)), .own (.lst (w.map obD)), v4, .un, v6, .un, .un], st.set p y⟩ = .ok (.new (.lst (w.map fun o => D.str (wd o.isSome)))) ⟨[.d (.obj p), .d (.int many), .own (.lst (ds.map .int)), .d (.lst (w.map obD)), v4, .un, v6, .un, .un], st.set p y⟩ := by
      refine lc_map w obD (fun o => D.str (wd o.isSome)) ?_ (big_le (by omega)) rfl fun o ho => ⟨_, rfl, rfl, ?_⟩
      · simp_arith [hideSl]
      · cases o with
        | none => simp_arith [hideSl, obD, opIs, D.isNon, wd, Option.isSome_none]
        | some b => simp_arith [hideSl, obD, opIs, D.isNon, wd, Option.isSome_some]
    have E : c.map Mem.D = (List.range many).map fun k => D.tup [.int (ds.getD k 0), .str (wd (w.getD k none).isSome), .int (w.count (some k) : Nat)] := by
      apply List.ext_getElem?
      intro i
      rw [List.getElem?_map, List.getElem?_map]
      by_cases hi : i < many
      · rw [List.getElem?_range hi, List.getElem?_eq_getElem (show i < c.length by omega)]
        obtain ⟨b, f1, f2, f3, f4⟩ := hget i c[i] (List.getElem?_eq_getElem (by omega))
        rw [numsOf_get w hi] at f4
        have f4 := Option.some.inj f4
        simp only [Option.map_some, Mem.D, f3, ← f4, List.getD_eq_getElem?_getD, f1, f2, Option.getD_some]
      · rw [List.getElem?_eq_none (by omega), List.getElem?_eq_none (by simpa using hi)]; rfl
    have lc1 : ev lc__law_story_1 ⟨[.d (.obj p), .d (.int many), .own (.lst (ds.map .int)), .d (.lst (w.map obD)), v4, .own (.lst (w.map fun o => D.str (wd o.isSome))), v6, .un, .un], st.set p y⟩ = .ok (.new (.lst (c.map Mem.D))) ⟨[.d (.obj p), .d (.int many), .own (.lst (ds.map .int)), .d (.lst (w.map obD)), v4, .own (.lst (w.map fun o => D.str (wd o.isSome))), v6, .un, .un], st.set p y⟩ := by
      rw [E]
      refine lc_map (List.range many) (fun k : Nat => D.int k) (fun k => D.tup [.int (ds.getD k 0), .str (wd (w.getD k none).isSome), .int (w.count (some k) : Nat)]) ?_ (big_le (by rw [List.length_range]; omega)) (by show (!v4.isOwn && true) = true; rw [g4]; rfl) fun k hk => ⟨_, rfl, rfl, ?_⟩
      · simp_arith [hideSl, hr]
      · have hk := List.mem_range.mp hk
        have a1 := atDs (ds := ds) (i := k) (by omega)
        have a2 : atI (w.map fun o => D.str (wd o.isSome)) (k : Int) = some (.str (wd (w.getD k none).isSome)) := atI_nat (by rw [List.getElem?_map, List.getElem?_eq_getElem (show k < w.length by omega), List.getD_eq_getElem?_getD, List.getElem?_eq_getElem (show k < w.length by omega)]; rfl)
        have e : mtSem .count (.lst (w.map obD)) [.int k] = some (.d (.int (w.count (some k) : Nat))) := by
          show (if D.flat (.int k) && (w.map obD).all D.flat then _ else _) = _
          rw [flatS_obs, cntS_obs]; rfl
        simp_arith [hideSl, a1, a2, mtV, e]
    have pc := pure_mems c
    have pw := pure_obs w
    simp only [List.map_nil] at l1
    unfold clubD
    unfold f__law_story
    simp_arith [b__law_story, e1, hr, hp]
    rw [l1]
    simp_arith [lc2, lc1, pc, pw]
  · obtain ⟨i, hi, rfl⟩ := List.getElem_of_mem hm
    obtain ⟨b, f1, _⟩ := hget i c[i] (List.getElem?_eq_getElem hi)
    exact (d3 _ (List.mem_of_getElem? f1)).2
theorem story_ok {p n many : Nat} {x : Cell} (hp : p < st.length) (h : Bg x (n + 400)) (h1 : 1 ≤ many) (h2 : many ≤ 60) :
    ∃ (c : List Mem) (w : List (Option Nat)) (y : Cell), f__law_story [.obj p, .int many] (st.set p x) = .ok (.d (.tup [clubD c, .lst (w.map obD)])) (st.set p y) ∧ Bg y n ∧ Club c ∧ IsWay c w ∧ c.length = many ∧ (∀ m ∈ c, m.n ≤ 60) ∧ ∀ m ∈ c, m.d ≤ 10 ^ 28 * 60 := by
  obtain ⟨c, w, y, a1, a2, a3, a4, a5, a6, a7⟩ := story_okB hp h h1 h2
  exact ⟨c, w, y, a1, a2, a3, a4, a5, a6, fun m hm => by have := a7 m hm; omega⟩
end

end G4

namespace G4
open PySem PySem.Spec PyProof.Rows L2
local macro_rules
  | `(tactic| simp_arith [$as,*]) => `(tactic| simp -implicitDefEqProofs only [tl_table_of_1, tl_table_of_2, tl_table_of_3, tl_one_number_1, tl_one_number_2, tl_moves_of_1, tl_moves_of_2, tl_two_numbers_1, tl_two_numbers_2, tl_two_numbers_3, tl_one_came_1, tl_one_came_2, tl_one_day_1, tl_one_day_2, tl_one_day_3, tl_one_day_4, tl__law_stirred_1, tl__law_stirred_2, tl__law_draw_1, tl__law_draw_2, tl__law_story_1, tl__law_story_2, tl__law_number_right_1, tl__law_number_right_2, tl__law_number_right_3, tl__law_number_right_4, tl__law_number_right_5, tl__law_came_right_1, tl__law_came_right_2, tl__law_came_right_3, tl__law_came_right_4, tl__law_day_right_1, tl__law_day_right_2, tl__law_day_right_3, tl__law_day_right_4, tl__law_day_right_5, tl__law_day_right_6, tl__law_moved_right_1, tl__law_moved_right_2, tl__law_moved_right_3, tl__law_moved_right_4, tl__law_moved_right_5, tl__law_moved_right_6, tl__law_moved_right_7, ↓bnd_eq, ↓off_eq, ↓thn_eq, run_eq, fin_nx, fin_rt, fin_ex, S.hide, hideSl, exms, exm, ev, evT, evs, evOs, evo, evc, evSrc, evPar, hb_ok, hb_ex, ho_ok, ho_ex, ht_nx, ht_rt, ht_ex, tb_nx, tb_rt, tb_ex, hd_setB, hd_setT, hd_retT, D.flat, opd_d, opd_pl, opd_lst, opd_ex, val_d, val_lst, List.append_assoc, List.length_set, gc_push, gc_id, take_push, take_id, get_app0, get_app1, get_app2, isNew0, isNew1, isNew_int, isNew_str, isNew_bl, isNew_non, isNew_tup, isNew_lst, keep_un, keep_int, keep_bl, keep_non, keep_str, keep_scr, keep_obj, keep_own_lst, keep_own_dK, pureK_nil, keep_lst, keep_tup, D.unders, ne_succ, ne_succ1, eq_self, nodup2, nodup3, List.filterMap_cons, List.filterMap_nil, putPar, D.under, List.nodup_cons, List.mem_cons, List.not_mem_nil, or_self, or_false, Nat.reduceEqDiff, List.nodup_nil, true_and, and_true, bits10, Int.reduceMul, Int.reduceLE, Int.reduceLT, Int.reducePow, Int.reduceAdd, Int.reduceSub, Int.reduceNeg, Int.reduceToNat, val_dK, putTs_nil, putTs_nm, putTs_sub, val_ex, val_pl, valPl_lst, valPl_d, opt_some, toO_ok, toO_ex, asBl_ok, List.map_cons, List.map_nil, List.length_cons, List.length_nil, Nat.reduceAdd, Nat.reduceSub, Nat.zero_add, List.replicate, List.cons_append, List.nil_append, List.getElem?_cons_zero, List.getElem?_cons_succ, List.set_cons_zero, List.set_cons_succ, S.rd, S.rdD, S.store, OS.opt, Option.bind_some, Option.map_some, Cell.view, S.cell, S.isLst, S.isDct, S.rdDct, dgetV, dixV, augV, S.put, S.rdLst, cmpV, opCmp, opEq_str, opEq_int, opEq_bl, opEq_non, opEq_lst, opEq_tup, pures_app, eqv_int, eqv_bl, eqv_lst, eqv_tup, eqvs_nil, eqvs_ints, eqvs_cons, eqv_str, opIn_ints, unders_ints, set_app0, set_app1, binV, opBin, ixV, opIx, biV, biSem, biLen, biInt, biAbs, biMax2, biMin2, biSum, biAll, biAny, biList, biTuple, List.mapM_cons, List.mapM_nil, bind, pure, Option.bind, truV, D.tru, isiV, D.kind, Ty.sub, List.any_cons, List.any_nil, decide_true, decide_false, Int.cast_ofNat_Int, beq_self_eq_true, Bool.false_and, Bool.true_or, Bool.false_or, Bool.or_false, Bool.and_true, Bool.true_and, Bool.and_self, if_true, if_false, Bool.false_eq_true, reduceCtorEq, Bool.not_true, Bool.not_false, finish, D.pure, D.pures, Cell.pure, List.take_length, and_self, not_true_eq_false, not_false_eq_true, plain_int', plain_lst, plain_tup, plain_non, plain_bl, D.plainsN, pures_ints, plain_ints, List.length_map, List.length_append, at1, at2, at3, at4, at5, muV, muSem, muApp, setIx, S.fz, perm, List.getD_cons_zero, List.getD_cons_succ, $as,*])
/-! ### dicts from days to ints -/
def mapK (ds : List Int) (f : Int → Int) : List (L2.Key × D) := ds.map fun d => (Sum.inl d, D.int (f d))
theorem mapK_look (ds : List Int) (f : Int → Int) (d : Int) : lookK (mapK ds f) (.inl d) = if d ∈ ds then some (.int (f d)) else none := by
  induction ds with
  | nil => rfl
  | cons a ds ih =>
    unfold lookK mapK at ih ⊢
    rw [List.map_cons, List.find?_cons]
    by_cases h : a = d
    · subst h
      simp
    · have h1 : decide ((Sum.inl a : L2.Key) = Sum.inl d) = false := decide_eq_false fun e => h (Sum.inl.inj e)
      simp only [h1]
      rw [ih]
      simp [Ne.symm h]
theorem mapK_get (ds : List Int) (f : Int → Int) (d : Int) (h : d ∉ ds → f d = 0) : (lookK (mapK ds f) (.inl d)).getD (.int 0) = .int (f d) := by
  rw [mapK_look]
  by_cases q : d ∈ ds
  · rw [if_pos q]; rfl
  · rw [if_neg q, h q]; rfl
theorem mapK_any (ds : List Int) (f : Int → Int) (d : Int) : ((mapK ds f).any fun kv => decide (kv.1 = Sum.inl d)) = decide (d ∈ ds) := by
  induction ds with
  | nil => rfl
  | cons a ds ih =>
    unfold mapK at ih ⊢
    rw [List.map_cons, List.any_cons, ih]
    by_cases h : a = d
    · subst h; simp
    · have h1 : decide ((Sum.inl a : L2.Key) = Sum.inl d) = false := decide_eq_false fun e => h (Sum.inl.inj e)
      simp only [h1, Bool.false_or]
      simp [Ne.symm h]
theorem mapK_put (ds : List Int) (f g : Int → Int) (d v : Int) (hv : g d = v) (h : ∀ x, x ≠ d → g x = f x) : putD (mapK ds f) (.inl d) (.int v) = mapK (if d ∈ ds then ds else ds ++ [d]) g := by
  unfold putD
  rw [mapK_any]
  by_cases q : d ∈ ds
  · rw [if_pos (decide_eq_true q), if_pos q]
    unfold mapK
    rw [List.map_map]
    refine List.map_congr_left fun x _ => ?_
    show (if (Sum.inl x : L2.Key) = Sum.inl d then _ else _) = _
    by_cases e : x = d
    · subst e; rw [if_pos rfl, hv]
    · rw [if_neg fun z => e (Sum.inl.inj z), h x e]
  · rw [if_neg (by rw [decide_eq_false q]; exact Bool.false_ne_true), if_neg q]
    unfold mapK
    rw [List.map_append]
    congr 1
    · refine List.map_congr_left fun x hx => ?_
      rw [h x fun e => q (e ▸ hx)]
    · rw [List.map_cons, List.map_nil, hv]
theorem mapK_keys (ds : List Int) (f : Int → Int) : keysI (mapK ds f) = some ds := by
  induction ds with
  | nil => rfl
  | cons a ds ih =>
    unfold mapK at ih ⊢
    rw [List.map_cons, keysI, ih]; rfl
theorem mapK_len (ds : List Int) (f : Int → Int) : (mapK ds f).length = ds.length := by unfold mapK; rw [List.length_map]
/-! ### the table of a club -/
/-- the numbers, and the brought ones, of one day -/
def onD (c : List Mem) (t : Int) : Int := ((c.filter fun m => m.d == t).map (·.n)).sum
def brD (c : List Mem) (t : Int) : Int := ((c.filter fun m => (m.d == t) && m.w).length : Nat)
theorem onD_app (c : List Mem) (m : Mem) (t : Int) : onD (c ++ [m]) t = onD c t + if m.d = t then m.n else 0 := by
  unfold onD
  rw [List.filter_append, List.map_append, List.sum_append]
  by_cases h : m.d = t
  · simp [h]
  · have : (m.d == t) = false := by simpa using h
    simp [this, h]
theorem brD_app (c : List Mem) (m : Mem) (t : Int) : brD (c ++ [m]) t = brD c t + if m.d = t ∧ m.w = true then 1 else 0 := by
  unfold brD
  rw [List.filter_append, List.length_append]
  by_cases h : m.d = t
  · cases hw : m.w <;> simp [h, hw]
  · have : (m.d == t) = false := by simpa using h
    simp [this, h]
def dayF (acc : List Int) (m : Mem) : List Int := if m.d ∈ acc then acc else acc ++ [m.d]
theorem onD_none {c : List Mem} {t : Int} (h : ∀ m ∈ c, m.d ≠ t) : onD c t = 0 ∧ brD c t = 0 := by
  unfold onD brD
  have h1 : (c.filter fun m => m.d == t) = [] := List.filter_eq_nil_iff.mpr fun m hm => by simpa using h m hm
  have h2 : (c.filter fun m => (m.d == t) && m.w) = [] := List.filter_eq_nil_iff.mpr fun m hm => by simp [h m hm]
  rw [h1, h2]
  exact ⟨rfl, rfl⟩
theorem mem_dayF : ∀ (c : List Mem) (acc : List Int) (x : Int), x ∈ c.foldl dayF acc ↔ (x ∈ acc ∨ ∃ m ∈ c, m.d = x)
  | [], acc, x => by simp
  | m :: c, acc, x => by
    rw [List.foldl_cons, mem_dayF c]
    unfold dayF
    split
    · rename_i h
      constructor
      · rintro (q | ⟨y, hy, e⟩)
        · exact .inl q
        · exact .inr ⟨y, List.mem_cons_of_mem _ hy, e⟩
      · rintro (q | ⟨y, hy, e⟩)
        · exact .inl q
        · rcases List.mem_cons.mp hy with rfl | hy
          · exact .inl (e ▸ h)
          · exact .inr ⟨y, hy, e⟩
    · rw [List.mem_append, List.mem_singleton]
      constructor
      · rintro ((q | q) | ⟨y, hy, e⟩)
        · exact .inl q
        · exact .inr ⟨m, List.mem_cons_self, q.symm⟩
        · exact .inr ⟨y, List.mem_cons_of_mem _ hy, e⟩
      · rintro (q | ⟨y, hy, e⟩)
        · exact .inl (.inl q)
        · rcases List.mem_cons.mp hy with rfl | hy
          · exact .inl (.inr e.symm)
          · exact .inr ⟨y, hy, e⟩
theorem nodup_dayF : ∀ (c : List Mem) (acc : List Int), acc.Nodup → (c.foldl dayF acc).Nodup
  | [], acc, h => h
  | m :: c, acc, h => by
    rw [List.foldl_cons]
    refine nodup_dayF c _ ?_
    unfold dayF
    split
    · exact h
    · rename_i q
      rw [List.nodup_append]
      exact ⟨h, by simp, fun a ha b hb e => q (by rw [List.mem_singleton.mp hb] at e; exact e ▸ ha)⟩
theorem len_dayF : ∀ (c : List Mem) (acc : List Int), (c.foldl dayF acc).length ≤ acc.length + c.length
  | [], acc => Nat.le_refl _
  | m :: c, acc => by
    rw [List.foldl_cons, List.length_cons]
    have h1 := len_dayF c (dayF acc m)
    have h2 : (dayF acc m).length ≤ acc.length + 1 := by unfold dayF; split <;> simp
    omega
/-- a turn of the first loop -/
theorem table_turn {st : List Cell} {c p : List Mem} {m : Mem} {v6 v7 v8 : SV} (hl : p.length ≤ 1000) :
    exms fb_table_of_2 ⟨[.d (clubD c), .own (.dK (mapK (p.foldl dayF []) (onD p))), .own (.dK (mapK (p.foldl dayF []) (brD p))), .d (.int m.d), .d (.str (wd m.w)), .d (.int m.n), v6, v7, v8], st⟩ =
      .nx ⟨[.d (clubD c), .own (.dK (mapK ((p ++ [m]).foldl dayF []) (onD (p ++ [m])))), .own (.dK (mapK ((p ++ [m]).foldl dayF []) (brD (p ++ [m])))), .d (.int m.d), .d (.str (wd m.w)), .d (.int m.n), v6, v7, v8], st⟩ := by
  have e1 : (p ++ [m]).foldl dayF [] = if m.d ∈ p.foldl dayF [] then p.foldl dayF [] else p.foldl dayF [] ++ [m.d] := by rw [List.foldl_append]; rfl
  have hno : m.d ∉ p.foldl dayF [] → onD p m.d = 0 ∧ brD p m.d = 0 := fun h => onD_none fun x hx e => h ((mem_dayF p [] m.d).mpr (.inr ⟨x, hx, e⟩))
  have g1 := mapK_get (p.foldl dayF []) (onD p) m.d fun h => (hno h).1
  have g2 := mapK_get (p.foldl dayF []) (brD p) m.d fun h => (hno h).2
  have p1 := mapK_put (p.foldl dayF []) (onD p) (onD (p ++ [m])) m.d (onD p m.d + m.n) (by rw [onD_app, if_pos rfl]) fun x hx => by rw [onD_app, if_neg (Ne.symm hx), Int.add_zero]
  have p2 := mapK_put (p.foldl dayF []) (brD p) (brD (p ++ [m])) m.d (brD p m.d + b2i m.w) (by rw [brD_app]; cases m.w <;> simp [b2i]) fun x hx => by rw [brD_app, if_neg (fun z => hx z.1.symm), Int.add_zero]
  rw [← e1] at p1 p2
  have hk := len_dayF p []
  have hb1 : (mapK (p.foldl dayF []) (onD p)).length < big := by rw [mapK_len]; show _ < 16777216; simp at hk; omega
  have hb2 : (mapK (p.foldl dayF []) (brD p)).length < big := by rw [mapK_len]; show _ < 16777216; simp at hk; omega
  unfold fb_table_of_2
  simp_arith [keyOf, g1, g2, p1, p2, hb1, hb2, wd_br]

end G4

namespace G4
open PySem PySem.Spec PyProof.Rows L2
local macro_rules
  | `(tactic| simp_arith [$as,*]) => `(tactic| simp -implicitDefEqProofs only [tl_table_of_1, tl_table_of_2, tl_table_of_3, tl_one_number_1, tl_one_number_2, tl_moves_of_1, tl_moves_of_2, tl_two_numbers_1, tl_two_numbers_2, tl_two_numbers_3, tl_one_came_1, tl_one_came_2, tl_one_day_1, tl_one_day_2, tl_one_day_3, tl_one_day_4, tl__law_stirred_1, tl__law_stirred_2, tl__law_draw_1, tl__law_draw_2, tl__law_story_1, tl__law_story_2, tl__law_number_right_1, tl__law_number_right_2, tl__law_number_right_3, tl__law_number_right_4, tl__law_number_right_5, tl__law_came_right_1, tl__law_came_right_2, tl__law_came_right_3, tl__law_came_right_4, tl__law_day_right_1, tl__law_day_right_2, tl__law_day_right_3, tl__law_day_right_4, tl__law_day_right_5, tl__law_day_right_6, tl__law_moved_right_1, tl__law_moved_right_2, tl__law_moved_right_3, tl__law_moved_right_4, tl__law_moved_right_5, tl__law_moved_right_6, tl__law_moved_right_7, ↓bnd_eq, ↓off_eq, ↓thn_eq, run_eq, fin_nx, fin_rt, fin_ex, S.hide, hideSl, exms, exm, ev, evT, evs, evOs, evo, evc, evSrc, evPar, hb_ok, hb_ex, ho_ok, ho_ex, ht_nx, ht_rt, ht_ex, tb_nx, tb_rt, tb_ex, hd_setB, hd_setT, hd_retT, D.flat, opd_d, opd_pl, opd_lst, opd_ex, val_d, val_lst, List.append_assoc, List.length_set, gc_push, gc_id, take_push, take_id, get_app0, get_app1, get_app2, isNew0, isNew1, isNew_int, isNew_str, isNew_bl, isNew_non, isNew_tup, isNew_lst, keep_un, keep_int, keep_bl, keep_non, keep_str, keep_scr, keep_obj, keep_own_lst, keep_own_dK, pureK_nil, keep_lst, keep_tup, D.unders, ne_succ, ne_succ1, eq_self, nodup2, nodup3, List.filterMap_cons, List.filterMap_nil, putPar, D.under, List.nodup_cons, List.mem_cons, List.not_mem_nil, or_self, or_false, Nat.reduceEqDiff, List.nodup_nil, true_and, and_true, bits10, Int.reduceMul, Int.reduceLE, Int.reduceLT, Int.reducePow, Int.reduceAdd, Int.reduceSub, Int.reduceNeg, Int.reduceToNat, val_dK, putTs_nil, putTs_nm, putTs_sub, val_ex, val_pl, valPl_lst, valPl_d, opt_some, toO_ok, toO_ex, asBl_ok, List.map_cons, List.map_nil, List.length_cons, List.length_nil, Nat.reduceAdd, Nat.reduceSub, Nat.zero_add, List.replicate, List.cons_append, List.nil_append, List.getElem?_cons_zero, List.getElem?_cons_succ, List.set_cons_zero, List.set_cons_succ, S.rd, S.rdD, S.store, OS.opt, Option.bind_some, Option.map_some, Cell.view, S.cell, S.isLst, S.isDct, S.rdDct, dgetV, dixV, augV, S.put, S.rdLst, cmpV, opCmp, opEq_str, opEq_int, opEq_bl, opEq_non, opEq_lst, opEq_tup, pures_app, eqv_int, eqv_bl, eqv_lst, eqv_tup, eqvs_nil, eqvs_ints, eqvs_cons, eqv_str, opIn_ints, unders_ints, set_app0, set_app1, binV, opBin, ixV, opIx, biV, biSem, biLen, biInt, biAbs, biMax2, biMin2, biSum, biAll, biAny, biList, biTuple, List.mapM_cons, List.mapM_nil, bind, pure, Option.bind, truV, D.tru, isiV, D.kind, Ty.sub, List.any_cons, List.any_nil, decide_true, decide_false, Int.cast_ofNat_Int, beq_self_eq_true, Bool.false_and, Bool.true_or, Bool.false_or, Bool.or_false, Bool.and_true, Bool.true_and, Bool.and_self, if_true, if_false, Bool.false_eq_true, reduceCtorEq, Bool.not_true, Bool.not_false, finish, D.pure, D.pures, Cell.pure, List.take_length, and_self, not_true_eq_false, not_false_eq_true, plain_int', plain_lst, plain_tup, plain_non, plain_bl, D.plainsN, pures_ints, plain_ints, List.length_map, List.length_append, at1, at2, at3, at4, at5, muV, muSem, muApp, setIx, S.fz, perm, List.getD_cons_zero, List.getD_cons_succ, $as,*])
def freeT (c : List Mem) (t : Int) : Int := ((c.filter fun m => decide (m.d < t)).map (·.n)).sum - ((c.filter fun m => decide (m.d < t) && m.w).length : Nat)
def slackT (c : List Mem) (t : Int) : Int := ((c.filter fun m => decide (m.d < t)).map (·.n)).sum - ((c.filter fun m => decide (m.d ≤ t) && m.w).length : Nat)
/-- the days of a club, ascending -/
def dayS (c : List Mem) : List Int := isort (c.foldl dayF [])
theorem mem_dayS {c : List Mem} {t : Int} : t ∈ dayS c ↔ ∃ m ∈ c, m.d = t := by
  unfold dayS isort
  rw [List.mem_mergeSort, mem_dayF]
  simp
theorem dayS_strict (c : List Mem) : (dayS c).Pairwise (· < ·) := isort_lt (nodup_dayF c [] List.nodup_nil)
theorem slack_free (c : List Mem) (t : Int) : slackT c t = freeT c t - brD c t := by
  unfold slackT freeT brD
  have : (c.filter fun m => decide (m.d ≤ t) && m.w).length = (c.filter fun m => decide (m.d < t) && m.w).length + (c.filter fun m => (m.d == t) && m.w).length := by
    induction c with
    | nil => rfl
    | cons m c ih =>
      simp only [List.filter_cons]
      rcases Int.lt_trichotomy m.d t with h | h | h
      · have h1 : m.d ≤ t := by omega
        have h2 : (m.d == t) = false := by simp; omega
        cases m.w <;> simp [h, h1, h2] <;> omega
      · have h1 : m.d ≤ t := by omega
        have h2 : (m.d == t) = true := by simp; omega
        have h3 : ¬ m.d < t := by omega
        cases m.w <;> simp [h1, h2, h3] <;> omega
      · have h1 : ¬ m.d ≤ t := by omega
        have h2 : (m.d == t) = false := by simp; omega
        have h3 : ¬ m.d < t := by omega
        cases m.w <;> simp [h1, h2, h3] <;> omega
  rw [this]
  omega
theorem onD_cons (m : Mem) (c : List Mem) (t : Int) : onD (m :: c) t - brD (m :: c) t = (if m.d = t then m.n - b2i m.w else 0) + (onD c t - brD c t) := by
  unfold onD brD
  by_cases h : m.d = t
  · cases hw : m.w <;> simp [List.filter_cons, h, hw, b2i] <;> omega
  · have : (m.d == t) = false := by simpa using h
    simp [List.filter_cons, this, h]
theorem sum_days (m : Mem) (c : List Mem) : ∀ P : List Int, P.Nodup → (P.map fun d => onD (m :: c) d - brD (m :: c) d).sum = (if m.d ∈ P then m.n - b2i m.w else 0) + (P.map fun d => onD c d - brD c d).sum
  | [], _ => by simp
  | d :: P, h => by
    obtain ⟨h1, h2⟩ := List.nodup_cons.mp h
    rw [List.map_cons, List.sum_cons, List.map_cons, List.sum_cons, sum_days m c P h2, onD_cons]
    by_cases e : m.d = d
    · subst e
      simp [h1]; omega
    · by_cases q : m.d ∈ P
      · simp [e, q]; omega
      · simp [e, q]
theorem freeT_cons (m : Mem) (c : List Mem) (t : Int) : freeT (m :: c) t = (if m.d < t then m.n - b2i m.w else 0) + freeT c t := by
  unfold freeT
  by_cases h : m.d < t
  · cases hw : m.w <;> simp [List.filter_cons, h, hw, b2i] <;> omega
  · simp [List.filter_cons, h]
theorem free_sum (t : Int) (P : List Int) (hP : P.Nodup) : ∀ c : List Mem, (∀ m ∈ c, m.d ∈ P ↔ m.d < t) → freeT c t = (P.map fun d => onD c d - brD c d).sum
  | [], h => by
    clear h
    have : (P.map fun d => onD [] d - brD [] d) = P.map fun _ => 0 := List.map_congr_left fun d _ => rfl
    rw [this]
    clear hP this
    induction P with
    | nil => rfl
    | cons d P ih => rw [List.map_cons, List.sum_cons, ← ih]; rfl
  | m :: c, h => by
    rw [sum_days m c P hP, freeT_cons, free_sum t P hP c fun x hx => h x (List.mem_cons_of_mem _ hx)]
    have := h m List.mem_cons_self
    by_cases q : m.d < t
    · rw [if_pos q, if_pos (this.mpr q)]
    · rw [if_neg q, if_neg fun z => q (this.mp z)]
/-- a row of the table -/
def rowD (c : List Mem) (t : Int) : D := .tup [.int t, .int (freeT c t), .int (slackT c t)]
theorem table_row {st : List Cell} {c0 : D} {c : List Mem} {ds : List Int} {t f : Int} {L : List D} {v4 v5 v8 : SV} (ht : t ∈ ds) (hL : L.length < 1000) (hf : f = freeT c t) :
    exms fb_table_of_1 ⟨[.d c0, .own (.dK (mapK ds (onD c))), .own (.dK (mapK ds (brD c))), .d (.int t), v4, v5, .own (.lst L), .d (.int f), v8], st⟩ =
      .nx ⟨[.d c0, .own (.dK (mapK ds (onD c))), .own (.dK (mapK ds (brD c))), .d (.int t), v4, v5, .own (.lst (L ++ [rowD c t])), .d (.int (f + (onD c t - brD c t))), .d (.int (slackT c t))], st⟩ := by
  have g1 : lookK (mapK ds (onD c)) (.inl t) = some (.int (onD c t)) := by rw [mapK_look, if_pos ht]
  have g2 : lookK (mapK ds (brD c)) (.inl t) = some (.int (brD c t)) := by rw [mapK_look, if_pos ht]
  have hb : L.length < big := by show _ < 16777216; omega
  have hs : f - brD c t = slackT c t := by rw [slack_free, hf]
  have hs2 : slackT c t + onD c t = f + (onD c t - brD c t) := by rw [← hs]; omega
  unfold fb_table_of_1
  simp_arith [keyOf, g1, g2, hb, hs, hs2]
  simp only [rowD, ← hf]
theorem table_ok {st : List Cell} {c : List Mem} (hl : c.length ≤ 60) : f_table_of [clubD c] st = .ok (.new (.lst ((dayS c).map (rowD c)))) st := by
  obtain ⟨s1, k1, v3, v4, v5, rfl⟩ := for_lst (t := .tp [.nm 3, .nm 4, .nm 5]) (body := fun s => exms fb_table_of_2 s) (n := st.length) c Mem.D
    (fun j s => ∃ v3 v4 v5, s = ⟨[.d (clubD c), .own (.dK (mapK ((c.take j).foldl dayF []) (onD (c.take j)))), .own (.dK (mapK ((c.take j).foldl dayF []) (brD (c.take j)))), v3, v4, v5, .un, .un, .un], st⟩)
    ⟨[.d (clubD c), .own (.dK []), .own (.dK []), .un, .un, .un, .un, .un, .un], st⟩ ⟨_, _, _, rfl⟩ fun j m s ha hI => by
      obtain ⟨v3, v4, v5, rfl⟩ := hI
      have ht : c.take (j + 1) = c.take j ++ [m] := by rw [List.take_succ, ha]; rfl
      have e := table_turn (st := st) (c := c) (p := c.take j) (m := m) (v6 := .un) (v7 := .un) (v8 := .un) (by rw [List.length_take]; omega)
      exact ⟨_, _, rfl, .inl e, .d (.int m.d), .d (.str (wd m.w)), .d (.int m.n), by rw [ht]; exact gc_id rfl⟩
  rw [List.take_length] at k1
  generalize hds : c.foldl dayF [] = ds at k1
  have hdl : ds.length < 64 := by
    rw [← hds]
    have := len_dayF c []
    simp at this; omega
  have hS : isort ds = dayS c := by rw [← hds]; rfl
  have hmem : ∀ t ∈ dayS c, t ∈ ds := fun t ht => by rw [← hds, mem_dayF]; exact .inr (mem_dayS.mp ht)
  have hst := dayS_strict c
  have hlen : (dayS c).length < 64 := by
    rw [← hS]; unfold isort; rw [List.length_mergeSort]; exact hdl
  have K2 := fun v3 v4 v5 => for_lst (t := .nm 3) (body := fun s => exms fb_table_of_1 s) (n := st.length) (dayS c) D.int
    (fun j s => ∃ v3 v8, s = ⟨[.d (clubD c), .own (.dK (mapK ds (onD c))), .own (.dK (mapK ds (brD c))), v3, v4, v5, .own (.lst (((dayS c).take j).map (rowD c))), .d (.int ((((dayS c).take j).map fun d => onD c d - brD c d).sum)), v8], st⟩)
    ⟨[.d (clubD c), .own (.dK (mapK ds (onD c))), .own (.dK (mapK ds (brD c))), v3, v4, v5, .own (.lst []), .d (.int 0), .un], st⟩ ⟨_, _, rfl⟩ fun j t s ha hI => by
      obtain ⟨v3, v8, rfl⟩ := hI
      have ht : (dayS c).take (j + 1) = (dayS c).take j ++ [t] := by rw [List.take_succ, ha]; rfl
      have hf : (((dayS c).take j).map fun d => onD c d - brD c d).sum = freeT c t := by
        refine (free_sum t _ ((hst.imp fun h => Int.ne_of_lt h).sublist (List.take_sublist _ _)) c fun m hm => ?_).symm
        have hmd : m.d ∈ dayS c := mem_dayS.mpr ⟨m, hm, rfl⟩
        obtain ⟨h1, h2⟩ := List.getElem?_eq_some_iff.mp ha
        obtain ⟨i, hi, hi2⟩ := List.getElem_of_mem hmd
        have hlt := List.pairwise_iff_getElem.mp hst
        constructor
        · intro h
          obtain ⟨i', hi', e'⟩ := List.getElem_of_mem h
          rw [List.getElem_take] at e'
          rw [List.length_take] at hi'
          have := hlt i' j (by omega) h1 (by omega)
          rw [e', h2] at this
          exact this
        · intro h
          rw [List.mem_iff_getElem]
          by_cases q : i < j
          · exact ⟨i, by rw [List.length_take]; omega, by rw [List.getElem_take]; exact hi2⟩
          · exfalso
            by_cases q2 : i = j
            · subst q2; rw [hi2] at h2; omega
            · have := hlt j i h1 hi (by omega)
              rw [hi2, h2] at this; omega
      have e := table_row (st := st) (c0 := clubD c) (c := c) (ds := ds) (t := t) (L := ((dayS c).take j).map (rowD c)) (v4 := v4) (v5 := v5) (v8 := v8) (hmem t (List.mem_of_getElem? ha)) (by rw [List.length_map, List.length_take]; omega) hf
      refine ⟨_, _, rfl, .inl e, .d (.int t), .d (.int (slackT c t)), ?_⟩
      rw [ht, List.map_append, List.map_append, List.sum_append]
      simp only [List.map_cons, List.map_nil, List.sum_cons, List.sum_nil, Int.add_zero]
      exact gc_id rfl
  have pr : D.pures ((dayS c).map (rowD c)) = true := by
    generalize dayS c = l
    induction l with
    | nil => rfl
    | cons t l ih => rw [List.map_cons, D.pures, ih]; rfl
  obtain ⟨s2, k2, v3', v8, rfl⟩ := K2 (SV.keep st.length v3) (SV.keep st.length v4) (SV.keep st.length v5)
  rw [List.take_length] at k2
  unfold clubD at k1 k2
  unfold f_table_of
  have hin : intsD ((dayS c).map .int) = some (dayS c) := intsD_map _
  have e0 : (mapK ds (onD c)).length = ds.length := mapK_len _ _
  have pk : ∀ f, D.pureK (mapK ds f) = true := fun f => by
    clear hdl hS hmem k1 k2 hin e0 hds K2
    induction ds with
    | nil => rfl
    | cons t l ih =>
      unfold mapK at ih ⊢
      rw [List.map_cons, D.pureK, ih]; rfl
  simp_arith [b_table_of, clubD, unders_mems]
  rw [k1]
  simp_arith [biSorted, mapK_keys, hdl, hS, unders_mems, pk]
  rw [k2]
  simp_arith [pr]

end G4

namespace G4
open PySem PySem.Spec PyProof.Rows L2
local macro_rules
  | `(tactic| simp_arith [$as,*]) => `(tactic| simp -implicitDefEqProofs only [tl_table_of_1, tl_table_of_2, tl_table_of_3, tl_one_number_1, tl_one_number_2, tl_moves_of_1, tl_moves_of_2, tl_two_numbers_1, tl_two_numbers_2, tl_two_numbers_3, tl_one_came_1, tl_one_came_2, tl_one_day_1, tl_one_day_2, tl_one_day_3, tl_one_day_4, tl__law_stirred_1, tl__law_stirred_2, tl__law_draw_1, tl__law_draw_2, tl__law_story_1, tl__law_story_2, tl__law_number_right_1, tl__law_number_right_2, tl__law_number_right_3, tl__law_number_right_4, tl__law_number_right_5, tl__law_came_right_1, tl__law_came_right_2, tl__law_came_right_3, tl__law_came_right_4, tl__law_day_right_1, tl__law_day_right_2, tl__law_day_right_3, tl__law_day_right_4, tl__law_day_right_5, tl__law_day_right_6, tl__law_moved_right_1, tl__law_moved_right_2, tl__law_moved_right_3, tl__law_moved_right_4, tl__law_moved_right_5, tl__law_moved_right_6, tl__law_moved_right_7, ↓bnd_eq, ↓off_eq, ↓thn_eq, run_eq, fin_nx, fin_rt, fin_ex, S.hide, hideSl, exms, exm, ev, evT, evs, evOs, evo, evc, evSrc, evPar, hb_ok, hb_ex, ho_ok, ho_ex, ht_nx, ht_rt, ht_ex, tb_nx, tb_rt, tb_ex, hd_setB, hd_setT, hd_retT, D.flat, opd_d, opd_pl, opd_lst, opd_ex, val_d, val_lst, List.append_assoc, List.length_set, gc_push, gc_id, take_push, take_id, get_app0, get_app1, get_app2, isNew0, isNew1, isNew_int, isNew_str, isNew_bl, isNew_non, isNew_tup, isNew_lst, keep_un, keep_int, keep_bl, keep_non, keep_str, keep_scr, keep_obj, keep_own_lst, keep_own_dK, pureK_nil, keep_lst, keep_tup, D.unders, ne_succ, ne_succ1, eq_self, nodup2, nodup3, List.filterMap_cons, List.filterMap_nil, putPar, D.under, List.nodup_cons, List.mem_cons, List.not_mem_nil, or_self, or_false, Nat.reduceEqDiff, List.nodup_nil, true_and, and_true, bits10, Int.reduceMul, Int.reduceLE, Int.reduceLT, Int.reducePow, Int.reduceAdd, Int.reduceSub, Int.reduceNeg, Int.reduceToNat, val_dK, putTs_nil, putTs_nm, putTs_sub, val_ex, val_pl, valPl_lst, valPl_d, opt_some, toO_ok, toO_ex, asBl_ok, List.map_cons, List.map_nil, List.length_cons, List.length_nil, Nat.reduceAdd, Nat.reduceSub, Nat.zero_add, List.replicate, List.cons_append, List.nil_append, List.getElem?_cons_zero, List.getElem?_cons_succ, List.set_cons_zero, List.set_cons_succ, S.rd, S.rdD, S.store, OS.opt, Option.bind_some, Option.map_some, Cell.view, S.cell, S.isLst, S.isDct, S.rdDct, dgetV, dixV, augV, S.put, S.rdLst, cmpV, opCmp, opEq_str, opEq_int, opEq_bl, opEq_non, opEq_lst, opEq_tup, pures_app, eqv_int, eqv_bl, eqv_lst, eqv_tup, eqvs_nil, eqvs_ints, eqvs_cons, eqv_str, opIn_ints, unders_ints, set_app0, set_app1, binV, opBin, ixV, opIx, biV, biSem, biLen, biInt, biAbs, biMax2, biMin2, biSum, biAll, biAny, biList, biTuple, List.mapM_cons, List.mapM_nil, bind, pure, Option.bind, truV, D.tru, isiV, D.kind, Ty.sub, List.any_cons, List.any_nil, decide_true, decide_false, Int.cast_ofNat_Int, beq_self_eq_true, Bool.false_and, Bool.true_or, Bool.false_or, Bool.or_false, Bool.and_true, Bool.true_and, Bool.and_self, if_true, if_false, Bool.false_eq_true, reduceCtorEq, Bool.not_true, Bool.not_false, finish, D.pure, D.pures, Cell.pure, List.take_length, and_self, not_true_eq_false, not_false_eq_true, plain_int', plain_lst, plain_tup, plain_non, plain_bl, D.plainsN, pures_ints, plain_ints, List.length_map, List.length_append, at1, at2, at3, at4, at5, muV, muSem, muApp, setIx, S.fz, perm, List.getD_cons_zero, List.getD_cons_succ, $as,*])
/-! ### a club with a way is possible -/
theorem sum_one (b : Nat) : ∀ (l : List Nat), l.Nodup → ∀ f g : Nat → Int, g b = f b + 1 → (∀ x, x ≠ b → g x = f x) → (l.map g).sum = (l.map f).sum + if b ∈ l then 1 else 0
  | [], _, f, g, _, _ => by simp
  | a :: l, h, f, g, h1, h2 => by
    obtain ⟨n1, n2⟩ := List.nodup_cons.mp h
    rw [List.map_cons, List.map_cons, List.sum_cons, List.sum_cons, sum_one b l n2 f g h1 h2]
    by_cases e : a = b
    · subst e
      rw [h1]; simp [n1]; omega
    · rw [h2 a e]
      by_cases q : b ∈ l
      · simp [q]; omega
      · simp [q, Ne.symm e]
def pO (p : Nat → Bool) : Option Nat → Bool
  | some b => p b
  | none => false
theorem sum_counts (p : Nat → Bool) (n : Nat) : ∀ w : List (Option Nat), (∀ b, some b ∈ w → b < n) → (((List.range n).filter p).map fun b => ((w.count (some b) : Nat) : Int)).sum = ((w.countP (pO p) : Nat) : Int)
  | [], _ => by
    simp only [List.count_nil, List.countP_nil]
    generalize (List.range n).filter p = l
    induction l with
    | nil => rfl
    | cons a l ih => rw [List.map_cons, List.sum_cons, ih]; rfl
  | none :: w, h => by
    have ih := sum_counts p n w fun b hb => h b (List.mem_cons_of_mem _ hb)
    rw [List.countP_cons]
    have : ∀ b : Nat, (none :: w).count (some b) = w.count (some b) := fun b => by rw [List.count_cons]; simp
    simp only [this, ih, pO]
    simp
  | some b :: w, h => by
    have ih := sum_counts p n w fun b hb => h b (List.mem_cons_of_mem _ hb)
    have hb := h b List.mem_cons_self
    rw [List.countP_cons, sum_one b _ (List.nodup_range.sublist List.filter_sublist) (fun x => ((w.count (some x) : Nat) : Int)) _ (by simp) (fun x hx => by
      rw [List.count_cons]
      have : (some b == some x) = false := by simp; omega
      simp [this])]
    rw [ih]
    by_cases q : p b = true
    · simp [pO, q, hb]
    · simp only [Bool.not_eq_true] at q
      simp [pO, q]
theorem club_range (c : List Mem) : c = (List.range c.length).map fun i => c.getD i ⟨0, false, 0⟩ := by
  apply List.ext_getElem?
  intro i
  by_cases h : i < c.length
  · rw [List.getElem?_map, List.getElem?_range h, List.getElem?_eq_getElem h]
    show some c[i] = some (c.getD i ⟨0, false, 0⟩)
    rw [List.getD_eq_getElem?_getD, List.getElem?_eq_getElem h]; rfl
  · rw [List.getElem?_eq_none (by omega), List.getElem?_eq_none (by simp; omega)]
theorem sum_range (c : List Mem) (q : Mem → Bool) : ((c.filter q).map (·.n)).sum = ((((List.range c.length).filter fun i => q (c.getD i ⟨0, false, 0⟩)).map fun i => (c.getD i ⟨0, false, 0⟩).n)).sum := by
  conv => lhs; rw [club_range c, List.filter_map, List.map_map]
  rfl
theorem len_range (c : List Mem) (q : Mem → Bool) : (c.filter q).length = (List.range c.length).countP fun i => q (c.getD i ⟨0, false, 0⟩) := by
  conv => lhs; rw [club_range c, List.filter_map, List.length_map]
  rw [List.countP_eq_length_filter]; rfl
section
variable {c : List Mem} {w : List (Option Nat)}
theorem IsWay.lt (h : IsWay c w) : ∀ b, some b ∈ w → b < c.length := fun b hb => by
  obtain ⟨i, hi, e⟩ := List.getElem_of_mem hb
  obtain ⟨x, y, g1, _⟩ := h.br i b (by rw [List.getElem?_eq_getElem hi, e])
  exact (List.getElem?_eq_some_iff.mp g1).1
theorem way_range (h : IsWay c w) : w = (List.range c.length).map fun i => w.getD i none := by
  apply List.ext_getElem?
  intro i
  by_cases hi : i < c.length
  · have hi2 : i < w.length := by rw [h.len]; exact hi
    rw [List.getElem?_map, List.getElem?_range hi, List.getElem?_eq_getElem hi2]
    show some w[i] = some (w.getD i none)
    rw [List.getD_eq_getElem?_getD, List.getElem?_eq_getElem hi2]; rfl
  · rw [List.getElem?_eq_none (by rw [h.len]; omega), List.getElem?_eq_none (by simp; omega)]
/-- the numbers of those who fulfil p, together: how many were brought by such ones -/
theorem way_sum (h : IsWay c w) (q : Mem → Bool) : ((c.filter q).map (·.n)).sum = ((((List.range c.length).countP fun i => pO (fun b => q (c.getD b ⟨0, false, 0⟩)) (w.getD i none)) : Nat) : Int) := by
  rw [sum_range]
  have e : (((List.range c.length).filter fun i => q (c.getD i ⟨0, false, 0⟩)).map fun i => (c.getD i ⟨0, false, 0⟩).n) = (((List.range c.length).filter fun i => q (c.getD i ⟨0, false, 0⟩)).map fun i => ((w.count (some i) : Nat) : Int)) := by
    refine List.map_congr_left fun i hi => ?_
    have hi : i < c.length := by simpa using (List.mem_filter.mp hi).1
    exact h.cnt i _ (by rw [List.getD_eq_getElem?_getD, List.getElem?_eq_getElem hi]; rfl)
  rw [e, sum_counts _ _ w h.lt]
  conv => lhs; rw [way_range h, List.countP_map]
  rfl
theorem way_at (h : IsWay c w) {i : Nat} (hi : i < c.length) : (c.getD i ⟨0, false, 0⟩).w = (w.getD i none).isSome ∧ ∀ b, w.getD i none = some b → b < c.length ∧ (c.getD b ⟨0, false, 0⟩).d < (c.getD i ⟨0, false, 0⟩).d := by
  have hi2 : i < w.length := by rw [h.len]; exact hi
  have e1 : c[i]? = some (c.getD i ⟨0, false, 0⟩) := by rw [List.getD_eq_getElem?_getD, List.getElem?_eq_getElem hi]; rfl
  have e2 : w[i]? = some (w.getD i none) := by rw [List.getD_eq_getElem?_getD, List.getElem?_eq_getElem hi2]; rfl
  refine ⟨h.mem i _ _ e1 e2, fun b hb => ?_⟩
  rw [hb] at e2
  obtain ⟨x, y, g1, g2, g3⟩ := h.br i b e2
  rw [e1] at g2
  cases g2
  refine ⟨(List.getElem?_eq_some_iff.mp g1).1, ?_⟩
  rw [List.getD_eq_getElem?_getD, g1]
  exact g3
theorem way_slack (h : IsWay c w) (t : Int) : 0 ≤ slackT c t := by
  unfold slackT
  rw [way_sum h fun m => decide (m.d < t), len_range]
  have : ((List.range c.length).countP fun i => decide ((c.getD i ⟨0, false, 0⟩).d ≤ t) && (c.getD i ⟨0, false, 0⟩).w) ≤ (List.range c.length).countP fun i => pO (fun b => decide ((c.getD b ⟨0, false, 0⟩).d < t)) (w.getD i none) := by
    refine List.countP_mono_left fun i hi hp => ?_
    have hi : i < c.length := by simpa using hi
    obtain ⟨h1, h2⟩ := way_at h hi
    simp only [Bool.and_eq_true, decide_eq_true_eq] at hp
    rw [h1, Option.isSome_iff_exists] at hp
    obtain ⟨h3, b, hb⟩ := hp
    rw [hb]
    have := (h2 b hb).2
    exact decide_eq_true (by omega)
  omega
/-- how many numbers are left over -/
def leftN (c : List Mem) : Int := (c.map (·.n)).sum - ((c.filter fun m => m.w).length : Nat)
theorem way_left (h : IsWay c w) : leftN c = 0 := by
  unfold leftN
  have e := way_sum h fun _ => true
  rw [List.filter_eq_self.mpr fun _ _ => rfl] at e
  rw [e, len_range]
  have : ((List.range c.length).countP fun i => (c.getD i ⟨0, false, 0⟩).w) = (List.range c.length).countP fun i => pO (fun _ => true) (w.getD i none) := by
    refine List.countP_congr fun i hi => ?_
    have hi : i < c.length := by simpa using hi
    rw [(way_at h hi).1]
    cases w.getD i none <;> simp [pO]
  omega
end

end G4

namespace G4
open PySem PySem.Spec PyProof.Rows L2
local macro_rules
  | `(tactic| simp_arith [$as,*]) => `(tactic| simp -implicitDefEqProofs only [tl_table_of_1, tl_table_of_2, tl_table_of_3, tl_one_number_1, tl_one_number_2, tl_moves_of_1, tl_moves_of_2, tl_two_numbers_1, tl_two_numbers_2, tl_two_numbers_3, tl_one_came_1, tl_one_came_2, tl_one_day_1, tl_one_day_2, tl_one_day_3, tl_one_day_4, tl__law_stirred_1, tl__law_stirred_2, tl__law_draw_1, tl__law_draw_2, tl__law_story_1, tl__law_story_2, tl__law_number_right_1, tl__law_number_right_2, tl__law_number_right_3, tl__law_number_right_4, tl__law_number_right_5, tl__law_came_right_1, tl__law_came_right_2, tl__law_came_right_3, tl__law_came_right_4, tl__law_day_right_1, tl__law_day_right_2, tl__law_day_right_3, tl__law_day_right_4, tl__law_day_right_5, tl__law_day_right_6, tl__law_moved_right_1, tl__law_moved_right_2, tl__law_moved_right_3, tl__law_moved_right_4, tl__law_moved_right_5, tl__law_moved_right_6, tl__law_moved_right_7, ↓bnd_eq, ↓off_eq, ↓thn_eq, run_eq, fin_nx, fin_rt, fin_ex, S.hide, hideSl, exms, exm, ev, evT, evs, evOs, evo, evc, evSrc, evPar, hb_ok, hb_ex, ho_ok, ho_ex, ht_nx, ht_rt, ht_ex, tb_nx, tb_rt, tb_ex, hd_setB, hd_setT, hd_retT, D.flat, opd_d, opd_pl, opd_lst, opd_ex, val_d, val_lst, List.append_assoc, List.length_set, gc_push, gc_id, take_push, take_id, get_app0, get_app1, get_app2, isNew0, isNew1, isNew_int, isNew_str, isNew_bl, isNew_non, isNew_tup, isNew_lst, keep_un, keep_int, keep_bl, keep_non, keep_str, keep_scr, keep_obj, keep_own_lst, keep_own_dK, pureK_nil, keep_lst, keep_tup, D.unders, ne_succ, ne_succ1, eq_self, nodup2, nodup3, List.filterMap_cons, List.filterMap_nil, putPar, D.under, List.nodup_cons, List.mem_cons, List.not_mem_nil, or_self, or_false, Nat.reduceEqDiff, List.nodup_nil, true_and, and_true, bits10, Int.reduceMul, Int.reduceLE, Int.reduceLT, Int.reducePow, Int.reduceAdd, Int.reduceSub, Int.reduceNeg, Int.reduceToNat, val_dK, putTs_nil, putTs_nm, putTs_sub, val_ex, val_pl, valPl_lst, valPl_d, opt_some, toO_ok, toO_ex, asBl_ok, List.map_cons, List.map_nil, List.length_cons, List.length_nil, Nat.reduceAdd, Nat.reduceSub, Nat.zero_add, List.replicate, List.cons_append, List.nil_append, List.getElem?_cons_zero, List.getElem?_cons_succ, List.set_cons_zero, List.set_cons_succ, S.rd, S.rdD, S.store, OS.opt, Option.bind_some, Option.map_some, Cell.view, S.cell, S.isLst, S.isDct, S.rdDct, dgetV, dixV, augV, S.put, S.rdLst, cmpV, opCmp, opEq_str, opEq_int, opEq_bl, opEq_non, opEq_lst, opEq_tup, pures_app, eqv_int, eqv_bl, eqv_lst, eqv_tup, eqvs_nil, eqvs_ints, eqvs_cons, eqv_str, opIn_ints, unders_ints, set_app0, set_app1, binV, opBin, ixV, opIx, biV, biSem, biLen, biInt, biAbs, biMax2, biMin2, biSum, biAll, biAny, biList, biTuple, List.mapM_cons, List.mapM_nil, bind, pure, Option.bind, truV, D.tru, isiV, D.kind, Ty.sub, List.any_cons, List.any_nil, decide_true, decide_false, Int.cast_ofNat_Int, beq_self_eq_true, Bool.false_and, Bool.true_or, Bool.false_or, Bool.or_false, Bool.and_true, Bool.true_and, Bool.and_self, if_true, if_false, Bool.false_eq_true, reduceCtorEq, Bool.not_true, Bool.not_false, finish, D.pure, D.pures, Cell.pure, List.take_length, and_self, not_true_eq_false, not_false_eq_true, plain_int', plain_lst, plain_tup, plain_non, plain_bl, D.plainsN, pures_ints, plain_ints, List.length_map, List.length_append, at1, at2, at3, at4, at5, muV, muSem, muApp, setIx, S.fz, perm, List.getD_cons_zero, List.getD_cons_succ, $as,*])
section
variable {st : List Cell} {c : List Mem} {t : Int}
/-- the places of the brought ones, from k on -/
def brL : Nat → List Mem → List Int
  | _, [] => []
  | k, m :: c => if m.w then (k : Int) :: brL (k + 1) c else brL (k + 1) c
theorem br_map : ∀ (c : List Mem) (k : Nat), (((c.zipIdx k).filter fun p => p.1.w).map fun p => D.int p.2) = (brL k c).map D.int
  | [], _ => rfl
  | m :: c, k => by
    rw [List.zipIdx_cons, List.filter_cons, brL]
    cases m.w
    · rw [if_neg Bool.false_ne_true, if_neg Bool.false_ne_true, br_map c (k + 1)]
    · rw [if_pos rfl, if_pos rfl, List.map_cons, List.map_cons, br_map c (k + 1)]
theorem brought_of_ok (hl : c.length ≤ 1000) : f_brought_of [clubD c] st = .ok (.new (.lst ((brL 0 c).map .int))) st := by
  have key : ev lc_brought_of_1 ⟨[SV.d (clubD c), .un, .un], st⟩ = .ok (.new (.lst ((brL 0 c).map .int))) ⟨[SV.d (clubD c), .un, .un], st⟩ := by
    rw [← br_map]
    refine lc_filt (c.zipIdx 0) (fun p => .tup [.int p.2, p.1.D]) (fun p => p.1.w) (fun p => D.int p.2) ?_ (big_le (by rw [List.length_zipIdx]; omega)) rfl fun m hm => ⟨_, rfl, rfl, ?_, fun _ => ?_⟩
    · simp_arith [clubD, enum_map]
    · simp_arith [Mem.D, wd_br]
    · simp_arith [List.getElem?_cons_zero]
  unfold f_brought_of
  simp_arith [b_brought_of, key]
theorem brL_count : ∀ (c : List Mem) (k : Nat), (brL k c).length = (c.filter fun m => m.w).length
  | [], _ => rfl
  | m :: c, k => by
    rw [brL, List.filter_cons]
    cases m.w
    · rw [if_neg Bool.false_ne_true, if_neg Bool.false_ne_true, brL_count c (k + 1)]
    · rw [if_pos rfl, if_pos rfl, List.length_cons, List.length_cons, brL_count c (k + 1)]
end

end G4

namespace G4
open PySem PySem.Spec PyProof.Rows L2
local macro_rules
  | `(tactic| simp_arith [$as,*]) => `(tactic| simp -implicitDefEqProofs only [tl_table_of_1, tl_table_of_2, tl_table_of_3, tl_one_number_1, tl_one_number_2, tl_moves_of_1, tl_moves_of_2, tl_two_numbers_1, tl_two_numbers_2, tl_two_numbers_3, tl_one_came_1, tl_one_came_2, tl_one_day_1, tl_one_day_2, tl_one_day_3, tl_one_day_4, tl__law_stirred_1, tl__law_stirred_2, tl__law_draw_1, tl__law_draw_2, tl__law_story_1, tl__law_story_2, tl__law_number_right_1, tl__law_number_right_2, tl__law_number_right_3, tl__law_number_right_4, tl__law_number_right_5, tl__law_came_right_1, tl__law_came_right_2, tl__law_came_right_3, tl__law_came_right_4, tl__law_day_right_1, tl__law_day_right_2, tl__law_day_right_3, tl__law_day_right_4, tl__law_day_right_5, tl__law_day_right_6, tl__law_moved_right_1, tl__law_moved_right_2, tl__law_moved_right_3, tl__law_moved_right_4, tl__law_moved_right_5, tl__law_moved_right_6, tl__law_moved_right_7, ↓bnd_eq, ↓off_eq, ↓thn_eq, run_eq, fin_nx, fin_rt, fin_ex, S.hide, hideSl, exms, exm, ev, evT, evs, evOs, evo, evc, evSrc, evPar, hb_ok, hb_ex, ho_ok, ho_ex, ht_nx, ht_rt, ht_ex, tb_nx, tb_rt, tb_ex, hd_setB, hd_setT, hd_retT, D.flat, opd_d, opd_pl, opd_lst, opd_ex, val_d, val_lst, List.append_assoc, List.length_set, gc_push, gc_id, take_push, take_id, get_app0, get_app1, get_app2, isNew0, isNew1, isNew_int, isNew_str, isNew_bl, isNew_non, isNew_tup, isNew_lst, keep_un, keep_int, keep_bl, keep_non, keep_str, keep_scr, keep_obj, keep_own_lst, keep_own_dK, pureK_nil, keep_lst, keep_tup, D.unders, ne_succ, ne_succ1, eq_self, nodup2, nodup3, List.filterMap_cons, List.filterMap_nil, putPar, D.under, List.nodup_cons, List.mem_cons, List.not_mem_nil, or_self, or_false, Nat.reduceEqDiff, List.nodup_nil, true_and, and_true, bits10, Int.reduceMul, Int.reduceLE, Int.reduceLT, Int.reducePow, Int.reduceAdd, Int.reduceSub, Int.reduceNeg, Int.reduceToNat, val_dK, putTs_nil, putTs_nm, putTs_sub, val_ex, val_pl, valPl_lst, valPl_d, opt_some, toO_ok, toO_ex, asBl_ok, List.map_cons, List.map_nil, List.length_cons, List.length_nil, Nat.reduceAdd, Nat.reduceSub, Nat.zero_add, List.replicate, List.cons_append, List.nil_append, List.getElem?_cons_zero, List.getElem?_cons_succ, List.set_cons_zero, List.set_cons_succ, S.rd, S.rdD, S.store, OS.opt, Option.bind_some, Option.map_some, Cell.view, S.cell, S.isLst, S.isDct, S.rdDct, dgetV, dixV, augV, S.put, S.rdLst, cmpV, opCmp, opEq_str, opEq_int, opEq_bl, opEq_non, opEq_lst, opEq_tup, pures_app, eqv_int, eqv_bl, eqv_lst, eqv_tup, eqvs_nil, eqvs_ints, eqvs_cons, eqv_str, opIn_ints, unders_ints, set_app0, set_app1, binV, opBin, ixV, opIx, biV, biSem, biLen, biInt, biAbs, biMax2, biMin2, biSum, biAll, biAny, biList, biTuple, List.mapM_cons, List.mapM_nil, bind, pure, Option.bind, truV, D.tru, isiV, D.kind, Ty.sub, List.any_cons, List.any_nil, decide_true, decide_false, Int.cast_ofNat_Int, beq_self_eq_true, Bool.false_and, Bool.true_or, Bool.false_or, Bool.or_false, Bool.and_true, Bool.true_and, Bool.and_self, if_true, if_false, Bool.false_eq_true, reduceCtorEq, Bool.not_true, Bool.not_false, finish, D.pure, D.pures, Cell.pure, List.take_length, and_self, not_true_eq_false, not_false_eq_true, plain_int', plain_lst, plain_tup, plain_non, plain_bl, D.plainsN, pures_ints, plain_ints, List.length_map, List.length_append, at1, at2, at3, at4, at5, muV, muSem, muApp, setIx, S.fz, perm, List.getD_cons_zero, List.getD_cons_succ, $as,*])
section
variable {st : List Cell} {c : List Mem}
/-- the closing days -/
def closeL (c : List Mem) : List Int := ((dayS c).drop 1).filter fun t => slackT c t == 0
theorem dayS_len {c : List Mem} (hl : c.length ≤ 60) : (dayS c).length ≤ 60 := by
  unfold dayS isort
  rw [List.length_mergeSort]
  have := len_dayF c []
  simp at this; omega
theorem left_over_ok (hl : c.length ≤ 60) : f_left_over [clubD c] st = .ok (.d (.int (leftN c))) st := by
  have e := brought_of_ok (st := st) (c := c) (by omega)
  unfold clubD at e
  have key : ev lc_left_over_1 ⟨[.d (.lst (c.map Mem.D)), .un, .un, .un], st⟩ = .ok (.new (.lst ((c.map (·.n)).map .int))) ⟨[.d (.lst (c.map Mem.D)), .un, .un, .un], st⟩ := by
    rw [List.map_map]
    refine lc_map c Mem.D (fun m => .int m.n) ?_ (big_le (by omega)) rfl fun m hm => ⟨_, rfl, rfl, ?_⟩
    · simp_arith [hideSl]
    · simp_arith [hideSl]
  unfold f_left_over
  simp_arith [b_left_over, clubD, key, e, intsD_map, brL_count]
  rfl
/-- why there is no way -/
def conflictD (c : List Mem) : D := match (dayS c).filter fun t => decide (slackT c t < 0) with
  | t :: _ => .tup [.str "day", .int t]
  | [] => if leftN c = 0 then .non else .tup [.str "left", .int (leftN c)]
theorem conflict_in_ok (hl : c.length ≤ 60) : f_conflict_in [clubD c] st = .ok (.d (conflictD c)) st := by
  have e := table_ok (st := st) hl
  have hd := dayS_len hl
  have e2 := left_over_ok (st := st) hl
  unfold clubD at e e2
  have key : ev lc_conflict_in_1 ⟨[.d (.lst (c.map Mem.D)), .un, .un, .un, .un], st⟩ = .ok (.new (.lst (((dayS c).filter fun t => decide (slackT c t < 0)).map .int))) ⟨[.d (.lst (c.map Mem.D)), .un, .un, .un, .un], st⟩ := by
    refine lc_filt (dayS c) (rowD c) (fun t => decide (slackT c t < 0)) D.int ?_ (big_le (by omega)) rfl fun t ht => ⟨_, rfl, rfl, ?_, fun _ => ?_⟩
    · simp_arith [e]
    · simp_arith [rowD]
    · simp_arith [rowD]
  unfold f_conflict_in conflictD
  cases h : (dayS c).filter fun t => decide (slackT c t < 0) with
  | cons t r =>
    rw [h] at key
    have a0 : ∀ l : List D, atI (D.int t :: l) 0 = some (.int t) := fun l => atI_nat (xs := D.int t :: l) (j := 0) rfl
    have nz : D.eqvs (D.int t :: r.map .int) [] = false := rfl
    rw [List.map_cons] at key
    simp_arith [b_conflict_in, clubD, key, nz, a0]
  | nil =>
    rw [h, List.map_nil] at key
    by_cases hz : leftN c = 0
    · have hz2 : (leftN c == 0) = true := by simp [hz]
      simp_arith [b_conflict_in, clubD, key, e2, hz, hz2]
    · have hz2 : (leftN c == 0) = false := by simp [hz]
      simp_arith [b_conflict_in, clubD, key, e2, hz, hz2]
/-- a possible club -/
structure Poss (c : List Mem) : Prop extends Club c where
  slack : ∀ t ∈ dayS c, 0 ≤ slackT c t
  left : leftN c = 0
theorem Poss.none (h : Poss c) : conflictD c = .non := by
  unfold conflictD
  rw [List.filter_eq_nil_iff.mpr fun t ht => by have := h.slack t ht; simp; omega]
  show (if leftN c = 0 then _ else _) = _
  rw [if_pos h.left]
theorem IsWay.poss {w : List (Option Nat)} (h : IsWay c w) (hc : Club c) : Poss c := ⟨hc, fun t _ => way_slack h t, way_left h⟩
end

end G4

namespace G4
open PySem PySem.Spec PyProof.Rows L2
local macro_rules
  | `(tactic| simp_arith [$as,*]) => `(tactic| simp -implicitDefEqProofs only [tl_table_of_1, tl_table_of_2, tl_table_of_3, tl_one_number_1, tl_one_number_2, tl_moves_of_1, tl_moves_of_2, tl_two_numbers_1, tl_two_numbers_2, tl_two_numbers_3, tl_one_came_1, tl_one_came_2, tl_one_day_1, tl_one_day_2, tl_one_day_3, tl_one_day_4, tl__law_stirred_1, tl__law_stirred_2, tl__law_draw_1, tl__law_draw_2, tl__law_story_1, tl__law_story_2, tl__law_number_right_1, tl__law_number_right_2, tl__law_number_right_3, tl__law_number_right_4, tl__law_number_right_5, tl__law_came_right_1, tl__law_came_right_2, tl__law_came_right_3, tl__law_came_right_4, tl__law_day_right_1, tl__law_day_right_2, tl__law_day_right_3, tl__law_day_right_4, tl__law_day_right_5, tl__law_day_right_6, tl__law_moved_right_1, tl__law_moved_right_2, tl__law_moved_right_3, tl__law_moved_right_4, tl__law_moved_right_5, tl__law_moved_right_6, tl__law_moved_right_7, ↓bnd_eq, ↓off_eq, ↓thn_eq, run_eq, fin_nx, fin_rt, fin_ex, S.hide, hideSl, exms, exm, ev, evT, evs, evOs, evo, evc, evSrc, evPar, hb_ok, hb_ex, ho_ok, ho_ex, ht_nx, ht_rt, ht_ex, tb_nx, tb_rt, tb_ex, hd_setB, hd_setT, hd_retT, D.flat, opd_d, opd_pl, opd_lst, opd_ex, val_d, val_lst, List.append_assoc, List.length_set, gc_push, gc_id, take_push, take_id, get_app0, get_app1, get_app2, isNew0, isNew1, isNew_int, isNew_str, isNew_bl, isNew_non, isNew_tup, isNew_lst, keep_un, keep_int, keep_bl, keep_non, keep_str, keep_scr, keep_obj, keep_own_lst, keep_own_dK, pureK_nil, keep_lst, keep_tup, D.unders, ne_succ, ne_succ1, eq_self, nodup2, nodup3, List.filterMap_cons, List.filterMap_nil, putPar, D.under, List.nodup_cons, List.mem_cons, List.not_mem_nil, or_self, or_false, Nat.reduceEqDiff, List.nodup_nil, true_and, and_true, bits10, Int.reduceMul, Int.reduceLE, Int.reduceLT, Int.reducePow, Int.reduceAdd, Int.reduceSub, Int.reduceNeg, Int.reduceToNat, val_dK, putTs_nil, putTs_nm, putTs_sub, val_ex, val_pl, valPl_lst, valPl_d, opt_some, toO_ok, toO_ex, asBl_ok, List.map_cons, List.map_nil, List.length_cons, List.length_nil, Nat.reduceAdd, Nat.reduceSub, Nat.zero_add, List.replicate, List.cons_append, List.nil_append, List.getElem?_cons_zero, List.getElem?_cons_succ, List.set_cons_zero, List.set_cons_succ, S.rd, S.rdD, S.store, OS.opt, Option.bind_some, Option.map_some, Cell.view, S.cell, S.isLst, S.isDct, S.rdDct, dgetV, dixV, augV, S.put, S.rdLst, cmpV, opCmp, opEq_str, opEq_int, opEq_bl, opEq_non, opEq_lst, opEq_tup, pures_app, eqv_int, eqv_bl, eqv_lst, eqv_tup, eqvs_nil, eqvs_ints, eqvs_cons, eqv_str, opIn_ints, unders_ints, set_app0, set_app1, binV, opBin, ixV, opIx, biV, biSem, biLen, biInt, biAbs, biMax2, biMin2, biSum, biAll, biAny, biList, biTuple, List.mapM_cons, List.mapM_nil, bind, pure, Option.bind, truV, D.tru, isiV, D.kind, Ty.sub, List.any_cons, List.any_nil, decide_true, decide_false, Int.cast_ofNat_Int, beq_self_eq_true, Bool.false_and, Bool.true_or, Bool.false_or, Bool.or_false, Bool.and_true, Bool.true_and, Bool.and_self, if_true, if_false, Bool.false_eq_true, reduceCtorEq, Bool.not_true, Bool.not_false, finish, D.pure, D.pures, Cell.pure, List.take_length, and_self, not_true_eq_false, not_false_eq_true, plain_int', plain_lst, plain_tup, plain_non, plain_bl, D.plainsN, pures_ints, plain_ints, List.length_map, List.length_append, at1, at2, at3, at4, at5, muV, muSem, muApp, setIx, S.fz, perm, List.getD_cons_zero, List.getD_cons_succ, $as,*])
section
variable {st : List Cell} {c : List Mem} {t : Int}
/-- the days -/
def daysL (c : List Mem) : List Int := isort (dd (c.map (·.d)))
theorem days_of_ok (hl : c.length < 64) : f_days_of [clubD c] st = .ok (.new (.lst ((daysL c).map .int))) st := by
  have key : ev lc_days_of_1 ⟨[SV.d (clubD c), .un, .un, .un], st⟩ = .ok (.new (.lst ((c.map (·.d)).map .int))) ⟨[SV.d (clubD c), .un, .un, .un], st⟩ := by
    rw [List.map_map]
    refine lc_map c Mem.D (fun m => .int m.d) ?_ (big_le (by omega)) rfl fun m hm => ⟨_, rfl, rfl, ?_⟩
    · simp_arith [clubD]
    · simp_arith [List.getElem?_cons_zero]
  have k4 : (c.map (·.d)).length < 64 := by rw [List.length_map]; exact hl
  unfold f_days_of
  simp_arith [b_days_of, key, ssetD, intsD_map, hl]
  rfl
end

end G4

namespace G4
open PySem PySem.Spec PyProof.Rows L2
local macro_rules
  | `(tactic| simp_arith [$as,*]) => `(tactic| simp -implicitDefEqProofs only [tl_table_of_1, tl_table_of_2, tl_table_of_3, tl_one_number_1, tl_one_number_2, tl_moves_of_1, tl_moves_of_2, tl_two_numbers_1, tl_two_numbers_2, tl_two_numbers_3, tl_one_came_1, tl_one_came_2, tl_one_day_1, tl_one_day_2, tl_one_day_3, tl_one_day_4, tl__law_stirred_1, tl__law_stirred_2, tl__law_draw_1, tl__law_draw_2, tl__law_story_1, tl__law_story_2, tl__law_number_right_1, tl__law_number_right_2, tl__law_number_right_3, tl__law_number_right_4, tl__law_number_right_5, tl__law_came_right_1, tl__law_came_right_2, tl__law_came_right_3, tl__law_came_right_4, tl__law_day_right_1, tl__law_day_right_2, tl__law_day_right_3, tl__law_day_right_4, tl__law_day_right_5, tl__law_day_right_6, tl__law_moved_right_1, tl__law_moved_right_2, tl__law_moved_right_3, tl__law_moved_right_4, tl__law_moved_right_5, tl__law_moved_right_6, tl__law_moved_right_7, ↓bnd_eq, ↓off_eq, ↓thn_eq, run_eq, fin_nx, fin_rt, fin_ex, S.hide, hideSl, exms, exm, ev, evT, evs, evOs, evo, evc, evSrc, evPar, hb_ok, hb_ex, ho_ok, ho_ex, ht_nx, ht_rt, ht_ex, tb_nx, tb_rt, tb_ex, hd_setB, hd_setT, hd_retT, D.flat, opd_d, opd_pl, opd_lst, opd_ex, val_d, val_lst, List.append_assoc, List.length_set, gc_push, gc_id, take_push, take_id, get_app0, get_app1, get_app2, isNew0, isNew1, isNew_int, isNew_str, isNew_bl, isNew_non, isNew_tup, isNew_lst, keep_un, keep_int, keep_bl, keep_non, keep_str, keep_scr, keep_obj, keep_own_lst, keep_own_dK, pureK_nil, keep_lst, keep_tup, D.unders, ne_succ, ne_succ1, eq_self, nodup2, nodup3, List.filterMap_cons, List.filterMap_nil, putPar, D.under, List.nodup_cons, List.mem_cons, List.not_mem_nil, or_self, or_false, Nat.reduceEqDiff, List.nodup_nil, true_and, and_true, bits10, Int.reduceMul, Int.reduceLE, Int.reduceLT, Int.reducePow, Int.reduceAdd, Int.reduceSub, Int.reduceNeg, Int.reduceToNat, val_dK, putTs_nil, putTs_nm, putTs_sub, val_ex, val_pl, valPl_lst, valPl_d, opt_some, toO_ok, toO_ex, asBl_ok, List.map_cons, List.map_nil, List.length_cons, List.length_nil, Nat.reduceAdd, Nat.reduceSub, Nat.zero_add, List.replicate, List.cons_append, List.nil_append, List.getElem?_cons_zero, List.getElem?_cons_succ, List.set_cons_zero, List.set_cons_succ, S.rd, S.rdD, S.store, OS.opt, Option.bind_some, Option.map_some, Cell.view, S.cell, S.isLst, S.isDct, S.rdDct, dgetV, dixV, augV, S.put, S.rdLst, cmpV, opCmp, opEq_str, opEq_int, opEq_bl, opEq_non, opEq_lst, opEq_tup, pures_app, eqv_int, eqv_bl, eqv_lst, eqv_tup, eqvs_nil, eqvs_ints, eqvs_cons, eqv_str, opIn_ints, unders_ints, set_app0, set_app1, binV, opBin, ixV, opIx, biV, biSem, biLen, biInt, biAbs, biMax2, biMin2, biSum, biAll, biAny, biList, biTuple, List.mapM_cons, List.mapM_nil, bind, pure, Option.bind, truV, D.tru, isiV, D.kind, Ty.sub, List.any_cons, List.any_nil, decide_true, decide_false, Int.cast_ofNat_Int, beq_self_eq_true, Bool.false_and, Bool.true_or, Bool.false_or, Bool.or_false, Bool.and_true, Bool.true_and, Bool.and_self, if_true, if_false, Bool.false_eq_true, reduceCtorEq, Bool.not_true, Bool.not_false, finish, D.pure, D.pures, Cell.pure, List.take_length, and_self, not_true_eq_false, not_false_eq_true, plain_int', plain_lst, plain_tup, plain_non, plain_bl, D.plainsN, pures_ints, plain_ints, List.length_map, List.length_append, at1, at2, at3, at4, at5, muV, muSem, muApp, setIx, S.fz, perm, List.getD_cons_zero, List.getD_cons_succ, $as,*])
/-! ### slips: clubs told otherwise; the plain part -/
theorem perm_sumI {l m : List Int} (p : l.Perm m) : l.sum = m.sum := by
  induction p with
  | nil => rfl
  | cons x _ ih => rw [List.sum_cons, List.sum_cons, ih]
  | swap x y l => rw [List.sum_cons, List.sum_cons, List.sum_cons, List.sum_cons]; omega
  | trans _ _ h1 h2 => rw [h1, h2]
theorem slack_perm {c c' : List Mem} (p : c.Perm c') (t : Int) : slackT c t = slackT c' t := by
  unfold slackT
  rw [perm_sumI ((p.filter _).map _), (p.filter _).length_eq]
theorem left_perm {c c' : List Mem} (p : c.Perm c') : leftN c = leftN c' := by
  unfold leftN
  rw [perm_sumI (p.map _), (p.filter _).length_eq]
/-- there is no conflict -/
def PB (c : List Mem) : Prop := (∀ m ∈ c, 0 ≤ slackT c m.d) ∧ leftN c = 0
instance (c : List Mem) : Decidable (PB c) := inferInstanceAs (Decidable ((∀ m ∈ c, 0 ≤ slackT c m.d) ∧ leftN c = 0))
theorem PB_perm {c c' : List Mem} (p : c.Perm c') : PB c ↔ PB c' := by
  have key : ∀ {c c' : List Mem}, c.Perm c' → PB c → PB c' := fun p h => ⟨fun m hm => by rw [← slack_perm p]; exact h.1 m (p.mem_iff.mpr hm), by rw [← left_perm p]; exact h.2⟩
  exact ⟨key p, key p.symm⟩
theorem conf_isnon (c : List Mem) : (conflictD c).isNon = decide (PB c) := by
  have hm : ∀ t ∈ dayS c, (∃ m ∈ c, m.d = t) := fun t ht => mem_dayS.mp ht
  unfold conflictD
  cases q : (dayS c).filter fun t => decide (slackT c t < 0) with
  | cons t l =>
    have ht : t ∈ (dayS c).filter fun t => decide (slackT c t < 0) := by rw [q]; exact List.mem_cons_self
    obtain ⟨h1, h2⟩ := List.mem_filter.mp ht
    obtain ⟨m, hm1, rfl⟩ := hm t h1
    have h2 := of_decide_eq_true h2
    rw [decide_eq_false fun h : PB c => by have := h.1 m hm1; omega]
    rfl
  | nil =>
    have h1 : ∀ m ∈ c, 0 ≤ slackT c m.d := fun m hm => by
      have := List.filter_eq_nil_iff.mp q m.d (mem_dayS.mpr ⟨m, hm, rfl⟩)
      simp only [decide_eq_true_eq] at this
      omega
    by_cases z : leftN c = 0
    · rw [decide_eq_true (show PB c from ⟨h1, z⟩)]
      simp only [z, if_true]
      rfl
    · rw [decide_eq_false fun h : PB c => z h.2]
      simp only [z, if_false]
      rfl
theorem mAt_gS {c : List Mem} {i : Nat} (h : i < c.length) : c[i]? = some (mAt c i) := by
  rw [List.getElem?_eq_getElem h, mAt, List.getD_eq_getElem?_getD, List.getElem?_eq_getElem h]; rfl
/-- the others -/
def othC (c : List Mem) (i : Nat) : List Mem := c.take i ++ c.drop (i + 1)
/-- one member told otherwise, behind those of its day -/
def toldC (c : List Mem) (i : Nat) (m : Mem) : List Mem := (othC c i).filter (fun x => decide (x.d ≤ m.d)) ++ [m] ++ (othC c i).filter fun x => decide (x.d > m.d)
theorem told_perm (c : List Mem) (i : Nat) (m : Mem) : (toldC c i m).Perm (othC c i ++ [m]) := by
  unfold toldC
  have e : (fun x : Mem => decide (x.d > m.d)) = fun x : Mem => !decide (x.d ≤ m.d) := by
    funext x
    by_cases h : x.d ≤ m.d
    · rw [decide_eq_true h, decide_eq_false (by omega)]; rfl
    · rw [decide_eq_false h, decide_eq_true (by omega)]; rfl
  rw [e, List.append_assoc]
  have h1 : ([m] ++ (othC c i).filter fun x => !decide (x.d ≤ m.d)).Perm (((othC c i).filter fun x => !decide (x.d ≤ m.d)) ++ [m]) := List.perm_append_comm
  refine (h1.append_left _).trans ?_
  rw [← List.append_assoc]
  exact (List.filter_append_perm _ _).append_right _
theorem oth_perm {c : List Mem} {i : Nat} (hi : i < c.length) : (othC c i ++ [mAt c i]).Perm c := by
  have e : c = c.take i ++ ([mAt c i] ++ c.drop (i + 1)) := by
    have h1 : c.drop i = mAt c i :: c.drop (i + 1) := by
      rw [List.drop_eq_getElem_cons hi]
      congr 1
      have := mAt_gS hi
      rw [List.getElem?_eq_getElem hi] at this
      exact Option.some.inj this
    have h2 := (List.take_append_drop i c).symm
    rw [h1] at h2
    exact h2
  conv => rhs; rw [e]
  unfold othC
  rw [List.append_assoc]
  exact (List.perm_append_comm).append_left _
theorem oth_len {c : List Mem} {i : Nat} (hi : i < c.length) : (othC c i).length + 1 = c.length := by
  have := (oth_perm hi).length_eq
  rw [List.length_append] at this
  simpa using this
theorem told_len {c : List Mem} {i : Nat} (hi : i < c.length) (m : Mem) : (toldC c i m).length = c.length := by
  rw [(told_perm c i m).length_eq, List.length_append]
  exact oth_len hi
theorem told_same {c : List Mem} {i : Nat} (hi : i < c.length) : PB (toldC c i (mAt c i)) ↔ PB c := PB_perm ((told_perm c i _).trans (oth_perm hi))
theorem oth_mem {c : List Mem} {i : Nat} {m : Mem} (h : m ∈ othC c i) : m ∈ c := by
  unfold othC at h
  rcases List.mem_append.mp h with h | h
  · exact List.mem_of_mem_take h
  · exact List.mem_of_mem_drop h
/-- as tuples stand -/
def leM (a b : Mem) : Bool := leX a.D b.D
def sortM (l : List Mem) : List Mem := l.mergeSort leM
theorem sortM_perm (l : List Mem) : (sortM l).Perm l := List.mergeSort_perm l leM
theorem key_mem (m : Mem) : keyX m.D = some [.inl m.d, .inr (wd m.w).cps.toList, .inl m.n] := rfl
theorem leM_day {a b : Mem} (h : leM a b = true) : a.d ≤ b.d := by
  unfold leM leX kX at h
  rw [key_mem, key_mem, Bool.not_eq_true'] at h
  have h := (PyProof.Rows.lex_false (O := PyProof.Rows.itemOrd)).mp h
  have h1 : decide (b.d < a.d) = false := h.1
  have := of_decide_eq_false h1
  omega
theorem sortM_asc (l : List Mem) : Asc (sortM l) := by
  have h := List.pairwise_mergeSort (le := leM) (fun a b c => leX_trans _ _ _) (fun a b => leX_total _ _) l
  exact h.imp fun hab => leM_day hab
theorem okX_mems {l : List Mem} (hl : l ≠ []) : okX (l.map Mem.D) = true := by
  cases l with
  | nil => exact absurd rfl hl
  | cons a l =>
    unfold okX
    rw [Bool.and_eq_true, List.all_eq_true]
    refine ⟨rfl, fun d hd => ?_⟩
    obtain ⟨m, _, rfl⟩ := List.mem_map.mp hd
    rw [key_mem]
    rfl
theorem sort_mems {l : List Mem} (hl : l ≠ []) : biSorted [.lst (l.map Mem.D)] = some (.new (.lst ((sortM l).map Mem.D))) := by
  have h1 : intsD (l.map Mem.D) = none := by
    cases l with
    | nil => exact absurd rfl hl
    | cons a l => rfl
  have h2 : tupsD (l.map Mem.D) = none := by
    cases l with
    | nil => exact absurd rfl hl
    | cons a l => rfl
  show sortL _ = _
  unfold sortL
  rw [h1, h2]
  show sortX _ = _
  unfold sortX
  rw [if_pos (okX_mems hl)]
  congr 3
  unfold xsort sortM
  exact (List.map_mergeSort (f := Mem.D) (r := leM) (s := leX) fun a _ b _ => rfl).symm

end G4

namespace G4
open PySem PySem.Spec PyProof.Rows L2
local macro_rules
  | `(tactic| simp_arith [$as,*]) => `(tactic| simp -implicitDefEqProofs only [tl_table_of_1, tl_table_of_2, tl_table_of_3, tl_one_number_1, tl_one_number_2, tl_moves_of_1, tl_moves_of_2, tl_two_numbers_1, tl_two_numbers_2, tl_two_numbers_3, tl_one_came_1, tl_one_came_2, tl_one_day_1, tl_one_day_2, tl_one_day_3, tl_one_day_4, tl__law_stirred_1, tl__law_stirred_2, tl__law_draw_1, tl__law_draw_2, tl__law_story_1, tl__law_story_2, tl__law_number_right_1, tl__law_number_right_2, tl__law_number_right_3, tl__law_number_right_4, tl__law_number_right_5, tl__law_came_right_1, tl__law_came_right_2, tl__law_came_right_3, tl__law_came_right_4, tl__law_day_right_1, tl__law_day_right_2, tl__law_day_right_3, tl__law_day_right_4, tl__law_day_right_5, tl__law_day_right_6, tl__law_moved_right_1, tl__law_moved_right_2, tl__law_moved_right_3, tl__law_moved_right_4, tl__law_moved_right_5, tl__law_moved_right_6, tl__law_moved_right_7, ↓bnd_eq, ↓off_eq, ↓thn_eq, run_eq, fin_nx, fin_rt, fin_ex, S.hide, hideSl, exms, exm, ev, evT, evs, evOs, evo, evc, evSrc, evPar, hb_ok, hb_ex, ho_ok, ho_ex, ht_nx, ht_rt, ht_ex, tb_nx, tb_rt, tb_ex, hd_setB, hd_setT, hd_retT, D.flat, opd_d, opd_pl, opd_lst, opd_ex, val_d, val_lst, List.append_assoc, List.length_set, gc_push, gc_id, take_push, take_id, get_app0, get_app1, get_app2, isNew0, isNew1, isNew_int, isNew_str, isNew_bl, isNew_non, isNew_tup, isNew_lst, keep_un, keep_int, keep_bl, keep_non, keep_str, keep_scr, keep_obj, keep_own_lst, keep_own_dK, pureK_nil, keep_lst, keep_tup, D.unders, ne_succ, ne_succ1, eq_self, nodup2, nodup3, List.filterMap_cons, List.filterMap_nil, putPar, D.under, List.nodup_cons, List.mem_cons, List.not_mem_nil, or_self, or_false, Nat.reduceEqDiff, List.nodup_nil, true_and, and_true, bits10, Int.reduceMul, Int.reduceLE, Int.reduceLT, Int.reducePow, Int.reduceAdd, Int.reduceSub, Int.reduceNeg, Int.reduceToNat, val_dK, putTs_nil, putTs_nm, putTs_sub, val_ex, val_pl, valPl_lst, valPl_d, opt_some, toO_ok, toO_ex, asBl_ok, List.map_cons, List.map_nil, List.length_cons, List.length_nil, Nat.reduceAdd, Nat.reduceSub, Nat.zero_add, List.replicate, List.cons_append, List.nil_append, List.getElem?_cons_zero, List.getElem?_cons_succ, List.set_cons_zero, List.set_cons_succ, S.rd, S.rdD, S.store, OS.opt, Option.bind_some, Option.map_some, Cell.view, S.cell, S.isLst, S.isDct, S.rdDct, dgetV, dixV, augV, S.put, S.rdLst, cmpV, opCmp, opEq_str, opEq_int, opEq_bl, opEq_non, opEq_lst, opEq_tup, pures_app, eqv_int, eqv_bl, eqv_lst, eqv_tup, eqvs_nil, eqvs_ints, eqvs_cons, eqv_str, opIn_ints, unders_ints, set_app0, set_app1, binV, opBin, ixV, opIx, biV, biSem, biLen, biInt, biAbs, biMax2, biMin2, biSum, biAll, biAny, biList, biTuple, List.mapM_cons, List.mapM_nil, bind, pure, Option.bind, truV, D.tru, isiV, D.kind, Ty.sub, List.any_cons, List.any_nil, decide_true, decide_false, Int.cast_ofNat_Int, beq_self_eq_true, Bool.false_and, Bool.true_or, Bool.false_or, Bool.or_false, Bool.and_true, Bool.true_and, Bool.and_self, if_true, if_false, Bool.false_eq_true, reduceCtorEq, Bool.not_true, Bool.not_false, finish, D.pure, D.pures, Cell.pure, List.take_length, and_self, not_true_eq_false, not_false_eq_true, plain_int', plain_lst, plain_tup, plain_non, plain_bl, D.plainsN, pures_ints, plain_ints, List.length_map, List.length_append, at1, at2, at3, at4, at5, muV, muSem, muApp, setIx, S.fz, perm, List.getD_cons_zero, List.getD_cons_succ, $as,*])
/-! ### slips: the walks of one_number and one_came -/
theorem cut_fromS (l : List D) (k : Nat) (h : k ≤ l.length) : cut l (some (k : Int)) none = l.drop k := by
  unfold cut
  rw [HT.sIx_none]
  have e : HT.sIx l.length 0 (some (k : Int)) = min k l.length := HT.sIx_nat l.length 0 k
  rw [e, show min k l.length = k by omega, List.take_of_length_le (by rw [List.length_drop]; exact Nat.le_refl _)]
theorem cut_toS (l : List D) (k : Nat) (h : k ≤ l.length) : cut l none (some (k : Int)) = l.take k := by
  unfold cut
  rw [HT.sIx_none]
  have e : HT.sIx l.length l.length (some (k : Int)) = min k l.length := HT.sIx_nat l.length l.length k
  rw [e, show min k l.length = k by omega]
  rfl
theorem conf_cases (c : List Mem) : (PB c ∧ conflictD c = .non) ∨ (¬ PB c ∧ ∃ a t, conflictD c = .tup [.str a, .int t]) := by
  have h := conf_isnon c
  have h2 : conflictD c = .non ∨ ∃ a t, conflictD c = .tup [.str a, .int t] := by
    unfold conflictD
    split
    · exact .inr ⟨_, _, rfl⟩
    · split
      · exact .inl rfl
      · exact .inr ⟨_, _, rfl⟩
  rcases h2 with e | ⟨a, t, e⟩
  · rw [e] at h
    exact .inl ⟨of_decide_eq_true h.symm, e⟩
  · rw [e] at h
    exact .inr ⟨of_decide_eq_false h.symm, a, t, e⟩
theorem enum_rangeS (c : List Mem) : enumFrom 0 (c.map Mem.D) = (List.range c.length).map fun i : Nat => D.tup [.int i, (mAt c i).D] := by
  apply List.ext_getElem?
  intro i
  by_cases hi : i < c.length
  · have h1 : (c.map Mem.D)[i]? = some (mAt c i).D := mAt_get hi
    rw [enumFrom_get _ 0 i _ h1, List.getElem?_map, List.getElem?_range hi, Nat.zero_add]
    rfl
  · rw [List.getElem?_eq_none (by rw [enumFrom_len, List.length_map]; omega), List.getElem?_eq_none (by simp; omega)]
section
variable {st : List Cell} {c : List Mem}
theorem oth_D (hi : i < c.length) : cut (c.map Mem.D) none (some (i : Int)) = (c.take i).map Mem.D ∧ cut (c.map Mem.D) (some ((i : Int) + 1)) none = (c.drop (i + 1)).map Mem.D := by
  refine ⟨by rw [cut_toS _ _ (by rw [List.length_map]; omega), List.map_take], ?_⟩
  have := cut_fromS (c.map Mem.D) (i + 1) (by rw [List.length_map]; omega)
  rw [← List.map_drop] at this
  exact this
theorem told_ok (hl : c.length ≤ 60) {i : Nat} (hi : i < c.length) (m : Mem) : f_club_told [clubD c, .int i, m.D] st = .ok (.new (.lst ((toldC c i m).map Mem.D))) st := by
  obtain ⟨c1, c2⟩ := oth_D hi
  have ho := oth_len hi
  have b1 : (c.take i).length + (c.drop (i + 1)).length ≤ big := big_le (by rw [← List.length_append]; show (othC c i).length ≤ _; omega)
  have l2 : ev lc_club_told_2 ⟨[.d (clubD c), .d (.int i), .d m.D, .own (.lst ((othC c i).map Mem.D)), .un, .un], st⟩ = .ok (.new (.lst (((othC c i).filter fun x => decide (x.d ≤ m.d)).map Mem.D))) ⟨[.d (clubD c), .d (.int i), .d m.D, .d (.lst ((othC c i).map Mem.D)), .un, .un], st⟩ := by
    refine lc_filt (othC c i) Mem.D (fun x => decide (x.d ≤ m.d)) Mem.D ?_ (big_le (by omega)) rfl fun x hx => ⟨_, rfl, rfl, ?_, fun _ => ?_⟩
    · simp_arith [hideSl]
    · simp_arith [hideSl, Mem.D]
    · simp_arith [hideSl, Mem.D]
  have l1 : ev lc_club_told_1 ⟨[.d (clubD c), .d (.int i), .d m.D, .d (.lst ((othC c i).map Mem.D)), .own (.lst (((othC c i).filter fun x => decide (x.d ≤ m.d)).map Mem.D)), .un], st⟩ = .ok (.new (.lst (((othC c i).filter fun x => decide (x.d > m.d)).map Mem.D))) ⟨[.d (clubD c), .d (.int i), .d m.D, .d (.lst ((othC c i).map Mem.D)), .own (.lst (((othC c i).filter fun x => decide (x.d ≤ m.d)).map Mem.D)), .un], st⟩ := by
    refine lc_filt (othC c i) Mem.D (fun x => decide (x.d > m.d)) Mem.D ?_ (big_le (by omega)) rfl fun x hx => ⟨_, rfl, rfl, ?_, fun _ => ?_⟩
    · simp_arith [hideSl]
    · simp_arith [hideSl, Mem.D]
    · simp_arith [hideSl, Mem.D]
  have f1 := List.length_filter_le (fun x : Mem => decide (x.d ≤ m.d)) (othC c i)
  have f2 := List.length_filter_le (fun x : Mem => decide (x.d > m.d)) (othC c i)
  have b2 : ((othC c i).filter fun x => decide (x.d ≤ m.d)).length + 1 ≤ big := big_le (by omega)
  have b3 : ((othC c i).filter fun x => decide (x.d ≤ m.d)).length + 1 + ((othC c i).filter fun x => decide (x.d > m.d)).length ≤ big := big_le (by omega)
  have pm1 := pure_mems ((othC c i).filter fun x => decide (x.d ≤ m.d))
  have pm2 := pure_mems ((othC c i).filter fun x => decide (x.d > m.d))
  have pm3 : m.D.pure = true := rfl
  unfold othC at l1 l2 b2 b3 pm1 pm2
  rw [List.map_append] at l1 l2
  unfold toldC othC
  rw [List.map_append, List.map_append]
  unfold clubD at l1 l2
  simp only [List.map_cons, List.map_nil]
  generalize hd : m.D = d at *
  unfold f_club_told
  simp_arith [b_club_told, clubD, opSl, c1, c2, b1, l2, l1, b2, b3, pm1, pm2, pm3]
end

end G4

namespace G4
open PySem PySem.Spec PyProof.Rows L2
local macro_rules
  | `(tactic| simp_arith [$as,*]) => `(tactic| simp -implicitDefEqProofs only [tl_table_of_1, tl_table_of_2, tl_table_of_3, tl_one_number_1, tl_one_number_2, tl_moves_of_1, tl_moves_of_2, tl_two_numbers_1, tl_two_numbers_2, tl_two_numbers_3, tl_one_came_1, tl_one_came_2, tl_one_day_1, tl_one_day_2, tl_one_day_3, tl_one_day_4, tl__law_stirred_1, tl__law_stirred_2, tl__law_draw_1, tl__law_draw_2, tl__law_story_1, tl__law_story_2, tl__law_number_right_1, tl__law_number_right_2, tl__law_number_right_3, tl__law_number_right_4, tl__law_number_right_5, tl__law_came_right_1, tl__law_came_right_2, tl__law_came_right_3, tl__law_came_right_4, tl__law_day_right_1, tl__law_day_right_2, tl__law_day_right_3, tl__law_day_right_4, tl__law_day_right_5, tl__law_day_right_6, tl__law_moved_right_1, tl__law_moved_right_2, tl__law_moved_right_3, tl__law_moved_right_4, tl__law_moved_right_5, tl__law_moved_right_6, tl__law_moved_right_7, ↓bnd_eq, ↓off_eq, ↓thn_eq, run_eq, fin_nx, fin_rt, fin_ex, S.hide, hideSl, exms, exm, ev, evT, evs, evOs, evo, evc, evSrc, evPar, hb_ok, hb_ex, ho_ok, ho_ex, ht_nx, ht_rt, ht_ex, tb_nx, tb_rt, tb_ex, hd_setB, hd_setT, hd_retT, D.flat, opd_d, opd_pl, opd_lst, opd_ex, val_d, val_lst, List.append_assoc, List.length_set, gc_push, gc_id, take_push, take_id, get_app0, get_app1, get_app2, isNew0, isNew1, isNew_int, isNew_str, isNew_bl, isNew_non, isNew_tup, isNew_lst, keep_un, keep_int, keep_bl, keep_non, keep_str, keep_scr, keep_obj, keep_own_lst, keep_own_dK, pureK_nil, keep_lst, keep_tup, D.unders, ne_succ, ne_succ1, eq_self, nodup2, nodup3, List.filterMap_cons, List.filterMap_nil, putPar, D.under, List.nodup_cons, List.mem_cons, List.not_mem_nil, or_self, or_false, Nat.reduceEqDiff, List.nodup_nil, true_and, and_true, bits10, Int.reduceMul, Int.reduceLE, Int.reduceLT, Int.reducePow, Int.reduceAdd, Int.reduceSub, Int.reduceNeg, Int.reduceToNat, val_dK, putTs_nil, putTs_nm, putTs_sub, val_ex, val_pl, valPl_lst, valPl_d, opt_some, toO_ok, toO_ex, asBl_ok, List.map_cons, List.map_nil, List.length_cons, List.length_nil, Nat.reduceAdd, Nat.reduceSub, Nat.zero_add, List.replicate, List.cons_append, List.nil_append, List.getElem?_cons_zero, List.getElem?_cons_succ, List.set_cons_zero, List.set_cons_succ, S.rd, S.rdD, S.store, OS.opt, Option.bind_some, Option.map_some, Cell.view, S.cell, S.isLst, S.isDct, S.rdDct, dgetV, dixV, augV, S.put, S.rdLst, cmpV, opCmp, opEq_str, opEq_int, opEq_bl, opEq_non, opEq_lst, opEq_tup, pures_app, eqv_int, eqv_bl, eqv_lst, eqv_tup, eqvs_nil, eqvs_ints, eqvs_cons, eqv_str, opIn_ints, unders_ints, set_app0, set_app1, binV, opBin, ixV, opIx, biV, biSem, biLen, biInt, biAbs, biMax2, biMin2, biSum, biAll, biAny, biList, biTuple, List.mapM_cons, List.mapM_nil, bind, pure, Option.bind, truV, D.tru, isiV, D.kind, Ty.sub, List.any_cons, List.any_nil, decide_true, decide_false, Int.cast_ofNat_Int, beq_self_eq_true, Bool.false_and, Bool.true_or, Bool.false_or, Bool.or_false, Bool.and_true, Bool.true_and, Bool.and_self, if_true, if_false, Bool.false_eq_true, reduceCtorEq, Bool.not_true, Bool.not_false, finish, D.pure, D.pures, Cell.pure, List.take_length, and_self, not_true_eq_false, not_false_eq_true, plain_int', plain_lst, plain_tup, plain_non, plain_bl, D.plainsN, pures_ints, plain_ints, List.length_map, List.length_append, at1, at2, at3, at4, at5, muV, muSem, muApp, setIx, S.fz, perm, List.getD_cons_zero, List.getD_cons_succ, $as,*])
/-! ### slips: one_number, one_came -/
def numI (c : List Mem) (i : Nat) : Int := (mAt c i).n - leftN c
def okN (c : List Mem) (i : Nat) : Bool := decide (0 ≤ numI c i ∧ numI c i ≤ 10 ^ 30) && decide (PB (toldC c i ⟨(mAt c i).d, (mAt c i).w, numI c i⟩))
def numD (c : List Mem) (i : Nat) : D := .tup [.int i, .int (numI c i)]
def okCm (c : List Mem) (i : Nat) : Bool := decide (PB (toldC c i ⟨(mAt c i).d, !(mAt c i).w, (mAt c i).n⟩))
theorem asg_e4 (x a b e : Nat) (i : Nat) (m : Mem) (s : S) : T.asg (.tp [.nm x, .tp [.nm a, .nm b, .nm e]]) (.tup [.int i, m.D]) s = some ⟨(((s.sl.set x (.d (.int i))).set a (.d (.int m.d))).set b (.d (.str (wd m.w)))).set e (.d (.int m.n)), s.st⟩ := by
  simp only [Mem.D, asg_tp, asgs_nil, asgs_cons, asg_nm, List.length_cons, List.length_nil, if_true, Option.bind_some]
theorem pures_iffS : ∀ l : List D, D.pures l = true ↔ ∀ d ∈ l, d.pure = true
  | [] => by simp [D.pures]
  | d :: l => by simp [D.pures, pures_iffS l]
theorem filt_succ (p : Nat → Bool) (j : Nat) : (List.range (j + 1)).filter p = (List.range j).filter p ++ (if p j then [j] else []) := by
  rw [List.range_succ, List.filter_append, List.filter_cons]
  cases p j <;> rfl
section
variable {st : List Cell} {c : List Mem}
theorem num_turn (h : Club c) {i : Nat} (hi : i < c.length) {v7 : SV} :
    ∃ u7, exms fb_one_number_1 ⟨[.d (clubD c), .own (.lst (((List.range i).filter (okN c)).map (numD c))), .d (.int (leftN c)), .d (.int i), .d (.int (mAt c i).d), .d (.str (wd (mAt c i).w)), .d (.int (mAt c i).n), v7], st⟩ =
      .nx ⟨[.d (clubD c), .own (.lst (((List.range (i + 1)).filter (okN c)).map (numD c))), .d (.int (leftN c)), .d (.int i), .d (.int (mAt c i).d), .d (.str (wd (mAt c i).w)), .d (.int (mAt c i).n), u7], st⟩ := by
  have hl := h.few
  have e1 := told_ok (st := st) hl hi ⟨(mAt c i).d, (mAt c i).w, numI c i⟩
  have e2 := conflict_in_ok (st := st) (c := toldC c i ⟨(mAt c i).d, (mAt c i).w, numI c i⟩) (by rw [told_len hi]; omega)
  have hfl := List.length_filter_le (okN c) (List.range i)
  rw [List.length_range] at hfl
  have hb : ((List.range i).filter (okN c)).length < big := Nat.lt_of_le_of_lt (show _ ≤ 60 by omega) (by decide)
  have hc := conf_cases (toldC c i ⟨(mAt c i).d, (mAt c i).w, numI c i⟩)
  refine ⟨.d (.int (numI c i)), ?_⟩
  rw [filt_succ]
  have hok : okN c i = (decide (0 ≤ numI c i ∧ numI c i ≤ 10 ^ 30) && decide (PB (toldC c i ⟨(mAt c i).d, (mAt c i).w, numI c i⟩))) := rfl
  unfold clubD at e1 e2
  simp only [Mem.D] at e1
  have hv : (mAt c i).n - leftN c = numI c i := rfl
  have hnd : D.tup [.int i, .int (numI c i)] = numD c i := rfl
  generalize numI c i = V at *
  generalize toldC c i ⟨(mAt c i).d, (mAt c i).w, V⟩ = C at *
  unfold fb_one_number_1 clubD
  by_cases z0 : 0 ≤ V
  · by_cases z1 : V ≤ 10 ^ 30
    · have z1' : V ≤ 1000000000000000000000000000000 := z1
      rcases hc with ⟨hP, he⟩ | ⟨hP, a, t, he⟩
      · rw [hok, decide_eq_true (show 0 ≤ V ∧ V ≤ 10 ^ 30 from ⟨z0, z1⟩), decide_eq_true hP]
        rw [he] at e2
        simp_arith [k_MOST, hv, z0, z1', e1, e2, opIs, D.isNon, hb, hnd, List.map_append]
      · rw [hok, decide_eq_false hP, Bool.and_false]
        rw [he] at e2
        simp_arith [k_MOST, hv, z0, z1', e1, e2, opIs, D.isNon, List.append_nil]
    · have z1' : ¬ V ≤ 1000000000000000000000000000000 := z1
      rw [hok, decide_eq_false (fun q : 0 ≤ V ∧ V ≤ 10 ^ 30 => z1 q.2), Bool.false_and]
      simp_arith [k_MOST, hv, z0, z1', List.append_nil]
  · rw [hok, decide_eq_false (fun q : 0 ≤ V ∧ V ≤ 10 ^ 30 => z0 q.1), Bool.false_and]
    simp_arith [k_MOST, hv, z0, List.append_nil]
theorem one_number_ok (h : Club c) : f_one_number [clubD c] st = .ok (.new (.lst (((List.range c.length).filter (okN c)).map (numD c)))) st := by
  have hl := h.few
  have e1 := need_club_ok (st := st) h
  have e2 := left_over_ok (st := st ++ [.lst []]) hl
  obtain ⟨s', l1, v3, v4, v5, v6, v7, rfl⟩ := for_lst (t := .tp [.nm 3, .tp [.nm 4, .nm 5, .nm 6]]) (body := fun s => exms fb_one_number_1 s) (n := st.length) (List.range c.length) (fun i : Nat => D.tup [.int i, (mAt c i).D])
    (fun j s => ∃ v3 v4 v5 v6 v7, s = ⟨[.d (clubD c), .own (.lst (((List.range j).filter (okN c)).map (numD c))), .d (.int (leftN c)), v3, v4, v5, v6, v7], st⟩)
    ⟨[.d (clubD c), .own (.lst []), .d (.int (leftN c)), .un, .un, .un, .un, .un], st⟩ ⟨_, _, _, _, _, rfl⟩ fun j a s ha hI => by
      obtain ⟨v3, v4, v5, v6, v7, rfl⟩ := hI
      obtain ⟨hj, e⟩ := List.getElem?_eq_some_iff.mp ha
      rw [List.length_range] at hj
      rw [List.getElem_range] at e
      subst e
      obtain ⟨u7, t⟩ := num_turn (st := st) h hj (v7 := v7)
      exact ⟨_, _, asg_e4 3 4 5 6 j (mAt c j) _, .inl t, _, _, _, _, _, gc_id rfl⟩
  rw [← enum_rangeS, List.length_range] at l1
  have pn : D.pures (((List.range c.length).filter (okN c)).map (numD c)) = true := (pures_iffS _).mpr fun d hd => by
    obtain ⟨i, _, rfl⟩ := List.mem_map.mp hd
    rfl
  have uc := unders_mems st.length c
  unfold clubD at e1 e2 l1
  unfold f_one_number
  simp_arith [b_one_number, clubD, e1, e2, uc]
  rw [l1]
  simp_arith [pn]
theorem came_turn (h : Club c) {i : Nat} (hi : i < c.length) {v6 : SV} :
    ∃ u6, exms fb_one_came_1 ⟨[.d (clubD c), .own (.lst (((List.range i).filter (okCm c)).map fun k : Nat => D.int k)), .d (.int i), .d (.int (mAt c i).d), .d (.str (wd (mAt c i).w)), .d (.int (mAt c i).n), v6], st⟩ =
      .nx ⟨[.d (clubD c), .own (.lst (((List.range (i + 1)).filter (okCm c)).map fun k : Nat => D.int k)), .d (.int i), .d (.int (mAt c i).d), .d (.str (wd (mAt c i).w)), .d (.int (mAt c i).n), u6], st⟩ := by
  have hl := h.few
  have e1 := told_ok (st := st) hl hi ⟨(mAt c i).d, !(mAt c i).w, (mAt c i).n⟩
  have e2 := conflict_in_ok (st := st) (c := toldC c i ⟨(mAt c i).d, !(mAt c i).w, (mAt c i).n⟩) (by rw [told_len hi]; omega)
  have hfl := List.length_filter_le (okCm c) (List.range i)
  rw [List.length_range] at hfl
  have hb : ((List.range i).filter (okCm c)).length < big := Nat.lt_of_le_of_lt (show _ ≤ 60 by omega) (by decide)
  have hc := conf_cases (toldC c i ⟨(mAt c i).d, !(mAt c i).w, (mAt c i).n⟩)
  refine ⟨.d (.str (wd (!(mAt c i).w))), ?_⟩
  rw [filt_succ]
  have hok : okCm c i = decide (PB (toldC c i ⟨(mAt c i).d, !(mAt c i).w, (mAt c i).n⟩)) := rfl
  unfold clubD at e1 e2
  simp only [Mem.D] at e1
  generalize toldC c i ⟨(mAt c i).d, !(mAt c i).w, (mAt c i).n⟩ = C at *
  unfold fb_one_came_1 clubD
  have w1 : wd true = "brought" := rfl
  have w2 : wd false = "alone" := rfl
  cases hw : (mAt c i).w <;> rw [hw] at e1 <;> simp only [Bool.not_true, Bool.not_false, w1, w2] at e1 ⊢
  all_goals
    rcases hc with ⟨hP, he⟩ | ⟨hP, a, t, he⟩
    · rw [hok, decide_eq_true hP]
      rw [he] at e2
      simp_arith [wd_al, e1, e2, opIs, D.isNon, hb, List.map_append, show decide (("alone" : Str) = "alone") = true from rfl, show decide (("brought" : Str) = "alone") = false from by decide +kernel]
    · rw [hok, decide_eq_false hP]
      rw [he] at e2
      simp_arith [wd_al, e1, e2, opIs, D.isNon, List.append_nil, show decide (("alone" : Str) = "alone") = true from rfl, show decide (("brought" : Str) = "alone") = false from by decide +kernel]
theorem one_came_ok (h : Club c) : f_one_came [clubD c] st = .ok (.new (.lst (((List.range c.length).filter (okCm c)).map fun k : Nat => D.int k))) st := by
  have hl := h.few
  have e1 := need_club_ok (st := st) h
  obtain ⟨s', l1, v2, v3, v4, v5, v6, rfl⟩ := for_lst (t := .tp [.nm 2, .tp [.nm 3, .nm 4, .nm 5]]) (body := fun s => exms fb_one_came_1 s) (n := st.length) (List.range c.length) (fun i : Nat => D.tup [.int i, (mAt c i).D])
    (fun j s => ∃ v2 v3 v4 v5 v6, s = ⟨[.d (clubD c), .own (.lst (((List.range j).filter (okCm c)).map fun k : Nat => D.int k)), v2, v3, v4, v5, v6], st⟩)
    ⟨[.d (clubD c), .own (.lst []), .un, .un, .un, .un, .un], st⟩ ⟨_, _, _, _, _, rfl⟩ fun j a s ha hI => by
      obtain ⟨v2, v3, v4, v5, v6, rfl⟩ := hI
      obtain ⟨hj, e⟩ := List.getElem?_eq_some_iff.mp ha
      rw [List.length_range] at hj
      rw [List.getElem_range] at e
      subst e
      obtain ⟨u6, t⟩ := came_turn (st := st) h hj (v6 := v6)
      exact ⟨_, _, asg_e4 2 3 4 5 j (mAt c j) _, .inl t, _, _, _, _, _, gc_id rfl⟩
  rw [← enum_rangeS, List.length_range] at l1
  have pn : D.pures (((List.range c.length).filter (okCm c)).map fun k : Nat => D.int k) = true := (pures_iffS _).mpr fun d hd => by
    obtain ⟨i, _, rfl⟩ := List.mem_map.mp hd
    rfl
  unfold clubD at e1 l1
  unfold f_one_came
  simp_arith [b_one_came, clubD, e1]
  rw [l1]
  simp_arith [pn]
end

end G4

namespace G4
open PySem PySem.Spec PyProof.Rows L2
local macro_rules
  | `(tactic| simp_arith [$as,*]) => `(tactic| simp -implicitDefEqProofs only [tl_table_of_1, tl_table_of_2, tl_table_of_3, tl_one_number_1, tl_one_number_2, tl_moves_of_1, tl_moves_of_2, tl_two_numbers_1, tl_two_numbers_2, tl_two_numbers_3, tl_one_came_1, tl_one_came_2, tl_one_day_1, tl_one_day_2, tl_one_day_3, tl_one_day_4, tl__law_stirred_1, tl__law_stirred_2, tl__law_draw_1, tl__law_draw_2, tl__law_story_1, tl__law_story_2, tl__law_number_right_1, tl__law_number_right_2, tl__law_number_right_3, tl__law_number_right_4, tl__law_number_right_5, tl__law_came_right_1, tl__law_came_right_2, tl__law_came_right_3, tl__law_came_right_4, tl__law_day_right_1, tl__law_day_right_2, tl__law_day_right_3, tl__law_day_right_4, tl__law_day_right_5, tl__law_day_right_6, tl__law_moved_right_1, tl__law_moved_right_2, tl__law_moved_right_3, tl__law_moved_right_4, tl__law_moved_right_5, tl__law_moved_right_6, tl__law_moved_right_7, ↓bnd_eq, ↓off_eq, ↓thn_eq, run_eq, fin_nx, fin_rt, fin_ex, S.hide, hideSl, exms, exm, ev, evT, evs, evOs, evo, evc, evSrc, evPar, hb_ok, hb_ex, ho_ok, ho_ex, ht_nx, ht_rt, ht_ex, tb_nx, tb_rt, tb_ex, hd_setB, hd_setT, hd_retT, D.flat, opd_d, opd_pl, opd_lst, opd_ex, val_d, val_lst, List.append_assoc, List.length_set, gc_push, gc_id, take_push, take_id, get_app0, get_app1, get_app2, isNew0, isNew1, isNew_int, isNew_str, isNew_bl, isNew_non, isNew_tup, isNew_lst, keep_un, keep_int, keep_bl, keep_non, keep_str, keep_scr, keep_obj, keep_own_lst, keep_own_dK, pureK_nil, keep_lst, keep_tup, D.unders, ne_succ, ne_succ1, eq_self, nodup2, nodup3, List.filterMap_cons, List.filterMap_nil, putPar, D.under, List.nodup_cons, List.mem_cons, List.not_mem_nil, or_self, or_false, Nat.reduceEqDiff, List.nodup_nil, true_and, and_true, bits10, Int.reduceMul, Int.reduceLE, Int.reduceLT, Int.reducePow, Int.reduceAdd, Int.reduceSub, Int.reduceNeg, Int.reduceToNat, val_dK, putTs_nil, putTs_nm, putTs_sub, val_ex, val_pl, valPl_lst, valPl_d, opt_some, toO_ok, toO_ex, asBl_ok, List.map_cons, List.map_nil, List.length_cons, List.length_nil, Nat.reduceAdd, Nat.reduceSub, Nat.zero_add, List.replicate, List.cons_append, List.nil_append, List.getElem?_cons_zero, List.getElem?_cons_succ, List.set_cons_zero, List.set_cons_succ, S.rd, S.rdD, S.store, OS.opt, Option.bind_some, Option.map_some, Cell.view, S.cell, S.isLst, S.isDct, S.rdDct, dgetV, dixV, augV, S.put, S.rdLst, cmpV, opCmp, opEq_str, opEq_int, opEq_bl, opEq_non, opEq_lst, opEq_tup, pures_app, eqv_int, eqv_bl, eqv_lst, eqv_tup, eqvs_nil, eqvs_ints, eqvs_cons, eqv_str, opIn_ints, unders_ints, set_app0, set_app1, binV, opBin, ixV, opIx, biV, biSem, biLen, biInt, biAbs, biMax2, biMin2, biSum, biAll, biAny, biList, biTuple, List.mapM_cons, List.mapM_nil, bind, pure, Option.bind, truV, D.tru, isiV, D.kind, Ty.sub, List.any_cons, List.any_nil, decide_true, decide_false, Int.cast_ofNat_Int, beq_self_eq_true, Bool.false_and, Bool.true_or, Bool.false_or, Bool.or_false, Bool.and_true, Bool.true_and, Bool.and_self, if_true, if_false, Bool.false_eq_true, reduceCtorEq, Bool.not_true, Bool.not_false, finish, D.pure, D.pures, Cell.pure, List.take_length, and_self, not_true_eq_false, not_false_eq_true, plain_int', plain_lst, plain_tup, plain_non, plain_bl, D.plainsN, pures_ints, plain_ints, List.length_map, List.length_append, at1, at2, at3, at4, at5, muV, muSem, muApp, setIx, S.fz, perm, List.getD_cons_zero, List.getD_cons_succ, $as,*])
/-! ### k67: the members told otherwise, sorted; numbers and ways to come -/
def wthC (c : List Mem) (i : Nat) (m : Mem) : List Mem := sortM (othC c i ++ [m])
theorem wth_PB (c : List Mem) (i : Nat) (m : Mem) : PB (wthC c i m) ↔ PB (toldC c i m) := PB_perm ((sortM_perm _).trans (told_perm c i m).symm)
theorem wth_club {c : List Mem} (h : Club c) {i : Nat} (hi : i < c.length) {m : Mem} (hm : m.ok) : Club (wthC c i m) := by
  have hl := oth_len hi
  have hp := sortM_perm (othC c i ++ [m])
  have hlen := hp.length_eq
  rw [List.length_append, List.length_singleton] at hlen
  have hf := h.few
  refine ⟨fun e => ?_, ?_, fun x hx => ?_, sortM_asc _⟩
  · have : (wthC c i m).length = (othC c i).length + 1 := hlen
    rw [e] at this
    cases this
  · show (sortM (othC c i ++ [m])).length ≤ 60
    omega
  · rcases List.mem_append.mp (hp.mem_iff.mp hx) with q | q
    · exact h.ok x (oth_mem q)
    · rw [List.mem_singleton.mp q]; exact hm
section
variable {st : List Cell} {c : List Mem}
theorem conflict_of_okG (h : Club c) : f_conflict_of [clubD c] st = .ok (.d (conflictD c)) st := by
  have e1 := need_club_ok (st := st) h
  have e2 := conflict_in_ok (st := st) h.few
  unfold clubD at e1 e2
  rcases conf_cases c with ⟨_, he⟩ | ⟨_, a, t, he⟩
  all_goals
    rw [he] at e2 ⊢
    unfold f_conflict_of
    simp_arith [b_conflict_of, clubD, e1, e2]
theorem with_ok (hl : c.length ≤ 60) {i : Nat} (hi : i < c.length) (m : Mem) : f__law_with [clubD c, .int i, m.D] st = .ok (.new (.lst ((wthC c i m).map Mem.D))) st := by
  obtain ⟨c1, c2⟩ := oth_D hi
  have ho := oth_len hi
  have b1 : (c.take i).length + (c.drop (i + 1)).length ≤ big := big_le (by rw [← List.length_append]; show (othC c i).length ≤ _; omega)
  have b2 : (c.take i).length + (c.drop (i + 1)).length + 1 ≤ big := big_le (by rw [← List.length_append]; show (othC c i).length + 1 ≤ _; omega)
  have hs := sort_mems (l := othC c i ++ [m]) (by simp)
  have pm := pure_mems (wthC c i m)
  have ed : (c.take i).map Mem.D ++ ((c.drop (i + 1)).map Mem.D ++ [m.D]) = (othC c i ++ [m]).map Mem.D := by
    unfold othC
    rw [List.map_append, List.map_append, List.append_assoc]
    rfl
  have hs : biSorted [.lst ((othC c i ++ [m]).map Mem.D)] = some (.new (.lst ((wthC c i m).map Mem.D))) := hs
  generalize wthC c i m = C at *
  generalize m.D = d at *
  unfold f__law_with
  simp_arith [b__law_with, clubD, opSl, c1, c2, b1, b2, ed, hs, pm]
end

end G4

namespace G4
open PySem PySem.Spec PyProof.Rows L2
local macro_rules
  | `(tactic| simp_arith [$as,*]) => `(tactic| simp -implicitDefEqProofs only [tl_table_of_1, tl_table_of_2, tl_table_of_3, tl_one_number_1, tl_one_number_2, tl_moves_of_1, tl_moves_of_2, tl_two_numbers_1, tl_two_numbers_2, tl_two_numbers_3, tl_one_came_1, tl_one_came_2, tl_one_day_1, tl_one_day_2, tl_one_day_3, tl_one_day_4, tl__law_stirred_1, tl__law_stirred_2, tl__law_draw_1, tl__law_draw_2, tl__law_story_1, tl__law_story_2, tl__law_number_right_1, tl__law_number_right_2, tl__law_number_right_3, tl__law_number_right_4, tl__law_number_right_5, tl__law_came_right_1, tl__law_came_right_2, tl__law_came_right_3, tl__law_came_right_4, tl__law_day_right_1, tl__law_day_right_2, tl__law_day_right_3, tl__law_day_right_4, tl__law_day_right_5, tl__law_day_right_6, tl__law_moved_right_1, tl__law_moved_right_2, tl__law_moved_right_3, tl__law_moved_right_4, tl__law_moved_right_5, tl__law_moved_right_6, tl__law_moved_right_7, ↓bnd_eq, ↓off_eq, ↓thn_eq, run_eq, fin_nx, fin_rt, fin_ex, S.hide, hideSl, exms, exm, ev, evT, evs, evOs, evo, evc, evSrc, evPar, hb_ok, hb_ex, ho_ok, ho_ex, ht_nx, ht_rt, ht_ex, tb_nx, tb_rt, tb_ex, hd_setB, hd_setT, hd_retT, D.flat, opd_d, opd_pl, opd_lst, opd_ex, val_d, val_lst, List.append_assoc, List.length_set, gc_push, gc_id, take_push, take_id, get_app0, get_app1, get_app2, isNew0, isNew1, isNew_int, isNew_str, isNew_bl, isNew_non, isNew_tup, isNew_lst, keep_un, keep_int, keep_bl, keep_non, keep_str, keep_scr, keep_obj, keep_own_lst, keep_own_dK, pureK_nil, keep_lst, keep_tup, D.unders, ne_succ, ne_succ1, eq_self, nodup2, nodup3, List.filterMap_cons, List.filterMap_nil, putPar, D.under, List.nodup_cons, List.mem_cons, List.not_mem_nil, or_self, or_false, Nat.reduceEqDiff, List.nodup_nil, true_and, and_true, bits10, Int.reduceMul, Int.reduceLE, Int.reduceLT, Int.reducePow, Int.reduceAdd, Int.reduceSub, Int.reduceNeg, Int.reduceToNat, val_dK, putTs_nil, putTs_nm, putTs_sub, val_ex, val_pl, valPl_lst, valPl_d, opt_some, toO_ok, toO_ex, asBl_ok, List.map_cons, List.map_nil, List.length_cons, List.length_nil, Nat.reduceAdd, Nat.reduceSub, Nat.zero_add, List.replicate, List.cons_append, List.nil_append, List.getElem?_cons_zero, List.getElem?_cons_succ, List.set_cons_zero, List.set_cons_succ, S.rd, S.rdD, S.store, OS.opt, Option.bind_some, Option.map_some, Cell.view, S.cell, S.isLst, S.isDct, S.rdDct, dgetV, dixV, augV, S.put, S.rdLst, cmpV, opCmp, opEq_str, opEq_int, opEq_bl, opEq_non, opEq_lst, opEq_tup, pures_app, eqv_int, eqv_bl, eqv_lst, eqv_tup, eqvs_nil, eqvs_ints, eqvs_cons, eqv_str, opIn_ints, unders_ints, set_app0, set_app1, binV, opBin, ixV, opIx, biV, biSem, biLen, biInt, biAbs, biMax2, biMin2, biSum, biAll, biAny, biList, biTuple, List.mapM_cons, List.mapM_nil, bind, pure, Option.bind, truV, D.tru, isiV, D.kind, Ty.sub, List.any_cons, List.any_nil, decide_true, decide_false, Int.cast_ofNat_Int, beq_self_eq_true, Bool.false_and, Bool.true_or, Bool.false_or, Bool.or_false, Bool.and_true, Bool.true_and, Bool.and_self, if_true, if_false, Bool.false_eq_true, reduceCtorEq, Bool.not_true, Bool.not_false, finish, D.pure, D.pures, Cell.pure, List.take_length, and_self, not_true_eq_false, not_false_eq_true, plain_int', plain_lst, plain_tup, plain_non, plain_bl, D.plainsN, pures_ints, plain_ints, List.length_map, List.length_append, at1, at2, at3, at4, at5, muV, muSem, muApp, setIx, S.fz, perm, List.getD_cons_zero, List.getD_cons_succ, $as,*])
/-! ### k67: one number told otherwise -/
theorem opIn_memS {x : D} {l : List D} (hx : D.plainN 60 x = true) (hl : D.plainsN 60 l = true) (h : x ∈ l) : opIn x (.lst l) = some true := by
  have e : D.eqv x x = true := by
    have := eqvs_refl 60 [x] (by simp only [D.plainsN, hx, Bool.and_self])
    simpa [D.eqvs] using this
  have h2 : (x.plain && D.plains l) = true := by rw [show x.plain = true from hx, show D.plains l = true from hl]; rfl
  have h1 : opIn x (.lst l) = if x.plain && D.plains l then some (D.mem x l) else none := by cases x <;> rfl
  rw [h1, if_pos h2]
  congr 1
  exact List.any_eq_true.mpr ⟨x, h, e⟩
theorem set_oth (c : List Mem) (i : Nat) (m : Mem) : othC (c.set i m) i = othC c i := by
  unfold othC
  rw [List.take_set_of_le (Nat.le_refl _), List.drop_set_of_lt (by omega)]
theorem set_at {c : List Mem} {i : Nat} (hi : i < c.length) (m : Mem) : mAt (c.set i m) i = m := by
  unfold mAt
  rw [List.getD_eq_getElem?_getD, List.getElem?_set_self hi]; rfl
theorem set_other {c : List Mem} {i k : Nat} (h : k ≠ i) (m : Mem) : mAt (c.set i m) k = mAt c k := by
  unfold mAt
  rw [List.getD_eq_getElem?_getD, List.getElem?_set_ne (Ne.symm h), ← List.getD_eq_getElem?_getD]
theorem set_split {c : List Mem} {i : Nat} (hi : i < c.length) (m : Mem) : c.take i ++ ([m] ++ c.drop (i + 1)) = c.set i m := by
  rw [List.set_eq_take_append_cons_drop, if_pos hi]; rfl
theorem set_perm {c : List Mem} {i : Nat} (hi : i < c.length) (m : Mem) : (c.set i m).Perm (othC c i ++ [m]) := by
  have h := oth_perm (c := c.set i m) (i := i) (by rw [List.length_set]; exact hi)
  rw [set_oth, set_at hi] at h
  exact h.symm
theorem left_app (o : List Mem) (m : Mem) : leftN (o ++ [m]) = leftN o + m.n - (if m.w then 1 else 0) := by
  unfold leftN
  rw [List.map_append, List.sum_append, List.filter_append, List.length_append, List.map_cons, List.map_nil, List.sum_cons, List.sum_nil, List.filter_cons]
  cases m.w
  · simp; omega
  · simp; omega
theorem left_set {c : List Mem} {i : Nat} (hi : i < c.length) (m : Mem) (hw : m.w = (mAt c i).w) : leftN (c.set i m) = leftN c + m.n - (mAt c i).n := by
  rw [left_perm (set_perm hi m), ← left_perm (oth_perm hi), left_app, left_app, hw]
  omega
theorem set_asc {c : List Mem} (h : Asc c) {i : Nat} (hi : i < c.length) {m : Mem} (hd : m.d = (mAt c i).d) : Asc (c.set i m) := by
  have e : (c.set i m).map (·.d) = c.map (·.d) := by
    rw [List.map_set]
    apply List.ext_getElem?
    intro j
    by_cases hj : j = i
    · subst hj
      rw [List.getElem?_set_self (by rw [List.length_map]; exact hi), List.getElem?_map, mAt_gS hi, hd]; rfl
    · rw [List.getElem?_set_ne (Ne.symm hj)]
  have h1 : (c.map (·.d)).Pairwise (· ≤ ·) := List.pairwise_map.mpr h
  rw [← e] at h1
  exact List.pairwise_map.mp h1
theorem set_club {c : List Mem} (h : Club c) {i : Nat} (hi : i < c.length) {m : Mem} (hd : m.d = (mAt c i).d) (hm : m.ok) : Club (c.set i m) := by
  refine ⟨fun e => ?_, by rw [List.length_set]; exact h.few, fun x hx => ?_, set_asc h.asc hi hd⟩
  · have := congrArg List.length e
    rw [List.length_set] at this
    simp at this
    rw [this] at hi
    cases hi
  · rcases List.mem_or_eq_of_mem_set hx with q | q
    · exact h.ok x q
    · rw [q]; exact hm
theorem at_ok {c : List Mem} (h : Club c) {i : Nat} (hi : i < c.length) : (mAt c i).ok := h.ok _ (List.mem_of_getElem? (mAt_gS hi))
theorem three_at (r : Int) (h0 : 0 ≤ r) (h1 : r < 3) : ∃ e, atI [D.int 1, .int 2, .int 100000000000000000000000000000] r = some (.int e) ∧ 1 ≤ e ∧ e ≤ 10 ^ 29 := by
  have : r = 0 ∨ r = 1 ∨ r = 2 := by omega
  rcases this with rfl | rfl | rfl
  · exact ⟨1, rfl, by omega, by omega⟩
  · exact ⟨2, rfl, by omega, by omega⟩
  · exact ⟨_, rfl, by omega, by omega⟩
theorem plain_num (n : Nat) (c : List Mem) (L : List Nat) : D.plainsN (n + 1) (L.map (numD c)) = true := (plainsN_iff _ _).mpr fun d hd => by
  obtain ⟨i, _, rfl⟩ := List.mem_map.mp hd
  show D.plainsN n [.int i, .int (numI c i)] = true
  simp only [D.plainsN, plain_int', Bool.and_self]
theorem asg_numS (x y : Nat) (a b : D) (s : S) : T.asg (.tp [.nm x, .nm y]) (.tup [a, b]) s = some ⟨(s.sl.set x (.d a)).set y (.d b), s.st⟩ := by
  simp only [asg_tp, asgs_nil, asgs_cons, asg_nm, List.length_cons, List.length_nil, if_true, Option.bind_some]
theorem asg_t3S (x y z : Nat) (a b d : D) (s : S) : T.asg (.tp [.nm x, .nm y, .nm z]) (.tup [a, b, d]) s = some ⟨((s.sl.set x (.d a)).set y (.d b)).set z (.d d), s.st⟩ := by
  simp only [asg_tp, asgs_nil, asgs_cons, asg_nm, List.length_cons, List.length_nil, if_true, Option.bind_some]
/-- the number of the story is told -/
theorem okN_spot {c : List Mem} (h : Club c) (hP : PB c) {i : Nat} (hi : i < c.length) {m : Mem} (hd : m.d = (mAt c i).d) (hw : m.w = (mAt c i).w) : numI (c.set i m) i = (mAt c i).n ∧ okN (c.set i m) i = true := by
  have hz : numI (c.set i m) i = (mAt c i).n := by
    unfold numI
    rw [set_at hi, left_set hi m hw, hP.2]
    omega
  refine ⟨hz, ?_⟩
  have hok := at_ok h hi
  unfold okN
  rw [hz, decide_eq_true hok.2, set_at hi, hd, hw, Bool.true_and]
  refine decide_eq_true ?_
  refine (PB_perm (told_perm _ _ _)).mpr ?_
  rw [set_oth]
  exact (PB_perm (oth_perm hi)).mpr hP
theorem okN_all {c : List Mem} (h : Club c) (hP : PB c) {i : Nat} (hi : i < c.length) : numI c i = (mAt c i).n ∧ okN c i = true := by
  have hz : numI c i = (mAt c i).n := by
    unfold numI
    rw [hP.2]; omega
  refine ⟨hz, ?_⟩
  unfold okN
  rw [hz, decide_eq_true (at_ok h hi).2, Bool.true_and]
  exact decide_eq_true ((told_same hi).mpr hP)
section
variable {st : List Cell} {c : List Mem}
theorem number_right_ok (h : Club c) (hP : PB c) (hn : ∀ m ∈ c, m.n ≤ 60) {p n : Nat} {x : Cell} (hp : p < st.length) (hx : Bg x (n + 2)) :
    ∃ y, f__law_number_right [.obj p, clubD c] (st.set p x) = .ok (.d (.bl true)) (st.set p y) ∧ Bg y n := by
  have hl := h.few
  have h0 : 0 < c.length := List.length_pos_iff.mpr h.some
  obtain ⟨r1, y1, e1, a1, b1, q1⟩ := draw_ok (st := st) hp (n := n + 1) hx (wide := (c.length : Nat)) (by omega) (Int.lt_of_le_of_lt (show ((c.length : Nat) : Int) ≤ 60 by omega) (by decide))
  obtain ⟨r2, y2, e2, a2, b2, q2⟩ := draw_ok (st := st) hp (n := n) q1 (wide := 3) (by decide) (by decide)
  obtain ⟨i, hi⟩ : ∃ i : Nat, r1 = i := ⟨r1.toNat, by omega⟩
  subst hi
  have hi : i < c.length := by omega
  obtain ⟨e, he, ee1, ee2⟩ := three_at r2 a2 b2
  refine ⟨y2, ?_, q2⟩
  obtain ⟨c1, c2⟩ := oth_D hi
  have ho := oth_len hi
  have hiok := at_ok h hi
  have hin := hn _ (List.mem_of_getElem? (mAt_gS hi))
  have hMok : (⟨(mAt c i).d, (mAt c i).w, (mAt c i).n + e⟩ : Mem).ok := ⟨hiok.1, by have := hiok.2.1; show 0 ≤ _ + e; omega, by show _ + e ≤ 10 ^ 30; omega⟩
  have hWc := set_club h hi (m := ⟨(mAt c i).d, (mAt c i).w, (mAt c i).n + e⟩) rfl hMok
  obtain ⟨s1, s2⟩ := okN_spot h hP hi (m := ⟨(mAt c i).d, (mAt c i).w, (mAt c i).n + e⟩) rfl rfl
  have eW : (c.take i).map Mem.D ++ (D.tup [.int (mAt c i).d, .str (wd (mAt c i).w), .int ((mAt c i).n + e)] :: (c.drop (i + 1)).map Mem.D) = (c.set i ⟨(mAt c i).d, (mAt c i).w, (mAt c i).n + e⟩).map Mem.D := by
    rw [← set_split hi, List.map_append, List.map_append]; rfl
  have hlW : (c.set i ⟨(mAt c i).d, (mAt c i).w, (mAt c i).n + e⟩).length = c.length := List.length_set
  generalize c.set i ⟨(mAt c i).d, (mAt c i).w, (mAt c i).n + e⟩ = W at *
  have f1 := one_number_ok (st := st.set p y2) hWc
  have f2 := one_number_ok (st := st.set p y2) h
  have hr1 : (List.range c.length).filter (okN c) = List.range c.length := List.filter_eq_self.mpr fun k hk => (okN_all h hP (List.mem_range.mp hk)).2
  rw [hr1] at f2
  have hlW60 : W.length ≤ 60 := by omega
  have hmem : D.tup [.int i, .int (mAt c i).n] ∈ ((List.range W.length).filter (okN W)).map (numD W) := by
    refine List.mem_map.mpr ⟨i, List.mem_filter.mpr ⟨List.mem_range.mpr (by omega), s2⟩, ?_⟩
    unfold numD
    rw [s1]
  have hin1 := opIn_memS (x := .tup [.int i, .int (mAt c i).n]) (by show D.plainsN 59 [.int i, .int (mAt c i).n] = true; simp only [D.plainsN, plain_int', Bool.and_self]) (plain_num 59 W _) hmem
  obtain ⟨s', l1, v8, v9, rfl, hv8⟩ := for_lst (t := .tp [.nm 8, .nm 9]) (body := fun s => exms fb__law_number_right_1 s) (n := (st.set p y2).length) ((List.range W.length).filter (okN W)) (numD W)
    (fun j s => ∃ v8 v9, s = ⟨[.d (.obj p), .d (clubD c), .d (.int i), .d (.int (mAt c i).d), .d (.str (wd (mAt c i).w)), .d (.int (mAt c i).n), .d (clubD W), .d (.lst (((List.range W.length).filter (okN W)).map (numD W))), v8, v9], st.set p y2⟩ ∧ v8.isOwn = false)
    ⟨[.d (.obj p), .d (clubD c), .d (.int i), .d (.int (mAt c i).d), .d (.str (wd (mAt c i).w)), .d (.int (mAt c i).n), .d (clubD W), .d (.lst (((List.range W.length).filter (okN W)).map (numD W))), .un, .un], st.set p y2⟩ ⟨_, _, rfl, rfl⟩ fun j k s hk hI => by
      obtain ⟨v8, v9, rfl, _⟩ := hI
      obtain ⟨hk1, hk2⟩ := List.mem_filter.mp (List.mem_of_getElem? hk)
      have hk1 := List.mem_range.mp hk1
      unfold okN at hk2
      rw [Bool.and_eq_true, decide_eq_true_eq, decide_eq_true_eq] at hk2
      have g1 := with_ok (st := st.set p y2) hlW60 hk1 ⟨(mAt W k).d, (mAt W k).w, numI W k⟩
      have g2 := conflict_of_okG (st := st.set p y2) (wth_club hWc hk1 (m := ⟨(mAt W k).d, (mAt W k).w, numI W k⟩) ⟨(at_ok hWc hk1).1, hk2.1⟩)
      have g3 : conflictD (wthC W k ⟨(mAt W k).d, (mAt W k).w, numI W k⟩) = .non := by
        rcases conf_cases (wthC W k ⟨(mAt W k).d, (mAt W k).w, numI W k⟩) with ⟨_, q⟩ | ⟨q, _⟩
        · exact q
        · exact absurd ((wth_PB _ _ _).mpr hk2.2) q
      rw [g3] at g2
      have g4 : atI (W.map Mem.D) (k : Int) = some (mAt W k).D := atI_nat (mAt_get hk1)
      refine ⟨_, ⟨[.d (.obj p), .d (clubD c), .d (.int i), .d (.int (mAt c i).d), .d (.str (wd (mAt c i).w)), .d (.int (mAt c i).n), .d (clubD W), .d (.lst (((List.range W.length).filter (okN W)).map (numD W))), .d (.int k), .d (.int (numI W k))], st.set p y2⟩, asg_numS 8 9 _ _ _, .inl ?_, _, _, gc_id rfl, rfl⟩
      unfold clubD at g1 g2
      simp only [Mem.D] at g1 g4
      generalize wthC W k ⟨(mAt W k).d, (mAt W k).w, numI W k⟩ = C at *
      unfold fb__law_number_right_1 clubD
      simp_arith [g4, g1, g2, opIs, D.isNon]
  have lc : ev lc__law_number_right_1 ⟨[.d (.obj p), .d (clubD c), .d (.int i), .d (.int (mAt c i).d), .d (.str (wd (mAt c i).w)), .d (.int (mAt c i).n), .d (clubD W), .d (.lst (((List.range W.length).filter (okN W)).map (numD W))), v8, v9], st.set p y2⟩ = .ok (.new (.lst ((List.range c.length).map (numD c)))) ⟨[.d (.obj p), .d (clubD c), .d (.int i), .d (.int (mAt c i).d), .d (.str (wd (mAt c i).w)), .d (.int (mAt c i).n), .d (clubD W), .d (.lst (((List.range W.length).filter (okN W)).map (numD W))), v8, v9], st.set p y2⟩ := by
    have em : (List.range c.length).map (numD c) = (List.range c.length).map fun k : Nat => D.tup [.int k, .int (mAt c k).n] := List.map_congr_left fun k hk => by
      unfold numD
      rw [(okN_all h hP (List.mem_range.mp hk)).1]
    rw [em]
    refine lc_map (List.range c.length) (fun k : Nat => D.int k) (fun k : Nat => D.tup [.int k, .int (mAt c k).n]) ?_ (big_le (by rw [List.length_range]; omega)) (by show (!v8.isOwn && true) = true; rw [hv8]; rfl) fun k hk => ⟨_, rfl, rfl, ?_⟩
    · have hr := rng1_nat (show c.length ≤ 1000000 by omega)
      simp_arith [hideSl, clubD, hr]
    · have g4 : atI (c.map Mem.D) (k : Int) = some (mAt c k).D := atI_nat (mAt_get (List.mem_range.mp hk))
      simp only [Mem.D] at g4
      unfold clubD
      simp_arith [hideSl, g4]
  have g5 : atI (c.map Mem.D) (i : Int) = some (mAt c i).D := atI_nat (mAt_get hi)
  simp only [Mem.D] at g5
  have pl := plain_num 58 c (List.range c.length)
  have ql := eqvs_refl 59 _ pl
  have pW := pure_mems W
  have uW := unders_mems st.length W
  have b3 : (c.take i).length + 1 + (c.drop (i + 1)).length ≤ big := big_le (by have : (othC c i).length = (c.take i).length + (c.drop (i + 1)).length := List.length_append; omega)
  have b4 : (c.take i).length + 1 ≤ big := big_le (by have := List.length_take_le i c; omega)
  have pn2 : D.unders st.length (((List.range W.length).filter (okN W)).map (numD W)) = true := (unders_iff _ _).mpr fun d hd => by
    obtain ⟨k, _, rfl⟩ := List.mem_map.mp hd
    rfl
  rw [List.length_set] at l1
  unfold clubD at f1 f2 l1 lc
  generalize (((List.range W.length).filter (okN W)).map (numD W)) = LW at *
  unfold f__law_number_right
  simp_arith [b__law_number_right, clubD, e1, g5, asg_t3S, opSl, c1, c2, b3, b4, he, e2, eW, f1, hin1, uW, pn2]
  rw [l1]
  simp_arith [f2, lc, pl, ql]
end

end G4

namespace G4
open PySem PySem.Spec PyProof.Rows L2
local macro_rules
  | `(tactic| simp_arith [$as,*]) => `(tactic| simp -implicitDefEqProofs only [tl_table_of_1, tl_table_of_2, tl_table_of_3, tl_one_number_1, tl_one_number_2, tl_moves_of_1, tl_moves_of_2, tl_two_numbers_1, tl_two_numbers_2, tl_two_numbers_3, tl_one_came_1, tl_one_came_2, tl_one_day_1, tl_one_day_2, tl_one_day_3, tl_one_day_4, tl__law_stirred_1, tl__law_stirred_2, tl__law_draw_1, tl__law_draw_2, tl__law_story_1, tl__law_story_2, tl__law_number_right_1, tl__law_number_right_2, tl__law_number_right_3, tl__law_number_right_4, tl__law_number_right_5, tl__law_came_right_1, tl__law_came_right_2, tl__law_came_right_3, tl__law_came_right_4, tl__law_day_right_1, tl__law_day_right_2, tl__law_day_right_3, tl__law_day_right_4, tl__law_day_right_5, tl__law_day_right_6, tl__law_moved_right_1, tl__law_moved_right_2, tl__law_moved_right_3, tl__law_moved_right_4, tl__law_moved_right_5, tl__law_moved_right_6, tl__law_moved_right_7, ↓bnd_eq, ↓off_eq, ↓thn_eq, run_eq, fin_nx, fin_rt, fin_ex, S.hide, hideSl, exms, exm, ev, evT, evs, evOs, evo, evc, evSrc, evPar, hb_ok, hb_ex, ho_ok, ho_ex, ht_nx, ht_rt, ht_ex, tb_nx, tb_rt, tb_ex, hd_setB, hd_setT, hd_retT, D.flat, opd_d, opd_pl, opd_lst, opd_ex, val_d, val_lst, List.append_assoc, List.length_set, gc_push, gc_id, take_push, take_id, get_app0, get_app1, get_app2, isNew0, isNew1, isNew_int, isNew_str, isNew_bl, isNew_non, isNew_tup, isNew_lst, keep_un, keep_int, keep_bl, keep_non, keep_str, keep_scr, keep_obj, keep_own_lst, keep_own_dK, pureK_nil, keep_lst, keep_tup, D.unders, ne_succ, ne_succ1, eq_self, nodup2, nodup3, List.filterMap_cons, List.filterMap_nil, putPar, D.under, List.nodup_cons, List.mem_cons, List.not_mem_nil, or_self, or_false, Nat.reduceEqDiff, List.nodup_nil, true_and, and_true, bits10, Int.reduceMul, Int.reduceLE, Int.reduceLT, Int.reducePow, Int.reduceAdd, Int.reduceSub, Int.reduceNeg, Int.reduceToNat, val_dK, putTs_nil, putTs_nm, putTs_sub, val_ex, val_pl, valPl_lst, valPl_d, opt_some, toO_ok, toO_ex, asBl_ok, List.map_cons, List.map_nil, List.length_cons, List.length_nil, Nat.reduceAdd, Nat.reduceSub, Nat.zero_add, List.replicate, List.cons_append, List.nil_append, List.getElem?_cons_zero, List.getElem?_cons_succ, List.set_cons_zero, List.set_cons_succ, S.rd, S.rdD, S.store, OS.opt, Option.bind_some, Option.map_some, Cell.view, S.cell, S.isLst, S.isDct, S.rdDct, dgetV, dixV, augV, S.put, S.rdLst, cmpV, opCmp, opEq_str, opEq_int, opEq_bl, opEq_non, opEq_lst, opEq_tup, pures_app, eqv_int, eqv_bl, eqv_lst, eqv_tup, eqvs_nil, eqvs_ints, eqvs_cons, eqv_str, opIn_ints, unders_ints, set_app0, set_app1, binV, opBin, ixV, opIx, biV, biSem, biLen, biInt, biAbs, biMax2, biMin2, biSum, biAll, biAny, biList, biTuple, List.mapM_cons, List.mapM_nil, bind, pure, Option.bind, truV, D.tru, isiV, D.kind, Ty.sub, List.any_cons, List.any_nil, decide_true, decide_false, Int.cast_ofNat_Int, beq_self_eq_true, Bool.false_and, Bool.true_or, Bool.false_or, Bool.or_false, Bool.and_true, Bool.true_and, Bool.and_self, if_true, if_false, Bool.false_eq_true, reduceCtorEq, Bool.not_true, Bool.not_false, finish, D.pure, D.pures, Cell.pure, List.take_length, and_self, not_true_eq_false, not_false_eq_true, plain_int', plain_lst, plain_tup, plain_non, plain_bl, D.plainsN, pures_ints, plain_ints, List.length_map, List.length_append, at1, at2, at3, at4, at5, muV, muSem, muApp, setIx, S.fz, perm, List.getD_cons_zero, List.getD_cons_succ, $as,*])
/-! ### k67: one who came otherwise -/
theorem flip_left {c : List Mem} (hP : PB c) {k : Nat} (hk : k < c.length) : okCm c k = false := by
  unfold okCm
  refine decide_eq_false fun q => ?_
  have h1 := q.2
  rw [left_perm (told_perm _ _ _), left_app] at h1
  have h2 := hP.2
  rw [← left_perm (oth_perm hk), left_app] at h2
  cases hw : (mAt c k).w <;> simp [hw] at h1 h2 <;> omega
theorem flip_spot {c : List Mem} (hP : PB c) {i : Nat} (hi : i < c.length) : okCm (c.set i ⟨(mAt c i).d, !(mAt c i).w, (mAt c i).n⟩) i = true := by
  unfold okCm
  refine decide_eq_true ?_
  rw [set_at hi]
  refine (PB_perm (told_perm _ _ _)).mpr ?_
  rw [set_oth, Bool.not_not]
  exact (PB_perm (oth_perm hi)).mpr hP
theorem flip_at (w : Bool) : atI [D.str "brought", .str "alone"] (b2i w) = some (.str (wd (!w))) := by cases w <;> rfl
section
variable {st : List Cell} {c : List Mem}
theorem came_right_ok (h : Club c) (hP : PB c) {p n : Nat} {x : Cell} (hp : p < st.length) (hx : Bg x (n + 1)) :
    ∃ y, f__law_came_right [.obj p, clubD c] (st.set p x) = .ok (.d (.bl true)) (st.set p y) ∧ Bg y n := by
  have hl := h.few
  have h0 : 0 < c.length := List.length_pos_iff.mpr h.some
  obtain ⟨r1, y1, e1, a1, b1, q1⟩ := draw_ok (st := st) hp (n := n) hx (wide := (c.length : Nat)) (by omega) (Int.lt_of_le_of_lt (show ((c.length : Nat) : Int) ≤ 60 by omega) (by decide))
  obtain ⟨i, hi⟩ : ∃ i : Nat, r1 = i := ⟨r1.toNat, by omega⟩
  subst hi
  have hi : i < c.length := by omega
  refine ⟨y1, ?_, q1⟩
  obtain ⟨c1, c2⟩ := oth_D hi
  have ho := oth_len hi
  have hiok := at_ok h hi
  have hWc := set_club h hi (m := ⟨(mAt c i).d, !(mAt c i).w, (mAt c i).n⟩) rfl hiok
  have s2 := flip_spot hP hi
  have eW : (c.take i).map Mem.D ++ (D.tup [.int (mAt c i).d, .str (wd (!(mAt c i).w)), .int (mAt c i).n] :: (c.drop (i + 1)).map Mem.D) = (c.set i ⟨(mAt c i).d, !(mAt c i).w, (mAt c i).n⟩).map Mem.D := by
    rw [← set_split hi, List.map_append, List.map_append]; rfl
  have hlW : (c.set i ⟨(mAt c i).d, !(mAt c i).w, (mAt c i).n⟩).length = c.length := List.length_set
  generalize c.set i ⟨(mAt c i).d, !(mAt c i).w, (mAt c i).n⟩ = W at *
  have f1 := one_came_ok (st := st.set p y1) hWc
  have f2 := one_came_ok (st := st.set p y1) h
  have hr1 : (List.range c.length).filter (okCm c) = [] := List.filter_eq_nil_iff.mpr fun k hk => by rw [flip_left hP (List.mem_range.mp hk)]; exact Bool.false_ne_true
  rw [hr1] at f2
  have hlW60 : W.length ≤ 60 := by omega
  have hmem : D.int i ∈ ((List.range W.length).filter (okCm W)).map (fun k : Nat => D.int k) := List.mem_map.mpr ⟨i, List.mem_filter.mpr ⟨List.mem_range.mpr (by omega), s2⟩, rfl⟩
  have hpl : D.plainsN 60 (((List.range W.length).filter (okCm W)).map (fun k : Nat => D.int k)) = true := (plainsN_iff _ _).mpr fun d hd => by
    obtain ⟨k, _, rfl⟩ := List.mem_map.mp hd
    exact plain_int' 60 _
  have hin1 := opIn_memS (x := .int i) (plain_int' 60 _) hpl hmem
  obtain ⟨s', l1, v8, v9, rfl⟩ := for_lst (t := .nm 8) (body := fun s => exms fb__law_came_right_1 s) (n := (st.set p y1).length) ((List.range W.length).filter (okCm W)) (fun k : Nat => D.int k)
    (fun j s => ∃ v8 v9, s = ⟨[.d (.obj p), .d (clubD c), .d (.int i), .d (.int (mAt c i).d), .d (.str (wd (mAt c i).w)), .d (.int (mAt c i).n), .d (clubD W), .d (.lst (((List.range W.length).filter (okCm W)).map (fun k : Nat => D.int k))), v8, v9], st.set p y1⟩)
    ⟨[.d (.obj p), .d (clubD c), .d (.int i), .d (.int (mAt c i).d), .d (.str (wd (mAt c i).w)), .d (.int (mAt c i).n), .d (clubD W), .d (.lst (((List.range W.length).filter (okCm W)).map (fun k : Nat => D.int k))), .un, .un], st.set p y1⟩ ⟨_, _, rfl⟩ fun j k s hk hI => by
      obtain ⟨v8, v9, rfl⟩ := hI
      obtain ⟨hk1, hk2⟩ := List.mem_filter.mp (List.mem_of_getElem? hk)
      have hk1 := List.mem_range.mp hk1
      unfold okCm at hk2
      rw [decide_eq_true_eq] at hk2
      have g1 := with_ok (st := st.set p y1) hlW60 hk1 ⟨(mAt W k).d, !(mAt W k).w, (mAt W k).n⟩
      have g2 := conflict_of_okG (st := st.set p y1) (wth_club hWc hk1 (m := ⟨(mAt W k).d, !(mAt W k).w, (mAt W k).n⟩) (at_ok hWc hk1))
      have g3 : conflictD (wthC W k ⟨(mAt W k).d, !(mAt W k).w, (mAt W k).n⟩) = .non := by
        rcases conf_cases (wthC W k ⟨(mAt W k).d, !(mAt W k).w, (mAt W k).n⟩) with ⟨_, q⟩ | ⟨q, _⟩
        · exact q
        · exact absurd ((wth_PB _ _ _).mpr hk2) q
      rw [g3] at g2
      have g4 : atI (W.map Mem.D) (k : Int) = some (mAt W k).D := atI_nat (mAt_get hk1)
      have g6 := flip_at (mAt W k).w
      refine ⟨_, ⟨[.d (.obj p), .d (clubD c), .d (.int i), .d (.int (mAt c i).d), .d (.str (wd (mAt c i).w)), .d (.int (mAt c i).n), .d (clubD W), .d (.lst (((List.range W.length).filter (okCm W)).map (fun k : Nat => D.int k))), .d (.int k), .d (.str (wd (!(mAt W k).w)))], st.set p y1⟩, asg_nm _ _ _, .inl ?_, _, _, gc_id rfl⟩
      unfold clubD at g1 g2
      simp only [Mem.D] at g1 g4
      generalize wthC W k ⟨(mAt W k).d, !(mAt W k).w, (mAt W k).n⟩ = C at *
      unfold fb__law_came_right_1 clubD
      simp_arith [g4, wd_br, g6, g1, g2, opIs, D.isNon]
  have g5 : atI (c.map Mem.D) (i : Int) = some (mAt c i).D := atI_nat (mAt_get hi)
  simp only [Mem.D] at g5
  have g7 := flip_at (mAt c i).w
  have uW := unders_mems st.length W
  have b3 : (c.take i).length + 1 + (c.drop (i + 1)).length ≤ big := big_le (by have : (othC c i).length = (c.take i).length + (c.drop (i + 1)).length := List.length_append; omega)
  have b4 : (c.take i).length + 1 ≤ big := big_le (by have := List.length_take_le i c; omega)
  have pn2 : D.unders st.length (((List.range W.length).filter (okCm W)).map (fun k : Nat => D.int k)) = true := (unders_iff _ _).mpr fun d hd => by
    obtain ⟨k, _, rfl⟩ := List.mem_map.mp hd
    rfl
  rw [List.length_set] at l1
  unfold clubD at f1 f2 l1
  simp only [List.map_nil] at f2
  generalize (((List.range W.length).filter (okCm W)).map (fun k : Nat => D.int k)) = LW at *
  unfold f__law_came_right
  simp_arith [b__law_came_right, clubD, e1, g5, asg_t3S, opSl, c1, c2, b3, b4, wd_br, g7, eW, f1, uW, pn2]
  rw [l1]
  simp_arith [hin1, f2]
end

end G4

namespace G4
open PySem PySem.Spec PyProof.Rows L2
local macro_rules
  | `(tactic| simp_arith [$as,*]) => `(tactic| simp -implicitDefEqProofs only [tl_table_of_1, tl_table_of_2, tl_table_of_3, tl_one_number_1, tl_one_number_2, tl_moves_of_1, tl_moves_of_2, tl_two_numbers_1, tl_two_numbers_2, tl_two_numbers_3, tl_one_came_1, tl_one_came_2, tl_one_day_1, tl_one_day_2, tl_one_day_3, tl_one_day_4, tl__law_stirred_1, tl__law_stirred_2, tl__law_draw_1, tl__law_draw_2, tl__law_story_1, tl__law_story_2, tl__law_number_right_1, tl__law_number_right_2, tl__law_number_right_3, tl__law_number_right_4, tl__law_number_right_5, tl__law_came_right_1, tl__law_came_right_2, tl__law_came_right_3, tl__law_came_right_4, tl__law_day_right_1, tl__law_day_right_2, tl__law_day_right_3, tl__law_day_right_4, tl__law_day_right_5, tl__law_day_right_6, tl__law_moved_right_1, tl__law_moved_right_2, tl__law_moved_right_3, tl__law_moved_right_4, tl__law_moved_right_5, tl__law_moved_right_6, tl__law_moved_right_7, ↓bnd_eq, ↓off_eq, ↓thn_eq, run_eq, fin_nx, fin_rt, fin_ex, S.hide, hideSl, exms, exm, ev, evT, evs, evOs, evo, evc, evSrc, evPar, hb_ok, hb_ex, ho_ok, ho_ex, ht_nx, ht_rt, ht_ex, tb_nx, tb_rt, tb_ex, hd_setB, hd_setT, hd_retT, D.flat, opd_d, opd_pl, opd_lst, opd_ex, val_d, val_lst, List.append_assoc, List.length_set, gc_push, gc_id, take_push, take_id, get_app0, get_app1, get_app2, isNew0, isNew1, isNew_int, isNew_str, isNew_bl, isNew_non, isNew_tup, isNew_lst, keep_un, keep_int, keep_bl, keep_non, keep_str, keep_scr, keep_obj, keep_own_lst, keep_own_dK, pureK_nil, keep_lst, keep_tup, D.unders, ne_succ, ne_succ1, eq_self, nodup2, nodup3, List.filterMap_cons, List.filterMap_nil, putPar, D.under, List.nodup_cons, List.mem_cons, List.not_mem_nil, or_self, or_false, Nat.reduceEqDiff, List.nodup_nil, true_and, and_true, bits10, Int.reduceMul, Int.reduceLE, Int.reduceLT, Int.reducePow, Int.reduceAdd, Int.reduceSub, Int.reduceNeg, Int.reduceToNat, val_dK, putTs_nil, putTs_nm, putTs_sub, val_ex, val_pl, valPl_lst, valPl_d, opt_some, toO_ok, toO_ex, asBl_ok, List.map_cons, List.map_nil, List.length_cons, List.length_nil, Nat.reduceAdd, Nat.reduceSub, Nat.zero_add, List.replicate, List.cons_append, List.nil_append, List.getElem?_cons_zero, List.getElem?_cons_succ, List.set_cons_zero, List.set_cons_succ, S.rd, S.rdD, S.store, OS.opt, Option.bind_some, Option.map_some, Cell.view, S.cell, S.isLst, S.isDct, S.rdDct, dgetV, dixV, augV, S.put, S.rdLst, cmpV, opCmp, opEq_str, opEq_int, opEq_bl, opEq_non, opEq_lst, opEq_tup, pures_app, eqv_int, eqv_bl, eqv_lst, eqv_tup, eqvs_nil, eqvs_ints, eqvs_cons, eqv_str, opIn_ints, unders_ints, set_app0, set_app1, binV, opBin, ixV, opIx, biV, biSem, biLen, biInt, biAbs, biMax2, biMin2, biSum, biAll, biAny, biList, biTuple, List.mapM_cons, List.mapM_nil, bind, pure, Option.bind, truV, D.tru, isiV, D.kind, Ty.sub, List.any_cons, List.any_nil, decide_true, decide_false, Int.cast_ofNat_Int, beq_self_eq_true, Bool.false_and, Bool.true_or, Bool.false_or, Bool.or_false, Bool.and_true, Bool.true_and, Bool.and_self, if_true, if_false, Bool.false_eq_true, reduceCtorEq, Bool.not_true, Bool.not_false, finish, D.pure, D.pures, Cell.pure, List.take_length, and_self, not_true_eq_false, not_false_eq_true, plain_int', plain_lst, plain_tup, plain_non, plain_bl, D.plainsN, pures_ints, plain_ints, List.length_map, List.length_append, at1, at2, at3, at4, at5, muV, muSem, muApp, setIx, S.fz, perm, List.getD_cons_zero, List.getD_cons_succ, $as,*])
/-! ### slips: numbers moved; the plain part -/
theorem int_extS {l m : List Int} (h1 : l.Pairwise (· < ·)) (h2 : m.Pairwise (· < ·)) (h : ∀ x, x ∈ l ↔ x ∈ m) : l = m := by
  have n1 : l.Nodup := h1.imp fun hab => by omega
  have n2 : m.Nodup := h2.imp fun hab => by omega
  exact ((List.perm_ext_iff_of_nodup n1 n2).mpr h).eq_of_pairwise (fun a b _ _ h k => Int.le_antisymm h k) (h1.imp fun hab => by omega) (h2.imp fun hab => by omega)
def mvF (one other : Int) (S : Int → Int) : List Int → Int → Int → Option (Int × Int)
  | [], l, g => some (l, g)
  | t :: ts, l, g => if one < t ∧ t ≤ other then mvF one other S ts (if -(S t) > l then -(S t) else l) g
    else if other < t ∧ t ≤ one then mvF one other S ts l (if S t < g then S t else g)
    else if S t < 0 then none else mvF one other S ts l g
def movesR (c : List Mem) (r l : Nat) : Option (Int × Int) := (mvF (mAt c r).d (mAt c l).d (slackT c) (dayS c) 1 (mAt c l).n).bind fun p => if p.1 ≤ p.2 then some p else none
def mvD : Option (Int × Int) → D
  | none => .non
  | some p => .tup [.int p.1, .int p.2]
def rowL (c : List Mem) (r l : Nat) : List D := if r = l then [] else match movesR c r l with
  | none => []
  | some p => [.tup [.int r, .int l, .int p.1, .int p.2]]
def twoL (c : List Mem) : List D := (List.range c.length).flatMap fun r => (List.range c.length).flatMap fun l => rowL c r l
theorem slack_app (o : List Mem) (m : Mem) (t : Int) : slackT (o ++ [m]) t = slackT o t + (if m.d < t then m.n else 0) - (if m.d ≤ t ∧ m.w = true then 1 else 0) := by
  unfold slackT
  rw [List.filter_append, List.filter_append, List.map_append, List.sum_append, List.length_append, List.filter_cons, List.filter_cons]
  by_cases h1 : m.d < t
  · rw [if_pos (decide_eq_true h1), if_pos h1]
    cases hw : m.w
    · simp; omega
    · by_cases h2 : m.d ≤ t
      · simp [h2]; omega
      · omega
  · rw [if_neg (by rw [decide_eq_false h1]; exact Bool.false_ne_true), if_neg h1]
    cases hw : m.w
    · simp
    · by_cases h2 : m.d ≤ t
      · simp [h2]; omega
      · simp [h2]
theorem slack_set {c : List Mem} {i : Nat} (hi : i < c.length) {m : Mem} (hd : m.d = (mAt c i).d) (hw : m.w = (mAt c i).w) (t : Int) : slackT (c.set i m) t = slackT c t + (if (mAt c i).d < t then m.n - (mAt c i).n else 0) := by
  rw [slack_perm (set_perm hi m), ← slack_perm (oth_perm hi), slack_app, slack_app, hd, hw]
  split <;> omega
theorem day_set {c : List Mem} {i : Nat} (hi : i < c.length) {m : Mem} (hd : m.d = (mAt c i).d) : dayS (c.set i m) = dayS c := by
  refine int_extS (dayS_strict _) (dayS_strict _) fun x => ?_
  rw [mem_dayS, mem_dayS]
  constructor
  · rintro ⟨y, hy, rfl⟩
    rcases List.mem_or_eq_of_mem_set hy with q | q
    · exact ⟨y, q, rfl⟩
    · exact ⟨mAt c i, List.mem_of_getElem? (mAt_gS hi), by rw [q, hd]⟩
  · rintro ⟨y, hy, rfl⟩
    obtain ⟨k, hk, e⟩ := List.getElem_of_mem hy
    have ek : y = mAt c k := by
      have := mAt_gS hk
      rw [List.getElem?_eq_getElem hk, e] at this
      exact Option.some.inj this
    by_cases z : k = i
    · subst z
      exact ⟨m, List.mem_of_getElem? (by rw [List.getElem?_set_self hi]), by rw [hd, ek]⟩
    · exact ⟨y, List.mem_of_getElem? (i := k) (by rw [List.getElem?_set_ne (Ne.symm z), mAt_gS hk, ek]), rfl⟩
/-- between the ends -/
theorem mv_between {one other many : Int} {S : Int → Int} : ∀ (ts : List Int) (l g : Int), l ≤ many → many ≤ g → (∀ t ∈ ts, (one < t ∧ t ≤ other → -(S t) ≤ many) ∧ (other < t ∧ t ≤ one → many ≤ S t) ∧ (¬ (one < t ∧ t ≤ other) → ¬ (other < t ∧ t ≤ one) → 0 ≤ S t)) →
    ∃ x y, mvF one other S ts l g = some (x, y) ∧ x ≤ many ∧ many ≤ y
  | [], l, g, hl, hg, _ => ⟨l, g, rfl, hl, hg⟩
  | t :: ts, l, g, hl, hg, h => by
    obtain ⟨h1, h2, h3⟩ := h t List.mem_cons_self
    have ih := fun l g a b => mv_between (one := one) (other := other) (many := many) (S := S) ts l g a b fun x hx => h x (List.mem_cons_of_mem _ hx)
    rw [mvF]
    by_cases z1 : one < t ∧ t ≤ other
    · rw [if_pos z1]
      exact ih _ _ (by have := h1 z1; split <;> omega) hg
    · rw [if_neg z1]
      by_cases z2 : other < t ∧ t ≤ one
      · rw [if_pos z2]
        exact ih _ _ hl (by have := h2 z2; split <;> omega)
      · rw [if_neg z2, if_neg (by have := h3 z1 z2; omega)]
        exact ih _ _ hl hg
/-- the club with a number moved -/
def movedC (c : List Mem) (a b : Nat) (many : Int) : List Mem := (c.set a ⟨(mAt c a).d, (mAt c a).w, (mAt c a).n + many⟩).set b ⟨(mAt c b).d, (mAt c b).w, (mAt c b).n - many⟩
section
variable {c : List Mem} {a b : Nat} {many : Int}
theorem moved_len : (movedC c a b many).length = c.length := by unfold movedC; rw [List.length_set, List.length_set]
theorem moved_mid (hab : a ≠ b) : mAt (c.set a ⟨(mAt c a).d, (mAt c a).w, (mAt c a).n + many⟩) b = mAt c b := set_other (Ne.symm hab) _
theorem moved_at (ha : a < c.length) (hb : b < c.length) (hab : a ≠ b) : mAt (movedC c a b many) a = ⟨(mAt c a).d, (mAt c a).w, (mAt c a).n + many⟩ ∧ mAt (movedC c a b many) b = ⟨(mAt c b).d, (mAt c b).w, (mAt c b).n - many⟩ := by
  unfold movedC
  exact ⟨by rw [set_other hab, set_at ha], by rw [set_at (by rw [List.length_set]; exact hb)]⟩
theorem moved_left (ha : a < c.length) (hb : b < c.length) (hab : a ≠ b) : leftN (movedC c a b many) = leftN c := by
  unfold movedC
  rw [left_set (by rw [List.length_set]; exact hb) _ (by rw [moved_mid hab]), moved_mid hab, left_set ha ⟨(mAt c a).d, (mAt c a).w, (mAt c a).n + many⟩ rfl]
  show _ + ((mAt c a).n + many) - (mAt c a).n + ((mAt c b).n - many) - (mAt c b).n = _
  omega
theorem moved_slack (ha : a < c.length) (hb : b < c.length) (hab : a ≠ b) (t : Int) : slackT (movedC c a b many) t = slackT c t + (if (mAt c a).d < t then many else 0) - (if (mAt c b).d < t then many else 0) := by
  unfold movedC
  rw [slack_set (by rw [List.length_set]; exact hb) (by rw [moved_mid hab]) (by rw [moved_mid hab]), moved_mid hab, slack_set ha (m := ⟨(mAt c a).d, (mAt c a).w, (mAt c a).n + many⟩) rfl rfl]
  show slackT c t + (if (mAt c a).d < t then (mAt c a).n + many - (mAt c a).n else 0) + (if (mAt c b).d < t then (mAt c b).n - many - (mAt c b).n else 0) = _
  split <;> split <;> omega
theorem moved_days (ha : a < c.length) (hb : b < c.length) (hab : a ≠ b) : dayS (movedC c a b many) = dayS c := by
  unfold movedC
  rw [day_set (by rw [List.length_set]; exact hb) (by rw [moved_mid hab]), day_set ha (m := ⟨(mAt c a).d, (mAt c a).w, (mAt c a).n + many⟩) rfl]
theorem moved_club (h : Club c) (ha : a < c.length) (hb : b < c.length) (hab : a ≠ b) (m1 : 1 ≤ many) (m2 : many ≤ (mAt c b).n) (m3 : (mAt c a).n + many ≤ 10 ^ 30) : Club (movedC c a b many) := by
  unfold movedC
  have ka := at_ok h ha
  have kb := at_ok h hb
  refine set_club (set_club h ha (m := ⟨(mAt c a).d, (mAt c a).w, (mAt c a).n + many⟩) rfl ⟨ka.1, by have := ka.2.1; show 0 ≤ _ + many; omega, m3⟩) (by rw [List.length_set]; exact hb) (by rw [moved_mid hab]) ⟨kb.1, by show 0 ≤ _ - many; omega, by have := kb.2.2; show _ - many ≤ 10 ^ 30; omega⟩
theorem moved_moves (hP : PB c) (ha : a < c.length) (hb : b < c.length) (hab : a ≠ b) (m1 : 1 ≤ many) (hn : 0 ≤ (mAt c a).n) : ∃ x y, movesR (movedC c a b many) b a = some (x, y) ∧ x ≤ many ∧ many ≤ y := by
  obtain ⟨k1, k2⟩ := moved_at (many := many) ha hb hab
  have hs : ∀ t ∈ dayS c, 0 ≤ slackT c t := fun t ht => by
    obtain ⟨m, hm, rfl⟩ := mem_dayS.mp ht
    exact hP.1 m hm
  obtain ⟨x, y, e, h1, h2⟩ := mv_between (one := (mAt c b).d) (other := (mAt c a).d) (many := many) (S := slackT (movedC c a b many)) (dayS c) 1 ((mAt c a).n + many) m1 (by omega) fun t ht => by
    have h0 := hs t ht
    rw [moved_slack ha hb hab]
    refine ⟨fun z => ?_, fun z => ?_, fun z1 z2 => ?_⟩
    · rw [if_neg (by omega), if_pos z.1]; omega
    · rw [if_pos z.1, if_neg (by omega)]; omega
    · by_cases q : (mAt c a).d < t
      · rw [if_pos q, if_pos (by omega)]; omega
      · rw [if_neg q, if_neg (by omega)]; omega
  refine ⟨x, y, ?_, h1, h2⟩
  unfold movesR
  rw [k1, k2, moved_days ha hb hab]
  show (mvF (mAt c b).d (mAt c a).d _ (dayS c) 1 ((mAt c a).n + many)).bind _ = _
  rw [e]
  show (if x ≤ y then some (x, y) else none) = _
  rw [if_pos (by omega)]
end
theorem flat_single {α β : Type} {f : α → List β} : ∀ (l : List α) (x : α), l.Nodup → x ∈ l → (∀ y ∈ l, y ≠ x → f y = []) → l.flatMap f = f x
  | y :: l, x, nd, hx, h => by
    obtain ⟨n1, n2⟩ := List.nodup_cons.mp nd
    rw [List.flatMap_cons]
    by_cases e : y = x
    · subst e
      have : l.flatMap f = [] := List.flatMap_eq_nil_iff.mpr fun z hz => h z (List.mem_cons_of_mem _ hz) fun q => n1 (q ▸ hz)
      rw [this, List.append_nil]
    · rw [h y List.mem_cons_self e, List.nil_append]
      have hx' : x ∈ l := by
        rcases List.mem_cons.mp hx with q | q
        · exact absurd q.symm e
        · exact q
      exact flat_single l x n2 hx' fun z hz => h z (List.mem_cons_of_mem _ hz)
/-- days stretched -/
def strC (c : List Mem) : List Mem := c.map fun m => ⟨2 * m.d + 5, m.w, m.n⟩
theorem str_len (c : List Mem) : (strC c).length = c.length := by unfold strC; rw [List.length_map]
theorem str_at {c : List Mem} {i : Nat} (hi : i < c.length) : mAt (strC c) i = ⟨2 * (mAt c i).d + 5, (mAt c i).w, (mAt c i).n⟩ := by
  have h := mAt_gS (c := strC c) (i := i) (by rw [str_len]; exact hi)
  have h2 : (strC c)[i]? = some ⟨2 * (mAt c i).d + 5, (mAt c i).w, (mAt c i).n⟩ := by
    unfold strC
    rw [List.getElem?_map, mAt_gS hi]; rfl
  rw [h] at h2
  exact Option.some.inj h2
theorem str_slack (c : List Mem) (t : Int) : slackT (strC c) (2 * t + 5) = slackT c t := by
  have e1 : ∀ m : Mem, decide (2 * m.d + 5 < 2 * t + 5) = decide (m.d < t) := fun m => decide_eq_decide.mpr (by omega)
  have e2 : ∀ m : Mem, decide (2 * m.d + 5 ≤ 2 * t + 5) = decide (m.d ≤ t) := fun m => decide_eq_decide.mpr (by omega)
  have f1 : c.filter ((fun m => decide (m.d < 2 * t + 5)) ∘ fun m : Mem => (⟨2 * m.d + 5, m.w, m.n⟩ : Mem)) = c.filter fun m => decide (m.d < t) := List.filter_congr fun m _ => e1 m
  have f2 : c.filter ((fun m => decide (m.d ≤ 2 * t + 5) && m.w) ∘ fun m : Mem => (⟨2 * m.d + 5, m.w, m.n⟩ : Mem)) = c.filter fun m => decide (m.d ≤ t) && m.w := List.filter_congr fun m _ => by
    show (decide (2 * m.d + 5 ≤ 2 * t + 5) && m.w) = _
    rw [e2]
  unfold slackT strC
  rw [List.filter_map, List.map_map, List.filter_map, List.length_map, f1, f2]
  rfl
theorem str_left (c : List Mem) : leftN (strC c) = leftN c := by
  unfold leftN strC
  rw [List.map_map, List.filter_map, List.length_map]
  rfl
theorem str_days (c : List Mem) : dayS (strC c) = (dayS c).map fun t => 2 * t + 5 := by
  refine int_extS (dayS_strict _) (List.pairwise_map.mpr ((dayS_strict c).imp fun hab => by omega)) fun x => ?_
  rw [mem_dayS, List.mem_map]
  constructor
  · rintro ⟨m, hm, rfl⟩
    obtain ⟨y, hy, rfl⟩ := List.mem_map.mp hm
    exact ⟨y.d, mem_dayS.mpr ⟨y, hy, rfl⟩, rfl⟩
  · rintro ⟨t, ht, rfl⟩
    obtain ⟨m, hm, rfl⟩ := mem_dayS.mp ht
    exact ⟨_, List.mem_map.mpr ⟨m, hm, rfl⟩, rfl⟩
theorem str_mv (c : List Mem) (one other : Int) : ∀ (ts : List Int) (l g : Int), mvF (2 * one + 5) (2 * other + 5) (slackT (strC c)) (ts.map fun t => 2 * t + 5) l g = mvF one other (slackT c) ts l g
  | [], l, g => rfl
  | t :: ts, l, g => by
    rw [List.map_cons, mvF, mvF, str_slack, str_mv c one other ts, str_mv c one other ts, str_mv c one other ts]
    have e1 : (2 * one + 5 < 2 * t + 5 ∧ 2 * t + 5 ≤ 2 * other + 5) ↔ (one < t ∧ t ≤ other) := by omega
    have e2 : (2 * other + 5 < 2 * t + 5 ∧ 2 * t + 5 ≤ 2 * one + 5) ↔ (other < t ∧ t ≤ one) := by omega
    simp only [e1, e2]
theorem str_moves {c : List Mem} {r l : Nat} (hr : r < c.length) (hl : l < c.length) : movesR (strC c) r l = movesR c r l := by
  unfold movesR
  rw [str_at hr, str_at hl, str_days]
  show (mvF (2 * (mAt c r).d + 5) (2 * (mAt c l).d + 5) _ _ 1 (mAt c l).n).bind _ = _
  rw [str_mv]
theorem flat_congrS {α β : Type} {f g : α → List β} : ∀ {l : List α}, (∀ x ∈ l, f x = g x) → l.flatMap f = l.flatMap g
  | [], _ => rfl
  | x :: l, h => by rw [List.flatMap_cons, List.flatMap_cons, h x List.mem_cons_self, flat_congrS fun y hy => h y (List.mem_cons_of_mem _ hy)]
theorem str_two (c : List Mem) : twoL (strC c) = twoL c := by
  unfold twoL
  rw [str_len]
  refine flat_congrS fun r hr => flat_congrS fun l hl => ?_
  unfold rowL
  rw [str_moves (List.mem_range.mp hr) (List.mem_range.mp hl)]
theorem str_club {c : List Mem} (h : Club c) (hd : ∀ m ∈ c, m.d ≤ 4 * 10 ^ 29) : Club (strC c) := by
  refine ⟨fun e => ?_, by rw [str_len]; exact h.few, fun x hx => ?_, ?_⟩
  · have := congrArg List.length e
    rw [str_len] at this
    exact h.some (List.length_eq_zero_iff.mp this)
  · obtain ⟨m, hm, rfl⟩ := List.mem_map.mp hx
    have k := h.ok m hm
    have := hd m hm
    exact ⟨⟨by have := k.1.1; show 0 ≤ 2 * m.d + 5; omega, by show 2 * m.d + 5 ≤ 10 ^ 30; omega⟩, k.2⟩
  · exact List.pairwise_map.mpr (h.asc.imp fun hab => by show 2 * _ + 5 ≤ 2 * _ + 5; omega)

end G4

namespace G4
open PySem PySem.Spec PyProof.Rows L2
local macro_rules
  | `(tactic| simp_arith [$as,*]) => `(tactic| simp -implicitDefEqProofs only [tl_table_of_1, tl_table_of_2, tl_table_of_3, tl_one_number_1, tl_one_number_2, tl_moves_of_1, tl_moves_of_2, tl_two_numbers_1, tl_two_numbers_2, tl_two_numbers_3, tl_one_came_1, tl_one_came_2, tl_one_day_1, tl_one_day_2, tl_one_day_3, tl_one_day_4, tl__law_stirred_1, tl__law_stirred_2, tl__law_draw_1, tl__law_draw_2, tl__law_story_1, tl__law_story_2, tl__law_number_right_1, tl__law_number_right_2, tl__law_number_right_3, tl__law_number_right_4, tl__law_number_right_5, tl__law_came_right_1, tl__law_came_right_2, tl__law_came_right_3, tl__law_came_right_4, tl__law_day_right_1, tl__law_day_right_2, tl__law_day_right_3, tl__law_day_right_4, tl__law_day_right_5, tl__law_day_right_6, tl__law_moved_right_1, tl__law_moved_right_2, tl__law_moved_right_3, tl__law_moved_right_4, tl__law_moved_right_5, tl__law_moved_right_6, tl__law_moved_right_7, ↓bnd_eq, ↓off_eq, ↓thn_eq, run_eq, fin_nx, fin_rt, fin_ex, S.hide, hideSl, exms, exm, ev, evT, evs, evOs, evo, evc, evSrc, evPar, hb_ok, hb_ex, ho_ok, ho_ex, ht_nx, ht_rt, ht_ex, tb_nx, tb_rt, tb_ex, hd_setB, hd_setT, hd_retT, D.flat, opd_d, opd_pl, opd_lst, opd_ex, val_d, val_lst, List.append_assoc, List.length_set, gc_push, gc_id, take_push, take_id, get_app0, get_app1, get_app2, isNew0, isNew1, isNew_int, isNew_str, isNew_bl, isNew_non, isNew_tup, isNew_lst, keep_un, keep_int, keep_bl, keep_non, keep_str, keep_scr, keep_obj, keep_own_lst, keep_own_dK, pureK_nil, keep_lst, keep_tup, D.unders, ne_succ, ne_succ1, eq_self, nodup2, nodup3, List.filterMap_cons, List.filterMap_nil, putPar, D.under, List.nodup_cons, List.mem_cons, List.not_mem_nil, or_self, or_false, Nat.reduceEqDiff, List.nodup_nil, true_and, and_true, bits10, Int.reduceMul, Int.reduceLE, Int.reduceLT, Int.reducePow, Int.reduceAdd, Int.reduceSub, Int.reduceNeg, Int.reduceToNat, val_dK, putTs_nil, putTs_nm, putTs_sub, val_ex, val_pl, valPl_lst, valPl_d, opt_some, toO_ok, toO_ex, asBl_ok, List.map_cons, List.map_nil, List.length_cons, List.length_nil, Nat.reduceAdd, Nat.reduceSub, Nat.zero_add, List.replicate, List.cons_append, List.nil_append, List.getElem?_cons_zero, List.getElem?_cons_succ, List.set_cons_zero, List.set_cons_succ, S.rd, S.rdD, S.store, OS.opt, Option.bind_some, Option.map_some, Cell.view, S.cell, S.isLst, S.isDct, S.rdDct, dgetV, dixV, augV, S.put, S.rdLst, cmpV, opCmp, opEq_str, opEq_int, opEq_bl, opEq_non, opEq_lst, opEq_tup, pures_app, eqv_int, eqv_bl, eqv_lst, eqv_tup, eqvs_nil, eqvs_ints, eqvs_cons, eqv_str, opIn_ints, unders_ints, set_app0, set_app1, binV, opBin, ixV, opIx, biV, biSem, biLen, biInt, biAbs, biMax2, biMin2, biSum, biAll, biAny, biList, biTuple, List.mapM_cons, List.mapM_nil, bind, pure, Option.bind, truV, D.tru, isiV, D.kind, Ty.sub, List.any_cons, List.any_nil, decide_true, decide_false, Int.cast_ofNat_Int, beq_self_eq_true, Bool.false_and, Bool.true_or, Bool.false_or, Bool.or_false, Bool.and_true, Bool.true_and, Bool.and_self, if_true, if_false, Bool.false_eq_true, reduceCtorEq, Bool.not_true, Bool.not_false, finish, D.pure, D.pures, Cell.pure, List.take_length, and_self, not_true_eq_false, not_false_eq_true, plain_int', plain_lst, plain_tup, plain_non, plain_bl, D.plainsN, pures_ints, plain_ints, List.length_map, List.length_append, at1, at2, at3, at4, at5, muV, muSem, muApp, setIx, S.fz, perm, List.getD_cons_zero, List.getD_cons_succ, $as,*])
/-! ### slips: the walks of moves_of and two_numbers -/
section
variable {st : List Cell} {c : List Mem}
theorem asg_rowS (x y z : Nat) (t : Int) (s : S) : T.asg (.tp [.nm x, .nm y, .nm z]) (rowD c t) s = some ⟨((s.sl.set x (.d (.int t))).set y (.d (.int (freeT c t)))).set z (.d (.int (slackT c t))), s.st⟩ := asg_t3S x y z _ _ _ s
def MvP (st : List Cell) (c : List Mem) (v0 v1 v2 v3 : SV) (one other : Int) (ts : List Int) (l g : Int) (v8 v9 v10 : SV) : Prop :=
    (∀ x y, mvF one other (slackT c) ts l g = some (x, y) → ∃ u8 u9 u10, forLoop (fun x s => T.asg (.tp [.nm 8, .nm 9, .nm 10]) x s) (fun s => exms fb_moves_of_1 s) st.length (ts.map (rowD c)) ⟨[v0, v1, v2, v3, .d (.int one), .d (.int other), .d (.int l), .d (.int g), v8, v9, v10], st⟩ = .nx ⟨[v0, v1, v2, v3, .d (.int one), .d (.int other), .d (.int x), .d (.int y), u8, u9, u10], st⟩) ∧
    (mvF one other (slackT c) ts l g = none → ∃ sl, forLoop (fun x s => T.asg (.tp [.nm 8, .nm 9, .nm 10]) x s) (fun s => exms fb_moves_of_1 s) st.length (ts.map (rowD c)) ⟨[v0, v1, v2, v3, .d (.int one), .d (.int other), .d (.int l), .d (.int g), v8, v9, v10], st⟩ = .rt (.d .non) ⟨sl, st⟩)
theorem mv_loop {v0 v1 v2 v3 : SV} {one other : Int} : ∀ (ts : List Int) (l g : Int) (v8 v9 v10 : SV), MvP st c v0 v1 v2 v3 one other ts l g v8 v9 v10
  | [], l, g, v8, v9, v10 => ⟨fun x y h => by cases h; exact ⟨v8, v9, v10, rfl⟩, fun h => by cases h⟩
  | t :: ts, l, g, v8, v9, v10 => by
    have key : ∀ l' g', exms fb_moves_of_1 ⟨[v0, v1, v2, v3, .d (.int one), .d (.int other), .d (.int l), .d (.int g), .d (.int t), .d (.int (freeT c t)), .d (.int (slackT c t))], st⟩ = .nx ⟨[v0, v1, v2, v3, .d (.int one), .d (.int other), .d (.int l'), .d (.int g'), .d (.int t), .d (.int (freeT c t)), .d (.int (slackT c t))], st⟩ →
        mvF one other (slackT c) (t :: ts) l g = mvF one other (slackT c) ts l' g' → MvP st c v0 v1 v2 v3 one other (t :: ts) l g v8 v9 v10 := fun l' g' e1 e2 => by
      obtain ⟨i1, i2⟩ := mv_loop (v0 := v0) (v1 := v1) (v2 := v2) (v3 := v3) (one := one) (other := other) ts l' g' (.d (.int t)) (.d (.int (freeT c t))) (.d (.int (slackT c t)))
      unfold MvP
      rw [e2, List.map_cons, forLoop, asg_rowS]
      simp only [List.set_cons_succ, List.set_cons_zero, e1, gc_id rfl]
      exact ⟨i1, i2⟩
    by_cases z1 : one < t ∧ t ≤ other
    · refine key (if -(slackT c t) > l then -(slackT c t) else l) g ?_ (by rw [mvF, if_pos z1])
      unfold fb_moves_of_1
      simp_arith [z1.1, z1.2]
    · by_cases z2 : other < t ∧ t ≤ one
      · refine key l (if slackT c t < g then slackT c t else g) ?_ (by rw [mvF, if_neg z1, if_pos z2])
        unfold fb_moves_of_1
        by_cases q : one < t
        · have q2 : ¬ t ≤ other := fun w => z1 ⟨q, w⟩
          simp_arith [q, q2, z2.1, z2.2]
        · simp_arith [q, z2.1, z2.2]
      · by_cases z3 : slackT c t < 0
        · refine ⟨fun x y h => ?_, fun _ => ?_⟩
          · rw [mvF, if_neg z1, if_neg z2, if_pos z3] at h; cases h
          · refine ⟨[v0, v1, v2, v3, .d (.int one), .d (.int other), .d (.int l), .d (.int g), .d (.int t), .d (.int (freeT c t)), .d (.int (slackT c t))], ?_⟩
            have body : exms fb_moves_of_1 ⟨[v0, v1, v2, v3, .d (.int one), .d (.int other), .d (.int l), .d (.int g), .d (.int t), .d (.int (freeT c t)), .d (.int (slackT c t))], st⟩ = .rt (.d .non) ⟨[v0, v1, v2, v3, .d (.int one), .d (.int other), .d (.int l), .d (.int g), .d (.int t), .d (.int (freeT c t)), .d (.int (slackT c t))], st⟩ := by
              unfold fb_moves_of_1
              by_cases q : one < t
              · have q2 : ¬ t ≤ other := fun w => z1 ⟨q, w⟩
                by_cases w : other < t
                · have w2 : ¬ t ≤ one := fun r => z2 ⟨w, r⟩
                  simp_arith [q, q2, w, w2, z3]
                · simp_arith [q, q2, w, z3]
              · by_cases w : other < t
                · have w2 : ¬ t ≤ one := fun r => z2 ⟨w, r⟩
                  simp_arith [q, w, w2, z3]
                · simp_arith [q, w, z3]
            rw [List.map_cons, forLoop, asg_rowS]
            simp only [List.set_cons_succ, List.set_cons_zero, body]
        · refine key l g ?_ (by rw [mvF, if_neg z1, if_neg z2, if_neg z3])
          unfold fb_moves_of_1
          by_cases q : one < t
          · have q2 : ¬ t ≤ other := fun w => z1 ⟨q, w⟩
            by_cases w : other < t
            · have w2 : ¬ t ≤ one := fun r => z2 ⟨w, r⟩
              simp_arith [q, q2, w, w2, z3]
            · simp_arith [q, q2, w, z3]
          · by_cases w : other < t
            · have w2 : ¬ t ≤ one := fun r => z2 ⟨w, r⟩
              simp_arith [q, w, w2, z3]
            · simp_arith [q, w, z3]
theorem moves_ok (hl : c.length ≤ 60) {r l : Nat} (hr : r < c.length) (hw : l < c.length) : f_moves_of [clubD c, .lst ((dayS c).map (rowD c)), .int r, .int l] st = .ok (.d (mvD (movesR c r l))) st := by
  have g1 : atI (c.map Mem.D) (r : Int) = some (mAt c r).D := atI_nat (mAt_get hr)
  have g2 : atI (c.map Mem.D) (l : Int) = some (mAt c l).D := atI_nat (mAt_get hw)
  simp only [Mem.D] at g1 g2
  obtain ⟨k1, k2⟩ := mv_loop (st := st) (c := c) (v0 := .d (clubD c)) (v1 := .d (.lst ((dayS c).map (rowD c)))) (v2 := .d (.int r)) (v3 := .d (.int l)) (one := (mAt c r).d) (other := (mAt c l).d) (dayS c) 1 (mAt c l).n .un .un .un
  have hm : movesR c r l = (mvF (mAt c r).d (mAt c l).d (slackT c) (dayS c) 1 (mAt c l).n).bind fun p => if p.1 ≤ p.2 then some p else none := rfl
  have uc := unders_mems st.length c
  have ur : D.unders st.length ((dayS c).map (rowD c)) = true := (unders_iff _ _).mpr fun d hd => by
    obtain ⟨t, _, rfl⟩ := List.mem_map.mp hd
    rfl
  rw [hm]
  unfold clubD at k1 k2
  unfold f_moves_of
  cases q : mvF (mAt c r).d (mAt c l).d (slackT c) (dayS c) 1 (mAt c l).n with
  | none =>
    obtain ⟨sl, e⟩ := k2 q
    simp_arith [b_moves_of, clubD, g1, g2, uc, ur]
    rw [e]
    simp_arith [mvD]
  | some p =>
    obtain ⟨x, y⟩ := p
    obtain ⟨u8, u9, u10, e⟩ := k1 x y q
    by_cases z : x ≤ y
    · simp_arith [b_moves_of, clubD, g1, g2, uc, ur]
      rw [e]
      simp_arith [mvD, z]
    · simp_arith [b_moves_of, clubD, g1, g2, uc, ur]
      rw [e]
      simp_arith [mvD, z]
end

end G4

namespace G4
open PySem PySem.Spec PyProof.Rows L2
local macro_rules
  | `(tactic| simp_arith [$as,*]) => `(tactic| simp -implicitDefEqProofs only [tl_table_of_1, tl_table_of_2, tl_table_of_3, tl_one_number_1, tl_one_number_2, tl_moves_of_1, tl_moves_of_2, tl_two_numbers_1, tl_two_numbers_2, tl_two_numbers_3, tl_one_came_1, tl_one_came_2, tl_one_day_1, tl_one_day_2, tl_one_day_3, tl_one_day_4, tl__law_stirred_1, tl__law_stirred_2, tl__law_draw_1, tl__law_draw_2, tl__law_story_1, tl__law_story_2, tl__law_number_right_1, tl__law_number_right_2, tl__law_number_right_3, tl__law_number_right_4, tl__law_number_right_5, tl__law_came_right_1, tl__law_came_right_2, tl__law_came_right_3, tl__law_came_right_4, tl__law_day_right_1, tl__law_day_right_2, tl__law_day_right_3, tl__law_day_right_4, tl__law_day_right_5, tl__law_day_right_6, tl__law_moved_right_1, tl__law_moved_right_2, tl__law_moved_right_3, tl__law_moved_right_4, tl__law_moved_right_5, tl__law_moved_right_6, tl__law_moved_right_7, ↓bnd_eq, ↓off_eq, ↓thn_eq, run_eq, fin_nx, fin_rt, fin_ex, S.hide, hideSl, exms, exm, ev, evT, evs, evOs, evo, evc, evSrc, evPar, hb_ok, hb_ex, ho_ok, ho_ex, ht_nx, ht_rt, ht_ex, tb_nx, tb_rt, tb_ex, hd_setB, hd_setT, hd_retT, D.flat, opd_d, opd_pl, opd_lst, opd_ex, val_d, val_lst, List.append_assoc, List.length_set, gc_push, gc_id, take_push, take_id, get_app0, get_app1, get_app2, isNew0, isNew1, isNew_int, isNew_str, isNew_bl, isNew_non, isNew_tup, isNew_lst, keep_un, keep_int, keep_bl, keep_non, keep_str, keep_scr, keep_obj, keep_own_lst, keep_own_dK, pureK_nil, keep_lst, keep_tup, D.unders, ne_succ, ne_succ1, eq_self, nodup2, nodup3, List.filterMap_cons, List.filterMap_nil, putPar, D.under, List.nodup_cons, List.mem_cons, List.not_mem_nil, or_self, or_false, Nat.reduceEqDiff, List.nodup_nil, true_and, and_true, bits10, Int.reduceMul, Int.reduceLE, Int.reduceLT, Int.reducePow, Int.reduceAdd, Int.reduceSub, Int.reduceNeg, Int.reduceToNat, val_dK, putTs_nil, putTs_nm, putTs_sub, val_ex, val_pl, valPl_lst, valPl_d, opt_some, toO_ok, toO_ex, asBl_ok, List.map_cons, List.map_nil, List.length_cons, List.length_nil, Nat.reduceAdd, Nat.reduceSub, Nat.zero_add, List.replicate, List.cons_append, List.nil_append, List.getElem?_cons_zero, List.getElem?_cons_succ, List.set_cons_zero, List.set_cons_succ, S.rd, S.rdD, S.store, OS.opt, Option.bind_some, Option.map_some, Cell.view, S.cell, S.isLst, S.isDct, S.rdDct, dgetV, dixV, augV, S.put, S.rdLst, cmpV, opCmp, opEq_str, opEq_int, opEq_bl, opEq_non, opEq_lst, opEq_tup, pures_app, eqv_int, eqv_bl, eqv_lst, eqv_tup, eqvs_nil, eqvs_ints, eqvs_cons, eqv_str, opIn_ints, unders_ints, set_app0, set_app1, binV, opBin, ixV, opIx, biV, biSem, biLen, biInt, biAbs, biMax2, biMin2, biSum, biAll, biAny, biList, biTuple, List.mapM_cons, List.mapM_nil, bind, pure, Option.bind, truV, D.tru, isiV, D.kind, Ty.sub, List.any_cons, List.any_nil, decide_true, decide_false, Int.cast_ofNat_Int, beq_self_eq_true, Bool.false_and, Bool.true_or, Bool.false_or, Bool.or_false, Bool.and_true, Bool.true_and, Bool.and_self, if_true, if_false, Bool.false_eq_true, reduceCtorEq, Bool.not_true, Bool.not_false, finish, D.pure, D.pures, Cell.pure, List.take_length, and_self, not_true_eq_false, not_false_eq_true, plain_int', plain_lst, plain_tup, plain_non, plain_bl, D.plainsN, pures_ints, plain_ints, List.length_map, List.length_append, at1, at2, at3, at4, at5, muV, muSem, muApp, setIx, S.fz, perm, List.getD_cons_zero, List.getD_cons_succ, $as,*])
/-! ### slips: two_numbers; k67: a number moved -/
theorem rowL_len (c : List Mem) (r l : Nat) : (rowL c r l).length ≤ 1 := by
  unfold rowL
  split
  · simp
  · split <;> simp
theorem rows_len (c : List Mem) (r : Nat) : ∀ j : Nat, ((List.range j).flatMap (rowL c r)).length ≤ j
  | 0 => Nat.le_refl _
  | j + 1 => by
    have := rows_len c r j
    have := rowL_len c r j
    rw [List.range_succ, List.flatMap_append, List.length_append, List.flatMap_cons, List.flatMap_nil, List.append_nil]
    omega
theorem two_len (c : List Mem) (n : Nat) : ∀ j : Nat, ((List.range j).flatMap fun r => (List.range n).flatMap (rowL c r)).length ≤ j * n
  | 0 => by simp
  | j + 1 => by
    have := two_len c n j
    have := rows_len c j n
    rw [List.range_succ, List.flatMap_append, List.length_append, List.flatMap_cons, List.flatMap_nil, List.append_nil, Nat.succ_mul]
    omega
theorem row_mem {c : List Mem} {d : D} {r l : Nat} (h : d ∈ rowL c r l) : ∃ x y : Int, d = .tup [.int r, .int l, .int x, .int y] := by
  unfold rowL at h
  split at h
  · cases h
  · split at h
    · cases h
    · exact ⟨_, _, List.mem_singleton.mp h⟩
theorem two_mem {c : List Mem} {d : D} (h : d ∈ twoL c) : ∃ (r l : Nat) (x y : Int), d = .tup [.int r, .int l, .int x, .int y] := by
  unfold twoL at h
  obtain ⟨r, _, h⟩ := List.mem_flatMap.mp h
  obtain ⟨l, _, h⟩ := List.mem_flatMap.mp h
  obtain ⟨x, y, e⟩ := row_mem h
  exact ⟨r, l, x, y, e⟩
section
variable {st : List Cell} {c : List Mem}
theorem row_turn (hl : c.length ≤ 60) {r l : Nat} (hr : r < c.length) (hw : l < c.length) {F : List D} (hF : F.length ≤ 5000) {v2 v5 : SV} (h2 : v2 = .d (.lst ((dayS c).map (rowD c))) ∨ v2 = .own (.lst ((dayS c).map (rowD c)))) :
    ∃ u2 u5, exms fb_two_numbers_1 ⟨[.d (clubD c), .own (.lst F), v2, .d (.int r), .d (.int l), v5], st⟩ = .nx ⟨[.d (clubD c), .own (.lst (F ++ rowL c r l)), u2, .d (.int r), .d (.int l), u5], st⟩ ∧ (u2 = .d (.lst ((dayS c).map (rowD c))) ∨ u2 = .own (.lst ((dayS c).map (rowD c)))) := by
  have hb : F.length < big := Nat.lt_of_le_of_lt hF (by decide)
  by_cases z : r = l
  · subst z
    refine ⟨v2, .d .non, ?_, h2⟩
    have e : rowL c r r = [] := by unfold rowL; rw [if_pos rfl]
    rw [e, List.append_nil]
    unfold fb_two_numbers_1
    simp_arith [opIs, D.isNon]
  · have hq : ((r : Int) == (l : Int)) = false := by simp; omega
    have e1 := moves_ok (st := st) hl hr hw
    have er : rowL c r l = match movesR c r l with
      | none => []
      | some p => [.tup [.int r, .int l, .int p.1, .int p.2]] := by unfold rowL; rw [if_neg z]; try (cases movesR c r l <;> rfl)
    rw [er]
    unfold clubD at e1 ⊢
    unfold fb_two_numbers_1
    generalize (dayS c).map (rowD c) = T at *
    cases q : movesR c r l with
    | none =>
      rw [q] at e1
      have e1 : f_moves_of [.lst (c.map Mem.D), .lst T, .int r, .int l] st = .ok (.d .non) st := e1
      refine ⟨.d (.lst T), .d .non, ?_, .inl rfl⟩
      rcases h2 with rfl | rfl <;> simp_arith [hq, e1, opIs, D.isNon, List.append_nil]
    | some p =>
      rw [q] at e1
      have e1 : f_moves_of [.lst (c.map Mem.D), .lst T, .int r, .int l] st = .ok (.d (.tup [.int p.1, .int p.2])) st := e1
      refine ⟨.d (.lst T), .d (.tup [.int p.1, .int p.2]), ?_, .inl rfl⟩
      rcases h2 with rfl | rfl <;> simp_arith [hq, e1, opIs, D.isNon, hb]
theorem rows_turn (hl : c.length ≤ 60) {r : Nat} (hr : r < c.length) {F : List D} (hF : F.length ≤ 4000) {v2 v4 v5 : SV} (h2 : v2 = .d (.lst ((dayS c).map (rowD c))) ∨ v2 = .own (.lst ((dayS c).map (rowD c)))) :
    ∃ u2 u4 u5, exms fb_two_numbers_2 ⟨[.d (clubD c), .own (.lst F), v2, .d (.int r), v4, v5], st⟩ = .nx ⟨[.d (clubD c), .own (.lst (F ++ (List.range c.length).flatMap (rowL c r))), u2, .d (.int r), u4, u5], st⟩ ∧ (u2 = .d (.lst ((dayS c).map (rowD c))) ∨ u2 = .own (.lst ((dayS c).map (rowD c)))) := by
  obtain ⟨s', l1, u2, u4, u5, rfl, g2⟩ := for_rng (v := 4) (body := fun s => exms fb_two_numbers_1 s) (n := st.length) c.length (fun j s => ∃ u2 u4 u5, s = ⟨[.d (clubD c), .own (.lst (F ++ (List.range j).flatMap (rowL c r))), u2, .d (.int r), u4, u5], st⟩ ∧ (u2 = .d (.lst ((dayS c).map (rowD c))) ∨ u2 = .own (.lst ((dayS c).map (rowD c)))))
    ⟨[.d (clubD c), .own (.lst F), v2, .d (.int r), v4, v5], st⟩ ⟨v2, v4, v5, by simp, h2⟩ fun j s hj hI => by
      obtain ⟨u2, u4, u5, rfl, g2⟩ := hI
      have hlen := rows_len c r j
      obtain ⟨w2, w5, e, w⟩ := row_turn (st := st) hl hr hj (F := F ++ (List.range j).flatMap (rowL c r)) (by rw [List.length_append]; omega) (v5 := u5) g2
      refine ⟨_, .inl e, w2, .d (.int j), w5, ?_, w⟩
      rw [gc_id rfl, List.range_succ, List.flatMap_append, List.flatMap_cons, List.flatMap_nil, List.append_nil, List.append_assoc]
  refine ⟨u2, u4, u5, ?_, g2⟩
  have hr1 := rng1_nat (show c.length ≤ 1000000 by omega)
  unfold clubD at l1 ⊢
  unfold fb_two_numbers_2
  simp_arith [hr1]
  rw [l1]
  simp_arith []
theorem two_ok (h : Club c) (h0 : leftN c = 0) : f_two_numbers [clubD c] st = .ok (.new (.lst (twoL c))) st := by
  have hl := h.few
  have e1 := need_club_ok (st := st) h
  have e2 := table_ok (st := st ++ [.lst []]) hl
  have e3 := left_over_ok (st := st) hl
  rw [h0] at e3
  have hm60 : ∀ j, j ≤ c.length → j * c.length ≤ 3600 := fun j hj => Nat.le_trans (Nat.mul_le_mul (show j ≤ 60 by omega) hl) (by decide)
  obtain ⟨s', l1, u2, u3, u4, u5, rfl, g2⟩ := for_rng (v := 3) (body := fun s => exms fb_two_numbers_2 s) (n := st.length) c.length (fun j s => ∃ u2 u3 u4 u5, s = ⟨[.d (clubD c), .own (.lst ((List.range j).flatMap fun r => (List.range c.length).flatMap (rowL c r))), u2, u3, u4, u5], st⟩ ∧ (u2 = .d (.lst ((dayS c).map (rowD c))) ∨ u2 = .own (.lst ((dayS c).map (rowD c)))))
    ⟨[.d (clubD c), .own (.lst []), .own (.lst ((dayS c).map (rowD c))), .un, .un, .un], st⟩ ⟨_, _, _, _, rfl, .inr rfl⟩ fun j s hj hI => by
      obtain ⟨u2, u3, u4, u5, rfl, g2⟩ := hI
      have hlen := two_len c c.length j
      have := hm60 j (by omega)
      obtain ⟨w2, w4, w5, e, w⟩ := rows_turn (st := st) hl hj (F := (List.range j).flatMap fun r => (List.range c.length).flatMap (rowL c r)) (by omega) (v4 := u4) (v5 := u5) g2
      refine ⟨_, .inl e, w2, .d (.int j), w4, w5, ?_, w⟩
      rw [gc_id rfl, List.range_succ, List.flatMap_append, List.flatMap_cons, List.flatMap_nil, List.append_nil]
  have hr1 := rng1_nat (show c.length ≤ 1000000 by omega)
  have pn : D.pures (twoL c) = true := (pures_iffS _).mpr fun d hd => by
    obtain ⟨r, l, x, y, rfl⟩ := two_mem hd
    rfl
  have pr : D.pures ((dayS c).map (rowD c)) = true := (pures_iffS _).mpr fun d hd => by
    obtain ⟨t, _, rfl⟩ := List.mem_map.mp hd
    rfl
  have uc := unders_mems st.length c
  have et : ((List.range c.length).flatMap fun r => (List.range c.length).flatMap (rowL c r)) = twoL c := rfl
  rw [et] at l1
  unfold clubD at e1 e2 e3 l1
  generalize twoL c = TW at *
  generalize (dayS c).map (rowD c) = T at *
  unfold f_two_numbers
  simp_arith [b_two_numbers, clubD, e1, e2, e3, uc, hr1, pr]
  rw [l1]
  simp_arith [pn]
end

end G4

namespace G4
open PySem PySem.Spec PyProof.Rows L2
local macro_rules
  | `(tactic| simp_arith [$as,*]) => `(tactic| simp -implicitDefEqProofs only [tl_table_of_1, tl_table_of_2, tl_table_of_3, tl_one_number_1, tl_one_number_2, tl_moves_of_1, tl_moves_of_2, tl_two_numbers_1, tl_two_numbers_2, tl_two_numbers_3, tl_one_came_1, tl_one_came_2, tl_one_day_1, tl_one_day_2, tl_one_day_3, tl_one_day_4, tl__law_stirred_1, tl__law_stirred_2, tl__law_draw_1, tl__law_draw_2, tl__law_story_1, tl__law_story_2, tl__law_number_right_1, tl__law_number_right_2, tl__law_number_right_3, tl__law_number_right_4, tl__law_number_right_5, tl__law_came_right_1, tl__law_came_right_2, tl__law_came_right_3, tl__law_came_right_4, tl__law_day_right_1, tl__law_day_right_2, tl__law_day_right_3, tl__law_day_right_4, tl__law_day_right_5, tl__law_day_right_6, tl__law_moved_right_1, tl__law_moved_right_2, tl__law_moved_right_3, tl__law_moved_right_4, tl__law_moved_right_5, tl__law_moved_right_6, tl__law_moved_right_7, ↓bnd_eq, ↓off_eq, ↓thn_eq, run_eq, fin_nx, fin_rt, fin_ex, S.hide, hideSl, exms, exm, ev, evT, evs, evOs, evo, evc, evSrc, evPar, hb_ok, hb_ex, ho_ok, ho_ex, ht_nx, ht_rt, ht_ex, tb_nx, tb_rt, tb_ex, hd_setB, hd_setT, hd_retT, D.flat, opd_d, opd_pl, opd_lst, opd_ex, val_d, val_lst, List.append_assoc, List.length_set, gc_push, gc_id, take_push, take_id, get_app0, get_app1, get_app2, isNew0, isNew1, isNew_int, isNew_str, isNew_bl, isNew_non, isNew_tup, isNew_lst, keep_un, keep_int, keep_bl, keep_non, keep_str, keep_scr, keep_obj, keep_own_lst, keep_own_dK, pureK_nil, keep_lst, keep_tup, D.unders, ne_succ, ne_succ1, eq_self, nodup2, nodup3, List.filterMap_cons, List.filterMap_nil, putPar, D.under, List.nodup_cons, List.mem_cons, List.not_mem_nil, or_self, or_false, Nat.reduceEqDiff, List.nodup_nil, true_and, and_true, bits10, Int.reduceMul, Int.reduceLE, Int.reduceLT, Int.reducePow, Int.reduceAdd, Int.reduceSub, Int.reduceNeg, Int.reduceToNat, val_dK, putTs_nil, putTs_nm, putTs_sub, val_ex, val_pl, valPl_lst, valPl_d, opt_some, toO_ok, toO_ex, asBl_ok, List.map_cons, List.map_nil, List.length_cons, List.length_nil, Nat.reduceAdd, Nat.reduceSub, Nat.zero_add, List.replicate, List.cons_append, List.nil_append, List.getElem?_cons_zero, List.getElem?_cons_succ, List.set_cons_zero, List.set_cons_succ, S.rd, S.rdD, S.store, OS.opt, Option.bind_some, Option.map_some, Cell.view, S.cell, S.isLst, S.isDct, S.rdDct, dgetV, dixV, augV, S.put, S.rdLst, cmpV, opCmp, opEq_str, opEq_int, opEq_bl, opEq_non, opEq_lst, opEq_tup, pures_app, eqv_int, eqv_bl, eqv_lst, eqv_tup, eqvs_nil, eqvs_ints, eqvs_cons, eqv_str, opIn_ints, unders_ints, set_app0, set_app1, binV, opBin, ixV, opIx, biV, biSem, biLen, biInt, biAbs, biMax2, biMin2, biSum, biAll, biAny, biList, biTuple, List.mapM_cons, List.mapM_nil, bind, pure, Option.bind, truV, D.tru, isiV, D.kind, Ty.sub, List.any_cons, List.any_nil, decide_true, decide_false, Int.cast_ofNat_Int, beq_self_eq_true, Bool.false_and, Bool.true_or, Bool.false_or, Bool.or_false, Bool.and_true, Bool.true_and, Bool.and_self, if_true, if_false, Bool.false_eq_true, reduceCtorEq, Bool.not_true, Bool.not_false, finish, D.pure, D.pures, Cell.pure, List.take_length, and_self, not_true_eq_false, not_false_eq_true, plain_int', plain_lst, plain_tup, plain_non, plain_bl, D.plainsN, pures_ints, plain_ints, List.length_map, List.length_append, at1, at2, at3, at4, at5, muV, muSem, muApp, setIx, S.fz, perm, List.getD_cons_zero, List.getD_cons_succ, $as,*])
/-! ### k67: a number moved -/
def goodB (b a : Nat) (many : Int) (d : D) : Bool := match d with
  | .tup [.int r, .int l, .int x, .int y] => r == (b : Int) && (l == (a : Int) && (decide (x ≤ many) && decide (many ≤ y)))
  | _ => false
theorem good_rows {c : List Mem} {b a : Nat} {many : Int} (hb : b < c.length) (ha : a < c.length) (hab : a ≠ b) {x y : Int} (hm : movesR c b a = some (x, y)) (h1 : x ≤ many) (h2 : many ≤ y) : (twoL c).filter (goodB b a many) = [.tup [.int b, .int a, .int x, .int y]] := by
  have e1 : (twoL c).filter (goodB b a many) = (List.range c.length).flatMap fun r => (List.range c.length).flatMap fun l => (rowL c r l).filter (goodB b a many) := by
    unfold twoL
    rw [List.filter_flatMap]
    exact flat_congrS fun r _ => List.filter_flatMap ..
  have no : ∀ r l : Nat, ¬ (r = b ∧ l = a) → (rowL c r l).filter (goodB b a many) = [] := fun r l h => List.filter_eq_nil_iff.mpr fun d hd hg => by
    obtain ⟨u, v, rfl⟩ := row_mem hd
    simp only [goodB, Bool.and_eq_true, beq_iff_eq] at hg
    exact h ⟨by omega, by omega⟩
  rw [e1, flat_single (List.range c.length) b List.nodup_range (List.mem_range.mpr hb) fun r hr hne => List.flatMap_eq_nil_iff.mpr fun l hl => no r l fun q => hne q.1,
    flat_single (List.range c.length) a List.nodup_range (List.mem_range.mpr ha) fun l hl hne => no b l fun q => hne q.2]
  have e2 : rowL c b a = [.tup [.int b, .int a, .int x, .int y]] := by
    unfold rowL
    rw [if_neg (Ne.symm hab), hm]
  rw [e2, List.filter_cons]
  have e3 : goodB b a many (.tup [.int b, .int a, .int x, .int y]) = true := by
    simp only [goodB, beq_self_eq_true, Bool.true_and, Bool.and_eq_true, decide_eq_true_eq]
    exact ⟨h1, h2⟩
  rw [if_pos e3]
  rfl
section
variable {st : List Cell} {c : List Mem}
theorem moved_right_ok (h : Club c) (hP : PB c) (hn : ∀ m ∈ c, m.n ≤ 60) (hd : ∀ m ∈ c, m.d ≤ 4 * 10 ^ 29) {p n : Nat} {x : Cell} (hp : p < st.length) (hx : Bg x (n + 3)) :
    ∃ y, f__law_moved_right [.obj p, clubD c] (st.set p x) = .ok (.d (.bl true)) (st.set p y) ∧ Bg y n := by
  have hl := h.few
  have h0 : 0 < c.length := List.length_pos_iff.mpr h.some
  have hw60 : ((c.length : Nat) : Int) < 2 ^ 200 := Int.lt_of_le_of_lt (show ((c.length : Nat) : Int) ≤ 60 by omega) (by decide)
  obtain ⟨r1, y1, e1, a1, b1, q1⟩ := draw_ok (st := st) hp (n := n + 2) hx (wide := (c.length : Nat)) (by omega) hw60
  obtain ⟨r2, y2, e2, a2, b2, q2⟩ := draw_ok (st := st) hp (n := n + 1) q1 (wide := (c.length : Nat)) (by omega) hw60
  obtain ⟨a, ha⟩ : ∃ a : Nat, r1 = a := ⟨r1.toNat, by omega⟩
  obtain ⟨b, hb⟩ : ∃ b : Nat, r2 = b := ⟨r2.toNat, by omega⟩
  subst ha hb
  have ha : a < c.length := by omega
  have hb : b < c.length := by omega
  have g1 : atI (c.map Mem.D) (a : Int) = some (mAt c a).D := atI_nat (mAt_get ha)
  have g2 : atI (c.map Mem.D) (b : Int) = some (mAt c b).D := atI_nat (mAt_get hb)
  simp only [Mem.D] at g1 g2
  by_cases hab : a = b
  · subst hab
    refine ⟨y2, ?_, q2.mono (by omega)⟩
    unfold f__law_moved_right
    simp_arith [b__law_moved_right, clubD, e1, e2]
  · have hq : ((a : Int) == (b : Int)) = false := by simp; omega
    by_cases hz : (mAt c b).n = 0
    · refine ⟨y2, ?_, q2.mono (by omega)⟩
      unfold f__law_moved_right
      simp_arith [b__law_moved_right, clubD, e1, e2, hq, g2, hz]
    · have hzq : ((mAt c b).n == (0 : Int)) = false := by simp; exact hz
      have kb := at_ok h hb
      have ka := at_ok h ha
      have nb := hn _ (List.mem_of_getElem? (mAt_gS hb))
      have na := hn _ (List.mem_of_getElem? (mAt_gS ha))
      have kb0 := kb.2.1
      have ka0 := ka.2.1
      obtain ⟨r3, y3, e3, a3, b3, q3⟩ := draw_ok (st := st) hp (n := n) q2 (wide := (mAt c b).n) (by omega) (Int.lt_of_le_of_lt nb (by decide))
      obtain ⟨many, hm⟩ : ∃ many : Int, 1 + r3 = many := ⟨_, rfl⟩
      have m1 : 1 ≤ many := by omega
      have m2 : many ≤ (mAt c b).n := by omega
      refine ⟨y3, ?_, q3⟩
      have hWc := moved_club h ha hb hab m1 m2 (by omega)
      have hWl : leftN (movedC c a b many) = 0 := by rw [moved_left ha hb hab]; exact hP.2
      obtain ⟨X, Y, hmv, k1, k2⟩ := moved_moves hP ha hb hab m1 ka0 (many := many)
      have hgood := good_rows (c := movedC c a b many) (b := b) (a := a) (by rw [moved_len]; exact hb) (by rw [moved_len]; exact ha) hab hmv k1 k2
      have hWd : ∀ m ∈ movedC c a b many, m.d ≤ 4 * 10 ^ 29 := fun m hm => by
        unfold movedC at hm
        rcases List.mem_or_eq_of_mem_set hm with q | q
        · rcases List.mem_or_eq_of_mem_set q with q | q
          · exact hd m q
          · rw [q]; have := hd (mAt c a) (List.mem_of_getElem? (mAt_gS ha)); exact this
        · rw [q]; have := hd (mAt c b) (List.mem_of_getElem? (mAt_gS hb)); exact this
      have eW1 : (c.map Mem.D).set a (.tup [.int (mAt c a).d, .str (wd (mAt c a).w), .int ((mAt c a).n + many)]) = (c.set a ⟨(mAt c a).d, (mAt c a).w, (mAt c a).n + many⟩).map Mem.D := by rw [List.map_set]; rfl
      have eW2 : ((c.set a ⟨(mAt c a).d, (mAt c a).w, (mAt c a).n + many⟩).map Mem.D).set b (.tup [.int (mAt c b).d, .str (wd (mAt c b).w), .int ((mAt c b).n - many)]) = (movedC c a b many).map Mem.D := by unfold movedC; exact (List.map_set (f := Mem.D) (i := b) (a := ⟨(mAt c b).d, (mAt c b).w, (mAt c b).n - many⟩)).symm
      have hlW : (movedC c a b many).length = c.length := moved_len
      have f1 := two_ok (st := st.set p y3) hWc hWl
      have hSc := str_club hWc hWd
      have f2 := two_ok (st := st.set p y3) hSc (by rw [str_left]; exact hWl)
      rw [str_two] at f2
      have hlog : ∀ m ∈ movedC c a b many, m.d.natAbs.log2 ≤ 100 := fun m hm => log_lt (hWc.ok m hm).1.1 (Int.lt_of_le_of_lt (hWd m hm) (by decide))
      have h0W : movedC c a b many ≠ [] := hWc.some
      generalize movedC c a b many = W at *
      have l2 : ev lc__law_moved_right_2 ⟨[.d (.obj p), .d (clubD c), .d (.int a), .d (.int b), .d (.int many), .own (.lst (W.map Mem.D)), .un, .un, .un], st.set p y3⟩ = .ok (.new (.lst [.tup [.int b, .int a, .int X, .int Y]])) ⟨[.d (.obj p), .d (clubD c), .d (.int a), .d (.int b), .d (.int many), .d (.lst (W.map Mem.D)), .un, .un, .un], st.set p y3⟩ := by
        rw [← hgood]
        have hlen : (twoL W).length ≤ 3600 := by
          have := two_len W W.length W.length
          have h60 : W.length * W.length ≤ 3600 := Nat.le_trans (Nat.mul_le_mul (show W.length ≤ 60 by omega) (show W.length ≤ 60 by omega)) (by decide)
          exact Nat.le_trans this h60
        have := lc_filt (own := [("row", 8)]) (e := .var 8) (g := .nm 8) (src := .seq (.call "two_numbers" f_two_numbers (.cons (.var 5) .nil))) (c := .and (.cmp .Eq (.ix (.var 8) (.int 0)) (.var 3)) (.and (.cmp .Eq (.ix (.var 8) (.int 1)) (.var 2)) (.cmp2 .LtE .LtE (.ix (.var 8) (.int 2)) (.var 4) (.ix (.var 8) (.int 3)))))
          (s := ⟨[.d (.obj p), .d (clubD c), .d (.int a), .d (.int b), .d (.int many), .own (.lst (W.map Mem.D)), .un, .un, .un], st.set p y3⟩) (s0 := ⟨[.d (.obj p), .d (clubD c), .d (.int a), .d (.int b), .d (.int many), .d (.lst (W.map Mem.D)), .un, .un, .un], st.set p y3⟩) (twoL W) (fun d => d) (goodB b a many) (fun d => d) ?_ (big_le (by omega)) rfl fun d hd => ⟨_, rfl, rfl, ?_, fun _ => ?_⟩
        · rw [List.map_id'] at this
          exact this
        · unfold clubD at f1
          simp_arith [f1, List.map_id']
        · obtain ⟨r, l, u, v, rfl⟩ := two_mem hd
          have t4 : atI [D.int r, .int l, .int u, .int v] 3 = some (.int v) := rfl
          have t3 : atI [D.int r, .int l, .int u, .int v] 2 = some (.int u) := rfl
          have t2 : atI [D.int r, .int l, .int u, .int v] 1 = some (.int l) := rfl
          have t1 : atI [D.int r, .int l, .int u, .int v] 0 = some (.int r) := rfl
          show _ = O.ok ((r : Int) == (b : Int) && ((l : Int) == (a : Int) && (decide (u ≤ many) && decide (many ≤ v)))) _
          cases z1 : ((r : Int) == (b : Int)) with
          | false => simp_arith [hideSl, z1, t1, t2, t3, t4]
          | true =>
            cases z2 : ((l : Int) == (a : Int)) with
            | false => simp_arith [hideSl, z1, z2, t1, t2, t3, t4]
            | true =>
              by_cases z3 : u ≤ many
              · simp_arith [hideSl, z1, z2, z3, t1, t2, t3, t4]
              · simp_arith [hideSl, z1, z2, z3, t1, t2, t3, t4]
        · obtain ⟨r, l, u, v, rfl⟩ := two_mem hd
          simp_arith [hideSl]
      have l3 : ∀ G : SV, ev lc__law_moved_right_1 ⟨[.d (.obj p), .d (clubD c), .d (.int a), .d (.int b), .d (.int many), .d (.lst (W.map Mem.D)), G, .un, .un], st.set p y3⟩ = .ok (.new (.lst ((strC W).map Mem.D))) ⟨[.d (.obj p), .d (clubD c), .d (.int a), .d (.int b), .d (.int many), .d (.lst (W.map Mem.D)), G, .un, .un], st.set p y3⟩ := fun G => by
        unfold strC
        rw [List.map_map]
        refine lc_map W Mem.D (fun m => (⟨2 * m.d + 5, m.w, m.n⟩ : Mem).D) ?_ (big_le (by omega)) rfl fun m hm => ⟨_, rfl, rfl, ?_⟩
        · simp_arith [hideSl]
        · have hg := hlog m hm
          have hg2 : (2 : Int).natAbs.log2 + m.d.natAbs.log2 < 1000000 := by
            have : (2 : Int).natAbs.log2 = 1 := by decide
            omega
          simp_arith [hideSl, Mem.D, hg2]
      have pl : D.plainsN 59 (twoL W) = true := (plainsN_iff _ _).mpr fun d hd => by
        obtain ⟨r, l, u, v, rfl⟩ := two_mem hd
        show D.plainsN 58 [.int r, .int l, .int u, .int v] = true
        simp only [D.plainsN, plain_int', Bool.and_self]
      have ql := eqvs_refl 59 _ pl
      have i1 : ixN c.length (a : Int) = some a := ixN_nat' ha
      have i2 : ixN c.length (b : Int) = some b := ixN_nat' hb
      have hls : (c.set a ⟨(mAt c a).d, (mAt c a).w, (mAt c a).n + many⟩).length = c.length := List.length_set
      generalize c.set a ⟨(mAt c a).d, (mAt c a).w, (mAt c a).n + many⟩ = V at *
      unfold clubD at f1 f2 l2 l3
      generalize (strC W).map Mem.D = Z at *
      generalize twoL W = TW at *
      unfold f__law_moved_right
      simp_arith [b__law_moved_right, clubD, e1, e2, hq, g2, hzq, e3, hm, g1, i1, i2, eW1, eW2, hls, l2, l3, f1, f2, pl, ql]
end

end G4

namespace G4
open PySem PySem.Spec PyProof.Rows L2
local macro_rules
  | `(tactic| simp_arith [$as,*]) => `(tactic| simp -implicitDefEqProofs only [tl_table_of_1, tl_table_of_2, tl_table_of_3, tl_one_number_1, tl_one_number_2, tl_moves_of_1, tl_moves_of_2, tl_two_numbers_1, tl_two_numbers_2, tl_two_numbers_3, tl_one_came_1, tl_one_came_2, tl_one_day_1, tl_one_day_2, tl_one_day_3, tl_one_day_4, tl__law_stirred_1, tl__law_stirred_2, tl__law_draw_1, tl__law_draw_2, tl__law_story_1, tl__law_story_2, tl__law_number_right_1, tl__law_number_right_2, tl__law_number_right_3, tl__law_number_right_4, tl__law_number_right_5, tl__law_came_right_1, tl__law_came_right_2, tl__law_came_right_3, tl__law_came_right_4, tl__law_day_right_1, tl__law_day_right_2, tl__law_day_right_3, tl__law_day_right_4, tl__law_day_right_5, tl__law_day_right_6, tl__law_moved_right_1, tl__law_moved_right_2, tl__law_moved_right_3, tl__law_moved_right_4, tl__law_moved_right_5, tl__law_moved_right_6, tl__law_moved_right_7, ↓bnd_eq, ↓off_eq, ↓thn_eq, run_eq, fin_nx, fin_rt, fin_ex, S.hide, hideSl, exms, exm, ev, evT, evs, evOs, evo, evc, evSrc, evPar, hb_ok, hb_ex, ho_ok, ho_ex, ht_nx, ht_rt, ht_ex, tb_nx, tb_rt, tb_ex, hd_setB, hd_setT, hd_retT, D.flat, opd_d, opd_pl, opd_lst, opd_ex, val_d, val_lst, List.append_assoc, List.length_set, gc_push, gc_id, take_push, take_id, get_app0, get_app1, get_app2, isNew0, isNew1, isNew_int, isNew_str, isNew_bl, isNew_non, isNew_tup, isNew_lst, keep_un, keep_int, keep_bl, keep_non, keep_str, keep_scr, keep_obj, keep_own_lst, keep_own_dK, pureK_nil, keep_lst, keep_tup, D.unders, ne_succ, ne_succ1, eq_self, nodup2, nodup3, List.filterMap_cons, List.filterMap_nil, putPar, D.under, List.nodup_cons, List.mem_cons, List.not_mem_nil, or_self, or_false, Nat.reduceEqDiff, List.nodup_nil, true_and, and_true, bits10, Int.reduceMul, Int.reduceLE, Int.reduceLT, Int.reducePow, Int.reduceAdd, Int.reduceSub, Int.reduceNeg, Int.reduceToNat, val_dK, putTs_nil, putTs_nm, putTs_sub, val_ex, val_pl, valPl_lst, valPl_d, opt_some, toO_ok, toO_ex, asBl_ok, List.map_cons, List.map_nil, List.length_cons, List.length_nil, Nat.reduceAdd, Nat.reduceSub, Nat.zero_add, List.replicate, List.cons_append, List.nil_append, List.getElem?_cons_zero, List.getElem?_cons_succ, List.set_cons_zero, List.set_cons_succ, S.rd, S.rdD, S.store, OS.opt, Option.bind_some, Option.map_some, Cell.view, S.cell, S.isLst, S.isDct, S.rdDct, dgetV, dixV, augV, S.put, S.rdLst, cmpV, opCmp, opEq_str, opEq_int, opEq_bl, opEq_non, opEq_lst, opEq_tup, pures_app, eqv_int, eqv_bl, eqv_lst, eqv_tup, eqvs_nil, eqvs_ints, eqvs_cons, eqv_str, opIn_ints, unders_ints, set_app0, set_app1, binV, opBin, ixV, opIx, biV, biSem, biLen, biInt, biAbs, biMax2, biMin2, biSum, biAll, biAny, biList, biTuple, List.mapM_cons, List.mapM_nil, bind, pure, Option.bind, truV, D.tru, isiV, D.kind, Ty.sub, List.any_cons, List.any_nil, decide_true, decide_false, Int.cast_ofNat_Int, beq_self_eq_true, Bool.false_and, Bool.true_or, Bool.false_or, Bool.or_false, Bool.and_true, Bool.true_and, Bool.and_self, if_true, if_false, Bool.false_eq_true, reduceCtorEq, Bool.not_true, Bool.not_false, finish, D.pure, D.pures, Cell.pure, List.take_length, and_self, not_true_eq_false, not_false_eq_true, plain_int', plain_lst, plain_tup, plain_non, plain_bl, D.plainsN, pures_ints, plain_ints, List.length_map, List.length_append, at1, at2, at3, at4, at5, muV, muSem, muApp, setIx, S.fz, perm, List.getD_cons_zero, List.getD_cons_succ, $as,*])
/-! ### slips: days on which one can have joined; the plain part -/
abbrev MOSTD : Int := 1000000000000000000000000000000
def strB : List Int → Int → List (Int × Int)
  | [], _ => []
  | d :: ds, f => (if f < d then [(f, d - 1)] else []) ++ ((d, d) :: strB ds (d + 1))
def strE : List Int → Int → Int
  | [], f => f
  | d :: ds, _ => strE ds (d + 1)
def strF (ds : List Int) (f : Int) : List (Int × Int) := strB ds f ++ (if strE ds f ≤ MOSTD then [(strE ds f, MOSTD)] else [])
def addS (pos : Int → Bool) (R : List (Int × Int)) (x : Int × Int) : List (Int × Int) := if pos x.1 then (match R.getLast? with
  | some p => if p.2 + 1 = x.1 then R.dropLast ++ [(p.1, x.2)] else R ++ [x]
  | none => R ++ [x]) else R
def oneO (ds : List Int) (pos : Int → Bool) : List (Int × Int) := (strF ds 0).foldl (addS pos) []
structure SpO (pos : Int → Bool) (R : List (Int × Int)) (F : Int) : Prop where
  pw : R.Pairwise fun p q => p.2 + 1 < q.1
  lo : ∀ p ∈ R, 0 ≤ p.1 ∧ p.1 ≤ p.2 ∧ p.2 < F
  yes : ∀ p ∈ R, ∀ t, p.1 ≤ t → t ≤ p.2 → pos t = true
  left : ∀ p ∈ R, 0 ≤ p.1 - 1 → pos (p.1 - 1) = false
  right : ∀ p ∈ R, p.2 + 1 < F → pos (p.2 + 1) = false
  cov : ∀ t, 0 ≤ t → t < F → pos t = true → ∃ p ∈ R, p.1 ≤ t ∧ t ≤ p.2
theorem SpO.nil (pos : Int → Bool) : SpO pos [] 0 := ⟨.nil, fun p h => (by cases h), fun p h => (by cases h), fun p h => (by cases h), fun p h => (by cases h), fun t h1 h2 => by omega⟩
theorem SpO.push {pos : Int → Bool} {R : List (Int × Int)} {F L : Int} (I : SpO pos R F) (h0 : 0 ≤ F) (hL : F ≤ L) (hc : ∀ t, F ≤ t → t ≤ L → pos t = pos F) (hp : pos F = true) (hn : 0 ≤ F - 1 → pos (F - 1) = false) : SpO pos (R ++ [(F, L)]) (L + 1) := by
  have gap : ∀ p ∈ R, p.2 + 1 < F := fun p hpR => by
    obtain ⟨k1, k2, k3⟩ := I.lo p hpR
    rcases Int.lt_or_le (p.2 + 1) F with z | z
    · exact z
    · have e : p.2 = F - 1 := by omega
      have := I.yes p hpR p.2 k2 (Int.le_refl _)
      rw [e, hn (by omega)] at this
      cases this
  refine ⟨?_, fun p hq => ?_, fun p hq t h1 h2 => ?_, fun p hq h => ?_, fun p hq h => ?_, fun t h1 h2 ht => ?_⟩
  · rw [List.pairwise_append]
    exact ⟨I.pw, List.pairwise_singleton _ _, fun p hq q hr => by rw [List.mem_singleton.mp hr]; exact gap p hq⟩
  · rcases List.mem_append.mp hq with q | q
    · obtain ⟨k1, k2, k3⟩ := I.lo p q
      exact ⟨k1, k2, by omega⟩
    · rw [List.mem_singleton.mp q]; exact ⟨h0, hL, by show L < L + 1; omega⟩
  · rcases List.mem_append.mp hq with q | q
    · exact I.yes p q t h1 h2
    · rw [List.mem_singleton.mp q] at h1 h2
      rw [hc t h1 h2]; exact hp
  · rcases List.mem_append.mp hq with q | q
    · exact I.left p q h
    · rw [List.mem_singleton.mp q] at h ⊢; exact hn h
  · rcases List.mem_append.mp hq with q | q
    · exact I.right p q (gap p q)
    · rw [List.mem_singleton.mp q] at h; exact absurd h (by show ¬ L + 1 < L + 1; omega)
  · rcases Int.lt_or_le t F with z | z
    · obtain ⟨p, hq, k⟩ := I.cov t h1 z ht
      exact ⟨p, List.mem_append_left _ hq, k⟩
    · exact ⟨(F, L), List.mem_append_right _ (List.mem_singleton.mpr rfl), z, by show t ≤ L; omega⟩
theorem SpO.step {pos : Int → Bool} {R : List (Int × Int)} {F L : Int} (I : SpO pos R F) (h0 : 0 ≤ F) (hL : F ≤ L) (hc : ∀ t, F ≤ t → t ≤ L → pos t = pos F) : SpO pos (addS pos R (F, L)) (L + 1) := by
  unfold addS
  cases hp : pos F with
  | false =>
    rw [if_neg Bool.false_ne_true]
    refine ⟨I.pw, fun p hq => ?_, I.yes, I.left, fun p hq h => ?_, fun t h1 h2 ht => ?_⟩
    · obtain ⟨k1, k2, k3⟩ := I.lo p hq
      exact ⟨k1, k2, by omega⟩
    · obtain ⟨k1, k2, k3⟩ := I.lo p hq
      rcases Int.lt_or_le (p.2 + 1) F with z | z
      · exact I.right p hq z
      · rw [hc _ z (by omega)]; exact hp
    · rcases Int.lt_or_le t F with z | z
      · exact I.cov t h1 z ht
      · rw [hc t z (by omega), hp] at ht; cases ht
  | true =>
    rw [if_pos rfl]
    cases q : R.getLast? with
    | none =>
      have e : R = [] := List.getLast?_eq_none_iff.mp q
      subst e
      refine I.push h0 hL hc hp fun h => ?_
      cases z : pos (F - 1) with
      | false => rfl
      | true =>
        obtain ⟨p, hq, _⟩ := I.cov (F - 1) h (by omega) z
        cases hq
    | some p =>
      obtain ⟨A, rfl⟩ : ∃ A, R = A ++ [p] := List.getLast?_eq_some_iff.mp q
      show SpO pos (if p.2 + 1 = F then (A ++ [p]).dropLast ++ [(p.1, L)] else A ++ [p] ++ [(F, L)]) (L + 1)
      have hpR : p ∈ A ++ [p] := List.mem_append_right _ (List.mem_singleton.mpr rfl)
      obtain ⟨k1, k2, k3⟩ := I.lo p hpR
      obtain ⟨w1, w2, w3⟩ := List.pairwise_append.mp I.pw
      have below : ∀ x ∈ A, x.2 + 1 < p.1 := fun x hx => w3 x hx p (List.mem_singleton.mpr rfl)
      by_cases z : p.2 + 1 = F
      · rw [if_pos z, List.dropLast_concat]
        refine ⟨?_, fun x hq => ?_, fun x hq t h1 h2 => ?_, fun x hq h => ?_, fun x hq h => ?_, fun t h1 h2 ht => ?_⟩
        · rw [List.pairwise_append]
          exact ⟨w1, List.pairwise_singleton _ _, fun x hx y hy => by rw [List.mem_singleton.mp hy]; exact below x hx⟩
        · rcases List.mem_append.mp hq with q | q
          · obtain ⟨j1, j2, j3⟩ := I.lo x (List.mem_append_left _ q)
            exact ⟨j1, j2, by omega⟩
          · rw [List.mem_singleton.mp q]; exact ⟨k1, by show p.1 ≤ L; omega, by show L < L + 1; omega⟩
        · rcases List.mem_append.mp hq with q | q
          · exact I.yes x (List.mem_append_left _ q) t h1 h2
          · rw [List.mem_singleton.mp q] at h1 h2
            rcases Int.lt_or_le t F with y | y
            · exact I.yes p hpR t h1 (by omega)
            · rw [hc t y h2]; exact hp
        · rcases List.mem_append.mp hq with q | q
          · exact I.left x (List.mem_append_left _ q) h
          · rw [List.mem_singleton.mp q] at h ⊢; exact I.left p hpR h
        · rcases List.mem_append.mp hq with q | q
          · have := below x q
            exact I.right x (List.mem_append_left _ q) (by omega)
          · rw [List.mem_singleton.mp q] at h; exact absurd h (by show ¬ L + 1 < L + 1; omega)
        · rcases Int.lt_or_le t F with y | y
          · obtain ⟨x, hx, j1, j2⟩ := I.cov t h1 y ht
            rcases List.mem_append.mp hx with q | q
            · exact ⟨x, List.mem_append_left _ q, j1, j2⟩
            · rw [List.mem_singleton.mp q] at j1 j2
              exact ⟨(p.1, L), List.mem_append_right _ (List.mem_singleton.mpr rfl), j1, by show t ≤ L; omega⟩
          · exact ⟨(p.1, L), List.mem_append_right _ (List.mem_singleton.mpr rfl), by show p.1 ≤ t; omega, by show t ≤ L; omega⟩
      · rw [if_neg z]
        refine I.push h0 hL hc hp fun h => ?_
        cases y : pos (F - 1) with
        | false => rfl
        | true =>
          obtain ⟨x, hx, j1, j2⟩ := I.cov (F - 1) h (by omega) y
          rcases List.mem_append.mp hx with q | q
          · have := below x q
            omega
          · rw [List.mem_singleton.mp q] at j1 j2
            omega
theorem str_spec {pos : Int → Bool} {ds0 : List Int} (hc : ∀ f t, 0 ≤ f → f ≤ t → t ≤ MOSTD → (∀ d ∈ ds0, d < f ∨ t < d) → pos t = pos f) : ∀ (ds : List Int) (f : Int) (R : List (Int × Int)), 0 ≤ f → f ≤ MOSTD + 1 → (∀ d ∈ ds, f ≤ d ∧ d ≤ MOSTD) → ds.Pairwise (· < ·) → (∀ d ∈ ds0, d < f ∨ d ∈ ds) → SpO pos R f → SpO pos ((strF ds f).foldl (addS pos) R) (MOSTD + 1)
  | [], f, R, h0, hf, _, _, h0s, I => by
    unfold strF
    rw [strB, strE, List.nil_append]
    by_cases z : f ≤ MOSTD
    · rw [if_pos z]
      exact I.step h0 z fun t h1 h2 => hc f t h0 h1 h2 fun d hd => by
        rcases h0s d hd with q | q
        · exact .inl q
        · cases q
    · rw [if_neg z]
      have e : f = MOSTD + 1 := by omega
      rw [← e]
      exact I
  | d :: ds, f, R, h0, hf, hds, pw, h0s, I => by
    obtain ⟨p1, p2⟩ := List.pairwise_cons.mp pw
    obtain ⟨d1, d2⟩ := hds d List.mem_cons_self
    have e : strF (d :: ds) f = (if f < d then [(f, d - 1)] else []) ++ ((d, d) :: strF ds (d + 1)) := by
      unfold strF
      rw [strB, strE, List.append_assoc, List.cons_append]
    rw [e, List.foldl_append, List.foldl_cons]
    have hrest : ∀ x ∈ ds0, x < d + 1 ∨ x ∈ ds := fun x hx => by
      rcases h0s x hx with q | q
      · exact .inl (by omega)
      · rcases List.mem_cons.mp q with q | q
        · exact .inl (by omega)
        · exact .inr q
    have I1 : SpO pos ((if f < d then [(f, d - 1)] else []).foldl (addS pos) R) d := by
      by_cases z : f < d
      · rw [if_pos z]
        have := I.step h0 (show f ≤ d - 1 by omega) fun t h1 h2 => hc f t h0 h1 (by omega) fun x hx => by
          rcases h0s x hx with q | q
          · exact .inl q
          · rcases List.mem_cons.mp q with q | q
            · exact .inr (by omega)
            · have := p1 x q; exact .inr (by omega)
        rw [show d - 1 + 1 = d by omega] at this
        exact this
      · rw [if_neg z]
        have e : f = d := by omega
        rw [← e]
        exact I
    have I2 := I1.step (show 0 ≤ d by omega) (Int.le_refl d) fun t h1 h2 => by rw [show t = d by omega]
    exact str_spec hc ds (d + 1) _ (by omega) (by omega) (fun x hx => ⟨by have := p1 x hx; omega, (hds x (List.mem_cons_of_mem _ hx)).2⟩) p2 hrest I2
/-- whether one can have joined on a day -/
def posO (o : List Mem) (w : Bool) (n : Int) (t : Int) : Bool := decide (PB (o ++ [⟨t, w, n⟩]))
theorem pos_same {o : List Mem} {w : Bool} {n f t : Int} (hft : f ≤ t) (h : ∀ d ∈ dayS o, d < f ∨ t < d) : posO o w n t = posO o w n f := by
  have hm : ∀ m ∈ o, m.d < f ∨ t < m.d := fun m hm => h m.d (mem_dayS.mpr ⟨m, hm, rfl⟩)
  have e1 : o.filter (fun m => decide (m.d < t)) = o.filter (fun m => decide (m.d < f)) := List.filter_congr fun m hmm => decide_eq_decide.mpr (by have := hm m hmm; omega)
  have e2 : o.filter (fun m => decide (m.d ≤ t) && m.w) = o.filter (fun m => decide (m.d ≤ f) && m.w) := List.filter_congr fun m hmm => by rw [decide_eq_decide.mpr (show m.d ≤ t ↔ m.d ≤ f by have := hm m hmm; omega)]
  have e3 : slackT o t = slackT o f := by unfold slackT; rw [e1, e2]
  have e4 : ∀ s, (s < f ∨ t < s) → slackT (o ++ [⟨t, w, n⟩]) s = slackT (o ++ [⟨f, w, n⟩]) s := fun s hs => by
    rw [slack_app, slack_app]
    show slackT o s + (if t < s then n else 0) - (if t ≤ s ∧ w = true then 1 else 0) = slackT o s + (if f < s then n else 0) - (if f ≤ s ∧ w = true then 1 else 0)
    by_cases z : t < s
    · rw [if_pos z, if_pos (show f < s by omega)]
      have a : (t ≤ s ∧ w = true) ↔ (f ≤ s ∧ w = true) := ⟨fun q => ⟨by omega, q.2⟩, fun q => ⟨by omega, q.2⟩⟩
      simp only [a]
    · rw [if_neg z, if_neg (show ¬ f < s by omega), if_neg (fun q => by omega), if_neg (fun q => by omega)]
  have e5 : slackT (o ++ [⟨t, w, n⟩]) t = slackT (o ++ [⟨f, w, n⟩]) f := by
    rw [slack_app, slack_app, e3]
    show slackT o f + (if t < t then n else 0) - (if t ≤ t ∧ w = true then 1 else 0) = slackT o f + (if f < f then n else 0) - (if f ≤ f ∧ w = true then 1 else 0)
    have a : (t ≤ t ∧ w = true) ↔ (f ≤ f ∧ w = true) := ⟨fun q => ⟨Int.le_refl _, q.2⟩, fun q => ⟨Int.le_refl _, q.2⟩⟩
    rw [if_neg (Int.lt_irrefl t), if_neg (Int.lt_irrefl f)]
    simp only [a]
  have e6 : leftN (o ++ [⟨t, w, n⟩]) = leftN (o ++ [⟨f, w, n⟩]) := by rw [left_app, left_app]
  unfold posO
  refine decide_eq_decide.mpr ⟨fun q => ⟨fun m hmm => ?_, by rw [← e6]; exact q.2⟩, fun q => ⟨fun m hmm => ?_, by rw [e6]; exact q.2⟩⟩
  · rcases List.mem_append.mp hmm with k | k
    · rw [← e4 m.d (hm m k)]; exact q.1 m (List.mem_append_left _ k)
    · rw [List.mem_singleton.mp k]
      show 0 ≤ slackT _ f
      rw [← e5]
      exact q.1 ⟨t, w, n⟩ (List.mem_append_right _ (List.mem_singleton.mpr rfl))
  · rcases List.mem_append.mp hmm with k | k
    · rw [e4 m.d (hm m k)]; exact q.1 m (List.mem_append_left _ k)
    · rw [List.mem_singleton.mp k]
      show 0 ≤ slackT _ t
      rw [e5]
      exact q.1 ⟨f, w, n⟩ (List.mem_append_right _ (List.mem_singleton.mpr rfl))
theorem one_spec {o : List Mem} {w : Bool} {n : Int} (hd : ∀ m ∈ o, 0 ≤ m.d ∧ m.d ≤ MOSTD) : SpO (posO o w n) (oneO (dayS o) (posO o w n)) (MOSTD + 1) := by
  refine str_spec (ds0 := dayS o) (fun f t h0 hft ht h => pos_same hft h) (dayS o) 0 [] (Int.le_refl _) (by decide) (fun d hdd => ?_) (dayS_strict o) (fun d hdd => .inr hdd) (SpO.nil _)
  obtain ⟨m, hm, rfl⟩ := mem_dayS.mp hdd
  exact hd m hm
theorem oneO_perm {o o' : List Mem} (p : o.Perm o') (w : Bool) (n : Int) : oneO (dayS o) (posO o w n) = oneO (dayS o') (posO o' w n) := by
  have e1 : dayS o = dayS o' := int_extS (dayS_strict o) (dayS_strict o') fun x => by
    rw [mem_dayS, mem_dayS]
    exact ⟨fun ⟨m, hm, e⟩ => ⟨m, p.mem_iff.mp hm, e⟩, fun ⟨m, hm, e⟩ => ⟨m, p.mem_iff.mpr hm, e⟩⟩
  have e2 : posO o w n = posO o' w n := by
    funext t
    exact decide_eq_decide.mpr (PB_perm (p.append_right _))
  rw [e1, e2]

end G4

namespace G4
open PySem PySem.Spec PyProof.Rows L2
local macro_rules
  | `(tactic| simp_arith [$as,*]) => `(tactic| simp -implicitDefEqProofs only [tl_table_of_1, tl_table_of_2, tl_table_of_3, tl_one_number_1, tl_one_number_2, tl_moves_of_1, tl_moves_of_2, tl_two_numbers_1, tl_two_numbers_2, tl_two_numbers_3, tl_one_came_1, tl_one_came_2, tl_one_day_1, tl_one_day_2, tl_one_day_3, tl_one_day_4, tl__law_stirred_1, tl__law_stirred_2, tl__law_draw_1, tl__law_draw_2, tl__law_story_1, tl__law_story_2, tl__law_number_right_1, tl__law_number_right_2, tl__law_number_right_3, tl__law_number_right_4, tl__law_number_right_5, tl__law_came_right_1, tl__law_came_right_2, tl__law_came_right_3, tl__law_came_right_4, tl__law_day_right_1, tl__law_day_right_2, tl__law_day_right_3, tl__law_day_right_4, tl__law_day_right_5, tl__law_day_right_6, tl__law_moved_right_1, tl__law_moved_right_2, tl__law_moved_right_3, tl__law_moved_right_4, tl__law_moved_right_5, tl__law_moved_right_6, tl__law_moved_right_7, ↓bnd_eq, ↓off_eq, ↓thn_eq, run_eq, fin_nx, fin_rt, fin_ex, S.hide, hideSl, exms, exm, ev, evT, evs, evOs, evo, evc, evSrc, evPar, hb_ok, hb_ex, ho_ok, ho_ex, ht_nx, ht_rt, ht_ex, tb_nx, tb_rt, tb_ex, hd_setB, hd_setT, hd_retT, D.flat, opd_d, opd_pl, opd_lst, opd_ex, val_d, val_lst, List.append_assoc, List.length_set, gc_push, gc_id, take_push, take_id, get_app0, get_app1, get_app2, isNew0, isNew1, isNew_int, isNew_str, isNew_bl, isNew_non, isNew_tup, isNew_lst, keep_un, keep_int, keep_bl, keep_non, keep_str, keep_scr, keep_obj, keep_own_lst, keep_own_dK, pureK_nil, keep_lst, keep_tup, D.unders, ne_succ, ne_succ1, eq_self, nodup2, nodup3, List.filterMap_cons, List.filterMap_nil, putPar, D.under, List.nodup_cons, List.mem_cons, List.not_mem_nil, or_self, or_false, Nat.reduceEqDiff, List.nodup_nil, true_and, and_true, bits10, Int.reduceMul, Int.reduceLE, Int.reduceLT, Int.reducePow, Int.reduceAdd, Int.reduceSub, Int.reduceNeg, Int.reduceToNat, val_dK, putTs_nil, putTs_nm, putTs_sub, val_ex, val_pl, valPl_lst, valPl_d, opt_some, toO_ok, toO_ex, asBl_ok, List.map_cons, List.map_nil, List.length_cons, List.length_nil, Nat.reduceAdd, Nat.reduceSub, Nat.zero_add, List.replicate, List.cons_append, List.nil_append, List.getElem?_cons_zero, List.getElem?_cons_succ, List.set_cons_zero, List.set_cons_succ, S.rd, S.rdD, S.store, OS.opt, Option.bind_some, Option.map_some, Cell.view, S.cell, S.isLst, S.isDct, S.rdDct, dgetV, dixV, augV, S.put, S.rdLst, cmpV, opCmp, opEq_str, opEq_int, opEq_bl, opEq_non, opEq_lst, opEq_tup, pures_app, eqv_int, eqv_bl, eqv_lst, eqv_tup, eqvs_nil, eqvs_ints, eqvs_cons, eqv_str, opIn_ints, unders_ints, set_app0, set_app1, binV, opBin, ixV, opIx, biV, biSem, biLen, biInt, biAbs, biMax2, biMin2, biSum, biAll, biAny, biList, biTuple, List.mapM_cons, List.mapM_nil, bind, pure, Option.bind, truV, D.tru, isiV, D.kind, Ty.sub, List.any_cons, List.any_nil, decide_true, decide_false, Int.cast_ofNat_Int, beq_self_eq_true, Bool.false_and, Bool.true_or, Bool.false_or, Bool.or_false, Bool.and_true, Bool.true_and, Bool.and_self, if_true, if_false, Bool.false_eq_true, reduceCtorEq, Bool.not_true, Bool.not_false, finish, D.pure, D.pures, Cell.pure, List.take_length, and_self, not_true_eq_false, not_false_eq_true, plain_int', plain_lst, plain_tup, plain_non, plain_bl, D.plainsN, pures_ints, plain_ints, List.length_map, List.length_append, at1, at2, at3, at4, at5, muV, muSem, muApp, setIx, S.fz, perm, List.getD_cons_zero, List.getD_cons_succ, $as,*])
/-! ### slips: the walks of stretches_of and one_day -/
def prD (p : Int × Int) : D := .tup [.int p.1, .int p.2]
theorem ixN_last (n : Nat) : ixN (n + 1) (-1) = some n := by
  unfold ixN
  simp
  constructor <;> omega
theorem addS_len (pos : Int → Bool) (R : List (Int × Int)) (x : Int × Int) : (addS pos R x).length ≤ R.length + 1 := by
  unfold addS
  split
  · split
    · split
      · rw [List.length_append, List.length_dropLast]; simp <;> omega
      · simp
    · simp
  · omega
theorem strB_len : ∀ (ds : List Int) (f : Int), (strB ds f).length ≤ 2 * ds.length
  | [], f => Nat.le_refl _
  | d :: ds, f => by
    have := strB_len ds (d + 1)
    rw [strB, List.length_append, List.length_cons, List.length_cons]
    split <;> simp <;> omega
section
variable {st : List Cell} {c : List Mem}
theorem str_loopS {v0 : SV} : ∀ (ds : List Int) (f : Int) (F : List D) (v3 : SV), F.length + 2 * ds.length ≤ 500 →
    ∃ u3, forLoop (fun x s => T.asg (.nm 3) x s) (fun s => exms fb_stretches_of_1 s) st.length (ds.map .int) ⟨[v0, .own (.lst F), .d (.int f), v3], st⟩ = .nx ⟨[v0, .own (.lst (F ++ (strB ds f).map prD)), .d (.int (strE ds f)), u3], st⟩
  | [], f, F, v3, _ => ⟨v3, by rw [strB, strE, List.map_nil, List.map_nil, List.append_nil]; rfl⟩
  | d :: ds, f, F, v3, hF => by
    rw [List.length_cons] at hF
    have hb : F.length < big := Nat.lt_of_le_of_lt (show F.length ≤ 500 by omega) (by decide)
    have hb1 : F.length + 1 < big := Nat.lt_of_le_of_lt (show F.length + 1 ≤ 501 by omega) (by decide)
    obtain ⟨u3, ih⟩ := str_loopS (v0 := v0) ds (d + 1) (F ++ ((if f < d then [(f, d - 1)] else []) ++ [(d, d)]).map prD) (.d (.int d)) (by
      rw [List.length_append, List.length_map, List.length_append]
      split <;> simp <;> omega)
    refine ⟨u3, ?_⟩
    have body : exms fb_stretches_of_1 ⟨[v0, .own (.lst F), .d (.int f), .d (.int d)], st⟩ = .nx ⟨[v0, .own (.lst (F ++ ((if f < d then [(f, d - 1)] else []) ++ [(d, d)]).map prD)), .d (.int (d + 1)), .d (.int d)], st⟩ := by
      unfold fb_stretches_of_1
      by_cases z : f < d
      · simp_arith [z, hb, hb1, prD]
      · simp_arith [z, hb, prD]
    rw [List.map_cons, forLoop]
    simp only [asg_nm, List.set_cons_succ, List.set_cons_zero, body]
    rw [gc_id rfl]
    have e : F ++ (strB (d :: ds) f).map prD = F ++ ((if f < d then [(f, d - 1)] else []) ++ [(d, d)]).map prD ++ (strB ds (d + 1)).map prD := by
      rw [strB, List.append_assoc, ← List.map_append, List.append_assoc]
      rfl
    rw [e, strE]
    exact ih
theorem stretches_ok67 {ds : List Int} (hl : ds.length ≤ 60) : f_stretches_of [.lst (ds.map .int)] st = .ok (.new (.lst ((strF ds 0).map prD))) st := by
  obtain ⟨u3, l1⟩ := str_loopS (st := st) (v0 := .d (.lst (ds.map .int))) ds 0 [] .un (by simp; omega)
  rw [List.nil_append] at l1
  have hb := strB_len ds 0
  have hb2 : (strB ds 0).length < 1000 := by omega
  have pn : D.pures ((strB ds 0).map prD) = true := (pures_iffS _).mpr fun d hd => by
    obtain ⟨x, _, rfl⟩ := List.mem_map.mp hd
    rfl
  have eF : (strF ds 0).map prD = (strB ds 0).map prD ++ (if strE ds 0 ≤ MOSTD then [prD (strE ds 0, MOSTD)] else []) := by
    unfold strF
    rw [List.map_append]
    split <;> rfl
  rw [eF]
  unfold f_stretches_of
  by_cases z : strE ds 0 ≤ 1000000000000000000000000000000
  · rw [if_pos z]
    simp_arith [b_stretches_of, pn]
    rw [l1]
    simp_arith [k_MOST, z, D.items, starRD, hb2, pn, prD]
  · rw [if_neg z]
    simp_arith [b_stretches_of, pn]
    rw [l1]
    simp_arith [k_MOST, z, pn, List.append_nil]
theorem plain_prs (n : Nat) (R : List (Int × Int)) : D.plainsN (n + 1) (R.map prD) = true := (plainsN_iff _ _).mpr fun d hd => by
  obtain ⟨x, _, rfl⟩ := List.mem_map.mp hd
  show D.plainsN n [.int x.1, .int x.2] = true
  simp only [D.plainsN, plain_int', Bool.and_self]
theorem day_turn (h : Club c) {i : Nat} (hi : i < c.length) {R : List (Int × Int)} (hR : R.length ≤ 500) {f l : Int} {v2 : SV} :
    exms fb_one_day_1 ⟨[.d (clubD c), .d (.int i), v2, .d (.str (wd (mAt c i).w)), .d (.int (mAt c i).n), .own (.lst (R.map prD)), .d (.int f), .d (.int l)], st⟩ =
      .nx ⟨[.d (clubD c), .d (.int i), v2, .d (.str (wd (mAt c i).w)), .d (.int (mAt c i).n), .own (.lst ((addS (posO (othC c i) (mAt c i).w (mAt c i).n) R (f, l)).map prD)), .d (.int f), .d (.int l)], st⟩ := by
  have hl := h.few
  have e1 := told_ok (st := st) hl hi ⟨f, (mAt c i).w, (mAt c i).n⟩
  have e2 := conflict_in_ok (st := st) (c := toldC c i ⟨f, (mAt c i).w, (mAt c i).n⟩) (by rw [told_len hi]; omega)
  have hc := conf_cases (toldC c i ⟨f, (mAt c i).w, (mAt c i).n⟩)
  have hpp : PB (toldC c i ⟨f, (mAt c i).w, (mAt c i).n⟩) ↔ PB (othC c i ++ [⟨f, (mAt c i).w, (mAt c i).n⟩]) := PB_perm (told_perm _ _ _)
  have hb : R.length < big := Nat.lt_of_le_of_lt hR (by decide)
  unfold clubD at e1 e2
  simp only [Mem.D] at e1
  generalize toldC c i ⟨f, (mAt c i).w, (mAt c i).n⟩ = C at *
  have pl := plain_prs 58 R
  unfold fb_one_day_1 clubD
  rcases hc with ⟨hP, he⟩ | ⟨hP, a, t, he⟩
  · rw [he] at e2
    have hpos : posO (othC c i) (mAt c i).w (mAt c i).n f = true := decide_eq_true (hpp.mp hP)
    generalize posO (othC c i) (mAt c i).w (mAt c i).n = pos at *
    have ea : addS pos R (f, l) = match R.getLast? with
      | some p => if p.2 + 1 = f then R.dropLast ++ [(p.1, l)] else R ++ [(f, l)]
      | none => R ++ [(f, l)] := by
      unfold addS
      rw [if_pos hpos]
      try (cases R.getLast? <;> rfl)
    rw [ea]
    cases q : R.getLast? with
    | none =>
      have e : R = [] := List.getLast?_eq_none_iff.mp q
      subst e
      simp_arith [e1, e2, opIs, D.isNon, prD, show (0 : Nat) < big from by decide]
    | some p =>
      obtain ⟨A, rfl⟩ : ∃ A, R = A ++ [p] := List.getLast?_eq_some_iff.mp q
      have t1 : atI (A.map prD ++ [prD p]) (-1) = some (prD p) := atI_lastS (by simp)
      have t2 : D.eqvs (A.map prD ++ [prD p]) [] = false := by cases A <;> rfl
      have t3 : (A.map prD ++ [prD p]).set A.length (.tup [.int p.1, .int l]) = A.map prD ++ [.tup [.int p.1, .int l]] := by
        rw [List.set_append_right _ _ (by rw [List.length_map]; exact Nat.le_refl _), List.length_map, Nat.sub_self]
        rfl
      have t4 := ixN_last A.length
      rw [List.map_append, List.map_cons, List.map_nil] at pl
      rw [List.length_append, List.length_singleton] at hb
      show _ = OS.nx ⟨[_, _, _, _, _, SV.own (Cell.lst ((if p.2 + 1 = f then (A ++ [p]).dropLast ++ [(p.1, l)] else A ++ [p] ++ [(f, l)]).map prD)), _, _], st⟩
      by_cases z : p.2 + 1 = f
      · have zq : (p.2 + 1 == f) = true := by simpa using z
        rw [if_pos z, List.dropLast_concat]
        simp only [List.map_append, List.map_cons, List.map_nil]
        simp only [prD] at t1 t2 t3 pl ⊢
        simp_arith [e1, e2, opIs, D.isNon, pl, t2, t1, zq, t4, t3]
      · have zq : (p.2 + 1 == f) = false := by simpa using z
        rw [if_neg z]
        simp only [List.map_append, List.map_cons, List.map_nil]
        simp only [prD] at t1 t2 t3 pl ⊢
        simp_arith [e1, e2, opIs, D.isNon, pl, t2, t1, zq, hb]
  · rw [he] at e2
    have hpos : posO (othC c i) (mAt c i).w (mAt c i).n f = false := decide_eq_false fun q => hP (hpp.mpr q)
    have ea : addS (posO (othC c i) (mAt c i).w (mAt c i).n) R (f, l) = R := by
      unfold addS
      rw [if_neg (by show ¬ posO (othC c i) (mAt c i).w (mAt c i).n f = true; rw [hpos]; exact Bool.false_ne_true)]
    rw [ea]
    simp_arith [e1, e2, opIs, D.isNon]
end

end G4

namespace G4
open PySem PySem.Spec PyProof.Rows L2
local macro_rules
  | `(tactic| simp_arith [$as,*]) => `(tactic| simp -implicitDefEqProofs only [tl_table_of_1, tl_table_of_2, tl_table_of_3, tl_one_number_1, tl_one_number_2, tl_moves_of_1, tl_moves_of_2, tl_two_numbers_1, tl_two_numbers_2, tl_two_numbers_3, tl_one_came_1, tl_one_came_2, tl_one_day_1, tl_one_day_2, tl_one_day_3, tl_one_day_4, tl__law_stirred_1, tl__law_stirred_2, tl__law_draw_1, tl__law_draw_2, tl__law_story_1, tl__law_story_2, tl__law_number_right_1, tl__law_number_right_2, tl__law_number_right_3, tl__law_number_right_4, tl__law_number_right_5, tl__law_came_right_1, tl__law_came_right_2, tl__law_came_right_3, tl__law_came_right_4, tl__law_day_right_1, tl__law_day_right_2, tl__law_day_right_3, tl__law_day_right_4, tl__law_day_right_5, tl__law_day_right_6, tl__law_moved_right_1, tl__law_moved_right_2, tl__law_moved_right_3, tl__law_moved_right_4, tl__law_moved_right_5, tl__law_moved_right_6, tl__law_moved_right_7, ↓bnd_eq, ↓off_eq, ↓thn_eq, run_eq, fin_nx, fin_rt, fin_ex, S.hide, hideSl, exms, exm, ev, evT, evs, evOs, evo, evc, evSrc, evPar, hb_ok, hb_ex, ho_ok, ho_ex, ht_nx, ht_rt, ht_ex, tb_nx, tb_rt, tb_ex, hd_setB, hd_setT, hd_retT, D.flat, opd_d, opd_pl, opd_lst, opd_ex, val_d, val_lst, List.append_assoc, List.length_set, gc_push, gc_id, take_push, take_id, get_app0, get_app1, get_app2, isNew0, isNew1, isNew_int, isNew_str, isNew_bl, isNew_non, isNew_tup, isNew_lst, keep_un, keep_int, keep_bl, keep_non, keep_str, keep_scr, keep_obj, keep_own_lst, keep_own_dK, pureK_nil, keep_lst, keep_tup, D.unders, ne_succ, ne_succ1, eq_self, nodup2, nodup3, List.filterMap_cons, List.filterMap_nil, putPar, D.under, List.nodup_cons, List.mem_cons, List.not_mem_nil, or_self, or_false, Nat.reduceEqDiff, List.nodup_nil, true_and, and_true, bits10, Int.reduceMul, Int.reduceLE, Int.reduceLT, Int.reducePow, Int.reduceAdd, Int.reduceSub, Int.reduceNeg, Int.reduceToNat, val_dK, putTs_nil, putTs_nm, putTs_sub, val_ex, val_pl, valPl_lst, valPl_d, opt_some, toO_ok, toO_ex, asBl_ok, List.map_cons, List.map_nil, List.length_cons, List.length_nil, Nat.reduceAdd, Nat.reduceSub, Nat.zero_add, List.replicate, List.cons_append, List.nil_append, List.getElem?_cons_zero, List.getElem?_cons_succ, List.set_cons_zero, List.set_cons_succ, S.rd, S.rdD, S.store, OS.opt, Option.bind_some, Option.map_some, Cell.view, S.cell, S.isLst, S.isDct, S.rdDct, dgetV, dixV, augV, S.put, S.rdLst, cmpV, opCmp, opEq_str, opEq_int, opEq_bl, opEq_non, opEq_lst, opEq_tup, pures_app, eqv_int, eqv_bl, eqv_lst, eqv_tup, eqvs_nil, eqvs_ints, eqvs_cons, eqv_str, opIn_ints, unders_ints, set_app0, set_app1, binV, opBin, ixV, opIx, biV, biSem, biLen, biInt, biAbs, biMax2, biMin2, biSum, biAll, biAny, biList, biTuple, List.mapM_cons, List.mapM_nil, bind, pure, Option.bind, truV, D.tru, isiV, D.kind, Ty.sub, List.any_cons, List.any_nil, decide_true, decide_false, Int.cast_ofNat_Int, beq_self_eq_true, Bool.false_and, Bool.true_or, Bool.false_or, Bool.or_false, Bool.and_true, Bool.true_and, Bool.and_self, if_true, if_false, Bool.false_eq_true, reduceCtorEq, Bool.not_true, Bool.not_false, finish, D.pure, D.pures, Cell.pure, List.take_length, and_self, not_true_eq_false, not_false_eq_true, plain_int', plain_lst, plain_tup, plain_non, plain_bl, D.plainsN, pures_ints, plain_ints, List.length_map, List.length_append, at1, at2, at3, at4, at5, muV, muSem, muApp, setIx, S.fz, perm, List.getD_cons_zero, List.getD_cons_succ, $as,*])
/-! ### slips: one_day; k67: another day -/
section
variable {st : List Cell} {c : List Mem}
theorem days_ok67 (hl : c.length < 64) : f_days_of [clubD c] st = .ok (.new (.lst ((dayS c).map .int))) st := by
  have e : daysL c = dayS c := (isort_strict (dayS_strict c) fun k => by
    rw [mem_dayS, decide_eq_true_eq, List.mem_map]).symm
  rw [← e]
  exact days_of_ok hl
def oneD (c : List Mem) (i : Nat) : List (Int × Int) := oneO (dayS (othC c i)) (posO (othC c i) (mAt c i).w (mAt c i).n)
theorem need_member67 {i : Nat} (hi : i < c.length) : f_need_member [clubD c, .int i] st = .ok (.d .non) st := by
  have h1 : (0 : Int) ≤ (i : Int) := by omega
  have h2 : (i : Int) < (c.length : Int) := by omega
  unfold f_need_member
  simp_arith [b_need_member, clubD, h1, h2]
theorem foldl_len (pos : Int → Bool) : ∀ (l : List (Int × Int)) (R : List (Int × Int)), (l.foldl (addS pos) R).length ≤ R.length + l.length
  | [], R => Nat.le_refl _
  | x :: l, R => by
    have h1 := foldl_len pos l (addS pos R x)
    have h2 := addS_len pos R x
    rw [List.foldl_cons, List.length_cons]
    omega
theorem strF_len {ds : List Int} (f : Int) (h : ds.length ≤ 60) : (strF ds f).length ≤ 121 := by
  have := strB_len ds f
  unfold strF
  rw [List.length_append]
  split <;> simp <;> omega
theorem dayS_len67 (o : List Mem) : (dayS o).length ≤ o.length := by
  have h1 := len_dayF o []
  have h2 : (dayS o).length = (o.foldl dayF []).length := by unfold dayS isort; rw [List.length_mergeSort]
  simp at h1
  omega
theorem day_loop (h : Club c) {i : Nat} (hi : i < c.length) {v2 : SV} : ∀ (l R : List (Int × Int)) (v6 v7 : SV), R.length + l.length ≤ 400 →
    ∃ u6 u7, forLoop (fun x s => T.asg (.tp [.nm 6, .nm 7]) x s) (fun s => exms fb_one_day_1 s) st.length (l.map prD) ⟨[.d (clubD c), .d (.int i), v2, .d (.str (wd (mAt c i).w)), .d (.int (mAt c i).n), .own (.lst (R.map prD)), v6, v7], st⟩ =
      .nx ⟨[.d (clubD c), .d (.int i), v2, .d (.str (wd (mAt c i).w)), .d (.int (mAt c i).n), .own (.lst ((l.foldl (addS (posO (othC c i) (mAt c i).w (mAt c i).n)) R).map prD)), u6, u7], st⟩
  | [], R, v6, v7, _ => ⟨v6, v7, rfl⟩
  | x :: l, R, v6, v7, hl => by
    rw [List.length_cons] at hl
    have e := day_turn (st := st) h hi (R := R) (by omega) (f := x.1) (l := x.2) (v2 := v2)
    have h2 := addS_len (posO (othC c i) (mAt c i).w (mAt c i).n) R x
    obtain ⟨u6, u7, ih⟩ := day_loop h hi (v2 := v2) l (addS (posO (othC c i) (mAt c i).w (mAt c i).n) R x) (.d (.int x.1)) (.d (.int x.2)) (by omega)
    refine ⟨u6, u7, ?_⟩
    have ea : ∀ s : S, T.asg (.tp [.nm 6, .nm 7]) (prD x) s = some ⟨(s.sl.set 6 (.d (.int x.1))).set 7 (.d (.int x.2)), s.st⟩ := fun s => asg_numS 6 7 _ _ s
    rw [List.map_cons, forLoop, ea]
    simp only [List.set_cons_succ, List.set_cons_zero, e]
    rw [gc_id rfl, List.foldl_cons]
    exact ih
theorem one_day_ok (h : Club c) {i : Nat} (hi : i < c.length) : f_one_day [clubD c, .int i] st = .ok (.new (.lst ((oneD c i).map prD))) st := by
  have hl := h.few
  obtain ⟨c1, c2⟩ := oth_D hi
  have ho := oth_len hi
  have e1 := need_club_ok (st := st) h
  have e2 := need_member67 (st := st) hi
  have e3 := days_ok67 (st := st) (c := othC c i) (by omega)
  have hdl := dayS_len67 (othC c i)
  have e4 := stretches_ok67 (st := st) (ds := dayS (othC c i)) (by omega)
  have hsl := strF_len (ds := dayS (othC c i)) 0 (by omega)
  obtain ⟨u6, u7, l1⟩ := day_loop (st := st) h hi (v2 := .d (.int (mAt c i).d)) (strF (dayS (othC c i)) 0) [] .un .un (by simp; omega)
  have hone : (strF (dayS (othC c i)) 0).foldl (addS (posO (othC c i) (mAt c i).w (mAt c i).n)) [] = oneD c i := rfl
  rw [hone] at l1
  have g5 : atI (c.map Mem.D) (i : Int) = some (mAt c i).D := atI_nat (mAt_get hi)
  simp only [Mem.D] at g5
  have b3 : (c.take i).length + (c.drop (i + 1)).length ≤ big := big_le (by have : (othC c i).length = (c.take i).length + (c.drop (i + 1)).length := List.length_append; omega)
  have eo : (c.take i).map Mem.D ++ (c.drop (i + 1)).map Mem.D = (othC c i).map Mem.D := by unfold othC; rw [List.map_append]
  have pn : D.pures ((oneD c i).map prD) = true := (pures_iffS _).mpr fun d hd => by
    obtain ⟨x, _, rfl⟩ := List.mem_map.mp hd
    rfl
  have uc := unders_mems st.length c
  generalize oneD c i = OD at *
  generalize othC c i = O at *
  generalize (strF (dayS O) 0).map prD = SF at *
  unfold clubD at e1 e2 e3 l1
  unfold f_one_day
  simp_arith [b_one_day, clubD, e1, e2, g5, asg_t3S, opSl, c1, c2, b3, eo, e3, e4]
  rw [show SV.own (Cell.lst ([] : List D)) = SV.own (Cell.lst (([] : List (Int × Int)).map prD)) from rfl, l1]
  simp_arith [pn]
end

end G4

namespace G4
open PySem PySem.Spec PyProof.Rows L2
local macro_rules
  | `(tactic| simp_arith [$as,*]) => `(tactic| simp -implicitDefEqProofs only [tl_table_of_1, tl_table_of_2, tl_table_of_3, tl_one_number_1, tl_one_number_2, tl_moves_of_1, tl_moves_of_2, tl_two_numbers_1, tl_two_numbers_2, tl_two_numbers_3, tl_one_came_1, tl_one_came_2, tl_one_day_1, tl_one_day_2, tl_one_day_3, tl_one_day_4, tl__law_stirred_1, tl__law_stirred_2, tl__law_draw_1, tl__law_draw_2, tl__law_story_1, tl__law_story_2, tl__law_number_right_1, tl__law_number_right_2, tl__law_number_right_3, tl__law_number_right_4, tl__law_number_right_5, tl__law_came_right_1, tl__law_came_right_2, tl__law_came_right_3, tl__law_came_right_4, tl__law_day_right_1, tl__law_day_right_2, tl__law_day_right_3, tl__law_day_right_4, tl__law_day_right_5, tl__law_day_right_6, tl__law_moved_right_1, tl__law_moved_right_2, tl__law_moved_right_3, tl__law_moved_right_4, tl__law_moved_right_5, tl__law_moved_right_6, tl__law_moved_right_7, ↓bnd_eq, ↓off_eq, ↓thn_eq, run_eq, fin_nx, fin_rt, fin_ex, S.hide, hideSl, exms, exm, ev, evT, evs, evOs, evo, evc, evSrc, evPar, hb_ok, hb_ex, ho_ok, ho_ex, ht_nx, ht_rt, ht_ex, tb_nx, tb_rt, tb_ex, hd_setB, hd_setT, hd_retT, D.flat, opd_d, opd_pl, opd_lst, opd_ex, val_d, val_lst, List.append_assoc, List.length_set, gc_push, gc_id, take_push, take_id, get_app0, get_app1, get_app2, isNew0, isNew1, isNew_int, isNew_str, isNew_bl, isNew_non, isNew_tup, isNew_lst, keep_un, keep_int, keep_bl, keep_non, keep_str, keep_scr, keep_obj, keep_own_lst, keep_own_dK, pureK_nil, keep_lst, keep_tup, D.unders, ne_succ, ne_succ1, eq_self, nodup2, nodup3, List.filterMap_cons, List.filterMap_nil, putPar, D.under, List.nodup_cons, List.mem_cons, List.not_mem_nil, or_self, or_false, Nat.reduceEqDiff, List.nodup_nil, true_and, and_true, bits10, Int.reduceMul, Int.reduceLE, Int.reduceLT, Int.reducePow, Int.reduceAdd, Int.reduceSub, Int.reduceNeg, Int.reduceToNat, val_dK, putTs_nil, putTs_nm, putTs_sub, val_ex, val_pl, valPl_lst, valPl_d, opt_some, toO_ok, toO_ex, asBl_ok, List.map_cons, List.map_nil, List.length_cons, List.length_nil, Nat.reduceAdd, Nat.reduceSub, Nat.zero_add, List.replicate, List.cons_append, List.nil_append, List.getElem?_cons_zero, List.getElem?_cons_succ, List.set_cons_zero, List.set_cons_succ, S.rd, S.rdD, S.store, OS.opt, Option.bind_some, Option.map_some, Cell.view, S.cell, S.isLst, S.isDct, S.rdDct, dgetV, dixV, augV, S.put, S.rdLst, cmpV, opCmp, opEq_str, opEq_int, opEq_bl, opEq_non, opEq_lst, opEq_tup, pures_app, eqv_int, eqv_bl, eqv_lst, eqv_tup, eqvs_nil, eqvs_ints, eqvs_cons, eqv_str, opIn_ints, unders_ints, set_app0, set_app1, binV, opBin, ixV, opIx, biV, biSem, biLen, biInt, biAbs, biMax2, biMin2, biSum, biAll, biAny, biList, biTuple, List.mapM_cons, List.mapM_nil, bind, pure, Option.bind, truV, D.tru, isiV, D.kind, Ty.sub, List.any_cons, List.any_nil, decide_true, decide_false, Int.cast_ofNat_Int, beq_self_eq_true, Bool.false_and, Bool.true_or, Bool.false_or, Bool.or_false, Bool.and_true, Bool.true_and, Bool.and_self, if_true, if_false, Bool.false_eq_true, reduceCtorEq, Bool.not_true, Bool.not_false, finish, D.pure, D.pures, Cell.pure, List.take_length, and_self, not_true_eq_false, not_false_eq_true, plain_int', plain_lst, plain_tup, plain_non, plain_bl, D.plainsN, pures_ints, plain_ints, List.length_map, List.length_append, at1, at2, at3, at4, at5, muV, muSem, muApp, setIx, S.fz, perm, List.getD_cons_zero, List.getD_cons_succ, $as,*])
/-! ### k67: another day -/
theorem three_day (d r : Int) (h0 : 0 ≤ r) (h1 : r < 3) (d0 : 0 ≤ d) (d1 : d ≤ 10 ^ 30) : ∃ t, atI [D.int 0, .int 1000000000000000000000000000000, .int d] r = some (.int t) ∧ 0 ≤ t ∧ t ≤ 10 ^ 30 := by
  have : r = 0 ∨ r = 1 ∨ r = 2 := by omega
  rcases this with rfl | rfl | rfl
  · exact ⟨0, rfl, by omega, by omega⟩
  · exact ⟨_, rfl, by omega, by omega⟩
  · exact ⟨d, rfl, d0, d1⟩
section
variable {st : List Cell} {c : List Mem}
theorem with_conf (h : Club c) {i : Nat} (hi : i < c.length) {t : Int} (h0 : 0 ≤ t) (h1 : t ≤ 10 ^ 30) : ∃ C : D, f_conflict_of [.lst ((wthC c i ⟨t, (mAt c i).w, (mAt c i).n⟩).map Mem.D)] st = .ok (.d C) st ∧ ((posO (othC c i) (mAt c i).w (mAt c i).n t = true ∧ C = .non) ∨ (posO (othC c i) (mAt c i).w (mAt c i).n t = false ∧ ∃ a b, C = .tup [.str a, .int b])) := by
  have e := conflict_of_okG (st := st) (wth_club h hi (m := ⟨t, (mAt c i).w, (mAt c i).n⟩) ⟨⟨h0, h1⟩, (at_ok h hi).2⟩)
  have hp : PB (wthC c i ⟨t, (mAt c i).w, (mAt c i).n⟩) ↔ PB (othC c i ++ [⟨t, (mAt c i).w, (mAt c i).n⟩]) := PB_perm (sortM_perm _)
  refine ⟨_, e, ?_⟩
  rcases conf_cases (wthC c i ⟨t, (mAt c i).w, (mAt c i).n⟩) with ⟨q, z⟩ | ⟨q, a, b, z⟩
  · exact .inl ⟨decide_eq_true (hp.mp q), z⟩
  · exact .inr ⟨decide_eq_false fun k => q (hp.mpr k), a, b, z⟩
theorem far_yes (h : Club c) {i : Nat} (hi : i < c.length) {t : Int} (h0 : 0 ≤ t) (h1 : t ≤ 10 ^ 30) (hp : posO (othC c i) (mAt c i).w (mAt c i).n t = true) {v0 v3 v6 v7 v8 v9 v10 v12 v13 : SV} :
    exms fb__law_day_right_2 ⟨[v0, .d (clubD c), .d (.int i), v3, .d (.str (wd (mAt c i).w)), .d (.int (mAt c i).n), v6, v7, v8, v9, v10, .d (.int t), v12, v13], st⟩ = .nx ⟨[v0, .d (clubD c), .d (.int i), v3, .d (.str (wd (mAt c i).w)), .d (.int (mAt c i).n), v6, v7, v8, v9, v10, .d (.int t), v12, v13], st⟩ := by
  have e1 := with_ok (st := st) h.few hi ⟨t, (mAt c i).w, (mAt c i).n⟩
  obtain ⟨C, e2, hC⟩ := with_conf (st := st) h hi h0 h1
  rcases hC with ⟨_, rfl⟩ | ⟨q, _⟩
  · unfold clubD at e1
    simp only [Mem.D] at e1
    generalize wthC c i ⟨t, (mAt c i).w, (mAt c i).n⟩ = W at *
    unfold fb__law_day_right_2 clubD
    simp_arith [e1, e2, opIs, D.isNon]
  · rw [hp] at q; cases q
theorem far_no (h : Club c) {i : Nat} (hi : i < c.length) {t : Int} (hp : 0 ≤ t → t ≤ 10 ^ 30 → posO (othC c i) (mAt c i).w (mAt c i).n t = false) {v0 v3 v6 v7 v8 v9 v10 v12 v13 : SV} :
    exms fb__law_day_right_1 ⟨[v0, .d (clubD c), .d (.int i), v3, .d (.str (wd (mAt c i).w)), .d (.int (mAt c i).n), v6, v7, v8, v9, v10, .d (.int t), v12, v13], st⟩ = .nx ⟨[v0, .d (clubD c), .d (.int i), v3, .d (.str (wd (mAt c i).w)), .d (.int (mAt c i).n), v6, v7, v8, v9, v10, .d (.int t), v12, v13], st⟩ := by
  by_cases h0 : 0 ≤ t
  · by_cases h1 : t ≤ 10 ^ 30
    · have h1' : t ≤ 1000000000000000000000000000000 := h1
      have e1 := with_ok (st := st) h.few hi ⟨t, (mAt c i).w, (mAt c i).n⟩
      obtain ⟨C, e2, hC⟩ := with_conf (st := st) h hi h0 h1
      rcases hC with ⟨q, _⟩ | ⟨_, a, b, rfl⟩
      · rw [hp h0 h1] at q; cases q
      · unfold clubD at e1
        simp only [Mem.D] at e1
        generalize wthC c i ⟨t, (mAt c i).w, (mAt c i).n⟩ = W at *
        unfold fb__law_day_right_1 clubD
        simp_arith [h0, h1', e1, e2, opIs, D.isNon]
    · have h1' : ¬ t ≤ 1000000000000000000000000000000 := h1
      unfold fb__law_day_right_1
      simp_arith [h0, h1']
  · unfold fb__law_day_right_1
    simp_arith [h0]
theorem ends_turn (h : Club c) {i : Nat} (hi : i < c.length) {p n : Nat} {x : Cell} (hp : p < st.length) (hx : Bg x (n + 1)) {R : List (Int × Int)} (I : SpO (posO (othC c i) (mAt c i).w (mAt c i).n) R (MOSTD + 1)) {q : Int × Int} (hq : q ∈ R) {v3 v6 v7 v10 v11 v12 v13 : SV} :
    ∃ y u11, exms fb__law_day_right_3 ⟨[.d (.obj p), .d (clubD c), .d (.int i), v3, .d (.str (wd (mAt c i).w)), .d (.int (mAt c i).n), v6, v7, .d (.int q.1), .d (.int q.2), v10, v11, v12, v13], st.set p x⟩ = .nx ⟨[.d (.obj p), .d (clubD c), .d (.int i), v3, .d (.str (wd (mAt c i).w)), .d (.int (mAt c i).n), v6, v7, .d (.int q.1), .d (.int q.2), v10, u11, v12, v13], st.set p y⟩ ∧ Bg y n := by
  obtain ⟨k1, k2, k3⟩ := I.lo q hq
  have k3 : q.2 < 1000000000000000000000000000000 + 1 := k3
  have k4 : q.2 ≤ 10 ^ 30 := by omega
  obtain ⟨r, y, e1, r0, r1, qy⟩ := draw_ok (st := st) hp (n := n) hx (wide := q.2 - q.1 + 1) (by omega) (Int.lt_of_le_of_lt (show q.2 - q.1 + 1 ≤ 10 ^ 30 + 1 by omega) (by decide))
  refine ⟨y, .d (.int (q.2 + 1)), ?_, qy⟩
  have y1 := far_yes (st := st.set p y) h hi (t := q.1) k1 (by omega) (I.yes q hq _ (Int.le_refl _) k2) (v0 := .d (.obj p)) (v3 := v3) (v6 := v6) (v7 := v7) (v8 := .d (.int q.1)) (v9 := .d (.int q.2)) (v10 := v10) (v12 := v12) (v13 := v13)
  have y2 := far_yes (st := st.set p y) h hi (t := q.2) (by omega) k4 (I.yes q hq _ k2 (Int.le_refl _)) (v0 := .d (.obj p)) (v3 := v3) (v6 := v6) (v7 := v7) (v8 := .d (.int q.1)) (v9 := .d (.int q.2)) (v10 := v10) (v12 := v12) (v13 := v13)
  have y3 := far_yes (st := st.set p y) h hi (t := q.1 + r) (by omega) (by omega) (I.yes q hq _ (by omega) (by omega)) (v0 := .d (.obj p)) (v3 := v3) (v6 := v6) (v7 := v7) (v8 := .d (.int q.1)) (v9 := .d (.int q.2)) (v10 := v10) (v12 := v12) (v13 := v13)
  have n1 := far_no (st := st.set p y) h hi (t := q.1 - 1) (fun h0 _ => I.left q hq h0) (v0 := .d (.obj p)) (v3 := v3) (v6 := v6) (v7 := v7) (v8 := .d (.int q.1)) (v9 := .d (.int q.2)) (v10 := v10) (v12 := v12) (v13 := v13)
  have n2 := far_no (st := st.set p y) h hi (t := q.2 + 1) (fun _ h1 => I.right q hq (by show q.2 + 1 < 1000000000000000000000000000000 + 1; omega)) (v0 := .d (.obj p)) (v3 := v3) (v6 := v6) (v7 := v7) (v8 := .d (.int q.1)) (v9 := .d (.int q.2)) (v10 := v10) (v12 := v12) (v13 := v13)
  have l1 : forLoop (fun x s => T.asg (.nm 11) x s) (fun s => exms fb__law_day_right_2 s) st.length [.int q.1, .int q.2, .int (q.1 + r)] ⟨[.d (.obj p), .d (clubD c), .d (.int i), v3, .d (.str (wd (mAt c i).w)), .d (.int (mAt c i).n), v6, v7, .d (.int q.1), .d (.int q.2), v10, v11, v12, v13], st.set p y⟩ = .nx ⟨[.d (.obj p), .d (clubD c), .d (.int i), v3, .d (.str (wd (mAt c i).w)), .d (.int (mAt c i).n), v6, v7, .d (.int q.1), .d (.int q.2), v10, .d (.int (q.1 + r)), v12, v13], st.set p y⟩ := by
    simp only [forLoop, asg_nm, List.set_cons_succ, List.set_cons_zero, y1, gc_id List.length_set, y2, y3]
  have l2 : forLoop (fun x s => T.asg (.nm 11) x s) (fun s => exms fb__law_day_right_1 s) st.length [.int (q.1 - 1), .int (q.2 + 1)] ⟨[.d (.obj p), .d (clubD c), .d (.int i), v3, .d (.str (wd (mAt c i).w)), .d (.int (mAt c i).n), v6, v7, .d (.int q.1), .d (.int q.2), v10, .d (.int (q.1 + r)), v12, v13], st.set p y⟩ = .nx ⟨[.d (.obj p), .d (clubD c), .d (.int i), v3, .d (.str (wd (mAt c i).w)), .d (.int (mAt c i).n), v6, v7, .d (.int q.1), .d (.int q.2), v10, .d (.int (q.2 + 1)), v12, v13], st.set p y⟩ := by
    simp only [forLoop, asg_nm, List.set_cons_succ, List.set_cons_zero, n1, gc_id List.length_set, n2]
  unfold fb__law_day_right_3
  simp_arith [e1]
  rw [l1]
  simp_arith []
  rw [l2]
  simp_arith []
end

end G4

namespace G4
open PySem PySem.Spec PyProof.Rows L2
local macro_rules
  | `(tactic| simp_arith [$as,*]) => `(tactic| simp -implicitDefEqProofs only [tl_table_of_1, tl_table_of_2, tl_table_of_3, tl_one_number_1, tl_one_number_2, tl_moves_of_1, tl_moves_of_2, tl_two_numbers_1, tl_two_numbers_2, tl_two_numbers_3, tl_one_came_1, tl_one_came_2, tl_one_day_1, tl_one_day_2, tl_one_day_3, tl_one_day_4, tl__law_stirred_1, tl__law_stirred_2, tl__law_draw_1, tl__law_draw_2, tl__law_story_1, tl__law_story_2, tl__law_number_right_1, tl__law_number_right_2, tl__law_number_right_3, tl__law_number_right_4, tl__law_number_right_5, tl__law_came_right_1, tl__law_came_right_2, tl__law_came_right_3, tl__law_came_right_4, tl__law_day_right_1, tl__law_day_right_2, tl__law_day_right_3, tl__law_day_right_4, tl__law_day_right_5, tl__law_day_right_6, tl__law_moved_right_1, tl__law_moved_right_2, tl__law_moved_right_3, tl__law_moved_right_4, tl__law_moved_right_5, tl__law_moved_right_6, tl__law_moved_right_7, ↓bnd_eq, ↓off_eq, ↓thn_eq, run_eq, fin_nx, fin_rt, fin_ex, S.hide, hideSl, exms, exm, ev, evT, evs, evOs, evo, evc, evSrc, evPar, hb_ok, hb_ex, ho_ok, ho_ex, ht_nx, ht_rt, ht_ex, tb_nx, tb_rt, tb_ex, hd_setB, hd_setT, hd_retT, D.flat, opd_d, opd_pl, opd_lst, opd_ex, val_d, val_lst, List.append_assoc, List.length_set, gc_push, gc_id, take_push, take_id, get_app0, get_app1, get_app2, isNew0, isNew1, isNew_int, isNew_str, isNew_bl, isNew_non, isNew_tup, isNew_lst, keep_un, keep_int, keep_bl, keep_non, keep_str, keep_scr, keep_obj, keep_own_lst, keep_own_dK, pureK_nil, keep_lst, keep_tup, D.unders, ne_succ, ne_succ1, eq_self, nodup2, nodup3, List.filterMap_cons, List.filterMap_nil, putPar, D.under, List.nodup_cons, List.mem_cons, List.not_mem_nil, or_self, or_false, Nat.reduceEqDiff, List.nodup_nil, true_and, and_true, bits10, Int.reduceMul, Int.reduceLE, Int.reduceLT, Int.reducePow, Int.reduceAdd, Int.reduceSub, Int.reduceNeg, Int.reduceToNat, val_dK, putTs_nil, putTs_nm, putTs_sub, val_ex, val_pl, valPl_lst, valPl_d, opt_some, toO_ok, toO_ex, asBl_ok, List.map_cons, List.map_nil, List.length_cons, List.length_nil, Nat.reduceAdd, Nat.reduceSub, Nat.zero_add, List.replicate, List.cons_append, List.nil_append, List.getElem?_cons_zero, List.getElem?_cons_succ, List.set_cons_zero, List.set_cons_succ, S.rd, S.rdD, S.store, OS.opt, Option.bind_some, Option.map_some, Cell.view, S.cell, S.isLst, S.isDct, S.rdDct, dgetV, dixV, augV, S.put, S.rdLst, cmpV, opCmp, opEq_str, opEq_int, opEq_bl, opEq_non, opEq_lst, opEq_tup, pures_app, eqv_int, eqv_bl, eqv_lst, eqv_tup, eqvs_nil, eqvs_ints, eqvs_cons, eqv_str, opIn_ints, unders_ints, set_app0, set_app1, binV, opBin, ixV, opIx, biV, biSem, biLen, biInt, biAbs, biMax2, biMin2, biSum, biAll, biAny, biList, biTuple, List.mapM_cons, List.mapM_nil, bind, pure, Option.bind, truV, D.tru, isiV, D.kind, Ty.sub, List.any_cons, List.any_nil, decide_true, decide_false, Int.cast_ofNat_Int, beq_self_eq_true, Bool.false_and, Bool.true_or, Bool.false_or, Bool.or_false, Bool.and_true, Bool.true_and, Bool.and_self, if_true, if_false, Bool.false_eq_true, reduceCtorEq, Bool.not_true, Bool.not_false, finish, D.pure, D.pures, Cell.pure, List.take_length, and_self, not_true_eq_false, not_false_eq_true, plain_int', plain_lst, plain_tup, plain_non, plain_bl, D.plainsN, pures_ints, plain_ints, List.length_map, List.length_append, at1, at2, at3, at4, at5, muV, muSem, muApp, setIx, S.fz, perm, List.getD_cons_zero, List.getD_cons_succ, $as,*])
/-! ### k67: another day, the whole -/
theorem evl_tail {A : List D} (h : A ≠ []) : D.eqvs A [] = false := by
  cases A with
  | nil => exact absurd rfl h
  | cons a l => rfl
def samB (w : Bool) (n : Int) (m : Mem) : Bool := D.eqvs [.str (wd m.w), .int m.n] [.str (wd w), .int n]
theorem samB_self (w : Bool) (n t : Int) : samB w n ⟨t, w, n⟩ = true := by
  show D.eqvs [.str (wd w), .int n] [.str (wd w), .int n] = true
  simp [D.eqvs, D.eqv]
section
variable {st : List Cell} {c : List Mem}
theorem lc_runS {own : List (Str × Nat)} {e : E} {g : T} {src : Src} {c : EO} {s s0 t : S} {items l : List D} (h1 : evSrc src s = .ok items s0) (h2 : items.length ≤ big) (h3 : (own.all fun p => !(s0.sl.getD p.2 .un).isOwn) = true) (h4 : lcLoop (own.map (·.2)) (fun x s => T.asg g x s) (fun s => evc c s) (fun s => (ev e s).val) items [] s0 = .ok l t) :
    ev (.lc own e g src c) s = .ok (.new (.lst l)) ⟨backSl s0.sl t.sl (own.map (·.2)), t.st⟩ := by
  simp only [ev, h1, O.bind, h3, h2, decide_true, Bool.and_self, if_true]
  rw [h4]
  rfl
theorem day_lc {W : List Mem} (hWc : Club W) {v0 v1 v2 v3 v4 v5 v7 v8 v9 v10 v11 v13 : SV} : ∀ (l : List Nat) (acc : List D) (v6 v12 : SV), (v6 = .own (.lst (W.map Mem.D)) ∨ v6 = .d (.lst (W.map Mem.D))) → (∀ j ∈ l, j < W.length) →
    ∃ u6 u12, lcLoop [12] (fun x s => T.asg (.nm 12) x s) (fun s => evc .no s) (fun s => (ev (.call "one_day" f_one_day (.cons (.var 6) (.cons (.var 12) .nil))) s).val) (l.map fun j : Nat => D.int j) acc ⟨[v0, v1, v2, v3, v4, v5, v6, v7, v8, v9, v10, v11, v12, v13], st⟩ = .ok (acc ++ l.map fun j => D.lst ((oneD W j).map prD)) ⟨[v0, v1, v2, v3, v4, v5, u6, v7, v8, v9, v10, v11, u12, v13], st⟩
  | [], acc, v6, v12, _, _ => ⟨v6, v12, by rw [List.map_nil, List.map_nil, List.append_nil]; rfl⟩
  | j :: l, acc, v6, v12, h6, hl => by
    have e1 := one_day_ok (st := st) hWc (hl j List.mem_cons_self)
    obtain ⟨u6, u12, e2⟩ := day_lc hWc (v0 := v0) (v1 := v1) (v2 := v2) (v3 := v3) (v4 := v4) (v5 := v5) (v7 := v7) (v8 := v8) (v9 := v9) (v10 := v10) (v11 := v11) (v13 := v13) l (acc ++ [.lst ((oneD W j).map prD)]) (.d (.lst (W.map Mem.D))) (.d (.int j)) (.inr rfl) fun k hk => hl k (List.mem_cons_of_mem _ hk)
    refine ⟨u6, u12, ?_⟩
    rw [List.map_cons, lcLoop]
    rw [List.append_assoc] at e2
    unfold clubD at e1
    rw [List.map_cons]
    generalize (oneD W j).map prD = OD at *
    rcases h6 with rfl | rfl
    all_goals
      simp_arith [hideSl, S.hide, asg_nm, e1]
      exact e2
theorem day_right_ok (h : Club c) (hP : PB c) {p n : Nat} {x : Cell} (hp : p < st.length) (hx : Bg x (n + 500)) :
    ∃ y, f__law_day_right [.obj p, clubD c] (st.set p x) = .ok (.d (.bl true)) (st.set p y) ∧ Bg y n := by
  have hl := h.few
  have h0 : 0 < c.length := List.length_pos_iff.mpr h.some
  have hw60 : ((c.length : Nat) : Int) < 2 ^ 200 := Int.lt_of_le_of_lt (show ((c.length : Nat) : Int) ≤ 60 by omega) (by decide)
  obtain ⟨r1, y1, e1, a1, b1, q1⟩ := draw_ok (st := st) hp (n := n + 499) hx (wide := (c.length : Nat)) (by omega) hw60
  obtain ⟨r2, y2, e2, a2, b2, q2⟩ := draw_ok (st := st) hp (n := n + 498) q1 (wide := (c.length : Nat)) (by omega) hw60
  obtain ⟨r3, y3, e3, a3, b3, q3⟩ := draw_ok (st := st) hp (n := n + 497) q2 (wide := 3) (by decide) (by decide)
  obtain ⟨i, hi⟩ : ∃ i : Nat, r1 = i := ⟨r1.toNat, by omega⟩
  obtain ⟨k, hk⟩ : ∃ k : Nat, r2 = k := ⟨r2.toNat, by omega⟩
  subst hi hk
  have hi : i < c.length := by omega
  have hk : k < c.length := by omega
  have oki := at_ok h hi
  have okk := at_ok h hk
  obtain ⟨t0, ht0, t00, t01⟩ := three_day (mAt c k).d r3 a3 b3 okk.1.1 okk.1.2
  have g1 : atI (c.map Mem.D) (i : Int) = some (mAt c i).D := atI_nat (mAt_get hi)
  have g2 : atI (c.map Mem.D) (k : Int) = some (mAt c k).D := atI_nat (mAt_get hk)
  simp only [Mem.D] at g1 g2
  have f1 := with_ok (st := st.set p y3) hl hi ⟨t0, (mAt c i).w, (mAt c i).n⟩
  have hWc := wth_club h hi (m := ⟨t0, (mAt c i).w, (mAt c i).n⟩) ⟨⟨t00, t01⟩, oki.2⟩
  have f2 := one_day_ok (st := st.set p y3) h hi
  have I : SpO (posO (othC c i) (mAt c i).w (mAt c i).n) (oneD c i) (MOSTD + 1) := one_spec fun m hm => (h.ok m (oth_mem hm)).1
  have hlen : (oneD c i).length ≤ 121 := by
    have h1 := foldl_len (posO (othC c i) (mAt c i).w (mAt c i).n) (strF (dayS (othC c i)) 0) []
    have h2 := oth_len hi
    have h3 := dayS_len67 (othC c i)
    have h4 := strF_len (ds := dayS (othC c i)) 0 (by omega)
    have h5 : (oneD c i).length ≤ 0 + (strF (dayS (othC c i)) 0).length := h1
    omega
  -- the moved member's place
  have hperm : (wthC c i ⟨t0, (mAt c i).w, (mAt c i).n⟩).Perm (othC c i ++ [⟨t0, (mAt c i).w, (mAt c i).n⟩]) := sortM_perm _
  obtain ⟨k0, hk0, ek0⟩ : ∃ k0, k0 < (wthC c i ⟨t0, (mAt c i).w, (mAt c i).n⟩).length ∧ mAt (wthC c i ⟨t0, (mAt c i).w, (mAt c i).n⟩) k0 = ⟨t0, (mAt c i).w, (mAt c i).n⟩ := by
    have hm : (⟨t0, (mAt c i).w, (mAt c i).n⟩ : Mem) ∈ wthC c i ⟨t0, (mAt c i).w, (mAt c i).n⟩ := hperm.mem_iff.mpr (List.mem_append_right _ (List.mem_singleton.mpr rfl))
    obtain ⟨j, hj, e⟩ := List.getElem_of_mem hm
    refine ⟨j, hj, ?_⟩
    have := mAt_gS hj
    rw [List.getElem?_eq_getElem hj, e] at this
    exact (Option.some.inj this).symm
  have hsame : oneD (wthC c i ⟨t0, (mAt c i).w, (mAt c i).n⟩) k0 = oneD c i := by
    unfold oneD
    rw [ek0]
    refine oneO_perm ?_ _ _
    have h1 := oth_perm hk0
    rw [ek0] at h1
    exact (List.perm_append_right_iff _).mp (h1.trans hperm)
  -- the day of the story is among them
  obtain ⟨q0, hq0, d0, d1⟩ := I.cov (mAt c i).d oki.1.1 (by have := oki.1.2; show _ < 1000000000000000000000000000000 + 1; omega) (decide_eq_true ((PB_perm (oth_perm hi)).mpr hP))
  have hWl : (wthC c i ⟨t0, (mAt c i).w, (mAt c i).n⟩).length ≤ 60 := hWc.few
  have one_k : ∀ (y : Cell) (j : Nat), j < (wthC c i ⟨t0, (mAt c i).w, (mAt c i).n⟩).length → _ := fun y j hj => one_day_ok (st := st.set p y) hWc hj
  generalize wthC c i ⟨t0, (mAt c i).w, (mAt c i).n⟩ = W at *
  generalize hR : oneD c i = R at *
  have l3 : ev lc__law_day_right_3 ⟨[.d (.obj p), .d (clubD c), .d (.int i), .d (.int (mAt c i).d), .d (.str (wd (mAt c i).w)), .d (.int (mAt c i).n), .own (.lst (W.map Mem.D)), .own (.lst (R.map prD)), .un, .un, .un, .un, .un, .un], st.set p y3⟩ =
      .ok (.new (.lst ((R.filter fun q => decide (q.1 ≤ (mAt c i).d) && decide ((mAt c i).d ≤ q.2)).map prD))) ⟨[.d (.obj p), .d (clubD c), .d (.int i), .d (.int (mAt c i).d), .d (.str (wd (mAt c i).w)), .d (.int (mAt c i).n), .own (.lst (W.map Mem.D)), .d (.lst (R.map prD)), .un, .un, .un, .un, .un, .un], st.set p y3⟩ := by
    refine lc_filt R prD (fun q => decide (q.1 ≤ (mAt c i).d) && decide ((mAt c i).d ≤ q.2)) prD ?_ (big_le (by omega)) rfl fun q hq => ⟨_, rfl, rfl, ?_, fun _ => ?_⟩
    · simp_arith [hideSl]
    · by_cases z : q.1 ≤ (mAt c i).d
      · simp_arith [hideSl, prD, z]
      · simp_arith [hideSl, prD, z]
    · simp_arith [hideSl, prD]
  have hne3 : (R.filter fun q => decide (q.1 ≤ (mAt c i).d) && decide ((mAt c i).d ≤ q.2)).map prD ≠ [] := fun e => by
    have : q0 ∈ R.filter fun q => decide (q.1 ≤ (mAt c i).d) && decide ((mAt c i).d ≤ q.2) := List.mem_filter.mpr ⟨hq0, by simp [d0, d1]⟩
    rw [List.map_eq_nil_iff.mp e] at this
    cases this
  have ql3 := evl_tail hne3
  have pl3 := plain_prs 58 (R.filter fun q => decide (q.1 ≤ (mAt c i).d) && decide ((mAt c i).d ≤ q.2))
  obtain ⟨s', m1, y4, v8, v9, v11, rfl, q4⟩ := for_lst (t := .tp [.nm 8, .nm 9]) (body := fun s => exms fb__law_day_right_3 s) (n := st.length) R prD
    (fun j s => ∃ y v8 v9 v11, s = ⟨[.d (.obj p), .d (clubD c), .d (.int i), .d (.int (mAt c i).d), .d (.str (wd (mAt c i).w)), .d (.int (mAt c i).n), .own (.lst (W.map Mem.D)), .d (.lst (R.map prD)), v8, v9, .un, v11, .un, .un], st.set p y⟩ ∧ Bg y (n + (497 - j)))
    ⟨[.d (.obj p), .d (clubD c), .d (.int i), .d (.int (mAt c i).d), .d (.str (wd (mAt c i).w)), .d (.int (mAt c i).n), .own (.lst (W.map Mem.D)), .d (.lst (R.map prD)), .un, .un, .un, .un, .un, .un], st.set p y3⟩ ⟨y3, _, _, _, rfl, q3⟩ fun j q s hq hI => by
      obtain ⟨y, v8, v9, v11, rfl, qy⟩ := hI
      have hj := (List.getElem?_eq_some_iff.mp hq).1
      obtain ⟨z, u11, e, qz⟩ := ends_turn (st := st) h hi hp (n := n + (497 - (j + 1))) (x := y) (qy.mono (by omega)) I (List.mem_of_getElem? hq) (v3 := .d (.int (mAt c i).d)) (v6 := .own (.lst (W.map Mem.D))) (v7 := .d (.lst (R.map prD))) (v10 := .un) (v11 := v11) (v12 := .un) (v13 := .un)
      exact ⟨_, _, asg_numS 8 9 _ _ _, .inl e, z, _, _, u11, gc_id List.length_set, qz⟩
  refine ⟨y4, ?_, q4.mono (by omega)⟩
  have l2 : ev lc__law_day_right_2 ⟨[.d (.obj p), .d (clubD c), .d (.int i), .d (.int (mAt c i).d), .d (.str (wd (mAt c i).w)), .d (.int (mAt c i).n), .own (.lst (W.map Mem.D)), .d (.lst (R.map prD)), v8, v9, .un, v11, .un, .un], st.set p y4⟩ =
      .ok (.new (.lst (((List.range W.length).filter fun j => samB (mAt c i).w (mAt c i).n (mAt W j)).map fun j : Nat => D.int j))) ⟨[.d (.obj p), .d (clubD c), .d (.int i), .d (.int (mAt c i).d), .d (.str (wd (mAt c i).w)), .d (.int (mAt c i).n), .own (.lst (W.map Mem.D)), .d (.lst (R.map prD)), v8, v9, .un, v11, .un, .un], st.set p y4⟩ := by
    refine lc_filt (List.range W.length) (fun j : Nat => D.int j) (fun j => samB (mAt c i).w (mAt c i).n (mAt W j)) (fun j : Nat => D.int j) ?_ (big_le (by rw [List.length_range]; omega)) rfl fun j hj => ⟨_, rfl, rfl, ?_, fun _ => ?_⟩
    · have hr := rng1_nat (show W.length ≤ 1000000 by omega)
      simp_arith [hideSl, hr]
    · have g4 : atI (W.map Mem.D) (j : Int) = some (mAt W j).D := atI_nat (mAt_get (List.mem_range.mp hj))
      simp only [Mem.D] at g4
      have pw1 : ∀ n (w : Bool), D.plainN n (.str (wd w)) = true := plain_wd
      show _ = O.ok (D.eqvs [.str (wd (mAt W j).w), .int (mAt W j).n] [.str (wd (mAt c i).w), .int (mAt c i).n]) _
      simp_arith [hideSl, g4, pw1]
    · simp_arith [hideSl]
  obtain ⟨u6, u12, m2⟩ := day_lc (st := st.set p y4) hWc (v0 := .d (.obj p)) (v1 := .d (clubD c)) (v2 := .d (.int i)) (v3 := .d (.int (mAt c i).d)) (v4 := .d (.str (wd (mAt c i).w))) (v5 := .d (.int (mAt c i).n)) (v7 := .d (.lst (R.map prD))) (v8 := v8) (v9 := v9) (v10 := .d (.lst (((List.range W.length).filter fun j => samB (mAt c i).w (mAt c i).n (mAt W j)).map fun j : Nat => D.int j))) (v11 := v11) (v13 := .un) ((List.range W.length).filter fun j => samB (mAt c i).w (mAt c i).n (mAt W j)) [] (.own (.lst (W.map Mem.D))) .un (.inl rfl) fun j hj => List.mem_range.mp (List.mem_filter.mp hj).1
  rw [List.nil_append] at m2
  have hfl := List.length_filter_le (fun j => samB (mAt c i).w (mAt c i).n (mAt W j)) (List.range W.length)
  rw [List.length_range] at hfl
  have l1' := lc_runS (own := [("k", 12)]) (src := .seq (.var 10)) (s := ⟨[.d (.obj p), .d (clubD c), .d (.int i), .d (.int (mAt c i).d), .d (.str (wd (mAt c i).w)), .d (.int (mAt c i).n), .own (.lst (W.map Mem.D)), .d (.lst (R.map prD)), v8, v9, .own (.lst (((List.range W.length).filter fun j => samB (mAt c i).w (mAt c i).n (mAt W j)).map fun j : Nat => D.int j)), v11, .un, .un], st.set p y4⟩) (by simp_arith [hideSl]) (big_le (by rw [List.length_map]; omega)) rfl m2
  have l1' : ev lc__law_day_right_1 ⟨[.d (.obj p), .d (clubD c), .d (.int i), .d (.int (mAt c i).d), .d (.str (wd (mAt c i).w)), .d (.int (mAt c i).n), .own (.lst (W.map Mem.D)), .d (.lst (R.map prD)), v8, v9, .own (.lst (((List.range W.length).filter fun j => samB (mAt c i).w (mAt c i).n (mAt W j)).map fun j : Nat => D.int j)), v11, .un, .un], st.set p y4⟩ = _ := l1'
  have hmem : D.lst (R.map prD) ∈ ((List.range W.length).filter fun j => samB (mAt c i).w (mAt c i).n (mAt W j)).map fun j => D.lst ((oneD W j).map prD) := by
    refine List.mem_map.mpr ⟨k0, List.mem_filter.mpr ⟨List.mem_range.mpr hk0, by rw [ek0]; exact samB_self _ _ _⟩, ?_⟩
    show D.lst ((oneD W k0).map prD) = _
    rw [hsame]
  have hplace : D.plainsN 60 (((List.range W.length).filter fun j => samB (mAt c i).w (mAt c i).n (mAt W j)).map fun j => D.lst ((oneD W j).map prD)) = true := (plainsN_iff _ _).mpr fun d hd => by
    obtain ⟨j, _, rfl⟩ := List.mem_map.mp hd
    exact plain_prs 58 _
  have hin := opIn_memS (x := .lst (R.map prD)) (plain_prs 58 R) hplace hmem
  unfold clubD at f1 f2 l3 m1 l2 l1'
  simp only [Mem.D] at f1
  generalize ((List.range W.length).filter fun j => samB (mAt c i).w (mAt c i).n (mAt W j)).map (fun j => D.lst ((oneD W j).map prD)) = LL at *
  generalize (((List.range W.length).filter fun j => samB (mAt c i).w (mAt c i).n (mAt W j)).map fun j : Nat => D.int j) = PL at *
  generalize (R.filter fun q => decide (q.1 ≤ (mAt c i).d) && decide ((mAt c i).d ≤ q.2)).map prD = L3 at *
  generalize R.map prD = RD at *
  unfold f__law_day_right
  simp_arith [b__law_day_right, clubD, e1, g1, asg_t3S, e2, g2, e3, ht0, f1, f2, l3, pl3, ql3]
  rw [m1]
  simp_arith [l2, l1', hin]
end

end G4

namespace G4
open PySem PySem.Spec PyProof.Rows L2
local macro_rules
  | `(tactic| simp_arith [$as,*]) => `(tactic| simp -implicitDefEqProofs only [tl_table_of_1, tl_table_of_2, tl_table_of_3, tl_one_number_1, tl_one_number_2, tl_moves_of_1, tl_moves_of_2, tl_two_numbers_1, tl_two_numbers_2, tl_two_numbers_3, tl_one_came_1, tl_one_came_2, tl_one_day_1, tl_one_day_2, tl_one_day_3, tl_one_day_4, tl__law_stirred_1, tl__law_stirred_2, tl__law_draw_1, tl__law_draw_2, tl__law_story_1, tl__law_story_2, tl__law_number_right_1, tl__law_number_right_2, tl__law_number_right_3, tl__law_number_right_4, tl__law_number_right_5, tl__law_came_right_1, tl__law_came_right_2, tl__law_came_right_3, tl__law_came_right_4, tl__law_day_right_1, tl__law_day_right_2, tl__law_day_right_3, tl__law_day_right_4, tl__law_day_right_5, tl__law_day_right_6, tl__law_moved_right_1, tl__law_moved_right_2, tl__law_moved_right_3, tl__law_moved_right_4, tl__law_moved_right_5, tl__law_moved_right_6, tl__law_moved_right_7, ↓bnd_eq, ↓off_eq, ↓thn_eq, run_eq, fin_nx, fin_rt, fin_ex, S.hide, hideSl, exms, exm, ev, evT, evs, evOs, evo, evc, evSrc, evPar, hb_ok, hb_ex, ho_ok, ho_ex, ht_nx, ht_rt, ht_ex, tb_nx, tb_rt, tb_ex, hd_setB, hd_setT, hd_retT, D.flat, opd_d, opd_pl, opd_lst, opd_ex, val_d, val_lst, List.append_assoc, List.length_set, gc_push, gc_id, take_push, take_id, get_app0, get_app1, get_app2, isNew0, isNew1, isNew_int, isNew_str, isNew_bl, isNew_non, isNew_tup, isNew_lst, keep_un, keep_int, keep_bl, keep_non, keep_str, keep_scr, keep_obj, keep_own_lst, keep_own_dK, pureK_nil, keep_lst, keep_tup, D.unders, ne_succ, ne_succ1, eq_self, nodup2, nodup3, List.filterMap_cons, List.filterMap_nil, putPar, D.under, List.nodup_cons, List.mem_cons, List.not_mem_nil, or_self, or_false, Nat.reduceEqDiff, List.nodup_nil, true_and, and_true, bits10, Int.reduceMul, Int.reduceLE, Int.reduceLT, Int.reducePow, Int.reduceAdd, Int.reduceSub, Int.reduceNeg, Int.reduceToNat, val_dK, putTs_nil, putTs_nm, putTs_sub, val_ex, val_pl, valPl_lst, valPl_d, opt_some, toO_ok, toO_ex, asBl_ok, List.map_cons, List.map_nil, List.length_cons, List.length_nil, Nat.reduceAdd, Nat.reduceSub, Nat.zero_add, List.replicate, List.cons_append, List.nil_append, List.getElem?_cons_zero, List.getElem?_cons_succ, List.set_cons_zero, List.set_cons_succ, S.rd, S.rdD, S.store, OS.opt, Option.bind_some, Option.map_some, Cell.view, S.cell, S.isLst, S.isDct, S.rdDct, dgetV, dixV, augV, S.put, S.rdLst, cmpV, opCmp, opEq_str, opEq_int, opEq_bl, opEq_non, opEq_lst, opEq_tup, pures_app, eqv_int, eqv_bl, eqv_lst, eqv_tup, eqvs_nil, eqvs_ints, eqvs_cons, eqv_str, opIn_ints, unders_ints, set_app0, set_app1, binV, opBin, ixV, opIx, biV, biSem, biLen, biInt, biAbs, biMax2, biMin2, biSum, biAll, biAny, biList, biTuple, List.mapM_cons, List.mapM_nil, bind, pure, Option.bind, truV, D.tru, isiV, D.kind, Ty.sub, List.any_cons, List.any_nil, decide_true, decide_false, Int.cast_ofNat_Int, beq_self_eq_true, Bool.false_and, Bool.true_or, Bool.false_or, Bool.or_false, Bool.and_true, Bool.true_and, Bool.and_self, if_true, if_false, Bool.false_eq_true, reduceCtorEq, Bool.not_true, Bool.not_false, finish, D.pure, D.pures, Cell.pure, List.take_length, and_self, not_true_eq_false, not_false_eq_true, plain_int', plain_lst, plain_tup, plain_non, plain_bl, D.plainsN, pures_ints, plain_ints, List.length_map, List.length_append, at1, at2, at3, at4, at5, muV, muSem, muApp, setIx, S.fz, perm, List.getD_cons_zero, List.getD_cons_succ, $as,*])
/-! ### k67: the end -/
theorem wide_at (j : Nat) : ∃ u, atI [D.int 8, .int 24] (b2i ((j : Int) == 0)) = some (.int u) ∧ 1 ≤ u ∧ u ≤ 24 := by
  cases (j : Int) == 0
  · exact ⟨8, rfl, by omega, by omega⟩
  · exact ⟨24, rfl, by omega, by omega⟩
theorem poss_PB {c : List Mem} (P : Poss c) : PB c := ⟨fun m hm => P.slack m.d (mem_dayS.mpr ⟨m, hm, rfl⟩), P.left⟩
theorem law_turn {ns : List Int} {j n : Nat} {x : Cell} {v3 v4 : SV} (hx : Bg x (n + 1000)) :
    ∃ y u3 u4, exms fb_law_1 ⟨[.d (.scr ns), .d (.obj 0), .d (.int j), v3, v4], [x]⟩ = .nx ⟨[.d (.scr ns), .d (.obj 0), .d (.int j), u3, u4], [y]⟩ ∧ Bg y n := by
  obtain ⟨u, hu, u0, u1⟩ := wide_at j
  obtain ⟨r, y1, e1, r0, r1, q1⟩ := draw_ok (st := [x]) (p := 0) (by simp) (n := n + 999) hx (wide := u) (by omega) (Int.lt_of_le_of_lt u1 (by decide))
  obtain ⟨many, hm, m1, m2⟩ : ∃ m : Nat, (1 : Int) + r = (m : Int) ∧ 1 ≤ m ∧ m ≤ 24 := ⟨(1 + r).toNat, by omega, by omega, by omega⟩
  obtain ⟨c, w, y2, e2, q2, hc, hw, hl, hn, hd⟩ := story_okB (st := [x]) (p := 0) (n := n + 599) (x := y1) (by simp) q1 m1 (by omega)
  have hP := poss_PB (hw.poss hc)
  have hd2 : ∀ m ∈ c, m.d ≤ 4 * 10 ^ 29 := fun m hm => by
    have := hd m hm
    have h24 : (10 : Int) ^ 28 * (many : Int) ≤ 10 ^ 28 * 24 := Int.mul_le_mul_of_nonneg_left (by omega) (by decide)
    omega
  obtain ⟨y3, e3, q3⟩ := number_right_ok (st := [x]) hc hP hn (p := 0) (n := n + 597) (x := y2) (by simp) q2
  obtain ⟨y4, e4, q4⟩ := came_right_ok (st := [x]) hc hP (p := 0) (n := n + 596) (x := y3) (by simp) q3
  obtain ⟨y5, e5, q5⟩ := day_right_ok (st := [x]) hc hP (p := 0) (n := n + 96) (x := y4) (by simp) q4
  obtain ⟨y6, e6, q6⟩ := moved_right_ok (st := [x]) hc hP hn hd2 (p := 0) (n := n + 93) (x := y5) (by simp) q5
  simp only [List.set_cons_zero] at e1 e2 e3 e4 e5 e6
  refine ⟨y6, .d (clubD c), .d (.lst (w.map obD)), ?_, q6.mono (by omega)⟩
  unfold clubD at e2 e3 e4 e5 e6 ⊢
  have ea : ∀ (a b : D) (s : S), T.asg (.tp [.nm 3, .nm 4]) (.tup [a, b]) s = some ⟨(s.sl.set 3 (.d a)).set 4 (.d b), s.st⟩ := fun a b s => asg_numS 3 4 a b s
  unfold fb_law_1
  simp_arith [hu, e1, hm, e2, ea, e3, e4, e5, e6]
theorem law_true : ∀ ns : List Int, ns.length ≤ 63 → (∀ i ∈ ns, Builtin.Int.intBits i ≤ 1048576) → ∃ st, f_law [.scr ns] [] = .ok (.d (.bl true)) st := by
  intro ns hn _
  obtain ⟨x0, e0, q0, p0⟩ := bag_ok (ns := ns) (st := [])
  obtain ⟨s', l1, y, v2, v3, v4, rfl, q1⟩ := for_rng (v := 2) (body := fun s => exms fb_law_1 s) (n := 1) 5 (fun j s => ∃ y v2 v3 v4, s = ⟨[.d (.scr ns), .d (.obj 0), v2, v3, v4], [y]⟩ ∧ Bg y (1000 * (5 - j)))
    ⟨[.d (.scr ns), .d (.obj 0), .un, .un, .un], [x0]⟩ ⟨x0, _, _, _, rfl, q0.mono (by decide)⟩ fun j s hj hI => by
      obtain ⟨y, v2, v3, v4, rfl, q⟩ := hI
      obtain ⟨y2, u3, u4, e, q2⟩ := law_turn (ns := ns) (j := j) (n := 1000 * (5 - (j + 1))) (x := y) (v3 := v3) (v4 := v4) (q.mono (by omega))
      exact ⟨_, .inl e, y2, _, u3, u4, gc_id rfl, q2⟩
  obtain ⟨l0, rfl⟩ : ∃ l, x0 = .lst l := by
    obtain ⟨cs, i, c, s, k, rfl, _⟩ := q0
    exact ⟨_, rfl⟩
  have p0 : D.pures l0 = true := p0
  refine ⟨[], ?_⟩
  have hr : rng1Sem [.int 5] = some ((List.range 5).map fun i : Nat => D.int i) := rng1_nat (j := 5) (by omega)
  unfold f_law
  simp_arith [b_law, e0, p0, hr]
  rw [l1]
  simp_arith []
  rfl

end G4

namespace G4
open PySem PySem.Spec PyProof.Rows L2
theorem all_mk {P : Program} {w : World} {K : PySem.W.Frag} {h : Heap} {mg : Str → Option Value} {fa : Addr} (X : K.In h) (G : h.Ns mainGlobals mg) (hfa : mg "law" = some (.ref fa))
    {f0 : Addr} {od0 an0 : Option Addr} {sl0 : Array (Option Value)} {oc0 kV0 dc0 pm0 cd0 ct0 : Value}
    {f1 : Addr} {od1 an1 : Option Addr} {sl1 : Array (Option Value)} {oc1 kV1 dc1 pm1 cd1 ct1 : Value}
    {f2 : Addr} {od2 an2 : Option Addr} {sl2 : Array (Option Value)} {oc2 kV2 dc2 pm2 cd2 ct2 : Value}
    {f3 : Addr} {od3 an3 : Option Addr} {sl3 : Array (Option Value)} {oc3 kV3 dc3 pm3 cd3 ct3 : Value}
    {f4 : Addr} {od4 an4 : Option Addr} {sl4 : Array (Option Value)} {oc4 kV4 dc4 pm4 cd4 ct4 : Value}
    {f5 : Addr} {od5 an5 : Option Addr} {sl5 : Array (Option Value)} {oc5 kV5 dc5 pm5 cd5 ct5 : Value}
    {f6 : Addr} {od6 an6 : Option Addr} {sl6 : Array (Option Value)} {oc6 kV6 dc6 pm6 cd6 ct6 : Value}
    {f7 : Addr} {od7 an7 : Option Addr} {sl7 : Array (Option Value)} {oc7 kV7 dc7 pm7 cd7 ct7 : Value}
    {f8 : Addr} {od8 an8 : Option Addr} {sl8 : Array (Option Value)} {oc8 kV8 dc8 pm8 cd8 ct8 : Value}
    {f9 : Addr} {od9 an9 : Option Addr} {sl9 : Array (Option Value)} {oc9 kV9 dc9 pm9 cd9 ct9 : Value}
    {f10 : Addr} {od10 an10 : Option Addr} {sl10 : Array (Option Value)} {oc10 kV10 dc10 pm10 cd10 ct10 : Value}
    {f11 : Addr} {od11 an11 : Option Addr} {sl11 : Array (Option Value)} {oc11 kV11 dc11 pm11 cd11 ct11 : Value}
    {f12 : Addr} {od12 an12 : Option Addr} {sl12 : Array (Option Value)} {oc12 kV12 dc12 pm12 cd12 ct12 : Value}
    {f13 : Addr} {od13 an13 : Option Addr} {sl13 : Array (Option Value)} {oc13 kV13 dc13 pm13 cd13 ct13 : Value}
    {f14 : Addr} {od14 an14 : Option Addr} {sl14 : Array (Option Value)} {oc14 kV14 dc14 pm14 cd14 ct14 : Value}
    {f15 : Addr} {od15 an15 : Option Addr} {sl15 : Array (Option Value)} {oc15 kV15 dc15 pm15 cd15 ct15 : Value}
    {f16 : Addr} {od16 an16 : Option Addr} {sl16 : Array (Option Value)} {oc16 kV16 dc16 pm16 cd16 ct16 : Value}
    {f17 : Addr} {od17 an17 : Option Addr} {sl17 : Array (Option Value)} {oc17 kV17 dc17 pm17 cd17 ct17 : Value}
    {f18 : Addr} {od18 an18 : Option Addr} {sl18 : Array (Option Value)} {oc18 kV18 dc18 pm18 cd18 ct18 : Value}
    {f19 : Addr} {od19 an19 : Option Addr} {sl19 : Array (Option Value)} {oc19 kV19 dc19 pm19 cd19 ct19 : Value}
    {f20 : Addr} {od20 an20 : Option Addr} {sl20 : Array (Option Value)} {oc20 kV20 dc20 pm20 cd20 ct20 : Value}
    {f21 : Addr} {od21 an21 : Option Addr} {sl21 : Array (Option Value)} {oc21 kV21 dc21 pm21 cd21 ct21 : Value}
    {f22 : Addr} {od22 an22 : Option Addr} {sl22 : Array (Option Value)} {oc22 kV22 dc22 pm22 cd22 ct22 : Value}
    {f23 : Addr} {od23 an23 : Option Addr} {sl23 : Array (Option Value)} {oc23 kV23 dc23 pm23 cd23 ct23 : Value}
    {f24 : Addr} {od24 an24 : Option Addr} {sl24 : Array (Option Value)} {oc24 kV24 dc24 pm24 cd24 ct24 : Value}
    {f25 : Addr} {od25 an25 : Option Addr} {sl25 : Array (Option Value)} {oc25 kV25 dc25 pm25 cd25 ct25 : Value}
    {f26 : Addr} {od26 an26 : Option Addr} {sl26 : Array (Option Value)} {oc26 kV26 dc26 pm26 cd26 ct26 : Value}
    {f27 : Addr} {od27 an27 : Option Addr} {sl27 : Array (Option Value)} {oc27 kV27 dc27 pm27 cd27 ct27 : Value}
    {f28 : Addr} {od28 an28 : Option Addr} {sl28 : Array (Option Value)} {oc28 kV28 dc28 pm28 cd28 ct28 : Value}
    {f29 : Addr} {od29 an29 : Option Addr} {sl29 : Array (Option Value)} {oc29 kV29 dc29 pm29 cd29 ct29 : Value}
    {tg0 : Tok}
    {tg1 : Tok}
    {ag2 : Addr} {og2 : Option Addr} {ng2 : Nat} {sg2 : Array (Option Value)} {tg2_0 : Tok} {tg2_1 : Tok}
    {tg3 : Tok}
    {C0 : Addr}
    {C1 : Addr}
    (a0 : PySem.W.nsIn K mainGlobals "moves_of" = some (some (.ref f0)))
    (l0 : K.lookup f0 = some ⟨oc0, od0, .func (PySem.W.fnOf "moves_of" "moves_of" (defArgs (topS 24)) (defBody (topS 24)) (defScope (topS 24)) .none kV0 dc0 pm0 an0 cd0 ct0), sl0⟩)
    (c0 : PySem.W.codeIn K cd0 "moves_of" = true)
    (k0 : PySem.W.keepIn K (.ref f0) = true)
    (a1 : PySem.W.nsIn K mainGlobals "brought_of" = some (some (.ref f1)))
    (l1 : K.lookup f1 = some ⟨oc1, od1, .func (PySem.W.fnOf "brought_of" "brought_of" (defArgs (topS 15)) (defBody (topS 15)) (defScope (topS 15)) .none kV1 dc1 pm1 an1 cd1 ct1), sl1⟩)
    (c1 : PySem.W.codeIn K cd1 "brought_of" = true)
    (k1 : PySem.W.keepIn K (.ref f1) = true)
    (a2 : PySem.W.nsIn K mainGlobals "left_over" = some (some (.ref f2)))
    (l2 : K.lookup f2 = some ⟨oc2, od2, .func (PySem.W.fnOf "left_over" "left_over" (defArgs (topS 17)) (defBody (topS 17)) (defScope (topS 17)) .none kV2 dc2 pm2 an2 cd2 ct2), sl2⟩)
    (c2 : PySem.W.codeIn K cd2 "left_over" = true)
    (k2 : PySem.W.keepIn K (.ref f2) = true)
    (a3 : PySem.W.nsIn K mainGlobals "table_of" = some (some (.ref f3)))
    (l3 : K.lookup f3 = some ⟨oc3, od3, .func (PySem.W.fnOf "table_of" "table_of" (defArgs (topS 16)) (defBody (topS 16)) (defScope (topS 16)) .none kV3 dc3 pm3 an3 cd3 ct3), sl3⟩)
    (c3 : PySem.W.codeIn K cd3 "table_of" = true)
    (k3 : PySem.W.keepIn K (.ref f3) = true)
    (a4 : PySem.W.nsIn K mainGlobals "is_integer" = some (some (.ref f4)))
    (l4 : K.lookup f4 = some ⟨oc4, od4, .func (PySem.W.fnOf "is_integer" "is_integer" (defArgs (topS 8)) (defBody (topS 8)) (defScope (topS 8)) .none kV4 dc4 pm4 an4 cd4 ct4), sl4⟩)
    (c4 : PySem.W.codeIn K cd4 "is_integer" = true)
    (k4 : PySem.W.keepIn K (.ref f4) = true)
    (a5 : PySem.W.nsIn K mainGlobals "is_count" = some (some (.ref f5)))
    (l5 : K.lookup f5 = some ⟨oc5, od5, .func (PySem.W.fnOf "is_count" "is_count" (defArgs (topS 9)) (defBody (topS 9)) (defScope (topS 9)) .none kV5 dc5 pm5 an5 cd5 ct5), sl5⟩)
    (c5 : PySem.W.codeIn K cd5 "is_count" = true)
    (k5 : PySem.W.keepIn K (.ref f5) = true)
    (a6 : PySem.W.nsIn K mainGlobals "is_told_member" = some (some (.ref f6)))
    (l6 : K.lookup f6 = some ⟨oc6, od6, .func (PySem.W.fnOf "is_told_member" "is_told_member" (defArgs (topS 10)) (defBody (topS 10)) (defScope (topS 10)) .none kV6 dc6 pm6 an6 cd6 ct6), sl6⟩)
    (c6 : PySem.W.codeIn K cd6 "is_told_member" = true)
    (k6 : PySem.W.keepIn K (.ref f6) = true)
    (a7 : PySem.W.nsIn K mainGlobals "is_club_of" = some (some (.ref f7)))
    (l7 : K.lookup f7 = some ⟨oc7, od7, .func (PySem.W.fnOf "is_club_of" "is_club_of" (defArgs (topS 11)) (defBody (topS 11)) (defScope (topS 11)) .none kV7 dc7 pm7 an7 cd7 ct7), sl7⟩)
    (c7 : PySem.W.codeIn K cd7 "is_club_of" = true)
    (k7 : PySem.W.keepIn K (.ref f7) = true)
    (a8 : PySem.W.nsIn K mainGlobals "need_club" = some (some (.ref f8)))
    (l8 : K.lookup f8 = some ⟨oc8, od8, .func (PySem.W.fnOf "need_club" "need_club" (defArgs (topS 12)) (defBody (topS 12)) (defScope (topS 12)) .none kV8 dc8 pm8 an8 cd8 ct8), sl8⟩)
    (c8 : PySem.W.codeIn K cd8 "need_club" = true)
    (k8 : PySem.W.keepIn K (.ref f8) = true)
    (a9 : PySem.W.nsIn K mainGlobals "two_numbers" = some (some (.ref f9)))
    (l9 : K.lookup f9 = some ⟨oc9, od9, .func (PySem.W.fnOf "two_numbers" "two_numbers" (defArgs (topS 25)) (defBody (topS 25)) (defScope (topS 25)) .none kV9 dc9 pm9 an9 cd9 ct9), sl9⟩)
    (c9 : PySem.W.codeIn K cd9 "two_numbers" = true)
    (k9 : PySem.W.keepIn K (.ref f9) = true)
    (a10 : PySem.W.nsIn K mainGlobals "_law_stirred" = some (some (.ref f10)))
    (l10 : K.lookup f10 = some ⟨oc10, od10, .func (PySem.W.fnOf "_law_stirred" "_law_stirred" (defArgs (topS 31)) (defBody (topS 31)) (defScope (topS 31)) .none kV10 dc10 pm10 an10 cd10 ct10), sl10⟩)
    (c10 : PySem.W.codeIn K cd10 "_law_stirred" = true)
    (k10 : PySem.W.keepIn K (.ref f10) = true)
    (a11 : PySem.W.nsIn K mainGlobals "_law_draw" = some (some (.ref f11)))
    (l11 : K.lookup f11 = some ⟨oc11, od11, .func (PySem.W.fnOf "_law_draw" "_law_draw" (defArgs (topS 32)) (defBody (topS 32)) (defScope (topS 32)) .none kV11 dc11 pm11 an11 cd11 ct11), sl11⟩)
    (c11 : PySem.W.codeIn K cd11 "_law_draw" = true)
    (k11 : PySem.W.keepIn K (.ref f11) = true)
    (a12 : PySem.W.nsIn K mainGlobals "_law_moved_right" = some (some (.ref f12)))
    (l12 : K.lookup f12 = some ⟨oc12, od12, .func (PySem.W.fnOf "_law_moved_right" "_law_moved_right" (defArgs (topS 40)) (defBody (topS 40)) (defScope (topS 40)) .none kV12 dc12 pm12 an12 cd12 ct12), sl12⟩)
    (c12 : PySem.W.codeIn K cd12 "_law_moved_right" = true)
    (k12 : PySem.W.keepIn K (.ref f12) = true)
    (a13 : PySem.W.nsIn K mainGlobals "stretches_of" = some (some (.ref f13)))
    (l13 : K.lookup f13 = some ⟨oc13, od13, .func (PySem.W.fnOf "stretches_of" "stretches_of" (defArgs (topS 27)) (defBody (topS 27)) (defScope (topS 27)) .none kV13 dc13 pm13 an13 cd13 ct13), sl13⟩)
    (c13 : PySem.W.codeIn K cd13 "stretches_of" = true)
    (k13 : PySem.W.keepIn K (.ref f13) = true)
    (a14 : PySem.W.nsIn K mainGlobals "days_of" = some (some (.ref f14)))
    (l14 : K.lookup f14 = some ⟨oc14, od14, .func (PySem.W.fnOf "days_of" "days_of" (defArgs (topS 14)) (defBody (topS 14)) (defScope (topS 14)) .none kV14 dc14 pm14 an14 cd14 ct14), sl14⟩)
    (c14 : PySem.W.codeIn K cd14 "days_of" = true)
    (k14 : PySem.W.keepIn K (.ref f14) = true)
    (a15 : PySem.W.nsIn K mainGlobals "conflict_in" = some (some (.ref f15)))
    (l15 : K.lookup f15 = some ⟨oc15, od15, .func (PySem.W.fnOf "conflict_in" "conflict_in" (defArgs (topS 18)) (defBody (topS 18)) (defScope (topS 18)) .none kV15 dc15 pm15 an15 cd15 ct15), sl15⟩)
    (c15 : PySem.W.codeIn K cd15 "conflict_in" = true)
    (k15 : PySem.W.keepIn K (.ref f15) = true)
    (a16 : PySem.W.nsIn K mainGlobals "club_told" = some (some (.ref f16)))
    (l16 : K.lookup f16 = some ⟨oc16, od16, .func (PySem.W.fnOf "club_told" "club_told" (defArgs (topS 22)) (defBody (topS 22)) (defScope (topS 22)) .none kV16 dc16 pm16 an16 cd16 ct16), sl16⟩)
    (c16 : PySem.W.codeIn K cd16 "club_told" = true)
    (k16 : PySem.W.keepIn K (.ref f16) = true)
    (a17 : PySem.W.nsIn K mainGlobals "need_member" = some (some (.ref f17)))
    (l17 : K.lookup f17 = some ⟨oc17, od17, .func (PySem.W.fnOf "need_member" "need_member" (defArgs (topS 13)) (defBody (topS 13)) (defScope (topS 13)) .none kV17 dc17 pm17 an17 cd17 ct17), sl17⟩)
    (c17 : PySem.W.codeIn K cd17 "need_member" = true)
    (k17 : PySem.W.keepIn K (.ref f17) = true)
    (a18 : PySem.W.nsIn K mainGlobals "one_day" = some (some (.ref f18)))
    (l18 : K.lookup f18 = some ⟨oc18, od18, .func (PySem.W.fnOf "one_day" "one_day" (defArgs (topS 28)) (defBody (topS 28)) (defScope (topS 28)) .none kV18 dc18 pm18 an18 cd18 ct18), sl18⟩)
    (c18 : PySem.W.codeIn K cd18 "one_day" = true)
    (k18 : PySem.W.keepIn K (.ref f18) = true)
    (a19 : PySem.W.nsIn K mainGlobals "conflict_of" = some (some (.ref f19)))
    (l19 : K.lookup f19 = some ⟨oc19, od19, .func (PySem.W.fnOf "conflict_of" "conflict_of" (defArgs (topS 19)) (defBody (topS 19)) (defScope (topS 19)) .none kV19 dc19 pm19 an19 cd19 ct19), sl19⟩)
    (c19 : PySem.W.codeIn K cd19 "conflict_of" = true)
    (k19 : PySem.W.keepIn K (.ref f19) = true)
    (a20 : PySem.W.nsIn K mainGlobals "_law_with" = some (some (.ref f20)))
    (l20 : K.lookup f20 = some ⟨oc20, od20, .func (PySem.W.fnOf "_law_with" "_law_with" (defArgs (topS 36)) (defBody (topS 36)) (defScope (topS 36)) .none kV20 dc20 pm20 an20 cd20 ct20), sl20⟩)
    (c20 : PySem.W.codeIn K cd20 "_law_with" = true)
    (k20 : PySem.W.keepIn K (.ref f20) = true)
    (a21 : PySem.W.nsIn K mainGlobals "_law_day_right" = some (some (.ref f21)))
    (l21 : K.lookup f21 = some ⟨oc21, od21, .func (PySem.W.fnOf "_law_day_right" "_law_day_right" (defArgs (topS 39)) (defBody (topS 39)) (defScope (topS 39)) .none kV21 dc21 pm21 an21 cd21 ct21), sl21⟩)
    (c21 : PySem.W.codeIn K cd21 "_law_day_right" = true)
    (k21 : PySem.W.keepIn K (.ref f21) = true)
    (a22 : PySem.W.nsIn K mainGlobals "one_came" = some (some (.ref f22)))
    (l22 : K.lookup f22 = some ⟨oc22, od22, .func (PySem.W.fnOf "one_came" "one_came" (defArgs (topS 26)) (defBody (topS 26)) (defScope (topS 26)) .none kV22 dc22 pm22 an22 cd22 ct22), sl22⟩)
    (c22 : PySem.W.codeIn K cd22 "one_came" = true)
    (k22 : PySem.W.keepIn K (.ref f22) = true)
    (a23 : PySem.W.nsIn K mainGlobals "_law_came_right" = some (some (.ref f23)))
    (l23 : K.lookup f23 = some ⟨oc23, od23, .func (PySem.W.fnOf "_law_came_right" "_law_came_right" (defArgs (topS 38)) (defBody (topS 38)) (defScope (topS 38)) .none kV23 dc23 pm23 an23 cd23 ct23), sl23⟩)
    (c23 : PySem.W.codeIn K cd23 "_law_came_right" = true)
    (k23 : PySem.W.keepIn K (.ref f23) = true)
    (a24 : PySem.W.nsIn K mainGlobals "one_number" = some (some (.ref f24)))
    (l24 : K.lookup f24 = some ⟨oc24, od24, .func (PySem.W.fnOf "one_number" "one_number" (defArgs (topS 23)) (defBody (topS 23)) (defScope (topS 23)) .none kV24 dc24 pm24 an24 cd24 ct24), sl24⟩)
    (c24 : PySem.W.codeIn K cd24 "one_number" = true)
    (k24 : PySem.W.keepIn K (.ref f24) = true)
    (a25 : PySem.W.nsIn K mainGlobals "_law_number_right" = some (some (.ref f25)))
    (l25 : K.lookup f25 = some ⟨oc25, od25, .func (PySem.W.fnOf "_law_number_right" "_law_number_right" (defArgs (topS 37)) (defBody (topS 37)) (defScope (topS 37)) .none kV25 dc25 pm25 an25 cd25 ct25), sl25⟩)
    (c25 : PySem.W.codeIn K cd25 "_law_number_right" = true)
    (k25 : PySem.W.keepIn K (.ref f25) = true)
    (a26 : PySem.W.nsIn K mainGlobals "_law_days" = some (some (.ref f26)))
    (l26 : K.lookup f26 = some ⟨oc26, od26, .func (PySem.W.fnOf "_law_days" "_law_days" (defArgs (topS 34)) (defBody (topS 34)) (defScope (topS 34)) .none kV26 dc26 pm26 an26 cd26 ct26), sl26⟩)
    (c26 : PySem.W.codeIn K cd26 "_law_days" = true)
    (k26 : PySem.W.keepIn K (.ref f26) = true)
    (a27 : PySem.W.nsIn K mainGlobals "_law_story" = some (some (.ref f27)))
    (l27 : K.lookup f27 = some ⟨oc27, od27, .func (PySem.W.fnOf "_law_story" "_law_story" (defArgs (topS 35)) (defBody (topS 35)) (defScope (topS 35)) .none kV27 dc27 pm27 an27 cd27 ct27), sl27⟩)
    (c27 : PySem.W.codeIn K cd27 "_law_story" = true)
    (k27 : PySem.W.keepIn K (.ref f27) = true)
    (a28 : PySem.W.nsIn K mainGlobals "_law_bag" = some (some (.ref f28)))
    (l28 : K.lookup f28 = some ⟨oc28, od28, .func (PySem.W.fnOf "_law_bag" "_law_bag" (defArgs (topS 30)) (defBody (topS 30)) (defScope (topS 30)) .none kV28 dc28 pm28 an28 cd28 ct28), sl28⟩)
    (c28 : PySem.W.codeIn K cd28 "_law_bag" = true)
    (k28 : PySem.W.keepIn K (.ref f28) = true)
    (a29 : PySem.W.nsIn K mainGlobals "law" = some (some (.ref f29)))
    (l29 : K.lookup f29 = some ⟨oc29, od29, .func (PySem.W.fnOf "law" "law" (defArgs (topS 41)) (defBody (topS 41)) (defScope (topS 41)) .none kV29 dc29 pm29 an29 cd29 ct29), sl29⟩)
    (c29 : PySem.W.codeIn K cd29 "law" = true)
    (k29 : PySem.W.keepIn K (.ref f29) = true)
    (z0 : PySem.W.nsIn K mainGlobals "max" = some none)
    (z1 : PySem.W.nsIn K mainGlobals "min" = some none)
    (z2 : PySem.W.nsIn K mainGlobals "enumerate" = some none)
    (z3 : PySem.W.nsIn K mainGlobals "sum" = some none)
    (z4 : PySem.W.nsIn K mainGlobals "len" = some none)
    (z5 : PySem.W.nsIn K mainGlobals "sorted" = some none)
    (z6 : PySem.W.nsIn K mainGlobals "int" = some none)
    (z7 : PySem.W.nsIn K mainGlobals "isinstance" = some none)
    (z8 : PySem.W.nsIn K mainGlobals "bool" = some none)
    (z9 : PySem.W.nsIn K mainGlobals "str" = some none)
    (z10 : PySem.W.nsIn K mainGlobals "tuple" = some none)
    (z11 : PySem.W.nsIn K mainGlobals "all" = some none)
    (z12 : PySem.W.nsIn K mainGlobals "zip" = some none)
    (z13 : PySem.W.nsIn K mainGlobals "list" = some none)
    (z14 : PySem.W.nsIn K mainGlobals "range" = some none)
    (z15 : PySem.W.nsIn K mainGlobals "set" = some none)
    (z16 : PySem.W.nsIn K mainGlobals "abs" = some none)
    (hg0 : PySem.W.nsIn K mainGlobals "MOST_NUMBER" = some (some (.int 1000000000000000000000000000000 tg0)))
    (hg1 : PySem.W.nsIn K mainGlobals "MOST_MEMBERS" = some (some (.int 60 tg1)))
    (hg2 : PySem.W.nsIn K mainGlobals "WORDS" = some (some (.ref ag2)))
    (hh2 : K.lookup ag2 = some ⟨.type "tuple", og2, .seq #[.str "alone" tg2_0, .str "brought" tg2_1] ng2, sg2⟩)
    (hg3 : PySem.W.nsIn K mainGlobals "MOST" = some (some (.int 1000000000000000000000000000000 tg3)))
    (xa0 : PySem.W.nsIn K mainGlobals "InvalidClub" = some (some (.ref C0)))
    (xk0 : PySem.W.keepIn K (.ref C0) = true)
    (xs0 : PySem.W.subIn K (.ref C0) (.type "BaseException") = some true)
    (xt0 : PySem.W.typeIn K (.ref C0) = some (.type "type"))
    (xe0 : PySem.W.excIn K C0 [.type "ValueError", .type "Exception", .type "BaseException", .type "object"] "ValueError.__new__" = true)
    (xa1 : PySem.W.nsIn K mainGlobals "InvalidMember" = some (some (.ref C1)))
    (xk1 : PySem.W.keepIn K (.ref C1) = true)
    (xs1 : PySem.W.subIn K (.ref C1) (.type "BaseException") = some true)
    (xt1 : PySem.W.typeIn K (.ref C1) = some (.type "type"))
    (xe1 : PySem.W.excIn K C1 [.type "ValueError", .type "Exception", .type "BaseException", .type "object"] "ValueError.__new__" = true)
    : ∃ (fd : FuncData) (g : Str → Option Addr), (∀ (s : Shared) (v : Value), BindsTo s fd ⟨[v], []⟩ [("script", v)]) ∧ ∀ base : Heap, K.In base → base.Ns mainGlobals mg → FnG P w K mg base 8 fa fd ["script"] (spF K g 1 f_law) := by
  have e := hfa.symm.trans (PySem.W.mg_of X G a29)
  cases e
  let g : Str → Option Addr := fun x => ([("InvalidClub", C0), ("InvalidMember", C1)] : List (Str × Addr)).lookup x
  have n0 := PySem.W.mg_none_of X G z0
  have n1 := PySem.W.mg_none_of X G z1
  have n2 := PySem.W.mg_none_of X G z2
  have n3 := PySem.W.mg_none_of X G z3
  have n4 := PySem.W.mg_none_of X G z4
  have n5 := PySem.W.mg_none_of X G z5
  have n6 := PySem.W.mg_none_of X G z6
  have n7 := PySem.W.mg_none_of X G z7
  have n8 := PySem.W.mg_none_of X G z8
  have n9 := PySem.W.mg_none_of X G z9
  have n10 := PySem.W.mg_none_of X G z10
  have n11 := PySem.W.mg_none_of X G z11
  have n12 := PySem.W.mg_none_of X G z12
  have n13 := PySem.W.mg_none_of X G z13
  have n14 := PySem.W.mg_none_of X G z14
  have n15 := PySem.W.mg_none_of X G z15
  have n16 := PySem.W.mg_none_of X G z16
  refine ⟨PySem.W.fnOf "law" "law" (defArgs (topS 41)) (defBody (topS 41)) (defScope (topS 41)) .none kV29 dc29 pm29 an29 cd29 ct29, g, fun s v => .of_eq rfl, fun base _ _ => ?_⟩
  have gk0 : GK mg K g "MOST_NUMBER" k_MOST_NUMBER := ⟨_, .int 1000000000000000000000000000000, PySem.W.mg_of X G hg0, (show RelV (.int 1000000000000000000000000000000) (.int 1000000000000000000000000000000 tg0) from ⟨_, rfl⟩), fun _ _ => .int _⟩
  have gk1 : GK mg K g "MOST_MEMBERS" k_MOST_MEMBERS := ⟨_, .int 60, PySem.W.mg_of X G hg1, (show RelV (.int 60) (.int 60 tg1) from ⟨_, rfl⟩), fun _ _ => .int _⟩
  have gk2 : GK mg K g "WORDS" k_WORDS := ⟨_, .ref ag2, PySem.W.mg_of X G hg2, rfl, fun _ _ => .tup (.inr ⟨_, _, _, hh2, rfl, rfl, by rw [sizeLine_eq]; show 2 ≤ 16777216; decide, .cons (show RelV (.str "alone") (.str "alone" tg2_0) from ⟨_, rfl⟩) (.cons (show RelV (.str "brought") (.str "brought" tg2_1) from ⟨_, rfl⟩) (.nil))⟩) (.cons (.str _) (.cons (.str _) (.nil)))⟩
  have gk3 : GK mg K g "MOST" k_MOST := ⟨_, .int 1000000000000000000000000000000, PySem.W.mg_of X G hg3, (show RelV (.int 1000000000000000000000000000000) (.int 1000000000000000000000000000000 tg3) from ⟨_, rfl⟩), fun _ _ => .int _⟩
  have xk0' : G4.XK K mg g "InvalidClub" := ⟨C0, _, _, _, _, PySem.F.excBase_ValueError, xe0, PySem.W.mg_of X G xa0, xk0, xs0, xt0, by first | rfl | simp [g, List.lookup]⟩
  have xk1' : G4.XK K mg g "InvalidMember" := ⟨C1, _, _, _, _, PySem.F.excBase_ValueError, xe1, PySem.W.mg_of X G xa1, xk1, xs1, xt1, by first | rfl | simp [g, List.lookup]⟩
  have F0 := fun_mk (st := topS 24) l0 c0 k0
  have m0 := PySem.W.mg_of X G a0
  have B0 := F0.binds (ps := ["club", "table", "raised", "lowered"]) fun _ _ _ _ _ _ us hl => match us, hl with | [_, _, _, _], _ => rfl
  have o0 : OkMs P w K mg base g 0 b_moves_of := by
    simp only [b_moves_of, fb_moves_of_1, tl_moves_of_1, tl_moves_of_2, OkMs, OkM, OkH, OkTgs, OkE, OkEs, OkO, OkS, and_true, true_and]
    repeat' apply And.intro
    all_goals first | trivial | exact gk0 | exact gk1 | exact gk2 | exact gk3 | exact xk0' | exact xk1'
  have G0 := def_ok (P := P) (w := w) (base := base) (g := g) (k := 0) (n := 4) F0 c_moves_of (by
    intro y hy
    simp only [List.contains_cons, List.contains_nil, Bool.or_false, Bool.or_eq_true, beq_iff_eq, List.elem_eq_contains] at hy
    rcases hy with rfl | rfl
    · exact n0
    · exact n1) o0 rfl
  have kn0 := kn_of G0 m0 k0 B0
  have F1 := fun_mk (st := topS 15) l1 c1 k1
  have m1 := PySem.W.mg_of X G a1
  have B1 := F1.binds (ps := ["club"]) fun _ _ _ _ _ _ us hl => match us, hl with | [_], _ => rfl
  have o1 : OkMs P w K mg base g 0 b_brought_of := by
    simp only [b_brought_of, lc_brought_of_1, OkMs, OkM, OkH, OkTgs, OkE, OkEs, OkO, OkS, and_true, true_and]
    repeat' apply And.intro
    all_goals first | trivial | exact gk0 | exact gk1 | exact gk2 | exact gk3 | exact xk0' | exact xk1'
  have G1 := def_ok (P := P) (w := w) (base := base) (g := g) (k := 0) (n := 1) F1 c_brought_of (by
    intro y hy
    simp only [List.contains_cons, List.contains_nil, Bool.or_false, Bool.or_eq_true, beq_iff_eq, List.elem_eq_contains] at hy
    subst hy; exact n2) o1 rfl
  have kn1 := kn_of G1 m1 k1 B1
  have F2 := fun_mk (st := topS 17) l2 c2 k2
  have m2 := PySem.W.mg_of X G a2
  have B2 := F2.binds (ps := ["club"]) fun _ _ _ _ _ _ us hl => match us, hl with | [_], _ => rfl
  have o2 : OkMs P w K mg base g 1 b_left_over := by
    simp only [b_left_over, lc_left_over_1, OkMs, OkM, OkH, OkTgs, OkE, OkEs, OkO, OkS, and_true, true_and]
    repeat' apply And.intro
    all_goals first | trivial | exact kn1.mono (by decide) | exact gk0 | exact gk1 | exact gk2 | exact gk3 | exact xk0' | exact xk1'
  have G2 := def_ok (P := P) (w := w) (base := base) (g := g) (k := 1) (n := 1) F2 c_left_over (by
    intro y hy
    simp only [List.contains_cons, List.contains_nil, Bool.or_false, Bool.or_eq_true, beq_iff_eq, List.elem_eq_contains] at hy
    rcases hy with rfl | rfl
    · exact n3
    · exact n4) o2 rfl
  have kn2 := kn_of G2 m2 k2 B2
  have F3 := fun_mk (st := topS 16) l3 c3 k3
  have m3 := PySem.W.mg_of X G a3
  have B3 := F3.binds (ps := ["club"]) fun _ _ _ _ _ _ us hl => match us, hl with | [_], _ => rfl
  have o3 : OkMs P w K mg base g 0 b_table_of := by
    simp only [b_table_of, fb_table_of_1, tl_table_of_1, tl_table_of_2, fb_table_of_2, tl_table_of_3, OkMs, OkM, OkH, OkTgs, OkE, OkEs, OkO, OkS, and_true, true_and]
    repeat' apply And.intro
    all_goals first | trivial | exact gk0 | exact gk1 | exact gk2 | exact gk3 | exact xk0' | exact xk1'
  have G3 := def_ok (P := P) (w := w) (base := base) (g := g) (k := 0) (n := 1) F3 c_table_of (by
    intro y hy
    simp only [List.contains_cons, List.contains_nil, Bool.or_false, Bool.or_eq_true, beq_iff_eq, List.elem_eq_contains] at hy
    rcases hy with rfl | rfl
    · exact n5
    · exact n6) o3 rfl
  have kn3 := kn_of G3 m3 k3 B3
  have F4 := fun_mk (st := topS 8) l4 c4 k4
  have m4 := PySem.W.mg_of X G a4
  have B4 := F4.binds (ps := ["thing"]) fun _ _ _ _ _ _ us hl => match us, hl with | [_], _ => rfl
  have o4 : OkMs P w K mg base g 0 b_is_integer := by
    simp only [b_is_integer, OkMs, OkM, OkH, OkTgs, OkE, OkEs, OkO, OkS, and_true, true_and]
    repeat' apply And.intro
    all_goals first | trivial | exact gk0 | exact gk1 | exact gk2 | exact gk3 | exact xk0' | exact xk1'
  have G4 := def_ok (P := P) (w := w) (base := base) (g := g) (k := 0) (n := 1) F4 c_is_integer (by
    intro y hy
    simp only [List.contains_cons, List.contains_nil, Bool.or_false, Bool.or_eq_true, beq_iff_eq, List.elem_eq_contains] at hy
    rcases hy with rfl | rfl | rfl
    · exact n7
    · exact n8
    · exact n6) o4 rfl
  have kn4 := kn_of G4 m4 k4 B4
  have F5 := fun_mk (st := topS 9) l5 c5 k5
  have m5 := PySem.W.mg_of X G a5
  have B5 := F5.binds (ps := ["thing"]) fun _ _ _ _ _ _ us hl => match us, hl with | [_], _ => rfl
  have o5 : OkMs P w K mg base g 1 b_is_count := by
    simp only [b_is_count, OkMs, OkM, OkH, OkTgs, OkE, OkEs, OkO, OkS, and_true, true_and]
    repeat' apply And.intro
    all_goals first | trivial | exact kn4.mono (by decide) | exact gk0 | exact gk1 | exact gk2 | exact gk3 | exact xk0' | exact xk1'
  have G5 := def_ok (P := P) (w := w) (base := base) (g := g) (k := 1) (n := 1) F5 c_is_count (by
    intro y hy
    simp only [List.contains_cons, List.contains_nil, Bool.or_false, Bool.or_eq_true, beq_iff_eq, List.elem_eq_contains] at hy
    exact absurd hy (by decide)) o5 rfl
  have kn5 := kn_of G5 m5 k5 B5
  have F6 := fun_mk (st := topS 10) l6 c6 k6
  have m6 := PySem.W.mg_of X G a6
  have B6 := F6.binds (ps := ["thing", "words"]) fun _ _ _ _ _ _ us hl => match us, hl with | [_, _], _ => rfl
  have o6 : OkMs P w K mg base g 2 b_is_told_member := by
    simp only [b_is_told_member, OkMs, OkM, OkH, OkTgs, OkE, OkEs, OkO, OkS, and_true, true_and]
    repeat' apply And.intro
    all_goals first | trivial | exact kn5.mono (by decide) | exact gk0 | exact gk1 | exact gk2 | exact gk3 | exact xk0' | exact xk1'
  have G6 := def_ok (P := P) (w := w) (base := base) (g := g) (k := 2) (n := 2) F6 c_is_told_member (by
    intro y hy
    simp only [List.contains_cons, List.contains_nil, Bool.or_false, Bool.or_eq_true, beq_iff_eq, List.elem_eq_contains] at hy
    rcases hy with rfl | rfl | rfl | rfl
    · exact n7
    · exact n9
    · exact n4
    · exact n10) o6 rfl
  have kn6 := kn_of G6 m6 k6 B6
  have F7 := fun_mk (st := topS 11) l7 c7 k7
  have m7 := PySem.W.mg_of X G a7
  have B7 := F7.binds (ps := ["thing", "words"]) fun _ _ _ _ _ _ us hl => match us, hl with | [_, _], _ => rfl
  have o7 : OkMs P w K mg base g 3 b_is_club_of := by
    simp only [b_is_club_of, lc_is_club_of_1, lc_is_club_of_2, OkMs, OkM, OkH, OkTgs, OkE, OkEs, OkO, OkS, and_true, true_and]
    repeat' apply And.intro
    all_goals first | trivial | exact kn6.mono (by decide) | exact gk0 | exact gk1 | exact gk2 | exact gk3 | exact xk0' | exact xk1'
  have G7 := def_ok (P := P) (w := w) (base := base) (g := g) (k := 3) (n := 2) F7 c_is_club_of (by
    intro y hy
    simp only [List.contains_cons, List.contains_nil, Bool.or_false, Bool.or_eq_true, beq_iff_eq, List.elem_eq_contains] at hy
    rcases hy with rfl | rfl | rfl | rfl | rfl
    · exact n11
    · exact n12
    · exact n4
    · exact n7
    · exact n13) o7 rfl
  have kn7 := kn_of G7 m7 k7 B7
  have F8 := fun_mk (st := topS 12) l8 c8 k8
  have m8 := PySem.W.mg_of X G a8
  have B8 := F8.binds (ps := ["thing"]) fun _ _ _ _ _ _ us hl => match us, hl with | [_], _ => rfl
  have o8 : OkMs P w K mg base g 4 b_need_club := by
    simp only [b_need_club, OkMs, OkM, OkH, OkTgs, OkE, OkEs, OkO, OkS, and_true, true_and]
    repeat' apply And.intro
    all_goals first | trivial | exact kn7.mono (by decide) | exact gk0 | exact gk1 | exact gk2 | exact gk3 | exact xk0' | exact xk1'
  have G8 := def_ok (P := P) (w := w) (base := base) (g := g) (k := 4) (n := 1) F8 c_need_club (by
    intro y hy
    simp only [List.contains_cons, List.contains_nil, Bool.or_false, Bool.or_eq_true, beq_iff_eq, List.elem_eq_contains] at hy
    exact absurd hy (by decide)) o8 rfl
  have kn8 := kn_of G8 m8 k8 B8
  have F9 := fun_mk (st := topS 25) l9 c9 k9
  have m9 := PySem.W.mg_of X G a9
  have B9 := F9.binds (ps := ["club"]) fun _ _ _ _ _ _ us hl => match us, hl with | [_], _ => rfl
  have o9 : OkMs P w K mg base g 5 b_two_numbers := by
    simp only [b_two_numbers, fb_two_numbers_1, fb_two_numbers_2, tl_two_numbers_1, tl_two_numbers_2, tl_two_numbers_3, OkMs, OkM, OkH, OkTgs, OkE, OkEs, OkO, OkS, and_true, true_and]
    repeat' apply And.intro
    all_goals first | trivial | exact kn0.mono (by decide) | exact kn2.mono (by decide) | exact kn3.mono (by decide) | exact kn8.mono (by decide) | exact gk0 | exact gk1 | exact gk2 | exact gk3 | exact xk0' | exact xk1'
  have G9 := def_ok (P := P) (w := w) (base := base) (g := g) (k := 5) (n := 1) F9 c_two_numbers (by
    intro y hy
    simp only [List.contains_cons, List.contains_nil, Bool.or_false, Bool.or_eq_true, beq_iff_eq, List.elem_eq_contains] at hy
    rcases hy with rfl | rfl
    · exact n14
    · exact n4) o9 rfl
  have kn9 := kn_of G9 m9 k9 B9
  have F10 := fun_mk (st := topS 31) l10 c10 k10
  have m10 := PySem.W.mg_of X G a10
  have B10 := F10.binds (ps := ["bag", "wide"]) fun _ _ _ _ _ _ us hl => match us, hl with | [_, _], _ => rfl
  have o10 : OkMs P w K mg base g 0 b__law_stirred := by
    simp only [b__law_stirred, tl__law_stirred_1, tl__law_stirred_2, fb__law_stirred_1, OkMs, OkM, OkH, OkTgs, OkE, OkEs, OkO, OkS, and_true, true_and]
    repeat' apply And.intro
    all_goals first | trivial | exact gk0 | exact gk1 | exact gk2 | exact gk3 | exact xk0' | exact xk1'
  have G10 := def_ok (P := P) (w := w) (base := base) (g := g) (k := 0) (n := 2) F10 c__law_stirred (by
    intro y hy
    simp only [List.contains_cons, List.contains_nil, Bool.or_false, Bool.or_eq_true, beq_iff_eq, List.elem_eq_contains] at hy
    rcases hy with rfl | rfl
    · exact n6
    · exact n14) o10 rfl
  have kn10 := kn_of G10 m10 k10 B10
  have F11 := fun_mk (st := topS 32) l11 c11 k11
  have m11 := PySem.W.mg_of X G a11
  have B11 := F11.binds (ps := ["bag", "wide"]) fun _ _ _ _ _ _ us hl => match us, hl with | [_, _], _ => rfl
  have o11 : OkMs P w K mg base g 1 b__law_draw := by
    simp only [b__law_draw, tl__law_draw_1, tl__law_draw_2, OkMs, OkM, OkH, OkTgs, OkE, OkEs, OkO, OkS, and_true, true_and]
    repeat' apply And.intro
    all_goals first | trivial | exact kn10.mono (by decide) | exact gk0 | exact gk1 | exact gk2 | exact gk3 | exact xk0' | exact xk1'
  have G11 := def_ok (P := P) (w := w) (base := base) (g := g) (k := 1) (n := 2) F11 c__law_draw (by
    intro y hy
    simp only [List.contains_cons, List.contains_nil, Bool.or_false, Bool.or_eq_true, beq_iff_eq, List.elem_eq_contains] at hy
    rcases hy with rfl | rfl
    · exact n6
    · exact n4) o11 rfl
  have kn11 := kn_of G11 m11 k11 B11
  have F12 := fun_mk (st := topS 40) l12 c12 k12
  have m12 := PySem.W.mg_of X G a12
  have B12 := F12.binds (ps := ["bag", "some"]) fun _ _ _ _ _ _ us hl => match us, hl with | [_, _], _ => rfl
  have o12 : OkMs P w K mg base g 6 b__law_moved_right := by
    simp only [b__law_moved_right, lc__law_moved_right_1, tl__law_moved_right_1, lc__law_moved_right_2, tl__law_moved_right_2, tl__law_moved_right_3, tl__law_moved_right_4, tl__law_moved_right_5, tl__law_moved_right_6, tl__law_moved_right_7, OkMs, OkM, OkH, OkTgs, OkE, OkEs, OkO, OkS, and_true, true_and]
    repeat' apply And.intro
    all_goals first | trivial | exact kn9.mono (by decide) | exact kn11.mono (by decide) | exact gk0 | exact gk1 | exact gk2 | exact gk3 | exact xk0' | exact xk1'
  have G12 := def_ok (P := P) (w := w) (base := base) (g := g) (k := 6) (n := 2) F12 c__law_moved_right (by
    intro y hy
    simp only [List.contains_cons, List.contains_nil, Bool.or_false, Bool.or_eq_true, beq_iff_eq, List.elem_eq_contains] at hy
    rcases hy with rfl | rfl
    · exact n4
    · exact n13) o12 rfl
  have kn12 := kn_of G12 m12 k12 B12
  have F13 := fun_mk (st := topS 27) l13 c13 k13
  have m13 := PySem.W.mg_of X G a13
  have B13 := F13.binds (ps := ["days"]) fun _ _ _ _ _ _ us hl => match us, hl with | [_], _ => rfl
  have o13 : OkMs P w K mg base g 0 b_stretches_of := by
    simp only [b_stretches_of, fb_stretches_of_1, OkMs, OkM, OkH, OkTgs, OkE, OkEs, OkO, OkS, and_true, true_and]
    repeat' apply And.intro
    all_goals first | trivial | exact gk0 | exact gk1 | exact gk2 | exact gk3 | exact xk0' | exact xk1'
  have G13 := def_ok (P := P) (w := w) (base := base) (g := g) (k := 0) (n := 1) F13 c_stretches_of (by
    intro y hy
    simp only [List.contains_cons, List.contains_nil, Bool.or_false, Bool.or_eq_true, beq_iff_eq, List.elem_eq_contains] at hy
    exact absurd hy (by decide)) o13 rfl
  have kn13 := kn_of G13 m13 k13 B13
  have F14 := fun_mk (st := topS 14) l14 c14 k14
  have m14 := PySem.W.mg_of X G a14
  have B14 := F14.binds (ps := ["club"]) fun _ _ _ _ _ _ us hl => match us, hl with | [_], _ => rfl
  have o14 : OkMs P w K mg base g 0 b_days_of := by
    simp only [b_days_of, lc_days_of_1, OkMs, OkM, OkH, OkTgs, OkE, OkEs, OkO, OkS, and_true, true_and]
    repeat' apply And.intro
    all_goals first | trivial | exact gk0 | exact gk1 | exact gk2 | exact gk3 | exact xk0' | exact xk1'
  have G14 := def_ok (P := P) (w := w) (base := base) (g := g) (k := 0) (n := 1) F14 c_days_of (by
    intro y hy
    simp only [List.contains_cons, List.contains_nil, Bool.or_false, Bool.or_eq_true, beq_iff_eq, List.elem_eq_contains] at hy
    rcases hy with rfl | rfl
    · exact n5
    · exact n15) o14 rfl
  have kn14 := kn_of G14 m14 k14 B14
  have F15 := fun_mk (st := topS 18) l15 c15 k15
  have m15 := PySem.W.mg_of X G a15
  have B15 := F15.binds (ps := ["club"]) fun _ _ _ _ _ _ us hl => match us, hl with | [_], _ => rfl
  have o15 : OkMs P w K mg base g 2 b_conflict_in := by
    simp only [b_conflict_in, lc_conflict_in_1, OkMs, OkM, OkH, OkTgs, OkE, OkEs, OkO, OkS, and_true, true_and]
    repeat' apply And.intro
    all_goals first | trivial | exact kn2.mono (by decide) | exact kn3.mono (by decide) | exact gk0 | exact gk1 | exact gk2 | exact gk3 | exact xk0' | exact xk1'
  have G15 := def_ok (P := P) (w := w) (base := base) (g := g) (k := 2) (n := 1) F15 c_conflict_in (by
    intro y hy
    simp only [List.contains_cons, List.contains_nil, Bool.or_false, Bool.or_eq_true, beq_iff_eq, List.elem_eq_contains] at hy
    exact absurd hy (by decide)) o15 rfl
  have kn15 := kn_of G15 m15 k15 B15
  have F16 := fun_mk (st := topS 22) l16 c16 k16
  have m16 := PySem.W.mg_of X G a16
  have B16 := F16.binds (ps := ["club", "member", "item"]) fun _ _ _ _ _ _ us hl => match us, hl with | [_, _, _], _ => rfl
  have o16 : OkMs P w K mg base g 0 b_club_told := by
    simp only [b_club_told, lc_club_told_1, lc_club_told_2, OkMs, OkM, OkH, OkTgs, OkE, OkEs, OkO, OkS, and_true, true_and]
    repeat' apply And.intro
    all_goals first | trivial | exact gk0 | exact gk1 | exact gk2 | exact gk3 | exact xk0' | exact xk1'
  have G16 := def_ok (P := P) (w := w) (base := base) (g := g) (k := 0) (n := 3) F16 c_club_told (by
    intro y hy
    simp only [List.contains_cons, List.contains_nil, Bool.or_false, Bool.or_eq_true, beq_iff_eq, List.elem_eq_contains] at hy
    exact absurd hy (by decide)) o16 rfl
  have kn16 := kn_of G16 m16 k16 B16
  have F17 := fun_mk (st := topS 13) l17 c17 k17
  have m17 := PySem.W.mg_of X G a17
  have B17 := F17.binds (ps := ["club", "member"]) fun _ _ _ _ _ _ us hl => match us, hl with | [_, _], _ => rfl
  have o17 : OkMs P w K mg base g 0 b_need_member := by
    simp only [b_need_member, OkMs, OkM, OkH, OkTgs, OkE, OkEs, OkO, OkS, and_true, true_and]
    repeat' apply And.intro
    all_goals first | trivial | exact gk0 | exact gk1 | exact gk2 | exact gk3 | exact xk0' | exact xk1'
  have G17 := def_ok (P := P) (w := w) (base := base) (g := g) (k := 0) (n := 2) F17 c_need_member (by
    intro y hy
    simp only [List.contains_cons, List.contains_nil, Bool.or_false, Bool.or_eq_true, beq_iff_eq, List.elem_eq_contains] at hy
    subst hy; exact n4) o17 rfl
  have kn17 := kn_of G17 m17 k17 B17
  have F18 := fun_mk (st := topS 28) l18 c18 k18
  have m18 := PySem.W.mg_of X G a18
  have B18 := F18.binds (ps := ["club", "member"]) fun _ _ _ _ _ _ us hl => match us, hl with | [_, _], _ => rfl
  have o18 : OkMs P w K mg base g 5 b_one_day := by
    simp only [b_one_day, fb_one_day_1, tl_one_day_1, tl_one_day_2, tl_one_day_3, tl_one_day_4, OkMs, OkM, OkH, OkTgs, OkE, OkEs, OkO, OkS, and_true, true_and]
    repeat' apply And.intro
    all_goals first | trivial | exact kn13.mono (by decide) | exact kn14.mono (by decide) | exact kn15.mono (by decide) | exact kn16.mono (by decide) | exact kn17.mono (by decide) | exact kn8.mono (by decide) | exact gk0 | exact gk1 | exact gk2 | exact gk3 | exact xk0' | exact xk1'
  have G18 := def_ok (P := P) (w := w) (base := base) (g := g) (k := 5) (n := 2) F18 c_one_day (by
    intro y hy
    simp only [List.contains_cons, List.contains_nil, Bool.or_false, Bool.or_eq_true, beq_iff_eq, List.elem_eq_contains] at hy
    exact absurd hy (by decide)) o18 rfl
  have kn18 := kn_of G18 m18 k18 B18
  have F19 := fun_mk (st := topS 19) l19 c19 k19
  have m19 := PySem.W.mg_of X G a19
  have B19 := F19.binds (ps := ["club"]) fun _ _ _ _ _ _ us hl => match us, hl with | [_], _ => rfl
  have o19 : OkMs P w K mg base g 5 b_conflict_of := by
    simp only [b_conflict_of, OkMs, OkM, OkH, OkTgs, OkE, OkEs, OkO, OkS, and_true, true_and]
    repeat' apply And.intro
    all_goals first | trivial | exact kn15.mono (by decide) | exact kn8.mono (by decide) | exact gk0 | exact gk1 | exact gk2 | exact gk3 | exact xk0' | exact xk1'
  have G19 := def_ok (P := P) (w := w) (base := base) (g := g) (k := 5) (n := 1) F19 c_conflict_of (by
    intro y hy
    simp only [List.contains_cons, List.contains_nil, Bool.or_false, Bool.or_eq_true, beq_iff_eq, List.elem_eq_contains] at hy
    exact absurd hy (by decide)) o19 rfl
  have kn19 := kn_of G19 m19 k19 B19
  have F20 := fun_mk (st := topS 36) l20 c20 k20
  have m20 := PySem.W.mg_of X G a20
  have B20 := F20.binds (ps := ["some", "spot", "one"]) fun _ _ _ _ _ _ us hl => match us, hl with | [_, _, _], _ => rfl
  have o20 : OkMs P w K mg base g 0 b__law_with := by
    simp only [b__law_with, OkMs, OkM, OkH, OkTgs, OkE, OkEs, OkO, OkS, and_true, true_and]
    repeat' apply And.intro
    all_goals first | trivial | exact gk0 | exact gk1 | exact gk2 | exact gk3 | exact xk0' | exact xk1'
  have G20 := def_ok (P := P) (w := w) (base := base) (g := g) (k := 0) (n := 3) F20 c__law_with (by
    intro y hy
    simp only [List.contains_cons, List.contains_nil, Bool.or_false, Bool.or_eq_true, beq_iff_eq, List.elem_eq_contains] at hy
    subst hy; exact n5) o20 rfl
  have kn20 := kn_of G20 m20 k20 B20
  have F21 := fun_mk (st := topS 39) l21 c21 k21
  have m21 := PySem.W.mg_of X G a21
  have B21 := F21.binds (ps := ["bag", "some"]) fun _ _ _ _ _ _ us hl => match us, hl with | [_, _], _ => rfl
  have o21 : OkMs P w K mg base g 6 b__law_day_right := by
    simp only [b__law_day_right, lc__law_day_right_1, lc__law_day_right_2, tl__law_day_right_1, fb__law_day_right_1, fb__law_day_right_2, fb__law_day_right_3, tl__law_day_right_2, lc__law_day_right_3, tl__law_day_right_3, tl__law_day_right_4, tl__law_day_right_5, tl__law_day_right_6, OkMs, OkM, OkH, OkTgs, OkE, OkEs, OkO, OkS, and_true, true_and]
    repeat' apply And.intro
    all_goals first | trivial | exact kn18.mono (by decide) | exact kn19.mono (by decide) | exact kn20.mono (by decide) | exact kn11.mono (by decide) | exact gk0 | exact gk1 | exact gk2 | exact gk3 | exact xk0' | exact xk1'
  have G21 := def_ok (P := P) (w := w) (base := base) (g := g) (k := 6) (n := 2) F21 c__law_day_right (by
    intro y hy
    simp only [List.contains_cons, List.contains_nil, Bool.or_false, Bool.or_eq_true, beq_iff_eq, List.elem_eq_contains] at hy
    rcases hy with rfl | rfl
    · exact n14
    · exact n4) o21 rfl
  have kn21 := kn_of G21 m21 k21 B21
  have F22 := fun_mk (st := topS 26) l22 c22 k22
  have m22 := PySem.W.mg_of X G a22
  have B22 := F22.binds (ps := ["club"]) fun _ _ _ _ _ _ us hl => match us, hl with | [_], _ => rfl
  have o22 : OkMs P w K mg base g 5 b_one_came := by
    simp only [b_one_came, fb_one_came_1, tl_one_came_1, tl_one_came_2, OkMs, OkM, OkH, OkTgs, OkE, OkEs, OkO, OkS, and_true, true_and]
    repeat' apply And.intro
    all_goals first | trivial | exact kn15.mono (by decide) | exact kn16.mono (by decide) | exact kn8.mono (by decide) | exact gk0 | exact gk1 | exact gk2 | exact gk3 | exact xk0' | exact xk1'
  have G22 := def_ok (P := P) (w := w) (base := base) (g := g) (k := 5) (n := 1) F22 c_one_came (by
    intro y hy
    simp only [List.contains_cons, List.contains_nil, Bool.or_false, Bool.or_eq_true, beq_iff_eq, List.elem_eq_contains] at hy
    subst hy; exact n2) o22 rfl
  have kn22 := kn_of G22 m22 k22 B22
  have F23 := fun_mk (st := topS 38) l23 c23 k23
  have m23 := PySem.W.mg_of X G a23
  have B23 := F23.binds (ps := ["bag", "some"]) fun _ _ _ _ _ _ us hl => match us, hl with | [_, _], _ => rfl
  have o23 : OkMs P w K mg base g 6 b__law_came_right := by
    simp only [b__law_came_right, fb__law_came_right_1, tl__law_came_right_1, tl__law_came_right_2, tl__law_came_right_3, tl__law_came_right_4, OkMs, OkM, OkH, OkTgs, OkE, OkEs, OkO, OkS, and_true, true_and]
    repeat' apply And.intro
    all_goals first | trivial | exact kn22.mono (by decide) | exact kn19.mono (by decide) | exact kn20.mono (by decide) | exact kn11.mono (by decide) | exact gk0 | exact gk1 | exact gk2 | exact gk3 | exact xk0' | exact xk1'
  have G23 := def_ok (P := P) (w := w) (base := base) (g := g) (k := 6) (n := 2) F23 c__law_came_right (by
    intro y hy
    simp only [List.contains_cons, List.contains_nil, Bool.or_false, Bool.or_eq_true, beq_iff_eq, List.elem_eq_contains] at hy
    rcases hy with rfl | rfl
    · exact n6
    · exact n4) o23 rfl
  have kn23 := kn_of G23 m23 k23 B23
  have F24 := fun_mk (st := topS 23) l24 c24 k24
  have m24 := PySem.W.mg_of X G a24
  have B24 := F24.binds (ps := ["club"]) fun _ _ _ _ _ _ us hl => match us, hl with | [_], _ => rfl
  have o24 : OkMs P w K mg base g 5 b_one_number := by
    simp only [b_one_number, fb_one_number_1, tl_one_number_1, tl_one_number_2, OkMs, OkM, OkH, OkTgs, OkE, OkEs, OkO, OkS, and_true, true_and]
    repeat' apply And.intro
    all_goals first | trivial | exact kn15.mono (by decide) | exact kn16.mono (by decide) | exact kn2.mono (by decide) | exact kn8.mono (by decide) | exact gk0 | exact gk1 | exact gk2 | exact gk3 | exact xk0' | exact xk1'
  have G24 := def_ok (P := P) (w := w) (base := base) (g := g) (k := 5) (n := 1) F24 c_one_number (by
    intro y hy
    simp only [List.contains_cons, List.contains_nil, Bool.or_false, Bool.or_eq_true, beq_iff_eq, List.elem_eq_contains] at hy
    subst hy; exact n2) o24 rfl
  have kn24 := kn_of G24 m24 k24 B24
  have F25 := fun_mk (st := topS 37) l25 c25 k25
  have m25 := PySem.W.mg_of X G a25
  have B25 := F25.binds (ps := ["bag", "some"]) fun _ _ _ _ _ _ us hl => match us, hl with | [_, _], _ => rfl
  have o25 : OkMs P w K mg base g 6 b__law_number_right := by
    simp only [b__law_number_right, lc__law_number_right_1, fb__law_number_right_1, tl__law_number_right_1, tl__law_number_right_2, tl__law_number_right_3, tl__law_number_right_4, tl__law_number_right_5, OkMs, OkM, OkH, OkTgs, OkE, OkEs, OkO, OkS, and_true, true_and]
    repeat' apply And.intro
    all_goals first | trivial | exact kn24.mono (by decide) | exact kn19.mono (by decide) | exact kn20.mono (by decide) | exact kn11.mono (by decide) | exact gk0 | exact gk1 | exact gk2 | exact gk3 | exact xk0' | exact xk1'
  have G25 := def_ok (P := P) (w := w) (base := base) (g := g) (k := 6) (n := 2) F25 c__law_number_right (by
    intro y hy
    simp only [List.contains_cons, List.contains_nil, Bool.or_false, Bool.or_eq_true, beq_iff_eq, List.elem_eq_contains] at hy
    rcases hy with rfl | rfl
    · exact n14
    · exact n4) o25 rfl
  have kn25 := kn_of G25 m25 k25 B25
  have F26 := fun_mk (st := topS 34) l26 c26 k26
  have m26 := PySem.W.mg_of X G a26
  have B26 := F26.binds (ps := ["bag", "many"]) fun _ _ _ _ _ _ us hl => match us, hl with | [_, _], _ => rfl
  have o26 : OkMs P w K mg base g 2 b__law_days := by
    simp only [b__law_days, fb__law_days_1, OkMs, OkM, OkH, OkTgs, OkE, OkEs, OkO, OkS, and_true, true_and]
    repeat' apply And.intro
    all_goals first | trivial | exact kn11.mono (by decide) | exact gk0 | exact gk1 | exact gk2 | exact gk3 | exact xk0' | exact xk1'
  have G26 := def_ok (P := P) (w := w) (base := base) (g := g) (k := 2) (n := 2) F26 c__law_days (by
    intro y hy
    simp only [List.contains_cons, List.contains_nil, Bool.or_false, Bool.or_eq_true, beq_iff_eq, List.elem_eq_contains] at hy
    subst hy; exact n14) o26 rfl
  have kn26 := kn_of G26 m26 k26 B26
  have F27 := fun_mk (st := topS 35) l27 c27 k27
  have m27 := PySem.W.mg_of X G a27
  have B27 := F27.binds (ps := ["bag", "many"]) fun _ _ _ _ _ _ us hl => match us, hl with | [_, _], _ => rfl
  have o27 : OkMs P w K mg base g 3 b__law_story := by
    simp only [b__law_story, lc__law_story_1, lc__law_story_2, tl__law_story_1, lc__law_story_3, fb__law_story_1, tl__law_story_2, OkMs, OkM, OkH, OkTgs, OkE, OkEs, OkO, OkS, and_true, true_and]
    repeat' apply And.intro
    all_goals first | trivial | exact kn11.mono (by decide) | exact kn26.mono (by decide) | exact gk0 | exact gk1 | exact gk2 | exact gk3 | exact xk0' | exact xk1'
  have G27 := def_ok (P := P) (w := w) (base := base) (g := g) (k := 3) (n := 2) F27 c__law_story (by
    intro y hy
    simp only [List.contains_cons, List.contains_nil, Bool.or_false, Bool.or_eq_true, beq_iff_eq, List.elem_eq_contains] at hy
    rcases hy with rfl | rfl
    · exact n14
    · exact n4) o27 rfl
  have kn27 := kn_of G27 m27 k27 B27
  have F28 := fun_mk (st := topS 30) l28 c28 k28
  have m28 := PySem.W.mg_of X G a28
  have B28 := F28.binds (ps := ["script"]) fun _ _ _ _ _ _ us hl => match us, hl with | [_], _ => rfl
  have o28 : OkMs P w K mg base g 0 b__law_bag := by
    simp only [b__law_bag, lc__law_bag_1, fb__law_bag_1, OkMs, OkM, OkH, OkTgs, OkE, OkEs, OkO, OkS, and_true, true_and]
    repeat' apply And.intro
    all_goals first | trivial | exact gk0 | exact gk1 | exact gk2 | exact gk3 | exact xk0' | exact xk1'
  have G28 := def_ok (P := P) (w := w) (base := base) (g := g) (k := 0) (n := 1) F28 c__law_bag (by
    intro y hy
    simp only [List.contains_cons, List.contains_nil, Bool.or_false, Bool.or_eq_true, beq_iff_eq, List.elem_eq_contains] at hy
    rcases hy with rfl | rfl
    · exact n6
    · exact n16) o28 rfl
  have kn28 := kn_of G28 m28 k28 B28
  have F29 := fun_mk (st := topS 41) l29 c29 k29
  have m29 := PySem.W.mg_of X G a29
  have B29 := F29.binds (ps := ["script"]) fun _ _ _ _ _ _ us hl => match us, hl with | [_], _ => rfl
  have o29 : OkMs P w K mg base g 7 b_law := by
    simp only [b_law, fb_law_1, OkMs, OkM, OkH, OkTgs, OkE, OkEs, OkO, OkS, and_true, true_and]
    repeat' apply And.intro
    all_goals first | trivial | exact kn12.mono (by decide) | exact kn21.mono (by decide) | exact kn23.mono (by decide) | exact kn25.mono (by decide) | exact kn27.mono (by decide) | exact kn11.mono (by decide) | exact kn28.mono (by decide) | exact gk0 | exact gk1 | exact gk2 | exact gk3 | exact xk0' | exact xk1'
  have G29 := def_ok (P := P) (w := w) (base := base) (g := g) (k := 7) (n := 1) F29 c_law (by
    intro y hy
    simp only [List.contains_cons, List.contains_nil, Bool.or_false, Bool.or_eq_true, beq_iff_eq, List.elem_eq_contains] at hy
    rcases hy with rfl | rfl
    · exact n14
    · exact n6) o29 rfl
  exact G29
end G4
open PySem PySem.W PyProof.Rows
set_option maxHeartbeats 0 in
theorem PySem.Challenge.cw_broughtin_k67_whole_entries_put_right_holds : PySem.Challenge.rw_broughtin_k67_whole_entries_put_right.Holds := by
  w_on; o_law; k_head; (case hw => w_witness2)
  k_fill
  refine G4.walk_ofG (l := PySem.Challenge.rw_broughtin_k67_whole_entries_put_right) (n := 63) (k := 8) (x := "script") (f := G4.f_law) rfl (by decide) rfl ⟨rfl, by decide, by decide⟩ (fun w h Y => PySem.W.kIn_of Y) ?F G4.law_true
  case F =>
    intro w mg fa h KX G hmg
    refine' G4.all_mk KX G hmg ?a0 ?l0 ?c0 ?k0 ?a1 ?l1 ?c1 ?k1 ?a2 ?l2 ?c2 ?k2 ?a3 ?l3 ?c3 ?k3 ?a4 ?l4 ?c4 ?k4 ?a5 ?l5 ?c5 ?k5 ?a6 ?l6 ?c6 ?k6 ?a7 ?l7 ?c7 ?k7 ?a8 ?l8 ?c8 ?k8 ?a9 ?l9 ?c9 ?k9 ?a10 ?l10 ?c10 ?k10 ?a11 ?l11 ?c11 ?k11 ?a12 ?l12 ?c12 ?k12 ?a13 ?l13 ?c13 ?k13 ?a14 ?l14 ?c14 ?k14 ?a15 ?l15 ?c15 ?k15 ?a16 ?l16 ?c16 ?k16 ?a17 ?l17 ?c17 ?k17 ?a18 ?l18 ?c18 ?k18 ?a19 ?l19 ?c19 ?k19 ?a20 ?l20 ?c20 ?k20 ?a21 ?l21 ?c21 ?k21 ?a22 ?l22 ?c22 ?k22 ?a23 ?l23 ?c23 ?k23 ?a24 ?l24 ?c24 ?k24 ?a25 ?l25 ?c25 ?k25 ?a26 ?l26 ?c26 ?k26 ?a27 ?l27 ?c27 ?k27 ?a28 ?l28 ?c28 ?k28 ?a29 ?l29 ?c29 ?k29 ?z0 ?z1 ?z2 ?z3 ?z4 ?z5 ?z6 ?z7 ?z8 ?z9 ?z10 ?z11 ?z12 ?z13 ?z14 ?z15 ?z16 ?hg0 ?hg1 ?hg2 ?hh2 ?hg3 ?xa0 ?xk0 ?xs0 ?xt0 ?xe0 ?xa1 ?xk1 ?xs1 ?xt1 ?xe1
    (case a0 => k_is)
    (case l0 => k_is)
    (case c0 => k_is)
    (case k0 => k_is)
    (case a1 => k_is)
    (case l1 => k_is)
    (case c1 => k_is)
    (case k1 => k_is)
    (case a2 => k_is)
    (case l2 => k_is)
    (case c2 => k_is)
    (case k2 => k_is)
    (case a3 => k_is)
    (case l3 => k_is)
    (case c3 => k_is)
    (case k3 => k_is)
    (case a4 => k_is)
    (case l4 => k_is)
    (case c4 => k_is)
    (case k4 => k_is)
    (case a5 => k_is)
    (case l5 => k_is)
    (case c5 => k_is)
    (case k5 => k_is)
    (case a6 => k_is)
    (case l6 => k_is)
    (case c6 => k_is)
    (case k6 => k_is)
    (case a7 => k_is)
    (case l7 => k_is)
    (case c7 => k_is)
    (case k7 => k_is)
    (case a8 => k_is)
    (case l8 => k_is)
    (case c8 => k_is)
    (case k8 => k_is)
    (case a9 => k_is)
    (case l9 => k_is)
    (case c9 => k_is)
    (case k9 => k_is)
    (case a10 => k_is)
    (case l10 => k_is)
    (case c10 => k_is)
    (case k10 => k_is)
    (case a11 => k_is)
    (case l11 => k_is)
    (case c11 => k_is)
    (case k11 => k_is)
    (case a12 => k_is)
    (case l12 => k_is)
    (case c12 => k_is)
    (case k12 => k_is)
    (case a13 => k_is)
    (case l13 => k_is)
    (case c13 => k_is)
    (case k13 => k_is)
    (case a14 => k_is)
    (case l14 => k_is)
    (case c14 => k_is)
    (case k14 => k_is)
    (case a15 => k_is)
    (case l15 => k_is)
    (case c15 => k_is)
    (case k15 => k_is)
    (case a16 => k_is)
    (case l16 => k_is)
    (case c16 => k_is)
    (case k16 => k_is)
    (case a17 => k_is)
    (case l17 => k_is)
    (case c17 => k_is)
    (case k17 => k_is)
    (case a18 => k_is)
    (case l18 => k_is)
    (case c18 => k_is)
    (case k18 => k_is)
    (case a19 => k_is)
    (case l19 => k_is)
    (case c19 => k_is)
    (case k19 => k_is)
    (case a20 => k_is)
    (case l20 => k_is)
    (case c20 => k_is)
    (case k20 => k_is)
    (case a21 => k_is)
    (case l21 => k_is)
    (case c21 => k_is)
    (case k21 => k_is)
    (case a22 => k_is)
    (case l22 => k_is)
    (case c22 => k_is)
    (case k22 => k_is)
    (case a23 => k_is)
    (case l23 => k_is)
    (case c23 => k_is)
    (case k23 => k_is)
    (case a24 => k_is)
    (case l24 => k_is)
    (case c24 => k_is)
    (case k24 => k_is)
    (case a25 => k_is)
    (case l25 => k_is)
    (case c25 => k_is)
    (case k25 => k_is)
    (case a26 => k_is)
    (case l26 => k_is)
    (case c26 => k_is)
    (case k26 => k_is)
    (case a27 => k_is)
    (case l27 => k_is)
    (case c27 => k_is)
    (case k27 => k_is)
    (case a28 => k_is)
    (case l28 => k_is)
    (case c28 => k_is)
    (case k28 => k_is)
    (case a29 => k_is)
    (case l29 => k_is)
    (case c29 => k_is)
    (case k29 => k_is)
    (case z0 => k_is)
    (case z1 => k_is)
    (case z2 => k_is)
    (case z3 => k_is)
    (case z4 => k_is)
    (case z5 => k_is)
    (case z6 => k_is)
    (case z7 => k_is)
    (case z8 => k_is)
    (case z9 => k_is)
    (case z10 => k_is)
    (case z11 => k_is)
    (case z12 => k_is)
    (case z13 => k_is)
    (case z14 => k_is)
    (case z15 => k_is)
    (case z16 => k_is)
    (case hg0 => k_is)
    (case hg1 => k_is)
    (case hg2 => k_is)
    (case hh2 => k_is)
    (case hg3 => k_is)
    (case xa0 => k_is)
    (case xk0 => k_is)
    (case xs0 => k_is)
    (case xt0 => k_is)
    (case xe0 => first | k_exc | k_is)
    (case xa1 => k_is)
    (case xk1 => k_is)
    (case xs1 => k_is)
    (case xt1 => k_is)
    (case xe1 => first | k_exc | k_is)
