import PyProof.Rows.All
import Wide.All
import OpenK.AllK
import Wide.FinOn
import HandS.ForMost
import KE.SortData
import HandS.TupAny
import HandS.IsInst
import HandS.Style
import HandS.SetKeys
import HandS.Zip
import HandS.Deep
import HandS.Head2
import HandS.HeadEnd
import HandS.HeadHook1
import HandS.HeadHook2
import HandS.Conv
import HandS.SortKw
import HandS.DictComp
import HandS.NoneIn
import HandS.Small
import KE.GoesEnum
import HandS.Set
import HandS.Strs
import KE.SortKeyHeap
import PyProof.MinMaxWalk
import HandS.Defaults
import HandS.Head0
import HandS.Head1
import PySem.Challenge.RW_matchweb_k87_namings
-- Ev
set_option autoImplicit true
set_option Elab.async false
set_option linter.all false
set_option maxRecDepth 100000
set_option maxHeartbeats 4000000
/-! Ev: a value evaluator for the Python of the program and the laws: data D, a small language of its own (IE, IS), its total evaluator with fuel. -/
namespace Ev
open PySem

/-! ### data -/
inductive D where
  | non | bl (b : Bool) | int (i : Int) | str (x : Str) | tup (xs : List D) | lst (xs : List D) | dct (kvs : List (D × D)) | ref (n : Nat) | scr (xs : List D)
  deriving Inhabited

mutual
def D.beq : D → D → Bool
  | .non, .non => true
  | .bl a, .bl b => a == b
  | .int a, .int b => a == b
  | .str a, .str b => a == b
  | .tup a, .tup b => D.beqs a b
  | .lst a, .lst b => D.beqs a b
  | .dct a, .dct b => D.beqp a b
  | .ref a, .ref b => a == b
  | .scr a, .scr b => D.beqs a b
  | _, _ => false
def D.beqs : List D → List D → Bool
  | [], [] => true
  | x :: xs, y :: ys => D.beq x y && D.beqs xs ys
  | _, _ => false
def D.beqp : List (D × D) → List (D × D) → Bool
  | [], [] => true
  | (x, u) :: xs, (y, v) :: ys => D.beq x y && D.beq u v && D.beqp xs ys
  | _, _ => false
end
mutual
theorem D.beq_eq : ∀ a b : D, D.beq a b = true ↔ a = b
  | .non, b => by cases b <;> simp [D.beq]
  | .bl a, b => by cases b <;> simp [D.beq]
  | .int a, b => by cases b <;> simp [D.beq]
  | .str a, b => by cases b <;> simp [D.beq]
  | .tup a, b => by cases b <;> simp [D.beq, D.beqs_eq a]
  | .lst a, b => by cases b <;> simp [D.beq, D.beqs_eq a]
  | .dct a, b => by cases b <;> simp [D.beq, D.beqp_eq a]
  | .ref a, b => by cases b <;> simp [D.beq]
  | .scr a, b => by cases b <;> simp [D.beq, D.beqs_eq a]
theorem D.beqs_eq : ∀ a b : List D, D.beqs a b = true ↔ a = b
  | [], b => by cases b <;> simp [D.beqs]
  | x :: xs, b => by cases b <;> simp [D.beqs, D.beq_eq x, D.beqs_eq xs]
theorem D.beqp_eq : ∀ a b : List (D × D), D.beqp a b = true ↔ a = b
  | [], b => by cases b <;> simp [D.beqp]
  | (x, u) :: xs, b => by
    cases b with
    | nil => simp [D.beqp]
    | cons y ys => obtain ⟨y, v⟩ := y; simp [D.beqp, D.beq_eq x, D.beq_eq u, D.beqp_eq xs, and_assoc]
end
instance : DecidableEq D := fun a b => if h : D.beq a b = true then isTrue ((D.beq_eq a b).mp h) else isFalse fun e => h ((D.beq_eq a b).mpr e)

def b2i (b : Bool) : Int := if b then 1 else 0
mutual
/-- Python's == of data without dicts -/
def D.eqv : D → D → Bool
  | .non, .non => true
  | .bl a, .bl b => a == b
  | .bl a, .int b => b2i a == b
  | .int a, .bl b => a == b2i b
  | .int a, .int b => a == b
  | .str a, .str b => a == b
  | .tup a, .tup b => D.eqvs a b
  | .lst a, .lst b => D.eqvs a b
  | _, _ => false
def D.eqvs : List D → List D → Bool
  | [], [] => true
  | x :: xs, y :: ys => D.eqv x y && D.eqvs xs ys
  | _, _ => false
end
mutual
/-- no dict, no shared thing within; not deeper than n -/
def D.plain : Nat → D → Bool
  | _, .non => true
  | _, .bl _ => true
  | _, .int _ => true
  | _, .str _ => true
  | 0, _ => false
  | n + 1, .tup xs => D.plains n xs
  | n + 1, .lst xs => D.plains n xs
  | _, _ => false
def D.plains : Nat → List D → Bool
  | _, [] => true
  | n, x :: xs => D.plain n x && D.plains n xs
end
mutual
def D.pd : D → PyData
  | .non => .none
  | .bl b => .bool b
  | .int i => .int i
  | .str x => .str x
  | .tup xs => .tuple (D.pds xs)
  | .lst xs => .list (D.pds xs)
  | .dct _ => .dict []
  | .ref _ => .dict []
  | .scr _ => .dict []
def D.pds : List D → List PyData
  | [] => []
  | x :: xs => D.pd x :: D.pds xs
end
theorem D.pds_map : ∀ xs : List D, D.pds xs = xs.map D.pd
  | [] => rfl
  | x :: xs => by simp [D.pds, D.pds_map xs]

def deep : Nat := 60

/-! ### operators -/
inductive BO where | add | sub | mul | mod | fdiv | pow | shl | shr | band | bor | bxor
  deriving DecidableEq
inductive UO where | neg | inv | part
  deriving DecidableEq
inductive CO where | eq | ne | lt | le | gt | ge | is | isn | inn | notin
  deriving DecidableEq

def repStr (x : Str) (k : Nat) : Str := ⟨(List.replicate k x.cps).foldl (· ++ ·) #[]⟩
def binD : BO → D → D → Option D
  | .add, .int a, .int b => some (.int (a + b))
  | .add, .str a, .str b => if a.length + b.length ≤ sizeLine then some (.str (a ++ b)) else none
  | .add, .tup a, .tup b => if a.length + b.length ≤ sizeLine then some (.tup (a ++ b)) else none
  | .add, .lst a, .lst b => if a.length + b.length ≤ sizeLine then some (.lst (a ++ b)) else none
  | .sub, .int a, .int b => some (.int (a - b))
  | .mul, .int a, .int b => if (-(2 ^ 64) < a ∧ a < 2 ^ 64) ∨ (-(2 ^ 64) < b ∧ b < 2 ^ 64) then some (.int (a * b)) else none
  | .mul, .str a, .int k => if 1 ≤ k ∧ k ≤ 1000 ∧ a.length ≤ 1000 then some (.str (repStr a k.toNat)) else none
  | .mul, .lst a, .int k => if -(2 ^ 63) ≤ k ∧ k < 2 ^ 63 ∧ a.length * k.toNat ≤ sizeLine then some (.lst (List.replicate k.toNat a).flatten) else none
  | .mod, .int a, .int b => if 0 < b then some (.int (a % b)) else none
  | .fdiv, .int a, .int b => if 0 < b ∧ b < 1073741824 then some (.int (a / b)) else none
  | .pow, .int a, .int b => if 0 ≤ b ∧ b ≤ 1000000 ∧ a.natAbs < 2 ^ 64 then some (.int (a ^ b.toNat)) else none
  | .shl, .int a, .int b => if 0 ≤ b ∧ b ≤ 1000000 ∧ a.natAbs < 2 ^ 64 then some (.int (a * 2 ^ b.toNat)) else none
  | .shr, .int a, .int b => if 0 ≤ b then some (.int (a / 2 ^ b.toNat)) else none
  | .band, .int a, .int b => some (.int (Builtin.bitAnd a b))
  | .bor, .int a, .int b => some (.int (Builtin.bitOr a b))
  | .bxor, .int a, .int b => some (.int (Builtin.bitXor a b))
  | _, _, _ => none
def unD : UO → D → Option D
  | .neg, .int a => some (.int (-a))
  | .inv, .int a => some (.int (Builtin.bitNot a))
  | .part, .int a => some (.int a)
  | _, _ => none

def keyOk1 : D → Bool
  | .int _ => true
  | .str _ => true
  | _ => false
def dget (kvs : List (D × D)) (k : D) : Option D := (kvs.find? fun p => decide (p.1 = k)).map (·.2)
def dhas (kvs : List (D × D)) (k : D) : Bool := kvs.any fun p => decide (p.1 = k)
def dput (kvs : List (D × D)) (k v : D) : List (D × D) := if dhas kvs k = true then kvs.map (fun p => if p.1 = k then (p.1, v) else p) else kvs ++ [(k, v)]

def strIn (i j : Str) : Option Bool := match i.cps.toList with
  | [c] => some (decide (c ∈ j.cps.toList))
  | _ => none
def anyEqv (xs : List D) (x : D) : Bool := xs.any fun z => D.eqv z x
def inD (x c : D) : Option Bool :=
  match c with
  | .tup ds => if D.plain deep x && D.plains deep ds then some (anyEqv ds x) else none
  | .lst ds => if D.plain deep x && D.plains deep ds then some (anyEqv ds x) else none
  | .str z => match x with
    | .str y => strIn y z
    | _ => none
  | .dct kvs => if keyOk1 x then some (dhas kvs x) else none
  | _ => none
def eqD (a b : D) : Option Bool := if D.plain deep a && D.plain deep b then some (D.eqv a b) else none
def isD (a b : D) : Option Bool :=
  match b with
  | .non => some (decide (a = .non))
  | .bl y => match a with
    | .bl x => some (decide (x = y))
    | _ => none
  | _ => none
def cmpD : CO → D → D → Option Bool
  | .eq, a, b => eqD a b
  | .ne, a, b => (eqD a b).map (!·)
  | .lt, .int a, .int b => some (decide (a < b))
  | .le, .int a, .int b => some (decide (a ≤ b))
  | .gt, .int a, .int b => some (decide (b < a))
  | .ge, .int a, .int b => some (decide (b ≤ a))
  | .is, a, b => isD a b
  | .isn, a, b => (isD a b).map (!·)
  | .inn, a, b => inD a b
  | .notin, a, b => (inD a b).map (!·)
  | _, _, _ => none

def truthD : D → Option Bool
  | .bl b => some b
  | .lst xs => some (!xs.isEmpty)
  | .tup xs => some (!xs.isEmpty)
  | .int i => some (i != 0)
  | _ => none

def idxD (a i : D) : Option D :=
  match a with
  | .tup xs => match i with
    | .int k => L2.atI xs k
    | _ => none
  | .lst xs => match i with
    | .int k => L2.atI xs k
    | _ => none
  | .str z => match i with
    | .int k => if z.length ≤ sizeLine then (L2.atI z.cps.toList k).map fun c => .str ⟨#[c]⟩ else none
    | _ => none
  | .dct kvs => if keyOk1 i then dget kvs i else none
  | _ => none
def partD : D → Option (Option Int)
  | .non => some none
  | .int i => some (some i)
  | _ => none
def cutD (xs : List D) (lo hi : Option Int) : List D := (xs.drop (HT.sIx xs.length 0 lo)).take (HT.sIx xs.length xs.length hi - HT.sIx xs.length 0 lo)
def slD (a : D) (l h : Option Int) : Option D :=
  match a with
  | .tup xs => some (.tup (cutD xs l h))
  | .lst xs => some (.lst (cutD xs l h))
  | .scr xs => some (.lst (cutD xs l h))
  | .str z => if z.length ≤ sizeLine then some (.str (L2.cutS z l h)) else none
  | _ => none
def slcD (a lo hi : D) : Option D := (partD lo).bind fun l => (partD hi).bind fun h => slD a l h
def revD : D → Option D
  | .lst xs => some (.lst xs.reverse)
  | _ => none

/-! ### built-ins -/
inductive Ty where | int | bool | str | tuple | list | dict | none
  deriving DecidableEq
def tyOf : D → Ty → Bool
  | .int _, t => decide (t = .int)
  | .bl _, t => decide (t = .bool) || decide (t = .int)
  | .str _, t => decide (t = .str)
  | .tup _, t => decide (t = .tuple)
  | .lst _, t => decide (t = .list)
  | .dct _, t => decide (t = .dict)
  | _, _ => false
inductive Blt where
  | len | tuple | list | dict | int | isi (ts : List Ty) | sorted | sortedSet | max1 | min1 | max2 | min2 | all | any | sum | join (sep : Str)
  deriving DecidableEq

def allB : List D → Option (List Bool)
  | [] => some []
  | .bl b :: r => (allB r).map (b :: ·)
  | _ :: _ => none
def allI : List D → Option (List Int)
  | [] => some []
  | .int i :: r => (allI r).map (i :: ·)
  | _ :: _ => none
def allS : List D → Option (List Str)
  | [] => some []
  | .str x :: r => (allS r).map (x :: ·)
  | _ :: _ => none
def maxI : Int → List Int → Int
  | a, [] => a
  | a, b :: r => maxI (if b > a then b else a) r
def minI : Int → List Int → Int
  | a, [] => a
  | a, b :: r => minI (if b < a then b else a) r

/-- a's tokens ahead of b's: strings by code points -/
def leS (a b : Str) : Bool := !decide (b.cps.toList < a.cps.toList)
def sortS (xs : List Str) : List Str := xs.mergeSort leS
/-- each once, in the order of the first places -/
def dedupS : List Str → List Str
  | [] => []
  | x :: r => x :: (dedupS r).filter fun y => decide (y ≠ x)
/-- sorted lists: ints and texts -/
def sortD (xs : List D) : Option D :=
  match allS xs with
  | some ss => if ss.length < 64 then some (.lst ((sortS ss).map .str)) else none
  | none => match allI xs with
    | some ns => if ns.length < 64 then some (.lst ((ns.mergeSort fun a b => decide (a ≤ b)).map .int)) else none
    | none => none
def rootOf : D → Option (List D)
  | .lst xs => some xs
  | .tup xs => some xs
  | _ => none
def blt1 : Blt → D → Option D
  | .len, .tup xs => some (.int xs.length)
  | .len, .lst xs => some (.int xs.length)
  | .len, .str z => if z.length ≤ sizeLine then some (.int z.length) else none
  | .len, .dct kvs => some (.int kvs.length)
  | .tuple, .lst xs => some (.tup xs)
  | .tuple, .tup xs => some (.tup xs)
  | .list, .lst xs => some (.lst xs)
  | .list, .tup xs => some (.lst xs)
  | .list, .dct kvs => some (.lst (kvs.map (·.1)))
  | .dict, .dct kvs => some (.dct kvs)
  | .int, .int i => some (.int i)
  | .int, .bl b => some (.int (b2i b))
  | .isi ts, x => match x with
    | .ref _ => none
    | .scr _ => none
    | _ => some (.bl (ts.any (tyOf x)))
  | .sorted, .lst xs => sortD xs
  | .sorted, .dct kvs => sortD (kvs.map (·.1))
  | .sortedSet, .lst xs => match allS xs with
    | some ss => if ss.length < 64 then some (.lst ((sortS (dedupS ss)).map .str)) else none
    | none => none
  | .max1, .lst xs => match allI xs with
    | some (a :: r) => some (.int (maxI a r))
    | _ => none
  | .min1, .lst xs => match allI xs with
    | some (a :: r) => some (.int (minI a r))
    | _ => none
  | .all, .lst xs => (allB xs).map fun bs => .bl (bs.all id)
  | .any, .lst xs => (allB xs).map fun bs => .bl (bs.any id)
  | .sum, .lst xs => (allI xs).map fun ns => .int ns.sum
  | .join sep, .lst xs => match allS xs with
    | some ss => if (ss.map (·.length)).sum + ss.length * sep.length ≤ 16777216 then some (.str (Txt.join sep ss)) else none
    | none => none
  | _, _ => none
def blt2 : Blt → D → D → Option D
  | .max2, .int i, .int j => some (.int (if j > i then j else i))
  | .min2, .int i, .int j => some (.int (if j < i then j else i))
  | _, _, _ => none

/-! ### sorting by a key -/
mutual
/-- a key: numbers, texts, tuples of such -/
def D.keyed : Nat → D → Bool
  | _, .non => true
  | _, .bl _ => true
  | _, .int _ => true
  | _, .str _ => true
  | 0, _ => false
  | n + 1, .tup xs => D.keyeds n xs
  | _, _ => false
def D.keyeds : Nat → List D → Bool
  | _, [] => true
  | n, x :: xs => D.keyed n x && D.keyeds n xs
end
def leK (a b : D) : Bool := !PyProof.Rows.lexLt PyProof.Rows.itemOrd (PySem.W.keyToks b.pd) (PySem.W.keyToks a.pd)
def sortP (xs ks : List D) : List D := ((xs.zip ks).mergeSort fun p q => leK p.2 q.2).map (·.1)
def tupNE : D → Bool
  | .tup (_ :: _) => true
  | _ => false
def notTN : D → Bool
  | .tup _ => false
  | .non => false
  | _ => true
def keysOk (ks : List D) : Bool := ks.all (D.keyed deep) && ks.all (fun k => ks.all fun k' => PySem.W.alike k.pd k'.pd) && (ks.all tupNE || ks.all notTN)

/-- the first of the least -/
def minP (b : D × D) (l : List (D × D)) : D × D := l.foldl (fun b p => if PySem.W.dataLt p.2.pd b.2.pd then p else b) b
def keysOkM (ks : List D) : Bool := ks.all (D.keyed deep) && ks.all (fun k => ks.all fun k' => PySem.W.alike k.pd k'.pd) && ks.all (fun k => decide (k ≠ .non))

/-! ### the language -/
inductive MM where | append | pop0 | pop1 | insert | reverse | extend | setdefault
  deriving DecidableEq
/-- what is walked -/
inductive SK where | seq | range1 | range2 | enum | zip
  deriving DecidableEq
mutual
inductive IE where
  | var (i : Nat)
  | cst (d : D)
  | tup (es : IEs)
  | lst (es : IEs)
  | dct0
  | bin (o : BO) (a b : IE)
  | un (o : UO) (a : IE)
  | cmp (o : CO) (a b : IE)
  | cmpV (o : CO) (a : IE) (s : Nat)
  | cmp2 (o o' : CO) (a b c : IE)
  | land (a b : IE)
  | lor (a b : IE)
  | lnot (a : IE)
  | ite (c a b : IE)
  | truth (a : IE)
  | truthV (s : Nat)
  | idx (a i : IE)
  | idxV (s : Nat) (i : IE)
  | slc (a lo hi : IE)
  | rev (a : IE)
  | call (f : Nat) (es : IEs)
  | blt (b : Blt) (a : IE)
  | bltV (b : Blt) (s : Nat)
  | bltB (b : Blt) (a a' : IE)
  | sortK (f : Nat) (a : IE)
  | minKD (f : Nat) (a : IE)
  | mutV (m : MM) (s : Nat) (es : IEs)
  | comp (ts : Tg) (k : SK) (src : IEs) (ifs : IEs) (elt : IE)
  | comp2 (ts : Tg) (k : SK) (src : IEs) (ts' : Tg) (k' : SK) (src' : IEs) (elt : IE)
  | dcomp (ts : Tg) (k : SK) (src : IEs) (ek ev : IE)
  | nb (a : IE)
  | setd (i : Nat) (a b : IE)
  | compV (ts : Tg) (i : Nat) (ifs : IEs) (elt : IE)
inductive IEs where
  | nil
  | cons (e : IE) (r : IEs)
inductive Tg where
  | one (i : Nat)
  | many (is : List Nat)
end
def Tg.slots : Tg → List Nat
  | .one i => [i]
  | .many is => is

/-- a slot: unset, a value, a list or dict of its own -/
inductive Sl where | un | v (d : D) | o (d : D)
  deriving DecidableEq, Inhabited
structure S where
  ρ : List Sl
  st : List D
  deriving DecidableEq

def getV (s : S) (i : Nat) : Option D :=
  match s.ρ[i]? with
  | some (.v d) => some d
  | some (.o d) => some d
  | _ => none
/-- the slot's list or dict is a value from now on -/
def frzV (s : S) (i : Nat) : S :=
  match s.ρ[i]? with
  | some (.o d) => { s with ρ := s.ρ.set i (.v d) }
  | _ => s
/-- the root: a shared thing is looked up -/
def peek (s : S) (i : Nat) : Option D :=
  match getV s i with
  | some (.ref n) => s.st[n]?
  | r => r
/-- the root is written -/
def poke (s : S) (i : Nat) (d : D) : Option S :=
  match s.ρ[i]? with
  | some (.o _) => some { s with ρ := s.ρ.set i (.o d) }
  | some (.v (.ref n)) => if n < s.st.length then some { s with st := s.st.set n d } else none
  | _ => none
def setV (s : S) (i : Nat) (d : D) : S := { s with ρ := s.ρ.set i (.v d) }
def isBox : D → Bool
  | .lst _ => true
  | .dct _ => true
  | _ => false
def setO (s : S) (i : Nat) (d : D) : S := { s with ρ := s.ρ.set i (if isBox d then .o d else .v d) }
def bindT (s : S) : Tg → D → Option S
  | .one i, d => some (setV s i d)
  | .many is, .tup ds => if is.length = ds.length then some ((is.zip ds).foldl (fun s p => setV s p.1 p.2) s) else none
  | .many is, .lst ds => if is.length = ds.length then some ((is.zip ds).foldl (fun s p => setV s p.1 p.2) s) else none
  | _, _ => none
def wipeS (s : S) (is : List Nat) : S := { s with ρ := is.foldl (fun ρ i => ρ.set i .un) s.ρ }
/-- behind a comprehension: its own slots are as they were -/
def backS (s0 s : S) (is : List Nat) : S := { s with ρ := is.foldl (fun ρ i => ρ.set i (s0.ρ.getD i .un)) s.ρ }
/-- none of the slots holds a list of its own -/
def freeS (s : S) (is : List Nat) : Bool := is.all fun i => match s.ρ[i]? with
  | some (.o _) => false
  | some _ => true
  | none => false

def rangeD (lo : Int) (n : Nat) : List D := (List.range n).map fun (k : Nat) => .int (lo + (k : Int))
def small62 (i : Int) : Bool := decide (-(2 ^ 62) ≤ i) && decide (i < 2 ^ 62)
def enumD : Nat → List D → List D
  | _, [] => []
  | n, x :: r => .tup [.int (n : Nat), x] :: enumD (n + 1) r
def itemsD : SK → List D → Option (List D)
  | .seq, [.lst xs] => some xs
  | .seq, [.tup xs] => some xs
  | .seq, [.str z] => some (z.cps.toList.map fun c => .str ⟨#[c]⟩)
  | .range1, [.int j] => if small62 j then some (rangeD 0 j.toNat) else none
  | .range2, [.int i, .int j] => if small62 i && small62 j then some (rangeD i (j - i).toNat) else none
  | .enum, [a] => (rootOf a).map fun xs => enumD 0 xs
  | .zip, [a, b] => (rootOf a).bind fun xs => (rootOf b).map fun ys => (xs.zip ys).map fun p => .tup [p.1, p.2]
  | _, _ => none

def mutD : MM → D → List D → Option (D × D)
  | .append, .lst xs, [d] => if xs.length < sizeLine then some (.non, .lst (xs ++ [d])) else none
  | .pop0, .lst xs, [] => match xs[xs.length - 1]? with
    | some y => some (y, .lst xs.dropLast)
    | none => none
  | .pop1, .lst xs, [.int i] => if decide (0 ≤ i) && decide (i < xs.length) && decide (xs.length ≤ sizeLine) then (xs[i.toNat]?).map fun y => (y, .lst (xs.eraseIdx i.toNat)) else none
  | .insert, .lst xs, [.int i, d] => if decide (0 ≤ i) && decide (i ≤ xs.length) && decide (xs.length < sizeLine) then some (.non, .lst (xs.take i.toNat ++ d :: xs.drop i.toNat)) else none
  | .reverse, .lst xs, [] => some (.non, .lst xs.reverse)
  | .extend, .lst xs, [.lst ys] => if xs.length + ys.length ≤ sizeLine then some (.non, .lst (xs ++ ys)) else none
  | .setdefault, .dct kvs, [k, d] => if keyOk1 k && decide (kvs.length < sizeLine) then match dget kvs k with
      | some v => some (v, .dct kvs)
      | none => some (d, .dct (dput kvs k d))
    else none
  | _, _, _ => none
def boxOk : MM → D → Bool
  | .setdefault, .dct _ => true
  | .setdefault, _ => false
  | _, .lst _ => true
  | _, _ => false
def storeD (a k v : D) : Option D :=
  match a with
  | .lst xs => match k with
    | .int i => (L2.ixN xs.length i).map fun j => .lst (xs.set j v)
    | _ => none
  | .dct kvs => if keyOk1 k && decide (kvs.length < sizeLine) then some (.dct (dput kvs k v)) else none
  | _ => none

abbrev Fn := Nat → List D → List D → Option (D × List D)
/-- the keys, by a def that leaves the shared lists as they are -/
def keysO (F : Fn) (f : Nat) (st : List D) : List D → Option (List D)
  | [] => some []
  | x :: r => (F f [x] st).bind fun p => if p.2 = st then (keysO F f st r).map (p.1 :: ·) else none

/-- a loop over items with a state -/
def foldO {α β : Type} (f : α → β → Option β) : List α → β → Option β
  | [], b => some b
  | a :: r, b => (f a b).bind (foldO f r)

section
variable (F : Fn)
mutual
def evE : IE → S → Option (D × S)
  | .var i, s => (getV s i).map fun d => (d, frzV s i)
  | .cst d, s => some (d, s)
  | .tup es, s => (evEs es s).bind fun p => if p.1.length ≤ sizeLine then some (.tup p.1, p.2) else none
  | .lst es, s => (evEs es s).bind fun p => if p.1.length ≤ sizeLine then some (.lst p.1, p.2) else none
  | .dct0, s => some (.dct [], s)
  | .bin o a b, s => (evE a s).bind fun p => (evE b p.2).bind fun q => (binD o p.1 q.1).map fun d => (d, q.2)
  | .un o a, s => (evE a s).bind fun p => (unD o p.1).map fun d => (d, p.2)
  | .cmp o a b, s => (evE a s).bind fun p => (evE b p.2).bind fun q => (cmpD o p.1 q.1).map fun k => (.bl k, q.2)
  | .cmpV o a i, s => (evE a s).bind fun p => (peek p.2 i).bind fun c => (cmpD o p.1 c).map fun k => (.bl k, p.2)
  | .cmp2 o o' a b c, s => (evE a s).bind fun p => (evE b p.2).bind fun q => (cmpD o p.1 q.1).bind fun k =>
      if k then (evE c q.2).bind fun r => (cmpD o' q.1 r.1).map fun k' => (.bl k', r.2) else some (.bl false, q.2)
  | .land a b, s => (evE a s).bind fun p => match p.1 with
      | .bl true => evE b p.2
      | .bl false => some (.bl false, p.2)
      | _ => none
  | .lor a b, s => (evE a s).bind fun p => match p.1 with
      | .bl true => some (.bl true, p.2)
      | .bl false => evE b p.2
      | _ => none
  | .lnot a, s => (evE a s).bind fun p => match p.1 with
      | .bl k => some (.bl (!k), p.2)
      | _ => none
  | .ite c a b, s => (evE c s).bind fun p => match p.1 with
      | .bl true => evE a p.2
      | .bl false => evE b p.2
      | _ => none
  | .truth a, s => (evE a s).bind fun p => (truthD p.1).map fun k => (.bl k, p.2)
  | .truthV i, s => (peek s i).bind fun d => (truthD d).map fun k => (.bl k, s)
  | .idx a i, s => (evE a s).bind fun p => (evE i p.2).bind fun q => (idxD p.1 q.1).map fun d => (d, q.2)
  | .idxV i k, s => (peek s i).bind fun _ => (evE k s).bind fun p => (peek p.2 i).bind fun c => (idxD c p.1).map fun d => (d, p.2)
  | .slc a lo hi, s => (evE a s).bind fun p => (evE lo p.2).bind fun q => (evE hi q.2).bind fun r => (slcD p.1 q.1 r.1).map fun d => (d, r.2)
  | .rev a, s => (evE a s).bind fun p => (revD p.1).map fun d => (d, p.2)
  | .call f es, s => (evEs es s).bind fun p => (F f p.1 p.2.st).map fun r => (r.1, { p.2 with st := r.2 })
  | .blt b a, s => (evE a s).bind fun p => (blt1 b p.1).map fun d => (d, p.2)
  | .bltV b i, s => (peek s i).bind fun c => (blt1 b c).map fun d => (d, s)
  | .bltB b a a', s => (evE a s).bind fun p => (evE a' p.2).bind fun q => (blt2 b p.1 q.1).map fun d => (d, q.2)
  | .sortK f a, s => (evE a s).bind fun p => match p.1 with
      | .lst xs => (keysO F f p.2.st xs).bind fun ks => if keysOk ks then some (.lst (sortP xs ks), p.2) else none
      | _ => none
  | .minKD f a, s => (evE a s).bind fun p => match p.1 with
      | .lst [] => some (.non, p.2)
      | .lst (x :: xs) => (keysO F f p.2.st (x :: xs)).bind fun ks => match ks with
        | k :: ks => if keysOkM (k :: ks) then some ((minP (x, k) (xs.zip ks)).1, p.2) else none
        | [] => none
      | _ => none
  | .mutV m i es, s => (peek s i).bind fun c0 => if boxOk m c0 then (evEs es s).bind fun p => (peek p.2 i).bind fun c => (mutD m c p.1).bind fun r => (poke p.2 i r.2).map fun s' => (r.1, s') else none
  | .comp ts k src ifs elt, s => (evEs src s).bind fun p => (itemsD k p.1).bind fun items =>
      if freeS p.2 ts.slots then
        (foldO (fun d (st : List D × S) => (bindT (wipeS st.2 ts.slots) ts d).bind fun s1 => (evIfs ifs s1).bind fun c =>
          if c.1 then (evE elt c.2).bind fun r => if st.1.length < sizeLine then some (st.1 ++ [r.1], r.2) else none else some (st.1, c.2)) items ([], wipeS p.2 ts.slots)).map
          fun st => (.lst st.1, backS p.2 st.2 ts.slots)
      else none
  | .comp2 ts k src ts' k' src' elt, s => (evEs src s).bind fun p => (itemsD k p.1).bind fun items =>
      if freeS p.2 (ts.slots ++ ts'.slots) then
        (foldO (fun d (st : List D × S) => (bindT (wipeS st.2 (ts.slots ++ ts'.slots)) ts d).bind fun s1 => (evEs src' s1).bind fun p' => (itemsD k' p'.1).bind fun items' =>
          foldO (fun d' (st' : List D × S) => (bindT (wipeS st'.2 ts'.slots) ts' d').bind fun s2 => (evE elt s2).bind fun r => if st'.1.length < sizeLine then some (st'.1 ++ [r.1], r.2) else none)
            items' (st.1, wipeS p'.2 ts'.slots)) items ([], wipeS p.2 (ts.slots ++ ts'.slots))).map
          fun st => (.lst st.1, backS p.2 st.2 (ts.slots ++ ts'.slots))
      else none
  | .dcomp ts k src ek ev, s => (evEs src s).bind fun p => (itemsD k p.1).bind fun items =>
      if freeS p.2 ts.slots then
        (foldO (fun d (st : List (D × D) × S) => (bindT (wipeS st.2 ts.slots) ts d).bind fun s1 => (evE ek s1).bind fun kk => (evE ev kk.2).bind fun vv =>
          if keyOk1 kk.1 && decide (st.1.length < sizeLine) then some (dput st.1 kk.1 vv.1, vv.2) else none) items ([], wipeS p.2 ts.slots)).map
          fun st => (.dct st.1, backS p.2 st.2 ts.slots)
      else none
  | .nb a, s => (evE a s).bind fun p => if isBox p.1 then none else some p
  | .setd i a b, s => (peek s i).bind fun c0 => if boxOk .setdefault c0 then (evE a s).bind fun p => (evE b p.2).bind fun q => (peek q.2 i).bind fun c => (mutD .setdefault c [p.1, q.1]).bind fun r => (poke q.2 i r.2).map fun s' => (r.1, s') else none
  | .compV ts i ifs elt, s => (peek s i).bind fun c => (rootOf c).bind fun items =>
      if freeS s ts.slots && !(ts.slots.contains i) then
        (foldO (fun d (st : List D × S) => if peek st.2 i = some c then (bindT (wipeS st.2 ts.slots) ts d).bind fun s1 => (evIfs ifs s1).bind fun c =>
          if c.1 then (evE elt c.2).bind fun r => if st.1.length < sizeLine then some (st.1 ++ [r.1], r.2) else none else some (st.1, c.2) else none) items ([], wipeS s ts.slots)).bind
          fun st => if peek st.2 i = some c then some (.lst st.1, backS s st.2 ts.slots) else none
      else none
def evEs : IEs → S → Option (List D × S)
  | .nil, s => some ([], s)
  | .cons e r, s => (evE e s).bind fun p => (evEs r p.2).map fun q => (p.1 :: q.1, q.2)
/-- the tests of a comprehension -/
def evIfs : IEs → S → Option (Bool × S)
  | .nil, s => some (true, s)
  | .cons e r, s => (evE e s).bind fun p => match p.1 with
      | .bl true => evIfs r p.2
      | .bl false => some (false, p.2)
      | _ => none
end
end

/-! ### statements -/
mutual
inductive IS where
  | expr (e : IE)
  | setV (i : Nat) (e : IE)
  | setO (i : Nat) (e : IE)
  | setR (i : Nat) (e : IE)
  | setT (is : List Nat) (e : IE)
  | item (s : Nat) (k v : IE)
  | ret (e : IE)
  | retO (i : Nat)
  | ite (c : IE) (a b : ISs)
  | loop (ts : Tg) (k : SK) (src : IEs) (body : ISs)
  | whl (c : IE) (body : ISs)
  | brk
  | cnt
  | nop
inductive ISs where
  | nil
  | cons (a : IS) (r : ISs)
end
inductive Fl where | nx | brk | cnt | ret (d : D)
  deriving DecidableEq

/-- a while: at most so many turns -/
def whileO {β : Type} (f : β → Option (Bool × β)) : Nat → β → Option β
  | 0, _ => none
  | n + 1, b => (f b).bind fun p => if p.1 then whileO f n p.2 else some p.2

def fuelW : Nat := 2 ^ 64
/-- a turn of a for -/
def loopF (bd : S → D → Option S) (ev : S → Option (Fl × S)) (d : D) (st : Fl × S) : Option (Fl × S) := match st.1 with
  | .nx => (bd st.2 d).bind fun s1 => (ev s1).map fun r => match r.1 with
      | .cnt => (.nx, r.2)
      | _ => r
  | _ => some st
/-- a turn of a while -/
def whlF (c : S → Option (D × S)) (ev : S → Option (Fl × S)) (st : Fl × S) : Option (Bool × (Fl × S)) := (c st.2).bind fun p => match p.1 with
  | .bl true => (ev p.2).map fun r => match r.1 with
      | .nx => (true, r)
      | .cnt => (true, (.nx, r.2))
      | _ => (false, r)
  | .bl false => some (false, (.nx, p.2))
  | _ => none
/-- behind a loop -/
def unbrk (st : Fl × S) : Fl × S := match st.1 with
  | .brk => (.nx, st.2)
  | _ => st
section
variable (F : Fn)
mutual
def evS : IS → S → Option (Fl × S)
  | .expr e, s => (evE F e s).map fun p => (.nx, p.2)
  | .setV i e, s => (evE F e s).bind fun p => if i < p.2.ρ.length then some (.nx, setV p.2 i p.1) else none
  | .setO i e, s => (evE F e s).bind fun p => if i < p.2.ρ.length then some (.nx, setO p.2 i p.1) else none
  | .setR i e, s => (evE F e s).bind fun p => if isBox p.1 && decide (i < p.2.ρ.length) then some (.nx, { ρ := p.2.ρ.set i (.v (.ref p.2.st.length)), st := p.2.st ++ [p.1] }) else none
  | .setT is e, s => (evE F e s).bind fun p => (bindT p.2 (.many is) p.1).map fun s' => (.nx, s')
  | .item i k v, s => (peek s i).bind fun _ => (evE F v s).bind fun p => (evE F k p.2).bind fun q => (peek q.2 i).bind fun c => (storeD c q.1 p.1).bind fun d => (poke q.2 i d).map fun s' => (.nx, s')
  | .ret e, s => (evE F e s).map fun p => (.ret p.1, p.2)
  | .retO i, s => match s.ρ[i]? with
      | some (.o d) => some (.ret d, s)
      | _ => none
  | .ite c a b, s => (evE F c s).bind fun p => match p.1 with
      | .bl true => evSs a p.2
      | .bl false => evSs b p.2
      | _ => none
  | .loop ts k src body, s => (evEs F src s).bind fun p => (itemsD k p.1).bind fun items =>
      (foldO (loopF (fun s d => bindT s ts d) (fun s => evSs body s)) items (.nx, p.2)).map unbrk
  | .whl c body, s => (whileO (whlF (fun s => evE F c s) (fun s => evSs body s)) fuelW (.nx, s)).map unbrk
  | .brk, s => some (.brk, s)
  | .cnt, s => some (.cnt, s)
  | .nop, s => some (.nx, s)
def evSs : ISs → S → Option (Fl × S)
  | .nil, s => some (.nx, s)
  | .cons a r, s => (evS a s).bind fun p => match p.1 with
      | .nx => evSs r p.2
      | _ => some p
end
end

/-- a def: how many parameters, how many slots, whether what it hands back is new -/
structure Df where
  np : Nat
  ns : Nat
  fr : Bool
  body : ISs
abbrev Tab := List Df
def evF (T : Tab) : Nat → Fn
  | 0 => fun _ _ _ => none
  | n + 1 => fun f ds st => (T[f]?).bind fun d => if ds.length = d.np && decide (d.np ≤ d.ns) then
      (evSs (evF T n) d.body { ρ := ds.map .v ++ List.replicate (d.ns - d.np) .un, st := st }).bind fun r => match r.1 with
        | .ret v => some (v, r.2.st)
        | .nx => some (.non, r.2.st)
        | _ => none
    else none
end Ev

-- EvR
set_option autoImplicit true
set_option Elab.async false
set_option linter.all false
set_option maxRecDepth 100000
set_option maxHeartbeats 4000000
set_option autoImplicit false
/-! EvR: how the evaluator's data stand in the layer's abstract heap: a frozen part G, shared cells iota, foreign cells F. -/
namespace Ev
open PySem PySem.Spec PyProof.Rows L2

def keyD : Key → D
  | .inl i => .int i
  | .inr x => .str x

mutual
inductive Rep (K : PySem.W.Frag) (G : Hp) (ι : List Addr) : V → D → Prop
  | non : Rep K G ι .non .non
  | bl (b : Bool) : Rep K G ι (.bl b) (.bl b)
  | int (i : Int) : Rep K G ι (.int i) (.int i)
  | str (x : Str) : Rep K G ι (.str x) (.str x)
  | tup {a : Addr} {xs : List V} {ds : List D} : SqT K G a xs → Reps K G ι xs ds → Rep K G ι (.ref a) (.tup ds)
  | lst {a : Addr} {xs : List V} {ds : List D} : G a = some (.lst xs) → Reps K G ι xs ds → Rep K G ι (.ref a) (.lst ds)
  | dct {a : Addr} {kvs : List (Key × V)} {kds : List (D × D)} : G a = some (.dK kvs) → RepKV K G ι kvs kds → Rep K G ι (.ref a) (.dct kds)
  | ref {a : Addr} {n : Nat} : ι[n]? = some a → Rep K G ι (.ref a) (.ref n)
  | scr {a : Addr} {xs : List V} {ds : List D} : SqL K G a xs → Reps K G ι xs ds → Rep K G ι (.ref a) (.scr ds)
inductive Reps (K : PySem.W.Frag) (G : Hp) (ι : List Addr) : List V → List D → Prop
  | nil : Reps K G ι [] []
  | cons {v : V} {vs : List V} {d : D} {ds : List D} : Rep K G ι v d → Reps K G ι vs ds → Reps K G ι (v :: vs) (d :: ds)
inductive RepKV (K : PySem.W.Frag) (G : Hp) (ι : List Addr) : List (Key × V) → List (D × D) → Prop
  | nil : RepKV K G ι [] []
  | cons {k : Key} {v : V} {vs : List (Key × V)} {d : D} {ds : List (D × D)} : Rep K G ι v d → RepKV K G ι vs ds → RepKV K G ι ((k, v) :: vs) ((keyD k, d) :: ds)
end

/-- what stands stays -/
structure Ext (G : Hp) (ι : List Addr) (G' : Hp) (ι' : List Addr) : Prop where
  g : Same G G'
  i : ∃ m, ι' = ι ++ m
theorem Ext.refl (G : Hp) (ι : List Addr) : Ext G ι G ι := ⟨Same.refl G, [], by simp⟩
theorem Ext.trans {G ι G1 ι1 G2 ι2} (a : Ext G ι G1 ι1) (b : Ext G1 ι1 G2 ι2) : Ext G ι G2 ι2 := by
  obtain ⟨m, rfl⟩ := a.i
  obtain ⟨m', rfl⟩ := b.i
  exact ⟨a.g.trans b.g, m ++ m', by simp⟩
theorem Ext.get {G ι G' ι'} (e : Ext G ι G' ι') {n : Nat} {a : Addr} (h : ι[n]? = some a) : ι'[n]? = some a := by
  obtain ⟨m, rfl⟩ := e.i
  rw [List.getElem?_append_left (List.getElem?_eq_some_iff.mp h).1]
  exact h
theorem Same.seqT {K : PySem.W.Frag} {H H' : Hp} {a : Addr} {xs : List V} (e : Same H H') (h : SqT K H a xs) : SqT K H' a xs := by
  rcases h with (h | ⟨o, h⟩) | h
  · exact .inl (.inl (e _ _ h))
  · exact .inl (.inr ⟨o, e _ _ h⟩)
  · exact .inr h
section
variable {K : PySem.W.Frag} {G G' : Hp} {ι ι' : List Addr}
mutual
theorem Rep.ext (e : Ext G ι G' ι') : ∀ {v : V} {d : D}, Rep K G ι v d → Rep K G' ι' v d
  | _, .non, h => by cases h; exact .non
  | _, .bl _, h => by cases h; exact .bl _
  | _, .int _, h => by cases h; exact .int _
  | _, .str _, h => by cases h; exact .str _
  | _, .tup ds, h => by
    cases h with
    | tup h1 h2 => exact .tup (Same.seqT e.g h1) (Reps.ext e h2)
  | _, .lst ds, h => by
    cases h with
    | lst h1 h2 => exact .lst (e.g _ _ h1) (Reps.ext e h2)
  | _, .dct ds, h => by
    cases h with
    | dct h1 h2 => exact .dct (e.g _ _ h1) (RepKV.ext e h2)
  | _, .ref n, h => by
    cases h with
    | ref h1 => exact .ref (e.get h1)
  | _, .scr ds, h => by
    cases h with
    | scr h1 h2 => exact .scr (e.g.seq h1) (Reps.ext e h2)
theorem Reps.ext (e : Ext G ι G' ι') : ∀ {vs : List V} {ds : List D}, Reps K G ι vs ds → Reps K G' ι' vs ds
  | _, [], h => by cases h; exact .nil
  | _, d :: ds, h => by
    cases h with
    | cons h1 h2 => exact .cons (Rep.ext e h1) (Reps.ext e h2)
theorem RepKV.ext (e : Ext G ι G' ι') : ∀ {vs : List (Key × V)} {ds : List (D × D)}, RepKV K G ι vs ds → RepKV K G' ι' vs ds
  | _, [], h => by cases h; exact .nil
  | _, (_, d) :: ds, h => by
    cases h with
    | cons h1 h2 => exact .cons (Rep.ext e h1) (RepKV.ext e h2)
end
theorem Reps.length : ∀ {vs : List V} {ds : List D}, Reps K G ι vs ds → vs.length = ds.length
  | _, [], h => by cases h; rfl
  | _, d :: ds, h => by
    cases h with
    | cons h1 h2 => simp [Reps.length h2]
theorem RepKV.length : ∀ {vs : List (Key × V)} {ds : List (D × D)}, RepKV K G ι vs ds → vs.length = ds.length
  | _, [], h => by cases h; rfl
  | _, (_, d) :: ds, h => by
    cases h with
    | cons h1 h2 => simp [RepKV.length h2]
theorem Reps.get : ∀ {vs : List V} {ds : List D} {i : Nat} {d : D}, Reps K G ι vs ds → ds[i]? = some d → ∃ v, vs[i]? = some v ∧ Rep K G ι v d
  | _, [], _, _, h, e => by simp at e
  | _, d :: ds, 0, _, h, e => by
    cases h with
    | cons h1 h2 => simp at e; subst e; exact ⟨_, rfl, h1⟩
  | _, d :: ds, i + 1, _, h, e => by
    cases h with
    | cons h1 h2 =>
      obtain ⟨v, a, b⟩ := Reps.get h2 (by simpa using e)
      exact ⟨v, by simpa using a, b⟩
theorem Reps.getV : ∀ {vs : List V} {ds : List D} {i : Nat} {v : V}, Reps K G ι vs ds → vs[i]? = some v → ∃ d, ds[i]? = some d ∧ Rep K G ι v d
  | _, [], _, _, h, e => by cases h; simp at e
  | _, d :: ds, 0, _, h, e => by
    cases h with
    | cons h1 h2 => simp at e; subst e; exact ⟨_, rfl, h1⟩
  | _, d :: ds, i + 1, _, h, e => by
    cases h with
    | cons h1 h2 =>
      obtain ⟨v, a, b⟩ := Reps.getV h2 (by simpa using e)
      exact ⟨v, by simpa using a, b⟩
theorem Reps.append : ∀ {vs ws : List V} {ds es : List D}, Reps K G ι vs ds → Reps K G ι ws es → Reps K G ι (vs ++ ws) (ds ++ es)
  | _, _, [], _, h, k => by cases h; exact k
  | _, _, d :: ds, _, h, k => by
    cases h with
    | cons h1 h2 => exact .cons h1 (Reps.append h2 k)
theorem Reps.take (n : Nat) : ∀ {vs : List V} {ds : List D}, Reps K G ι vs ds → Reps K G ι (vs.take n) (ds.take n) := by
  induction n with
  | zero => intro vs ds h; exact .nil
  | succ n ih =>
    intro vs ds h
    cases h with
    | nil => exact .nil
    | cons h1 h2 => exact .cons h1 (ih h2)
theorem Reps.drop (n : Nat) : ∀ {vs : List V} {ds : List D}, Reps K G ι vs ds → Reps K G ι (vs.drop n) (ds.drop n) := by
  induction n with
  | zero => intro vs ds h; exact h
  | succ n ih =>
    intro vs ds h
    cases h with
    | nil => exact .nil
    | cons h1 h2 => exact ih h2
theorem Reps.reverse : ∀ {vs : List V} {ds : List D}, Reps K G ι vs ds → Reps K G ι vs.reverse ds.reverse
  | _, [], h => by cases h; exact .nil
  | _, d :: ds, h => by
    cases h with
    | cons h1 h2 => simp only [List.reverse_cons]; exact (Reps.reverse h2).append (.cons h1 .nil)
theorem Reps.set (i : Nat) {v : V} {d : D} (r : Rep K G ι v d) : ∀ {vs : List V} {ds : List D}, Reps K G ι vs ds → Reps K G ι (vs.set i v) (ds.set i d) := by
  induction i with
  | zero =>
    intro vs ds h
    cases h with
    | nil => exact .nil
    | cons h1 h2 => exact .cons r h2
  | succ n ih =>
    intro vs ds h
    cases h with
    | nil => exact .nil
    | cons h1 h2 => exact .cons h1 (ih h2)
theorem Reps.eraseIdx (i : Nat) : ∀ {vs : List V} {ds : List D}, Reps K G ι vs ds → Reps K G ι (vs.eraseIdx i) (ds.eraseIdx i) := by
  induction i with
  | zero =>
    intro vs ds h
    cases h with
    | nil => exact .nil
    | cons h1 h2 => exact h2
  | succ n ih =>
    intro vs ds h
    cases h with
    | nil => exact .nil
    | cons h1 h2 => exact .cons h1 (ih h2)
theorem Reps.dropLast {vs : List V} {ds : List D} (h : Reps K G ι vs ds) : Reps K G ι vs.dropLast ds.dropLast := by
  rw [List.dropLast_eq_take, List.dropLast_eq_take, h.length]
  exact h.take _
theorem Reps.rep {vs : List V} {ds : List D} (h : Reps K G ι vs ds) : ∀ k : Nat, Reps K G ι (List.replicate k vs).flatten (List.replicate k ds).flatten
  | 0 => .nil
  | k + 1 => by simp only [List.replicate_succ, List.flatten_cons]; exact h.append (Reps.rep h k)
theorem Reps.ints : ∀ {vs : List V} {ds : List D} {ns : List Int}, Reps K G ι vs ds → allI ds = some ns → vs = ns.map V.int
  | _, [], _, h, e => by cases h; simp [allI] at e; subst e; rfl
  | _, d :: ds, _, h, e => by
    cases h with
    | cons h1 h2 =>
      cases d <;> simp [allI] at e
      obtain ⟨r, e1, rfl⟩ := e
      cases h1
      simp [Reps.ints h2 e1]
theorem Reps.strs : ∀ {vs : List V} {ds : List D} {ns : List Str}, Reps K G ι vs ds → allS ds = some ns → vs = ns.map V.str
  | _, [], _, h, e => by cases h; simp [allS] at e; subst e; rfl
  | _, d :: ds, _, h, e => by
    cases h with
    | cons h1 h2 =>
      cases d <;> simp [allS] at e
      obtain ⟨r, e1, rfl⟩ := e
      cases h1
      simp [Reps.strs h2 e1]
theorem Reps.bls : ∀ {vs : List V} {ds : List D} {ns : List Bool}, Reps K G ι vs ds → allB ds = some ns → vs = ns.map V.bl
  | _, [], _, h, e => by cases h; simp [allB] at e; subst e; rfl
  | _, d :: ds, _, h, e => by
    cases h with
    | cons h1 h2 =>
      cases d <;> simp [allB] at e
      obtain ⟨r, e1, rfl⟩ := e
      cases h1
      simp [Reps.bls h2 e1]
theorem Reps.ofInts : ∀ ns : List Int, Reps K G ι (ns.map V.int) (ns.map D.int)
  | [] => .nil
  | n :: ns => .cons (.int n) (Reps.ofInts ns)
theorem Reps.ofStrs : ∀ ns : List Str, Reps K G ι (ns.map V.str) (ns.map D.str)
  | [] => .nil
  | n :: ns => .cons (.str n) (Reps.ofStrs ns)
/-! ### dicts -/
theorem keyD_inj {a b : Key} (h : keyD a = keyD b) : a = b := by
  cases a <;> cases b <;> simp [keyD] at h <;> simp [h]
theorem keyOk1_key {d : D} (h : keyOk1 d = true) : ∃ k : Key, d = keyD k := by
  cases d <;> simp [keyOk1] at h
  · exact ⟨.inl _, rfl⟩
  · exact ⟨.inr _, rfl⟩
theorem Rep.key {v : V} {k : Key} (h : Rep K G ι v (keyD k)) : v = kV k := by
  cases k with
  | inl i => cases h; rfl
  | inr x => cases h; rfl
theorem Rep.ofKey (k : Key) : Rep K G ι (kV k) (keyD k) := by
  cases k with
  | inl i => exact .int _
  | inr x => exact .str _
theorem RepKV.keys : ∀ {vs : List (Key × V)} {ds : List (D × D)}, RepKV K G ι vs ds → Reps K G ι (vs.map fun p => kV p.1) (ds.map (·.1))
  | _, [], h => by cases h; exact .nil
  | _, (_, d) :: ds, h => by
    cases h with
    | cons h1 h2 => exact .cons (.ofKey _) (RepKV.keys h2)
end

/-- a root: its own object is read off H, the rest off G -/
def Root (K : PySem.W.Frag) (G : Hp) (ι : List Addr) (H : Hp) (v : V) : D → Prop
  | .lst ds => ∃ a xs, v = .ref a ∧ H a = some (.lst xs) ∧ Reps K G ι xs ds
  | .dct kds => ∃ a kvs, v = .ref a ∧ H a = some (.dK kvs) ∧ RepKV K G ι kvs kds
  | .tup ds => ∃ a xs, v = .ref a ∧ SqT K H a xs ∧ Reps K G ι xs ds
  | d => Rep K G ι v d
/-- the object at a is d's -/
def OwnAt (K : PySem.W.Frag) (G : Hp) (ι : List Addr) (H : Hp) (a : Addr) : D → Prop
  | .lst ds => ∃ xs, H a = some (.lst xs) ∧ Reps K G ι xs ds
  | .dct kds => ∃ kvs, H a = some (.dK kvs) ∧ RepKV K G ι kvs kds
  | _ => False
section
variable {K : PySem.W.Frag} {F G G' H H' : Hp} {ι ι' : List Addr}
theorem OwnAt.some {a : Addr} : ∀ {d : D}, OwnAt K G ι H a d → ∃ o, H a = some o
  | .lst _, ⟨_, h, _⟩ => ⟨_, h⟩
  | .dct _, ⟨_, h, _⟩ => ⟨_, h⟩
  | .non, h => h.elim
  | .bl _, h => h.elim
  | .int _, h => h.elim
  | .str _, h => h.elim
  | .tup _, h => h.elim
  | .ref _, h => h.elim
  | .scr _, h => h.elim
theorem OwnAt.box {a : Addr} : ∀ {d : D}, OwnAt K G ι H a d → isBox d = true
  | .lst _, ⟨_, h, _⟩ => rfl
  | .dct _, ⟨_, h, _⟩ => rfl
  | .non, h => h.elim
  | .bl _, h => h.elim
  | .int _, h => h.elim
  | .str _, h => h.elim
  | .tup _, h => h.elim
  | .ref _, h => h.elim
  | .scr _, h => h.elim
theorem OwnAt.root {a : Addr} : ∀ {d : D}, OwnAt K G ι H a d → Root K G ι H (.ref a) d
  | .lst _, ⟨xs, h, r⟩ => ⟨a, xs, rfl, h, r⟩
  | .dct _, ⟨xs, h, r⟩ => ⟨a, xs, rfl, h, r⟩
  | .non, h => h.elim
  | .bl _, h => h.elim
  | .int _, h => h.elim
  | .str _, h => h.elim
  | .tup _, h => h.elim
  | .ref _, h => h.elim
  | .scr _, h => h.elim
theorem OwnAt.move {a : Addr} (e : Ext G ι G' ι') (hh : H' a = H a) : ∀ {d : D}, OwnAt K G ι H a d → OwnAt K G' ι' H' a d
  | .lst _, ⟨xs, h, r⟩ => ⟨xs, hh.trans h, r.ext e⟩
  | .dct _, ⟨xs, h, r⟩ => ⟨xs, hh.trans h, r.ext e⟩
  | .non, h => h.elim
  | .bl _, h => h.elim
  | .int _, h => h.elim
  | .str _, h => h.elim
  | .tup _, h => h.elim
  | .ref _, h => h.elim
  | .scr _, h => h.elim
/-- the object at a, when it is frozen -/
theorem OwnAt.rep {a : Addr} (e : G a = H a) : ∀ {d : D}, OwnAt K G ι H a d → Rep K G ι (.ref a) d
  | .lst _, ⟨xs, h, r⟩ => .lst (e.trans h) r
  | .dct _, ⟨xs, h, r⟩ => .dct (e.trans h) r
  | .non, h => h.elim
  | .bl _, h => h.elim
  | .int _, h => h.elim
  | .str _, h => h.elim
  | .tup _, h => h.elim
  | .ref _, h => h.elim
  | .scr _, h => h.elim
theorem Rep.root (s : Same G H) {v : V} : ∀ {d : D}, Rep K G ι v d → Root K G ι H v d
  | .lst _, h => by
    cases h with
    | lst h1 h2 => exact ⟨_, _, rfl, s _ _ h1, h2⟩
  | .dct _, h => by
    cases h with
    | dct h1 h2 => exact ⟨_, _, rfl, s _ _ h1, h2⟩
  | .tup _, h => by
    cases h with
    | tup h1 h2 => exact ⟨_, _, rfl, Same.seqT s h1, h2⟩
  | .non, h => h
  | .bl _, h => h
  | .int _, h => h
  | .str _, h => h
  | .ref _, h => h
  | .scr _, h => h

def SlotOk (K : PySem.W.Frag) (F G : Hp) (ι : List Addr) (H : Hp) (x : Option (Option V)) : Sl → Prop
  | .un => True
  | .v d => ∃ v, x = some (some v) ∧ Rep K G ι v d
  | .o d => ∃ a, x = some (some (.ref a)) ∧ G a = none ∧ a ∉ ι ∧ F a = none ∧ OwnAt K G ι H a d

/-- the slots, the shared cells and the heap are as the evaluator has them -/
structure Ok (K : PySem.W.Frag) (F G : Hp) (ι : List Addr) (H : Hp) (ρ : List Sl) (σ : L2.St) (st : List D) : Prop where
  sub : Same G H
  fsub : Same F H
  fg : ∀ a o, F a = some o → G a = none
  fi : ∀ a ∈ ι, F a = none
  gi : ∀ a ∈ ι, G a = none
  nd : ι.Nodup
  len : ι.length = st.length
  cells : ∀ (n : Nat) (a : Addr) (d : D), ι[n]? = some a → st[n]? = some d → OwnAt K G ι H a d
  slots : ∀ (i : Nat) (sl : Sl), ρ[i]? = some sl → SlotOk K F G ι H σ[i]? sl
  own : ∀ (i j : Nat) (d d' : D) (a : Addr), ρ[i]? = some (.o d) → ρ[j]? = some (.o d') → σ[i]? = some (some (.ref a)) → σ[j]? = some (some (.ref a)) → i = j
  lenr : ρ.length = σ.length

variable {ρ : List Sl} {σ : L2.St} {st : List D}
theorem Ok.iot (ok : Ok K F G ι H ρ σ st) {a : Addr} (h : a ∈ ι) : ∃ o, H a = some o := by
  obtain ⟨n, hn, e⟩ := List.getElem_of_mem h
  have hs : n < st.length := by rw [← ok.len]; exact hn
  exact (ok.cells n a st[n] (by rw [List.getElem?_eq_getElem hn, e]) (List.getElem?_eq_getElem hs)).some
/-- nothing of ours stands at a -/
structure Away (F G : Hp) (ι : List Addr) (ρ : List Sl) (σ : L2.St) (a : Addr) : Prop where
  g : G a = none
  i : a ∉ ι
  f : F a = none
  o : ∀ (i : Nat) d, ρ[i]? = some (.o d) → σ[i]? ≠ some (some (.ref a))
theorem Ok.fresh (ok : Ok K F G ι H ρ σ st) {p : Addr} (hp : H p = none) : Away F G ι ρ σ p where
  g := by
    cases e : G p with
    | none => rfl
    | some o => rw [ok.sub _ _ e] at hp; cases hp
  i := fun h => by
    obtain ⟨o, e⟩ := ok.iot h
    rw [e] at hp; cases hp
  f := by
    cases e : F p with
    | none => rfl
    | some o => rw [ok.fsub _ _ e] at hp; cases hp
  o := fun i d e x => by
    obtain ⟨a, ea, _, _, _, ow⟩ := ok.slots i _ e
    rw [x] at ea; cases ea
    obtain ⟨o, e⟩ := ow.some
    rw [e] at hp; cases hp
theorem SlotOk.move {x : Option (Option V)} (e : Ext G ι G' ι') (hf : ∀ a, x = some (some (.ref a)) → G a = none → a ∉ ι → F a = none → ∀ d, OwnAt K G ι H a d → G' a = none ∧ a ∉ ι' ∧ H' a = H a) : ∀ {sl : Sl}, SlotOk K F G ι H x sl → SlotOk K F G' ι' H' x sl
  | .un, _ => trivial
  | .v d, ⟨v, e1, r⟩ => ⟨v, e1, r.ext e⟩
  | .o d, ⟨a, e1, g, i, f, w⟩ => by
    obtain ⟨g', i', h'⟩ := hf a e1 g i f d w
    exact ⟨a, e1, g', i', f, w.move e h'⟩
/-- a place that was free is written -/
theorem Ok.alloc (ok : Ok K F G ι H ρ σ st) {p : Addr} (hp : H p = none) (o : HO) : Ok K F G ι (upd H p o) ρ σ st where
  sub := fun a u e => by
    have h := ok.sub a u e
    rw [upd_ne (ne_of_none h hp)]; exact h
  fsub := fun a u e => by
    have h := ok.fsub a u e
    rw [upd_ne (ne_of_none h hp)]; exact h
  fg := ok.fg
  fi := ok.fi
  gi := ok.gi
  nd := ok.nd
  len := ok.len
  cells := fun n a d e1 e2 => by
    have h := ok.cells n a d e1 e2
    obtain ⟨u, hu⟩ := h.some
    exact h.move (Ext.refl G ι) (upd_ne (ne_of_none hu hp))
  slots := fun i sl e => (ok.slots i sl e).move (Ext.refl G ι) fun a _ g hi _ d w => by
    obtain ⟨u, hu⟩ := w.some
    exact ⟨g, hi, upd_ne (ne_of_none hu hp)⟩
  own := ok.own
  lenr := ok.lenr
/-- what stands at a apart place is frozen -/
theorem Ok.freeze (ok : Ok K F G ι H ρ σ st) {a : Addr} {o : HO} (ap : Away F G ι ρ σ a) (h : H a = some o) : Ok K F (upd G a o) ι H ρ σ st ∧ Ext G ι (upd G a o) ι := by
  have e : Ext G ι (upd G a o) ι := ⟨fun b u q => by rw [upd_ne (ne_of_none q ap.g)]; exact q, [], by simp⟩
  refine ⟨⟨fun b u q => ?_, ok.fsub, fun b u q => ?_, ok.fi, fun b hb => ?_, ok.nd, ok.len, fun n b d e1 e2 => (ok.cells n b d e1 e2).move e rfl, fun i sl q => ?_, ok.own, ok.lenr⟩, e⟩
  · by_cases hb : b = a
    · subst hb; rw [upd_same] at q; cases q; exact h
    · rw [upd_ne hb] at q; exact ok.sub b u q
  · by_cases hb : b = a
    · subst hb; rw [ap.f] at q; cases q
    · rw [upd_ne hb]; exact ok.fg b u q
  · by_cases hb' : b = a
    · subst hb'; exact absurd hb ap.i
    · rw [upd_ne hb']; exact ok.gi b hb
  · cases sl with
    | un => trivial
    | v d =>
      obtain ⟨v, e1, r⟩ := ok.slots i _ q
      exact ⟨v, e1, r.ext e⟩
    | o d =>
      obtain ⟨b, e1, g, hi, f, w⟩ := ok.slots i _ q
      have hb : b ≠ a := fun z => by subst z; exact ap.o i d q e1
      exact ⟨b, e1, by rw [upd_ne hb]; exact g, hi, f, w.move e rfl⟩
/-- a slot's own list is a value from now on -/
theorem Ok.freezeSlot (ok : Ok K F G ι H ρ σ st) {i : Nat} {d : D} {a : Addr} (hi : ρ[i]? = some (.o d)) (ha : σ[i]? = some (some (.ref a))) :
    ∃ G', Ok K F G' ι H (ρ.set i (.v d)) σ st ∧ Ext G ι G' ι ∧ Rep K G' ι (.ref a) d := by
  obtain ⟨b, e1, g, hn, f, w⟩ := ok.slots i _ hi
  rw [ha] at e1; cases e1
  obtain ⟨o, ho⟩ := w.some
  have hlt : i < ρ.length := (List.getElem?_eq_some_iff.mp hi).1
  have ok1 : Ok K F G ι H (ρ.set i .un) σ st := ⟨ok.sub, ok.fsub, ok.fg, ok.fi, ok.gi, ok.nd, ok.len, ok.cells, fun j sl q => by
    by_cases hj : j = i
    · subst hj; rw [List.getElem?_set_self hlt] at q; cases q; trivial
    · rw [List.getElem?_set_ne (Ne.symm hj)] at q; exact ok.slots j sl q, fun j k d1 d2 c q1 q2 q3 q4 => by
    have hj : j ≠ i := fun z => by subst z; rw [List.getElem?_set_self hlt] at q1; cases q1
    have hk : k ≠ i := fun z => by subst z; rw [List.getElem?_set_self hlt] at q2; cases q2
    rw [List.getElem?_set_ne (Ne.symm hj)] at q1
    rw [List.getElem?_set_ne (Ne.symm hk)] at q2
    exact ok.own j k d1 d2 c q1 q2 q3 q4, by simpa using ok.lenr⟩
  have ap : Away F G ι (ρ.set i .un) σ a := ⟨g, hn, f, fun j d' q x => by
    have hj : j ≠ i := fun z => by subst z; rw [List.getElem?_set_self hlt] at q; cases q
    rw [List.getElem?_set_ne (Ne.symm hj)] at q
    exact hj (ok.own j i d' d a q hi x ha)⟩
  obtain ⟨ok2, e2⟩ := ok1.freeze ap ho
  have r2 : Rep K (upd G a o) ι (.ref a) d := (w.move e2 rfl).rep (by rw [upd_same, ho])
  refine ⟨upd G a o, ⟨ok2.sub, ok2.fsub, ok2.fg, ok2.fi, ok2.gi, ok2.nd, ok2.len, ok2.cells, fun j sl q => ?_, fun j k d1 d2 c q1 q2 q3 q4 => ?_, by simpa using ok.lenr⟩, e2, r2⟩
  · by_cases hj : j = i
    · subst hj
      rw [List.getElem?_set_self hlt] at q; cases q
      exact ⟨_, ha, r2⟩
    · have q' : (ρ.set i .un)[j]? = some sl := by
        rw [List.getElem?_set_ne (Ne.symm hj)] at q ⊢; exact q
      exact ok2.slots j sl q'
  · have hj : j ≠ i := fun z => by subst z; rw [List.getElem?_set_self hlt] at q1; cases q1
    have hk : k ≠ i := fun z => by subst z; rw [List.getElem?_set_self hlt] at q2; cases q2
    rw [List.getElem?_set_ne (Ne.symm hj)] at q1
    rw [List.getElem?_set_ne (Ne.symm hk)] at q2
    exact ok.own j k d1 d2 c q1 q2 q3 q4
/-- a slot is unset -/
theorem Ok.wipe (ok : Ok K F G ι H ρ σ st) (i : Nat) : Ok K F G ι H (ρ.set i .un) σ st where
  sub := ok.sub
  fsub := ok.fsub
  fg := ok.fg
  fi := ok.fi
  gi := ok.gi
  nd := ok.nd
  len := ok.len
  cells := ok.cells
  slots := fun j sl q => by
    by_cases hj : j = i
    · subst hj
      by_cases hlt : j < ρ.length
      · rw [List.getElem?_set_self hlt] at q; cases q; trivial
      · rw [List.getElem?_eq_none (by simp; omega)] at q; cases q
    · rw [List.getElem?_set_ne (Ne.symm hj)] at q; exact ok.slots j sl q
  own := fun j k d1 d2 c q1 q2 q3 q4 => by
    have get : ∀ {m : Nat} {d : D}, (ρ.set i .un)[m]? = some (.o d) → ρ[m]? = some (.o d) := fun {m d} q => by
      by_cases hm : m = i
      · subst hm
        by_cases hlt : m < ρ.length
        · rw [List.getElem?_set_self hlt] at q; cases q
        · rw [List.getElem?_eq_none (by simp; omega)] at q; cases q
      · rw [List.getElem?_set_ne (Ne.symm hm)] at q; exact q
    exact ok.own j k d1 d2 c (get q1) (get q2) q3 q4
  lenr := by simpa using ok.lenr
/-- .. and may stand for anything -/
theorem Ok.slotAny (ok : Ok K F G ι H ρ σ st) {i : Nat} (hi : ρ[i]? = some .un) (x : Option V) : Ok K F G ι H ρ (σ.set i x) st where
  sub := ok.sub
  fsub := ok.fsub
  fg := ok.fg
  fi := ok.fi
  gi := ok.gi
  nd := ok.nd
  len := ok.len
  cells := ok.cells
  slots := fun j sl q => by
    by_cases hj : j = i
    · subst hj; rw [hi] at q; cases q; trivial
    · rw [List.getElem?_set_ne (Ne.symm hj)]; exact ok.slots j sl q
  own := fun j k d1 d2 c q1 q2 q3 q4 => by
    have hj : j ≠ i := fun z => by subst z; rw [hi] at q1; cases q1
    have hk : k ≠ i := fun z => by subst z; rw [hi] at q2; cases q2
    rw [List.getElem?_set_ne (Ne.symm hj)] at q3
    rw [List.getElem?_set_ne (Ne.symm hk)] at q4
    exact ok.own j k d1 d2 c q1 q2 q3 q4
  lenr := by simpa using ok.lenr
/-- a slot takes a value -/
theorem Ok.setV (ok : Ok K F G ι H ρ σ st) {i : Nat} {v : V} {d : D} (r : Rep K G ι v d) : Ok K F G ι H (ρ.set i (.v d)) (σ.set i (some v)) st := by
  by_cases hlt : i < ρ.length
  · have ok1 := (ok.wipe i).slotAny (List.getElem?_set_self hlt) (some v)
    refine ⟨ok1.sub, ok1.fsub, ok1.fg, ok1.fi, ok1.gi, ok1.nd, ok1.len, ok1.cells, fun j sl q => ?_, fun j k d1 d2 c q1 q2 q3 q4 => ?_, by simpa using ok.lenr⟩
    · by_cases hj : j = i
      · subst hj
        rw [List.getElem?_set_self hlt] at q; cases q
        exact ⟨v, by rw [List.getElem?_set_self (by rw [← ok.lenr]; exact hlt)], r⟩
      · have q' : (ρ.set i .un)[j]? = some sl := by
          rw [List.getElem?_set_ne (Ne.symm hj)] at q ⊢; exact q
        exact ok1.slots j sl q'
    · have hj : j ≠ i := fun z => by subst z; rw [List.getElem?_set_self hlt] at q1; cases q1
      have hk : k ≠ i := fun z => by subst z; rw [List.getElem?_set_self hlt] at q2; cases q2
      refine ok1.own j k d1 d2 c ?_ ?_ q3 q4
      · rw [List.getElem?_set_ne (Ne.symm hj)] at q1 ⊢; exact q1
      · rw [List.getElem?_set_ne (Ne.symm hk)] at q2 ⊢; exact q2
  · rw [List.set_eq_of_length_le (by omega), List.set_eq_of_length_le (by rw [← ok.lenr]; omega)]
    exact ok
/-- a slot takes a list of its own -/
theorem Ok.setO (ok : Ok K F G ι H ρ σ st) {i : Nat} {a : Addr} {d : D} (ap : Away F G ι ρ σ a) (w : OwnAt K G ι H a d) : Ok K F G ι H (ρ.set i (.o d)) (σ.set i (some (.ref a))) st := by
  by_cases hlt : i < ρ.length
  · have ok1 := (ok.wipe i).slotAny (List.getElem?_set_self hlt) (some (.ref a))
    have hls : i < σ.length := by rw [← ok.lenr]; exact hlt
    refine ⟨ok1.sub, ok1.fsub, ok1.fg, ok1.fi, ok1.gi, ok1.nd, ok1.len, ok1.cells, fun j sl q => ?_, fun j k d1 d2 c q1 q2 q3 q4 => ?_, by simpa using ok.lenr⟩
    · by_cases hj : j = i
      · subst hj
        rw [List.getElem?_set_self hlt] at q; cases q
        exact ⟨a, by rw [List.getElem?_set_self hls], ap.g, ap.i, ap.f, w⟩
      · have q' : (ρ.set i .un)[j]? = some sl := by
          rw [List.getElem?_set_ne (Ne.symm hj)] at q ⊢; exact q
        exact ok1.slots j sl q'
    · by_cases hj : j = i
      · by_cases hk : k = i
        · rw [hj, hk]
        · subst hj
          rw [List.getElem?_set_ne (Ne.symm hk)] at q2 q4
          rw [List.getElem?_set_self hls] at q3; cases q3
          exact absurd q4 (ap.o k d2 q2)
      · rw [List.getElem?_set_ne (Ne.symm hj)] at q1 q3
        by_cases hk : k = i
        · subst hk
          rw [List.getElem?_set_self hls] at q4; cases q4
          exact absurd q3 (ap.o j d1 q1)
        · rw [List.getElem?_set_ne (Ne.symm hk)] at q2 q4
          exact ok.own j k d1 d2 c q1 q2 q3 q4
  · rw [List.set_eq_of_length_le (by omega), List.set_eq_of_length_le (by rw [← ok.lenr]; omega)]
    exact ok
/-- a slot's own list is written -/
theorem Ok.write (ok : Ok K F G ι H ρ σ st) {i : Nat} {a : Addr} {d d' : D} {o : HO} (hi : ρ[i]? = some (.o d)) (ha : σ[i]? = some (some (.ref a))) (w : OwnAt K G ι (upd H a o) a d') : Ok K F G ι (upd H a o) (ρ.set i (.o d')) σ st := by
  obtain ⟨b, e1, g, hn, f, w0⟩ := ok.slots i _ hi
  rw [ha] at e1; cases e1
  have hlt : i < ρ.length := (List.getElem?_eq_some_iff.mp hi).1
  have gne : ∀ b u, G b = some u → b ≠ a := fun b u q z => by subst z; rw [g] at q; cases q
  have fne : ∀ b u, F b = some u → b ≠ a := fun b u q z => by subst z; rw [f] at q; cases q
  refine ⟨fun b u q => by rw [upd_ne (gne b u q)]; exact ok.sub b u q, fun b u q => by rw [upd_ne (fne b u q)]; exact ok.fsub b u q, ok.fg, ok.fi, ok.gi, ok.nd, ok.len, fun n b e q1 q2 => ?_, fun j sl q => ?_, fun j k d1 d2 c q1 q2 q3 q4 => ?_, by simpa using ok.lenr⟩
  · have hb : b ≠ a := fun z => by subst z; exact hn (List.mem_of_getElem? q1)
    exact (ok.cells n b e q1 q2).move (Ext.refl G ι) (upd_ne hb)
  · by_cases hj : j = i
    · subst hj
      rw [List.getElem?_set_self hlt] at q; cases q
      exact ⟨a, ha, g, hn, f, w⟩
    · rw [List.getElem?_set_ne (Ne.symm hj)] at q
      cases sl with
      | un => trivial
      | v d => exact ok.slots j _ q
      | o e =>
        obtain ⟨b, q1, g', hn', f', w'⟩ := ok.slots j _ q
        have hb : b ≠ a := fun z => by subst z; exact hj (ok.own j i e d b q hi q1 ha)
        exact ⟨b, q1, g', hn', f', w'.move (Ext.refl G ι) (upd_ne hb)⟩
  · have get : ∀ {m : Nat} {e : D}, (ρ.set i (.o d'))[m]? = some (.o e) → ∃ e', ρ[m]? = some (.o e') := fun {m e} q => by
      by_cases hm : m = i
      · subst hm; exact ⟨d, hi⟩
      · rw [List.getElem?_set_ne (Ne.symm hm)] at q; exact ⟨e, q⟩
    obtain ⟨_, q1'⟩ := get q1
    obtain ⟨_, q2'⟩ := get q2
    exact ok.own j k _ _ c q1' q2' q3 q4
/-- a shared cell is written -/
theorem Ok.writeCell (ok : Ok K F G ι H ρ σ st) {n : Nat} {a : Addr} {d' : D} {o : HO} (hi : ι[n]? = some a) (w : OwnAt K G ι (upd H a o) a d') : Ok K F G ι (upd H a o) ρ σ (st.set n d') := by
  have hmem : a ∈ ι := List.mem_of_getElem? hi
  have gne : ∀ b u, G b = some u → b ≠ a := fun b u q z => by subst z; rw [ok.gi _ hmem] at q; cases q
  have fne : ∀ b u, F b = some u → b ≠ a := fun b u q z => by subst z; rw [ok.fi _ hmem] at q; cases q
  refine ⟨fun b u q => by rw [upd_ne (gne b u q)]; exact ok.sub b u q, fun b u q => by rw [upd_ne (fne b u q)]; exact ok.fsub b u q, ok.fg, ok.fi, ok.gi, ok.nd, by rw [List.length_set]; exact ok.len, fun m b e q1 q2 => ?_, fun j sl q => ?_, ok.own, ok.lenr⟩
  · by_cases hm : m = n
    · subst hm
      rw [hi] at q1; cases q1
      rw [List.getElem?_set_self (by rw [← ok.len]; exact (List.getElem?_eq_some_iff.mp hi).1)] at q2
      cases q2
      exact w
    · rw [List.getElem?_set_ne (Ne.symm hm)] at q2
      have hb : b ≠ a := fun z => by
        subst z
        obtain ⟨h1, e1⟩ := List.getElem?_eq_some_iff.mp q1
        obtain ⟨h2, e2⟩ := List.getElem?_eq_some_iff.mp hi
        exact hm ((List.getElem_inj ok.nd).mp (e1.trans e2.symm))
      exact (ok.cells m b e q1 q2).move (Ext.refl G ι) (upd_ne hb)
  · exact (ok.slots j sl q).move (Ext.refl G ι) fun b _ g hn _ _ _ => ⟨g, hn, upd_ne fun z => by subst z; exact hn hmem⟩
/-- a new shared cell -/
theorem Ok.newCell (ok : Ok K F G ι H ρ σ st) {a : Addr} {d : D} (ap : Away F G ι ρ σ a) (w : OwnAt K G ι H a d) : Ok K F G (ι ++ [a]) H ρ σ (st ++ [d]) ∧ Ext G ι G (ι ++ [a]) := by
  have e : Ext G ι G (ι ++ [a]) := ⟨Same.refl G, [a], rfl⟩
  refine ⟨⟨ok.sub, ok.fsub, ok.fg, fun b hb => ?_, fun b hb => ?_, ?_, by simp [ok.len], fun n b e1 q1 q2 => ?_, fun j sl q => ?_, ok.own, ok.lenr⟩, e⟩
  · rcases List.mem_append.mp hb with h | h
    · exact ok.fi b h
    · rw [List.mem_singleton.mp h]; exact ap.f
  · rcases List.mem_append.mp hb with h | h
    · exact ok.gi b h
    · rw [List.mem_singleton.mp h]; exact ap.g
  · rw [List.nodup_append]
    exact ⟨ok.nd, by simp, fun x hx y hy z => ap.i (by rw [← List.mem_singleton.mp hy, ← z]; exact hx)⟩
  · by_cases hn : n < ι.length
    · rw [List.getElem?_append_left hn] at q1
      rw [List.getElem?_append_left (by rw [← ok.len]; exact hn)] at q2
      exact (ok.cells n b e1 q1 q2).move e rfl
    · have hn' : n < (ι ++ [a]).length := (List.getElem?_eq_some_iff.mp q1).1
      have en : n = ι.length := by simp at hn'; omega
      subst en
      rw [List.getElem?_append_right (Nat.le_refl _)] at q1
      rw [List.getElem?_append_right (by rw [ok.len]; exact Nat.le_refl _)] at q2
      simp at q1
      rw [ok.len] at q2
      simp at q2
      subst q1 q2
      exact w.move e rfl
  · cases sl with
    | un => trivial
    | v d =>
      obtain ⟨v, e1, r⟩ := ok.slots j _ q
      exact ⟨v, e1, r.ext e⟩
    | o d' =>
      obtain ⟨b, e1, g, hi, f, w'⟩ := ok.slots j _ q
      exact ⟨b, e1, g, fun hb => by
        rcases List.mem_append.mp hb with h | h
        · exact hi h
        · rw [List.mem_singleton.mp h] at e1
          exact ap.o j d' q e1, f, w'.move e rfl⟩

/-! ### into a call and back -/
open Classical in
noncomputable def ownF (F H : Hp) (ρ : List Sl) (σ : L2.St) : Hp := fun a => if ∃ (i : Nat) (d : D), ρ[i]? = some (.o d) ∧ σ[i]? = some (some (.ref a)) then H a else F a
theorem Ok.enter (ok : Ok K F G ι H ρ σ st) : Ok K (ownF F H ρ σ) G ι H [] [] st where
  sub := ok.sub
  fsub := fun a o e => by
    unfold ownF at e
    split at e
    · exact e
    · exact ok.fsub a o e
  fg := fun a o e => by
    unfold ownF at e
    split at e
    · rename_i h
      obtain ⟨i, d, h1, h2⟩ := h
      obtain ⟨b, e1, g, _⟩ := ok.slots i _ h1
      rw [h2] at e1; cases e1; exact g
    · exact ok.fg a o e
  fi := fun a ha => by
    unfold ownF
    split
    · rename_i h
      obtain ⟨i, d, h1, h2⟩ := h
      obtain ⟨b, e1, g, n, _⟩ := ok.slots i _ h1
      rw [h2] at e1; cases e1; exact absurd ha n
    · exact ok.fi a ha
  gi := ok.gi
  nd := ok.nd
  len := ok.len
  cells := ok.cells
  slots := fun i sl e => by simp at e
  own := fun i j d d' a e => by simp at e
  lenr := rfl
theorem Ok.leave {st' : List D} (ok : Ok K F G ι H ρ σ st) (ok' : Ok K (ownF F H ρ σ) G' ι' H' [] [] st') (e : Ext G ι G' ι') : Ok K F G' ι' H' ρ σ st' := by
  have fF : ∀ a o, F a = some o → ownF F H ρ σ a = some o := fun a o q => by
    unfold ownF
    split
    · exact ok.fsub a o q
    · exact q
  have oF : ∀ (i : Nat) (d : D) (a : Addr), ρ[i]? = some (.o d) → σ[i]? = some (some (.ref a)) → ownF F H ρ σ a = H a := fun i d a q1 q2 => by
    unfold ownF
    rw [if_pos ⟨i, d, q1, q2⟩]
  refine ⟨ok'.sub, fun a o q => ok'.fsub a o (fF a o q), fun a o q => ok'.fg a o (fF a o q), fun a ha => ?_, ok'.gi, ok'.nd, ok'.len, ok'.cells, fun i sl q => ?_, ok.own, ok.lenr⟩
  · cases q : F a with
    | none => rfl
    | some o =>
      have := fF a o q
      rw [ok'.fi a ha] at this; cases this
  · cases sl with
    | un => trivial
    | v d =>
      obtain ⟨v, e1, r⟩ := ok.slots i _ q
      exact ⟨v, e1, r.ext e⟩
    | o d =>
      obtain ⟨a, e1, g, hi, f, w⟩ := ok.slots i _ q
      obtain ⟨o, ho⟩ := w.some
      have hF : ownF F H ρ σ a = some o := (oF i d a q e1).trans ho
      refine ⟨a, e1, ok'.fg a o hF, fun z => ?_, f, w.move e ((ok'.fsub a o hF).trans ho.symm)⟩
      rw [ok'.fi a z] at hF; cases hF
/-- a new thing of a callee's is apart from ours -/
theorem Ok.leaveAway {st' : List D} {a : Addr} (ok : Ok K F G ι H ρ σ st) (ap : Away (ownF F H ρ σ) G' ι' [] [] a) : Away F G' ι' ρ σ a where
  g := ap.g
  i := ap.i
  f := by
    cases q : F a with
    | none => rfl
    | some o =>
      have z := ap.f
      unfold ownF at z
      split at z
      · rw [ok.fsub a o q] at z; cases z
      · rw [q] at z; cases z
  o := fun i d q x => by
    obtain ⟨b, e1, g, _, _, w⟩ := ok.slots i _ q
    rw [x] at e1; cases e1
    obtain ⟨o, ho⟩ := w.some
    have z := ap.f
    unfold ownF at z
    rw [if_pos ⟨i, d, q, x⟩, ho] at z; cases z
end
end Ev

-- EvX
set_option autoImplicit true
set_option Elab.async false
set_option linter.all false
set_option maxRecDepth 100000
set_option maxHeartbeats 4000000
set_option autoImplicit false
/-! EvX: the operators' rules over the evaluator's data. -/
namespace Ev
open PySem PySem.Spec PyProof.Rows L2

/-- what is wanted behind an expression: its value d -/
def After (K : PySem.W.Frag) (F G : Hp) (ι : List Addr) (ρ : List Sl) (σ : L2.St) (st : List D) (d : D) (Q : VK) : Prop :=
  ∀ v H' G' ι', Ok K F G' ι' H' ρ σ st → Ext G ι G' ι' → Rep K G' ι' v d → Q v H'
section
variable {K : PySem.W.Frag} {F G H : Hp} {ι : List Addr} {ρ : List Sl} {σ : L2.St} {st : List D} {d : D} {Q : VK}
theorem After.here (k : After K F G ι ρ σ st d Q) (ok : Ok K F G ι H ρ σ st) {v : V} (r : Rep K G ι v d) : Q v H := k v H G ι ok (Ext.refl G ι) r
theorem After.new (k : After K F G ι ρ σ st d Q) (ok : Ok K F G ι H ρ σ st) {p : Addr} (hp : H p = none) {o : HO} (w : ∀ G', Ext G ι G' ι → G' p = some o → Rep K G' ι (.ref p) d) : Q (.ref p) (upd H p o) := by
  obtain ⟨ok2, e2⟩ := (ok.alloc hp o).freeze (a := p) (o := o) (ok.fresh hp) upd_same
  exact k _ _ _ _ ok2 e2 (w _ e2 upd_same)
theorem After.lst {ds : List D} {xs : List V} (k : After K F G ι ρ σ st (.lst ds) Q) (ok : Ok K F G ι H ρ σ st) (r : Reps K G ι xs ds) {p : Addr} (hp : H p = none) : Q (.ref p) (upd H p (.lst xs)) :=
  k.new ok hp fun _ e h => .lst h (r.ext e)
theorem After.tup {ds : List D} {xs : List V} (k : After K F G ι ρ σ st (.tup ds) Q) (ok : Ok K F G ι H ρ σ st) (r : Reps K G ι xs ds) {p : Addr} (hp : H p = none) : Q (.ref p) (upd H p (.tup xs)) :=
  k.new ok hp fun _ e h => .tup (SqT.of h) (r.ext e)
theorem After.dct {ds : List (D × D)} {xs : List (Key × V)} (k : After K F G ι ρ σ st (.dct ds) Q) (ok : Ok K F G ι H ρ σ st) (r : RepKV K G ι xs ds) {p : Addr} (hp : H p = none) : Q (.ref p) (upd H p (.dK xs)) :=
  k.new ok hp fun _ e h => .dct h (r.ext e)
end
/-- the data's SqT at the heap -/
theorem Ok.sqT {K : PySem.W.Frag} {F G H : Hp} {ι : List Addr} {ρ : List Sl} {σ : L2.St} {st : List D} (ok : Ok K F G ι H ρ σ st) {a : Addr} {xs : List V} (h : SqT K G a xs) : SqT K H a xs := Same.seqT ok.sub h

/-- two values in, d out -/
def rB (K : PySem.W.Frag) (f : D → D → Option D) : R2 := fun x y H Q => ∃ F G ι ρ σ st a b d, Ok K F G ι H ρ σ st ∧ Rep K G ι x a ∧ Rep K G ι y b ∧ f a b = some d ∧ After K F G ι ρ σ st d Q
def rU1 (K : PySem.W.Frag) (f : D → Option D) : V → Hp → VK → Prop := fun x H Q => ∃ F G ι ρ σ st a d, Ok K F G ι H ρ σ st ∧ Rep K G ι x a ∧ f a = some d ∧ After K F G ι ρ σ st d Q
/-- the second one a root -/
def rR (K : PySem.W.Frag) (f : D → D → Option D) : R2 := fun x y H Q => ∃ F G ι ρ σ st a b d, Ok K F G ι H ρ σ st ∧ Rep K G ι x a ∧ Root K G ι H y b ∧ f a b = some d ∧ After K F G ι ρ σ st d Q
section
variable {X : Cx}
theorem rB_add : OpR X (binaryOp .Add) (rB X.K (binD .add)) := by
  rintro pins s σ H x y v u Q I rx ry ⟨F, G, ι, ρ, σ', st, a, b, d, ok, ra, rb, e, k⟩
  cases a <;> cases b <;> simp only [binD, Option.some.injEq, reduceCtorEq] at e
  · subst e; cases ra; cases rb
    exact op_add pins s σ H _ _ v u Q I rx ry ⟨_, _, rfl, rfl, k.here ok (.int _)⟩
  · split at e
    · cases e; cases ra; cases rb
      exact op_add_str pins s σ H _ _ v u Q I rx ry ⟨_, _, rfl, rfl, by assumption, k.here ok (.str _)⟩
    · cases e
  · split at e
    · rename_i as bs hz
      cases e
      cases ra with
      | tup h1 r1 =>
      cases rb with
      | tup h2 r2 =>
      refine op_catA pins s σ H _ _ v u Q I rx ry ⟨_, _, _, _, rfl, rfl, ok.sqT h1, ok.sqT h2, by rw [r1.length, r2.length]; exact hz, fun z => ?_, fun _ z => ?_, fun _ _ p hp => k.tup ok (r1.append r2) hp⟩
      · subst z
        cases r1
        exact k.here ok (.tup h2 r2)
      · subst z
        cases r2
        rw [List.append_nil] at k
        exact k.here ok (.tup h1 r1)
    · cases e
  · split at e
    · rename_i as bs hz
      cases e
      cases ra with
      | lst h1 r1 =>
      cases rb with
      | lst h2 r2 =>
      exact op_cat pins s σ H _ _ v u Q I rx ry ⟨_, _, _, _, rfl, rfl, ok.sub _ _ h1, ok.sub _ _ h2, by rw [r1.length, r2.length]; exact hz, fun p hp => k.lst ok (r1.append r2) hp⟩
    · cases e
theorem foldl_one (a : Array Nat) : (List.replicate 1 a).foldl (· ++ ·) #[] = a := by simp
theorem rB_sub : OpR X (binaryOp .Sub) (rB X.K (binD .sub)) := by
  rintro pins s σ H x y v u Q I rx ry ⟨F, G, ι, ρ, σ', st, a, b, d, ok, ra, rb, e, k⟩
  cases a <;> cases b <;> simp only [binD, Option.some.injEq, reduceCtorEq] at e
  subst e; cases ra; cases rb
  exact op_sub pins s σ H _ _ v u Q I rx ry ⟨_, _, rfl, rfl, k.here ok (.int _)⟩
theorem rB_mul : OpR X (binaryOp .Mult) (rB X.K (binD .mul)) := by
  rintro pins s σ H x y v u Q I rx ry ⟨F, G, ι, ρ, σ', st, a, b, d, ok, ra, rb, e, k⟩
  cases a <;> cases b <;> simp only [binD, Option.some.injEq, reduceCtorEq] at e
  · split at e
    · cases e; cases ra; cases rb
      exact op_mul pins s σ H _ _ v u Q I rx ry ⟨_, _, rfl, rfl, by assumption, k.here ok (.int _)⟩
    · cases e
  · split at e
    · rename_i z n hz
      obtain ⟨h1, h2, h3⟩ := hz
      cases e; cases ra; cases rb
      obtain ⟨t, rfl⟩ := rx
      obtain ⟨t', rfl⟩ := ry
      have hn : ¬ n < 1 := by omega
      have hl : z.length * n.toNat ≤ 1000000 := by
        have q1 : n.toNat ≤ 1000 := by omega
        exact Nat.mul_le_mul h3 q1
      have ht : Builtin.Str.tooLong (z.length * n.toNat) = false := by
        unfold Builtin.Str.tooLong
        have := sizeLine_eq
        simp only [decide_eq_false_iff_not]
        omega
      refine PySem.P.mul_str ?_ (fun _ _ => ?_) (fun _ _ => ht) ?_
      · have q1 : ¬ n < -(2 ^ 63 : Int) := by omega
        have q2 : ¬ n ≥ 2 ^ 63 := by omega
        rw [decide_eq_false q1, decide_eq_false q2]; rfl
      · have q2 : (1000 : Int) ≤ (2 ^ 63 - 1 : Int) / n := by
          rw [Int.le_ediv_iff_mul_le (by omega)]
          have : (1000 : Int) * n ≤ 1000 * 1000 := Int.mul_le_mul_of_nonneg_left h2 (by decide)
          omega
        omega
      · rw [if_neg hn]
        split
        · rename_i hq
          simp only [Bool.or_eq_true, beq_iff_eq] at hq
          have e : repStr z n.toNat = z := by
            unfold repStr
            rcases hq with hq | hq
            · subst hq
              show (⟨(List.replicate 1 z.cps).foldl (· ++ ·) #[]⟩ : Str) = z
              rw [foldl_one]
            · have hz0 : z.cps = #[] := by
                have : z.cps.size = 0 := hq
                exact Array.eq_empty_of_size_eq_zero this
              have gen : ∀ m : Nat, (List.replicate m (#[] : Array Nat)).foldl (· ++ ·) #[] = #[] := by
                intro m
                induction m with
                | zero => rfl
                | succ m ih => rw [List.replicate_succ, List.foldl_cons]; simpa using ih
              obtain ⟨zc⟩ := z
              simp only at hz0
              subst hz0
              rw [gen]
          rw [e] at k
          exact ⟨.str z, H, I, ⟨_, rfl⟩, k.here ok (.str _)⟩
        · refine ⟨?_, .str (repStr z n.toNat), H, I.tok _, ⟨_, rfl⟩, k.here ok (.str _)⟩
          have gen : ∀ (m : Nat) (acc : Array Nat), ((List.replicate m z.cps).foldl (· ++ ·) acc).size = acc.size + z.length * m := by
            intro m
            induction m with
            | zero => intro acc; simp
            | succ m ih =>
              intro acc
              rw [List.replicate_succ, List.foldl_cons, ih, Array.size_append]
              show acc.size + z.cps.size + z.cps.size * m = acc.size + z.cps.size * (m + 1)
              rw [Nat.mul_succ]; omega
          show ((List.replicate n.toNat z.cps).foldl (· ++ ·) #[]).size ≤ sizeLine
          rw [gen]
          have := sizeLine_eq
          simp only [Array.size_empty]
          omega
    · cases e
  · split at e
    · rename_i as n hz
      cases e
      cases ra with
      | lst h1 r1 =>
      cases rb
      exact op_rep pins s σ H _ _ v u Q I rx ry ⟨_, _, _, rfl, rfl, ok.sub _ _ h1, hz.1, hz.2.1, by rw [r1.length]; exact hz.2.2, fun p hp => k.lst ok (r1.rep _) hp⟩
    · cases e
theorem rB_int {op : Operator} {o : BO} {C : Int → Int → Prop} {g : Int → Int → Int} (hop : OpR X (binaryOp op) (rI C fun i j => .int (g i j)))
    (h : ∀ a b d, binD o a b = some d → ∃ i j, a = .int i ∧ b = .int j ∧ C i j ∧ d = .int (g i j)) : OpR X (binaryOp op) (rB X.K (binD o)) := by
  rintro pins s σ H x y v u Q I rx ry ⟨F, G, ι, ρ, σ', st, a, b, d, ok, ra, rb, e, k⟩
  obtain ⟨i, j, rfl, rfl, c, rfl⟩ := h a b d e
  cases ra; cases rb
  exact hop pins s σ H _ _ v u Q I rx ry ⟨_, _, rfl, rfl, c, k.here ok (.int _)⟩
theorem opI_of0 {f : Value → Value → Sem Value} {g : Int → Int → V} (h : OpR X f (rI0 g)) : OpR X f (rI (fun _ _ => True) g) := by
  rintro pins s σ H x y v u Q I rx ry ⟨i, j, e1, e2, _, q⟩
  exact h pins s σ H x y v u Q I rx ry ⟨i, j, e1, e2, q⟩
theorem rB_mod : OpR X (binaryOp .Mod) (rB X.K (binD .mod)) := rB_int op_mod fun a b d e => by
  cases a <;> cases b <;> simp only [binD, reduceCtorEq] at e
  split at e
  · cases e; exact ⟨_, _, rfl, rfl, by assumption, rfl⟩
  · cases e
theorem rB_fdiv : OpR X (binaryOp .FloorDiv) (rB X.K (binD .fdiv)) := rB_int op_fdiv fun a b d e => by
  cases a <;> cases b <;> simp only [binD, reduceCtorEq] at e
  split at e
  · cases e; exact ⟨_, _, rfl, rfl, by assumption, rfl⟩
  · cases e
theorem rB_pow : OpR X (binaryOp .Pow) (rB X.K (binD .pow)) := rB_int op_pow fun a b d e => by
  cases a <;> cases b <;> simp only [binD, reduceCtorEq] at e
  split at e
  · cases e; exact ⟨_, _, rfl, rfl, by assumption, rfl⟩
  · cases e
theorem rB_shl : OpR X (binaryOp .LShift) (rB X.K (binD .shl)) := rB_int op_shl fun a b d e => by
  cases a <;> cases b <;> simp only [binD, reduceCtorEq] at e
  split at e
  · cases e; exact ⟨_, _, rfl, rfl, by assumption, rfl⟩
  · cases e
theorem rB_shr : OpR X (binaryOp .RShift) (rB X.K (binD .shr)) := rB_int op_shr fun a b d e => by
  cases a <;> cases b <;> simp only [binD, reduceCtorEq] at e
  split at e
  · cases e; exact ⟨_, _, rfl, rfl, by assumption, rfl⟩
  · cases e
theorem rB_and : OpR X (binaryOp .BitAnd) (rB X.K (binD .band)) := rB_int (opI_of0 op_and) fun a b d e => by
  cases a <;> cases b <;> simp only [binD, reduceCtorEq, Option.some.injEq] at e
  subst e; exact ⟨_, _, rfl, rfl, trivial, rfl⟩
theorem rB_or : OpR X (binaryOp .BitOr) (rB X.K (binD .bor)) := rB_int (opI_of0 op_or) fun a b d e => by
  cases a <;> cases b <;> simp only [binD, reduceCtorEq, Option.some.injEq] at e
  subst e; exact ⟨_, _, rfl, rfl, trivial, rfl⟩
theorem rB_xor : OpR X (binaryOp .BitXor) (rB X.K (binD .bxor)) := rB_int (opI_of0 op_xor) fun a b d e => by
  cases a <;> cases b <;> simp only [binD, reduceCtorEq, Option.some.injEq] at e
  subst e; exact ⟨_, _, rfl, rfl, trivial, rfl⟩
/-- the operator of the text -/
def boOf : Operator → Option BO
  | .Add => some .add
  | .Sub => some .sub
  | .Mult => some .mul
  | .Mod => some .mod
  | .FloorDiv => some .fdiv
  | .Pow => some .pow
  | .LShift => some .shl
  | .RShift => some .shr
  | .BitAnd => some .band
  | .BitOr => some .bor
  | .BitXor => some .bxor
  | _ => none
theorem rB_of {op : Operator} {o : BO} (h : boOf op = some o) : OpR X (binaryOp op) (rB X.K (binD o)) := by
  cases op <;> simp [boOf] at h <;> subst h
  · exact rB_add
  · exact rB_sub
  · exact rB_mul
  · exact rB_mod
  · exact rB_pow
  · exact rB_shl
  · exact rB_shr
  · exact rB_or
  · exact rB_xor
  · exact rB_and
  · exact rB_fdiv
theorem rU_neg : UnR X (unaryOp .USub) (rU1 X.K (unD .neg)) := by
  rintro pins s σ H x v Q I rx ⟨F, G, ι, ρ, σ', st, a, d, ok, ra, e, k⟩
  cases a <;> simp only [unD, Option.some.injEq, reduceCtorEq] at e
  subst e; cases ra
  exact un_neg pins s σ H _ v Q I rx ⟨_, rfl, k.here ok (.int _)⟩
theorem rU_inv : UnR X (unaryOp .Invert) (rU1 X.K (unD .inv)) := by
  rintro pins s σ H x v Q I rx ⟨F, G, ι, ρ, σ', st, a, d, ok, ra, e, k⟩
  cases a <;> simp only [unD, Option.some.injEq, reduceCtorEq] at e
  subst e; cases ra
  exact un_inv pins s σ H _ v Q I rx ⟨_, rfl, k.here ok (.int _)⟩
end

/-! ### == of data -/
section
variable {X : Cx} {pins : List (Addr × Obj)} {σ : L2.St} {G H : Hp} {ι : List Addr} {s : Shared}
theorem tup_not_lst (I : Inv X pins σ H s) {a : Addr} {xs ys : List V} (h : SqT X.K H a xs) (h' : H a = some (.lst ys)) : False := by
  obtain ⟨_, _, ⟨o, e, c, _⟩, _⟩ := I.tuple h
  obtain ⟨_, _, n, _, e'⟩ := I.hok a _ h'
  rw [e] at e'
  cases e'
  simp at c
mutual
theorem rep_inj (I : Inv X pins σ H s) (sub : Same G H) : ∀ (d e : D) (v : V) (n m : Nat), Rep X.K G ι v d → Rep X.K G ι v e → D.plain n d = true → D.plain m e = true → d = e
  | .non, e, _, _, _, h, h', _, _ => by cases h; cases h'; rfl
  | .bl _, e, _, _, _, h, h', _, _ => by cases h; cases h'; rfl
  | .int _, e, _, _, _, h, h', _, _ => by cases h; cases h'; rfl
  | .str _, e, _, _, _, h, h', _, _ => by cases h; cases h'; rfl
  | .tup ds, e, _, n, m, h, h', p, p' => by
    cases h with
    | tup h1 h2 =>
      cases h' with
      | tup k1 k2 =>
        have ex := I.tuple_inj (Same.seqT sub h1) (Same.seqT sub k1)
        subst ex
        cases n <;> cases m <;> simp only [D.plain, Bool.false_eq_true] at p p'
        rw [reps_inj I sub _ _ _ _ _ h2 k2 p p']
      | lst k1 k2 => exact (tup_not_lst I (Same.seqT sub h1) (sub _ _ k1)).elim
      | dct => cases m <;> simp [D.plain] at p'
      | ref => cases m <;> simp [D.plain] at p'
      | scr => cases m <;> simp [D.plain] at p'
  | .lst ds, e, _, n, m, h, h', p, p' => by
    cases h with
    | lst h1 h2 =>
      cases h' with
      | lst k1 k2 =>
        rw [h1] at k1
        cases k1
        cases n <;> cases m <;> simp only [D.plain, Bool.false_eq_true] at p p'
        rw [reps_inj I sub _ _ _ _ _ h2 k2 p p']
      | tup k1 k2 => exact (tup_not_lst I (Same.seqT sub k1) (sub _ _ h1)).elim
      | dct => cases m <;> simp [D.plain] at p'
      | ref => cases m <;> simp [D.plain] at p'
      | scr => cases m <;> simp [D.plain] at p'
  | .dct _, _, _, n, _, _, _, p, _ => by cases n <;> simp [D.plain] at p
  | .ref _, _, _, n, _, _, _, p, _ => by cases n <;> simp [D.plain] at p
  | .scr _, _, _, n, _, _, _, p, _ => by cases n <;> simp [D.plain] at p
theorem reps_inj (I : Inv X pins σ H s) (sub : Same G H) : ∀ (ds es : List D) (vs : List V) (n m : Nat), Reps X.K G ι vs ds → Reps X.K G ι vs es → D.plains n ds = true → D.plains m es = true → ds = es
  | [], _, _, _, _, h, h', _, _ => by cases h; cases h'; rfl
  | d :: ds, _, _, n, m, h, h', p, p' => by
    cases h with
    | cons h1 h2 =>
      cases h' with
      | cons k1 k2 =>
        simp only [D.plains, Bool.and_eq_true] at p p'
        rw [rep_inj I sub _ _ _ _ _ h1 k1 p.1 p'.1, reps_inj I sub _ _ _ _ _ h2 k2 p.2 p'.2]
end

mutual
theorem eqv_self : ∀ (d : D) (n : Nat), D.plain n d = true → D.eqv d d = true
  | .non, _, _ => by simp [D.eqv]
  | .bl _, _, _ => by simp [D.eqv]
  | .int _, _, _ => by simp [D.eqv]
  | .str _, _, _ => by simp [D.eqv]
  | .tup ds, n, p => by cases n <;> simp only [D.plain, Bool.false_eq_true] at p; simp only [D.eqv]; exact eqvs_self ds _ p
  | .lst ds, n, p => by cases n <;> simp only [D.plain, Bool.false_eq_true] at p; simp only [D.eqv]; exact eqvs_self ds _ p
  | .dct _, n, p => by cases n <;> simp [D.plain] at p
  | .ref _, n, p => by cases n <;> simp [D.plain] at p
  | .scr _, n, p => by cases n <;> simp [D.plain] at p
theorem eqvs_self : ∀ (ds : List D) (n : Nat), D.plains n ds = true → D.eqvs ds ds = true
  | [], _, _ => by simp [D.eqvs]
  | d :: ds, n, p => by
    simp only [D.plains, Bool.and_eq_true] at p
    simp only [D.eqvs, Bool.and_eq_true]
    exact ⟨eqv_self d n p.1, eqvs_self ds n p.2⟩
end
theorem rep_same (I : Inv X pins σ H s) (sub : Same G H) (d e : D) (v : V) (n m : Nat) (h : Rep X.K G ι v d) (h' : Rep X.K G ι v e) (p : D.plain n d = true) (p' : D.plain m e = true) : D.eqv d e = true := by
  rw [← rep_inj I sub d e v n m h h' p p']
  exact eqv_self d n p

theorem eqvs_len : ∀ (xs ys : List D), xs.length ≠ ys.length → D.eqvs xs ys = false
  | [], [], h => absurd rfl h
  | [], _ :: _, _ => by simp [D.eqvs]
  | _ :: _, [], _ => by simp [D.eqvs]
  | x :: xs, y :: ys, h => by
    have q := eqvs_len xs ys (fun e => h (by simp [e]))
    simp [D.eqvs, q]
/-- the items' answers, by place -/
def itemEq (xs ys : List D) (j : Nat) : Bool := match xs[j]?, ys[j]? with
  | some x, some y => D.eqv x y
  | _, _ => false
theorem range_all_succ (f : Nat → Bool) (n : Nat) : (List.range (n + 1)).all f = (f 0 && (List.range n).all fun j => f (j + 1)) := by
  rw [List.range_succ_eq_map, List.all_cons, List.all_map]
  rfl
theorem eqvs_range : ∀ (xs ys : List D), xs.length = ys.length → (List.range xs.length).all (itemEq xs ys) = D.eqvs xs ys
  | [], [], _ => by simp [D.eqvs]
  | [], _ :: _, h => by simp at h
  | _ :: _, [], h => by simp at h
  | x :: xs, y :: ys, h => by
    have q := eqvs_range xs ys (by simpa using h)
    rw [List.length_cons, range_all_succ, D.eqvs, ← q]
    rfl
theorem eqvs_min (xs ys : List D) : ((List.range (min xs.length ys.length)).all (itemEq xs ys) && xs.length == ys.length) = D.eqvs xs ys := by
  by_cases h : xs.length = ys.length
  · rw [← eqvs_range xs ys h, h]
    simp
  · rw [eqvs_len xs ys h]
    simp [h]
mutual
theorem eqAtD (I : Inv X pins σ H s) (sub : Same G H) : ∀ (d e : D) (x y : V) (u v : Value) (n m : Nat) (A : Around), Rep X.K G ι x d → RelV x u → Rep X.K G ι y e → RelV y v → D.plain n d = true → D.plain m e = true → A.units + n < cLine → SeqAt.EqAt A s u v (D.eqv d e)
  | .non, e, _, _, _, _, n, m, A, h, r, h', r', p, p', hu => by
    cases h
    cases r
    cases h' with
    | non => cases r'; simpa [D.eqv] using SeqAt.EqAt.same _
    | bl => cases r'; simpa [D.eqv] using SeqAt.EqAt.none_bool _
    | int => obtain ⟨t, rfl⟩ := r'; simpa [D.eqv] using SeqAt.EqAt.none_int _ _
    | str => obtain ⟨t, rfl⟩ := r'; simpa [D.eqv] using SeqAt.EqAt.none_str _ _
    | tup k1 k2 =>
      cases r'
      obtain ⟨_, _, ht, _⟩ := I.tuple (Same.seqT sub k1)
      simpa [D.eqv] using SeqAt.EqAt.none_tuple ht (by omega)
    | lst k1 k2 =>
      cases r'
      obtain ⟨_, _, ht, _⟩ := I.list (SqL.of (sub _ _ k1))
      simpa [D.eqv] using SeqAt.EqAt.none_list ht.isList (by omega)
    | dct => cases m <;> simp [D.plain] at p'
    | ref => cases m <;> simp [D.plain] at p'
    | scr => cases m <;> simp [D.plain] at p'
  | .bl _, e, _, _, _, _, n, m, A, h, r, h', r', p, p', hu => by
    cases h
    cases r
    cases h' with
    | non => cases r'; simpa [D.eqv] using SeqAt.EqAt.bool_none _
    | bl => cases r'; simpa [D.eqv] using SeqAt.EqAt.bool_bool _ _
    | int => obtain ⟨t, rfl⟩ := r'; simpa [D.eqv, b2i] using SeqAt.EqAt.bool_int _ _ _
    | str => obtain ⟨t, rfl⟩ := r'; simpa [D.eqv] using SeqAt.EqAt.bool_str _ _ _
    | tup k1 k2 =>
      cases r'
      obtain ⟨_, _, ht, _⟩ := I.tuple (Same.seqT sub k1)
      simpa [D.eqv] using SeqAt.EqAt.bool_tuple _ ht (by omega)
    | lst k1 k2 =>
      cases r'
      obtain ⟨_, _, ht, _⟩ := I.list (SqL.of (sub _ _ k1))
      simpa [D.eqv] using SeqAt.EqAt.bool_list _ ht.isList (by omega)
    | dct => cases m <;> simp [D.plain] at p'
    | ref => cases m <;> simp [D.plain] at p'
    | scr => cases m <;> simp [D.plain] at p'
  | .int _, e, _, _, _, _, n, m, A, h, r, h', r', p, p', hu => by
    cases h
    obtain ⟨t0, rfl⟩ := r
    cases h' with
    | non => cases r'; simpa [D.eqv] using SeqAt.EqAt.int_none _ _
    | bl => cases r'; simpa [D.eqv, b2i] using SeqAt.EqAt.int_bool _ _ _
    | int => obtain ⟨t, rfl⟩ := r'; simpa [D.eqv] using SeqAt.EqAt.int_int _ _ _ _
    | str => obtain ⟨t, rfl⟩ := r'; simpa [D.eqv] using SeqAt.EqAt.int_str _ _ _ _
    | tup k1 k2 =>
      cases r'
      obtain ⟨_, _, ht, _⟩ := I.tuple (Same.seqT sub k1)
      simpa [D.eqv] using SeqAt.EqAt.int_tuple _ _ ht (by omega)
    | lst k1 k2 =>
      cases r'
      obtain ⟨_, _, ht, _⟩ := I.list (SqL.of (sub _ _ k1))
      simpa [D.eqv] using SeqAt.EqAt.int_list _ _ ht.isList (by omega)
    | dct => cases m <;> simp [D.plain] at p'
    | ref => cases m <;> simp [D.plain] at p'
    | scr => cases m <;> simp [D.plain] at p'
  | .str _, e, _, _, _, _, n, m, A, h, r, h', r', p, p', hu => by
    cases h
    obtain ⟨t0, rfl⟩ := r
    cases h' with
    | non => cases r'; simpa [D.eqv] using SeqAt.EqAt.str_none _ _
    | bl => cases r'; simpa [D.eqv] using SeqAt.EqAt.str_bool _ _ _
    | int => obtain ⟨t, rfl⟩ := r'; simpa [D.eqv] using SeqAt.EqAt.str_int _ _ _ _
    | str => obtain ⟨t, rfl⟩ := r'; simpa [D.eqv] using SeqAt.EqAt.str_str _ _ _ _
    | tup k1 k2 =>
      cases r'
      obtain ⟨_, _, ht, _⟩ := I.tuple (Same.seqT sub k1)
      simpa [D.eqv] using SeqAt.EqAt.str_tuple _ _ ht (by omega)
    | lst k1 k2 =>
      cases r'
      obtain ⟨_, _, ht, _⟩ := I.list (SqL.of (sub _ _ k1))
      simpa [D.eqv] using SeqAt.EqAt.str_list _ _ ht.isList (by omega)
    | dct => cases m <;> simp [D.plain] at p'
    | ref => cases m <;> simp [D.plain] at p'
    | scr => cases m <;> simp [D.plain] at p'
  | .tup ds, e, _, _, _, _, n, m, A, h, r, h', r', p, p', hu => by
    cases h with
    | @tup a xs _ h1 h2 =>
      cases r
      obtain ⟨its, rv, hl, _⟩ := I.tuple (Same.seqT sub h1)
      cases n with
      | zero => simp [D.plain] at p
      | succ n =>
      cases h' with
      | non => cases r'; simpa [D.eqv] using SeqAt.EqAt.tuple_none hl (by omega)
      | bl => cases r'; simpa [D.eqv] using SeqAt.EqAt.tuple_bool _ hl (by omega)
      | int => obtain ⟨t, rfl⟩ := r'; simpa [D.eqv] using SeqAt.EqAt.tuple_int _ _ hl (by omega)
      | str => obtain ⟨t, rfl⟩ := r'; simpa [D.eqv] using SeqAt.EqAt.tuple_str _ _ hl (by omega)
      | lst k1 k2 =>
        cases r'
        obtain ⟨_, _, ht, _⟩ := I.list (SqL.of (sub _ _ k1))
        simpa [D.eqv] using SeqAt.EqAt.tuple_list hl ht.isList (by omega)
      | @tup b ys es k1 k2 =>
        cases r'
        obtain ⟨its2, rv2, hl2, _⟩ := I.tuple (Same.seqT sub k1)
        by_cases hab : a = b
        · subst hab
          have q := rep_same I sub _ _ _ _ _ (.tup h1 h2) (.tup k1 k2) p p'
          rw [q]
          exact SeqAt.EqAt.same _
        · cases m with
          | zero => simp [D.plain] at p'
          | succ m =>
            simp only [D.plain] at p p'
            have l1 := h2.length
            have l2 := k2.length
            have l3 := rv.length
            have l4 := rv2.length
            simp only [D.eqv]
            rw [← eqvs_min ds es, ← l1, ← l2, l3, l4]
            refine SeqAt.EqAt.of_refs hab ?_
            have g := SeqAt.RcAt.tuples (A := A) hl hl2 (by omega) (e := itemEq ds es) fun j j1 j2 => ?_
            · simpa using g
            · have z := eqAtDs I sub ds es xs ys its its2 n m A.in1 h2 rv k2 rv2 p p' (by show A.units + 1 + n < _; omega) j (by simpa using j1) (by simpa using j2)
              simpa using z
      | dct => cases m <;> simp [D.plain] at p'
      | ref => cases m <;> simp [D.plain] at p'
      | scr => cases m <;> simp [D.plain] at p'
  | .lst ds, e, _, _, _, _, n, m, A, h, r, h', r', p, p', hu => by
    cases h with
    | @lst a xs _ h1 h2 =>
      cases r
      obtain ⟨its, rv, hl', _⟩ := I.list (SqL.of (sub _ _ h1))
      have hl := hl'.isList
      cases n with
      | zero => simp [D.plain] at p
      | succ n =>
      cases h' with
      | non => cases r'; simpa [D.eqv] using SeqAt.EqAt.list_none hl (by omega)
      | bl => cases r'; simpa [D.eqv] using SeqAt.EqAt.list_bool _ hl (by omega)
      | int => obtain ⟨t, rfl⟩ := r'; simpa [D.eqv] using SeqAt.EqAt.list_int _ _ hl (by omega)
      | str => obtain ⟨t, rfl⟩ := r'; simpa [D.eqv] using SeqAt.EqAt.list_str _ _ hl (by omega)
      | tup k1 k2 =>
        cases r'
        obtain ⟨_, _, ht, _⟩ := I.tuple (Same.seqT sub k1)
        simpa [D.eqv] using SeqAt.EqAt.list_tuple hl ht (by omega)
      | @lst b ys es k1 k2 =>
        cases r'
        obtain ⟨its2, rv2, hl2', _⟩ := I.list (SqL.of (sub _ _ k1))
        have hl2 := hl2'.isList
        by_cases hab : a = b
        · subst hab
          have q := rep_same I sub _ _ _ _ _ (.lst h1 h2) (.lst k1 k2) p p'
          rw [q]
          exact SeqAt.EqAt.same _
        · cases m with
          | zero => simp [D.plain] at p'
          | succ m =>
            simp only [D.plain] at p p'
            have l1 := h2.length
            have l2 := k2.length
            have l3 := rv.length
            have l4 := rv2.length
            simp only [D.eqv]
            by_cases hsz : ds.length = es.length
            · rw [← eqvs_range ds es hsz, ← l1, l3]
              refine SeqAt.EqAt.of_refs hab ?_
              have g := SeqAt.RcAt.lists (A := A) hl hl2 (by simp; omega) (by omega) (e := itemEq ds es) fun j j1 j2 => ?_
              · simpa using g
              · have z := eqAtDs I sub ds es xs ys its its2 n m A.in1 h2 rv k2 rv2 p p' (by show A.units + 1 + n < _; omega) j (by simpa using j1) (by simpa using j2)
                simpa using z
            · rw [eqvs_len ds es hsz]
              exact SeqAt.EqAt.of_refs hab (SeqAt.RcAt.lists_lengths hl hl2 (by simp; omega) (by omega))
      | dct => cases m <;> simp [D.plain] at p'
      | ref => cases m <;> simp [D.plain] at p'
      | scr => cases m <;> simp [D.plain] at p'
  | .dct _, _, _, _, _, _, n, _, _, _, _, _, _, p, _, _ => by cases n <;> simp [D.plain] at p
  | .ref _, _, _, _, _, _, n, _, _, _, _, _, _, p, _, _ => by cases n <;> simp [D.plain] at p
  | .scr _, _, _, _, _, _, n, _, _, _, _, _, _, p, _, _ => by cases n <;> simp [D.plain] at p
theorem eqAtDs (I : Inv X pins σ H s) (sub : Same G H) : ∀ (ds es : List D) (xs ys : List V) (us vs : List Value) (n m : Nat) (A : Around), Reps X.K G ι xs ds → Vals xs us → Reps X.K G ι ys es → Vals ys vs → D.plains n ds = true → D.plains m es = true → A.units + n < cLine →
    ∀ (j : Nat) (h1 : j < us.length) (h2 : j < vs.length), SeqAt.EqAt A s us[j] vs[j] (itemEq ds es j)
  | [], _, _, _, _, _, _, _, _, h, r, _, _, _, _, _, j, h1, _ => by cases h; cases r; simp at h1
  | _ :: _, [], _, _, _, _, _, _, _, _, _, h', r', _, _, _, j, _, h2 => by cases h'; cases r'; simp at h2
  | d :: ds, e :: es, _, _, _, _, n, m, A, h, r, h', r', p, p', hu, j, h1, h2 => by
    simp only [D.plains, Bool.and_eq_true] at p p'
    cases h with
    | cons a1 a2 =>
    cases h' with
    | cons b1 b2 =>
    cases r with
    | cons c1 c2 =>
    cases r' with
    | cons d1 d2 =>
    cases j with
    | zero => exact eqAtD I sub d e _ _ _ _ n m A a1 c1 b1 d1 p.1 p'.1 hu
    | succ j => exact eqAtDs I sub ds es _ _ _ _ n m A a2 c2 b2 d2 p.2 p'.2 hu j (by simpa using h1) (by simpa using h2)
end
end
section
variable {X : Cx} {pins : List (Addr × Obj)} {σ : L2.St} {G H : Hp} {ι : List Addr} {s : Shared}
theorem rcAtD (I : Inv X pins σ H s) (sub : Same G H) (d e : D) (x y : V) (u v : Value) (n m : Nat) (A : Around) (h : Rep X.K G ι x d) (r : RelV x u) (h' : Rep X.K G ι y e) (r' : RelV y v) (p : D.plain n d = true) (p' : D.plain m e = true) (hu : A.units + n < cLine) : SeqAt.RcAt A s u v (D.eqv d e) := by
  cases h with
  | non =>
    cases r
    cases h' with
    | non => cases r'; simpa [D.eqv, b2i] using SeqAt.RcAt.none_none
    | bl => cases r'; simpa [D.eqv, b2i] using SeqAt.RcAt.none_bool _
    | int => obtain ⟨t, rfl⟩ := r'; simpa [D.eqv, b2i] using SeqAt.RcAt.none_int _ _
    | str => obtain ⟨t, rfl⟩ := r'; simpa [D.eqv, b2i] using SeqAt.RcAt.none_str _ _
    | tup k1 k2 =>
      cases r'
      obtain ⟨_, _, ht, _⟩ := I.tuple (Same.seqT sub k1)
      simpa [D.eqv, b2i] using SeqAt.RcAt.none_tuple ht (by omega)
    | lst k1 k2 =>
      cases r'
      obtain ⟨_, _, ht0, _⟩ := I.list (SqL.of (sub _ _ k1))
      have ht := ht0.isList
      simpa [D.eqv, b2i] using SeqAt.RcAt.none_list ht (by omega)
    | dct => cases m <;> simp [D.plain] at p'
    | ref => cases m <;> simp [D.plain] at p'
    | scr => cases m <;> simp [D.plain] at p'
  | bl =>
    cases r
    cases h' with
    | non => cases r'; simpa [D.eqv, b2i] using SeqAt.RcAt.bool_none _
    | bl => cases r'; simpa [D.eqv, b2i] using SeqAt.RcAt.bool_bool _ _
    | int => obtain ⟨t, rfl⟩ := r'; simpa [D.eqv, b2i] using SeqAt.RcAt.bool_int _ _ _
    | str => obtain ⟨t, rfl⟩ := r'; simpa [D.eqv, b2i] using SeqAt.RcAt.bool_str _ _ _
    | tup k1 k2 =>
      cases r'
      obtain ⟨_, _, ht, _⟩ := I.tuple (Same.seqT sub k1)
      simpa [D.eqv, b2i] using SeqAt.RcAt.bool_tuple _ ht (by omega)
    | lst k1 k2 =>
      cases r'
      obtain ⟨_, _, ht0, _⟩ := I.list (SqL.of (sub _ _ k1))
      have ht := ht0.isList
      simpa [D.eqv, b2i] using SeqAt.RcAt.bool_list _ ht (by omega)
    | dct => cases m <;> simp [D.plain] at p'
    | ref => cases m <;> simp [D.plain] at p'
    | scr => cases m <;> simp [D.plain] at p'
  | int =>
    obtain ⟨t0, rfl⟩ := r
    cases h' with
    | non => cases r'; simpa [D.eqv, b2i] using SeqAt.RcAt.int_none _ _
    | bl => cases r'; simpa [D.eqv, b2i] using SeqAt.RcAt.int_bool _ _ _
    | int => obtain ⟨t, rfl⟩ := r'; simpa [D.eqv, b2i] using SeqAt.RcAt.int_int _ _ _ _
    | str => obtain ⟨t, rfl⟩ := r'; simpa [D.eqv, b2i] using SeqAt.RcAt.int_str _ _ _ _
    | tup k1 k2 =>
      cases r'
      obtain ⟨_, _, ht, _⟩ := I.tuple (Same.seqT sub k1)
      simpa [D.eqv, b2i] using SeqAt.RcAt.int_tuple _ _ ht (by omega)
    | lst k1 k2 =>
      cases r'
      obtain ⟨_, _, ht0, _⟩ := I.list (SqL.of (sub _ _ k1))
      have ht := ht0.isList
      simpa [D.eqv, b2i] using SeqAt.RcAt.int_list _ _ ht (by omega)
    | dct => cases m <;> simp [D.plain] at p'
    | ref => cases m <;> simp [D.plain] at p'
    | scr => cases m <;> simp [D.plain] at p'
  | str =>
    obtain ⟨t0, rfl⟩ := r
    cases h' with
    | non => cases r'; simpa [D.eqv, b2i] using SeqAt.RcAt.str_none _ _
    | bl => cases r'; simpa [D.eqv, b2i] using SeqAt.RcAt.str_bool _ _ _
    | int => obtain ⟨t, rfl⟩ := r'; simpa [D.eqv, b2i] using SeqAt.RcAt.str_int _ _ _ _
    | str => obtain ⟨t, rfl⟩ := r'; simpa [D.eqv, b2i] using SeqAt.RcAt.str_str _ _ _ _
    | tup k1 k2 =>
      cases r'
      obtain ⟨_, _, ht, _⟩ := I.tuple (Same.seqT sub k1)
      simpa [D.eqv, b2i] using SeqAt.RcAt.str_tuple _ _ ht (by omega)
    | lst k1 k2 =>
      cases r'
      obtain ⟨_, _, ht0, _⟩ := I.list (SqL.of (sub _ _ k1))
      have ht := ht0.isList
      simpa [D.eqv, b2i] using SeqAt.RcAt.str_list _ _ ht (by omega)
    | dct => cases m <;> simp [D.plain] at p'
    | ref => cases m <;> simp [D.plain] at p'
    | scr => cases m <;> simp [D.plain] at p'
  | @tup a xs ds h1 h2 =>
    cases r
    obtain ⟨its, rv, hl, _⟩ := I.tuple (Same.seqT sub h1)
    cases n with
    | zero => simp [D.plain] at p
    | succ n =>
    cases h' with
    | non => cases r'; simpa [D.eqv, b2i] using SeqAt.RcAt.tuple_none hl (by omega)
    | bl => cases r'; simpa [D.eqv, b2i] using SeqAt.RcAt.tuple_bool _ hl (by omega)
    | int => obtain ⟨t, rfl⟩ := r'; simpa [D.eqv, b2i] using SeqAt.RcAt.tuple_int _ _ hl (by omega)
    | str => obtain ⟨t, rfl⟩ := r'; simpa [D.eqv, b2i] using SeqAt.RcAt.tuple_str _ _ hl (by omega)
    | lst k1 k2 =>
      cases r'
      obtain ⟨_, _, ht0, _⟩ := I.list (SqL.of (sub _ _ k1))
      have ht := ht0.isList
      simpa [D.eqv, b2i] using SeqAt.RcAt.tuple_list hl ht (by omega)
    | @tup b ys es k1 k2 =>
      cases r'
      obtain ⟨its2, rv2, hl2, _⟩ := I.tuple (Same.seqT sub k1)
      cases m with
      | zero => simp [D.plain] at p'
      | succ m =>
        simp only [D.plain] at p p'
        have l1 := h2.length
        have l2 := k2.length
        have l3 := rv.length
        have l4 := rv2.length
        have it : ∀ j (h1 : j < its.toArray.size) (h2 : j < its2.toArray.size), SeqAt.EqAt A.in1 s its.toArray[j] its2.toArray[j] (itemEq ds es j) := fun j j1 j2 => by
          have z := eqAtDs I sub ds es xs ys its its2 n m A.in1 h2 rv k2 rv2 p p' (by show A.units + 1 + n < _; omega) j (by simpa using j1) (by simpa using j2)
          simpa using z
        simp only [D.eqv]
        rw [← eqvs_min ds es, ← l1, ← l2, l3, l4]
        simpa using SeqAt.RcAt.tuples (A := A) hl hl2 (by omega) it
    | dct => cases m <;> simp [D.plain] at p'
    | ref => cases m <;> simp [D.plain] at p'
    | scr => cases m <;> simp [D.plain] at p'
  | @lst a xs ds h1 h2 =>
    cases r
    obtain ⟨its, rv, hl', _⟩ := I.list (SqL.of (sub _ _ h1))
    have hl := hl'.isList
    cases n with
    | zero => simp [D.plain] at p
    | succ n =>
    cases h' with
    | non => cases r'; simpa [D.eqv, b2i] using SeqAt.RcAt.list_none hl (by omega)
    | bl => cases r'; simpa [D.eqv, b2i] using SeqAt.RcAt.list_bool _ hl (by omega)
    | int => obtain ⟨t, rfl⟩ := r'; simpa [D.eqv, b2i] using SeqAt.RcAt.list_int _ _ hl (by omega)
    | str => obtain ⟨t, rfl⟩ := r'; simpa [D.eqv, b2i] using SeqAt.RcAt.list_str _ _ hl (by omega)
    | tup k1 k2 =>
      cases r'
      obtain ⟨_, _, ht, _⟩ := I.tuple (Same.seqT sub k1)
      simpa [D.eqv, b2i] using SeqAt.RcAt.list_tuple hl ht (by omega)
    | @lst b ys es k1 k2 =>
      cases r'
      obtain ⟨its2, rv2, hl2', _⟩ := I.list (SqL.of (sub _ _ k1))
      have hl2 := hl2'.isList
      cases m with
      | zero => simp [D.plain] at p'
      | succ m =>
        simp only [D.plain] at p p'
        have l1 := h2.length
        have l2 := k2.length
        have l3 := rv.length
        have l4 := rv2.length
        have it : ∀ j (h1 : j < its.toArray.size) (h2 : j < its2.toArray.size), SeqAt.EqAt A.in1 s its.toArray[j] its2.toArray[j] (itemEq ds es j) := fun j j1 j2 => by
          have z := eqAtDs I sub ds es xs ys its its2 n m A.in1 h2 rv k2 rv2 p p' (by show A.units + 1 + n < _; omega) j (by simpa using j1) (by simpa using j2)
          simpa using z
        simp only [D.eqv]
        by_cases hsz : ds.length = es.length
        · rw [← eqvs_range ds es hsz, ← l1, l3]
          simpa using SeqAt.RcAt.lists (A := A) hl hl2 (by simp; omega) (by omega) it
        · rw [eqvs_len ds es hsz]
          simpa using SeqAt.RcAt.lists_lengths (A := A) hl hl2 (by simp; omega) (by omega)
    | dct => cases m <;> simp [D.plain] at p'
    | ref => cases m <;> simp [D.plain] at p'
    | scr => cases m <;> simp [D.plain] at p'
  | dct => cases n <;> simp [D.plain] at p
  | ref => cases n <;> simp [D.plain] at p
  | scr => cases n <;> simp [D.plain] at p
theorem rcNeAtD (I : Inv X pins σ H s) (sub : Same G H) (d e : D) (x y : V) (u v : Value) (n m : Nat) (A : Around) (h : Rep X.K G ι x d) (r : RelV x u) (h' : Rep X.K G ι y e) (r' : RelV y v) (p : D.plain n d = true) (p' : D.plain m e = true) (hu : A.units + n < cLine) : SeqAt.RcNeAt A s u v (!D.eqv d e) := by
  cases h with
  | non =>
    cases r
    cases h' with
    | non => cases r'; simpa [D.eqv, b2i] using SeqAt.RcNeAt.none_none
    | bl => cases r'; simpa [D.eqv, b2i] using SeqAt.RcNeAt.none_bool _
    | int => obtain ⟨t, rfl⟩ := r'; simpa [D.eqv, b2i] using SeqAt.RcNeAt.none_int _ _
    | str => obtain ⟨t, rfl⟩ := r'; simpa [D.eqv, b2i] using SeqAt.RcNeAt.none_str _ _
    | tup k1 k2 =>
      cases r'
      obtain ⟨_, _, ht, _⟩ := I.tuple (Same.seqT sub k1)
      simpa [D.eqv, b2i] using SeqAt.RcNeAt.none_tuple ht (by omega)
    | lst k1 k2 =>
      cases r'
      obtain ⟨_, _, ht0, _⟩ := I.list (SqL.of (sub _ _ k1))
      have ht := ht0.isList
      simpa [D.eqv, b2i] using SeqAt.RcNeAt.none_list ht (by omega)
    | dct => cases m <;> simp [D.plain] at p'
    | ref => cases m <;> simp [D.plain] at p'
    | scr => cases m <;> simp [D.plain] at p'
  | bl =>
    cases r
    cases h' with
    | non => cases r'; simpa [D.eqv, b2i] using SeqAt.RcNeAt.bool_none _
    | bl => cases r'; simpa [D.eqv, b2i] using SeqAt.RcNeAt.bool_bool _ _
    | int => obtain ⟨t, rfl⟩ := r'; simpa [D.eqv, b2i] using SeqAt.RcNeAt.bool_int _ _ _
    | str => obtain ⟨t, rfl⟩ := r'; simpa [D.eqv, b2i] using SeqAt.RcNeAt.bool_str _ _ _
    | tup k1 k2 =>
      cases r'
      obtain ⟨_, _, ht, _⟩ := I.tuple (Same.seqT sub k1)
      simpa [D.eqv, b2i] using SeqAt.RcNeAt.bool_tuple _ ht (by omega)
    | lst k1 k2 =>
      cases r'
      obtain ⟨_, _, ht0, _⟩ := I.list (SqL.of (sub _ _ k1))
      have ht := ht0.isList
      simpa [D.eqv, b2i] using SeqAt.RcNeAt.bool_list _ ht (by omega)
    | dct => cases m <;> simp [D.plain] at p'
    | ref => cases m <;> simp [D.plain] at p'
    | scr => cases m <;> simp [D.plain] at p'
  | int =>
    obtain ⟨t0, rfl⟩ := r
    cases h' with
    | non => cases r'; simpa [D.eqv, b2i] using SeqAt.RcNeAt.int_none _ _
    | bl => cases r'; simpa [D.eqv, b2i] using SeqAt.RcNeAt.int_bool _ _ _
    | int => obtain ⟨t, rfl⟩ := r'; simpa [D.eqv, b2i] using SeqAt.RcNeAt.int_int _ _ _ _
    | str => obtain ⟨t, rfl⟩ := r'; simpa [D.eqv, b2i] using SeqAt.RcNeAt.int_str _ _ _ _
    | tup k1 k2 =>
      cases r'
      obtain ⟨_, _, ht, _⟩ := I.tuple (Same.seqT sub k1)
      simpa [D.eqv, b2i] using SeqAt.RcNeAt.int_tuple _ _ ht (by omega)
    | lst k1 k2 =>
      cases r'
      obtain ⟨_, _, ht0, _⟩ := I.list (SqL.of (sub _ _ k1))
      have ht := ht0.isList
      simpa [D.eqv, b2i] using SeqAt.RcNeAt.int_list _ _ ht (by omega)
    | dct => cases m <;> simp [D.plain] at p'
    | ref => cases m <;> simp [D.plain] at p'
    | scr => cases m <;> simp [D.plain] at p'
  | str =>
    obtain ⟨t0, rfl⟩ := r
    cases h' with
    | non => cases r'; simpa [D.eqv, b2i] using SeqAt.RcNeAt.str_none _ _
    | bl => cases r'; simpa [D.eqv, b2i] using SeqAt.RcNeAt.str_bool _ _ _
    | int => obtain ⟨t, rfl⟩ := r'; simpa [D.eqv, b2i] using SeqAt.RcNeAt.str_int _ _ _ _
    | str => obtain ⟨t, rfl⟩ := r'; simpa [D.eqv, b2i] using SeqAt.RcNeAt.str_str _ _ _ _
    | tup k1 k2 =>
      cases r'
      obtain ⟨_, _, ht, _⟩ := I.tuple (Same.seqT sub k1)
      simpa [D.eqv, b2i] using SeqAt.RcNeAt.str_tuple _ _ ht (by omega)
    | lst k1 k2 =>
      cases r'
      obtain ⟨_, _, ht0, _⟩ := I.list (SqL.of (sub _ _ k1))
      have ht := ht0.isList
      simpa [D.eqv, b2i] using SeqAt.RcNeAt.str_list _ _ ht (by omega)
    | dct => cases m <;> simp [D.plain] at p'
    | ref => cases m <;> simp [D.plain] at p'
    | scr => cases m <;> simp [D.plain] at p'
  | @tup a xs ds h1 h2 =>
    cases r
    obtain ⟨its, rv, hl, _⟩ := I.tuple (Same.seqT sub h1)
    cases n with
    | zero => simp [D.plain] at p
    | succ n =>
    cases h' with
    | non => cases r'; simpa [D.eqv, b2i] using SeqAt.RcNeAt.tuple_none hl (by omega)
    | bl => cases r'; simpa [D.eqv, b2i] using SeqAt.RcNeAt.tuple_bool _ hl (by omega)
    | int => obtain ⟨t, rfl⟩ := r'; simpa [D.eqv, b2i] using SeqAt.RcNeAt.tuple_int _ _ hl (by omega)
    | str => obtain ⟨t, rfl⟩ := r'; simpa [D.eqv, b2i] using SeqAt.RcNeAt.tuple_str _ _ hl (by omega)
    | lst k1 k2 =>
      cases r'
      obtain ⟨_, _, ht0, _⟩ := I.list (SqL.of (sub _ _ k1))
      have ht := ht0.isList
      simpa [D.eqv, b2i] using SeqAt.RcNeAt.tuple_list hl ht (by omega)
    | @tup b ys es k1 k2 =>
      cases r'
      obtain ⟨its2, rv2, hl2, _⟩ := I.tuple (Same.seqT sub k1)
      cases m with
      | zero => simp [D.plain] at p'
      | succ m =>
        simp only [D.plain] at p p'
        have l1 := h2.length
        have l2 := k2.length
        have l3 := rv.length
        have l4 := rv2.length
        have it : ∀ j (h1 : j < its.toArray.size) (h2 : j < its2.toArray.size), SeqAt.EqAt A.in1 s its.toArray[j] its2.toArray[j] (itemEq ds es j) := fun j j1 j2 => by
          have z := eqAtDs I sub ds es xs ys its its2 n m A.in1 h2 rv k2 rv2 p p' (by show A.units + 1 + n < _; omega) j (by simpa using j1) (by simpa using j2)
          simpa using z
        simp only [D.eqv]
        rw [← eqvs_min ds es, ← l1, ← l2, l3, l4]
        simpa using SeqAt.RcNeAt.tuples (A := A) hl hl2 (by omega) it
    | dct => cases m <;> simp [D.plain] at p'
    | ref => cases m <;> simp [D.plain] at p'
    | scr => cases m <;> simp [D.plain] at p'
  | @lst a xs ds h1 h2 =>
    cases r
    obtain ⟨its, rv, hl', _⟩ := I.list (SqL.of (sub _ _ h1))
    have hl := hl'.isList
    cases n with
    | zero => simp [D.plain] at p
    | succ n =>
    cases h' with
    | non => cases r'; simpa [D.eqv, b2i] using SeqAt.RcNeAt.list_none hl (by omega)
    | bl => cases r'; simpa [D.eqv, b2i] using SeqAt.RcNeAt.list_bool _ hl (by omega)
    | int => obtain ⟨t, rfl⟩ := r'; simpa [D.eqv, b2i] using SeqAt.RcNeAt.list_int _ _ hl (by omega)
    | str => obtain ⟨t, rfl⟩ := r'; simpa [D.eqv, b2i] using SeqAt.RcNeAt.list_str _ _ hl (by omega)
    | tup k1 k2 =>
      cases r'
      obtain ⟨_, _, ht, _⟩ := I.tuple (Same.seqT sub k1)
      simpa [D.eqv, b2i] using SeqAt.RcNeAt.list_tuple hl ht (by omega)
    | @lst b ys es k1 k2 =>
      cases r'
      obtain ⟨its2, rv2, hl2', _⟩ := I.list (SqL.of (sub _ _ k1))
      have hl2 := hl2'.isList
      cases m with
      | zero => simp [D.plain] at p'
      | succ m =>
        simp only [D.plain] at p p'
        have l1 := h2.length
        have l2 := k2.length
        have l3 := rv.length
        have l4 := rv2.length
        have it : ∀ j (h1 : j < its.toArray.size) (h2 : j < its2.toArray.size), SeqAt.EqAt A.in1 s its.toArray[j] its2.toArray[j] (itemEq ds es j) := fun j j1 j2 => by
          have z := eqAtDs I sub ds es xs ys its its2 n m A.in1 h2 rv k2 rv2 p p' (by show A.units + 1 + n < _; omega) j (by simpa using j1) (by simpa using j2)
          simpa using z
        simp only [D.eqv]
        by_cases hsz : ds.length = es.length
        · rw [← eqvs_range ds es hsz, ← l1, l3]
          simpa using SeqAt.RcNeAt.lists (A := A) hl hl2 (by simp; omega) (by omega) it
        · rw [eqvs_len ds es hsz]
          simpa using SeqAt.RcNeAt.lists_lengths (A := A) hl hl2 (by simp; omega) (by omega)
    | dct => cases m <;> simp [D.plain] at p'
    | ref => cases m <;> simp [D.plain] at p'
    | scr => cases m <;> simp [D.plain] at p'
  | dct => cases n <;> simp [D.plain] at p
  | ref => cases n <;> simp [D.plain] at p
  | scr => cases n <;> simp [D.plain] at p
end
end Ev

-- EvY
set_option autoImplicit true
set_option Elab.async false
set_option linter.all false
set_option maxRecDepth 100000
set_option maxHeartbeats 4000000
set_option autoImplicit false
/-! EvY: comparisons, subscripts, slices, built-ins over the evaluator's data. -/
namespace Ev
open PySem PySem.Spec PyProof.Rows L2

/-! ### dicts -/
section
variable {K : PySem.W.Frag} {G : Hp} {ι : List Addr}
theorem keyD_dec (a b : Key) : decide (keyD a = keyD b) = decide (a = b) := by
  by_cases h : a = b
  · subst h; simp
  · rw [decide_eq_false h, decide_eq_false fun e => h (keyD_inj e)]
theorem RepKV.get (k : Key) : ∀ {vs : List (Key × V)} {ds : List (D × D)}, RepKV K G ι vs ds → (valV vs k = none ∧ dget ds (keyD k) = none) ∨ ∃ v d, valV vs k = some v ∧ dget ds (keyD k) = some d ∧ Rep K G ι v d
  | _, [], h => by cases h; exact .inl ⟨rfl, rfl⟩
  | _, (_, d) :: ds, h => by
    cases h with
    | @cons k' v vs _ _ h1 h2 =>
      by_cases e : k' = k
      · subst e
        exact .inr ⟨v, d, by simp [valV], by simp [dget], h1⟩
      · have e' : ¬ keyD k' = keyD k := fun z => e (keyD_inj z)
        have q := RepKV.get k h2
        rw [valV_neg (p := (k', v)) e]
        have : dget ((keyD k', d) :: ds) (keyD k) = dget ds (keyD k) := by simp [dget, List.find?_cons, e']
        rw [this]
        exact q
theorem RepKV.has (k : Key) : ∀ {vs : List (Key × V)} {ds : List (D × D)}, RepKV K G ι vs ds → (vs.any fun kv => decide (kv.1 = k)) = dhas ds (keyD k)
  | _, [], h => by cases h; rfl
  | _, (_, d) :: ds, h => by
    cases h with
    | cons h1 h2 =>
      have q := RepKV.has k h2
      simp only [dhas, List.any_cons, keyD_dec] at q ⊢
      rw [q]
theorem RepKV.app {vs ws : List (Key × V)} : ∀ {ds es : List (D × D)}, RepKV K G ι vs ds → RepKV K G ι ws es → RepKV K G ι (vs ++ ws) (ds ++ es) := by
  induction vs with
  | nil => intro ds es h k; cases h; exact k
  | cons v vs ih =>
    intro ds es h k
    cases h with
    | cons h1 h2 => exact .cons h1 (ih h2 k)
theorem RepKV.upd (k : Key) {v : V} {d : D} (r : Rep K G ι v d) : ∀ {vs : List (Key × V)} {ds : List (D × D)}, RepKV K G ι vs ds →
    RepKV K G ι (vs.map fun kv => if kv.1 = k then (kv.1, v) else kv) (ds.map fun p => if p.1 = keyD k then (p.1, d) else p)
  | _, [], h => by cases h; exact .nil
  | _, (_, e) :: ds, h => by
    cases h with
    | @cons k' v' vs _ _ h1 h2 =>
      have q := RepKV.upd k r h2
      simp only [List.map_cons]
      by_cases e : k' = k
      · subst e
        simp only [if_true]
        exact .cons r q
      · rw [if_neg e, if_neg fun z => e (keyD_inj z)]
        exact .cons h1 q
theorem RepKV.put (k : Key) {v : V} {d : D} (r : Rep K G ι v d) {vs : List (Key × V)} {ds : List (D × D)} (h : RepKV K G ι vs ds) : RepKV K G ι (putK vs k v) (dput ds (keyD k) d) := by
  unfold putK dput
  rw [h.has k]
  split
  · exact h.upd k r
  · exact h.app (.cons r .nil)
theorem dhas_get (ds : List (D × D)) (k : D) : dhas ds k = (dget ds k).isSome := by
  induction ds with
  | nil => rfl
  | cons p ds ih =>
    unfold dhas dget at *
    by_cases e : p.1 = k
    · simp [List.find?_cons, e]
    · simp [List.find?_cons, e]
      simpa using ih
theorem dput_length (ds : List (D × D)) (k v : D) : (dput ds k v).length ≤ ds.length + 1 := by
  unfold dput
  split <;> simp
end

/-! ### comparisons -/
/-- a comparison of two values -/
def rC (K : PySem.W.Frag) (o : CO) : R2 := fun x y H Q => ∃ F G ι ρ σ st a b k, Ok K F G ι H ρ σ st ∧ Rep K G ι x a ∧ Rep K G ι y b ∧ cmpD o a b = some k ∧ Q (.bl k) H
/-- .. of a value and a root -/
def rCR (K : PySem.W.Frag) (o : CO) : R2 := fun x y H Q => ∃ F G ι ρ σ st a b k, Ok K F G ι H ρ σ st ∧ Rep K G ι x a ∧ Root K G ι H y b ∧ cmpD o a b = some k ∧ Q (.bl k) H
def coOf : CmpOp → CO
  | .Eq => .eq
  | .NotEq => .ne
  | .Lt => .lt
  | .LtE => .le
  | .Gt => .gt
  | .GtE => .ge
  | .Is => .is
  | .IsNot => .isn
  | .In => .inn
  | .NotIn => .notin
theorem not_map {o : Option Bool} {k : Bool} (h : o.map (!·) = some k) : o = some (!k) := by
  cases o with
  | none => simp at h
  | some b => simp at h; subst h; simp
section
variable {X : Cx}
theorem rC_eq (hu : X.A.units + 64 < cLine) : OpR X (compareOp .Eq) (rC X.K .eq) := by
  rintro pins s σ H x y v u Q I rx ry ⟨F, G, ι, ρ, σ', st, a, b, k, ok, ra, rb, e, q⟩
  simp only [cmpD, eqD] at e
  split at e
  · rename_i h
    simp only [Bool.and_eq_true] at h
    cases e
    exact rcAtD I ok.sub a b x y v u _ _ X.A ra rx rb ry h.1 h.2 (by show X.A.units + 60 < _; omega) X.prog X.w X.xe _ ⟨.bl _, H, I, rfl, q⟩
  · cases e
theorem rC_ne (hu : X.A.units + 64 < cLine) : OpR X (compareOp .NotEq) (rC X.K .ne) := by
  rintro pins s σ H x y v u Q I rx ry ⟨F, G, ι, ρ, σ', st, a, b, k, ok, ra, rb, e, q⟩
  have e' := not_map (show (eqD a b).map (!·) = some k from e)
  simp only [eqD] at e'
  split at e'
  · rename_i h
    simp only [Bool.and_eq_true] at h
    have ek : k = !D.eqv a b := by
      have := Option.some.inj e'
      rw [this]; simp
    subst ek
    exact rcNeAtD I ok.sub a b x y v u _ _ X.A ra rx rb ry h.1 h.2 (by show X.A.units + 60 < _; omega) X.prog X.w X.xe _ ⟨.bl _, H, I, rfl, q⟩
  · cases e'
theorem rC_int {op : CmpOp} {o : CO} {g : Int → Int → Bool} (hop : OpR X (compareOp op) (rI0 fun i j => .bl (g i j)))
    (h : ∀ a b k, cmpD o a b = some k → ∃ i j, a = .int i ∧ b = .int j ∧ k = g i j) : OpR X (compareOp op) (rC X.K o) := by
  rintro pins s σ H x y v u Q I rx ry ⟨F, G, ι, ρ, σ', st, a, b, k, ok, ra, rb, e, q⟩
  obtain ⟨i, j, rfl, rfl, rfl⟩ := h a b k e
  cases ra; cases rb
  exact hop pins s σ H _ _ v u Q I rx ry ⟨_, _, rfl, rfl, q⟩
theorem rC_lt : OpR X (compareOp .Lt) (rC X.K .lt) := rC_int op_lt fun a b k e => by
  cases a <;> cases b <;> simp only [cmpD, reduceCtorEq, Option.some.injEq] at e
  subst e; exact ⟨_, _, rfl, rfl, rfl⟩
theorem rC_le : OpR X (compareOp .LtE) (rC X.K .le) := rC_int op_le fun a b k e => by
  cases a <;> cases b <;> simp only [cmpD, reduceCtorEq, Option.some.injEq] at e
  subst e; exact ⟨_, _, rfl, rfl, rfl⟩
theorem rC_gt : OpR X (compareOp .Gt) (rC X.K .gt) := rC_int op_gt fun a b k e => by
  cases a <;> cases b <;> simp only [cmpD, reduceCtorEq, Option.some.injEq] at e
  subst e; exact ⟨_, _, rfl, rfl, rfl⟩
theorem rC_ge : OpR X (compareOp .GtE) (rC X.K .ge) := rC_int op_ge fun a b k e => by
  cases a <;> cases b <;> simp only [cmpD, reduceCtorEq, Option.some.injEq] at e
  subst e; exact ⟨_, _, rfl, rfl, rfl⟩
theorem rep_non {K : PySem.W.Frag} {G : Hp} {ι : List Addr} {x : V} {a : D} (r : Rep K G ι x a) : decide (x = .non) = decide (a = .non) := by
  cases r <;> simp
theorem rC_is : OpR X (compareOp .Is) (rC X.K .is) := by
  rintro pins s σ H x y v u Q I rx ry ⟨F, G, ι, ρ, σ', st, a, b, k, ok, ra, rb, e, q⟩
  cases b <;> simp only [cmpD, isD, reduceCtorEq] at e
  · cases rb
    cases e
    exact op_isN pins s σ H _ _ v u Q I rx ry ⟨rfl, by rw [rep_non ra]; exact q⟩
  · cases a <;> simp only [reduceCtorEq, Option.some.injEq] at e
    subst e
    cases ra; cases rb
    exact op_isBl pins s σ H _ _ v u Q I rx ry ⟨_, _, rfl, rfl, q⟩
theorem rC_isn : OpR X (compareOp .IsNot) (rC X.K .isn) := by
  rintro pins s σ H x y v u Q I rx ry ⟨F, G, ι, ρ, σ', st, a, b, k, ok, ra, rb, e, q⟩
  have e' := not_map (show (isD a b).map (!·) = some k from e)
  cases b <;> simp only [isD, reduceCtorEq] at e'
  · cases rb
    have ek : k = !decide (a = .non) := by
      have := Option.some.inj e'
      rw [this]; simp
    subst ek
    exact op_notN pins s σ H _ _ v u Q I rx ry ⟨rfl, by rw [rep_non ra]; exact q⟩
  · rename_i yb
    cases a <;> simp only [reduceCtorEq, Option.some.injEq] at e'
    rename_i xb
    have ek : k = !decide (xb = yb) := by rw [e']; simp
    subst ek
    cases ra; cases rb
    exact op_notBl pins s σ H _ _ v u Q I rx ry ⟨_, _, rfl, rfl, q⟩

/-! ### in -/
theorem strIn_one {i j : Str} {k : Bool} (h : strIn i j = some k) : ∃ c, i = ⟨#[c]⟩ ∧ k = decide (c ∈ j.cps.toList) := by
  unfold strIn at h
  split at h
  · rename_i c hc
    refine ⟨c, ?_, (Option.some.inj h).symm⟩
    obtain ⟨ic⟩ := i
    simp only at hc
    have : ic = #[c] := Array.toList_inj.mp hc
    rw [this]
  · cases h
/-- an answer for each item's value -/
theorem eq_fun {A : Around} {pins : List (Addr × Obj)} {σ : L2.St} {G H : Hp} {ι : List Addr} {s : Shared} (I : Inv X pins σ H s) (sub : Same G H) {d : D} {x : V} {u : Value} (hd : Rep X.K G ι x d) (r : RelV x u) (pd : D.plain deep d = true) (hu : A.units + deep < cLine)
    (ds : List D) (ys : List V) (us : List Value) (h : Reps X.K G ι ys ds) (rv : Vals ys us) (p : D.plains deep ds = true) : ∃ f : Value → Bool, us.any f = anyEqv ds d ∧ ∀ w, w ∈ us → SeqAt.EqAt A s w u (f w) := by
  classical
  let P : Value → D → Prop := fun w e => ∃ y, Rep X.K G ι y e ∧ RelV y w ∧ D.plain deep e = true
  have one : ∀ w e e', P w e → P w e' → e = e' := by
    rintro w e e' ⟨y, a1, r1, p1⟩ ⟨y', a2, r2, p2⟩
    have ey := r1.inj r2
    subst ey
    exact rep_inj I sub e e' y deep deep a1 a2 p1 p2
  let g : Value → Bool := fun w => if h : ∃ e, P w e then D.eqv h.choose d else false
  have gv : ∀ w e, P w e → g w = D.eqv e d := fun w e he => by
    have hx : ∃ e, P w e := ⟨e, he⟩
    show (if h : ∃ e, P w e then D.eqv h.choose d else false) = _
    rw [dif_pos hx, one w _ _ hx.choose_spec he]
  refine ⟨g, ?_, ?_⟩
  · revert h rv p
    induction ds generalizing ys us with
    | nil => intro h rv _; cases h; cases rv; rfl
    | cons e ds ih =>
      intro h rv p
      simp only [D.plains, Bool.and_eq_true] at p
      cases h with
      | cons a1 a2 =>
        cases rv with
        | cons c1 c2 =>
          have q := ih _ _ a2 c2 p.2
          simp only [List.any_cons, anyEqv] at q ⊢
          rw [q, gv _ e ⟨_, a1, c1, p.1⟩]
  · revert h rv p
    induction ds generalizing ys us with
    | nil => intro h rv _ w hw; cases h; cases rv; simp at hw
    | cons e ds ih =>
      intro h rv p w hw
      simp only [D.plains, Bool.and_eq_true] at p
      cases h with
      | cons a1 a2 =>
        cases rv with
        | cons c1 c2 =>
          rcases List.mem_cons.mp hw with rfl | hw
          · rw [gv _ e ⟨_, a1, c1, p.1⟩]
            exact eqAtD I sub e d _ x _ u deep deep A a1 c1 hd r p.1 pd hu
          · exact ih _ _ a2 c2 p.2 w hw
theorem rCR_in (hu : X.A.units + 64 < cLine) : OpR X (compareOp .In) (rCR X.K .inn) := by
  rintro pins s σ H x y v u Q I rx ry ⟨F, G, ι, ρ, σ', st, a, b, k, ok, ra, rb, e, q⟩
  have hu1 : X.A.in1.units + deep < cLine := by show X.A.units + 1 + 60 < _; omega
  cases b with
  | tup ds =>
    simp only [cmpD, inD] at e
    split at e
    · rename_i hp
      simp only [Bool.and_eq_true] at hp
      cases e
      obtain ⟨p, xs, rfl, h1, h2⟩ := rb
      cases ry
      obtain ⟨its, rv, ht, _⟩ := I.tuple h1
      obtain ⟨f, ef, hf⟩ := eq_fun (A := X.A.in1) I ok.sub ra rx hp.1 hu1 ds xs its h2 rv hp.2
      refine SeqAt.in_tupleAt f ht (fun w hw => hf w (by simpa using hw)) ⟨.bl _, H, I, rfl, ?_⟩
      have : its.toArray.any f = anyEqv ds a := by rw [← ef]; simp
      rw [this]; exact q
    · cases e
  | lst ds =>
    simp only [cmpD, inD] at e
    split at e
    · rename_i hp
      simp only [Bool.and_eq_true] at hp
      cases e
      obtain ⟨p, xs, rfl, h1, h2⟩ := rb
      cases ry
      obtain ⟨its, rv, ht, _⟩ := I.list (SqL.of h1)
      obtain ⟨f, ef, hf⟩ := eq_fun (A := X.A.in1) I ok.sub ra rx hp.1 hu1 ds xs its h2 rv hp.2
      refine SeqAt.in_listAt f ht.isList (fun w hw => hf w (by simpa using hw)) ⟨.bl _, H, I, rfl, ?_⟩
      have : its.toArray.any f = anyEqv ds a := by rw [← ef]; simp
      rw [this]; exact q
    · cases e
  | str z =>
    cases a <;> simp only [cmpD, inD, reduceCtorEq] at e
    obtain ⟨c, rfl, rfl⟩ := strIn_one e
    cases ra
    have rb' : Rep X.K G ι y (.str z) := rb
    cases rb'
    exact op_in_sign pins s σ H _ _ v u Q I rx ry ⟨c, z, rfl, rfl, q⟩
  | dct kds =>
    simp only [cmpD, inD] at e
    split at e
    · rename_i hk
      cases e
      obtain ⟨kk, rfl⟩ := keyOk1_key hk
      obtain ⟨p, kvs, rfl, h1, h2⟩ := rb
      cases ry
      have ex := ra.key
      subst ex
      refine d_in (by omega) I (DGet.k (k := kk) h1) rx fun s' I' => ⟨.bl _, H, I', rfl, ?_⟩
      rw [← valV_any, h2.has kk]
      exact q
    · cases e
  | non => simp [cmpD, inD] at e
  | bl _ => simp [cmpD, inD] at e
  | int _ => simp [cmpD, inD] at e
  | ref _ => simp [cmpD, inD] at e
  | scr _ => simp [cmpD, inD] at e
theorem rCR_notin (hu : X.A.units + 64 < cLine) : OpR X (compareOp .NotIn) (rCR X.K .notin) := by
  rintro pins s σ H x y v u Q I rx ry ⟨F, G, ι, ρ, σ', st, a, b, k, ok, ra, rb, e, q⟩
  have hu1 : X.A.in1.units + deep < cLine := by show X.A.units + 1 + 60 < _; omega
  have e' := not_map (show (inD a b).map (!·) = some k from e)
  cases b with
  | tup ds =>
    simp only [inD] at e'
    split at e'
    · rename_i hp
      simp only [Bool.and_eq_true] at hp
      have ek : k = !anyEqv ds a := by rw [Option.some.inj e']; simp
      subst ek
      obtain ⟨p, xs, rfl, h1, h2⟩ := rb
      cases ry
      obtain ⟨its, rv, ht, _⟩ := I.tuple h1
      obtain ⟨f, ef, hf⟩ := eq_fun (A := X.A.in1) I ok.sub ra rx hp.1 hu1 ds xs its h2 rv hp.2
      refine SeqAt.notIn_tupleAt f ht (fun w hw => hf w (by simpa using hw)) ⟨.bl _, H, I, rfl, ?_⟩
      have : its.toArray.any f = anyEqv ds a := by rw [← ef]; simp
      rw [this]; exact q
    · cases e'
  | lst ds =>
    simp only [inD] at e'
    split at e'
    · rename_i hp
      simp only [Bool.and_eq_true] at hp
      have ek : k = !anyEqv ds a := by rw [Option.some.inj e']; simp
      subst ek
      obtain ⟨p, xs, rfl, h1, h2⟩ := rb
      cases ry
      obtain ⟨its, rv, ht, _⟩ := I.list (SqL.of h1)
      obtain ⟨f, ef, hf⟩ := eq_fun (A := X.A.in1) I ok.sub ra rx hp.1 hu1 ds xs its h2 rv hp.2
      refine SeqAt.notIn_listAt f ht.isList (fun w hw => hf w (by simpa using hw)) ⟨.bl _, H, I, rfl, ?_⟩
      have : its.toArray.any f = anyEqv ds a := by rw [← ef]; simp
      rw [this]; exact q
    · cases e'
  | str z =>
    cases a <;> simp only [inD, reduceCtorEq] at e'
    obtain ⟨c, rfl, ek⟩ := strIn_one e'
    have ek : k = !decide (c ∈ z.cps.toList) := by rw [← ek]; simp
    subst ek
    cases ra
    have rb' : Rep X.K G ι y (.str z) := rb
    cases rb'
    exact op_notIn_sign pins s σ H _ _ v u Q I rx ry ⟨c, z, rfl, rfl, q⟩
  | dct kds =>
    simp only [inD] at e'
    split at e'
    · rename_i hk
      have ek : k = !dhas kds a := by rw [Option.some.inj e']; simp
      subst ek
      obtain ⟨kk, rfl⟩ := keyOk1_key hk
      obtain ⟨p, kvs, rfl, h1, h2⟩ := rb
      cases ry
      have ex := ra.key
      subst ex
      refine d_notIn (by omega) I (DGet.k (k := kk) h1) rx fun s' I' => ⟨.bl _, H, I', rfl, ?_⟩
      rw [← valV_any, h2.has kk]
      exact q
    · cases e'
  | non => simp [inD] at e'
  | bl _ => simp [inD] at e'
  | int _ => simp [inD] at e'
  | ref _ => simp [inD] at e'
  | scr _ => simp [inD] at e'
/-- any comparison -/
theorem rCR_of (hu : X.A.units + 64 < cLine) {op : CmpOp} (h : op = .In ∨ op = .NotIn) : OpR X (compareOp op) (rCR X.K (coOf op)) := by
  rcases h with rfl | rfl
  · exact rCR_in hu
  · exact rCR_notin hu
theorem rC_of (hu : X.A.units + 64 < cLine) (op : CmpOp) : OpR X (compareOp op) (rC X.K (coOf op)) := by
  have root : ∀ {o : CO}, OpR X (compareOp op) (rCR X.K o) → OpR X (compareOp op) (rC X.K o) := fun {o} h => by
    rintro pins s σ H x y v u Q I rx ry ⟨F, G, ι, ρ, σ', st, a, b, k, ok, ra, rb, e, q⟩
    exact h pins s σ H x y v u Q I rx ry ⟨F, G, ι, ρ, σ', st, a, b, k, ok, ra, rb.root ok.sub, e, q⟩
  cases op with
  | Eq => exact rC_eq hu
  | NotEq => exact rC_ne hu
  | Lt => exact rC_lt
  | LtE => exact rC_le
  | Gt => exact rC_gt
  | GtE => exact rC_ge
  | Is => exact rC_is
  | IsNot => exact rC_isn
  | In => exact root (rCR_in hu)
  | NotIn => exact root (rCR_notin hu)
end
end Ev

-- EvZ
set_option autoImplicit true
set_option Elab.async false
set_option linter.all false
set_option maxRecDepth 100000
set_option maxHeartbeats 4000000
set_option autoImplicit false
/-! EvZ: subscripts, slices, built-ins, methods over the evaluator's data. -/
namespace Ev
open PySem PySem.Spec PyProof.Rows L2

/-- a root and a value in, d out -/
def rI2 (K : PySem.W.Frag) : R2 := fun x y H Q => ∃ F G ι ρ σ st a b d, Ok K F G ι H ρ σ st ∧ Root K G ι H x a ∧ Rep K G ι y b ∧ idxD a b = some d ∧ After K F G ι ρ σ st d Q
theorem atI_of {α : Type} {xs : List α} {i : Int} {d : α} (h : atI xs i = some d) : ∃ j, ixN xs.length i = some j ∧ xs[j]? = some d := by
  unfold atI at h
  cases e : ixN xs.length i with
  | none => rw [e] at h; simp at h
  | some j => rw [e] at h; exact ⟨j, rfl, h⟩
theorem Reps.atI {K : PySem.W.Frag} {G : Hp} {ι : List Addr} {vs : List V} {ds : List D} {i : Int} {d : D} (r : Reps K G ι vs ds) (h : L2.atI ds i = some d) : ∃ v, L2.atI vs i = some v ∧ Rep K G ι v d := by
  obtain ⟨j, h1, h2⟩ := atI_of h
  obtain ⟨v, h3, h4⟩ := r.get h2
  refine ⟨v, ?_, h4⟩
  unfold L2.atI
  rw [r.length, h1]
  exact h3
section
variable {X : Cx}
theorem ix_D (hu : X.A.units + 64 < cLine) : IxR X (rI2 X.K) := by
  rintro value slice pins s σ H x y v u Q I rx ry ⟨F, G, ι, ρ, σ', st, a, b, d, ok, ra, rb, e, k⟩ hs
  cases a with
  | tup ds =>
    cases b <;> simp only [idxD, reduceCtorEq] at e
    obtain ⟨p, xs, rfl, h1, h2⟩ := ra
    obtain ⟨z, hz, rz⟩ := h2.atI e
    cases rb
    exact ix_tup value slice pins s σ H _ _ v u Q I rx ry ⟨_, _, _, _, rfl, rfl, h1, hz, k.here ok rz⟩ hs
  | lst ds =>
    cases b <;> simp only [idxD, reduceCtorEq] at e
    obtain ⟨p, xs, rfl, h1, h2⟩ := ra
    obtain ⟨z, hz, rz⟩ := h2.atI e
    cases rb
    exact ix_list value slice pins s σ H _ _ v u Q I rx ry ⟨_, _, _, _, rfl, rfl, SqL.of h1, hz, k.here ok rz⟩ hs
  | str z =>
    cases b <;> simp only [idxD, reduceCtorEq] at e
    split at e
    · rename_i hz
      have ra' : Rep X.K G ι x (.str z) := ra
      cases ra'
      cases rb
      rename_i i
      cases ec : L2.atI z.cps.toList i with
      | none => rw [ec] at e; simp at e
      | some c =>
        rw [ec] at e
        cases e
        exact ix_str value slice pins s σ H _ _ v u Q I rx ry ⟨z, i, c, rfl, rfl, hz, ec, k.here ok (.str _)⟩ hs
    · cases e
  | dct kds =>
    simp only [idxD] at e
    split at e
    · rename_i hk
      obtain ⟨kk, rfl⟩ := keyOk1_key hk
      obtain ⟨p, kvs, rfl, h1, h2⟩ := ra
      cases rx
      have ey := rb.key
      subst ey
      rcases h2.get kk with ⟨_, h3⟩ | ⟨z, d', h3, h4, h5⟩
      · rw [h3] at e; cases e
      · rw [h4] at e
        cases e
        have g : DGet H p (kV kk) (some z) := by rw [← h3]; exact DGet.k h1
        exact tail_any (dict_typeIs I g) slot_dict_getitem.lookup (d_getItem (by omega) I g ry fun w' s' I' rw' => ⟨z, H, I', rw', k.here ok h5⟩) hs
    · cases e
  | non => simp [idxD] at e
  | bl _ => simp [idxD] at e
  | int _ => simp [idxD] at e
  | ref _ => simp [idxD] at e
  | scr _ => simp [idxD] at e
end

/-! ### slices -/
def rSlD (K : PySem.W.Frag) : V → Option Int → Option Int → Hp → VK → Prop := fun x lo hi H Q => ∃ F G ι ρ σ st a d, Ok K F G ι H ρ σ st ∧ Rep K G ι x a ∧ slD a lo hi = some d ∧ After K F G ι ρ σ st d Q
theorem Reps.cut {K : PySem.W.Frag} {G : Hp} {ι : List Addr} {vs : List V} {ds : List D} (r : Reps K G ι vs ds) (lo hi : Option Int) : Reps K G ι (cutV vs lo hi) (cutD ds lo hi) := by
  unfold cutV cutD
  rw [r.length]
  exact (r.drop _).take _
theorem cutD_whole {ds : List D} {lo hi : Option Int} (h : HT.sIx ds.length 0 lo = 0 ∧ HT.sIx ds.length ds.length hi = ds.length) : cutD ds lo hi = ds := by
  unfold cutD
  rw [h.1, h.2]
  simp
section
variable {X : Cx}
theorem sl_D : SlR X (rSlD X.K) := by
  rintro pins s σ H x v vl vu lo hi sl Q I rx hs pl pu ⟨F, G, ι, ρ, σ', st, a, d, ok, ra, e, k⟩
  cases a with
  | tup ds =>
    cases e
    cases ra with
    | tup h1 h2 =>
      refine sl_tupA pins s σ H _ v vl vu lo hi sl Q I rx hs pl pu ⟨_, _, rfl, ok.sqT h1, fun w => ?_, fun _ p hp => k.tup ok (h2.cut lo hi) hp⟩
      rw [cutD_whole (by rw [← h2.length]; exact w)] at k
      exact k.here ok (.tup h1 h2)
  | lst ds =>
    cases e
    cases ra with
    | lst h1 h2 => exact sl_list pins s σ H _ v vl vu lo hi sl Q I rx hs pl pu ⟨_, _, rfl, SqL.of (ok.sub _ _ h1), fun p hp => k.lst ok (h2.cut lo hi) hp⟩
  | scr ds =>
    cases e
    cases ra with
    | scr h1 h2 => exact sl_list pins s σ H _ v vl vu lo hi sl Q I rx hs pl pu ⟨_, _, rfl, Same.seq ok.sub h1, fun p hp => k.lst ok (h2.cut lo hi) hp⟩
  | str z =>
    simp only [slD] at e
    split at e
    · cases e
      cases ra
      exact sl_str pins s σ H _ v vl vu lo hi sl Q I rx hs pl pu ⟨z, rfl, by assumption, k.here ok (.str _)⟩
    · cases e
  | non => simp [slD] at e
  | bl _ => simp [slD] at e
  | int _ => simp [slD] at e
  | ref _ => simp [slD] at e
  | dct _ => simp [slD] at e
end

/-! ### built-ins of one value -/
def rK (K : PySem.W.Frag) (f : D → Option D) : List V → Hp → VK → Prop := fun xs H Q => ∃ F G ι ρ σ st x a d, xs = [x] ∧ Ok K F G ι H ρ σ st ∧ Root K G ι H x a ∧ f a = some d ∧ After K F G ι ρ σ st d Q
def rK2 (K : PySem.W.Frag) (f : D → D → Option D) : List V → Hp → VK → Prop := fun xs H Q => ∃ F G ι ρ σ st x y a b d, xs = [x, y] ∧ Ok K F G ι H ρ σ st ∧ Rep K G ι x a ∧ Rep K G ι y b ∧ f a b = some d ∧ After K F G ι ρ σ st d Q
section
variable {X : Cx}
theorem cD_len : CallR X (.builtin "len") (rK X.K (blt1 .len)) := by
  rintro pins s σ H xs us Q I r ⟨F, G, ι, ρ, σ', st, x, a, d, rfl, ok, ra, e, k⟩
  cases a with
  | tup ds =>
    cases e
    obtain ⟨p, xs, rfl, h1, h2⟩ := ra
    have k' := k.here ok (.int ds.length)
    rw [← h2.length] at k'
    exact call_len_seq pins s σ H _ us Q I r ⟨_, _, rfl, .inr h1, k'⟩
  | lst ds =>
    cases e
    obtain ⟨p, xs, rfl, h1, h2⟩ := ra
    have k' := k.here ok (.int ds.length)
    rw [← h2.length] at k'
    exact call_len_seq pins s σ H _ us Q I r ⟨_, _, rfl, .inl (SqL.of h1), k'⟩
  | str z =>
    simp only [blt1] at e
    split at e
    · cases e
      have ra' : Rep X.K G ι x (.str z) := ra
      cases ra'
      exact call_len_str pins s σ H _ us Q I r ⟨_, rfl, by assumption, k.here ok (.int _)⟩
    · cases e
  | dct kds =>
    cases e
    obtain ⟨p, kvs, rfl, h1, h2⟩ := ra
    obtain ⟨u, rfl, ru⟩ := vals1 r
    cases ru
    have k' := k.here ok (.int kds.length)
    rw [← h2.length] at k'
    exact d_len I (.inl h1) fun t s' I' => ⟨.int _, H, I', ⟨t, rfl⟩, k'⟩
  | non => simp [blt1] at e
  | bl _ => simp [blt1] at e
  | int _ => simp [blt1] at e
  | ref _ => simp [blt1] at e
  | scr _ => simp [blt1] at e
theorem cD_int : CallR X (.type "int") (rK X.K (blt1 .int)) := by
  rintro pins s σ H xs us Q I r ⟨F, G, ι, ρ, σ', st, x, a, d, rfl, ok, ra, e, k⟩
  cases a <;> simp only [blt1, reduceCtorEq, Option.some.injEq] at e
  · rename_i b
    subst e
    have ra' : Rep X.K G ι x (.bl b) := ra
    cases ra'
    exact call_int1 pins s σ H _ us Q I r (.inr ⟨b, rfl, k.here ok (.int _)⟩)
  · rename_i i
    subst e
    have ra' : Rep X.K G ι x (.int i) := ra
    cases ra'
    exact call_int1 pins s σ H _ us Q I r (.inl ⟨i, rfl, k.here ok (.int _)⟩)
theorem cD_dict : CallR X (.type "dict") (rK X.K (blt1 .dict)) := by
  rintro pins s σ H xs us Q I r ⟨F, G, ι, ρ, σ', st, x, a, d, rfl, ok, ra, e, k⟩
  cases a <;> simp only [blt1, reduceCtorEq, Option.some.injEq] at e
  subst e
  obtain ⟨p, kvs, rfl, h1, h2⟩ := ra
  exact call_dictD pins s σ H _ us Q I r ⟨_, _, rfl, .inl h1, fun p hp => k.dct ok h2 hp⟩
theorem cD_list (hc : X.calm = true) : CallR X (.type "list") (rK X.K (blt1 .list)) := by
  rintro pins s σ H xs us Q I r ⟨F, G, ι, ρ, σ', st, x, a, d, rfl, ok, ra, e, k⟩
  cases a <;> simp only [blt1, reduceCtorEq, Option.some.injEq] at e
  · subst e
    obtain ⟨p, xs, rfl, h1, h2⟩ := ra
    exact call_list_of pins s σ H _ us Q I r ⟨_, _, rfl, .inr h1, fun p hp => k.lst ok h2 hp⟩
  · subst e
    obtain ⟨p, xs, rfl, h1, h2⟩ := ra
    exact call_list_of pins s σ H _ us Q I r ⟨_, _, rfl, .inl (SqL.of h1), fun p hp => k.lst ok h2 hp⟩
  · subst e
    obtain ⟨p, kvs, rfl, h1, h2⟩ := ra
    exact call_listD hc pins s σ H _ us Q I r ⟨_, _, rfl, .inl h1, fun p hp => k.lst ok h2.keys hp⟩
/-- tuple(x): of a list a new one, of a tuple itself -/
theorem cD_tuple : CallR X (.type "tuple") (fun xs H Q => ∃ F G ι ρ σ st x a d, xs = [x] ∧ Ok X.K F G ι H ρ σ st ∧ Root X.K G ι H x a ∧ (∀ ds, a = .tup ds → Rep X.K G ι x a) ∧ blt1 .tuple a = some d ∧ After X.K F G ι ρ σ st d Q) := by
  rintro pins s σ H xs us Q I r ⟨F, G, ι, ρ, σ', st, x, a, d, rfl, ok, ra, rt, e, k⟩
  cases a <;> simp only [blt1, reduceCtorEq, Option.some.injEq] at e
  · subst e
    have q := rt _ rfl
    cases q with
    | tup h1 h2 => exact call_tuple_of pins s σ H _ us Q I r ⟨_, _, rfl, .inr ⟨ok.sqT h1, k.here ok (.tup h1 h2)⟩⟩
  · subst e
    obtain ⟨p, xs, rfl, h1, h2⟩ := ra
    exact call_tuple_of pins s σ H _ us Q I r ⟨_, _, rfl, .inl ⟨SqL.of h1, fun p hp => k.tup ok h2 hp⟩⟩
theorem maxI_ge : ∀ (r : List Int) (a : Int), a ≤ maxI a r ∧ (∀ y ∈ r, y ≤ maxI a r) ∧ (maxI a r = a ∨ maxI a r ∈ r)
  | [], a => ⟨Int.le_refl a, by simp, .inl rfl⟩
  | b :: r, a => by
    have ha : a ≤ (if b > a then b else a) := by split <;> omega
    have hb : b ≤ (if b > a then b else a) := by split <;> omega
    have hc : (if b > a then b else a) = a ∨ (if b > a then b else a) = b := by split <;> simp
    simp only [maxI]
    generalize (if b > a then b else a) = c at ha hb hc ⊢
    obtain ⟨h1, h2, h3⟩ := maxI_ge r c
    refine ⟨by omega, fun y hy => ?_, ?_⟩
    · rcases List.mem_cons.mp hy with rfl | hy
      · omega
      · exact h2 y hy
    · rcases h3 with h3 | h3
      · rcases hc with hc | hc
        · exact .inl (h3.trans hc)
        · exact .inr (by rw [h3, hc]; exact List.mem_cons_self)
      · exact .inr (List.mem_cons_of_mem _ h3)
theorem minI_le : ∀ (r : List Int) (a : Int), minI a r ≤ a ∧ (∀ y ∈ r, minI a r ≤ y) ∧ (minI a r = a ∨ minI a r ∈ r)
  | [], a => ⟨Int.le_refl a, by simp, .inl rfl⟩
  | b :: r, a => by
    have ha : (if b < a then b else a) ≤ a := by split <;> omega
    have hb : (if b < a then b else a) ≤ b := by split <;> omega
    have hc : (if b < a then b else a) = a ∨ (if b < a then b else a) = b := by split <;> simp
    simp only [minI]
    generalize (if b < a then b else a) = c at ha hb hc ⊢
    obtain ⟨h1, h2, h3⟩ := minI_le r c
    refine ⟨by omega, fun y hy => ?_, ?_⟩
    · rcases List.mem_cons.mp hy with rfl | hy
      · omega
      · exact h2 y hy
    · rcases h3 with h3 | h3
      · rcases hc with hc | hc
        · exact .inl (h3.trans hc)
        · exact .inr (by rw [h3, hc]; exact List.mem_cons_self)
      · exact .inr (List.mem_cons_of_mem _ h3)
theorem cD_max1 (hc : X.calm = true) : CallR X (.builtin "max") (rK X.K (blt1 .max1)) := by
  rintro pins s σ H xs us Q I r ⟨F, G, ι, ρ, σ', st, x, a, d, rfl, ok, ra, e, k⟩
  cases a <;> simp only [blt1, reduceCtorEq] at e
  rename_i ds
  split at e
  · rename_i n ns hn
    cases e
    obtain ⟨p, xs, rfl, h1, h2⟩ := ra
    have ex := h2.ints hn
    subst ex
    obtain ⟨q1, q2, q3⟩ := maxI_ge ns n
    refine cr_max hc pins s σ H _ us Q I r ⟨p, n :: ns, rfl, SqL.of h1, by simp, fun m hm hy => ?_⟩
    have em : m = maxI n ns := by
      have t1 : maxI n ns ≤ m := hy _ (by rcases q3 with q | q <;> simp [q])
      have t2 : m ≤ maxI n ns := by
        rcases List.mem_cons.mp hm with rfl | hm
        · exact q1
        · exact q2 m hm
      omega
    subst em
    exact k.here ok (.int _)
  · cases e
theorem cD_min1 (hc : X.calm = true) : CallR X (.builtin "min") (rK X.K (blt1 .min1)) := by
  rintro pins s σ H xs us Q I r ⟨F, G, ι, ρ, σ', st, x, a, d, rfl, ok, ra, e, k⟩
  cases a <;> simp only [blt1, reduceCtorEq] at e
  rename_i ds
  split at e
  · rename_i n ns hn
    cases e
    obtain ⟨p, xs, rfl, h1, h2⟩ := ra
    have ex := h2.ints hn
    subst ex
    obtain ⟨q1, q2, q3⟩ := minI_le ns n
    refine cr_min hc pins s σ H _ us Q I r ⟨p, n :: ns, rfl, SqL.of h1, by simp, fun m hm hy => ?_⟩
    have em : m = minI n ns := by
      have t1 : m ≤ minI n ns := hy _ (by rcases q3 with q | q <;> simp [q])
      have t2 : minI n ns ≤ m := by
        rcases List.mem_cons.mp hm with rfl | hm
        · exact q1
        · exact q2 m hm
      omega
    subst em
    exact k.here ok (.int _)
  · cases e
theorem cD_all (hc : X.calm = true) : CallR X (.builtin "all") (rK X.K (blt1 .all)) := by
  rintro pins s σ H xs us Q I r ⟨F, G, ι, ρ, σ', st, x, a, d, rfl, ok, ra, e, k⟩
  cases a <;> simp only [blt1, reduceCtorEq, Option.map_eq_some_iff] at e
  obtain ⟨bs, hb, rfl⟩ := e
  obtain ⟨p, xs, rfl, h1, h2⟩ := ra
  have ex := h2.bls hb
  subst ex
  exact cr_all hc pins s σ H _ us Q I r ⟨_, _, rfl, SqL.of h1, k.here ok (.bl _)⟩
theorem cD_any (hc : X.calm = true) : CallR X (.builtin "any") (rK X.K (blt1 .any)) := by
  rintro pins s σ H xs us Q I r ⟨F, G, ι, ρ, σ', st, x, a, d, rfl, ok, ra, e, k⟩
  cases a <;> simp only [blt1, reduceCtorEq, Option.map_eq_some_iff] at e
  obtain ⟨bs, hb, rfl⟩ := e
  obtain ⟨p, xs, rfl, h1, h2⟩ := ra
  have ex := h2.bls hb
  subst ex
  exact cr_any hc pins s σ H _ us Q I r ⟨_, _, rfl, SqL.of h1, k.here ok (.bl _)⟩
theorem cD_sum (hc : X.calm = true) : CallR X (.builtin "sum") (rK X.K (blt1 .sum)) := by
  rintro pins s σ H xs us Q I r ⟨F, G, ι, ρ, σ', st, x, a, d, rfl, ok, ra, e, k⟩
  cases a <;> simp only [blt1, reduceCtorEq, Option.map_eq_some_iff] at e
  obtain ⟨ns, hb, rfl⟩ := e
  obtain ⟨p, xs, rfl, h1, h2⟩ := ra
  have ex := h2.ints hb
  subst ex
  exact cr_sum hc pins s σ H _ us Q I r ⟨_, _, rfl, SqL.of h1, k.here ok (.int _)⟩
theorem cD_max2 (hc : X.calm = true) : CallR X (.builtin "max") (rK2 X.K (blt2 .max2)) := by
  rintro pins s σ H xs us Q I r ⟨F, G, ι, ρ, σ', st, x, y, a, b, d, rfl, ok, ra, rb, e, k⟩
  cases a <;> cases b <;> simp only [blt2, reduceCtorEq, Option.some.injEq] at e
  subst e
  cases ra; cases rb
  exact call_max2 hc pins s σ H _ us Q I r ⟨_, _, rfl, k.here ok (.int _)⟩
theorem cD_min2 (hc : X.calm = true) : CallR X (.builtin "min") (rK2 X.K (blt2 .min2)) := by
  rintro pins s σ H xs us Q I r ⟨F, G, ι, ρ, σ', st, x, y, a, b, d, rfl, ok, ra, rb, e, k⟩
  cases a <;> cases b <;> simp only [blt2, reduceCtorEq, Option.some.injEq] at e
  subst e
  cases ra; cases rb
  exact call_min2 hc pins s σ H _ us Q I r ⟨_, _, rfl, k.here ok (.int _)⟩
theorem mD_join {sep : Str} : MtR X "str.join" (fun x xs H Q => x = .str sep ∧ rK X.K (blt1 (.join sep)) xs H Q) := by
  rintro pins s σ H x xs v us Q I rx r ⟨rfl, F, G, ι, ρ, σ', st, y, a, d, rfl, ok, ra, e, k⟩
  cases a <;> simp only [blt1, reduceCtorEq] at e
  split at e
  · rename_i ss hs
    split at e
    · cases e
      obtain ⟨p, xs, rfl, h1, h2⟩ := ra
      have ex := h2.strs hs
      subst ex
      exact mt_join pins s σ H _ _ v us Q I rx r ⟨_, _, _, rfl, rfl, .inl (SqL.of h1), by assumption, k.here ok (.str _)⟩
    · cases e
  · cases e
end

/-! ### truth -/
theorem tru_D {X : Cx} : TruR X (fun x H Q => ∃ F G ι ρ σ st a k, Ok X.K F G ι H ρ σ st ∧ Root X.K G ι H x a ∧ truthD a = some k ∧ Q k H) := by
  rintro pins s σ H x v Q I rx ⟨F, G, ι, ρ, σ', st, a, k, ok, ra, e, q⟩
  refine tru_ok pins s σ H x v Q I rx ⟨k, ?_, q⟩
  cases a <;> simp only [truthD, reduceCtorEq, Option.some.injEq] at e
  · rename_i b
    have ra' : Rep X.K G ι x (.bl b) := ra
    cases ra'
    exact e.symm
  · rename_i i
    have ra' : Rep X.K G ι x (.int i) := ra
    cases ra'
    exact e.symm
  · obtain ⟨p, xs, rfl, h1, h2⟩ := ra
    refine .inr (.inl ⟨xs, h1, ?_⟩)
    rw [← e]
    cases h2 <;> rfl
  · obtain ⟨p, xs, rfl, h1, h2⟩ := ra
    refine .inl ⟨xs, SqL.of h1, ?_⟩
    rw [← e]
    cases h2 <;> rfl
end Ev

-- EvT
set_option autoImplicit true
set_option Elab.async false
set_option linter.all false
set_option maxRecDepth 100000
set_option maxHeartbeats 4000000
set_option autoImplicit false
/-! EvT: readings by the evaluator; what is walked. -/
namespace Ev
open PySem PySem.Spec PyProof.Rows L2

section
variable {K : PySem.W.Frag} {F G G1 H : Hp} {ι ι1 : List Addr} {ρ : List Sl} {σ : L2.St} {st : List D} {d : D} {Q : VK}
theorem After.ext (k : After K F G ι ρ σ st d Q) (e : Ext G ι G1 ι1) : After K F G1 ι1 ρ σ st d Q := fun v H' G' ι' ok x r => k v H' G' ι' ok (e.trans x) r
end
/-- an expression's reading -/
def tV (Fn : Fn) (K : PySem.W.Frag) (ie : IE) : TE := fun σ H Q => ∃ F G ι s d s', Ok K F G ι H s.ρ σ s.st ∧ evE Fn ie s = some (d, s') ∧ After K F G ι s'.ρ σ s'.st d Q
def AfterT (K : PySem.W.Frag) (F G : Hp) (ι : List Addr) (ρ : List Sl) (σ : L2.St) (st : List D) (k : Bool) (Q : Bool → Hp → Prop) : Prop :=
  ∀ H' G' ι', Ok K F G' ι' H' ρ σ st → Ext G ι G' ι' → Q k H'
def tT (Fn : Fn) (K : PySem.W.Frag) (ie : IE) : TT := fun σ H Q => ∃ F G ι s k s', Ok K F G ι H s.ρ σ s.st ∧ evE Fn ie s = some (.bl k, s') ∧ AfterT K F G ι s'.ρ σ s'.st k Q
def AfterA (K : PySem.W.Frag) (F G : Hp) (ι : List Addr) (ρ : List Sl) (σ : L2.St) (st : List D) (ds : List D) (Q : List V → Hp → Prop) : Prop :=
  ∀ vs H' G' ι', Ok K F G' ι' H' ρ σ st → Ext G ι G' ι' → Reps K G' ι' vs ds → Q vs H'
def tVs (Fn : Fn) (K : PySem.W.Frag) (ies : IEs) : TA := fun σ H Q => ∃ F G ι s ds s', Ok K F G ι H s.ρ σ s.st ∧ evEs Fn ies s = some (ds, s') ∧ AfterA K F G ι s'.ρ σ s'.st ds Q
/-- the value is a new thing of its own -/
def NewRoot (K : PySem.W.Frag) (F G : Hp) (ι : List Addr) (H : Hp) (ρ : List Sl) (σ : L2.St) (v : V) (d : D) : Prop :=
  (isBox d = true ∧ ∃ a, v = .ref a ∧ Away F G ι ρ σ a ∧ OwnAt K G ι H a d) ∨ (isBox d = false ∧ Rep K G ι v d)
def AfterN (K : PySem.W.Frag) (F G : Hp) (ι : List Addr) (ρ : List Sl) (σ : L2.St) (st : List D) (d : D) (Q : VK) : Prop :=
  ∀ v H' G' ι', Ok K F G' ι' H' ρ σ st → Ext G ι G' ι' → NewRoot K F G' ι' H' ρ σ v d → Q v H'
def tN (Fn : Fn) (K : PySem.W.Frag) (ie : IE) : TE := fun σ H Q => ∃ F G ι s d s', Ok K F G ι H s.ρ σ s.st ∧ evE Fn ie s = some (d, s') ∧ AfterN K F G ι s'.ρ σ s'.st d Q

theorem _root_.L2.PE.weak {X : Cx} {e : Expr} {t t' : TE} (h : PE X e t) (w : ∀ σ H Q, t' σ H Q → t σ H Q) : PE X e t' := ⟨fun pins s σ H Q I q => h.run pins s σ H Q I (w σ H Q q)⟩
theorem _root_.L2.PT.weak {X : Cx} {e : Expr} {t t' : TT} (h : PT X e t) (w : ∀ σ H Q, t' σ H Q → t σ H Q) : PT X e t' := ⟨fun pins s σ H Q I q => h.run pins s σ H Q I (w σ H Q q)⟩
theorem _root_.L2.PW.weak {X : Cx} {e : Expr} {t t' : TT} (h : PW X e t) (w : ∀ σ H Q, t' σ H Q → t σ H Q) : PW X e t' := ⟨fun wh pins s σ H Q I q => h.run wh pins s σ H Q I (w σ H Q q)⟩
theorem _root_.L2.PA.weak {X : Cx} {e : List Expr} {t t' : TA} (h : PA X e t) (w : ∀ σ H Q, t' σ H Q → t σ H Q) : PA X e t' := ⟨fun p pins s σ H Q I q => h.run p pins s σ H Q I (w σ H Q q)⟩
theorem _root_.L2.PS.weak {X : Cx} {e : Stmt} {t t' : TS} (h : PS X e t) (w : ∀ D σ H, t' D σ H → t D σ H) : PS X e t' := ⟨fun pins s σ H D I q => h.run pins s σ H D I (w D σ H q)⟩
theorem _root_.L2.PSs.weak {X : Cx} {e : List Stmt} {t t' : TS} (h : PSs X e t) (w : ∀ D σ H, t' D σ H → t D σ H) : PSs X e t' := ⟨fun pins s σ H D I q => h.run pins s σ H D I (w D σ H q)⟩

/-- a new thing may be taken as a value -/
theorem tN_tV {Fn : Fn} {K : PySem.W.Frag} {ie : IE} {σ : L2.St} {H : Hp} {Q : VK} (h : tV Fn K ie σ H Q) : tN Fn K ie σ H Q := by
  obtain ⟨F, G, ι, s, d, s', ok, e, k⟩ := h
  refine ⟨F, G, ι, s, d, s', ok, e, fun v H' G' ι' ok' x n => ?_⟩
  rcases n with ⟨_, a, rfl, aw, w⟩ | ⟨_, r⟩
  · obtain ⟨o, ho⟩ := w.some
    obtain ⟨ok2, e2⟩ := ok'.freeze aw ho
    exact k _ _ _ _ ok2 (x.trans e2) ((w.move e2 rfl).rep (by rw [upd_same, ho]))
  · exact k _ _ _ _ ok' x r
section
variable {K : PySem.W.Frag} {F G H : Hp} {ι : List Addr} {ρ : List Sl} {σ : L2.St} {st : List D} {d : D} {Q : VK}
theorem AfterN.lst {ds : List D} {xs : List V} (k : AfterN K F G ι ρ σ st (.lst ds) Q) (ok : Ok K F G ι H ρ σ st) (r : Reps K G ι xs ds) {p : Addr} (hp : H p = none) : Q (.ref p) (upd H p (.lst xs)) :=
  k _ _ G ι (ok.alloc hp _) (Ext.refl _ _) (.inl ⟨rfl, p, rfl, ok.fresh hp, xs, upd_same, r⟩)
theorem AfterN.dct {ds : List (D × D)} {xs : List (Key × V)} (k : AfterN K F G ι ρ σ st (.dct ds) Q) (ok : Ok K F G ι H ρ σ st) (r : RepKV K G ι xs ds) {p : Addr} (hp : H p = none) : Q (.ref p) (upd H p (.dK xs)) :=
  k _ _ G ι (ok.alloc hp _) (Ext.refl _ _) (.inl ⟨rfl, p, rfl, ok.fresh hp, xs, upd_same, r⟩)
theorem AfterN.ext {G1 : Hp} {ι1 : List Addr} (k : AfterN K F G ι ρ σ st d Q) (e : Ext G ι G1 ι1) : AfterN K F G1 ι1 ρ σ st d Q := fun v H' G' ι' ok x r => k v H' G' ι' ok (e.trans x) r
/-- a value that is no list, no dict -/
theorem AfterN.after (k : AfterN K F G ι ρ σ st d Q) (hb : isBox d = false) : After K F G ι ρ σ st d Q := fun v H' G' ι' ok x r => k v H' G' ι' ok x (.inr ⟨hb, r⟩)
end

/-! ### a root by its slot -/
theorem Ok.peek {K : PySem.W.Frag} {F G H : Hp} {ι : List Addr} {σ : L2.St} {s : S} (ok : Ok K F G ι H s.ρ σ s.st) {i : Nat} {d : D} (h : Ev.peek s i = some d) :
    ∃ v, σ[i]? = some (some v) ∧ Root K G ι H v d ∧ ∀ ds, d = .tup ds → Rep K G ι v d := by
  unfold Ev.peek getV at h
  cases e : s.ρ[i]? with
  | none => rw [e] at h; simp at h
  | some sl =>
    rw [e] at h
    cases sl with
    | un => simp at h
    | v d0 =>
      obtain ⟨v, e1, r⟩ := ok.slots i _ e
      simp only at h
      split at h
      · rename_i n hn
        cases hn
        cases r with
        | @ref a _ ha =>
          have w := ok.cells n a d ha h
          refine ⟨.ref a, e1, w.root, fun ds z => ?_⟩
          subst z
          exact w.elim
      · cases h
        exact ⟨v, e1, r.root ok.sub, fun ds z => r⟩
    | o d0 =>
      obtain ⟨a, e1, g, hi, f, w⟩ := ok.slots i _ e
      simp only at h
      split at h
      · rename_i n hn
        cases hn
        exact w.elim
      · cases h
        refine ⟨.ref a, e1, w.root, fun ds z => ?_⟩
        subst z
        exact w.elim
/-- a name's value -/
theorem Ok.getV {K : PySem.W.Frag} {F G H : Hp} {ι : List Addr} {σ : L2.St} {s : S} (ok : Ok K F G ι H s.ρ σ s.st) {i : Nat} {d : D} (h : Ev.getV s i = some d) :
    ∃ v G', σ[i]? = some (some v) ∧ Ok K F G' ι H (frzV s i).ρ σ (frzV s i).st ∧ Ext G ι G' ι ∧ Rep K G' ι v d := by
  unfold Ev.getV at h
  unfold frzV
  cases e : s.ρ[i]? with
  | none => rw [e] at h; simp at h
  | some sl =>
    rw [e] at h
    cases sl with
    | un => simp at h
    | v d0 =>
      cases h
      obtain ⟨v, e1, r⟩ := ok.slots i _ e
      exact ⟨v, G, e1, ok, Ext.refl _ _, r⟩
    | o d0 =>
      cases h
      obtain ⟨a, e1, _⟩ := ok.slots i _ e
      obtain ⟨G', ok', x, r⟩ := ok.freezeSlot e e1
      exact ⟨.ref a, G', e1, ok', x, r⟩

/-! ### what is walked -/
/-- J yields the items -/
structure ItOk (K : PySem.W.Frag) (G : Hp) (ι : List Addr) (J : It) (items : List D) : Prop where
  go : ∀ i H, Same G H → i < items.length → J.go i H
  stop : ∀ H, Same G H → J.stop items.length H
  yld : ∀ i H x H' d, Same G H → J.yld i H x H' → items[i]? = some d →
    (H' = H ∧ Rep K G ι x d) ∨ ∃ p o, H p = none ∧ H' = upd H p o ∧ x = .ref p ∧ ∀ G' ι', Ext G ι G' ι' → G' p = some o → Rep K G' ι' x d
theorem ItOk.list {K : PySem.W.Frag} {G : Hp} {ι : List Addr} {a : Addr} {xs : List V} {ds : List D} (h : G a = some (.lst xs)) (r : Reps K G ι xs ds) : ItOk K G ι (Itl K a) ds where
  go := fun i H s hi => ⟨xs, xs[i]'(by rw [r.length]; exact hi), SqL.of (s _ _ h), List.getElem?_eq_getElem _⟩
  stop := fun H s => ⟨xs, SqL.of (s _ _ h), by rw [r.length]; exact Nat.le_refl _⟩
  yld := fun i H x H' d s y hd => by
    obtain ⟨e, y⟩ := y
    have hx := y xs (SqL.of (s _ _ h))
    obtain ⟨d', e', r'⟩ := r.getV hx
    rw [hd] at e'; cases e'
    exact .inl ⟨e, r'⟩
theorem ItOk.tup {K : PySem.W.Frag} {G : Hp} {ι : List Addr} {a : Addr} {xs : List V} {ds : List D} (h : SqT K G a xs) (r : Reps K G ι xs ds) : ItOk K G ι (Itt K a) ds where
  go := fun i H s hi => ⟨xs, xs[i]'(by rw [r.length]; exact hi), Same.seqT s h, List.getElem?_eq_getElem _⟩
  stop := fun H s => ⟨xs, Same.seqT s h, by rw [r.length]; exact Nat.le_refl _⟩
  yld := fun i H x H' d s y hd => by
    obtain ⟨e, y⟩ := y
    have hx := y xs (Same.seqT s h)
    obtain ⟨d', e', r'⟩ := r.getV hx
    rw [hd] at e'; cases e'
    exact .inl ⟨e, r'⟩
theorem rangeD_get (lo : Int) (n i : Nat) (d : D) (h : (rangeD lo n)[i]? = some d) : d = .int (lo + i) := by
  unfold rangeD at h
  rw [List.getElem?_map] at h
  cases e : (List.range n)[i]? with
  | none => rw [e] at h; simp at h
  | some k =>
    rw [e] at h
    have hk : k = i := by
      obtain ⟨h1, h2⟩ := List.getElem?_eq_some_iff.mp e
      simpa using h2.symm
    subst hk
    simpa using h.symm
theorem rangeD_length (lo : Int) (n : Nat) : (rangeD lo n).length = n := by simp [rangeD]
theorem ItOk.range {K : PySem.W.Frag} {G : Hp} {ι : List Addr} (lo : Int) (n : Nat) : ItOk K G ι (Itr lo n) (rangeD lo n) where
  go := fun i H s hi => by rw [rangeD_length] at hi; exact hi
  stop := fun H s => by rw [rangeD_length]; exact Nat.le_refl _
  yld := fun i H x H' d s y hd => by
    obtain ⟨e, rfl⟩ := y
    rw [rangeD_get lo n i d hd]
    exact .inl ⟨e, .int _⟩
theorem ItOk.str {K : PySem.W.Frag} {G : Hp} {ι : List Addr} (z : Str) : ItOk K G ι (Its z) (z.cps.toList.map fun c => .str ⟨#[c]⟩) where
  go := fun i H s hi => by
    have : i < z.cps.size := by simpa using hi
    exact this
  stop := fun H s => by
    show z.cps.size ≤ _
    simp
  yld := fun i H x H' d s y hd => by
    obtain ⟨e, c, hc, rfl⟩ := y
    rw [List.getElem?_map, Array.getElem?_toList, hc] at hd
    cases hd
    exact .inl ⟨e, .str _⟩
end Ev

-- EvI
set_option autoImplicit true
set_option Elab.async false
set_option linter.all false
set_option maxRecDepth 100000
set_option maxHeartbeats 4000000
set_option autoImplicit false
/-! EvI: enumerate and zip over lists and tuples in any mix; the sources of loops and comprehensions. -/
namespace Ev
open PySem PySem.Spec PyProof.Rows L2

/-! ### a list (true) or a tuple (false) -/
def SqB (K : PySem.W.Frag) (H : Hp) (l : Bool) (a : Addr) (xs : List V) : Prop := if l then SqL K H a xs else SqT K H a xs
def ItB (h : Heap) (l : Bool) (it a : Addr) (i : Nat) : Prop := if l then h.IsListIter it a i else h.IsTupleIter it a i
def ArB (h : Heap) (l : Bool) (a : Addr) (items : Array Value) : Prop := if l then h.IsList a items else h.IsTuple a items
def obB (l : Bool) (a : Addr) : Obj := if l then { cls := .type "list_iterator", data := .fields #[.ref a, .int 0 0] } else { cls := .type "tuple_iterator", data := .fields #[.ref a, .int 0 0] }
theorem SqB.get {X : Cx} {pins : List (Addr × Obj)} {σ : L2.St} {H : Hp} {s : Shared} (I : Inv X pins σ H s) {l : Bool} {a : Addr} {xs : List V} (h : SqB X.K H l a xs) : ∃ its : List Value, Vals xs its ∧ ArB s.heap l a its.toArray ∧ xs.length ≤ sizeLine ∧ a < s.heap.objs.size := by
  cases l with
  | true =>
    obtain ⟨its, r, p, z⟩ := I.list (show SqL X.K H a xs from h)
    exact ⟨its, r, p.isList, z, p.lt⟩
  | false =>
    obtain ⟨its, r, p, z⟩ := I.tuple (show SqT X.K H a xs from h)
    exact ⟨its, r, p, z, p.lt⟩
theorem SqB.inj {X : Cx} {pins : List (Addr × Obj)} {σ : L2.St} {H : Hp} {s : Shared} (I : Inv X pins σ H s) {l : Bool} {a : Addr} {xs ys : List V} (h : SqB X.K H l a xs) (h' : SqB X.K H l a ys) : xs = ys := by
  cases l with
  | true => exact I.list_inj (show SqL X.K H a xs from h) h'
  | false => exact I.tuple_inj (show SqT X.K H a xs from h) h'
theorem SqB.same {K : PySem.W.Frag} {H H' : Hp} (e : Same H H') {l : Bool} {a : Addr} {xs : List V} (h : SqB K H l a xs) : SqB K H' l a xs := by
  cases l with
  | true => exact Same.seq e (show SqL K H a xs from h)
  | false => exact Same.seqT e (show SqT K H a xs from h)
theorem drawsB {prog : Program} {w : World} {A : Around} (hh : A.handled = none) (l : Bool) (it a : Addr) (hne : a ≠ it) (items : Array Value) :
    Draws prog w A it [it, a] items.size (fun i v => items[i]? = some v) (fun i h => ItB h l it a i ∧ ArB h l a items) := by
  cases l with
  | true => exact Draws.list hh it a hne items
  | false => exact Draws.tuple hh it a hne items
theorem beginsB (l : Bool) (a : Addr) (items : Array Value) : Begins (.ref a) (obB l a) fun h => ArB h l a items := by
  cases l with
  | true => exact begins_list a items
  | false => exact begins_tuple a items
theorem ItB.at {h h' : Heap} {l : Bool} {it a : Addr} {i : Nat} (x : ItB h l it a i) (k : ∀ o, h.get? it = some o → h'.get? it = some o) : ItB h' l it a i := by
  cases l with
  | true => exact Heap.IsListIter.at (show h.IsListIter it a i from x) k
  | false =>
    obtain ⟨o, e, r⟩ := (show h.IsTupleIter it a i from x)
    exact ⟨o, k o e, r⟩
theorem ItB.obj {h : Heap} {l : Bool} {it a : Addr} {i : Nat} (x : ItB h l it a i) : ∃ o, h.get? it = some o ∧ ∀ v, o.data ≠ .cell v := by
  cases l with
  | true =>
    obtain ⟨o, e, c, d⟩ := (show h.IsListIter it a i from x)
    exact ⟨o, e, fun v z => by rw [d] at z; cases z⟩
  | false =>
    obtain ⟨o, e, c, d⟩ := (show h.IsTupleIter it a i from x)
    exact ⟨o, e, fun v z => by rw [d] at z; cases z⟩
theorem ItB.new {h : Heap} {l : Bool} {it a : Addr} (e : h.get? it = some (obB l a)) : ItB h l it a 0 := by
  cases l with
  | true => exact ⟨_, e, rfl, rfl⟩
  | false => exact ⟨_, e, rfl, rfl⟩

/-! ### enumerate -/
def IteB (K : PySem.W.Frag) (l : Bool) (a : Addr) : It :=
  ⟨fun i H => ∃ (xs : List V) (x : V), SqB K H l a xs ∧ xs[i]? = some x, fun i H v H' => ∃ T x, v = .ref T ∧ H T = none ∧ H' = upd H T (.tup [.int (i : Nat), x]) ∧ ∀ xs, SqB K H l a xs → xs[i]? = some x,
    fun i H => ∃ xs : List V, SqB K H l a xs ∧ xs.length = i⟩
theorem turn_enumB {P : Program} {w : World} {K : PySem.W.Frag} {elts : List Expr} {kk : Nat} {tpos : Pos} (l : Bool) (a e it : Addr) (hae : a ≠ e) (hai : a ≠ it) (hei : e ≠ it) :
    Turn P w K (.Tuple elts kk tpos) (IteB K l a) [e, it] e (fun i h => (∃ old, IsEnum h e it ((i : Nat) : Int) old) ∧ ItB h l it a i) where
  mem := by simp
  obj := fun i h st b hb => by
    obtain ⟨⟨old, he⟩, hi⟩ := st
    have q : b = e ∨ b = it := by simpa using hb
    rcases q with q | q
    · rw [q]; exact ⟨_, he, fun v z => nomatch z⟩
    · rw [q]; exact hi.obj
  keep := fun i h h' st k => by
    obtain ⟨⟨old, he⟩, hi⟩ := st
    exact ⟨⟨old, k e (by simp) _ he⟩, hi.at fun o q => k it (by simp) o q⟩
  item := by
    intro X hP hw hK hc i pins s σ H E I hf st hg
    subst hP hw hK
    obtain ⟨⟨old, he⟩, hit⟩ := st
    obtain ⟨xs, x, hq, hx⟩ := hg
    obtain ⟨its, rv, ar, _, _⟩ := hq.get I
    obtain ⟨u, hu, ru⟩ := rv.get hx
    have hA : X.A.in1.handled = none := I.ok.hd hc
    have hlt : i < its.toArray.size := by simpa using (List.getElem?_eq_some_iff.mp hu).1
    have hel : e < s.heap.objs.size := Heap.lt_size he
    have hil : it < s.heap.objs.size := by
      obtain ⟨o, q, _⟩ := hit.obj
      exact Heap.lt_size q
    refine wpAny_pyNext_enum_itemC (drawsB (prog := X.prog) (w := X.w) hA l it a hai its.toArray) he ⟨hit, ar⟩ hlt hei (by simp [Ne.symm hae, hei]) fun y h' tk hy ho hst' hT hsz hk => ?_
    have ey : y = u := by
      have q : its.toArray[i]? = some u := by simpa using hu
      rw [q] at hy; exact (Option.some.inj hy).symm
    subst ey
    refine ⟨_, rfl, wpAny_letOwnedTupleGo_enum (s := { s with heap := h', toks := tk + 1 }) ho fun h'' he' sb => ?_⟩
    have hT2 : h''.get? s.heap.objs.size = some { cls := .type "tuple", data := .seq #[.int i tk, y] } := (sb.2 _ (Nat.ne_of_gt hel)).trans hT
    have new : ObjOk X.prog X.w (upd H s.heap.objs.size (.tup [.int (i : Nat), x])) h'' s.heap.objs.size (.tup [.int (i : Nat), x]) :=
      ⟨by show 2 ≤ sizeLine; decide, [.int i tk, y], .cons ⟨_, rfl⟩ (.cons ru .nil), ⟨_, hT2, rfl, _, rfl⟩⟩
    have I1 : Inv X pins σ (upd H s.heap.objs.size (.tup [.int (i : Nat), x])) { s with heap := h'', toks := tk + 1 } :=
      I.turnedNew (ch := [e, it]) (fun b o hb q => (sb.2 b (fun z => hb (by simp [z]))).trans (hk b o (fun z => hb (by simp [z])) (fun z => hb (by simp [z])) q)) hf (Nat.le_refl _) new
    refine ⟨.ref s.heap.objs.size, _, I1, rfl, ⟨_, x, rfl, I.hok.fresh (Nat.le_refl _), rfl, fun ys hy2 => by rw [hy2.inj I hq]; exact hx⟩, ⟨⟨y, ?_⟩, hst'.1.at fun o q => (sb.2 it (Ne.symm hei)).trans q⟩, fun b hb => ?_⟩
    · have e1 : ((i + 1 : Nat) : Int) = (i : Int) + 1 := by omega
      rw [e1]; exact he'
    · have hb' : b < s.heap.objs.size := by
        have q : b = e ∨ b = it := by simpa using hb
        rcases q with q | q
        · rw [q]; exact hel
        · rw [q]; exact hil
      rw [upd_ne (Nat.ne_of_lt hb')]
      exact (hf b hb).1
  done := by
    intro X hP hw hK hc i pins s σ H E I hf st hg
    subst hP hw hK
    obtain ⟨⟨old, he⟩, hit⟩ := st
    obtain ⟨xs, hq, hx⟩ := hg
    obtain ⟨its, rv, ar, _, _⟩ := hq.get I
    have hA : X.A.in1.handled = none := I.ok.hd hc
    have hsz : its.toArray.size = i := by rw [List.size_toArray, ← rv.length, hx]
    subst hsz
    exact wpAny_pyNext_enum_endD (drawsB (prog := X.prog) (w := X.w) hA l it a hai its.toArray) he ⟨hit, ar⟩ fun h' eb => ⟨rfl, I.turnedL (t' := s.toks) (ch := [e, it]) (fun b o hb q => eb b o (fun z => hb (by simp [z])) q) hf⟩
  self := fun A i s Q E st h => let ⟨⟨_, he⟩, _⟩ := st; wpAny_pyIter_enum he h
set_option maxHeartbeats 8000000 in
theorem enum_newB1 {v : Value} {o : Obj} {C : Heap → Prop} (B : Begins v o C) :
    Meets (Builtin.«enumerate.__new__» ⟨[.type "enumerate", v], []⟩) (fun _ R s => C s.heap ∧
      R (.ok (.ret (.ref (s.heap.push o).objs.size))) { s with heap := (s.heap.push o).push { cls := .type "enumerate", data := .fields #[.none, .bool false, .ref s.heap.objs.size, rawInt 0, .none, .none] } }) :=
  .of_wp fun prog w A R s h => by
    obtain ⟨hp, g, d, tk, os⟩ := s
    obtain ⟨h1, h⟩ := h
    have hsub := sub_enumerate
    have q1 : ∀ {A' : Around} {E : Value → Shared → Prop} {Q : Value → Shared → Prop}, Q (.ref hp.objs.size) ⟨hp.push o, g, d, tk, os⟩ → wpAny (model prog w) A' (pyIter v) Q E ⟨hp, g, d, tk, os⟩ :=
      fun q => B.iter prog w _ _ ⟨hp, g, d, tk, os⟩ _ h1 q
    wp_walk using q1
    refine wpAny_stack_any fun st => wpAny_pure ?_
    split
    · rename_i c _ _ _ _ _
      cases (c == Value.type "enumerate") <;> (wp_walk using q1; exact ⟨_, rfl, h⟩)
    · wp_walk using q1
      exact ⟨_, rfl, h⟩
theorem enum_begins1 {prog : Program} {w : World} {A : Around} {E : Value → Shared → Prop} {s : Shared} {v : Value} {o : Obj} {C : Heap → Prop} {Q : Value → Shared → Prop} (B : Begins v o C) (h1 : C s.heap)
    (h : ∀ h', IsEnum h' (s.heap.objs.size + 1) s.heap.objs.size 0 .none → h'.get? s.heap.objs.size = some o → h'.objs.size = s.heap.objs.size + 2 →
      (∀ b o, s.heap.get? b = some o → h'.get? b = some o) → Q (.ref (s.heap.objs.size + 1)) { s with heap := h' }) :
    wpAny (model prog w) A (call (.type "enumerate") [v]) Q E s := by
  refine callType_new F.called_enumerate (by decide) (F.typeCall_enumerate_1 _) (F.newCall_enumerate_1 _) (fun obj => F.args_object_init_2 obj _) F.entry_enumerate_new (enum_newB1 B) ⟨h1, ?_⟩
  have hz : (s.heap.push o).objs.size = s.heap.objs.size + 1 := Heap.size_push ..
  have he : IsEnum ((s.heap.push o).push { cls := .type "enumerate", data := .fields #[.none, .bool false, .ref s.heap.objs.size, rawInt 0, .none, .none] }) (s.heap.objs.size + 1) s.heap.objs.size 0 .none := by
    have q := Heap.get?_push_size (s.heap.push o) (o := { cls := .type "enumerate", data := .fields #[.none, .bool false, .ref s.heap.objs.size, rawInt 0, .none, .none] }) rfl
    rw [hz] at q; exact q
  show _ ∧ _
  rw [hz]
  exact ⟨⟨_, he, rfl⟩, h _ he (Heap.get?_push_of_some _ (Heap.get?_push_size _ B.free)) (by rw [Heap.size_push, hz]) fun b o x => Heap.get?_push_of_some _ (Heap.get?_push_of_some _ x)⟩

/-! ### zip -/
def ItzB (K : PySem.W.Frag) (l m : Bool) (a b : Addr) : It :=
  ⟨fun i H => ∃ (xs ys : List V) (x y : V), SqB K H l a xs ∧ SqB K H m b ys ∧ xs[i]? = some x ∧ ys[i]? = some y,
    fun i H v H' => ∃ T x y, v = .ref T ∧ H T = none ∧ H' = upd H T (.tup [x, y]) ∧ (∀ xs, SqB K H l a xs → xs[i]? = some x) ∧ ∀ ys, SqB K H m b ys → ys[i]? = some y,
    fun i H => ∃ xs ys : List V, SqB K H l a xs ∧ SqB K H m b ys ∧ i = min xs.length ys.length⟩
theorem turn_zipB {P : Program} {w : World} {K : PySem.W.Frag} {elts : List Expr} {kk : Nat} {tpos : Pos} (l m : Bool) {a b z TI TO i1 i2 : Addr} (D : ZipSep2 z TI TO i1 i2 [i1, a] [i2, b]) (h1 : a ≠ i1) (h2 : b ≠ i2) :
    Turn P w K (.Tuple elts kk tpos) (ItzB K l m a b) [z, TI, TO, i1, i2] z (fun i h => IsZip h z TI TO .none ∧ IsTupOf2 h TI (.ref i1) (.ref i2) ∧ (∃ x y, IsTupOf2 h TO x y) ∧ ItB h l i1 a i ∧ ItB h m i2 b i) where
  mem := by simp
  obj := fun i h st c hc => by
    obtain ⟨hz, hTI, ⟨x, y, hTO⟩, q1, q2⟩ := st
    simp only [List.mem_cons, List.mem_nil_iff, or_false] at hc
    rcases hc with q | q | q | q | q
    · rw [q]; exact ⟨_, hz, fun v q => nomatch q⟩
    · rw [q]; exact ⟨_, hTI, fun v q => nomatch q⟩
    · rw [q]; exact ⟨_, hTO, fun v q => nomatch q⟩
    · rw [q]; exact q1.obj
    · rw [q]; exact q2.obj
  keep := fun i h h' st k => by
    obtain ⟨hz, hTI, ⟨x, y, hTO⟩, q1, q2⟩ := st
    exact ⟨k z (by simp) _ hz, k TI (by simp) _ hTI, ⟨x, y, k TO (by simp) _ hTO⟩, q1.at fun o q => k i1 (by simp) o q, q2.at fun o q => k i2 (by simp) o q⟩
  item := by
    intro X hP hw hK hc i pins s σ H E I hf st hg
    subst hP hw hK
    obtain ⟨hz, hTI, ⟨x0, y0, hTO⟩, q1, q2⟩ := st
    obtain ⟨xs, ys, x, y, hqx, hqy, hx, hy⟩ := hg
    obtain ⟨its, rv, ar, _, _⟩ := hqx.get I
    obtain ⟨its2, rv2, ar2, _, _⟩ := hqy.get I
    obtain ⟨u, hu, ru⟩ := rv.get hx
    obtain ⟨u2, hu2, ru2⟩ := rv2.get hy
    have hA : X.A.in1.handled = none := I.ok.hd hc
    have hzl : z < s.heap.objs.size := Heap.lt_size hz
    refine wpAny_pyNext_zipD2_item D (drawsB (prog := X.prog) (w := X.w) hA l i1 a h1 its.toArray) (drawsB (prog := X.prog) (w := X.w) hA m i2 b h2 its2.toArray) hz hTI hTO ⟨q1, ar⟩ ⟨q2, ar2⟩
      (by simpa using (List.getElem?_eq_some_iff.mp hu).1) (by simpa using (List.getElem?_eq_some_iff.mp hu2).1) fun w1 w2 h' tk hw1 hw2 z' TO' s1' s2' hT hsz hk => ?_
    have e1 : w1 = u := by
      have q : its.toArray[i]? = some u := by simpa using hu
      rw [q] at hw1; exact (Option.some.inj hw1).symm
    have e2 : w2 = u2 := by
      have q : its2.toArray[i]? = some u2 := by simpa using hu2
      rw [q] at hw2; exact (Option.some.inj hw2).symm
    subst e1 e2
    refine ⟨_, rfl, wpAny_letOwnedTupleGo_zip (s := { s with heap := h', toks := tk }) z' fun h'' z'' sb => ?_⟩
    have hT2 : h''.get? s.heap.objs.size = some { cls := .type "tuple", data := .seq #[w1, w2] } := (sb.2 _ (Nat.ne_of_gt hzl)).trans hT
    have new : ObjOk X.prog X.w (upd H s.heap.objs.size (.tup [x, y])) h'' s.heap.objs.size (.tup [x, y]) :=
      ⟨by show 2 ≤ sizeLine; decide, [w1, w2], .cons ru (.cons ru2 .nil), ⟨_, hT2, rfl, _, rfl⟩⟩
    have I1 : Inv X pins σ (upd H s.heap.objs.size (.tup [x, y])) { s with heap := h'', toks := tk } :=
      I.turnedNew (ch := [z, TI, TO, i1, i2]) (fun c o hb q => (sb.2 c (fun q' => hb (by simp [q']))).trans (hk c o (fun q' => hb (by simp [q'])) (fun q' => hb (by simp [q'])) (fun q' => hb (by simp [q'])) (fun q' => hb (by simp [q'])) q)) hf (Nat.le_refl _) new
    refine ⟨.ref s.heap.objs.size, _, I1, rfl, ⟨_, x, y, rfl, I.hok.fresh (Nat.le_refl _), rfl, fun k hl => by rw [hl.inj I hqx]; exact hx, fun k hl => by rw [hl.inj I hqy]; exact hy⟩, ⟨z'', ?_, ⟨w1, w2, ?_⟩, ?_, ?_⟩, fun c hcm => ?_⟩
    · have ni : TI ≠ TO := D.TITO
      exact (sb.2 _ D.TIz).trans (hk _ _ D.TIz ni D.TIi1 D.TIi2 hTI)
    · exact (sb.2 _ D.TOz).trans TO'
    · exact s1'.1.at fun o q => (sb.2 _ (Ne.symm D.zi1)).trans q
    · exact s2'.1.at fun o q => (sb.2 _ (Ne.symm D.zi2)).trans q
    · have hlt : c < s.heap.objs.size := by
        simp only [List.mem_cons, List.mem_nil_iff, or_false] at hcm
        rcases hcm with q | q | q | q | q
        · rw [q]; exact hzl
        · rw [q]; exact Heap.lt_size hTI
        · rw [q]; exact Heap.lt_size hTO
        · rw [q]; obtain ⟨_, e1, _⟩ := q1.obj; exact Heap.lt_size e1
        · rw [q]; obtain ⟨_, e2, _⟩ := q2.obj; exact Heap.lt_size e2
      rw [upd_ne (Nat.ne_of_lt hlt)]
      exact (hf c hcm).1
  done := by
    intro X hP hw hK hc i pins s σ H E I hf st hg
    subst hP hw hK
    obtain ⟨hz, hTI, ⟨x0, y0, hTO⟩, q1, q2⟩ := st
    obtain ⟨xs, ys, hqx, hqy, hend⟩ := hg
    obtain ⟨its, rv, ar, _, _⟩ := hqx.get I
    obtain ⟨its2, rv2, ar2, _, _⟩ := hqy.get I
    have hA : X.A.in1.handled = none := I.ok.hd hc
    have l1 := rv.length
    have l2 := rv2.length
    exact wpAny_pyNext_zipD2_end D (drawsB (prog := X.prog) (w := X.w) hA l i1 a h1 its.toArray) (drawsB (prog := X.prog) (w := X.w) hA m i2 b h2 its2.toArray) hz hTI hTO ⟨q1, ar⟩ ⟨q2, ar2⟩
      (by simp; omega) (by simp; omega) (by simp; omega) fun h' tk hk => ⟨rfl, I.turnedL (t' := tk) (ch := [z, TI, TO, i1, i2]) (fun c o hb q => hk c o (fun q' => hb (by simp [q'])) (fun q' => hb (by simp [q'])) (fun q' => hb (by simp [q'])) (fun q' => hb (by simp [q'])) q) hf⟩
  self := fun A i s Q E st h => wpAny_pyIter_zip st.1 h

/-! ### the items -/
theorem rootOf_rep {K : PySem.W.Frag} {G : Hp} {ι : List Addr} {v : V} {d : D} {ds : List D} (r : Rep K G ι v d) (h : rootOf d = some ds) : ∃ l a xs, v = .ref a ∧ SqB K G l a xs ∧ Reps K G ι xs ds := by
  cases r with
  | tup h1 h2 =>
    cases h
    exact ⟨false, _, _, rfl, h1, h2⟩
  | lst h1 h2 =>
    cases h
    exact ⟨true, _, _, rfl, SqL.of h1, h2⟩
  | non => cases h
  | bl => cases h
  | int => cases h
  | str => cases h
  | dct => cases h
  | ref => cases h
  | scr => cases h
theorem enumD_length : ∀ (xs : List D) (n : Nat), (enumD n xs).length = xs.length
  | [], _ => rfl
  | x :: xs, n => by simp [enumD, enumD_length xs]
theorem enumD_get : ∀ (xs : List D) (n i : Nat) (d : D), (enumD n xs)[i]? = some d → ∃ x, xs[i]? = some x ∧ d = .tup [.int ((n + i : Nat) : Int), x]
  | [], _, _, _, h => by simp [enumD] at h
  | x :: xs, n, 0, d, h => by
    simp [enumD] at h
    exact ⟨x, rfl, by simp [h]⟩
  | x :: xs, n, i + 1, d, h => by
    obtain ⟨y, h1, h2⟩ := enumD_get xs (n + 1) i d (by simpa [enumD] using h)
    refine ⟨y, by simpa using h1, ?_⟩
    rw [h2]
    have : n + 1 + i = n + (i + 1) := by omega
    rw [this]
theorem ItOk.enum {K : PySem.W.Frag} {G : Hp} {ι : List Addr} {l : Bool} {a : Addr} {xs : List V} {ds : List D} (h : SqB K G l a xs) (r : Reps K G ι xs ds) : ItOk K G ι (IteB K l a) (enumD 0 ds) where
  go := fun i H s hi => ⟨xs, xs[i]'(by rw [r.length]; rw [enumD_length] at hi; exact hi), h.same s, List.getElem?_eq_getElem _⟩
  stop := fun H s => ⟨xs, h.same s, by rw [enumD_length]; exact r.length⟩
  yld := fun i H v H' d s y hd => by
    obtain ⟨T, x, rfl, hT, rfl, hx⟩ := y
    have hx := hx xs (h.same s)
    obtain ⟨d', e1, e2⟩ := enumD_get ds 0 i d hd
    obtain ⟨d2, e3, r'⟩ := r.getV hx
    rw [e1] at e3; cases e3
    refine .inr ⟨T, _, hT, rfl, rfl, fun G' ι' e g => ?_⟩
    rw [e2, Nat.zero_add]
    exact .tup (SqT.of g) (.cons (.int _) (.cons (r'.ext e) .nil))
theorem zip_get : ∀ (xs ys : List D) (i : Nat) (d : D), ((xs.zip ys).map fun p => D.tup [p.1, p.2])[i]? = some d → ∃ x y, xs[i]? = some x ∧ ys[i]? = some y ∧ d = .tup [x, y] := by
  intro xs ys i d h
  rw [List.getElem?_map] at h
  cases e : (xs.zip ys)[i]? with
  | none => rw [e] at h; simp at h
  | some p =>
    rw [e] at h
    rw [List.getElem?_zip_eq_some] at e
    exact ⟨p.1, p.2, e.1, e.2, by simpa using h.symm⟩
theorem ItOk.zip {K : PySem.W.Frag} {G : Hp} {ι : List Addr} {l m : Bool} {a b : Addr} {xs ys : List V} {ds es : List D} (h : SqB K G l a xs) (h' : SqB K G m b ys) (r : Reps K G ι xs ds) (r' : Reps K G ι ys es) : ItOk K G ι (ItzB K l m a b) ((ds.zip es).map fun p => .tup [p.1, p.2]) where
  go := fun i H s hi => by
    have q : i < min ds.length es.length := by simpa using hi
    exact ⟨xs, ys, xs[i]'(by rw [r.length]; omega), ys[i]'(by rw [r'.length]; omega), h.same s, h'.same s, List.getElem?_eq_getElem _, List.getElem?_eq_getElem _⟩
  stop := fun H s => ⟨xs, ys, h.same s, h'.same s, by simp [r.length, r'.length]⟩
  yld := fun i H v H' d s y hd => by
    obtain ⟨T, x, y, rfl, hT, rfl, hx, hy⟩ := y
    have hx := hx xs (h.same s)
    have hy := hy ys (h'.same s)
    obtain ⟨d1, d2, e1, e2, rfl⟩ := zip_get ds es i d hd
    obtain ⟨f1, g1, s1⟩ := r.getV hx
    obtain ⟨f2, g2, s2⟩ := r'.getV hy
    rw [e1] at g1; cases g1
    rw [e2] at g2; cases g2
    exact .inr ⟨T, _, hT, rfl, rfl, fun G' ι' e g => .tup (SqT.of g) (.cons (s1.ext e) (.cons (s2.ext e) .nil))⟩

/-! ### the sources -/
def AfterI (K : PySem.W.Frag) (F G : Hp) (ι : List Addr) (ρ : List Sl) (σ : L2.St) (st : List D) (items : List D) (R : It → Hp → Prop) : Prop :=
  ∀ J H' G' ι', Ok K F G' ι' H' ρ σ st → Ext G ι G' ι' → ItOk K G' ι' J items → R J H'
def tSrc (Fn : Fn) (K : PySem.W.Frag) (k : SK) (srcs : IEs) : TI := fun σ H R => ∃ F G ι s ds s' items, Ok K F G ι H s.ρ σ s.st ∧ evEs Fn srcs s = some (ds, s') ∧ itemsD k ds = some items ∧ AfterI K F G ι s'.ρ σ s'.st items R
theorem evEs_one {Fn : Fn} {ie : IE} {s s' : S} {ds : List D} (h : evEs Fn (.cons ie .nil) s = some (ds, s')) : ∃ d, ds = [d] ∧ evE Fn ie s = some (d, s') := by
  simp only [evEs, Option.bind_eq_some_iff, Option.map_eq_some_iff, Prod.exists, Option.some.injEq, Prod.mk.injEq] at h
  obtain ⟨d, s1, e1, r, s2, ⟨e2, e3⟩, e4, e5⟩ := h
  subst e2 e3 e4 e5
  exact ⟨d, rfl, e1⟩
theorem items_range1 {ds items : List D} (h : itemsD .range1 ds = some items) : ∃ j, ds = [.int j] ∧ small62 j = true ∧ items = rangeD 0 j.toNat := by
  rcases ds with _ | ⟨d, _ | ⟨d2, r⟩⟩
  · simp [itemsD] at h
  · cases d <;> simp [itemsD] at h
    exact ⟨_, rfl, h.1, h.2.symm⟩
  · cases d <;> simp [itemsD] at h
theorem items_range2 {ds items : List D} (h : itemsD .range2 ds = some items) : ∃ i j, ds = [.int i, .int j] ∧ small62 i = true ∧ small62 j = true ∧ items = rangeD i (j - i).toNat := by
  rcases ds with _ | ⟨d, _ | ⟨d2, _ | ⟨d3, r⟩⟩⟩
  · simp [itemsD] at h
  · cases d <;> simp [itemsD] at h
  · cases d <;> cases d2 <;> simp [itemsD] at h
    exact ⟨_, _, rfl, h.1.1, h.1.2, h.2.symm⟩
  · cases d <;> cases d2 <;> simp [itemsD] at h
theorem items_enum {ds items : List D} (h : itemsD .enum ds = some items) : ∃ d xs, ds = [d] ∧ rootOf d = some xs ∧ items = enumD 0 xs := by
  rcases ds with _ | ⟨d, _ | ⟨d2, r⟩⟩
  · simp [itemsD] at h
  · simp only [itemsD, Option.map_eq_some_iff] at h
    obtain ⟨xs, h1, h2⟩ := h
    exact ⟨d, xs, rfl, h1, h2.symm⟩
  · simp [itemsD] at h
theorem items_zip {ds items : List D} (h : itemsD .zip ds = some items) : ∃ d d' xs ys, ds = [d, d'] ∧ rootOf d = some xs ∧ rootOf d' = some ys ∧ items = (xs.zip ys).map fun p => .tup [p.1, p.2] := by
  rcases ds with _ | ⟨d, _ | ⟨d2, _ | ⟨d3, r⟩⟩⟩
  · simp [itemsD] at h
  · simp [itemsD] at h
  · simp only [itemsD, Option.map_eq_some_iff, Option.bind_eq_some_iff] at h
    obtain ⟨xs, h1, ys, h2, h3⟩ := h
    exact ⟨d, d2, xs, ys, rfl, h1, h2, h3.symm⟩
  · simp [itemsD] at h
section
variable {X : Cx} {tg : Expr} {Fn : Fn}
theorem pi_seqD {l : Expr} {ie : IE} (hl : PE X l (tV Fn X.K ie)) : PI X tg l (tSrc Fn X.K .seq (.cons ie .nil)) := by
  refine ⟨fun pins s σ H R I h => ?_⟩
  obtain ⟨F, G, ι, es, ds, es', items, ok, e, hi, k⟩ := h
  obtain ⟨d, rfl, e0⟩ := evEs_one e
  cases d <;> simp only [itemsD, reduceCtorEq, Option.some.injEq] at hi
  · subst hi
    refine (pi_str hl).run pins s σ H R I ⟨F, G, ι, es, _, es', ok, e0, fun v H' G' ι' ok' x r => ?_⟩
    cases r
    exact ⟨_, rfl, k _ _ _ _ ok' x (.str _)⟩
  · subst hi
    refine (pi_tup hl).run pins s σ H R I ⟨F, G, ι, es, _, es', ok, e0, fun v H' G' ι' ok' x r => ?_⟩
    cases r with
    | tup h1 h2 => exact ⟨_, rfl, ⟨_, ok'.sqT h1⟩, k _ _ _ _ ok' x (.tup h1 h2)⟩
  · subst hi
    refine (pi_list hl).run pins s σ H R I ⟨F, G, ι, es, _, es', ok, e0, fun v H' G' ι' ok' x r => ?_⟩
    cases r with
    | lst h1 h2 => exact ⟨_, rfl, ⟨_, SqL.of (ok'.sub _ _ h1)⟩, k _ _ _ _ ok' x (.list h1 h2)⟩
theorem small62_ok {i : Int} (h : small62 i = true) : -(2 ^ 62) ≤ i ∧ i < 2 ^ 62 := by
  simpa [small62] using h
theorem pi_range1D {a : Expr} {ies : IEs} {p pos : Pos} (hg : Gl X "range") (hm : X.mg "range" = none) (ha : PA X [a] (tVs Fn X.K ies)) (hs : starEach [a] X.env = [(false, eval a X.env)]) :
    PI X tg (.Call (.Name "range" p) [a] [] pos) (tSrc Fn X.K .range1 ies) := by
  refine ⟨fun pins s σ H R I h => ?_⟩
  obtain ⟨F, G, ι, es, ds, es', items, ok, e, hi, k⟩ := h
  obtain ⟨j, rfl, hj, rfl⟩ := items_range1 hi
  obtain ⟨j1, j2⟩ := small62_ok hj
  refine (pi_range1 hg hm ha hs).run pins s σ H R I ⟨F, G, ι, es, _, es', ok, e, fun vs H' G' ι' ok' x r => ?_⟩
  cases r with
  | cons r1 r2 =>
    cases r2
    cases r1
    exact ⟨j, rfl, j1, j2, k _ _ _ _ ok' x (.range 0 _)⟩
theorem pi_range2D {a b : Expr} {ies : IEs} {p pos : Pos} (hg : Gl X "range") (hm : X.mg "range" = none) (ha : PA X [a, b] (tVs Fn X.K ies)) (hs : starEach [a, b] X.env = [(false, eval a X.env), (false, eval b X.env)]) (hs2 : starEach [b] X.env = [(false, eval b X.env)]) :
    PI X tg (.Call (.Name "range" p) [a, b] [] pos) (tSrc Fn X.K .range2 ies) := by
  refine ⟨fun pins s σ H R I h => ?_⟩
  obtain ⟨F, G, ι, es, ds, es', items, ok, e, hi, k⟩ := h
  obtain ⟨i, j, rfl, hi1, hj1, rfl⟩ := items_range2 hi
  obtain ⟨i1, i2⟩ := small62_ok hi1
  obtain ⟨j1, j2⟩ := small62_ok hj1
  refine (pi_range2 hg hm ha hs hs2).run pins s σ H R I ⟨F, G, ι, es, _, es', ok, e, fun vs H' G' ι' ok' x r => ?_⟩
  cases r with
  | cons r1 r2 =>
    cases r2 with
    | cons r2 r3 =>
      cases r3
      cases r1
      cases r2
      exact ⟨i, j, rfl, ⟨i1, i2, j1, j2⟩, k _ _ _ _ ok' x (.range i _)⟩
theorem pi_enumD {e1 : Expr} {ies : IEs} {p pos tpos : Pos} {elts : List Expr} {kk : Nat} (hg : Gl X "enumerate") (hm : X.mg "enumerate" = none) (ha : PA X [e1] (tVs Fn X.K ies)) (hs : starEach [e1] X.env = [(false, eval e1 X.env)]) :
    PI X (.Tuple elts kk tpos) (.Call (.Name "enumerate" p) [e1] [] pos) (tSrc Fn X.K .enum ies) := by
  refine ⟨fun pins s σ H R I h => ?_⟩
  obtain ⟨F, G, ι, es, ds, es', items, ok, e, hi, k⟩ := h
  obtain ⟨d, xs0, rfl, hr, rfl⟩ := items_enum hi
  refine Call_ (ld_blt I hg hm boot_enumerate (PyProof.Rows.callWith_type1 (thn (ha.run pos pins s σ H _ I ⟨F, G, ι, es, _, es', ok, e, fun vs H' G' ι' ok' x r => (⟨G', ι', ok', x, r⟩ : ∃ G' ι', Ok X.K F G' ι' H' es'.ρ σ es'.st ∧ Ext G ι G' ι' ∧ Reps X.K G' ι' vs [d])⟩) fun us s1 ⟨vs, H1, I1, r1, G', ι', ok', x, r⟩ => ?_) hs rfl))
  cases r with
  | cons r2 r3 =>
    cases r3
    obtain ⟨l, a, xs, rfl, h1, h2⟩ := rootOf_rep r2 hr
    obtain ⟨u, rfl, ru⟩ := vals1 r1
    cases ru
    obtain ⟨its, rv, ar, _, hlt⟩ := (h1.same ok'.sub).get I1
    refine enum_begins1 (beginsB l a its.toArray) ar fun h' he hit hsz hk => wpAny_pyIter_enum he ?_
    have I2 : Inv X pins σ H1 { s1 with heap := h' } := I1.kept (t' := s1.toks) hk
    refine ⟨s1.heap.objs.size + 1, [s1.heap.objs.size + 1, s1.heap.objs.size], _, _, H1, rfl, I2, turn_enumB l a (s1.heap.objs.size + 1) s1.heap.objs.size (Nat.ne_of_lt (Nat.lt_succ_of_lt hlt)) (Nat.ne_of_lt hlt) (Nat.succ_ne_self _), ⟨⟨.none, he⟩, ItB.new hit⟩, fun b hb => ?_, k _ _ _ _ ok' x (.enum h1 h2)⟩
    have q : b = s1.heap.objs.size + 1 ∨ b = s1.heap.objs.size := by simpa using hb
    have hle : s1.heap.objs.size ≤ b := by
      rcases q with q | q
      · rw [q]; exact Nat.le_succ _
      · rw [q]; exact Nat.le_refl _
    exact I1.fpOk hle (I1.hok.fresh hle)
theorem pi_zipD {e1 e2 : Expr} {ies : IEs} {p pos tpos : Pos} {elts : List Expr} {kk : Nat} (hg : Gl X "zip") (hm : X.mg "zip" = none) (ha : PA X [e1, e2] (tVs Fn X.K ies)) (hs : starEach [e1, e2] X.env = (false, eval e1 X.env) :: starEach [e2] X.env)
    (hpl : (backTo pos (starEach [e2] X.env)).any (·.1) = false) : PI X (.Tuple elts kk tpos) (.Call (.Name "zip" p) [e1, e2] [] pos) (tSrc Fn X.K .zip ies) := by
  refine ⟨fun pins s σ H R I h => ?_⟩
  obtain ⟨F, G, ι, es, ds, es', items, ok, e, hi, k⟩ := h
  obtain ⟨d, d', xs0, ys0, rfl, hr, hr', rfl⟩ := items_zip hi
  refine Call_ (ld_blt I hg hm PyProof.Rows.boot_zip (PyProof.Rows.callWith_type1 (thn (ha.run pos pins s σ H _ I ⟨F, G, ι, es, _, es', ok, e, fun vs H' G' ι' ok' x r => (⟨G', ι', ok', x, r⟩ : ∃ G' ι', Ok X.K F G' ι' H' es'.ρ σ es'.st ∧ Ext G ι G' ι' ∧ Reps X.K G' ι' vs [d, d'])⟩) fun us s1 ⟨vs, H1, I1, r1, G', ι', ok', x, r⟩ => ?_) hs hpl))
  cases r with
  | cons r2 r3 =>
    cases r3 with
    | cons r3 r4 =>
      cases r4
      obtain ⟨l, a, xs, rfl, h1, h2⟩ := rootOf_rep r2 hr
      obtain ⟨m, b, ys, rfl, h3, h4⟩ := rootOf_rep r3 hr'
      obtain ⟨u, u', rfl, ru, ru'⟩ := vals2 r1
      cases ru
      cases ru'
      obtain ⟨its, rv, ar, _, hlt⟩ := (h1.same ok'.sub).get I1
      obtain ⟨its2, rv2, ar2, _, hlt2⟩ := (h3.same ok'.sub).get I1
      refine zip_begins2 (beginsB l a its.toArray) (beginsB m b its2.toArray) ar ar2 fun h' hz hTI hTO g1 g2 hsz hk => wpAny_pyIter_zip hz ?_
      have I2 : Inv X pins σ H1 { s1 with heap := h' } := I1.kept (t' := s1.toks) hk
      refine ⟨s1.heap.objs.size + 4, [s1.heap.objs.size + 4, s1.heap.objs.size + 2, s1.heap.objs.size + 3, s1.heap.objs.size, s1.heap.objs.size + 1], _, _, H1, rfl, I2,
        turn_zipB l m (zip_sep2 (fp1 := [a]) (fp2 := [b]) (by simpa using hlt) (by simpa using hlt2)) (Nat.ne_of_lt hlt) (Nat.ne_of_lt (Nat.lt_succ_of_lt hlt2)), ⟨hz, hTI, ⟨_, _, hTO⟩, ItB.new g1, ItB.new g2⟩, fun c hc => ?_, k _ _ _ _ ok' x (.zip h1 h3 h2 h4)⟩
      simp only [List.mem_cons, List.mem_nil_iff, or_false] at hc
      have hle : s1.heap.objs.size ≤ c := by
        rcases hc with q | q | q | q | q
        · rw [q]; exact Nat.le_add_right _ _
        · rw [q]; exact Nat.le_add_right _ _
        · rw [q]; exact Nat.le_add_right _ _
        · rw [q]; exact Nat.le_refl _
        · rw [q]; exact Nat.le_add_right _ _
      exact I1.fpOk hle (I1.hok.fresh hle)
end
end Ev

-- EvE
set_option autoImplicit true
set_option Elab.async false
set_option linter.all false
set_option maxRecDepth 100000
set_option maxHeartbeats 4000000
set_option autoImplicit false
/-! EvE: expressions' rules over the evaluator. -/
namespace Ev
open PySem PySem.Spec PyProof.Rows L2

def noStar : Expr → Bool
  | .Starred _ _ => false
  | _ => true
theorem star_cons {e : Expr} (h : noStar e = true) (es : List Expr) (env : Env) : starEach (e :: es) env = (false, eval e env) :: starEach es env := by
  cases e <;> first | rfl | (simp [noStar] at h)
theorem star_any : ∀ {es : List Expr} (h : es.all noStar = true) (p : Pos) (env : Env), (backTo p (starEach es env)).any (·.1) = false
  | [], _, _, _ => rfl
  | e :: es, h, p, env => by
    simp only [List.all_cons, Bool.and_eq_true] at h
    rw [star_cons h.1]
    have q := star_any h.2 p env
    simp only [backTo, List.map_cons, List.any_cons, Bool.false_or] at q ⊢
    exact q
theorem star_few : ∀ {es : List Expr} (h : es.all noStar = true) (p : Pos) (env : Env), (backTo p (starEach es env)).all (fun x => !x.1) = true
  | [], _, _, _ => rfl
  | e :: es, h, p, env => by
    simp only [List.all_cons, Bool.and_eq_true] at h
    rw [star_cons h.1]
    have q := star_few h.2 p env
    simp only [backTo, List.map_cons, List.all_cons, Bool.not_false, Bool.true_and] at q ⊢
    exact q
theorem base_of {o : Expr} {m : Str} {env : Env} (h : ∀ f a k p, o ≠ .Call f a k p) (w : Sem Value) : attributeBase o m env w = w := by
  cases o <;> first | rfl | exact absurd rfl (h _ _ _ _)
/-- the right side of in is no set display -/
def noSet : Expr → Bool
  | .Set _ _ _ => false
  | _ => true
theorem marks_of {b : Expr} (h : noSet b = true) (op : CmpOp) : behindInMarks op b = false := by
  cases b <;> first | rfl | (simp [noSet] at h)
/-- a truth that is the value's -/
def plainT : Expr → Bool
  | .UnaryOp .Not _ _ => false
  | .BoolOp _ _ _ => false
  | .IfExp _ _ _ _ => false
  | .Compare _ _ _ _ => false
  | _ => true
theorem isTrue_of {e : Expr} (h : plainT e = true) (env : Env) (w : Sem Value) : isTrue e env w = (do let v ← w; standAt e.pos; holding [v] (truthy v)) := by
  cases e <;> first | rfl | (simp [plainT] at h; done) | skip
  rename_i op x p
  cases op <;> first | rfl | (simp [plainT] at h)
def noSlice : Expr → Bool
  | .Slice _ _ _ _ => false
  | _ => true
theorem plainIx_of {b : Expr} (h : noSlice b = true) : PlainIx b := by
  intro o i
  cases b <;> first | rfl | (simp [noSlice] at h)

section
variable {X : Cx} {Fn : Fn} {a b c : Expr} {ia ib ic : IE} {es : List Expr} {ies : IEs} {pos : Pos}
/-! ### names, constants, displays -/
theorem pD_var {i : Nat} {x : Str} (hN : X.N[i]? = some x) (hv : Vis X.env.scope x) (hd : (x == ("__debug__" : Str)) = false) (hcd : (x == ("__classdict__" : Str)) = false) : PE X (.Name x pos) (tV Fn X.K (.var i)) :=
  (pe_var hN hv hd hcd).weak fun σ H Q ⟨F, G, ι, s, d, s', ok, ev, k⟩ => by
    simp only [evE, Option.map_eq_some_iff, Prod.mk.injEq] at ev
    obtain ⟨d', e1, e2, e3⟩ := ev
    subst e2 e3
    obtain ⟨v, G', hv, ok', x, r⟩ := ok.getV e1
    exact ⟨v, hv, k v H G' ι ok' x r⟩
theorem pD_int {i : Int} {j : Nat} : PE X (.Constant (.int i) j pos) (tV Fn X.K (.cst (.int i))) :=
  pe_int.weak fun σ H Q ⟨F, G, ι, s, d, s', ok, ev, k⟩ => by
    cases ev; exact k.here ok (.int _)
theorem pD_bl {i : Bool} {j : Nat} : PE X (.Constant (.bool i) j pos) (tV Fn X.K (.cst (.bl i))) :=
  pe_bl.weak fun σ H Q ⟨F, G, ι, s, d, s', ok, ev, k⟩ => by
    cases ev; exact k.here ok (.bl _)
theorem pD_non {j : Nat} : PE X (.Constant .none j pos) (tV Fn X.K (.cst .non)) :=
  pe_non.weak fun σ H Q ⟨F, G, ι, s, d, s', ok, ev, k⟩ => by
    cases ev; exact k.here ok .non
theorem pD_str {i : Str} {j : Nat} : PE X (.Constant (.str i) j pos) (tV Fn X.K (.cst (.str i))) :=
  pe_str.weak fun σ H Q ⟨F, G, ι, s, d, s', ok, ev, k⟩ => by
    cases ev; exact k.here ok (.str _)
theorem pD_glob {x : Str} {u : Value} {z : Str} (hg : Gl X x) (hm : X.mg x = some u) (r : RelV (.str z) u) (hd : (x == ("__debug__" : Str)) = false) : PE X (.Name x pos) (tV Fn X.K (.cst (.str z))) :=
  (pe_glob hg hm r hd).weak fun σ H Q ⟨F, G, ι, s, d, s', ok, ev, k⟩ => by
    cases ev; exact k.here ok (.str _)
theorem pA_nil : PA X [] (tVs Fn X.K .nil) :=
  pa_nil.weak fun σ H Q ⟨F, G, ι, s, ds, s', ok, ev, k⟩ => by
    cases ev; exact k _ _ _ _ ok (Ext.refl _ _) .nil
theorem pA_cons (ha : PE X a (tV Fn X.K ia)) (hr : PA X es (tVs Fn X.K ies)) (hs : noStar a = true) : PA X (a :: es) (tVs Fn X.K (.cons ia ies)) :=
  (pa_cons ha hr (star_cons hs es X.env)).weak fun σ H Q ⟨F, G, ι, s, ds, s', ok, ev, k⟩ => by
    simp only [evEs, Option.bind_eq_some_iff, Option.map_eq_some_iff, Prod.exists, Prod.mk.injEq] at ev
    obtain ⟨d, s1, e1, ds', s2, e2, e3, e4⟩ := ev
    subst e3 e4
    exact ⟨F, G, ι, s, d, s1, ok, e1, fun v H1 G1 ι1 ok1 x1 r1 => ⟨F, G1, ι1, s1, ds', s2, ok1, e2, fun vs H2 G2 ι2 ok2 x2 r2 => k _ _ _ _ ok2 (x1.trans x2) (.cons (r1.ext x2) r2)⟩⟩
theorem pD_tup {x1 : Nat} (h : PA X es (tVs Fn X.K ies)) : PE X (.Tuple es x1 pos) (tV Fn X.K (.tup ies)) :=
  (pe_tup h).weak fun σ H Q ⟨F, G, ι, s, d, s', ok, ev, k⟩ => by
    simp only [evE, Option.bind_eq_some_iff, Prod.exists] at ev
    obtain ⟨ds, s1, e1, e2⟩ := ev
    split at e2
    · rename_i hz
      cases e2
      exact ⟨F, G, ι, s, ds, s', ok, e1, fun vs H1 G1 ι1 ok1 x1 r1 => ⟨by rw [r1.length]; exact hz, fun p hp => (k.ext x1).tup ok1 r1 hp⟩⟩
    · cases e2
theorem pN_lst (h : PA X es (tVs Fn X.K ies)) : PE X (.List es pos) (tN Fn X.K (.lst ies)) :=
  (pe_lst h).weak fun σ H Q ⟨F, G, ι, s, d, s', ok, ev, k⟩ => by
    simp only [evE, Option.bind_eq_some_iff, Prod.exists] at ev
    obtain ⟨ds, s1, e1, e2⟩ := ev
    split at e2
    · rename_i hz
      cases e2
      exact ⟨F, G, ι, s, ds, s', ok, e1, fun vs H1 G1 ι1 ok1 x1 r1 => ⟨by rw [r1.length]; exact hz, fun p hp => (k.ext x1).lst ok1 r1 hp⟩⟩
    · cases e2
theorem pN_dct0 : PE X (.Dict [] [] pos) (tN Fn X.K .dct0) :=
  pe_dnewK.weak fun σ H Q ⟨F, G, ι, s, d, s', ok, ev, k⟩ => by
    cases ev
    exact fun p hp => k.dct ok .nil hp
theorem _root_.L2.PE.asV (h : PE X a (tN Fn X.K ia)) : PE X a (tV Fn X.K ia) := h.weak fun _ _ _ q => tN_tV q
/-- a value that is no box at all is new -/
theorem asN (h : PE X a (tV Fn X.K ia)) (hb : ∀ s d s', evE Fn ia s = some (d, s') → isBox d = false) : PE X a (tN Fn X.K ia) :=
  h.weak fun σ H Q ⟨F, G, ι, s, d, s', ok, ev, k⟩ => ⟨F, G, ι, s, d, s', ok, ev, k.after (hb _ _ _ ev)⟩

/-! ### operators -/
theorem pD_bin {op : Operator} {o : BO} (ho : boOf op = some o) (ha : PE X a (tV Fn X.K ia)) (hb : PE X b (tV Fn X.K ib)) : PE X (.BinOp a op b pos) (tV Fn X.K (.bin o ia ib)) :=
  (pe_op (rB_of ho) ha hb).weak fun σ H Q ⟨F, G, ι, s, d, s', ok, ev, k⟩ => by
    simp only [evE, Option.bind_eq_some_iff, Option.map_eq_some_iff, Prod.exists, Prod.mk.injEq] at ev
    obtain ⟨x, s1, e1, y, s2, e2, d', e3, e4, e5⟩ := ev
    subst e4 e5
    exact ⟨F, G, ι, s, x, s1, ok, e1, fun v H1 G1 ι1 ok1 x1 r1 => ⟨F, G1, ι1, s1, y, s2, ok1, e2, fun w H2 G2 ι2 ok2 x2 r2 => ⟨F, G2, ι2, _, _, _, x, y, d', ok2, r1.ext x2, r2, e3, k.ext (x1.trans x2)⟩⟩⟩
theorem pD_neg (ha : PE X a (tV Fn X.K ia)) : PE X (.UnaryOp .USub a pos) (tV Fn X.K (.un .neg ia)) :=
  (pe_un rU_neg ha).weak fun σ H Q ⟨F, G, ι, s, d, s', ok, ev, k⟩ => by
    simp only [evE, Option.bind_eq_some_iff, Option.map_eq_some_iff, Prod.exists, Prod.mk.injEq] at ev
    obtain ⟨x, s1, e1, d', e3, e4, e5⟩ := ev
    subst e4 e5
    exact ⟨F, G, ι, s, x, s1, ok, e1, fun v H1 G1 ι1 ok1 x1 r1 => ⟨F, G1, ι1, _, _, _, x, d', ok1, r1, e3, k.ext x1⟩⟩
theorem pD_inv (ha : PE X a (tV Fn X.K ia)) : PE X (.UnaryOp .Invert a pos) (tV Fn X.K (.un .inv ia)) :=
  (pe_un rU_inv ha).weak fun σ H Q ⟨F, G, ι, s, d, s', ok, ev, k⟩ => by
    simp only [evE, Option.bind_eq_some_iff, Option.map_eq_some_iff, Prod.exists, Prod.mk.injEq] at ev
    obtain ⟨x, s1, e1, d', e3, e4, e5⟩ := ev
    subst e4 e5
    exact ⟨F, G, ι, s, x, s1, ok, e1, fun v H1 G1 ι1 ok1 x1 r1 => ⟨F, G1, ι1, _, _, _, x, d', ok1, r1, e3, k.ext x1⟩⟩
theorem pD_not (ha : PE X a (tV Fn X.K ia)) : PE X (.UnaryOp .Not a pos) (tV Fn X.K (.lnot ia)) :=
  (pe_not ha).weak fun σ H Q ⟨F, G, ι, s, d, s', ok, ev, k⟩ => by
    simp only [evE, Option.bind_eq_some_iff, Prod.exists] at ev
    obtain ⟨x, s1, e1, e2⟩ := ev
    cases x <;> simp only [reduceCtorEq, Option.some.injEq, Prod.mk.injEq] at e2
    obtain ⟨e2, e3⟩ := e2
    subst e2 e3
    exact ⟨F, G, ι, s, _, s1, ok, e1, fun v H1 G1 ι1 ok1 x1 r1 => by cases r1; exact ⟨_, rfl, (k.ext x1).here ok1 (.bl _)⟩⟩
theorem pD_cmp (hu : X.A.units + 64 < cLine) {op : CmpOp} (hm : noSet b = true) (ha : PE X a (tV Fn X.K ia)) (hb : PE X b (tV Fn X.K ib)) : PE X (.Compare a [op] [b] pos) (tV Fn X.K (.cmp (coOf op) ia ib)) :=
  (pe_cmpR (rC_of hu op) ha hb (marks_of hm op)).weak fun σ H Q ⟨F, G, ι, s, d, s', ok, ev, k⟩ => by
    simp only [evE, Option.bind_eq_some_iff, Option.map_eq_some_iff, Prod.exists, Prod.mk.injEq] at ev
    obtain ⟨x, s1, e1, y, s2, e2, d', e3, e4, e5⟩ := ev
    subst e4 e5
    exact ⟨F, G, ι, s, x, s1, ok, e1, fun v H1 G1 ι1 ok1 x1 r1 => ⟨F, G1, ι1, s1, y, s2, ok1, e2, fun w H2 G2 ι2 ok2 x2 r2 => ⟨F, G2, ι2, _, _, _, x, y, d', ok2, r1.ext x2, r2, e3, (k.ext (x1.trans x2)).here ok2 (.bl _)⟩⟩⟩
theorem pT_cmp (hu : X.A.units + 64 < cLine) {op : CmpOp} (hm : noSet b = true) (ha : PE X a (tV Fn X.K ia)) (hb : PE X b (tV Fn X.K ib)) : PT X (.Compare a [op] [b] pos) (tT Fn X.K (.cmp (coOf op) ia ib)) :=
  (pt_cmpR (rC_of hu op) ha hb (marks_of hm op)).weak fun σ H Q ⟨F, G, ι, s, d, s', ok, ev, k⟩ => by
    simp only [evE, Option.bind_eq_some_iff, Option.map_eq_some_iff, Prod.exists, Prod.mk.injEq, D.bl.injEq] at ev
    obtain ⟨x, s1, e1, y, s2, e2, d', e3, e4, e5⟩ := ev
    subst e4 e5
    exact ⟨F, G, ι, s, x, s1, ok, e1, fun v H1 G1 ι1 ok1 x1 r1 => ⟨F, G1, ι1, s1, y, s2, ok1, e2, fun w H2 G2 ι2 ok2 x2 r2 => ⟨F, G2, ι2, _, _, _, x, y, _, ok2, r1.ext x2, r2, e3, _, rfl, k _ _ _ ok2 (x1.trans x2)⟩⟩⟩
theorem pD_cmpV (hu : X.A.units + 64 < cLine) {op : CmpOp} (hop : op = .In ∨ op = .NotIn) {i : Nat} {x : Str} {p2 : Pos} (hN : X.N[i]? = some x) (hv : Vis X.env.scope x) (hd : (x == ("__debug__" : Str)) = false) (hcd : (x == ("__classdict__" : Str)) = false) (ha : PE X a (tV Fn X.K ia)) :
    PE X (.Compare a [op] [.Name x p2] pos) (tV Fn X.K (.cmpV (coOf op) ia i)) :=
  (pe_cmpR (rCR_of hu hop) ha (pe_var hN hv hd hcd) (marks_of rfl op)).weak fun σ H Q ⟨F, G, ι, s, d, s', ok, ev, k⟩ => by
    simp only [evE, Option.bind_eq_some_iff, Option.map_eq_some_iff, Prod.exists, Prod.mk.injEq] at ev
    obtain ⟨x, s1, e1, c, e2, d', e3, e4, e5⟩ := ev
    subst e4 e5
    exact ⟨F, G, ι, s, x, s1, ok, e1, fun v H1 G1 ι1 ok1 x1 r1 => by
      obtain ⟨w, hw, rw', _⟩ := ok1.peek e2
      exact ⟨w, hw, F, G1, ι1, _, _, _, x, c, d', ok1, r1, rw', e3, (k.ext x1).here ok1 (.bl _)⟩⟩
theorem pT_cmpV (hu : X.A.units + 64 < cLine) {op : CmpOp} (hop : op = .In ∨ op = .NotIn) {i : Nat} {x : Str} {p2 : Pos} (hN : X.N[i]? = some x) (hv : Vis X.env.scope x) (hd : (x == ("__debug__" : Str)) = false) (hcd : (x == ("__classdict__" : Str)) = false) (ha : PE X a (tV Fn X.K ia)) :
    PT X (.Compare a [op] [.Name x p2] pos) (tT Fn X.K (.cmpV (coOf op) ia i)) :=
  (pt_cmpR (rCR_of hu hop) ha (pe_var hN hv hd hcd) (marks_of rfl op)).weak fun σ H Q ⟨F, G, ι, s, d, s', ok, ev, k⟩ => by
    simp only [evE, Option.bind_eq_some_iff, Option.map_eq_some_iff, Prod.exists, Prod.mk.injEq, D.bl.injEq] at ev
    obtain ⟨x, s1, e1, c, e2, d', e3, e4, e5⟩ := ev
    subst e4 e5
    exact ⟨F, G, ι, s, x, s1, ok, e1, fun v H1 G1 ι1 ok1 x1 r1 => by
      obtain ⟨w, hw, rw', _⟩ := ok1.peek e2
      exact ⟨w, hw, F, G1, ι1, _, _, _, x, c, _, ok1, r1, rw', e3, _, rfl, k _ _ _ ok1 x1⟩⟩
theorem lastMarks_of {op op' : CmpOp} (h : noSet c = true) : lastMarks [op, op'] [b, c] = false := by
  show behindInMarks op' c = false
  exact marks_of h op'
theorem cmp2_weak {K : PySem.W.Frag} {op op' : CmpOp} {σ : L2.St} {H : Hp} {Q : VK} (h : tV Fn K (.cmp2 (coOf op) (coOf op') ia ib ic) σ H Q) : tChain (rC K (coOf op)) (rC K (coOf op')) (tV Fn K ia) (tV Fn K ib) (tV Fn K ic) σ H Q := by
  obtain ⟨F, G, ι, s, d, s', ok, ev, k⟩ := h
  simp only [evE, Option.bind_eq_some_iff, Prod.exists] at ev
  obtain ⟨x, s1, e1, y, s2, e2, d', e3, e4⟩ := ev
  refine ⟨F, G, ι, s, x, s1, ok, e1, fun v H1 G1 ι1 ok1 x1 r1 => ⟨F, G1, ι1, s1, y, s2, ok1, e2, fun w H2 G2 ι2 ok2 x2 r2 => ⟨F, G2, ι2, _, _, _, x, y, d', ok2, r1.ext x2, r2, e3, d', rfl, ?_⟩⟩⟩
  cases d' with
  | false =>
    simp only [Bool.false_eq_true, if_false, Option.some.injEq, Prod.mk.injEq] at e4 ⊢
    obtain ⟨e4, e5⟩ := e4
    subst e4 e5
    exact (k.ext (x1.trans x2)).here ok2 (.bl _)
  | true =>
    simp only [if_true, Option.bind_eq_some_iff, Option.map_eq_some_iff, Prod.exists, Prod.mk.injEq] at e4 ⊢
    obtain ⟨z, s3, e5, k', e6, e7, e8⟩ := e4
    subst e7 e8
    exact ⟨F, G2, ι2, s2, z, s3, ok2, e5, fun u H3 G3 ι3 ok3 x3 r3 => ⟨F, G3, ι3, _, _, _, y, z, k', ok3, r2.ext x3, r3, e6, (k.ext (x1.trans (x2.trans x3))).here ok3 (.bl _)⟩⟩
theorem pD_cmp2 (hu : X.A.units + 64 < cLine) {op op' : CmpOp} (hm : noSet c = true) (ha : PE X a (tV Fn X.K ia)) (hb : PE X b (tV Fn X.K ib)) (hc : PE X c (tV Fn X.K ic)) : PE X (.Compare a [op, op'] [b, c] pos) (tV Fn X.K (.cmp2 (coOf op) (coOf op') ia ib ic)) :=
  (pe_chain (rC_of hu op) (rC_of hu op') ha hb hc (lastMarks_of hm)).weak fun σ H Q h => cmp2_weak h
/-- a test's reading as a value's -/
theorem tT_tV {K : PySem.W.Frag} {ie : IE} {σ : L2.St} {H : Hp} {Q : Bool → Hp → Prop} (h : tT Fn K ie σ H Q) : tV Fn K ie σ H fun x H' => ∃ k, x = .bl k ∧ Q k H' := by
  obtain ⟨F, G, ι, s, k, s', ok, ev, q⟩ := h
  exact ⟨F, G, ι, s, _, s', ok, ev, fun v H1 G1 ι1 ok1 x1 r1 => by cases r1; exact ⟨_, rfl, q _ _ _ ok1 x1⟩⟩
theorem pT_cmp2 (hu : X.A.units + 64 < cLine) {op op' : CmpOp} (hm : noSet c = true) (ha : PE X a (tV Fn X.K ia)) (hb : PE X b (tV Fn X.K ib)) (hc : PE X c (tV Fn X.K ic)) : PT X (.Compare a [op, op'] [b, c] pos) (tT Fn X.K (.cmp2 (coOf op) (coOf op') ia ib ic)) :=
  (pt_chain (rC_of hu op) (rC_of hu op') ha hb hc (lastMarks_of hm)).weak fun σ H Q h => cmp2_weak (tT_tV h)
/-- a value that is no list, no dict: by its own check -/
theorem pN_nb (ha : PE X a (tV Fn X.K ia)) : PE X a (tN Fn X.K (.nb ia)) :=
  ha.weak fun σ H Q ⟨F, G, ι, s, d, s', ok, ev, k⟩ => by
    simp only [evE, Option.bind_eq_some_iff, Prod.exists] at ev
    obtain ⟨d1, s1, e1, e2⟩ := ev
    split at e2
    · cases e2
    · rename_i hb
      cases e2
      exact ⟨F, G, ι, s, d, s', ok, e1, k.after (by simpa using hb)⟩
/-! ### tests -/
theorem pT_truth (hp : plainT a = true) (ha : PE X a (tV Fn X.K ia)) : PT X a (tT Fn X.K (.truth ia)) := by
  refine ⟨fun pins s σ H Q I ⟨F, G, ι, es, k, es', ok, ev, q⟩ => ?_⟩
  simp only [evE, Option.bind_eq_some_iff, Option.map_eq_some_iff, Prod.exists, Prod.mk.injEq, D.bl.injEq] at ev
  obtain ⟨d, s1, e1, k', e2, e3, e4⟩ := ev
  subst e3 e4
  exact isTrue_plain (thn (ha.run pins s σ H _ I ⟨F, G, ι, es, d, s1, ok, e1, fun v H1 G1 ι1 ok1 x1 r1 => (⟨G1, ι1, ok1, x1, r1⟩ : ∃ G1 ι1, Ok X.K F G1 ι1 H1 s1.ρ σ s1.st ∧ Ext G ι G1 ι1 ∧ Rep X.K G1 ι1 v d)⟩)
    fun v s2 ⟨x, H1, I1, r1, G1, ι1, ok1, x1, rr⟩ => tru_D pins s2 σ H1 x v Q I1 r1 ⟨F, G1, ι1, _, _, _, d, _, ok1, rr.root ok1.sub, e2, q _ _ _ ok1 x1⟩) (isTrue_of hp X.env _)
theorem pT_truthV {i : Nat} {x : Str} (hN : X.N[i]? = some x) (hv : Vis X.env.scope x) (hd : (x == ("__debug__" : Str)) = false) (hcd : (x == ("__classdict__" : Str)) = false) : PT X (.Name x pos) (tT Fn X.K (.truthV i)) := by
  refine ⟨fun pins s σ H Q I ⟨F, G, ι, es, k, es', ok, ev, q⟩ => ?_⟩
  simp only [evE, Option.bind_eq_some_iff, Option.map_eq_some_iff, Prod.mk.injEq, D.bl.injEq] at ev
  obtain ⟨d, e1, k', e2, e3, e4⟩ := ev
  subst e3 e4
  obtain ⟨w, hw, rw', _⟩ := ok.peek e1
  exact isTrue_plain (thn ((pe_var hN hv hd hcd).run pins s σ H (fun v H1 => v = w ∧ H1 = H) I ⟨w, hw, rfl, rfl⟩)
    fun v s2 ⟨x, H1, I1, r1, ex, eh⟩ => by
      subst ex eh
      exact tru_D pins s2 σ H1 x v Q I1 r1 ⟨F, G, ι, _, _, _, d, _, ok, rw', e2, q _ _ _ ok (Ext.refl _ _)⟩) (isTrue_of rfl X.env _)
theorem pT_not (ha : PT X a (tT Fn X.K ia)) : PT X (.UnaryOp .Not a pos) (tT Fn X.K (.lnot ia)) :=
  (pt_not ha).weak fun σ H Q ⟨F, G, ι, s, d, s', ok, ev, k⟩ => by
    simp only [evE, Option.bind_eq_some_iff, Prod.exists] at ev
    obtain ⟨x, s1, e1, e2⟩ := ev
    cases x <;> simp only [reduceCtorEq, Option.some.injEq, Prod.mk.injEq, D.bl.injEq] at e2
    obtain ⟨e2, e3⟩ := e2
    subst e2 e3
    exact ⟨F, G, ι, s, _, s1, ok, e1, fun H1 G1 ι1 ok1 x1 => k _ _ _ ok1 x1⟩
theorem pT_and {rest : List Expr} (ha : PT X a (tT Fn X.K ia)) (hb : PW X (.BoolOp .And (b :: rest) pos) (tT Fn X.K ib)) : PW X (.BoolOp .And (a :: b :: rest) pos) (tT Fn X.K (.land ia ib)) :=
  (pw_and ha hb).weak fun σ H Q ⟨F, G, ι, s, d, s', ok, ev, k⟩ => by
    simp only [evE, Option.bind_eq_some_iff, Prod.exists] at ev
    obtain ⟨x, s1, e1, e2⟩ := ev
    split at e2
    · exact ⟨F, G, ι, s, true, s1, ok, e1, fun H1 G1 ι1 ok1 x1 => ⟨F, G1, ι1, s1, d, s', ok1, e2, fun H2 G2 ι2 ok2 x2 => k _ _ _ ok2 (x1.trans x2)⟩⟩
    · cases e2
      exact ⟨F, G, ι, s, false, s', ok, e1, fun H1 G1 ι1 ok1 x1 => k _ _ _ ok1 x1⟩
    · cases e2
theorem pT_or {rest : List Expr} (ha : PT X a (tT Fn X.K ia)) (hb : PW X (.BoolOp .Or (b :: rest) pos) (tT Fn X.K ib)) : PW X (.BoolOp .Or (a :: b :: rest) pos) (tT Fn X.K (.lor ia ib)) :=
  (pw_or ha hb).weak fun σ H Q ⟨F, G, ι, s, d, s', ok, ev, k⟩ => by
    simp only [evE, Option.bind_eq_some_iff, Prod.exists] at ev
    obtain ⟨x, s1, e1, e2⟩ := ev
    split at e2
    · cases e2
      exact ⟨F, G, ι, s, true, s', ok, e1, fun H1 G1 ι1 ok1 x1 => k _ _ _ ok1 x1⟩
    · exact ⟨F, G, ι, s, false, s1, ok, e1, fun H1 G1 ι1 ok1 x1 => ⟨F, G1, ι1, s1, d, s', ok1, e2, fun H2 G2 ι2 ok2 x2 => k _ _ _ ok2 (x1.trans x2)⟩⟩
    · cases e2
theorem pD_and {rest : List Expr} (ha : PE X a (tV Fn X.K ia)) (hb : PE X (.BoolOp .And (b :: rest) pos) (tV Fn X.K ib)) : PE X (.BoolOp .And (a :: b :: rest) pos) (tV Fn X.K (.land ia ib)) :=
  (pe_and ha hb).weak fun σ H Q ⟨F, G, ι, s, d, s', ok, ev, k⟩ => by
    simp only [evE, Option.bind_eq_some_iff, Prod.exists] at ev
    obtain ⟨x, s1, e1, e2⟩ := ev
    split at e2
    · exact ⟨F, G, ι, s, .bl true, s1, ok, e1, fun v H1 G1 ι1 ok1 x1 r1 => by
        cases r1
        exact ⟨true, rfl, F, G1, ι1, s1, d, s', ok1, e2, k.ext x1⟩⟩
    · cases e2
      exact ⟨F, G, ι, s, .bl false, s', ok, e1, fun v H1 G1 ι1 ok1 x1 r1 => by
        cases r1
        exact ⟨false, rfl, (k.ext x1).here ok1 (.bl _)⟩⟩
    · cases e2
theorem pD_or {rest : List Expr} (ha : PE X a (tV Fn X.K ia)) (hb : PE X (.BoolOp .Or (b :: rest) pos) (tV Fn X.K ib)) : PE X (.BoolOp .Or (a :: b :: rest) pos) (tV Fn X.K (.lor ia ib)) :=
  (pe_or ha hb).weak fun σ H Q ⟨F, G, ι, s, d, s', ok, ev, k⟩ => by
    simp only [evE, Option.bind_eq_some_iff, Prod.exists] at ev
    obtain ⟨x, s1, e1, e2⟩ := ev
    split at e2
    · cases e2
      exact ⟨F, G, ι, s, .bl true, s', ok, e1, fun v H1 G1 ι1 ok1 x1 r1 => by
        cases r1
        exact ⟨true, rfl, (k.ext x1).here ok1 (.bl _)⟩⟩
    · exact ⟨F, G, ι, s, .bl false, s1, ok, e1, fun v H1 G1 ι1 ok1 x1 r1 => by
        cases r1
        exact ⟨false, rfl, F, G1, ι1, s1, d, s', ok1, e2, k.ext x1⟩⟩
    · cases e2
theorem pD_ite (hc : PT X c (tT Fn X.K ic)) (ha : PE X a (tV Fn X.K ia)) (hb : PE X b (tV Fn X.K ib)) : PE X (.IfExp c a b pos) (tV Fn X.K (.ite ic ia ib)) :=
  (pe_ifExp hc ha hb).weak fun σ H Q ⟨F, G, ι, s, d, s', ok, ev, k⟩ => by
    simp only [evE, Option.bind_eq_some_iff, Prod.exists] at ev
    obtain ⟨x, s1, e1, e2⟩ := ev
    split at e2
    · exact ⟨F, G, ι, s, true, s1, ok, e1, fun H1 G1 ι1 ok1 x1 => ⟨F, G1, ι1, s1, d, s', ok1, e2, k.ext x1⟩⟩
    · exact ⟨F, G, ι, s, false, s1, ok, e1, fun H1 G1 ι1 ok1 x1 => ⟨F, G1, ι1, s1, d, s', ok1, e2, k.ext x1⟩⟩
    · cases e2

/-! ### subscripts -/
theorem pD_idx (hu : X.A.units + 64 < cLine) (hs : noSlice b = true) (ha : PE X a (tV Fn X.K ia)) (hb : PE X b (tV Fn X.K ib)) : PE X (.Subscript a b pos) (tV Fn X.K (.idx ia ib)) :=
  (pe_ix (ix_D hu) ha hb (plainIx_of hs)).weak fun σ H Q ⟨F, G, ι, s, d, s', ok, ev, k⟩ => by
    simp only [evE, Option.bind_eq_some_iff, Option.map_eq_some_iff, Prod.exists, Prod.mk.injEq] at ev
    obtain ⟨x, s1, e1, y, s2, e2, d', e3, e4, e5⟩ := ev
    subst e4 e5
    exact ⟨F, G, ι, s, x, s1, ok, e1, fun v H1 G1 ι1 ok1 x1 r1 => ⟨F, G1, ι1, s1, y, s2, ok1, e2, fun w H2 G2 ι2 ok2 x2 r2 => ⟨F, G2, ι2, _, _, _, x, y, d', ok2, (r1.ext x2).root ok2.sub, r2, e3, k.ext (x1.trans x2)⟩⟩⟩
theorem pD_idxV (hu : X.A.units + 64 < cLine) (hs : noSlice b = true) {i : Nat} {x : Str} {p2 : Pos} (hN : X.N[i]? = some x) (hv : Vis X.env.scope x) (hd : (x == ("__debug__" : Str)) = false) (hcd : (x == ("__classdict__" : Str)) = false) (hb : PE X b (tV Fn X.K ib)) :
    PE X (.Subscript (.Name x p2) b pos) (tV Fn X.K (.idxV i ib)) :=
  (pe_ix (ix_D hu) (pe_var hN hv hd hcd) hb (plainIx_of hs)).weak fun σ H Q ⟨F, G, ι, s, d, s', ok, ev, k⟩ => by
    simp only [evE, Option.bind_eq_some_iff, Option.map_eq_some_iff, Prod.exists, Prod.mk.injEq] at ev
    obtain ⟨c0, e0, y, s1, e1, c, e2, d', e3, e4, e5⟩ := ev
    subst e4 e5
    obtain ⟨v, hv', _⟩ := ok.peek e0
    exact ⟨v, hv', F, G, ι, s, y, s1, ok, e1, fun w H1 G1 ι1 ok1 x1 r1 => by
      obtain ⟨v2, hw, rw', _⟩ := ok1.peek e2
      rw [hv'] at hw
      cases hw
      exact ⟨F, G1, ι1, _, _, _, c, y, d', ok1, rw', r1, e3, k.ext x1⟩⟩
end
end Ev

-- EvC
set_option autoImplicit true
set_option Elab.async false
set_option linter.all false
set_option maxRecDepth 100000
set_option maxHeartbeats 4000000
set_option autoImplicit false
/-! EvC: slices, calls, built-ins, methods. -/
namespace Ev
open PySem PySem.Spec PyProof.Rows L2

/-- what a def of the table promises -/
def spD (K : PySem.W.Frag) (Fn : Fn) (f : Nat) (fr : Bool) : Sp := fun vs H Q E => ∃ F G ι ds st d st', Ok K F G ι H [] [] st ∧ Reps K G ι vs ds ∧ Fn f ds st = some (d, st') ∧
  ∀ v H' G' ι', Ok K F G' ι' H' [] [] st' → Ext G ι G' ι' → (if fr = true then NewRoot K F G' ι' H' [] [] v d else Rep K G' ι' v d) → Q v H'
def CXn : CXT := fun _ _ _ _ _ _ => False
theorem passn {X : Cx} {E : XK} : Passes CXn X E := fun _ _ _ _ _ _ _ h => h.elim
def En : XK := fun _ _ _ => False

/-- a slot's box, written -/
theorem Ok.poke {K : PySem.W.Frag} {F G H : Hp} {ι : List Addr} {σ : L2.St} {s s' : S} (ok : Ok K F G ι H s.ρ σ s.st) {i : Nat} {c d : D} (e : Ev.peek s i = some c) (hb : isBox c = true) (p : Ev.poke s i d = some s') :
    ∃ a, σ[i]? = some (some (.ref a)) ∧ OwnAt K G ι H a c ∧ ∀ o, OwnAt K G ι (upd H a o) a d → Ok K F G ι (upd H a o) s'.ρ σ s'.st := by
  unfold Ev.poke at p
  unfold Ev.peek Ev.getV at e
  cases q : s.ρ[i]? with
  | none => rw [q] at e; simp at e
  | some sl =>
    rw [q] at e p
    cases sl with
    | un => simp at e
    | v d0 =>
      cases d0 <;> simp only [reduceCtorEq] at p
      rename_i n
      simp only at e
      split at p
      · rename_i hn
        cases p
        obtain ⟨v, h1, r⟩ := ok.slots i _ q
        cases r with
        | @ref a _ ha =>
          exact ⟨a, h1, ok.cells n a c ha e, fun o w => ok.writeCell ha w⟩
      · cases p
    | o d0 =>
      simp only at e p
      cases p
      obtain ⟨a, h1, g, hi, f, w⟩ := ok.slots i _ q
      have ed : d0 = c := by
        split at e
        · rename_i n hn
          cases hn
          exact w.elim
        · cases e; rfl
      subst ed
      exact ⟨a, h1, w, fun o w' => ok.write q h1 w'⟩

section
variable {X : Cx} {Fn : Fn} {a b c e : Expr} {ia ib ic : IE} {es : List Expr} {ies : IEs} {pos : Pos}
/-! ### slices -/
def tP (Fn : Ev.Fn) (K : PySem.W.Frag) (ie : IE) : TO := fun σ H Q => ∃ F G ι s d s' l, Ok K F G ι H s.ρ σ s.st ∧ evE Fn ie s = some (d, s') ∧ partD d = some l ∧ ∀ H' G' ι', Ok K F G' ι' H' s'.ρ σ s'.st → Ext G ι G' ι' → Q l H'
theorem po_noneD : PO X none (tP Fn X.K (.cst .non)) := by
  refine ⟨fun pins s σ H Q I ⟨F, G, ι, s0, d, s', l, ok, ev, p, k⟩ => po_none.run pins s σ H Q I ?_⟩
  cases ev
  cases p
  exact k _ _ _ ok (Ext.refl _ _)
/-- an int, by its own check -/
theorem po_someD (he : PE X e (tV Fn X.K ia)) : PO X (some e) (tP Fn X.K (.un .part ia)) := by
  refine ⟨fun pins s σ H Q I ⟨F, G, ι, s0, d, s', l, ok, ev, p, k⟩ => (po_some he).run pins s σ H Q I ?_⟩
  simp only [evE, Option.bind_eq_some_iff, Option.map_eq_some_iff, Prod.exists, Prod.mk.injEq] at ev
  obtain ⟨x, s1, e1, d', e2, e3, e4⟩ := ev
  subst e3 e4
  refine ⟨F, G, ι, s0, x, s1, ok, e1, fun v H1 G1 ι1 ok1 x1 r1 => ?_⟩
  cases x <;> simp only [unD, reduceCtorEq, Option.some.injEq] at e2
  subst e2
  cases p
  cases r1
  exact ⟨_, rfl, k _ _ _ ok1 x1⟩
theorem pD_slc {lo hi : Option Expr} {il ih : IE} {p2 : Pos} (ha : PE X a (tV Fn X.K ia)) (hl : PO X lo (tP Fn X.K il)) (hh : PO X hi (tP Fn X.K ih)) : PE X (.Subscript a (.Slice lo hi none p2) pos) (tV Fn X.K (.slc ia il ih)) :=
  (pe_slice sl_D ha hl hh).weak fun σ H Q ⟨F, G, ι, s, d, s', ok, ev, k⟩ => by
    simp only [evE, slcD, Option.bind_eq_some_iff, Option.map_eq_some_iff, Prod.exists, Prod.mk.injEq] at ev
    obtain ⟨x, s1, e1, y, s2, e2, z, s3, e3, d', ⟨l, e4, h, e5, e6⟩, e7, e8⟩ := ev
    subst e7 e8
    exact ⟨F, G, ι, s, x, s1, ok, e1, fun v H1 G1 ι1 ok1 x1 r1 => ⟨F, G1, ι1, s1, y, s2, l, ok1, e2, e4, fun H2 G2 ι2 ok2 x2 => ⟨F, G2, ι2, s2, z, s3, h, ok2, e3, e5, fun H3 G3 ι3 ok3 x3 =>
      ⟨F, G3, ι3, _, _, _, x, d', ok3, r1.ext (x2.trans x3), e6, k.ext (x1.trans (x2.trans x3))⟩⟩⟩⟩
theorem pN_rev {k : Nat} {p1 p2 p3 : Pos} (ha : PE X a (tV Fn X.K ia)) : PE X (.Subscript a (.Slice none none (some (.UnaryOp .USub (.Constant (.int 1) k p1) p2)) p3) pos) (tN Fn X.K (.rev ia)) :=
  (pe_revL ha).weak fun σ H Q ⟨F, G, ι, s, d, s', ok, ev, k⟩ => by
    simp only [evE, Option.bind_eq_some_iff, Option.map_eq_some_iff, Prod.exists, Prod.mk.injEq] at ev
    obtain ⟨x, s1, e1, d', e2, e3, e4⟩ := ev
    subst e3 e4
    cases x <;> simp only [revD, reduceCtorEq, Option.some.injEq] at e2
    subst e2
    exact ⟨F, G, ι, s, _, s1, ok, e1, fun v H1 G1 ι1 ok1 x1 r1 => by
      cases r1 with
      | lst h1 h2 => exact ⟨_, _, rfl, SqL.of (ok1.sub _ _ h1), fun p hp => (k.ext x1).lst ok1 h2.reverse hp⟩⟩

/-! ### calls -/
section
variable {k j f : Nat} {fa : Addr} {fd : FuncData} {ps : List Str} {x : Str} {fr : Bool} {p : Pos}
theorem call_step {σ : L2.St} {F G H : Hp} {ι : List Addr} {s : S} {vs : List V} {ds : List D} {d : D} {st' : List D} {Q : VK} (ok : Ok X.K F G ι H s.ρ σ s.st) (r : Reps X.K G ι vs ds) (e : Fn f ds s.st = some (d, st'))
    (k : ∀ v H' G' ι', Ok X.K F G' ι' H' s.ρ σ st' → Ext G ι G' ι' → (if fr = true then NewRoot X.K F G' ι' H' s.ρ σ v d else Rep X.K G' ι' v d) → Q v H') : spD X.K Fn f fr vs H Q En :=
  ⟨_, G, ι, ds, s.st, d, st', ok.enter, r, e, fun v H' G' ι' ok' x q => k v H' G' ι' (ok.leave ok' x) x (by
    cases fr with
    | false => exact q
    | true =>
      simp only [if_true] at q ⊢
      rcases q with ⟨h1, a, h2, h3, h4⟩ | ⟨h1, h2⟩
      · exact .inl ⟨h1, a, h2, ok.leaveAway (st' := st') h3, h4⟩
      · exact .inr ⟨h1, h2⟩)⟩
/-- a call's reading, whether its value is new or not -/
def tCl (Fn : Ev.Fn) (K : PySem.W.Frag) (fr : Bool) (ie : IE) : TE := fun σ H Q => ∃ F G ι s d s', Ok K F G ι H s.ρ σ s.st ∧ evE Fn ie s = some (d, s') ∧
      ∀ v H' G' ι', Ok K F G' ι' H' s'.ρ σ s'.st → Ext G ι G' ι' → (if fr = true then NewRoot K F G' ι' H' s'.ρ σ v d else Rep K G' ι' v d) → Q v H'
theorem pCl_call0 (C : FnOk X.prog X.w X.K X.mg X.base CXn k fa fd ps (spD X.K Fn f fr)) (hr : Room k X.A) (hg : Gl X x) (hm : X.mg x = some (.ref fa)) (hk : PySem.W.keepIn X.K (.ref fa) = true) (hb : Binds X.K fd ps [])
    (hdb : (x == ("__debug__" : Str)) = false) : PE X (.Call (.Name x p) [] [] pos) (tCl Fn X.K fr (.call f .nil)) := by
  refine (pe_call0 C hr hg hm hk hb .nil passn hdb (E := En) (pos := pos)).weak fun σ H Q ⟨F, G, ι, s, d, s', ok, ev, k⟩ => ?_
  simp only [evE, Option.bind_eq_some_iff, Option.map_eq_some_iff, Prod.exists, Prod.mk.injEq] at ev
  obtain ⟨ds, s1, e1, d', st', e2, e3, e4⟩ := ev
  subst e3 e4
  cases e1
  exact call_step ok .nil e2 fun v H' G' ι' ok' x q => k v H' G' ι' ok' x q
theorem pCl_call (C : FnOk X.prog X.w X.K X.mg X.base CXn k fa fd ps (spD X.K Fn f fr)) (hr : Room k X.A) (hg : Gl X x) (hm : X.mg x = some (.ref fa)) (hk : PySem.W.keepIn X.K (.ref fa) = true) (hb : Binds X.K fd ps [])
    (ha : PA X (e :: es) (tVs Fn X.K ies)) (hdb : (x == ("__debug__" : Str)) = false) (hs : (e :: es).all noStar = true) : PE X (.Call (.Name x p) (e :: es) [] pos) (tCl Fn X.K fr (.call f ies)) := by
  simp only [List.all_cons, Bool.and_eq_true] at hs
  refine (pe_call C hr hg hm hk hb .nil passn ha hdb (star_cons hs.1 es X.env) (star_any hs.2 pos X.env) (E := En)).weak fun σ H Q ⟨F, G, ι, s, d, s', ok, ev, k⟩ => ?_
  simp only [evE, Option.bind_eq_some_iff, Option.map_eq_some_iff, Prod.exists, Prod.mk.injEq] at ev
  obtain ⟨ds, s1, e1, d', st', e2, e3, e4⟩ := ev
  subst e3 e4
  refine ⟨F, G, ι, s, ds, s1, ok, e1, fun vs H1 G1 ι1 ok1 x1 r1 => ?_⟩
  show spD X.K Fn f fr (vs ++ []) H1 Q En
  rw [List.append_nil]
  exact call_step ok1 r1 e2 fun v H' G' ι' ok' x q => k v H' G' ι' ok' (x1.trans x) q
theorem clN {ie : IE} (h : PE X a (tCl Fn X.K true ie)) : PE X a (tN Fn X.K ie) := h
theorem clV {fr : Bool} {ie : IE} (h : PE X a (tCl Fn X.K fr ie)) : PE X a (tV Fn X.K ie) := by
  cases fr with
  | true => exact (clN h).asV
  | false => exact h
end
/-! ### built-ins -/
section
variable {b : Blt} {x : Str} {p nm : Pos} {id T : String}
/-- one argument, a root -/
def tK (Fn : Ev.Fn) (K : PySem.W.Frag) (ie : IE) : TE := fun σ H Q => ∃ F G ι s d s', Ok K F G ι H s.ρ σ s.st ∧ evE Fn ie s = some (d, s') ∧ After K F G ι s'.ρ σ s'.st d Q
theorem pD_blt (hc : CallR X (.builtin id) (rK X.K (blt1 b))) (hg : Gl X x) (hm : X.mg x = none) (hv : bootBuiltins x = some (.builtin id)) (ha : PE X a (tV Fn X.K ia)) (hn : x ≠ "__name__") (hdb : (x == ("__debug__" : Str)) = false) (hs : noStar a = true) :
    PE X (.Call (.Name x p) [a] [] pos) (tV Fn X.K (.blt b ia)) :=
  (pe_callB hc hg hm hv (pa_cons ha pa_nil (star_cons hs [] X.env)) hn hdb (star_cons hs [] X.env)).weak fun σ H Q ⟨F, G, ι, s, d, s', ok, ev, k⟩ => by
    simp only [evE, Option.bind_eq_some_iff, Option.map_eq_some_iff, Prod.exists, Prod.mk.injEq] at ev
    obtain ⟨x, s1, e1, d', e2, e3, e4⟩ := ev
    subst e3 e4
    exact ⟨F, G, ι, s, x, s1, ok, e1, fun v H1 G1 ι1 ok1 x1 r1 => ⟨F, G1, ι1, _, _, _, v, x, d', rfl, ok1, r1.root ok1.sub, e2, k.ext x1⟩⟩
theorem pD_bltT (hc : CallR X (.type T) (rK X.K (blt1 b))) (hg : Gl X x) (hm : X.mg x = none) (hv : bootBuiltins x = some (.type T)) (ha : PE X a (tV Fn X.K ia)) (hn : x ≠ "__name__") (hdb : (x == ("__debug__" : Str)) = false) (hs : noStar a = true) :
    PE X (.Call (.Name x p) [a] [] pos) (tV Fn X.K (.blt b ia)) :=
  (pe_callTy hc hg hm hv (pa_cons ha pa_nil (star_cons hs [] X.env)) hn hdb (star_cons hs [] X.env)).weak fun σ H Q ⟨F, G, ι, s, d, s', ok, ev, k⟩ => by
    simp only [evE, Option.bind_eq_some_iff, Option.map_eq_some_iff, Prod.exists, Prod.mk.injEq] at ev
    obtain ⟨x, s1, e1, d', e2, e3, e4⟩ := ev
    subst e3 e4
    exact ⟨F, G, ι, s, x, s1, ok, e1, fun v H1 G1 ι1 ok1 x1 r1 => ⟨F, G1, ι1, _, _, _, v, x, d', rfl, ok1, r1.root ok1.sub, e2, k.ext x1⟩⟩
theorem pD_bltV (hc : CallR X (.builtin id) (rK X.K (blt1 b))) (hg : Gl X x) (hm : X.mg x = none) (hv : bootBuiltins x = some (.builtin id)) (hn : x ≠ "__name__") (hdb : (x == ("__debug__" : Str)) = false)
    {i : Nat} {y : Str} (hN : X.N[i]? = some y) (hy : Vis X.env.scope y) (hd : (y == ("__debug__" : Str)) = false) (hcd : (y == ("__classdict__" : Str)) = false) :
    PE X (.Call (.Name x p) [.Name y nm] [] pos) (tV Fn X.K (.bltV b i)) :=
  (pe_callB hc hg hm hv (pa_cons (pe_var hN hy hd hcd) pa_nil) hn hdb).weak fun σ H Q ⟨F, G, ι, s, d, s', ok, ev, k⟩ => by
    simp only [evE, Option.bind_eq_some_iff, Option.map_eq_some_iff, Prod.mk.injEq] at ev
    obtain ⟨x, e1, d', e2, e3, e4⟩ := ev
    subst e3 e4
    obtain ⟨v, h1, h2, _⟩ := ok.peek e1
    exact ⟨v, h1, F, G, ι, _, _, _, v, x, d', rfl, ok, h2, e2, k⟩
theorem pD_bltB (hc : CallR X (.builtin id) (rK2 X.K (blt2 b))) (hg : Gl X x) (hm : X.mg x = none) (hv : bootBuiltins x = some (.builtin id)) (ha : PE X a (tV Fn X.K ia)) (hb : PE X c (tV Fn X.K ic)) (hn : x ≠ "__name__") (hdb : (x == ("__debug__" : Str)) = false) (hs : [a, c].all noStar = true) :
    PE X (.Call (.Name x p) [a, c] [] pos) (tV Fn X.K (.bltB b ia ic)) := by
  simp only [List.all_cons, Bool.and_eq_true] at hs
  refine (pe_callB hc hg hm hv (pa_cons ha (pa_cons hb pa_nil (star_cons hs.2.1 [] X.env)) (star_cons hs.1 [c] X.env)) hn hdb (star_cons hs.1 [c] X.env) (star_any (es := [c]) (by simp [hs.2.1]) pos X.env)).weak fun σ H Q ⟨F, G, ι, s, d, s', ok, ev, k⟩ => ?_
  simp only [evE, Option.bind_eq_some_iff, Option.map_eq_some_iff, Prod.exists, Prod.mk.injEq] at ev
  obtain ⟨x, s1, e1, y, s2, e2, d', e3, e4, e5⟩ := ev
  subst e4 e5
  exact ⟨F, G, ι, s, x, s1, ok, e1, fun v H1 G1 ι1 ok1 x1 r1 => ⟨F, G1, ι1, s1, y, s2, ok1, e2, fun w H2 G2 ι2 ok2 x2 r2 => ⟨F, G2, ι2, _, _, _, v, w, x, y, d', rfl, ok2, r1.ext x2, r2, e3, k.ext (x1.trans x2)⟩⟩⟩
/-- tuple(e) -/
theorem pD_tuple (hg : Gl X "tuple") (hm : X.mg "tuple" = none) (ha : PE X a (tV Fn X.K ia)) (hs : noStar a = true) : PE X (.Call (.Name "tuple" p) [a] [] pos) (tV Fn X.K (.blt .tuple ia)) :=
  (pe_callTy cD_tuple hg hm (by rfl) (pa_cons ha pa_nil (star_cons hs [] X.env)) (by decide) (by decide) (star_cons hs [] X.env)).weak fun σ H Q ⟨F, G, ι, s, d, s', ok, ev, k⟩ => by
    simp only [evE, Option.bind_eq_some_iff, Option.map_eq_some_iff, Prod.exists, Prod.mk.injEq] at ev
    obtain ⟨x, s1, e1, d', e2, e3, e4⟩ := ev
    subst e3 e4
    exact ⟨F, G, ι, s, x, s1, ok, e1, fun v H1 G1 ι1 ok1 x1 r1 => ⟨F, G1, ι1, _, _, _, v, x, d', rfl, ok1, r1.root ok1.sub, fun _ _ => r1, e2, k.ext x1⟩⟩
theorem pD_tupleV (hg : Gl X "tuple") (hm : X.mg "tuple" = none) {i : Nat} {y : Str} (hN : X.N[i]? = some y) (hy : Vis X.env.scope y) (hd : (y == ("__debug__" : Str)) = false) (hcd : (y == ("__classdict__" : Str)) = false) :
    PE X (.Call (.Name "tuple" p) [.Name y nm] [] pos) (tV Fn X.K (.bltV .tuple i)) :=
  (pe_callTy cD_tuple hg hm (by rfl) (pa_cons (pe_var hN hy hd hcd) pa_nil) (by decide) (by decide)).weak fun σ H Q ⟨F, G, ι, s, d, s', ok, ev, k⟩ => by
    simp only [evE, Option.bind_eq_some_iff, Option.map_eq_some_iff, Prod.mk.injEq] at ev
    obtain ⟨x, e1, d', e2, e3, e4⟩ := ev
    subst e3 e4
    obtain ⟨v, h1, h2, h3⟩ := ok.peek e1
    exact ⟨v, h1, F, G, ι, _, _, _, v, x, d', rfl, ok, h2, h3, e2, k⟩
/-- sep.join(e), sep written -/
theorem pD_join {sep : Str} {j : Nat} {p1 apos : Pos} (ha : PE X a (tV Fn X.K ia)) (hl : (apos.endLine == pos.line) = true) (hs : noStar a = true) :
    PE X (.Call (.Attribute (.Constant (.str sep) j p1) "join" apos) [a] [] pos) (tV Fn X.K (.blt (.join sep) ia)) :=
  (pe_bm PySem.F.plainAttrs_str PySem.F.slot_str_join PySem.F.type_str_join mD_join pe_str (pa_cons ha pa_nil (star_cons hs [] X.env)) (base_of (by intro f a k p z; cases z) _)
    (by have := star_few (es := [a]) (by simp [hs]) pos X.env; rw [this]; rfl) hl (star_cons hs [] X.env)).weak fun σ H Q ⟨F, G, ι, s, d, s', ok, ev, k⟩ => by
    simp only [evE, Option.bind_eq_some_iff, Option.map_eq_some_iff, Prod.exists, Prod.mk.injEq] at ev
    obtain ⟨x, s1, e1, d', e2, e3, e4⟩ := ev
    subst e3 e4
    exact ⟨rfl, F, G, ι, s, x, s1, ok, e1, fun v H1 G1 ι1 ok1 x1 r1 => ⟨rfl, F, G1, ι1, _, _, _, v, x, d', rfl, ok1, r1.root ok1.sub, e2, k.ext x1⟩⟩
end
end
end Ev

-- EvM
set_option autoImplicit true
set_option Elab.async false
set_option linter.all false
set_option maxRecDepth 100000
set_option maxHeartbeats 4000000
set_option autoImplicit false
/-! EvM: new lists by built-ins; isinstance; methods that change a slot's list. -/
namespace Ev
open PySem PySem.Spec PyProof.Rows L2

/-! ### new ones -/
def rKN (K : PySem.W.Frag) (f : D → Option D) : List V → Hp → VK → Prop := fun xs H Q => ∃ F G ι ρ σ st x a d, xs = [x] ∧ Ok K F G ι H ρ σ st ∧ Root K G ι H x a ∧ f a = some d ∧ AfterN K F G ι ρ σ st d Q
def rBN (K : PySem.W.Frag) (f : D → D → Option D) : R2 := fun x y H Q => ∃ F G ι ρ σ st a b d, Ok K F G ι H ρ σ st ∧ Rep K G ι x a ∧ Rep K G ι y b ∧ f a b = some d ∧ AfterN K F G ι ρ σ st d Q
section
variable {X : Cx}
theorem cD_dictN : CallR X (.type "dict") (rKN X.K (blt1 .dict)) := by
  rintro pins s σ H xs us Q I r ⟨F, G, ι, ρ, σ', st, x, a, d, rfl, ok, ra, e, k⟩
  cases a <;> simp only [blt1, reduceCtorEq, Option.some.injEq] at e
  subst e
  obtain ⟨p, kvs, rfl, h1, h2⟩ := ra
  exact call_dictD pins s σ H _ us Q I r ⟨_, _, rfl, .inl h1, fun p hp => k.dct ok h2 hp⟩
theorem cD_listN (hc : X.calm = true) : CallR X (.type "list") (rKN X.K (blt1 .list)) := by
  rintro pins s σ H xs us Q I r ⟨F, G, ι, ρ, σ', st, x, a, d, rfl, ok, ra, e, k⟩
  cases a <;> simp only [blt1, reduceCtorEq, Option.some.injEq] at e
  · subst e
    obtain ⟨p, xs, rfl, h1, h2⟩ := ra
    exact call_list_of pins s σ H _ us Q I r ⟨_, _, rfl, .inr h1, fun p hp => k.lst ok h2 hp⟩
  · subst e
    obtain ⟨p, xs, rfl, h1, h2⟩ := ra
    exact call_list_of pins s σ H _ us Q I r ⟨_, _, rfl, .inl (SqL.of h1), fun p hp => k.lst ok h2 hp⟩
  · subst e
    obtain ⟨p, kvs, rfl, h1, h2⟩ := ra
    exact call_listD hc pins s σ H _ us Q I r ⟨_, _, rfl, .inl h1, fun p hp => k.lst ok h2.keys hp⟩
theorem rBN_add : OpR X (binaryOp .Add) (rBN X.K (binD .add)) := by
  rintro pins s σ H x y v u Q I rx ry ⟨F, G, ι, ρ, σ', st, a, b, d, ok, ra, rb, e, k⟩
  cases hb : isBox d with
  | false => exact rB_add pins s σ H x y v u Q I rx ry ⟨F, G, ι, ρ, σ', st, a, b, d, ok, ra, rb, e, k.after hb⟩
  | true =>
    cases a <;> cases b <;> simp only [binD, Option.some.injEq, reduceCtorEq] at e
    · subst e; cases hb
    · split at e
      · cases e; cases hb
      · cases e
    · split at e
      · cases e; cases hb
      · cases e
    · split at e
      · rename_i as bs hz
        cases e
        cases ra with
        | lst h1 r1 =>
        cases rb with
        | lst h2 r2 =>
        exact op_cat pins s σ H _ _ v u Q I rx ry ⟨_, _, _, _, rfl, rfl, ok.sub _ _ h1, ok.sub _ _ h2, by rw [r1.length, r2.length]; exact hz, fun p hp => k.lst ok (r1.append r2) hp⟩
      · cases e
end
section
variable {X : Cx} {Fn : Fn} {a b c e : Expr} {ia ib ic : IE} {es : List Expr} {ies : IEs} {pos : Pos}
theorem pN_add (ha : PE X a (tV Fn X.K ia)) (hb : PE X b (tV Fn X.K ib)) : PE X (.BinOp a .Add b pos) (tN Fn X.K (.bin .add ia ib)) :=
  (pe_op rBN_add ha hb).weak fun σ H Q ⟨F, G, ι, s, d, s', ok, ev, k⟩ => by
    simp only [evE, Option.bind_eq_some_iff, Option.map_eq_some_iff, Prod.exists, Prod.mk.injEq] at ev
    obtain ⟨x, s1, e1, y, s2, e2, d', e3, e4, e5⟩ := ev
    subst e4 e5
    exact ⟨F, G, ι, s, x, s1, ok, e1, fun v H1 G1 ι1 ok1 x1 r1 => ⟨F, G1, ι1, s1, y, s2, ok1, e2, fun w H2 G2 ι2 ok2 x2 r2 => ⟨F, G2, ι2, _, _, _, x, y, d', ok2, r1.ext x2, r2, e3, k.ext (x1.trans x2)⟩⟩⟩
section
variable {b : Blt} {x : Str} {p nm : Pos} {id T : String}
theorem pN_bltT (hc : CallR X (.type T) (rKN X.K (blt1 b))) (hg : Gl X x) (hm : X.mg x = none) (hv : bootBuiltins x = some (.type T)) (ha : PE X a (tV Fn X.K ia)) (hn : x ≠ "__name__") (hdb : (x == ("__debug__" : Str)) = false) (hs : noStar a = true) :
    PE X (.Call (.Name x p) [a] [] pos) (tN Fn X.K (.blt b ia)) :=
  (pe_callTy hc hg hm hv (pa_cons ha pa_nil (star_cons hs [] X.env)) hn hdb (star_cons hs [] X.env)).weak fun σ H Q ⟨F, G, ι, s, d, s', ok, ev, k⟩ => by
    simp only [evE, Option.bind_eq_some_iff, Option.map_eq_some_iff, Prod.exists, Prod.mk.injEq] at ev
    obtain ⟨x, s1, e1, d', e2, e3, e4⟩ := ev
    subst e3 e4
    exact ⟨F, G, ι, s, x, s1, ok, e1, fun v H1 G1 ι1 ok1 x1 r1 => ⟨F, G1, ι1, _, _, _, v, x, d', rfl, ok1, r1.root ok1.sub, e2, k.ext x1⟩⟩
theorem pN_bltTV (hc : CallR X (.type T) (rKN X.K (blt1 b))) (hg : Gl X x) (hm : X.mg x = none) (hv : bootBuiltins x = some (.type T)) (hn : x ≠ "__name__") (hdb : (x == ("__debug__" : Str)) = false)
    {i : Nat} {y : Str} (hN : X.N[i]? = some y) (hy : Vis X.env.scope y) (hd : (y == ("__debug__" : Str)) = false) (hcd : (y == ("__classdict__" : Str)) = false) :
    PE X (.Call (.Name x p) [.Name y nm] [] pos) (tN Fn X.K (.bltV b i)) :=
  (pe_callTy hc hg hm hv (pa_cons (pe_var hN hy hd hcd) pa_nil) hn hdb).weak fun σ H Q ⟨F, G, ι, s, d, s', ok, ev, k⟩ => by
    simp only [evE, Option.bind_eq_some_iff, Option.map_eq_some_iff, Prod.mk.injEq] at ev
    obtain ⟨x, e1, d', e2, e3, e4⟩ := ev
    subst e3 e4
    obtain ⟨v, h1, h2, _⟩ := ok.peek e1
    exact ⟨v, h1, F, G, ι, _, _, _, v, x, d', rfl, ok, h2, e2, k⟩
end
/-! ### isinstance -/
def tyN : Ty → String
  | .int => "int"
  | .bool => "bool"
  | .str => "str"
  | .tuple => "tuple"
  | .list => "list"
  | .dict => "dict"
  | .none => "NoneType"
/-- the type of such data -/
def tyD : D → Option Ty
  | .non => some .none
  | .bl _ => some .bool
  | .int _ => some .int
  | .str _ => some .str
  | .tup _ => some .tuple
  | .lst _ => some .list
  | .dct _ => some .dict
  | _ => Option.none
/-- which subclass which -/
def subTy (t u : Ty) : Bool := decide (t = u) || (decide (t = .bool) && decide (u = .int))
theorem tyOf_sub {d : D} {t u : Ty} (h : tyD d = some t) (hu : u ≠ .none) : tyOf d u = subTy t u := by
  cases d <;> simp only [tyD, Option.some.injEq, reduceCtorEq] at h <;> subst h <;> cases u <;> first | rfl | exact absurd rfl hu
theorem kit_sub (K : PySem.W.Frag) {t u : Ty} (hu : u ≠ .none) : PySem.W.kitOne K (.type (tyN t)) (.type (tyN u)) = some (subTy t u) := by
  cases t <;> cases u <;> first | exact absurd rfl hu | exact kit_ty (by decide)
theorem seqT_ty {K : PySem.W.Frag} {H : Hp} {a : Addr} {xs : List V} (h : SqT K H a xs) : TyX K H (.ref a) (.type "tuple") := by
  rcases h with (h | ⟨ob, h⟩) | ⟨o, its, n, h1, h2, _⟩
  · exact .base (.tup h)
  · exact .fTuple h
  · exact .kTuple h1 h2
theorem root_ty {K : PySem.W.Frag} {F G H : Hp} {ι : List Addr} {ρ : List Sl} {σ : L2.St} {st : List D} (ok : Ok K F G ι H ρ σ st) {v : V} {d : D} {t : Ty} (r : Root K G ι H v d) (h : tyD d = some t) : TyX K H v (.type (tyN t)) := by
  cases d <;> simp only [tyD, Option.some.injEq, reduceCtorEq] at h <;> subst h
  · cases (show Rep K G ι v .non from r); exact .base .non
  · cases (show Rep K G ι v (.bl _) from r); exact .base (.bl _)
  · cases (show Rep K G ι v (.int _) from r); exact .base (.int _)
  · cases (show Rep K G ι v (.str _) from r); exact .base (.str _)
  · obtain ⟨a, xs, rfl, h1, h2⟩ := r
    exact seqT_ty h1
  · obtain ⟨a, xs, rfl, h1, h2⟩ := r
    exact .base (.lst h1)
  · obtain ⟨a, xs, rfl, h1, h2⟩ := r
    exact .base (.dK h1)
theorem pe_tyName {x : Str} {T : String} {p : Pos} (hg : Gl X x) (hm : X.mg x = none) (hv : bootBuiltins x = some (.type T)) (hn : x ≠ "__name__") (hdb : (x == ("__debug__" : Str)) = false) : PE X (.Name x p) (tC (.ty T)) :=
  ⟨fun pins s σ H Q I h => ld_blt I hg hm hv ⟨.ty T, H, I, rfl, h⟩ hn hdb⟩
def TyName (x : Str) (t : Ty) : Prop := bootBuiltins x = some (.type (tyN t)) ∧ x ≠ "__name__" ∧ (x == ("__debug__" : Str)) = false ∧ t ≠ .none
theorem isi_ty {d : D} {ts : List Ty} {r : D} (h : blt1 (.isi ts) d = some r) : ∃ t, tyD d = some t ∧ r = .bl (ts.any (tyOf d)) := by
  cases d <;> simp only [blt1, reduceCtorEq, Option.some.injEq] at h <;> exact ⟨_, rfl, h.symm⟩
/-- isinstance(e, T) -/
theorem pD_isi {x : Str} {t : Ty} {p p2 : Pos} (hg : Gl X "isinstance") (hm : X.mg "isinstance" = none) (hx : TyName x t) (hgx : Gl X x) (hmx : X.mg x = none) (ha : PE X a (tV Fn X.K ia)) (hs : noStar a = true) :
    PE X (.Call (.Name "isinstance" p) [a, .Name x p2] [] pos) (tV Fn X.K (.blt (.isi [t]) ia)) :=
  (pe_callB call_isi hg hm (by rfl) (pa_cons ha (pa_cons (pe_tyName hgx hmx hx.1 hx.2.1 hx.2.2.1) pa_nil) (star_cons hs [_] X.env)) (by decide) (by decide) (star_cons hs [_] X.env) (by rfl)).weak fun σ H Q ⟨F, G, ι, s, d, s', ok, ev, k⟩ => by
    simp only [evE, Option.bind_eq_some_iff, Option.map_eq_some_iff, Prod.exists, Prod.mk.injEq] at ev
    obtain ⟨y, s1, e1, d', e2, e3, e4⟩ := ev
    subst e3 e4
    obtain ⟨ty, h1, h2⟩ := isi_ty e2
    subst h2
    refine ⟨F, G, ι, s, y, s1, ok, e1, fun v H1 G1 ι1 ok1 x1 r1 => ⟨v, .ty (tyN t), .type (tyN ty), .type (tyN t), subTy ty t, rfl, .ty _, root_ty ok1 (r1.root ok1.sub) h1, kit_sub _ hx.2.2.2, ?_⟩⟩
    have := (k.ext x1).here ok1 (.bl _)
    rw [← tyOf_sub h1 hx.2.2.2]
    simpa using this
theorem pD_isiV {x y : Str} {t : Ty} {i : Nat} {p p2 p3 : Pos} (hg : Gl X "isinstance") (hm : X.mg "isinstance" = none) (hx : TyName x t) (hgx : Gl X x) (hmx : X.mg x = none) (hN : X.N[i]? = some y) (hy : Vis X.env.scope y) (hd : (y == ("__debug__" : Str)) = false) (hcd : (y == ("__classdict__" : Str)) = false) :
    PE X (.Call (.Name "isinstance" p) [.Name y p3, .Name x p2] [] pos) (tV Fn X.K (.bltV (.isi [t]) i)) :=
  (pe_callB call_isi hg hm (by rfl) (pa_cons (pe_var hN hy hd hcd) (pa_cons (pe_tyName hgx hmx hx.1 hx.2.1 hx.2.2.1) pa_nil)) (by decide) (by decide)).weak fun σ H Q ⟨F, G, ι, s, d, s', ok, ev, k⟩ => by
    simp only [evE, Option.bind_eq_some_iff, Option.map_eq_some_iff, Prod.mk.injEq] at ev
    obtain ⟨w, e1, d', e2, e3, e4⟩ := ev
    subst e3 e4
    obtain ⟨ty, h1, h2⟩ := isi_ty e2
    subst h2
    obtain ⟨v, h3, h4, _⟩ := ok.peek e1
    refine ⟨v, h3, v, .ty (tyN t), .type (tyN ty), .type (tyN t), subTy ty t, rfl, .ty _, root_ty ok h4 h1, kit_sub _ hx.2.2.2, ?_⟩
    have := k.here ok (.bl _)
    rw [← tyOf_sub h1 hx.2.2.2]
    simpa using this
theorem kit_any2 (K : PySem.W.Frag) {t u w : Ty} (hu : u ≠ .none) (hw : w ≠ .none) : PySem.W.kitAny K (.type (tyN t)) [.type (tyN u), .type (tyN w)] = some (subTy t u || subTy t w) := by
  refine kitAny_cons (kit_sub K hu) (fun h => ?_) fun h => by rw [h]; rfl
  rw [h, Bool.false_or]
  exact kitAny_cons (kit_sub K hw) (fun h => by rw [h]; rfl) fun h => h
/-- isinstance(e, (T, U)) -/
theorem pD_isi2 {x y : Str} {t u : Ty} {p p2 p3 p4 : Pos} {j : Nat} (hg : Gl X "isinstance") (hm : X.mg "isinstance" = none) (hx : TyName x t) (hgx : Gl X x) (hmx : X.mg x = none) (hy : TyName y u) (hgy : Gl X y) (hmy : X.mg y = none) (ha : PE X a (tV Fn X.K ia)) (hs : noStar a = true) :
    PE X (.Call (.Name "isinstance" p) [a, .Tuple [.Name x p2, .Name y p3] j p4] [] pos) (tV Fn X.K (.blt (.isi [t, u]) ia)) :=
  (pe_callB call_isiT hg hm (by rfl) (pa_cons ha (pa_cons (pe_tup (pa_cons (pe_tyName hgx hmx hx.1 hx.2.1 hx.2.2.1) (pa_cons (pe_tyName hgy hmy hy.1 hy.2.1 hy.2.2.1) pa_nil))) pa_nil) (star_cons hs [_] X.env)) (by decide) (by decide) (star_cons hs [_] X.env) (by rfl)).weak fun σ H Q ⟨F, G, ι, s, d, s', ok, ev, k⟩ => by
    simp only [evE, Option.bind_eq_some_iff, Option.map_eq_some_iff, Prod.exists, Prod.mk.injEq] at ev
    obtain ⟨z, s1, e1, d', e2, e3, e4⟩ := ev
    subst e3 e4
    obtain ⟨ty, h1, h2⟩ := isi_ty e2
    subst h2
    refine ⟨F, G, ι, s, z, s1, ok, e1, fun v H1 G1 ι1 ok1 x1 r1 => ⟨by rw [sizeLine_eq]; show 2 ≤ 16777216; decide, fun q hq => ?_⟩⟩
    have ok2 := ok1.alloc hq (.tup [.ty (tyN t), .ty (tyN u)])
    refine ⟨v, q, [.ty (tyN t), .ty (tyN u)], .type (tyN ty), [.type (tyN t), .type (tyN u)], subTy ty t || subTy ty u, rfl, upd_same, .cons (.ty _) (.cons (.ty _) .nil), root_ty ok2 (r1.root ok2.sub) h1, kit_any2 _ hx.2.2.2 hy.2.2.2, ?_⟩
    have := (k.ext x1).here ok2 (.bl _)
    rw [← tyOf_sub h1 hx.2.2.2, ← tyOf_sub h1 hy.2.2.2]
    simpa using this

/-! ### methods of a slot's list -/
theorem list_ty {K : PySem.W.Frag} {H : Hp} {a : Addr} {xs : List V} (h : H a = some (.lst xs)) : tyV K "list" (.ref a) H := .inl ⟨rfl, xs, SqL.of h⟩
section
variable {mt : MM} {name : Str} {id : String} {r : V → List V → Hp → VK → Prop} {i : Nat} {y : Str} {p apos : Pos}
/-- what a method's rule does to the list -/
def MutOk (X : Cx) (mt : MM) (r : V → List V → Hp → VK → Prop) : Prop := ∀ {G H : Hp} {ι : List Addr} {a : Addr} {c d c' : D} {vs : List V} {ds : List D} {Q : VK}, Same G H → OwnAt X.K G ι H a c → Reps X.K G ι vs ds → mutD mt c ds = some (d, c') → (∀ v o, OwnAt X.K G ι (upd H a o) a c' → Rep X.K G ι v d → Q v (upd H a o)) → r (.ref a) vs H Q
theorem Ok.box {K : PySem.W.Frag} {F G H : Hp} {ι : List Addr} {σ : L2.St} {s : S} (ok : Ok K F G ι H s.ρ σ s.st) {i : Nat} {c : D} (e : Ev.peek s i = some c) (hb : isBox c = true) : ∃ a, σ[i]? = some (some (.ref a)) ∧ Root K G ι H (.ref a) c := by
  obtain ⟨v, h1, h2, _⟩ := ok.peek e
  cases c <;> simp only [isBox, reduceCtorEq] at hb
  · obtain ⟨a, xs, rfl, q⟩ := h2
    exact ⟨a, h1, a, xs, rfl, q⟩
  · obtain ⟨a, xs, rfl, q⟩ := h2
    exact ⟨a, h1, a, xs, rfl, q⟩
theorem boxOk_lst {mt : MM} (h0 : mt ≠ .setdefault) {c : D} (h : boxOk mt c = true) : ∃ xs, c = .lst xs := by
  cases mt <;> cases c <;> simp only [boxOk, reduceCtorEq] at h <;> first | exact ⟨_, rfl⟩ | exact absurd rfl h0
theorem mutD_box {mt : MM} {c : D} {ds : List D} {r : D × D} (h : mutD mt c ds = some r) : isBox c = true := by
  unfold mutD at h
  split at h <;> first | rfl | cases h
theorem pD_mut (h0 : mt ≠ .setdefault) (slot : Slot "list" name id) (hty : typeOf (.builtin id) = pure (.type "method_descriptor")) (hm : MtR X id r) (hr : MutOk X mt r) (hN : X.N[i]? = some y) (hy : Vis X.env.scope y) (hd : (y == ("__debug__" : Str)) = false) (hcd : (y == ("__classdict__" : Str)) = false)
    (ha : PA X (e :: es) (tVs Fn X.K ies)) (hl : (apos.endLine == pos.line) = true) (hs : (e :: es).all noStar = true) (hfew : es.length < 10) : PE X (.Call (.Attribute (.Name y p) name apos) (e :: es) [] pos) (tV Fn X.K (.mutV mt i ies)) := by
  have hs' := hs
  simp only [List.all_cons, Bool.and_eq_true] at hs'
  refine (pe_bm PySem.F.plainAttrs_list slot hty hm (pe_var hN hy hd hcd) ha (base_of (by intro f a k p z; cases z) _)
    (by rw [star_few hs pos X.env]; simp [backToKw, keywordEach]; omega) hl (star_cons hs'.1 es X.env) (star_any hs'.2 pos X.env)).weak fun σ H Q ⟨F, G, ι, s, d, s', ok, ev, k⟩ => ?_
  simp only [evE, Option.bind_eq_some_iff, Prod.exists] at ev
  obtain ⟨c0, h1, ev⟩ := ev
  split at ev
  · rename_i hbx
    simp only [Option.bind_eq_some_iff, Option.map_eq_some_iff, Prod.exists, Prod.mk.injEq] at ev
    obtain ⟨ds, s1, e1, c, e2, d', c', e3, s2, e4, e5, e6⟩ := ev
    subst e5 e6
    obtain ⟨xs, rfl⟩ := boxOk_lst h0 hbx
    obtain ⟨a, h2, _, ys, ez, h3, _⟩ := ok.box h1 rfl
    cases ez
    refine ⟨.ref a, h2, list_ty h3, F, G, ι, s, ds, s1, ok, e1, fun vs H1 G1 ι1 ok1 x1 r1 => ?_⟩
    obtain ⟨a2, h4, w, wr⟩ := ok1.poke e2 (mutD_box e3) e4
    rw [h2] at h4; cases h4
    exact hr ok1.sub w r1 e3 fun v o w' rv => k v _ G1 ι1 (wr o w') x1 rv
  · cases ev
theorem pD_mut0 (h0 : mt ≠ .setdefault) (slot : Slot "list" name id) (hty : typeOf (.builtin id) = pure (.type "method_descriptor")) (hm : MtR X id r) (hr : MutOk X mt r) (hN : X.N[i]? = some y) (hy : Vis X.env.scope y) (hd : (y == ("__debug__" : Str)) = false) (hcd : (y == ("__classdict__" : Str)) = false)
    (hl : (apos.endLine == pos.line) = true) : PE X (.Call (.Attribute (.Name y p) name apos) [] [] pos) (tV Fn X.K (.mutV mt i .nil)) := by
  refine (pe_bm0 PySem.F.plainAttrs_list slot hty hm (pe_var hN hy hd hcd) (base_of (by intro f a k p z; cases z) _) hl).weak fun σ H Q ⟨F, G, ι, s, d, s', ok, ev, k⟩ => ?_
  simp only [evE, Option.bind_eq_some_iff, Prod.exists] at ev
  obtain ⟨c0, h1, ev⟩ := ev
  split at ev
  · rename_i hbx
    simp only [evEs, Option.bind_eq_some_iff, Option.map_eq_some_iff, Prod.exists, Prod.mk.injEq, Option.some.injEq] at ev
    obtain ⟨ds, s1, ⟨e0, e1⟩, c, e2, d', c', e3, s2, e4, e5, e6⟩ := ev
    subst e0 e1 e5 e6
    obtain ⟨xs, rfl⟩ := boxOk_lst h0 hbx
    obtain ⟨a, h2, _, ys, ez, h3, _⟩ := ok.box h1 rfl
    cases ez
    refine ⟨.ref a, h2, list_ty h3, ?_⟩
    obtain ⟨a2, h4, w, wr⟩ := ok.poke e2 (mutD_box e3) e4
    rw [h2] at h4; cases h4
    exact hr ok.sub w .nil e3 fun v o w' rv => k v _ G ι (wr o w') (Ext.refl _ _) rv
  · cases ev
end
theorem mutD_lst {mt : MM} {c d c' : D} {ds : List D} (h0 : mt ≠ .setdefault) (h : mutD mt c ds = some (d, c')) : ∃ xs, c = .lst xs := by
  unfold mutD at h
  split at h <;> first | exact ⟨_, rfl⟩ | exact absurd rfl h0 | cases h
theorem mut_append : MutOk X .append rAppend := by
  intro G H ι a c d c' vs ds Q sb w r e k
  obtain ⟨xs, rfl⟩ := mutD_lst (by decide) e
  obtain ⟨ys, h1, h2⟩ := w
  match ds, r, e with
  | [], _, e => cases (show (none : Option (D × D)) = some (d, c') from e)
  | _ :: _ :: _, _, e => cases (show (none : Option (D × D)) = some (d, c') from e)
  | [x], .cons r0 .nil, e =>
    have e : (if xs.length < sizeLine then some (D.non, D.lst (xs ++ [x])) else none) = some (d, c') := e
    split at e
    · rename_i hz
      cases e
      exact ⟨a, ys, _, rfl, rfl, h1, by rw [h2.length]; exact hz, k _ _ ⟨_, upd_same, h2.append (.cons r0 .nil)⟩ .non⟩
    · cases e
theorem mut_pop : MutOk X .pop0 rPop := by
  intro G H ι a c d c' vs ds Q sb w r e k
  obtain ⟨xs, rfl⟩ := mutD_lst (by decide) e
  obtain ⟨ys, h1, h2⟩ := w
  match ds, r, e with
  | _ :: _, _, e => cases (show (none : Option (D × D)) = some (d, c') from e)
  | [], .nil, e =>
    have e : (match xs[xs.length - 1]? with
      | some y => some (y, D.lst xs.dropLast)
      | none => none) = some (d, c') := e
    split at e
    · rename_i y hy
      cases e
      obtain ⟨v, h3, h4⟩ := h2.get hy
      exact ⟨a, ys, v, rfl, rfl, h1, by rw [h2.length]; exact h3, k _ _ ⟨_, upd_same, h2.dropLast⟩ h4⟩
    · cases e
theorem mut_pop1 : MutOk X .pop1 rPopAt := by
  intro G H ι a c d c' vs ds Q sb w r e k
  obtain ⟨xs, rfl⟩ := mutD_lst (by decide) e
  obtain ⟨ys, h1, h2⟩ := w
  match ds, r, e with
  | [], _, e => cases (show (none : Option (D × D)) = some (d, c') from e)
  | x :: _ :: _, _, e => cases x <;> cases (show (none : Option (D × D)) = some (d, c') from e)
  | [x], .cons r0 .nil, e =>
    cases x with
    | int i =>
      have e : (if decide (0 ≤ i) && decide (i < xs.length) && decide (xs.length ≤ sizeLine) then (xs[i.toNat]?).map fun y => (y, D.lst (xs.eraseIdx i.toNat)) else none) = some (d, c') := e
      split at e
      · rename_i hz
        simp only [Bool.and_eq_true, decide_eq_true_eq] at hz
        simp only [Option.map_eq_some_iff, Prod.mk.injEq] at e
        obtain ⟨y, hy, e1, e2⟩ := e
        subst e1 e2
        obtain ⟨v, h3, h4⟩ := h2.get hy
        cases r0
        obtain ⟨⟨h5, h6⟩, h7⟩ := hz
        have := sizeLine_eq
        exact ⟨a, ys, i, i.toNat, v, rfl, rfl, h1, by omega, by omega, by rw [h2.length]; exact PyProof.Rows.seqIndex_at h5 h6, h3, k _ _ ⟨_, upd_same, h2.eraseIdx _⟩ h4⟩
      · cases e
    | _ => cases (show (none : Option (D × D)) = some (d, c') from e)
theorem mut_reverse : MutOk X .reverse rReverse := by
  intro G H ι a c d c' vs ds Q sb w r e k
  obtain ⟨xs, rfl⟩ := mutD_lst (by decide) e
  obtain ⟨ys, h1, h2⟩ := w
  match ds, r, e with
  | _ :: _, _, e => cases (show (none : Option (D × D)) = some (d, c') from e)
  | [], .nil, e =>
    cases (show some (D.non, D.lst xs.reverse) = some (d, c') from e)
    exact ⟨a, ys, rfl, rfl, h1, k _ _ ⟨_, upd_same, h2.reverse⟩ .non⟩
theorem mut_extend : MutOk X .extend rExtend := by
  intro G H ι a c d c' vs ds Q sb w r e k
  obtain ⟨xs, rfl⟩ := mutD_lst (by decide) e
  obtain ⟨ys, h1, h2⟩ := w
  match ds, r, e with
  | [], _, e => cases (show (none : Option (D × D)) = some (d, c') from e)
  | x :: _ :: _, _, e => cases x <;> cases (show (none : Option (D × D)) = some (d, c') from e)
  | [x], .cons r0 .nil, e =>
    cases x with
    | lst zs =>
      have e : (if xs.length + zs.length ≤ sizeLine then some (D.non, D.lst (xs ++ zs)) else none) = some (d, c') := e
      split at e
      · rename_i hz
        cases e
        cases r0 with
        | lst h3 h4 => exact ⟨a, _, ys, _, rfl, rfl, h1, sb _ _ h3, by rw [h2.length, h4.length]; exact hz, k _ _ ⟨_, upd_same, h2.append h4⟩ .non⟩
      · cases e
    | _ => cases (show (none : Option (D × D)) = some (d, c') from e)
def rInsert : V → List V → Hp → VK → Prop := fun x vs H Q => ∃ (l : Addr) (xs : List V) (i : Int) (y : V), x = .ref l ∧ vs = [.int i, y] ∧ H l = some (.lst xs) ∧ xs.length < sizeLine ∧ 0 ≤ i ∧ i < 2 ^ 63 ∧
    Q .non (upd H l (.lst (xs.take i.toNat ++ [y] ++ xs.drop i.toNat)))
theorem mut_insert : MutOk X .insert rInsert := by
  intro G H ι a c d c' vs ds Q sb w r e k
  obtain ⟨xs, rfl⟩ := mutD_lst (by decide) e
  obtain ⟨ys, h1, h2⟩ := w
  match ds, r, e with
  | [], _, e => cases (show (none : Option (D × D)) = some (d, c') from e)
  | [x], _, e => cases x <;> cases (show (none : Option (D × D)) = some (d, c') from e)
  | x :: _ :: _ :: _, _, e => cases x <;> cases (show (none : Option (D × D)) = some (d, c') from e)
  | [x, z], .cons r0 (.cons r1 .nil), e =>
    cases x with
    | int i =>
      have e : (if decide (0 ≤ i) && decide (i ≤ xs.length) && decide (xs.length < sizeLine) then some (D.non, D.lst (xs.take i.toNat ++ z :: xs.drop i.toNat)) else none) = some (d, c') := e
      split at e
      · rename_i hz
        simp only [Bool.and_eq_true, decide_eq_true_eq] at hz
        cases e
        cases r0
        obtain ⟨⟨h5, h6⟩, h7⟩ := hz
        have := sizeLine_eq
        refine ⟨a, ys, i, _, rfl, rfl, h1, by rw [h2.length]; exact h7, h5, by omega, k _ _ ⟨_, upd_same, ?_⟩ .non⟩
        rw [List.append_assoc]
        exact (h2.take _).append (.cons r1 (h2.drop _))
      · cases e
    | _ => cases (show (none : Option (D × D)) = some (d, c') from e)
end
end Ev

-- EvL
set_option autoImplicit true
set_option Elab.async false
set_option linter.all false
set_option maxRecDepth 100000
set_option maxHeartbeats 4000000
set_option autoImplicit false
/-! EvL: targets, comprehensions. -/
namespace Ev
open PySem PySem.Spec PyProof.Rows L2

section
variable {K : PySem.W.Frag} {F G H G0 H0 : Hp} {ι ι0 : List Addr} {ρ : List Sl} {σ σ' : L2.St} {st : List D}
/-- slots and values exchanged, each for a reason -/
theorem Ok.subst (ok : Ok K F G ι H ρ σ st) {ρ' : List Sl} (hl : ρ'.length = σ'.length)
    (h : ∀ (i : Nat) (sl : Sl), ρ'[i]? = some sl → sl = .un ∨ (ρ[i]? = some sl ∧ σ'[i]? = σ[i]?) ∨ ∃ d v, sl = .v d ∧ σ'[i]? = some (some v) ∧ Rep K G ι v d) : Ok K F G ι H ρ' σ' st where
  sub := ok.sub
  fsub := ok.fsub
  fg := ok.fg
  fi := ok.fi
  gi := ok.gi
  nd := ok.nd
  len := ok.len
  cells := ok.cells
  slots := fun i sl q => by
    rcases h i sl q with e | ⟨e1, e2⟩ | ⟨d, v, e1, e2, r⟩
    · subst e; trivial
    · have := ok.slots i sl e1
      rw [← e2] at this
      exact this
    · subst e1
      exact ⟨v, e2, r⟩
  own := fun i j d d' a q1 q2 q3 q4 => by
    have g : ∀ {m : Nat} {d : D}, ρ'[m]? = some (.o d) → ρ[m]? = some (.o d) ∧ σ'[m]? = σ[m]? := fun {m d} q => by
      rcases h m _ q with e | e | ⟨d, v, e1, _⟩
      · cases e
      · exact e
      · cases e1
    obtain ⟨a1, a2⟩ := g q1
    obtain ⟨b1, b2⟩ := g q2
    rw [a2] at q3
    rw [b2] at q4
    exact ok.own i j d d' a a1 b1 q3 q4
  lenr := hl
theorem Ok.forget (ok : Ok K F G ι H ρ σ st) : Ok K F G ι H [] [] st := ok.subst rfl fun i sl q => by simp at q
theorem Away.forget {a : Addr} (w : Away F G ι ρ σ a) : Away F G ι [] [] a := ⟨w.g, w.i, w.f, fun i d q => by simp at q⟩

theorem wipe_get (σ : L2.St) : ∀ (vs : List Nat) (i : Nat), (L2.wipe σ vs)[i]? = if i ∈ vs ∧ i < σ.length then some none else σ[i]?
  | [], i => by simp [wipe]
  | v :: vs, i => by
    unfold wipe
    by_cases hv : v = i
    · subst hv
      by_cases hl : v < σ.length
      · rw [List.getElem?_set_self (by rw [wipe_length]; exact hl), if_pos ⟨List.mem_cons_self, hl⟩]
      · rw [if_neg (fun z => hl z.2), List.getElem?_eq_none (by simp [wipe_length]; omega), List.getElem?_eq_none (by omega)]
    · rw [List.getElem?_set_ne hv, wipe_get σ vs i]
      have : (i ∈ v :: vs) ↔ i ∈ vs := by simp [Ne.symm hv]
      simp only [this]
theorem wipe_out {σ σ' : L2.St} {vs : List Nat} (h : L2.wipe σ vs = L2.wipe σ' vs) {i : Nat} (hi : i ∉ vs) : σ[i]? = σ'[i]? := by
  have := congrArg (fun z : L2.St => z[i]?) h
  simp only [wipe_get, hi, false_and, if_false] at this
  exact this
theorem wipe_len {σ σ' : L2.St} {vs : List Nat} (h : L2.wipe σ vs = L2.wipe σ' vs) : σ.length = σ'.length := by
  rw [← wipe_length σ vs, h, wipe_length]
theorem wipe_ext {σ σ' : L2.St} {vs : List Nat} (hl : σ.length = σ'.length) (h : ∀ i, i ∉ vs → σ[i]? = σ'[i]?) : L2.wipe σ vs = L2.wipe σ' vs := by
  apply List.ext_getElem?
  intro i
  rw [wipe_get, wipe_get, hl]
  by_cases hi : i ∈ vs
  · by_cases h2 : i < σ'.length
    · rw [if_pos ⟨hi, h2⟩, if_pos ⟨hi, h2⟩]
    · rw [if_neg (fun z => h2 z.2), if_neg (fun z => h2 z.2), List.getElem?_eq_none (by omega), List.getElem?_eq_none (by omega)]
  · rw [if_neg (fun z => hi z.1), if_neg (fun z => hi z.1), h i hi]
theorem wipe_more {σ σ' : L2.St} {vs ws : List Nat} (h : L2.wipe σ vs = L2.wipe σ' vs) (hs : ∀ i ∈ vs, i ∈ ws) : L2.wipe σ ws = L2.wipe σ' ws :=
  wipe_ext (wipe_len h) fun i hi => wipe_out h fun z => hi (hs i z)
theorem wipe_wipe (σ : L2.St) (vs : List Nat) : L2.wipe (L2.wipe σ vs) vs = L2.wipe σ vs := wipe_ext (wipe_length σ vs) fun i hi => by
  rw [wipe_get, if_neg (fun z => hi z.1)]

theorem foldl_set_get (g : Nat → Sl) : ∀ (is : List Nat) (ρ : List Sl) (i : Nat) (sl : Sl), (is.foldl (fun ρ i => ρ.set i (g i)) ρ)[i]? = some sl → (i ∉ is ∧ ρ[i]? = some sl) ∨ (i ∈ is ∧ sl = g i ∧ i < ρ.length)
  | [], ρ, i, sl, h => .inl ⟨by simp, h⟩
  | j :: is, ρ, i, sl, h => by
    rcases foldl_set_get g is (ρ.set j (g j)) i sl h with ⟨h1, h2⟩ | ⟨h1, h2, h3⟩
    · by_cases hj : j = i
      · subst hj
        by_cases hl : j < ρ.length
        · rw [List.getElem?_set_self hl] at h2
          cases h2
          exact .inr ⟨List.mem_cons_self, rfl, hl⟩
        · rw [List.getElem?_eq_none (by simp; omega)] at h2; cases h2
      · rw [List.getElem?_set_ne hj] at h2
        exact .inl ⟨by simp [h1, Ne.symm hj], h2⟩
    · exact .inr ⟨List.mem_cons_of_mem _ h1, h2, by simpa using h3⟩
theorem foldl_set_len (g : Nat → Sl) : ∀ (is : List Nat) (ρ : List Sl), (is.foldl (fun ρ i => ρ.set i (g i)) ρ).length = ρ.length
  | [], _ => rfl
  | j :: is, ρ => by rw [List.foldl_cons, foldl_set_len g is]; simp
theorem Ok.wipeL (ok : Ok K F G ι H ρ σ st) {s : S} (e : s.ρ = ρ) (e2 : s.st = st) (is : List Nat) : Ok K F G ι H (wipeS s is).ρ (L2.wipe σ is) (wipeS s is).st := by
  subst e e2
  refine ok.subst (by unfold wipeS; rw [foldl_set_len (fun _ => .un), wipe_length, ok.lenr]) fun i sl q => ?_
  rcases foldl_set_get (fun _ => .un) is s.ρ i sl q with ⟨h1, h2⟩ | ⟨_, h2, _⟩
  · exact .inr (.inl ⟨h2, by rw [wipe_get, if_neg (fun z => h1 z.1)]⟩)
  · exact .inl h2
theorem freeS_get {s : S} {is : List Nat} (h : freeS s is = true) {i : Nat} (hi : i ∈ is) : ∃ sl, s.ρ[i]? = some sl ∧ ∀ d, sl ≠ .o d := by
  unfold freeS at h
  rw [List.all_eq_true] at h
  have q := h i hi
  split at q
  · cases q
  · rename_i sl hne hs
    exact ⟨sl, by assumption, fun d z => hne d (by first | exact z | (rw [← z]; assumption))⟩
  · cases q
/-- behind a comprehension -/
theorem Ok.back {s0 s : S} {σ2 : L2.St} {vs : List Nat} (ok0 : Ok K F G0 ι0 H0 s0.ρ σ s0.st) (ok : Ok K F G ι H s.ρ σ2 s.st) (x : Ext G0 ι0 G ι) (hw : L2.wipe σ2 vs = L2.wipe σ vs) (fr : freeS s0 vs = true) :
    Ok K F G ι H (backS s0 s vs).ρ σ (backS s0 s vs).st := by
  refine ok.subst (by unfold backS; rw [foldl_set_len (fun i => s0.ρ.getD i .un), ok.lenr, wipe_len hw]) fun i sl q => ?_
  rcases foldl_set_get (fun i => s0.ρ.getD i .un) vs s.ρ i sl q with ⟨h1, h2⟩ | ⟨h1, h2, _⟩
  · exact .inr (.inl ⟨h2, (wipe_out hw h1).symm⟩)
  · obtain ⟨sl0, h4, h5⟩ := freeS_get fr h1
    have e : sl = sl0 := by rw [h2, List.getD_eq_getElem?_getD, h4]; rfl
    subst e
    cases sl with
    | un => exact .inl rfl
    | v d =>
      obtain ⟨v, e1, r⟩ := ok0.slots i _ h4
      exact .inr (.inr ⟨d, v, rfl, e1, r.ext x⟩)
    | o d => exact absurd rfl (h5 d)

/-! ### an object of the surroundings -/
theorem Ok.foreign (ok : Ok K F G ι H ρ σ st) {p : Addr} {o : HO} (w : Away F G ι ρ σ p) (h : H p = some o) : Ok K (upd F p o) G ι H ρ σ st where
  sub := ok.sub
  fsub := fun a u e => by
    by_cases z : a = p
    · subst z; rw [upd_same] at e; cases e; exact h
    · rw [upd_ne z] at e; exact ok.fsub a u e
  fg := fun a u e => by
    by_cases z : a = p
    · subst z; exact w.g
    · rw [upd_ne z] at e; exact ok.fg a u e
  fi := fun a ha => by
    have z : a ≠ p := fun z => w.i (z ▸ ha)
    rw [upd_ne z]; exact ok.fi a ha
  gi := ok.gi
  nd := ok.nd
  len := ok.len
  cells := ok.cells
  slots := fun i sl q => by
    have := ok.slots i sl q
    cases sl with
    | un => trivial
    | v d => exact this
    | o d =>
      obtain ⟨a, e1, g, hi, f, ow⟩ := this
      have z : a ≠ p := fun z => w.o i d q (z ▸ e1)
      exact ⟨a, e1, g, hi, by rw [upd_ne z]; exact f, ow⟩
  own := ok.own
  lenr := ok.lenr
theorem upd_upd (H : Hp) (p : Addr) (o o' : HO) : upd (upd H p o) p o' = upd H p o' := by
  funext a
  by_cases z : a = p
  · subst z; rw [upd_same, upd_same]
  · rw [upd_ne z, upd_ne z, upd_ne z]
/-- it is written -/
theorem Ok.foreignW {p : Addr} {o o' : HO} (ok : Ok K (upd F p o) G ι H ρ σ st) : Ok K (upd F p o') G ι (upd H p o') ρ σ st := by
  have hF : upd F p o p = some o := upd_same
  have gp : G p = none := ok.fg p o hF
  have ip : p ∉ ι := fun z => by rw [ok.fi p z] at hF; cases hF
  have cmp : ∀ {a : Addr} {d : D}, a ≠ p → OwnAt K G ι H a d → OwnAt K G ι (upd H p o') a d := fun z w => w.move (Ext.refl _ _) (upd_ne z)
  refine ⟨fun a u e => ?_, fun a u e => ?_, fun a u e => ?_, fun a ha => ?_, ok.gi, ok.nd, ok.len, fun n a d e1 e2 => ?_, fun i sl q => ?_, ok.own, ok.lenr⟩
  · have z : a ≠ p := fun z => by subst z; rw [gp] at e; cases e
    rw [upd_ne z]; exact ok.sub a u e
  · by_cases z : a = p
    · subst z; rw [upd_same] at e ⊢; exact e
    · rw [upd_ne z] at e ⊢; exact ok.fsub a u (by rw [upd_ne z]; exact e)
  · by_cases z : a = p
    · subst z; exact gp
    · rw [upd_ne z] at e; exact ok.fg a u (by rw [upd_ne z]; exact e)
  · have z : a ≠ p := fun z => ip (z ▸ ha)
    have := ok.fi a ha
    rw [upd_ne z] at this ⊢; exact this
  · have z : a ≠ p := fun z => ip (z ▸ List.mem_of_getElem? e1)
    exact cmp z (ok.cells n a d e1 e2)
  · have := ok.slots i sl q
    cases sl with
    | un => trivial
    | v d => exact this
    | o d =>
      obtain ⟨a, e1, g, hi, f, ow⟩ := this
      have z : a ≠ p := fun z => by subst z; rw [upd_same] at f; cases f
      exact ⟨a, e1, g, hi, by rw [upd_ne z] at f ⊢; exact f, cmp z ow⟩
/-- it is ours no more -/
theorem Ok.unforeign {p : Addr} {o : HO} (ok : Ok K (upd F p o) G ι H ρ σ st) (fp : F p = none) : Ok K F G ι H ρ σ st ∧ Away F G ι ρ σ p := by
  have hF : upd F p o p = some o := upd_same
  have gp : G p = none := ok.fg p o hF
  have ip : p ∉ ι := fun z => by rw [ok.fi p z] at hF; cases hF
  have dn : ∀ {a : Addr} {u : HO}, F a = some u → upd F p o a = some u := fun {a u} e => by
    have z : a ≠ p := fun z => by subst z; rw [fp] at e; cases e
    rw [upd_ne z]; exact e
  refine ⟨⟨ok.sub, fun a u e => ok.fsub a u (dn e), fun a u e => ok.fg a u (dn e), fun a ha => ?_, ok.gi, ok.nd, ok.len, ok.cells, fun i sl q => ?_, ok.own, ok.lenr⟩, gp, ip, fp, fun i d q e => ?_⟩
  · have z : a ≠ p := fun z => ip (z ▸ ha)
    have := ok.fi a ha
    rw [upd_ne z] at this; exact this
  · have := ok.slots i sl q
    cases sl with
    | un => trivial
    | v d => exact this
    | o d =>
      obtain ⟨a, e1, g, hi, f, ow⟩ := this
      have z : a ≠ p := fun z => by subst z; rw [upd_same] at f; cases f
      exact ⟨a, e1, g, hi, by rw [upd_ne z] at f; exact f, ow⟩
  · obtain ⟨a, e1, _, _, f, _⟩ := ok.slots i _ q
    rw [e] at e1; cases e1
    rw [upd_same] at f; cases f

/-! ### items -/
theorem Ok.yld {J : It} {items : List D} {i : Nat} {d : D} {x : V} {H' : Hp} (ok : Ok K F G ι H ρ σ st) (it : ItOk K G0 ι0 J items) (e : Ext G0 ι0 G ι) (y : J.yld i H x H') (hd : items[i]? = some d) :
    ∃ G', Ok K F G' ι H' ρ σ st ∧ Ext G ι G' ι ∧ Rep K G' ι x d := by
  have sm : Same G0 H := fun a o q => ok.sub a o (e.1 a o q)
  rcases it.yld i H x H' d sm y hd with ⟨rfl, r⟩ | ⟨p, o, hp, rfl, rfl, r⟩
  · exact ⟨G, ok, Ext.refl _ _, r.ext e⟩
  · obtain ⟨ok2, e2⟩ := (ok.alloc hp o).freeze (a := p) (o := o) (ok.fresh hp) upd_same
    exact ⟨_, ok2, e2, r _ _ (e.trans e2) upd_same⟩
end

/-! ### targets -/
def gT (K : PySem.W.Frag) (t : Tg) : TG := fun v σ H Q => ∃ F G ι s d s', Ok K F G ι H s.ρ σ s.st ∧ Rep K G ι v d ∧ bindT s t d = some s' ∧
  ∀ σ', Ok K F G ι H s'.ρ σ' s'.st → L2.wipe σ' t.slots = L2.wipe σ t.slots → Q σ' H
theorem _root_.L2.PG.weak {X : Cx} {e : Expr} {t t' : TG} (h : PG X e t) (w : ∀ v σ H Q, t' v σ H Q → t v σ H Q) : PG X e t' := ⟨fun pins s σ H v u Q I r q => h.run pins s σ H v u Q I r (w v σ H Q q)⟩
theorem _root_.L2.PG.either {X : Cx} {e : Expr} {t t' : TG} (h : PG X e t) (h' : PG X e t') : PG X e (fun v σ H Q => t v σ H Q ∨ t' v σ H Q) := ⟨fun pins s σ H v u Q I r q => q.elim (h.run pins s σ H v u Q I r) (h'.run pins s σ H v u Q I r)⟩
theorem set_wipe (σ : L2.St) (i : Nat) (v : Option V) (vs : List Nat) (h : i ∈ vs) : L2.wipe (σ.set i v) vs = L2.wipe σ vs := wipe_ext (by simp) fun j hj => by
  rw [List.getElem?_set_ne]
  intro z
  exact hj (z ▸ h)
section
variable {X : Cx}
theorem pgT_one {i : Nat} {x : Str} {pos : Pos} (hN : X.N.Nodup) (hi : X.N[i]? = some x) (hx : Loc X.env.scope x) (hf : X.fn x = true ∨ X.env.scope.names.lookup x = some .local) : PG X (.Name x pos) (gT X.K (.one i)) :=
  (pg_name hN hi hx hf).weak fun v σ H Q ⟨F, G, ι, s, d, s', ok, r, e, k⟩ => by
    cases e
    exact k _ (ok.setV r) (set_wipe σ i _ [i] (by simp))
/-- a name of a target: its slot -/
structure TgN (X : Cx) (e : Expr) (i : Nat) : Prop where
  ex : ∃ x p, e = .Name x p ∧ X.N[i]? = some x ∧ Loc X.env.scope x ∧ (X.fn x = true ∨ X.env.scope.names.lookup x = some .local)
def gNs : List Nat → TGs
  | [] => gNil
  | i :: is => gCons (gName i) (gNs is)
theorem pgs_names (hN : X.N.Nodup) : ∀ {es : List Expr} {is : List Nat}, Paired (TgN X) es is → PGs X es (gNs is)
  | _, _, .nil => pgs_nil
  | _, _, .cons h t => by
    obtain ⟨x, p, rfl, h1, h2, h3⟩ := h.ex
    exact pgs_cons (pg_name hN h1 h2 h3) (pgs_names hN t)
theorem names_each (env : Env) : ∀ {es : List Expr} {is : List Nat}, Paired (TgN X) es is → (assignEach es env).length = is.length ∧ (assignEach es env).findIdx? (·.1) = none
  | _, _, .nil => ⟨rfl, rfl⟩
  | _, _, .cons h t => by
    obtain ⟨x, p, rfl, _⟩ := h.ex
    obtain ⟨h1, h2⟩ := names_each env t
    refine ⟨?_, ?_⟩
    · show (assignEach _ env).length + 1 = _
      rw [h1]; rfl
    · show List.findIdx? (·.1) ((false, assign (.Name x p) env) :: assignEach _ env) = none
      rw [List.findIdx?_cons, h2]
      rfl
/-- the slots set, one after another -/
def setAll : L2.St → List Nat → List V → L2.St
  | σ, i :: is, v :: vs => setAll (σ.set i (some v)) is vs
  | σ, _, _ => σ
theorem gNs_of {Q : L2.St → Hp → Prop} {H : Hp} : ∀ {is : List Nat} {xs : List V} {σ : L2.St}, xs.length = is.length → Q (setAll σ is xs) H → gNs is xs σ H Q
  | [], [], _, _, q => ⟨rfl, q⟩
  | i :: is, x :: xs, σ, h, q => ⟨x, xs, rfl, gNs_of (by simpa using h) q⟩
  | [], _ :: _, _, h, _ => by simp at h
  | _ :: _, [], _, h, _ => by simp at h
theorem setAll_wipe {ws : List Nat} : ∀ {is : List Nat} {xs : List V} {σ : L2.St}, (∀ i ∈ is, i ∈ ws) → L2.wipe (setAll σ is xs) ws = L2.wipe σ ws
  | [], _, _, _ => rfl
  | _ :: _, [], _, _ => rfl
  | i :: is, x :: xs, σ, h => by
    show L2.wipe (setAll (σ.set i (some x)) is xs) ws = _
    rw [setAll_wipe fun j hj => h j (List.mem_cons_of_mem _ hj), set_wipe σ i _ ws (h i List.mem_cons_self)]
theorem setAll_ok {K : PySem.W.Frag} {F G H : Hp} {ι : List Addr} : ∀ {is : List Nat} {xs : List V} {ds : List D} {s : S} {σ : L2.St}, Ok K F G ι H s.ρ σ s.st → Reps K G ι xs ds → is.length = ds.length →
    Ok K F G ι H ((is.zip ds).foldl (fun s p => setV s p.1 p.2) s).ρ (setAll σ is xs) ((is.zip ds).foldl (fun s p => setV s p.1 p.2) s).st
  | [], _, _, _, _, ok, _, _ => by simpa [setAll] using ok
  | i :: is, _, _, s, σ, ok, .cons r rr, h => by
    show Ok K F G ι H (List.foldl _ (setV s i _) (is.zip _)).ρ (setAll (σ.set i (some _)) is _) (List.foldl _ (setV s i _) (is.zip _)).st
    exact setAll_ok (s := setV s i _) (ok.setV r) rr (by simpa using h)
  | _ :: _, _, _, _, _, _, .nil, h => by simp at h
theorem pgT_many (hc : X.calm = true) (hN : X.N.Nodup) {es : List Expr} {is : List Nat} {k : Nat} {pos : Pos} (h : Paired (TgN X) es is) : PG X (.Tuple es k pos) (gT X.K (.many is)) := by
  obtain ⟨h1, h2⟩ := names_each X.env h
  refine ((pg_tup hc (pgs_names hN h) h1 h2).either (pg_unl hc (pgs_names hN h) h1 h2)).weak fun v σ H Q ⟨F, G, ι, s, d, s', ok, r, e, k⟩ => ?_
  cases r with
  | @tup a xs ds h3 h4 =>
    simp only [bindT] at e
    split at e
    · rename_i hl
      cases e
      exact .inl ⟨_, _, rfl, ok.sqT h3, by rw [h4.length, hl], gNs_of (by rw [h4.length, hl]) (k _ (setAll_ok ok h4 hl) (setAll_wipe fun i hi => hi))⟩
    · cases e
  | @lst a xs ds h3 h4 =>
    simp only [bindT] at e
    split at e
    · rename_i hl
      cases e
      exact .inr ⟨_, _, rfl, SqL.of (ok.sub _ _ h3), by rw [h4.length, hl], gNs_of (by rw [h4.length, hl]) (k _ (setAll_ok ok h4 hl) (setAll_wipe fun i hi => hi))⟩
    · cases e
  | _ => simp only [bindT, reduceCtorEq] at e
end

/-! ### comprehensions -/
def isSet : Expr → Bool
  | .Set _ _ _ => true
  | _ => false
theorem folded_of {e : Expr} (h : noSet e = true) (env : Env) (x : Value) : foldedSetIterable e env x = pure x := by
  cases e <;> first | rfl | (simp [noSet] at h)
section
variable {X : Cx} {Fn : Ev.Fn}
/-- the tests of a comprehension -/
def tIfs (Fn : Ev.Fn) (K : PySem.W.Frag) (ies : IEs) : TT := fun σ H Q => ∃ F G ι s k s', Ok K F G ι H s.ρ σ s.st ∧ evIfs Fn ies s = some (k, s') ∧ AfterT K F G ι s'.ρ σ s'.st k Q
theorem _root_.L2.PTs.weak {e : List Expr} {t t' : TT} (h : PTs X e t) (w : ∀ σ H Q, t' σ H Q → t σ H Q) : PTs X e t' := ⟨fun pins s σ H Q I q => h.run pins s σ H Q I (w σ H Q q)⟩
theorem pIfs_nil : PTs X [] (tIfs Fn X.K .nil) :=
  pts_nil.weak fun σ H Q ⟨F, G, ι, s, k, s', ok, e, q⟩ => by
    cases e
    exact q _ _ _ ok (Ext.refl _ _)
theorem pIfs_one {e : Expr} {ie : IE} (h1 : PT X e (tT Fn X.K ie)) : PTs X [e] (tIfs Fn X.K (.cons ie .nil)) :=
  (pts_one h1).weak fun σ H Q ⟨F, G, ι, s, k, s', ok, ev, q⟩ => by
    simp only [evIfs, Option.bind_eq_some_iff, Prod.exists] at ev
    obtain ⟨d, s1, e1, e2⟩ := ev
    split at e2
    · cases e2
      exact ⟨F, G, ι, s, true, _, ok, e1, q⟩
    · cases e2
      exact ⟨F, G, ι, s, false, _, ok, e1, q⟩
    · cases e2
theorem Away.back {F G : Hp} {ι : List Addr} {s0 s : S} {σ σ2 : L2.St} {vs : List Nat} {p : Addr} (w : Away F G ι s.ρ σ2 p) (hw : L2.wipe σ2 vs = L2.wipe σ vs) (fr : freeS s0 vs = true) : Away F G ι (backS s0 s vs).ρ σ p :=
  ⟨w.g, w.i, w.f, fun i d q e => by
    rcases foldl_set_get (fun i => s0.ρ.getD i .un) vs s.ρ i _ q with ⟨h1, h2⟩ | ⟨h1, h2, _⟩
    · exact w.o i d h2 ((wipe_out hw h1).trans e)
    · obtain ⟨sl0, h4, h5⟩ := freeS_get fr h1
      have e : Sl.o d = sl0 := by rw [h2, List.getD_eq_getElem?_getD, h4]; rfl
      exact h5 d e.symm⟩
theorem foldO_split {α β : Type} {f : α → β → Option β} {l : List α} {b r : β} {i : Nat} (h : foldO f (l.drop i) b = some r) (hi : i < l.length) : ∃ b', f l[i] b = some b' ∧ foldO f (l.drop (i + 1)) b' = some r := by
  rw [List.drop_eq_getElem_cons hi] at h
  unfold foldO at h
  rw [Option.bind_eq_some_iff] at h
  exact h
/-- a comprehension of the evaluator's is the library's -/
theorem lc_step {K : PySem.W.Frag} {ts : Tg} {k : SK} {src iifs : IEs} {ielt : IE} {σ : L2.St} {H : Hp} {Q : VK} (h : tN Fn K (.comp ts k src iifs ielt) σ H Q) :
    tLc (tSrc Fn K k src) (gT K ts) (tIfs Fn K iifs) (tV Fn K ielt) ts.slots σ H Q := by
  obtain ⟨F, G, ι, s, d, s', ok, ev, kk⟩ := h
  simp only [evE, Option.bind_eq_some_iff, Prod.exists] at ev
  obtain ⟨ds, s1, e1, items, e2, ev⟩ := ev
  split at ev
  case isFalse => cases ev
  case isTrue fr =>
  simp only [Option.map_eq_some_iff, Prod.exists, Prod.mk.injEq] at ev
  obtain ⟨acc, s2, e3, e4, e5⟩ := ev
  subst e4 e5
  refine ⟨F, G, ι, s, ds, s1, items, ok, e1, e2, fun J H1 G1 ι1 ok1 x1 it => ?_⟩
  intro Dp hD
  have w1 := ok1.fresh hD
  refine ⟨fun i m H => i + m = items.length ∧ ∃ G2 ι2 sC σ2 accD accV, Ext G1 ι1 G2 ι2 ∧ L2.wipe σ2 ts.slots = L2.wipe σ ts.slots ∧ Ok K (upd F Dp (.lst accV)) G2 ι2 H sC.ρ σ2 sC.st ∧ Reps K G2 ι2 accV accD ∧
    foldO (fun d (st : List D × S) => (bindT (wipeS st.2 ts.slots) ts d).bind fun s1 => (evIfs Fn iifs s1).bind fun c =>
          if c.1 then (evE Fn ielt c.2).bind fun r => if st.1.length < sizeLine then some (st.1 ++ [r.1], r.2) else none else some (st.1, c.2)) (items.drop i) (accD, sC) = some (acc, s2), ?_, ?_⟩
  · have ok2 := ((ok1.alloc hD (.lst [])).foreign w1 upd_same).wipeL (s := s1) rfl rfl ts.slots
    exact ⟨items.length, by omega, G1, ι1, wipeS s1 ts.slots, L2.wipe σ ts.slots, [], [], Ext.refl _ _, wipe_wipe σ _, ok2, .nil, by rw [List.drop_zero]; exact e3⟩
  · rintro i m H2 ⟨hm, G2, ι2, sC, σ2, accD, accV, x2, hw, ok2, rA, e6⟩
    have sm : Same G1 H2 := fun a o q => ok2.sub a o (x2.1 a o q)
    by_cases hi : i < items.length
    · refine .inr ⟨it.go i H2 sm hi, fun H' => ∃ G2 ι2 sC σ2 accD accV, Ext G1 ι1 G2 ι2 ∧ L2.wipe σ2 ts.slots = L2.wipe σ ts.slots ∧ Ok K (upd F Dp (.lst accV)) G2 ι2 H' sC.ρ σ2 sC.st ∧ Reps K G2 ι2 accV accD ∧
        foldO (fun d (st : List D × S) => (bindT (wipeS st.2 ts.slots) ts d).bind fun s1 => (evIfs Fn iifs s1).bind fun c =>
          if c.1 then (evE Fn ielt c.2).bind fun r => if st.1.length < sizeLine then some (st.1 ++ [r.1], r.2) else none else some (st.1, c.2)) (items.drop (i + 1)) (accD, sC) = some (acc, s2),
        fun H' n => ⟨m - 1, by omega, by omega, n⟩, fun x H3 y => ?_⟩
      obtain ⟨b', e7, e8⟩ := foldO_split e6 hi
      simp only [Option.bind_eq_some_iff, Prod.exists] at e7
      obtain ⟨sB, e9, c, s4, e10, e11⟩ := e7
      obtain ⟨G3, ok3, x3, r3⟩ := ok2.yld it x2 y (List.getElem?_eq_getElem hi)
      have ok3' := ok3.wipeL (s := sC) rfl rfl ts.slots
      rw [hw] at ok3'
      refine ⟨_, G3, ι2, wipeS sC ts.slots, items[i], sB, ok3', r3, e9, fun σ3 okB hw3 => ?_⟩
      rw [wipe_wipe] at hw3
      refine ⟨hw3, _, G3, ι2, sB, c, s4, okB, e10, fun H4 G4 ι4 ok4 x4 => ?_⟩
      cases c with
      | false =>
        simp only [Bool.false_eq_true, if_false, Option.some.injEq] at e11 ⊢
        subst e11
        exact ⟨G4, ι4, s4, σ3, accD, accV, x2.trans (x3.trans x4), hw3, ok4, rA.ext (x3.trans x4), e8⟩
      | true =>
        simp only [if_true, Option.bind_eq_some_iff, Prod.exists] at e11 ⊢
        obtain ⟨dd, s5, e12, e13⟩ := e11
        split at e13
        case isFalse => cases e13
        case isTrue hz =>
        cases e13
        refine ⟨_, G4, ι4, s4, dd, s5, ok4, e12, fun v H5 G5 ι5 ok5 x5 r5 => ⟨accV, ok5.fsub _ _ upd_same, by rw [rA.length]; exact hz, ?_⟩⟩
        have x25 := x3.trans (x4.trans x5)
        exact ⟨G5, ι5, s5, σ3, accD ++ [dd], accV ++ [v], x2.trans x25, hw3, ok5.foreignW, (rA.ext x25).append (.cons r5 .nil), e8⟩
    · have e : i = items.length := by omega
      subst e
      rw [List.drop_length] at e6
      cases e6
      refine .inl ⟨it.stop H2 sm, ?_⟩
      obtain ⟨ok3, w3⟩ := ok2.unforeign w1.f
      refine kk _ _ _ _ (Ok.back ok1 ok3 x2 hw fr) (x1.trans x2) (.inl ⟨rfl, Dp, rfl, w3.back hw fr, accV, ok2.fsub _ _ upd_same, rA⟩)
theorem pN_lc (hc : X.calm = true) (hN : X.N.Nodup) {elt tg iter : Expr} {ifs : List Expr} {scope : Scope} {own : List (Str × Nat)} {pos : Pos} {ts : Tg} {k : SK} {src iifs : IEs} {ielt : IE} (hi : PI X tg iter (tSrc Fn X.K k src)) (ok : BlkOk X.N X.env.scope scope own) (ho : own.map (·.2) = ts.slots)
    (hg : ∀ (s : Shared) (H : Hp) (C : Addr) (cl : List (Str × Addr)) (fp : List Addr), PG (X.blk s H scope (compEnvC scope cl C X.env) fp) tg (gT X.K ts)) (ht : ∀ (s : Shared) (H : Hp) (C : Addr) (cl : List (Str × Addr)) (fp : List Addr), PTs (X.blk s H scope (compEnvC scope cl C X.env) fp) ifs (tIfs Fn X.K iifs))
    (he : ∀ (s : Shared) (H : Hp) (C : Addr) (cl : List (Str × Addr)) (fp : List Addr), PE (X.blk s H scope (compEnvC scope cl C X.env) fp) elt (tV Fn X.K ielt)) (hs : noSet iter = true) :
    PE X (.ListComp elt [⟨tg, iter, ifs, 0⟩] scope pos) (tN Fn X.K (.comp ts k src iifs ielt)) :=
  (pe_lc hc hN hi ok hg ht he fun x => folded_of hs X.env x).weak fun σ H Q h => by rw [ho]; exact lc_step h
end
end Ev

-- EvV
set_option autoImplicit true
set_option Elab.async false
set_option linter.all false
set_option maxRecDepth 100000
set_option maxHeartbeats 4000000
set_option autoImplicit false
/-! EvV: sorted; comprehensions of two clauses; dict comprehensions; setdefault. -/
namespace Ev
open PySem PySem.Spec PyProof.Rows L2

theorem leS_iff (a b : Str) : leS a b = true ↔ ¬ b.cps.toList < a.cps.toList := by
  unfold leS
  simp
theorem str_ext {a b : Str} (h : a.cps.toList = b.cps.toList) : a = b := by
  obtain ⟨a⟩ := a
  obtain ⟨b⟩ := b
  simp only at h
  congr 1
  exact Array.toList_inj.mp h
theorem leS_total (a b : Str) : (leS a b || leS b a) = true := by
  rw [Bool.or_eq_true, leS_iff, leS_iff]
  by_cases h : b.cps.toList < a.cps.toList
  · exact .inr (List.lt_asymm h)
  · exact .inl h
theorem leS_trans (a b c : Str) (h : leS a b = true) (h' : leS b c = true) : leS a c = true := by
  rw [leS_iff] at h h' ⊢
  exact List.not_lt.mpr (List.le_trans (List.not_lt.mp h) (List.not_lt.mp h'))
theorem leS_anti {a b : Str} (h : leS a b = true) (h' : leS b a = true) : a = b := by
  rw [leS_iff] at h h'
  exact str_ext (List.le_antisymm (List.not_lt.mp h) (List.not_lt.mp h'))
theorem rising_pair : ∀ (l : List Str) (p : Str), risingS p l = true → (p :: l).Pairwise (fun a b => leS a b = true)
  | [], p, _ => List.pairwise_singleton _ _
  | x :: r, p, h => by
    unfold risingS at h
    rw [Bool.and_eq_true, Bool.not_eq_true'] at h
    have ih := rising_pair r x h.2
    have hp : leS p x = true := by
      rw [leS_iff]
      have := h.1
      rw [ltCps_eq] at this
      simpa using this
    refine List.pairwise_cons.mpr ⟨fun y hy => ?_, ih⟩
    rcases List.mem_cons.mp hy with rfl | hy
    · exact hp
    · exact leS_trans _ _ _ hp ((List.pairwise_cons.mp ih).1 y hy)
theorem sortedS_pair {l : List Str} (h : sortedS l = true) : l.Pairwise (fun a b => leS a b = true) := by
  cases l with
  | nil => exact List.Pairwise.nil
  | cons x r => exact rising_pair r x h
theorem eq_sortS {ys xs : List Str} (p : ys.Perm xs) (h : sortedS ys = true) : ys = sortS xs := by
  refine List.Perm.eq_of_pairwise (le := fun a b => leS a b = true) (fun a b _ _ h1 h2 => leS_anti h1 h2) (sortedS_pair h) ?_ (p.trans (List.mergeSort_perm xs leS).symm)
  exact List.pairwise_mergeSort (fun a b c => leS_trans a b c) leS_total xs
theorem eq_sortI {ys xs : List Int} (p : ys.Perm xs) (h : ys.Pairwise (· ≤ ·)) : ys = xs.mergeSort fun a b => decide (a ≤ b) := by
  refine List.Perm.eq_of_pairwise (le := fun a b => a ≤ b) (fun a b _ _ h1 h2 => Int.le_antisymm h1 h2) h ?_ (p.trans (List.mergeSort_perm xs _).symm)
  have := List.pairwise_mergeSort (le := fun a b : Int => decide (a ≤ b)) (fun a b c h1 h2 => by simp at h1 h2 ⊢; omega) (fun a b => by simp; omega) xs
  exact this.imp (by simp)
theorem sortD_of {ds : List D} {d : D} (h : sortD ds = some d) : (∃ ss, allS ds = some ss ∧ ss.length < 64 ∧ d = .lst ((sortS ss).map .str)) ∨ ∃ ns, allI ds = some ns ∧ ns.length < 64 ∧ d = .lst ((ns.mergeSort fun a b => decide (a ≤ b)).map .int) := by
  unfold sortD at h
  split at h
  · rename_i ss e
    split at h
    · cases h; exact .inl ⟨ss, e, by assumption, rfl⟩
    · cases h
  · split at h
    · rename_i ns e
      split at h
      · cases h; exact .inr ⟨ns, e, by assumption, rfl⟩
      · cases h
    · cases h
theorem keys_strs {kvs : List (Key × V)} {kds : List (D × D)} {ss : List Str} {K : PySem.W.Frag} {G : Hp} {ι : List Addr} (r : RepKV K G ι kvs kds) (h : allS (kds.map (·.1)) = some ss) : kvs.map (·.1) = ss.map Sum.inr := by
  have q := r.keys.strs h
  apply List.ext_getElem?
  intro i
  have e := congrArg (fun l => l[i]?) q
  simp only [List.getElem?_map] at e ⊢
  cases hk : kvs[i]? with
  | none =>
    rw [hk] at e
    cases hs : ss[i]? with
    | none => rfl
    | some s => rw [hs] at e; cases e
  | some p =>
    rw [hk] at e
    cases hs : ss[i]? with
    | none => rw [hs] at e; cases e
    | some s =>
      rw [hs] at e
      simp only [Option.map_some, Option.some.injEq] at e ⊢
      obtain ⟨k, v⟩ := p
      cases k with
      | inl i => cases e
      | inr x => cases e; rfl
theorem keys_ints {kvs : List (Key × V)} {kds : List (D × D)} {ns : List Int} {K : PySem.W.Frag} {G : Hp} {ι : List Addr} (r : RepKV K G ι kvs kds) (h : allI (kds.map (·.1)) = some ns) : kvs.map (·.1) = ns.map Sum.inl := by
  have q := r.keys.ints h
  apply List.ext_getElem?
  intro i
  have e := congrArg (fun l => l[i]?) q
  simp only [List.getElem?_map] at e ⊢
  cases hk : kvs[i]? with
  | none =>
    rw [hk] at e
    cases hs : ns[i]? with
    | none => rfl
    | some s => rw [hs] at e; cases e
  | some p =>
    rw [hk] at e
    cases hs : ns[i]? with
    | none => rw [hs] at e; cases e
    | some s =>
      rw [hs] at e
      simp only [Option.map_some, Option.some.injEq] at e ⊢
      obtain ⟨k, v⟩ := p
      cases k with
      | inr i => cases e
      | inl x => cases e; rfl
section
variable {X : Cx}
theorem cD_sorted (hc : X.calm = true) : CallR X (.builtin "sorted") (rKN X.K (blt1 .sorted)) := by
  rintro pins s σ H xs us Q I r ⟨F, G, ι, ρ, σ', st, x, a, d, rfl, ok, ra, e, k⟩
  cases a <;> simp only [blt1, reduceCtorEq] at e
  · rename_i ds
    obtain ⟨p, vs, rfl, h1, h2⟩ := ra
    rcases sortD_of e with ⟨ss, h3, h4, rfl⟩ | ⟨ns, h3, h4, rfl⟩
    · have := h2.strs h3
      subst this
      exact cr_sortedS pins s σ H _ us Q I r ⟨p, ss, rfl, SqL.of h1, h4, fun ys q pm hs hq => by
        rw [eq_sortS pm hs]
        exact k.lst ok (Reps.ofStrs _) hq⟩
    · have := h2.ints h3
      subst this
      exact cr_sortedI pins s σ H _ us Q I r ⟨p, ns, rfl, SqL.of h1, fun ys q pm hs hq => by
        rw [eq_sortI pm hs]
        exact k.lst ok (Reps.ofInts _) hq⟩
  · rename_i kds
    obtain ⟨p, kvs, rfl, h1, h2⟩ := ra
    rcases sortD_of e with ⟨ss, h3, h4, rfl⟩ | ⟨ns, h3, h4, rfl⟩
    · exact call_sortedD hc pins s σ H _ us Q I r ⟨p, kvs, ss, rfl, .inl h1, keys_strs h2 h3, h4, fun ys q pm hs hq => by
        rw [eq_sortS pm hs]
        exact k.lst ok (Reps.ofStrs _) hq⟩
    · exact call_sortedDI hc pins s σ H _ us Q I r ⟨p, kvs, ns, rfl, .inl h1, keys_ints h2 h3, h4, fun ys q pm hs hq => by
        rw [eq_sortI pm hs]
        exact k.lst ok (Reps.ofInts _) hq⟩
end
section
variable {X : Cx} {Fn : Ev.Fn} {a : Expr} {ia : IE} {b : Blt} {x : Str} {p nm pos : Pos} {id : String}
theorem pN_blt (hc : CallR X (.builtin id) (rKN X.K (blt1 b))) (hg : Gl X x) (hm : X.mg x = none) (hv : bootBuiltins x = some (.builtin id)) (ha : PE X a (tV Fn X.K ia)) (hn : x ≠ "__name__") (hdb : (x == ("__debug__" : Str)) = false) (hs : noStar a = true) :
    PE X (.Call (.Name x p) [a] [] pos) (tN Fn X.K (.blt b ia)) :=
  (pe_callB hc hg hm hv (pa_cons ha pa_nil (star_cons hs [] X.env)) hn hdb (star_cons hs [] X.env)).weak fun σ H Q ⟨F, G, ι, s, d, s', ok, ev, k⟩ => by
    simp only [evE, Option.bind_eq_some_iff, Option.map_eq_some_iff, Prod.exists, Prod.mk.injEq] at ev
    obtain ⟨x, s1, e1, d', e2, e3, e4⟩ := ev
    subst e3 e4
    exact ⟨F, G, ι, s, x, s1, ok, e1, fun v H1 G1 ι1 ok1 x1 r1 => ⟨F, G1, ι1, _, _, _, v, x, d', rfl, ok1, r1.root ok1.sub, e2, k.ext x1⟩⟩
theorem pN_bltVB (hc : CallR X (.builtin id) (rKN X.K (blt1 b))) (hg : Gl X x) (hm : X.mg x = none) (hv : bootBuiltins x = some (.builtin id)) (hn : x ≠ "__name__") (hdb : (x == ("__debug__" : Str)) = false)
    {i : Nat} {y : Str} (hN : X.N[i]? = some y) (hy : Vis X.env.scope y) (hd : (y == ("__debug__" : Str)) = false) (hcd : (y == ("__classdict__" : Str)) = false) :
    PE X (.Call (.Name x p) [.Name y nm] [] pos) (tN Fn X.K (.bltV b i)) :=
  (pe_callB hc hg hm hv (pa_cons (pe_var hN hy hd hcd) pa_nil) hn hdb).weak fun σ H Q ⟨F, G, ι, s, d, s', ok, ev, k⟩ => by
    simp only [evE, Option.bind_eq_some_iff, Option.map_eq_some_iff, Prod.mk.injEq] at ev
    obtain ⟨x, e1, d', e2, e3, e4⟩ := ev
    subst e3 e4
    obtain ⟨v, h1, h2, _⟩ := ok.peek e1
    exact ⟨v, h1, F, G, ι, _, _, _, v, x, d', rfl, ok, h2, e2, k⟩

/-! ### two clauses -/
theorem lc2_step {K : PySem.W.Frag} {ts ts' : Tg} {k k' : SK} {src src' : IEs} {ielt : IE} {σ : L2.St} {H : Hp} {Q : VK} (h : tN Fn K (.comp2 ts k src ts' k' src' ielt) σ H Q) :
    tLc2 (tSrc Fn K k src) (gT K ts) (tIfs Fn K .nil) (tSrc Fn K k' src') (gT K ts') (tIfs Fn K .nil) (tV Fn K ielt) (ts.slots ++ ts'.slots) ts'.slots σ H Q := by
  obtain ⟨F, G, ι, s, d, s', ok, ev, kk⟩ := h
  simp only [evE, Option.bind_eq_some_iff, Prod.exists] at ev
  obtain ⟨ds, s1, e1, items, e2, ev⟩ := ev
  split at ev
  case isFalse => cases ev
  case isTrue fr =>
  simp only [Option.map_eq_some_iff, Prod.exists, Prod.mk.injEq] at ev
  obtain ⟨acc, s2, e3, e4, e5⟩ := ev
  subst e4 e5
  refine ⟨F, G, ι, s, ds, s1, items, ok, e1, e2, fun J H1 G1 ι1 ok1 x1 it => ?_⟩
  intro Dp hD
  have w1 := ok1.fresh hD
  generalize hf : (fun d (st : List D × S) => (bindT (wipeS st.2 (ts.slots ++ ts'.slots)) ts d).bind fun s1 => (evEs Fn src' s1).bind fun p' => (itemsD k' p'.1).bind fun items' =>
          foldO (fun d' (st' : List D × S) => (bindT (wipeS st'.2 ts'.slots) ts' d').bind fun s2 => (evE Fn ielt s2).bind fun r => if st'.1.length < sizeLine then some (st'.1 ++ [r.1], r.2) else none)
            items' (st.1, wipeS p'.2 ts'.slots)) = f at e3
  refine ⟨fun i m H => i + m = items.length ∧ ∃ G2 ι2 sC σ2 accD accV, Ext G1 ι1 G2 ι2 ∧ L2.wipe σ2 (ts.slots ++ ts'.slots) = L2.wipe σ (ts.slots ++ ts'.slots) ∧ Ok K (upd F Dp (.lst accV)) G2 ι2 H sC.ρ σ2 sC.st ∧ Reps K G2 ι2 accV accD ∧
    foldO f (items.drop i) (accD, sC) = some (acc, s2), ?_, ?_⟩
  · have ok2 := ((ok1.alloc hD (.lst [])).foreign w1 upd_same).wipeL (s := s1) rfl rfl (ts.slots ++ ts'.slots)
    exact ⟨items.length, by omega, G1, ι1, wipeS s1 _, L2.wipe σ _, [], [], Ext.refl _ _, wipe_wipe σ _, ok2, .nil, by rw [List.drop_zero]; exact e3⟩
  · rintro i m H2 ⟨hm, G2, ι2, sC, σ2, accD, accV, x2, hw, ok2, rA, e6⟩
    have sm : Same G1 H2 := fun a o q => ok2.sub a o (x2.1 a o q)
    by_cases hi : i < items.length
    · refine .inr ⟨it.go i H2 sm hi, fun H' => ∃ G2 ι2 sC σ2 accD accV, Ext G1 ι1 G2 ι2 ∧ L2.wipe σ2 (ts.slots ++ ts'.slots) = L2.wipe σ (ts.slots ++ ts'.slots) ∧ Ok K (upd F Dp (.lst accV)) G2 ι2 H' sC.ρ σ2 sC.st ∧ Reps K G2 ι2 accV accD ∧
        foldO f (items.drop (i + 1)) (accD, sC) = some (acc, s2), fun H' n => ⟨m - 1, by omega, by omega, n⟩, fun x H3 y => ?_⟩
      obtain ⟨b', e7, e8⟩ := foldO_split e6 hi
      rw [← hf] at e7
      simp only [Option.bind_eq_some_iff, Prod.exists] at e7
      obtain ⟨sB, e9, ds', s4, e10, items', e11, e12⟩ := e7
      obtain ⟨G3, ok3, x3, r3⟩ := ok2.yld it x2 y (List.getElem?_eq_getElem hi)
      have ok3' := ok3.wipeL (s := sC) rfl rfl (ts.slots ++ ts'.slots)
      rw [hw] at ok3'
      refine ⟨_, G3, ι2, wipeS sC _, items[i], sB, ok3', r3, e9, fun σ3 okB hw3 => ?_⟩
      have hw3' := (wipe_more (ws := ts.slots ++ ts'.slots) hw3 fun j hj => List.mem_append_left _ hj).trans (wipe_wipe σ _)
      refine ⟨hw3', _, G3, ι2, sB, true, sB, okB, rfl, fun H4 G4 ι4 ok4 x4 => ?_⟩
      show tSrc Fn K k' src' σ3 H4 _
      refine ⟨_, G4, ι4, sB, ds', s4, items', ok4, e10, e11, fun J1 H5 G5 ι5 ok5 x5 it1 => ?_⟩
      have x25 := x2.trans (x3.trans (x4.trans x5))
      have x15 := x3.trans (x4.trans x5)
      generalize hf1 : (fun d' (st' : List D × S) => (bindT (wipeS st'.2 ts'.slots) ts' d').bind fun s2 => (evE Fn ielt s2).bind fun r => if st'.1.length < sizeLine then some (st'.1 ++ [r.1], r.2) else none) = f1 at e12
      refine ⟨fun j m1 H => j + m1 = items'.length ∧ ∃ G6 ι6 sD σ6 accD accV, Ext G5 ι5 G6 ι6 ∧ L2.wipe σ6 ts'.slots = L2.wipe σ3 ts'.slots ∧ Ok K (upd F Dp (.lst accV)) G6 ι6 H sD.ρ σ6 sD.st ∧ Reps K G6 ι6 accV accD ∧
        foldO f1 (items'.drop j) (accD, sD) = some b', ?_, ?_⟩
      · have ok6 := ok5.wipeL (s := s4) rfl rfl ts'.slots
        exact ⟨items'.length, by omega, G5, ι5, wipeS s4 _, L2.wipe σ3 _, accD, accV, Ext.refl _ _, wipe_wipe σ3 _, ok6, rA.ext x15, by rw [List.drop_zero]; exact e12⟩
      · rintro j m1 H6 ⟨hm1, G6, ι6, sD, σ6, accD1, accV1, x6, hw6, ok6, rA1, e13⟩
        have sm1 : Same G5 H6 := fun a o q => ok6.sub a o (x6.1 a o q)
        by_cases hj : j < items'.length
        · refine .inr ⟨it1.go j H6 sm1 hj, fun H' => ∃ G6 ι6 sD σ6 accD accV, Ext G5 ι5 G6 ι6 ∧ L2.wipe σ6 ts'.slots = L2.wipe σ3 ts'.slots ∧ Ok K (upd F Dp (.lst accV)) G6 ι6 H' sD.ρ σ6 sD.st ∧ Reps K G6 ι6 accV accD ∧
            foldO f1 (items'.drop (j + 1)) (accD, sD) = some b', fun H' n => ⟨m1 - 1, by omega, by omega, n⟩, fun x7 H7 y7 => ?_⟩
          obtain ⟨b7, e14, e15⟩ := foldO_split e13 hj
          rw [← hf1] at e14
          simp only [Option.bind_eq_some_iff, Prod.exists] at e14
          obtain ⟨sE, e16, dd, s8, e17, e18⟩ := e14
          split at e18
          case isFalse => cases e18
          case isTrue hz =>
          cases e18
          obtain ⟨G7, ok7, x8, r7⟩ := ok6.yld it1 x6 y7 (List.getElem?_eq_getElem hj)
          have ok7' := ok7.wipeL (s := sD) rfl rfl ts'.slots
          rw [hw6] at ok7'
          refine ⟨_, G7, ι6, wipeS sD _, items'[j], sE, ok7', r7, e16, fun σ8 okE hw8 => ?_⟩
          rw [wipe_wipe] at hw8
          refine ⟨hw8, _, G7, ι6, sE, true, sE, okE, rfl, fun H8 G8 ι8 ok8 x9 => ?_⟩
          show tV Fn K ielt σ8 H8 _
          refine ⟨_, G8, ι8, sE, dd, s8, ok8, e17, fun v H9 G9 ι9 ok9 x10 r9 => ⟨accV1, ok9.fsub _ _ upd_same, by rw [rA1.length]; exact hz, ?_⟩⟩
          have x69 := x8.trans (x9.trans x10)
          exact ⟨G9, ι9, s8, σ8, accD1 ++ [dd], accV1 ++ [v], x6.trans x69, hw8, ok9.foreignW, (rA1.ext x69).append (.cons r9 .nil), e15⟩
        · have e : j = items'.length := by omega
          subst e
          rw [List.drop_length] at e13
          cases e13
          exact .inl ⟨it1.stop H6 sm1, G6, ι6, sD, σ6, accD1, accV1, x25.trans x6, (wipe_more hw6 fun j hj => List.mem_append_right _ hj).trans hw3', ok6, rA1, e8⟩
    · have e : i = items.length := by omega
      subst e
      rw [List.drop_length] at e6
      cases e6
      refine .inl ⟨it.stop H2 sm, ?_⟩
      obtain ⟨ok3, w3⟩ := ok2.unforeign w1.f
      refine kk _ _ _ _ (Ok.back ok1 ok3 x2 hw fr) (x1.trans x2) (.inl ⟨rfl, Dp, rfl, w3.back hw fr, accV, ok2.fsub _ _ upd_same, rA⟩)
theorem pN_lc2 (hc : X.calm = true) (hN : X.N.Nodup) {elt tg iter tg1 iter1 : Expr} {scope : Scope} {own : List (Str × Nat)} {ts ts' : Tg} {k k' : SK} {src src' : IEs} {ielt : IE} (hi : PI X tg iter (tSrc Fn X.K k src)) (ok : BlkOk X.N X.env.scope scope own) (ho : own.map (·.2) = ts.slots ++ ts'.slots)
    (hg : ∀ (s : Shared) (H : Hp) (C : Addr) (cl : List (Str × Addr)) (fp : List Addr), PG (X.blk s H scope (compEnvC scope cl C X.env) fp) tg (gT X.K ts))
    (hi1 : ∀ (s : Shared) (H : Hp) (C : Addr) (cl : List (Str × Addr)) (fp : List Addr), PI (X.blk s H scope (compEnvC scope cl C X.env) fp) tg1 iter1 (tSrc Fn X.K k' src'))
    (hg1 : ∀ (s : Shared) (H : Hp) (C : Addr) (cl : List (Str × Addr)) (fp : List Addr), PG (X.blk s H scope (compEnvC scope cl C X.env) fp) tg1 (gT X.K ts'))
    (he : ∀ (s : Shared) (H : Hp) (C : Addr) (cl : List (Str × Addr)) (fp : List Addr), PE (X.blk s H scope (compEnvC scope cl C X.env) fp) elt (tV Fn X.K ielt)) (hs : noSet iter = true) (hs1 : noSet iter1 = true) :
    PE X (.ListComp elt [⟨tg, iter, [], 0⟩, ⟨tg1, iter1, [], 0⟩] scope pos) (tN Fn X.K (.comp2 ts k src ts' k' src' ielt)) :=
  (pe_lc2 (vs1 := ts'.slots) hc hN hi ok (fun i h => by rw [ho]; exact List.mem_append_right _ h) hg (fun s H C cl fp => pIfs_nil) hi1 hg1 (fun s H C cl fp => pIfs_nil) he (fun x => folded_of hs X.env x) (fun env x => folded_of hs1 env x)).weak fun σ H Q h => by
    rw [ho]; exact lc2_step h

/-! ### dict comprehensions -/
theorem dc_step {K : PySem.W.Frag} {ts : Tg} {k : SK} {src : IEs} {iek iev : IE} {σ : L2.St} {H : Hp} {Q : VK} (h : tN Fn K (.dcomp ts k src iek iev) σ H Q) :
    tDc (tSrc Fn K k src) (gT K ts) (tIfs Fn K .nil) (tV Fn K iek) (tV Fn K iev) ts.slots σ H Q := by
  obtain ⟨F, G, ι, s, d, s', ok, ev, kk⟩ := h
  simp only [evE, Option.bind_eq_some_iff, Prod.exists] at ev
  obtain ⟨ds, s1, e1, items, e2, ev⟩ := ev
  split at ev
  case isFalse => cases ev
  case isTrue fr =>
  simp only [Option.map_eq_some_iff, Prod.exists, Prod.mk.injEq] at ev
  obtain ⟨acc, s2, e3, e4, e5⟩ := ev
  subst e4 e5
  refine ⟨F, G, ι, s, ds, s1, items, ok, e1, e2, fun J H1 G1 ι1 ok1 x1 it => ?_⟩
  intro Dp hD
  have w1 := ok1.fresh hD
  generalize hf : (fun d (st : List (D × D) × S) => (bindT (wipeS st.2 ts.slots) ts d).bind fun s1 => (evE Fn iek s1).bind fun kk => (evE Fn iev kk.2).bind fun vv =>
          if keyOk1 kk.1 && decide (st.1.length < sizeLine) then some (dput st.1 kk.1 vv.1, vv.2) else none) = f at e3
  refine ⟨fun i m H => i + m = items.length ∧ ∃ G2 ι2 sC σ2 accD accV, Ext G1 ι1 G2 ι2 ∧ L2.wipe σ2 ts.slots = L2.wipe σ ts.slots ∧ Ok K (upd F Dp (.dK accV)) G2 ι2 H sC.ρ σ2 sC.st ∧ RepKV K G2 ι2 accV accD ∧
    foldO f (items.drop i) (accD, sC) = some (acc, s2), ?_, ?_⟩
  · have ok2 := ((ok1.alloc hD (.dK [])).foreign w1 upd_same).wipeL (s := s1) rfl rfl ts.slots
    exact ⟨items.length, by omega, G1, ι1, wipeS s1 ts.slots, L2.wipe σ ts.slots, [], [], Ext.refl _ _, wipe_wipe σ _, ok2, .nil, by rw [List.drop_zero]; exact e3⟩
  · rintro i m H2 ⟨hm, G2, ι2, sC, σ2, accD, accV, x2, hw, ok2, rA, e6⟩
    have sm : Same G1 H2 := fun a o q => ok2.sub a o (x2.1 a o q)
    by_cases hi : i < items.length
    · refine .inr ⟨it.go i H2 sm hi, fun H' => ∃ G2 ι2 sC σ2 accD accV, Ext G1 ι1 G2 ι2 ∧ L2.wipe σ2 ts.slots = L2.wipe σ ts.slots ∧ Ok K (upd F Dp (.dK accV)) G2 ι2 H' sC.ρ σ2 sC.st ∧ RepKV K G2 ι2 accV accD ∧
        foldO f (items.drop (i + 1)) (accD, sC) = some (acc, s2), fun H' n => ⟨m - 1, by omega, by omega, n⟩, fun x H3 y => ?_⟩
      obtain ⟨b', e7, e8⟩ := foldO_split e6 hi
      rw [← hf] at e7
      simp only [Option.bind_eq_some_iff, Prod.exists] at e7
      obtain ⟨sB, e9, dk, s4, e10, dv, s5, e11, e12⟩ := e7
      split at e12
      case isFalse => cases e12
      case isTrue hz =>
      simp only [Bool.and_eq_true, decide_eq_true_eq] at hz
      cases e12
      obtain ⟨G3, ok3, x3, r3⟩ := ok2.yld it x2 y (List.getElem?_eq_getElem hi)
      have ok3' := ok3.wipeL (s := sC) rfl rfl ts.slots
      rw [hw] at ok3'
      refine ⟨_, G3, ι2, wipeS sC ts.slots, items[i], sB, ok3', r3, e9, fun σ3 okB hw3 => ?_⟩
      rw [wipe_wipe] at hw3
      refine ⟨hw3, _, G3, ι2, sB, true, sB, okB, rfl, fun H4 G4 ι4 ok4 x4 => ?_⟩
      show tV Fn K iek σ3 H4 _
      refine ⟨_, G4, ι4, sB, dk, s4, ok4, e10, fun v H5 G5 ι5 ok5 x5 r5 => ⟨_, G5, ι5, s4, dv, s5, ok5, e11, fun u H6 G6 ι6 ok6 x6 r6 => ?_⟩⟩
      obtain ⟨ky, rfl⟩ := keyOk1_key hz.1
      have x26 := x3.trans (x4.trans (x5.trans x6))
      refine ⟨accV, ky, r5.key, ok6.fsub _ _ upd_same, by rw [rA.length]; exact hz.2, ?_⟩
      exact ⟨G6, ι6, s5, σ3, _, _, x2.trans x26, hw3, ok6.foreignW, (rA.ext x26).put ky r6, e8⟩
    · have e : i = items.length := by omega
      subst e
      rw [List.drop_length] at e6
      cases e6
      refine .inl ⟨it.stop H2 sm, ?_⟩
      obtain ⟨ok3, w3⟩ := ok2.unforeign w1.f
      refine kk _ _ _ _ (Ok.back ok1 ok3 x2 hw fr) (x1.trans x2) (.inl ⟨rfl, Dp, rfl, w3.back hw fr, accV, ok2.fsub _ _ upd_same, rA⟩)
section
variable {kx vx tg iter : Expr} {scope : Scope} {own : List (Str × Nat)} {ts : Tg} {k : SK} {src : IEs} {iek iev : IE}
theorem pN_dc (hc : X.calm = true) (hN : X.N.Nodup) (hi : PI X tg iter (tSrc Fn X.K k src)) (ok : BlkOk X.N X.env.scope scope own) (ho : own.map (·.2) = ts.slots)
    (hg : ∀ (s : Shared) (H : Hp) (C : Addr) (cl : List (Str × Addr)) (fp : List Addr), PG (X.blk s H scope (compEnvC scope cl C X.env) fp) tg (gT X.K ts))
    (hk : ∀ (s : Shared) (H : Hp) (C : Addr) (cl : List (Str × Addr)) (fp : List Addr), PE (X.blk s H scope (compEnvC scope cl C X.env) fp) kx (tV Fn X.K iek))
    (he : ∀ (s : Shared) (H : Hp) (C : Addr) (cl : List (Str × Addr)) (fp : List Addr), PE (X.blk s H scope (compEnvC scope cl C X.env) fp) vx (tV Fn X.K iev)) (hs : noSet iter = true) :
    PE X (.DictComp kx vx [⟨tg, iter, [], 0⟩] scope pos) (tN Fn X.K (.dcomp ts k src iek iev)) :=
  (pe_dc hc hN hi ok hg (fun s H C cl fp => pIfs_nil) hk he (fun x => folded_of hs X.env x)).weak fun σ H Q h => by rw [ho]; exact dc_step h
/-- name = {..} on one line: the block's name goes to the target -/
theorem ps_setDc {i : Nat} {y : Str} {py spos : Pos} (hc : X.calm = true) (hN : X.N.Nodup) (hy : X.N[i]? = some y) (hyl : X.env.scope.names.lookup y = some .local)
    (hsw : swapsWith (.DictComp kx vx [⟨tg, iter, [], 0⟩] scope pos) (some (.Name y py)) spos.line X.env = pure true) (hi : PI X tg iter (tSrc Fn X.K k src)) (ok : BlkOk X.N X.env.scope scope own) (ho : own.map (·.2) = ts.slots)
    (hg : ∀ (s : Shared) (H : Hp) (C : Addr) (cl : List (Str × Addr)) (fp : List Addr), PG (X.blk s H scope (compEnvC scope cl C X.env) fp) tg (gT X.K ts))
    (hk : ∀ (s : Shared) (H : Hp) (C : Addr) (cl : List (Str × Addr)) (fp : List Addr), PE (X.blk s H scope (compEnvC scope cl C X.env) fp) kx (tV Fn X.K iek))
    (he : ∀ (s : Shared) (H : Hp) (C : Addr) (cl : List (Str × Addr)) (fp : List Addr), PE (X.blk s H scope (compEnvC scope cl C X.env) fp) vx (tV Fn X.K iev)) (hs : noSet iter = true) :
    PS X (.Assign [.Name y py] (.DictComp kx vx [⟨tg, iter, [], 0⟩] scope pos) spos) (tAsg (tN Fn X.K (.dcomp ts k src iek iev)) (gName i)) := by
  refine ⟨fun pn s σ H D I w => ?_⟩
  rw [exec_Assign_Name_used _ _ _ _ hsw]
  refine wpAny_bind (wpAny_standAt (wpAny_bind ?_))
  show wpAny _ X.A (do let _ ← comprehension (.DictComp kx vx [⟨tg, iter, [], 0⟩] scope pos) scope X.env (firstIterPos [⟨tg, iter, [], 0⟩] pos) newDict false (eval iter X.env) (some (assign (.Name y py) X.env))) _ _ s
  have w2 : tDc (tSrc Fn X.K k src) (gT X.K ts) (tIfs Fn X.K .nil) (tV Fn X.K iek) (tV Fn X.K iev) (own.map (·.2)) σ H (fun x H1 => gName i x σ H1 D.nx) := by rw [ho]; exact dc_step w
  refine wpAny_bind (thn (dc_core (Qf := fun _ st => SP X pn D .next st) hc hN I hi ok hg (fun s H C cl fp => pIfs_nil) hk he (fun x => folded_of hs X.env x) w2 fun Z Cc st mm Hn In qn hn ff => ?_) fun _ st hq => wpAny_pure (wpAny_pure hq))
  show wpAny _ _ (assign (.Name y py) X.env (.ref Z)) _ _ _
  refine wpAny_assign_Name (store_ok2 (v := V.ref Z) In hN hy (.inl hyl) rfl (fun sB IB ⟨aB, sb, ha⟩ => ?_) (.inr hyl))
  obtain ⟨f0, f1, f2, f3, f4, f5⟩ := ff
  have apart : Cc ≠ aB := by
    rcases ha with z | z
    · rw [z]; exact f1
    · exact fun e => f4 y aB z e.symm
  refine ⟨mm, hn.sameBut sb apart, fun hB sbB => ?_⟩
  exact ⟨_, Hn, IB.turned (t' := sB.toks) (fun b o hb e => (sbB.2 b hb).trans e) f0 f1 f3 f4 f5, qn⟩
end
theorem pS_setLc2 (hc : X.calm = true) (hN : X.N.Nodup) {i : Nat} {y : Str} {py spos : Pos} {elt tg iter tg1 iter1 : Expr} {scope : Scope} {own : List (Str × Nat)} {ts ts' : Tg} {k k' : SK} {src src' : IEs} {ielt : IE} (hy : X.N[i]? = some y) (hyl : X.env.scope.names.lookup y = some .local)
    (hsw : swapsWith (.ListComp elt [⟨tg, iter, [], 0⟩, ⟨tg1, iter1, [], 0⟩] scope pos) (some (.Name y py)) spos.line X.env = pure true) (hi : PI X tg iter (tSrc Fn X.K k src)) (ok : BlkOk X.N X.env.scope scope own) (ho : own.map (·.2) = ts.slots ++ ts'.slots)
    (hg : ∀ (s : Shared) (H : Hp) (C : Addr) (cl : List (Str × Addr)) (fp : List Addr), PG (X.blk s H scope (compEnvC scope cl C X.env) fp) tg (gT X.K ts))
    (hi1 : ∀ (s : Shared) (H : Hp) (C : Addr) (cl : List (Str × Addr)) (fp : List Addr), PI (X.blk s H scope (compEnvC scope cl C X.env) fp) tg1 iter1 (tSrc Fn X.K k' src'))
    (hg1 : ∀ (s : Shared) (H : Hp) (C : Addr) (cl : List (Str × Addr)) (fp : List Addr), PG (X.blk s H scope (compEnvC scope cl C X.env) fp) tg1 (gT X.K ts'))
    (he : ∀ (s : Shared) (H : Hp) (C : Addr) (cl : List (Str × Addr)) (fp : List Addr), PE (X.blk s H scope (compEnvC scope cl C X.env) fp) elt (tV Fn X.K ielt)) (hs : noSet iter = true) (hs1 : noSet iter1 = true) :
    PS X (.Assign [.Name y py] (.ListComp elt [⟨tg, iter, [], 0⟩, ⟨tg1, iter1, [], 0⟩] scope pos) spos) (tAsg (tN Fn X.K (.comp2 ts k src ts' k' src' ielt)) (gName i)) :=
  (ps_setLc2 (vs1 := ts'.slots) hc hN hy hyl hsw hi ok (fun i h => by rw [ho]; exact List.mem_append_right _ h) hg (fun s H C cl fp => pIfs_nil) hi1 hg1 (fun s H C cl fp => pIfs_nil) he (fun x => folded_of hs X.env x) (fun env x => folded_of hs1 env x)).weak fun D σ H h => by
    show tLc2 _ _ _ _ _ _ _ (own.map (·.2)) _ σ H _
    rw [ho]; exact lc2_step h
end
end Ev

-- EvW
set_option autoImplicit true
set_option Elab.async false
set_option linter.all false
set_option maxRecDepth 100000
set_option maxHeartbeats 4000000
/-! EvW: sets of texts: made of a list, sorted. -/
namespace Ev
open PySem PySem.Spec PyProof.Rows L2
/-! ### what a set of ints is -/
def keyOfS (e : Int × Value) : Str := match e.2 with | .str k _ => k | _ => Str.empty
def GoodS (w : World) (e : Int × Value) : Prop := ∃ k tk, e.2 = Value.str k tk ∧ e.1 = hashStr w k

/-- the set of ints at a: S its members, n their number; its table rises and can be walked -/
def TxR (w : World) (h : Heap) (a : Addr) (S : Str → Bool) (n : Nat) : Prop :=
  ∃ o es ep t, h.get? a = some o ∧ o.ExactSet ∧ o.data = .set es ep t ∧ (∀ e ∈ es.toList, GoodS w e) ∧ (es.toList.map keyOfS).Nodup ∧ (∀ k, S k = true ↔ k ∈ es.toList.map keyOfS) ∧
    es.size < scanBound ∧ t.fits es.size = true ∧ es.size = n ∧ Ris t.place.toList ∧ (w.params.followText "set-order" = true ∨ t.led = true)

section
variable {P : Program} {w : World} {h h' : Heap} {a : Addr} {S : Str → Bool} {n : Nat}

theorem TxR.at (R : TxR w h a S n) (k : ∀ o, h.get? a = some o → h'.get? a = some o) : TxR w h' a S n := by
  obtain ⟨o, es, ep, t, ho, r⟩ := R
  exact ⟨o, es, ep, t, k o ho, r⟩
theorem TxR.lt (R : TxR w h a S n) : a < h.objs.size := by
  obtain ⟨o, es, ep, t, ho, r⟩ := R
  exact Heap.lt_size ho
theorem TxR.congr {S' : Str → Bool} (R : TxR w h a S n) (e : ∀ k, S' k = S k) : TxR w h a S' n := by
  have q : S' = S := funext e
  rw [q]; exact R
theorem goodS_elems {l : List (Int × Value)} (g : ∀ e ∈ l, GoodS w e) : ElemsOf (PySem.strKind P w) l := fun e he => by
  obtain ⟨k, tk, h1, h2⟩ := g e he
  exact ⟨⟨k, by rw [h1]; exact PySem.strKind_is P w k tk, h2⟩, by rw [h1] <;> rfl⟩
theorem goodS_is {e : Int × Value} (g : GoodS w e) (k : Str) : (PySem.strKind P w).is k e.2 = true ↔ keyOfS e = k := by
  obtain ⟨k0, tk, h1, _⟩ := g
  unfold keyOfS
  rw [h1]
  show ((k0 == k) = true) ↔ k0 = k
  exact beq_iff_eq
theorem goodS_mem {l : List (Int × Value)} (g : ∀ e ∈ l, GoodS w e) (k : Str) : k ∈ l.map keyOfS ↔ ∃ e ∈ l, (PySem.strKind P w).is k e.2 = true := by
  rw [List.mem_map]
  constructor
  · rintro ⟨e, he, q⟩
    exact ⟨e, he, (goodS_is (g e he) k).2 q⟩
  · rintro ⟨e, he, q⟩
    exact ⟨e, he, (goodS_is (g e he) k).1 q⟩
theorem TxR.setOf (R : TxR w h a S n) : h.SetOf (PySem.strKind P w) a S n := by
  obtain ⟨o, es, ep, t, ho, hx, hd, g, nd, hm, hb, hf, hn, _⟩ := R
  exact ⟨o, es, ep, t, ho, hx, hd, goodS_elems g, fun k => (hm k).trans (goodS_mem g k), hb, hf, hn⟩
end

section
variable {P : Program} {w : World} {A : Around} {E : Value → Shared → Prop} {s : Shared} {a : Addr} {S : Str → Bool} {n : Nat}

/-! ### add -/
theorem storeS_at {h : Heap} {a : Addr} {o : Obj} {es es' : Array (Int × Value)} {ep : Nat} {t t' : SetTable} (ho : h.get? a = some o) (hd : o.data = .set es ep t) :
    (h.update a (Obj.putSet es' t')).get? a = some { o with data := .set es' (ep + 1) t' } := by
  have q := Heap.get?_update_self (Obj.putSet es' t') ho (by rw [putSet_of es' t' hd]; rfl)
  rw [putSet_of es' t' hd] at q
  exact q

theorem txR_add_tail {g : Bool → Sem Unit} (hg : ∀ (b : Bool) (s₁ : Shared) (Q' : Unit → Shared → Prop), Q' () s₁ → wpAny (model P w) A (g b) Q' E s₁)
    {o : Obj} {es : Array (Int × Value)} {ep : Nat} {t : SetTable} (ho : s.heap.get? a = some o) (hex : o.ExactSet) (hd : o.data = .set es ep t)
    {es1 : Array (Int × Value)} {t2 : SetTable} {S' : Str → Bool} (g1 : ∀ e ∈ es1.toList, GoodS w e) (nd1 : (es1.toList.map keyOfS).Nodup) (m1 : ∀ k, S' k = true ↔ k ∈ es1.toList.map keyOfS)
    (hb1 : es1.size < scanBound) (hf2 : t2.fits es1.size = true) (hr : Ris t2.place.toList) (hl : w.params.followText "set-order" = true ∨ t2.led = true) {wasDummy : Bool} {R : Option Bool → Shared → Prop}
    (hR : ∀ h', Heap.SameBut a s.heap h' → TxR w h' a S' es1.size → R (some true) { s with heap := h' }) :
    wpAny (model P w) A (do
        storeSet a es1 t2
        if (!wasDummy && t2.tooFull) = true then do
            g (relayAll t2 es1 (SetTable.grown es1.size)).2.2
            storeSet a (relayAll t2 es1 (SetTable.grown es1.size)).1 (relayAll t2 es1 (SetTable.grown es1.size)).2.1
            pure (some true)
          else pure (some true)) R E s := by
  refine wpAny_bind (wpAny_storeSet_of ho hd ?_ (fits_of_scanBound hb1))
  have ho1 := storeS_at (es' := es1) (t' := t2) ho hd
  have sb1 := Heap.SameBut.update s.heap a (Obj.putSet es1 t2)
  split
  · have pm := relayAll_perm t2 es1 (SetTable.grown es1.size)
    have hf3 := relayAll_fits t2 es1 (SetTable.grown es1.size)
    have hr3 := relayAll_ris t2 es1 (SetTable.grown es1.size)
    have hl3 := relayAll_led t2 es1 (SetTable.grown es1.size)
    generalize relayAll t2 es1 (SetTable.grown es1.size) = Z at pm hf3 hr3 hl3 ⊢
    obtain ⟨es2, t3, gave⟩ := Z
    dsimp only at pm hf3 hr3 hl3 ⊢
    have hsz : es2.size = es1.size := by rw [← Array.length_toList, pm.length_eq, Array.length_toList]
    have hb2 : es2.size < scanBound := by rw [hsz]; exact hb1
    refine wpAny_bind (hg _ _ _ ?_)
    refine wpAny_bind (wpAny_storeSet_of ho1 rfl ?_ (fits_of_scanBound hb2))
    have ho2 := storeS_at (es' := es2) (t' := t3) ho1 rfl
    refine wpAny_pure (hR _ (sb1.trans (Heap.SameBut.update _ a _)) ?_)
    exact ⟨_, es2, _, t3, ho2, hex, rfl, fun e he => g1 e (pm.mem_iff.mp he), (pm.map keyOfS).nodup_iff.mpr nd1, fun k => (m1 k).trans (pm.map keyOfS).mem_iff.symm, hb2, hf3, hsz, hr3,
      hl.imp id fun z => by rw [hl3]; exact z⟩
  · exact wpAny_pure (hR _ sb1 ⟨_, es1, _, t2, ho1, hex, rfl, g1, nd1, m1, hb1, hf2, rfl, hr, hl⟩)

theorem txR_add_hashed {k : Str} {tk : Tok} {Q : Bool → Shared → Prop} (R : TxR w s.heap a S n) (room : n + 1 < scanBound)
    (hQ : ∀ h', Heap.SameBut a s.heap h' → TxR w h' a (fun j => S j || decide (j = k)) (if S k = true then n else n + 1) → Q (!S k) { s with heap := h' }) :
    wpAny (model P w) A (setAddHashed a (.str k tk) ((PySem.strKind P w).hash k)) Q E s := by
  obtain ⟨o, es, ep, t, ho, hex, hd, g, nd, hm, hb, hf, hn, hr, hl⟩ := R
  have hkey : (PySem.strKind P w).is k (.str k tk) = true := PySem.strKind_is P w k tk
  have hsc : (Value.str k tk).scannable = true := rfl
  have hel : ElemsOf (PySem.strKind P w) es.toList := goodS_elems g
  unfold setAddHashed setAddHashedIn
  refine wpAny_holding (wpAny_bind (wpAny_setState_of ho hd hf ?_))
  dsimp only
  rw [byScan_of hsc hb hel]
  simp only [↓reduceIte]
  unfold setAddByScan
  refine wpAny_bind ?_
  refine wpAny_bind (wpAny_rule ?_)
  refine wpAny_bind (wpAny_setScan_of hkey ho hd hf hel ?_)
  cases hfi : List.findIdx? (fun e => (PySem.strKind P w).is k e.2) es.toList with
  | some j =>
    dsimp only
    obtain ⟨hj, pj, _⟩ := List.findIdx?_eq_some_iff_getElem.mp hfi
    have hSk : S k = true := (hm k).2 ((goodS_mem (P := P) (w := w) g k).2 ⟨es.toList[j], List.getElem_mem hj, pj⟩)
    refine wpAny_pure (wpAny_pure ?_)
    have q := hQ s.heap (Heap.SameBut.refl a s.heap) ⟨o, es, ep, t, ho, hex, hd, g, nd, fun i => by
      rw [Bool.or_eq_true, decide_eq_true_eq, ← hm i]
      exact ⟨fun z => z.elim id (fun e => e ▸ hSk), .inl⟩, hb, hf, by rw [if_pos hSk]; exact hn, hr, hl⟩
    rw [hSk] at q
    exact q
  | none =>
    dsimp only
    have hnk : k ∉ es.toList.map keyOfS := fun z => by
      obtain ⟨e, he, q⟩ := (goodS_mem (P := P) (w := w) g k).1 z
      have c := List.findIdx?_eq_none_iff.mp hfi e he
      rw [q] at c
      cases c
    have hSk : S k = false := by
      cases q : S k with
      | false => rfl
      | true => exact absurd ((hm k).1 q) hnk
    have hgw : ∀ (b : Bool) {s₁ : Shared} {Q' : Unit → Shared → Prop}, Q' () s₁ → wpAny (model P w) A (match b with | true => rule "set.scan.the-table-gave-way" | false => pure ()) Q' E s₁ :=
      fun b s₁ Q' q => by cases b <;> first | exact wpAny_pure q | exact wpAny_rule q
    have pm := layNew_perm t es ((PySem.strKind P w).hash k) (.str k tk)
    have hf1 := layNew_fits t es ((PySem.strKind P w).hash k) (.str k tk)
    have hr1 := layNew_ris t es ((PySem.strKind P w).hash k) (.str k tk) hr
    have hl1 := layNew_led t es ((PySem.strKind P w).hash k) (.str k tk)
    generalize layNew t es ((PySem.strKind P w).hash k) (.str k tk) = Z at pm hf1 hr1 hl1 ⊢
    obtain ⟨es1, t1, wasDummy, gave⟩ := Z
    dsimp only at pm hf1 hr1 hl1 ⊢
    rw [Array.toList_push] at pm
    have pc : es1.toList.Perm (((PySem.strKind P w).hash k, Value.str k tk) :: es.toList) := pm.trans (List.perm_append_singleton _ _)
    have pk : (es1.toList.map keyOfS).Perm (k :: es.toList.map keyOfS) := pc.map keyOfS
    have g1 : ∀ e ∈ es1.toList, GoodS w e := fun e he => by
      rcases List.mem_cons.mp (pc.mem_iff.mp he) with z | z
      · rw [z]; exact ⟨k, tk, rfl, rfl⟩
      · exact g e z
    have nd1 : (es1.toList.map keyOfS).Nodup := pk.nodup_iff.mpr (List.nodup_cons.mpr ⟨hnk, nd⟩)
    have m1 : ∀ i, (S i || decide (i = k)) = true ↔ i ∈ es1.toList.map keyOfS := fun i => by
      rw [Bool.or_eq_true, decide_eq_true_eq, hm i, pk.mem_iff, List.mem_cons]
      exact Or.comm
    have hsz : es1.size = n + 1 := by rw [← Array.length_toList, pc.length_eq, List.length_cons, Array.length_toList, hn]
    have hb1 : es1.size < scanBound := by rw [hsz]; exact room
    have hled : w.params.followText "set-order" = true ∨ t1.led = true := hl.imp id fun z => by rw [hl1]; exact z
    have fin : ∀ h', Heap.SameBut a s.heap h' → TxR w h' a (fun j => S j || decide (j = k)) es1.size → Q true { s with heap := h' } := fun h' sb r => by
      have q := hQ h' sb
      rw [hSk] at q
      rw [hsz] at r
      exact q r
    refine wpAny_bind (hgw _ ?_)
    split
    · refine wpAny_bind ?_
      rw [hashByValue_scannable 8 hsc]
      refine wpAny_pure ?_
      refine txR_add_tail ?_ ho hex hd g1 nd1 m1 hb1 ?_ ?_ ?_ ?_
      · intro b s₁ Q' q; cases b <;> first | exact wpAny_pure q | exact wpAny_rule q
      · first | (split <;> first | exact hf1 | exact SetTable.fits_plain_off hf1) | exact hf1
      · first | (split <;> exact hr1) | exact hr1
      · first | (split <;> exact hled) | exact hled
      · intro h' sb r; dsimp only; exact wpAny_pure (fin h' sb r)
    · refine wpAny_bind (wpAny_pure ?_)
      simp only [↓reduceIte]
      refine txR_add_tail ?_ ho hex hd g1 nd1 m1 hb1 hf1 hr1 hled ?_
      · intro b s₁ Q' q; cases b <;> first | exact wpAny_pure q | exact wpAny_rule q
      · intro h' sb r; dsimp only; exact wpAny_pure (fin h' sb r)
end
theorem txs_at : ∀ {us : List Value} {xs : List Str}, StrsAre us xs → ∀ (i : Nat) (v : Value), us[i]? = some v → ∃ x t, xs[i]? = some x ∧ v = .str x t
  | _, _, .nil, i, v, h => by simp at h
  | _, _, .cons n t hr, 0, v, h => by simp at h; exact ⟨n, t, rfl, h.symm⟩
  | _, _, .cons n t hr, i + 1, v, h => by
    simp only [List.getElem?_cons_succ] at h ⊢
    exact txs_at hr i v h
section
variable {prog : Program} {w : World} {A : Around} {E : Value → Shared → Prop} {s : Shared}
/-- the empty set that set(a) begins with; how its table was made -/
theorem codeTx_new (a : Value) {Q₁ : Value → Shared → Prop} (h : Q₁ (.ref s.heap.objs.size) { s with heap := s.heap.push { cls := .type "set", dict := none, data := .set #[] 0 (.fresh 0 0 (!w.params.followText "set-order")) } }) :
    codeAny (model prog w) A (.call (.builtin "set.__new__") ⟨[.type "set", a], []⟩) (wants Q₁ E) s := by
  refine codeAny_of_tree ?_
  show wpAny _ A.in1 (do checkBuiltinCall "set.__new__" ⟨[.type "set", a], []⟩; again (.builtin "set.__new__" ⟨[.type "set", a], []⟩)) _ _ s
  refine wpAny_bind (wpAny_of_eq (PySem.F.newCall_set_1 a) (wpAny_pure ⟨plainId_quiet PySem.F.plain_set_new _, codeAny_builtin PySem.F.entry_set_new ?_⟩))
  rw [Around.under_plainId PySem.F.plain_set_new _]
  unfold Builtin.«set.__new__» Builtin.Frozenset.newClass
  have hsub := sub_set_self
  obtain ⟨hp, g, d, tk, os⟩ := s
  dsimp only
  wp_walk
  refine wpAny_askSetting (wpAny_pure ?_)
  dsimp only
  simp only [newObj]
  exact wpAny_bind (wpAny_alloc (wpAny_pure (wpAny_pure h)))
end
/-- the members among the first i texts, m of them -/
def Upto (w : World) (h : Heap) (a : Addr) (xs : List Str) (i : Nat) : Prop := ∃ m, m ≤ i ∧ TxR w h a (fun k' => (xs.take i).any (· == k')) m
section
variable {prog : Program} {w : World} {A : Around} {R : Result → Shared → Prop} {I : Addr} {fp wr : List Addr} {G : Array GenState → Array GenState → Prop} {n : Nat} {P : Nat → Value → Prop} {St : Nat → Shared → Prop}
theorem loopTx (W : WalksS prog w A.in1 I fp wr G n P St) (S : Addr) (hSf : S ∉ fp) (xs : List Str) (hb : n < 64) (hval : ∀ i v, P i v → ∃ x t, xs[i]? = some x ∧ v = .str x t) :
    ∀ (k i : Nat) (s : Shared), n - i = k → i ≤ n → St i s → Upto w s.heap S xs i → (∀ s', Moved (S :: wr) G s s' → Upto w s'.heap S xs n → R (.ok (.ret .none)) s') →
      codeAny (model prog w) A (.builtin "set.update.loop" ⟨[.ref S, .ref I], []⟩) R s := by
  have hSw : S ∉ wr := fun h => hSf (W.sub _ h)
  have more : ∀ b ∈ wr, b ∈ S :: wr := fun b hb => List.mem_cons_of_mem _ hb
  intro k
  induction k with
  | zero =>
    intro i s hk hi hst hS hR
    obtain rfl : i = n := by omega
    refine codeAny_builtin PyProof.Rows.F.entry_set_update_loop ?_
    rw [Around.under_plainId PyProof.Rows.F.plain_set_update_loop _]
    show wpAny _ A.in1 (pyNext (.ref I) >>= _) _ _ s
    refine wpAny_bind (W.done s _ _ hst fun s' hm => ?_)
    show wpAny _ A.in1 (ret Value.none) _ _ s'
    obtain ⟨m, hm1, q⟩ := hS
    exact wpAny_pure (hR s' (hm.mono more) ⟨m, hm1, q.at fun o ho => hm.heap S o hSw ho⟩)
  | succ k ih =>
    intro i s hk hi hst hS hR
    have hlt : i < n := by omega
    refine codeAny_builtin PyProof.Rows.F.entry_set_update_loop ?_
    rw [Around.under_plainId PyProof.Rows.F.plain_set_update_loop _]
    show wpAny _ A.in1 (pyNext (.ref I) >>= _) _ _ s
    refine wpAny_bind (W.item i s _ _ hlt hst fun v s' hP hst' hm => ?_)
    obtain ⟨x, t, hx, rfl⟩ := hval i v hP
    obtain ⟨m, hm1, q0⟩ := hS
    have q1 : TxR w s'.heap S (fun k' => (xs.take i).any (· == k')) m := q0.at fun o ho => hm.heap S o hSw ho
    show wpAny _ A.in1 (holding [Value.str x t] (setAdd S (.str x t)) >>= _) _ _ s'
    refine wpAny_bind (wpAny_holding ?_)
    unfold setAdd
    refine wpAny_holding ?_
    refine wpAny_bind ((PySem.strKind prog w).pyHash (k := x) (PySem.strKind_is _ _ _ _) ?_)
    refine txR_add_hashed (P := prog) (s := { s' with toks := s'.toks + 1 }) q1 (by unfold scanBound; omega) fun h' hsb q2 => ?_
    have next : Upto w h' S xs (i + 1) := by
      have grow : xs.take (i + 1) = xs.take i ++ [x] := by rw [List.take_add_one, hx]; rfl
      refine ⟨_, ?_, q2.congr fun k' => ?_⟩
      · split <;> omega
      · rw [grow, List.any_append]
        congr 1
        show [x].any (· == k') = decide (k' = x)
        by_cases e : k' = x
        · subst e; simp
        · have hb : (x == k') = false := by simpa [beq_iff_eq] using (fun h' : x = k' => e h'.symm)
          simp [hb, e]
    refine wpAny_pure ⟨plainId_quiet PyProof.Rows.F.plain_set_update_loop _, ih (i + 1) _ (by omega) hlt (W.frame _ s' _ _ hst' (Nat.le_succ _) fun b hb o e => ?_) next fun s'' hm'' hS'' => ?_⟩
    · rw [hsb.2 b (fun h : b = S => hSf (by rw [← h]; exact hb))]; exact e
    · refine hR s'' (Moved.trans W.gtrans ((hm.mono more).then_heap (Nat.le_succ _) fun b o hb e => ?_) hm'') hS''
      rw [hsb.2 b (fun h : b = S => hb (by rw [h]; exact List.mem_cons_self))]; exact e
end
section
variable {prog : Program} {w : World} {A : Around} {E : Value → Shared → Prop} {s : Shared}
set_option maxHeartbeats 3200000 in
theorem call_set_listT {l : Addr} {items : Array Value} {xs : List Str} {Q : Value → Shared → Prop}
    (hh : A.handled = none) (hl : s.heap.IsList l items) (hi : PyProof.Rows.StrsAre items.toList xs) (hn1 : xs.length < 64)
    (h : ∀ (h' : Heap) (tk : Nat), Upto w h' s.heap.objs.size xs items.size →
      (∀ b o, b < s.heap.objs.size → s.heap.get? b = some o → h'.get? b = some o) → Q (.ref s.heap.objs.size) { s with heap := h', toks := tk }) :
    wpAny (model prog w) A (call (.type "set") [.ref l]) Q E s := by
  obtain ⟨c, tl, hmro⟩ := PySem.F.called_set.mro
  have hmade := PySem.F.called_set.made
  have hsub := PySem.F.called_set.sub
  refine wpAny_call (codeAny_of_tree ?_)
  show wpAny _ _ (callAny (.type "set") _) _ _ _
  refine wpAny_pure ⟨Code.quiet_builtin _ (by decide +kernel), codeAny_builtin PySem.F.entry_type_call ?_⟩
  rw [Around.under_plain (weight_type_call_type "set" [.ref l] []) rfl]
  have h1 := PySem.F.called_set.notType
  have h2 := PySem.F.called_set.canCreate
  have hct := PySem.F.typeCall_set_1 (.ref l)
  repeat (any_goals (first | assumption | wp_step))

  refine codeAny_mono (codeTx_new (.ref l) (E := E) (Q₁ := fun obj s₁ => ∃ led : Bool, led = (!w.params.followText "set-order") ∧ obj = .ref s.heap.objs.size ∧ s₁ = { s with heap := s.heap.push { cls := .type "set", dict := none, data := .set #[] 0 (.fresh 0 0 led) } }) ⟨_, rfl, rfl, rfl⟩) fun r s₁ hr => ?_
  cases r with
  | error e => exact hr
  | ok fl =>
    cases fl with
    | ret obj =>
      obtain ⟨led, hled, rfl, rfl⟩ := hr
      have hS : (s.heap.push { cls := .type "set", dict := none, data := .set #[] 0 (.fresh 0 0 led) }).get? s.heap.objs.size = some { cls := .type "set", dict := none, data := .set #[] 0 (.fresh 0 0 led) } := Heap.get?_push_size _ rfl
      have hT : Shared.TypeIs { s with heap := s.heap.push { cls := .type "set", dict := none, data := .set #[] 0 (.fresh 0 0 led) } } (.ref s.heap.objs.size) "set" := ⟨_, hS, rfl⟩
      have hli := PySem.F.called_set.init.lookup
      have hbi := PySem.F.called_set.init.bind (.ref s.heap.objs.size)
      repeat (any_goals (first | assumption | wp_step))

      refine codeAny_mono (codeAny_call_builtin (R := wants (fun r s₂ => r = .none ∧ ∃ h' tk, s₂ = { s with heap := h', toks := tk } ∧
          Upto w h' s.heap.objs.size xs items.size ∧
          (∀ b o, b < s.heap.objs.size → s.heap.get? b = some o → h'.get? b = some o)) E) PySem.F.called_set.init.plain PySem.F.entry_set_init (check_set_init_1 hT ?_)) fun r₂ s₂ hr₂ => ?_
      · obtain ⟨ol, hol, hcl, nl, hdl⟩ := hl
        obtain ⟨ocls, odict, odata, oslots⟩ := ol
        simp only at hcl hdl
        subst hcl; subst hdl
        have hol' : (s.heap.push { cls := .type "set", dict := none, data := .set #[] 0 (.fresh 0 0 led) }).get? l = some { cls := .type "list", dict := odict, data := .seq items nl, slots := oslots } := Heap.get?_push_of_some _ hol
        have hsls := PySem.F.sub_list_set
        have hslf := PySem.F.sub_list_frozenset
        have hne : (Value.type "list" == Value.type "dict") = false := by decide
        have hl1 : (s.heap.push { cls := .type "set", dict := none, data := .set #[] 0 (.fresh 0 0 led) }).IsList l items := ⟨_, hol', rfl, nl, rfl⟩
        unfold Builtin.«set.__init__» noKeywords Builtin.Frozenset.updateFrom
        generalize hPI : pyIter = PI
        wp_walk
        subst hPI

        refine wpAny_pyIter_list hl1 ?_
        refine wpAny_bind (wpAny_runValue ?_)
        have hlS : l < s.heap.objs.size := Heap.lt_size hol
        have hh3 : A.in1.in1.in1.handled = none := by simp [hh]
        have hneI : l ≠ (s.heap.push { cls := .type "set", dict := none, data := .set #[] 0 (.fresh 0 0 led) }).objs.size := by
          rw [Heap.size_push]; exact Nat.ne_of_lt (Nat.lt_succ_of_lt hlS)
        have hSf : s.heap.objs.size ∉ [(s.heap.push { cls := .type "set", dict := none, data := .set #[] 0 (.fresh 0 0 led) }).objs.size, l] := by
          rw [Heap.size_push]; simp only [List.mem_cons, List.mem_singleton, List.not_mem_nil, or_false, not_or]
          exact ⟨Nat.ne_of_lt (Nat.lt_succ_self _), Nat.ne_of_gt hlS⟩
        have hsz : xs.length = items.size := by rw [← StrsAre.len_eq hi, Array.length_toList]
        have hval : ∀ (i : Nat) (v : Value), items[i]? = some v → ∃ x t, xs[i]? = some x ∧ v = .str x t := fun i v hv => txs_at hi i v (by rw [Array.getElem?_toList]; exact hv)
        refine loopTx ((Walks.list hh3 _ l hneI items).toS) s.heap.objs.size
          hSf xs (by rw [← hsz]; exact hn1) hval (items.size - 0) 0 _ (by omega) (Nat.zero_le _)
          ⟨⟨_, Heap.get?_push_size _ rfl, rfl, rfl⟩, (hl1.push _)⟩ ?hS0 ?hR
        case hS0 =>
          have hget : ((s.heap.push { cls := .type "set", dict := none, data := .set #[] 0 (.fresh 0 0 led) }).push { cls := .type "list_iterator", data := .fields #[.ref l, .int 0 0] }).get? s.heap.objs.size
              = some { cls := .type "set", dict := none, data := .set #[] 0 (.fresh 0 0 led) } := Heap.get?_push_of_some _ hS
          have hq : led = (!w.params.followText "set-order") := hled
          subst hq
          exact ⟨0, Nat.le_refl _, _, #[], 0, _, hget, ⟨rfl, rfl, rfl⟩, rfl, (fun e he => by simp at he), (by simp), (fun k => by simp), (by decide), (by rfl), rfl, List.Pairwise.nil, by
            show _ ∨ (!w.params.followText "set-order") = true
            cases w.params.followText "set-order"
            · exact .inr rfl
            · exact .inl rfl⟩
        case hR =>
          intro s' hm hS'
          obtain ⟨h', g', d', tk', os'⟩ := s'
          have eg : g' = s.gens := hm.gens
          have ed : d' = s.drawn := hm.drawn
          have eo : os' = s.os := hm.os
          subst eg; subst ed; subst eo
          show wpAny _ _ _ _ _ _
          refine wpAny_pure ?_
          show wpAny _ _ (ret Value.none) _ _ _
          refine wpAny_pure ⟨rfl, h', tk', rfl, hS', fun b o hb e => ?_⟩
          have hb1 : b ≠ s.heap.objs.size := Nat.ne_of_lt hb
          have hb2 : b ≠ (s.heap.push { cls := .type "set", dict := none, data := .set #[] 0 (.fresh 0 0 led) }).objs.size := by
            rw [Heap.size_push]; exact Nat.ne_of_lt (Nat.lt_succ_of_lt hb)
          exact hm.heap b o (by simp only [List.mem_cons, List.mem_singleton, List.not_mem_nil, or_false, not_or]; exact ⟨hb1, hb2⟩) (Heap.get?_push_of_some _ (Heap.get?_push_of_some _ e))

      · cases r₂ with
        | error e => exact hr₂
        | ok fl₂ =>
          cases fl₂ with
          | ret r =>
            obtain ⟨rfl, h', tk, rfl, hS', hk'⟩ := hr₂
            repeat (any_goals (first | assumption | wp_step))
            exact h _ _ hS' hk'
          | _ => exact hr₂.elim
    | _ => exact hr.elim


end
end Ev

-- EvY2
set_option autoImplicit true
set_option Elab.async false
set_option linter.all false
set_option maxRecDepth 100000
set_option maxHeartbeats 4000000
/-! EvY2: sorted(set(texts)). -/
namespace Ev
open PySem PySem.Spec PyProof.Rows L2
section
variable {P : Program} {w : World} {A : Around} {E : Value → Shared → Prop} {s : Shared} {a : Addr}
theorem texts_of : ∀ (l : List Value), (∀ v ∈ l, ∃ k tk, v = Value.str k tk) → ∃ ss, StrsAre l ss
  | [], _ => ⟨[], .nil⟩
  | v :: l, h => by
    obtain ⟨k, tk, rfl⟩ := h v List.mem_cons_self
    obtain ⟨ss, q⟩ := texts_of l fun u hu => h u (List.mem_cons_of_mem _ hu)
    exact ⟨k :: ss, .cons k tk q⟩
theorem texts_keys : ∀ {l : List (Int × Value)} {ss : List Str}, StrsAre (l.map (·.2)) ss → l.map keyOfS = ss
  | [], _, .nil => rfl
  | (h, v) :: l, _, q => by
    cases q with
    | cons n t hr =>
      rw [List.map_cons, texts_keys hr]
      rfl
theorem strsAre_perm {l l' : List Value} (p : l.Perm l') : ∀ {ss : List Str}, StrsAre l ss → ∃ ss', StrsAre l' ss' ∧ ss.Perm ss' := by
  induction p with
  | nil => intro ss h; exact ⟨ss, h, List.Perm.refl _⟩
  | cons x _ ih =>
    intro ss h
    cases h with
    | cons n t hr =>
      obtain ⟨ss', h1, h2⟩ := ih hr
      exact ⟨n :: ss', .cons n t h1, h2.cons n⟩
  | swap x y l =>
    intro ss h
    cases h with
    | cons n t hr =>
      cases hr with
      | cons n' t' hr' => exact ⟨n' :: n :: _, .cons n' t' (.cons n t hr'), List.Perm.swap _ _ _⟩
  | trans _ _ ih1 ih2 =>
    intro ss h
    obtain ⟨s1, h1, h2⟩ := ih1 h
    obtain ⟨s2, h3, h4⟩ := ih2 h1
    exact ⟨s2, h3, h2.trans h4⟩
theorem SSof : ∀ {ys : List Str} {us : List Value}, Vals (ys.map V.str) us → StrsAre us ys
  | [], _, .nil => .nil
  | y :: ys, _, .cons r t => by
    obtain ⟨k, rfl⟩ := r
    exact .cons y k (SSof t)
/-- sorted of a set of texts -/
theorem sorted_txs {S : Str → Bool} {n : Nat} {Q : Value → Shared → Prop} (R : TxR w s.heap a S n) (hh : A.handled = none) (h64 : n < 64)
    (hQ : ∀ s' p (out : Array Value) (c : Nat) (ss : List Str), (∀ b o, s.heap.get? b = some o → s'.heap.get? b = some o) → s'.gens = s.gens → s'.os = s.os → s.heap.objs.size ≤ p →
      s'.heap.get? p = some (seqObj "list" out c) → StrsAre out.toList ss → sortedS ss = true → ss.Nodup → (∀ k, k ∈ ss ↔ S k = true) → ss.length = n → Q (.ref p) s') :
    wpAny (model P w) A (call (.builtin "sorted") [.ref a]) Q E s := by
  obtain ⟨o, es, ep, t, ho, hex, hd, g, nd, hm, hb, hf, hn, hr, hl⟩ := R
  refine Calls.call_function_entry kind_sorted plain_sorted entry_sorted (args_sorted1 _) ?_
  unfold Builtin.«sorted»
  refine wpAny_bind (m := checkCount "sorted" 1 1 _) (wpAny_pure ?_)
  refine wpAny_bind (collect_set (A := A.in1) hh ⟨o, ho, hex.1, hd⟩ hf hb hr hl fun s1 vs k1 hz g1 o1 pm => ?_)
  have hvl : vs.length = n := by rw [pm.length_eq, List.length_map, Array.length_toList]; exact hn
  obtain ⟨ss0, hS⟩ := texts_of vs fun v hv => by
    obtain ⟨e, he, q⟩ := List.mem_map.mp (pm.mem_iff.mp hv)
    obtain ⟨k, tk, h1, _⟩ := g e he
    exact ⟨k, tk, by rw [← q]; exact h1⟩
  obtain ⟨ss1, hS1, pk⟩ := strsAre_perm pm hS
  have ek := texts_keys hS1
  refine wpAny_bind (wpAny_newList ?_ (by rw [hvl, sizeLine_eq]; omega))
  have hoL : (s1.heap.push (seqObj "list" vs.toArray 0)).get? s1.heap.objs.size = some (seqObj "list" vs.toArray 0) := Heap.get?_push_size _ rfl
  refine wpAny_bind (wpAny_holding (wpAny_call_entry slot_list_sort ⟨_, hoL, rfl⟩ entry_list_sort (list_sort_treeK strKind_oneLt hoL hS.keysOf (fun v₁ v₂ rest e => keyKind_strs (by rw [← e]; exact hS)) (by rw [hvl]; exact h64) fun st' hp hs => ⟨_, rfl, ?_⟩) (args_list_sort _)))
  obtain ⟨ss', a1, a2, a3⟩ := sorted_out_str hS hp hs
  obtain ⟨c, hc⟩ := sortedHeap_at (vs := vs) (out := (arrOf st').map (·.2)) hoL
  have pn : ss'.Perm (es.toList.map keyOfS) := by rw [ek]; exact a2.trans pk
  refine wpAny_pure ⟨_, rfl, hQ _ s1.heap.objs.size ((arrOf st').map (·.2)) c ss' (fun b u e => ?_) g1 o1 hz hc a1 a3 (pn.nodup_iff.mpr nd) (fun k => by rw [pn.mem_iff, ← hm k]) ?_⟩
  · have q := k1 b u e
    have hlt := Heap.lt_size q
    show (sortedHeap (s1.heap.push (seqObj "list" vs.toArray 0)) s1.heap.objs.size vs ((arrOf st').map (·.2))).get? b = some u
    rw [sortedHeap_old (Nat.ne_of_lt hlt) (by rw [size_push']; exact Nat.lt_succ_of_lt hlt)]
    exact Heap.get?_push_of_some _ q
  · rw [pn.length_eq, List.length_map, Array.length_toList]; exact hn
end

theorem mem_dedup : ∀ (xs : List Str) (k : Str), k ∈ dedupS xs ↔ k ∈ xs
  | [], k => by simp [dedupS]
  | x :: r, k => by
    unfold dedupS
    rw [List.mem_cons, List.mem_cons, List.mem_filter, mem_dedup r k]
    simp only [decide_eq_true_eq]
    by_cases h : k = x
    · simp [h]
    · simp [h]
theorem nodup_dedup : ∀ xs : List Str, (dedupS xs).Nodup
  | [] => List.nodup_nil
  | x :: r => by
    unfold dedupS
    rw [List.nodup_cons]
    refine ⟨fun h => ?_, (nodup_dedup r).sublist List.filter_sublist⟩
    rw [List.mem_filter] at h
    simp at h
theorem dedup_len : ∀ xs : List Str, (dedupS xs).length ≤ xs.length
  | [] => Nat.le_refl _
  | x :: r => by
    unfold dedupS
    have := dedup_len r
    have h2 := List.length_filter_le (fun y => decide (y ≠ x)) (dedupS r)
    simp only [List.length_cons]
    omega
section
variable {X : Cx} {Fn : Ev.Fn} {a : Expr} {ia : IE} {p p2 q pos : Pos}
theorem pN_sset (hc : X.calm = true) (hg : Gl X "sorted") (hm : X.mg "sorted" = none) (hg2 : Gl X "set") (hm2 : X.mg "set" = none) (ha : PE X a (tV Fn X.K ia)) (hs : noStar a = true) :
    PE X (.Call (.Name "sorted" p) [.Call (.Name "set" p2) [a] [] q] [] pos) (tN Fn X.K (.blt .sortedSet ia)) := by
  refine ⟨fun pins s σ H Q I ⟨F, G, ι, es, d, es', ok, ev, k⟩ => ?_⟩
  simp only [evE, Option.bind_eq_some_iff, Option.map_eq_some_iff, Prod.exists, Prod.mk.injEq] at ev
  obtain ⟨y, s1, e1, d', e2, e3, e4⟩ := ev
  subst e3 e4
  have na := star_cons hs [] X.env
  refine Call_ (ld_blt I hg hm (by rfl) ?_)
  refine PyProof.Rows.callWith_builtin1 (PyProof.Rows.args_cons ?_ rfl) rfl rfl
  refine Call_ (ld_blt I hg2 hm2 PyProof.Rows.boot_set ?_)
  refine PyProof.Rows.callWith_type1 (PyProof.Rows.args_cons (thn (ha.run pins s σ H (fun v H1 => ∃ G1 ι1, Ok X.K F G1 ι1 H1 s1.ρ σ s1.st ∧ Ext G ι G1 ι1 ∧ Rep X.K G1 ι1 v y) I ⟨F, G, ι, es, y, s1, ok, e1, fun v H1 G1 ι1 ok1 x1 r1 => ⟨G1, ι1, ok1, x1, r1⟩⟩)
    fun v s2 ⟨x, H1, I1, r1, G1, ι1, ok1, x1, rr⟩ => PyProof.Rows.args_nil ?_) na) na rfl
  cases y <;> simp only [blt1, reduceCtorEq] at e2
  rename_i ds
  split at e2
  case h_2 => cases e2
  case h_1 ss hss =>
  split at e2
  case isFalse => cases e2
  case isTrue h64 =>
  cases e2
  cases rr with
  | @lst b vs _ h1 h2 =>
  have ev := h2.strs hss
  subst ev
  cases r1
  obtain ⟨its, r, pl, hz⟩ := I1.list (SqL.of (ok1.sub _ _ h1))
  have hlen : its.toArray.size = ss.length := by rw [List.size_toArray, ← r.length, List.length_map]
  refine call_set_listT (prog := X.prog) (I1.ok.hd hc) pl.isList (by simpa using SSof r) h64 fun h' tk hS hk => ?_
  obtain ⟨m, hm1, R⟩ := hS
  rw [hlen] at hm1 R
  refine PyProof.Rows.args_nil ?_
  have I2 : Inv X pins σ H1 { s2 with heap := h', toks := tk } := I1.kept fun b o e => hk b o (Heap.lt_size e) e
  refine sorted_txs (s := { s2 with heap := h', toks := tk }) R (I1.ok.hd hc) (by omega) fun s' z out cc zs kk g o hp hg hi hso hnd hmem hl => ?_
  have hlz : (zs.map V.str).length ≤ sizeLine := by rw [List.length_map, hl, sizeLine_eq]; omega
  have hn : H1 z = none := I2.hok.fresh hp
  have J : Inv X pins σ (upd H1 z (.lst (zs.map V.str))) { s2 with heap := s'.heap, gens := s'.gens, drawn := s'.drawn, toks := s'.toks } :=
    Inv.call (s := { s2 with heap := h', toks := tk }) I2 (ch := []) (Un.laid kk hp hn) (I2.hok.laid kk hp ⟨hlz, out.toList, cc, vals_of_strs hi, hg⟩) (by rw [g]; exact I2.bare) (fun _ z => nomatch z)
  have e : s' = { s2 with heap := s'.heap, gens := s'.gens, drawn := s'.drawn, toks := s'.toks } := by
    cases s'
    cases s2
    cases o
    rfl
  rw [e]
  have pz : zs.Perm (dedupS ss) := by
    rw [List.perm_ext_iff_of_nodup hnd (nodup_dedup ss)]
    intro kx
    rw [hmem kx, mem_dedup, List.take_length, List.any_eq_true]
    constructor
    · rintro ⟨u, hu, he⟩
      rw [beq_iff_eq] at he
      exact he ▸ hu
    · intro hu
      exact ⟨kx, hu, by simp⟩
  refine ⟨.ref z, _, J, rfl, ?_⟩
  rw [eq_sortS pz hso]
  exact (k.ext x1).lst ok1 (Reps.ofStrs _) hn
end
end Ev

-- EvD
set_option autoImplicit true
set_option Elab.async false
set_option linter.all false
set_option maxRecDepth 100000
set_option maxHeartbeats 4000000
set_option autoImplicit false
/-! EvD: d.setdefault(k, e). -/
namespace Ev
open PySem PySem.Spec PyProof.Rows L2
theorem upd_self {H : Hp} {a : Addr} {o : HO} (h : H a = some o) : upd H a o = H := by
  funext b
  by_cases z : b = a
  · subst z; rw [upd_same, h]
  · rw [upd_ne z]
section
variable {X : Cx} {Fn : Ev.Fn} {a b : Expr} {ia ib : IE} {pos apos : Pos} {p : Pos} {i : Nat} {y : Str}
theorem pD_setd (hN : X.N[i]? = some y) (hy : Vis X.env.scope y) (hd : (y == ("__debug__" : Str)) = false) (hcd : (y == ("__classdict__" : Str)) = false) (ha : PE X a (tV Fn X.K ia)) (hb : PE X b (tV Fn X.K ib)) (hl : (apos.endLine == pos.line) = true) (hs : noStar a = true) (hs' : noStar b = true) :
    PE X (.Call (.Attribute (.Name y p) "setdefault" apos) [a, b] [] pos) (tV Fn X.K (.setd i ia ib)) := by
  have st : starEach [a, b] X.env = [(false, eval a X.env), (false, eval b X.env)] := by rw [star_cons hs, star_cons hs']; rfl
  refine (pe_dsetd (pe_var hN hy hd hcd) ha hb ⟨base_of (by intro f a k p z; cases z) _, by rw [st]; rfl, hl, by rw [st]; rfl⟩).weak fun σ H Q ⟨F, G, ι, s, d, s', ok, ev, k⟩ => ?_
  simp only [evE, Option.bind_eq_some_iff, Prod.exists] at ev
  obtain ⟨c0, h1, ev⟩ := ev
  split at ev
  · rename_i hbx
    simp only [Option.bind_eq_some_iff, Option.map_eq_some_iff, Prod.exists, Prod.mk.injEq, Option.some.injEq] at ev
    obtain ⟨dk, s1, e1, dx, s4, e2, c, e3, d', c', e4, s6, e5, e6, e7⟩ := ev
    subst e6 e7
    have hc0 : ∃ kvs, c0 = .dct kvs := by cases c0 <;> first | exact ⟨_, rfl⟩ | (simp [boxOk] at hbx)
    obtain ⟨kv0, rfl⟩ := hc0
    obtain ⟨q, h2, _, ys, ez, h3, _⟩ := ok.box h1 rfl
    cases ez
    refine ⟨.ref q, h2, q, rfl, .inl ⟨ys, .inl h3⟩, F, G, ι, s, dk, s1, ok, e1, fun vk H1 G1 ι1 ok1 x1 r1 => ⟨F, G1, ι1, s1, dx, s4, ok1, e2, fun vx H2 G2 ι2 ok2 x2 r2 => ?_⟩⟩
    have hc : ∃ kvs, c = .dct kvs ∧ (if keyOk1 dk && decide (kvs.length < sizeLine) then match dget kvs dk with
      | some v => some (v, D.dct kvs)
      | none => some (dx, D.dct (dput kvs dk dx))
    else none) = some (d', c') := by
      cases c with
      | dct kvs => exact ⟨kvs, rfl, e4⟩
      | _ => simp [mutD] at e4
    clear e4
    obtain ⟨kvs, rfl, e4⟩ := hc
    obtain ⟨q2, h4, w, wr⟩ := ok2.poke e3 rfl e5
    rw [h2] at h4; cases h4
    obtain ⟨ws, h5, h6⟩ := w
    split at e4
    case isFalse => cases e4
    case isTrue hz =>
    simp only [Bool.and_eq_true, decide_eq_true_eq] at hz
    obtain ⟨kk, rfl⟩ := keyOk1_key hz.1
    have rk := (r1.ext x2).key
    subst rk
    refine ⟨ws, kk, h5, rfl, by rw [h6.length]; exact hz.2, fun v hv => ?_, fun hv => ?_⟩
    · rcases h6.get kk with ⟨g1, g2⟩ | ⟨v', d2, g1, g2, g3⟩
      · rw [g1] at hv; cases hv
      · rw [g1] at hv; cases hv
        rw [g2] at e4
        cases e4
        have okw := wr (.dK ws) ⟨ws, upd_same, h6⟩
        rw [upd_self h5] at okw
        exact k v _ G2 ι2 okw (x1.trans x2) g3
    · rcases h6.get kk with ⟨g1, g2⟩ | ⟨v', d2, g1, g2, g3⟩
      · rw [g2] at e4
        cases e4
        exact k _ _ G2 ι2 (wr _ ⟨_, upd_same, h6.put kk r2⟩) (x1.trans x2) r2
      · rw [g1] at hv; cases hv
  · cases ev
end
end Ev

-- EvO
set_option autoImplicit true
set_option Elab.async false
set_option linter.all false
set_option maxRecDepth 100000
set_option maxHeartbeats 4000000
set_option autoImplicit false
/-! EvO: sorted(xs, key=f), f a def of the text. The list that is being sorted and the list of keys are told exactly (Xo) while the calls run. -/
namespace Ev
open PySem PySem.Spec PySem.Calls PyProof.Rows PySem.W L2

/-- just this object stands at a -/
def Xo (a : Addr) (ob : Obj) : HO := .ext fun h => h.get? a = some ob
theorem Xo_ok {P : Program} {w : World} {H : Hp} {h : Heap} {a : Addr} {ob : Obj} (e : h.get? a = some ob) : ObjOk P w H h a (Xo a ob) := ⟨e, ⟨ob, e⟩, fun h1 h2 p k => k _ p⟩
section
variable {X : Cx} {pins : List (Addr × Obj)} {σ : L2.St} {H : Hp} {s : Shared} {K : PySem.W.Frag} {F G : Hp} {ι : List Addr} {ρ : List Sl} {st : List D}
theorem Xo_get (I : Inv X pins σ H s) {a : Addr} {ob : Obj} (e : H a = some (Xo a ob)) : s.heap.get? a = some ob := (I.hok a _ e).1
mutual
theorem reads_of {σ' : L2.St} (I : Inv X pins σ H s) (ok : Ok X.K F G ι H ρ σ' st) : ∀ (n : Nat) (d : D) {v : V} {u : Value}, D.keyed n d = true → Rep X.K G ι v d → RelV v u → Reads s.heap u d.pd []
  | _, .non, v, u, _, r, q => by cases r; cases q; exact .none
  | _, .bl b, v, u, _, r, q => by cases r; cases q; exact .bool b
  | _, .int i, v, u, _, r, q => by cases r; obtain ⟨t, rfl⟩ := q; exact .int i t
  | _, .str x, v, u, _, r, q => by cases r; obtain ⟨t, rfl⟩ := q; exact .str x t
  | 0, .tup xs, v, u, h, _, _ => by cases h
  | n + 1, .tup xs, v, u, h, r, q => by
    cases r with
    | @tup a vs _ h1 h2 =>
      cases q
      obtain ⟨its, rv, pt, hz⟩ := I.tuple (ok.sqT h1)
      have q := reads_all I ok n xs h h2 rv
      obtain ⟨o, e1, e2, m, e3⟩ := pt
      exact .tuple (vs := its.toArray) e1 e2 e3 (by simpa using q)
  | n, .lst _, _, _, h, _, _ => by cases n <;> cases h
  | n, .dct _, _, _, h, _, _ => by cases n <;> cases h
  | n, .ref _, _, _, h, _, _ => by cases n <;> cases h
  | n, .scr _, _, _, h, _, _ => by cases n <;> cases h
theorem reads_all {σ' : L2.St} (I : Inv X pins σ H s) (ok : Ok X.K F G ι H ρ σ' st) : ∀ (n : Nat) (ds : List D) {vs : List V} {us : List Value}, D.keyeds n ds = true → Reps X.K G ι vs ds → Vals vs us → ReadsAll s.heap us (D.pds ds) []
  | _, [], _, _, _, .nil, .nil => .nil
  | n, d :: ds, _, _, h, .cons r rs, .cons q qs => by
    unfold D.keyeds at h
    rw [Bool.and_eq_true] at h
    exact .cons (as := []) (bs := []) (reads_of I ok n d h.1 r q) (reads_all I ok n ds h.2 rs qs)
end

theorem Room.in2 {k : Nat} {A : Around} (r : Room (k + 2) A) : Room k A.in1.in1 := Room.in1 (Room.in1 r)
section
variable {Fn : Ev.Fn} {k f : Nat} {fa : Addr} {fd : FuncData} {ps : List Str} {fr : Bool}
/-- a call of the key, two frames of the built-ins down -/
theorem key_call {σ' : L2.St} (C : FnOk X.prog X.w X.K X.mg X.base CXn k fa fd ps (spD X.K Fn f fr)) (hr : Room (k + 2) X.A) (hb : Binds X.K fd ps []) (I : Inv X pins σ H s) {es : S} (ok : Ok X.K F G ι H es.ρ σ' es.st) {v : V} {d kd : D} {u : Value} (r : Rep X.K G ι v d) (rv : RelV v u)
    (e : Fn f [d] es.st = some (kd, es.st)) {Q : Value → Shared → Prop} (hQ : ∀ w v' H' G' ι' s', Inv X pins σ H' s' → Ok X.K F G' ι' H' es.ρ σ' es.st → Ext G ι G' ι' → Rep X.K G' ι' v' kd → RelV v' w → Q w s') :
    wpAny (model X.prog X.w) X.A.in1.in1 (call (.ref fa) [u]) Q (fun _ _ => False) s := by
  have hsp : spD X.K Fn f fr [v] H (fun v' H' => ∃ G' ι', Ok X.K F G' ι' H' es.ρ σ' es.st ∧ Ext G ι G' ι' ∧ Rep X.K G' ι' v' kd) En := call_step ok (.cons r .nil) e fun v' H' G' ι' ok' x q => by
    cases fr with
    | false => exact ⟨G', ι', ok', x, q⟩
    | true =>
      rcases (show NewRoot X.K F G' ι' H' es.ρ σ' v' kd from q) with ⟨_, a, rfl, aw, w⟩ | ⟨_, q⟩
      · obtain ⟨o, ho⟩ := w.some
        obtain ⟨ok2, e2⟩ := ok'.freeze aw ho
        exact ⟨_, _, ok2, x.trans e2, (w.move e2 rfl).rep (by rw [upd_same, ho])⟩
      · exact ⟨G', ι', ok', x, q⟩
  have hl := C.len _ _ _ _ hsp
  refine wpAny_call (codeAny_mono (C.run X.A.in1.in1 X.stack s H ⟨[u], []⟩ [u] [v] _ En (Room.in2 hr) I.env0.in1.in1 (hb s [u] I.kIn (by simpa using hl)) (.cons rv .nil) hsp) fun r s' hq => ?_)
  cases r with
  | error e => exact False.elim hq
  | ok fl =>
    cases fl with
    | ret u =>
      obtain ⟨v', H', I', rv', G', ι', ok', x, q⟩ := I.after hq
      exact hQ u v' H' G' ι' s' I' ok' x q rv'
    | next => exact False.elim hq
    | brk => exact False.elim hq
    | cont => exact False.elim hq
end
/-! ### the end of a sort: the two lists are written -/
section
variable {prog : Program} {w : World} {A : Around} {E : Value → Shared → Prop} {a kS : Addr} {vs : List Value} {keys : Array Value} {e e1 : Nat} {P : PySem.Fin → Shared → Prop}
theorem keyZ_tail {t : SortSt} {out : List Value} (nk : s.heap.get? kS = some (seqObj "list" keys e)) (na : s.heap.get? a = some (seqObj "list" #[] e1)) (hka : kS ≠ a) (hsz : keys.size ≤ sizeLine) (hz : out.length ≤ sizeLine) (hfl : failedOf t = none) (ho : (arrOf t).map (·.2) = out.toArray)
    (h : ∀ h1 h2 tk ob c, Heap.SameBut kS s.heap h1 → h1.get? kS = some ob → Heap.SameBut a h1 h2 → h2.get? a = some (seqObj "list" out.toArray c) → P (.done (.ret .none)) { s with heap := h2, toks := tk }) :
    wpAny (model prog w) A (ksk_tail a false e1 (.ref kS) t) P E s := by
  have q1 := Heap.SameBut.update s.heap kS (Obj.mapSeq fun _ => (#[] : Array Value))
  have na1 : (s.heap.update kS (Obj.mapSeq fun _ => (#[] : Array Value))).get? a = some (seqObj "list" #[] e1) := (q1.2 a hka.symm).trans na
  have q2 := Heap.SameBut.update (s.heap.update kS (Obj.mapSeq fun _ => (#[] : Array Value))) a (Obj.mapSeq fun _ => out.toArray)
  have nk1 := get?_update_seq nk fun _ => (#[] : Array Value)
  have na2 := get?_update_seq na1 fun _ => out.toArray
  have hz2 : out.toArray.size ≤ sizeLine + 1 := by
    rw [List.size_toArray]
    exact Nat.le_succ_of_le hz
  unfold ksk_tail
  try dsimp only
  rw [if_neg Bool.false_ne_true, ho]
  refine wpAny_bind (listUpdate_at nk rfl ?_ hsz (Nat.zero_le _))
  refine wpAny_bind (wpAny_letGo ?_)
  refine wpAny_bind (seqEpoch_at na1 rfl ?_)
  refine wpAny_bind (listUpdate_at na1 rfl ?_ (Nat.zero_le _) hz2)
  rw [hfl]
  simp only [bne_self_eq_false, Bool.false_eq_true, if_false]
  exact wpAny_pure (h _ _ _ _ _ q1 nk1 q2 na2)
theorem keyZ_end {κ : PyProof.Rows.KeyKind} (nk : s.heap.get? kS = some (seqObj "list" keys e)) (na : s.heap.get? a = some (seqObj "list" #[] e1)) (hka : kS ≠ a) (S : SortsAt prog w A s κ keys.toList) (hsz : keys.size = vs.length) (hZ : vs.length ≤ sizeLine)
    (h : ∀ h1 h2 tk ob c, Heap.SameBut kS s.heap h1 → h1.get? kS = some ob → Heap.SameBut a h1 h2 → h2.get? a = some (seqObj "list" (sortVals κ false keys.toList vs).toArray c) → P (.done (.ret .none)) { s with heap := h2, toks := tk }) :
    wpAny (model prog w) A (ksk_end a false vs.toArray e1 (.ref kS) keys) P E s := by
  obtain ⟨kd, h1, h2⟩ := S.kind
  have hkl : keys.toList.length = vs.length := by
    rw [Array.length_toList]
    exact hsz
  have hK : PyProof.Rows.KeysOf κ (keys.zip vs.toArray) := keysOf_zip S.keys
  have hol : (sortVals κ false keys.toList vs).length = vs.length := sortVals_length false hkl
  have hss : (keys.zip vs.toArray).size = vs.length := by rw [Array.size_zip, hsz, List.size_toArray, Nat.min_self]
  have fin : ∀ t' : SortSt, (arrOf t').Perm (keys.zip vs.toArray) → SortedToK κ (arrOf t') (keys.zip vs.toArray).size → Stable κ (arrOf t') (keys.zip vs.toArray) → (arrOf t').map (·.2) = (sortVals κ false keys.toList vs).toArray := by
    intro t' hp hs ht
    have e := sort_out (rev := false) (keys := keys) (items := vs.toArray) (xs := arrOf t') (κ := κ) hK hp hs ht
    have e' := congrArg List.toArray e
    rw [Array.toArray_toList] at e'
    exact e'
  unfold ksk_end
  try dsimp only
  rw [if_neg Bool.false_ne_true]
  by_cases hl2 : vs.toArray.size < 2
  · rw [if_pos hl2, if_pos hl2]
    refine wpAny_bind (wpAny_pure ?_)
    rw [StateT.run_pure]
    refine wpAny_bind (wpAny_pure ?_)
    try dsimp only
    refine keyZ_tail (t := SortSt.mk' general' (keys.zip vs.toArray) #[] 7 none) nk na hka (by rw [hsz]; exact hZ) (by rw [hol]; exact hZ) rfl (fin _ (Array.Perm.refl _) ?_ (Stable.refl _)) h
    intro i j hij hj
    rw [hss] at hj
    rw [List.size_toArray] at hl2
    have : i = j := by omega
    subst this
    exact KeyOrd.kle_refl _
  · rw [if_neg hl2, if_neg hl2]
    rw [List.size_toArray] at hl2
    refine wpAny_bind (h2 (by omega) _ ?_)
    refine wpAny_bind (wpAny_mono (H.wpS_sortRunsSt (κ := κ) (kd := kd) (a₀ := keys.zip vs.toArray) (st := SortSt.mk' kd (keys.zip vs.toArray) #[] 7 none) (Q := fun _ t' => failedOf t' = none ∧ (arrOf t').map (·.2) = (sortVals κ false keys.toList vs).toArray)
      h1 hK ⟨Array.Perm.refl _, rfl, rfl⟩ rfl (Stable.refl _) (by rw [hss]; omega) fun t' a1 a2 a3 a4 => ⟨a2, fin t' a1 a3 a4⟩) ?_ fun _ _ e => e)
    rintro ⟨⟨⟩, t'⟩ s' ⟨rfl, hf, ho⟩
    try dsimp only at ho ⊢
    exact keyZ_tail nk na hka (by rw [hsz]; exact hZ) (by rw [hol]; exact hZ) hf ho h
end
end
end Ev

-- EvO2
set_option autoImplicit true
set_option Elab.async false
set_option linter.all false
set_option maxRecDepth 100000
set_option maxHeartbeats 4000000
set_option autoImplicit false
/-! EvO2: sorted(xs, key=f): the loop over the items, the rule. -/
namespace Ev
open PySem PySem.Spec PySem.Calls PyProof.Rows PySem.W L2

mutual
theorem depth_keyed : ∀ (n : Nat) (d : D), D.keyed n d = true → d.pd.depth ≤ n
  | _, .non, _ => Nat.zero_le _
  | _, .bl _, _ => Nat.zero_le _
  | _, .int _, _ => Nat.zero_le _
  | _, .str _, _ => Nat.zero_le _
  | 0, .tup _, h => by cases h
  | n + 1, .tup xs, h => Nat.succ_le_succ (depth_keyeds n xs h)
  | n, .lst _, h => by cases n <;> cases h
  | n, .dct _, h => by cases n <;> cases h
  | n, .ref _, h => by cases n <;> cases h
  | n, .scr _, h => by cases n <;> cases h
theorem depth_keyeds : ∀ (n : Nat) (ds : List D), D.keyeds n ds = true → PyData.depthAll (D.pds ds) ≤ n
  | _, [], _ => Nat.zero_le _
  | n, d :: ds, h => by
    unfold D.keyeds at h
    rw [Bool.and_eq_true] at h
    exact Nat.max_le.mpr ⟨depth_keyed n d h.1, depth_keyeds n ds h.2⟩
end
theorem keysOk_of {ks : List D} (h : keysOk ks = true) : (∀ k ∈ ks, D.keyed deep k = true) ∧ AllAlike (ks.map D.pd) ∧ Sortable (ks.map D.pd) := by
  unfold keysOk at h
  simp only [Bool.and_eq_true, Bool.or_eq_true, List.all_eq_true] at h
  obtain ⟨⟨h1, h2⟩, h3⟩ := h
  refine ⟨h1, fun d hd d' hd' => ?_, ?_⟩
  · obtain ⟨k, hk, rfl⟩ := List.mem_map.mp hd
    obtain ⟨k', hk', rfl⟩ := List.mem_map.mp hd'
    exact h2 k hk k' hk'
  · rcases h3 with h3 | h3
    · refine .inl fun d hd => ?_
      obtain ⟨k, hk, rfl⟩ := List.mem_map.mp hd
      have q := h3 k hk
      unfold tupNE at q
      split at q
      · exact ⟨_, _, rfl⟩
      · cases q
    · refine .inr fun d hd => ?_
      obtain ⟨k, hk, rfl⟩ := List.mem_map.mp hd
      have q := h3 k hk
      unfold notTN at q
      split at q
      · cases q
      · cases q
      · rename_i h4 h5
        cases k <;> first | exact absurd rfl (h4 _) | exact absurd rfl h5 | exact ⟨fun z => (by cases z), fun xs z => (by cases z)⟩
theorem sortP_map (bs : List (V × D × D)) : (bs.mergeSort (dataLe false fun b => b.2.2.pd)).map (fun b => b.2.1) = sortP (bs.map fun b => b.2.1) (bs.map fun b => b.2.2) := by
  unfold sortP
  have hz : (bs.map fun b => b.2.1).zip (bs.map fun b => b.2.2) = bs.map fun b => b.2 := by
    rw [List.zip_map']
  rw [hz, ← List.map_mergeSort (r := dataLe false fun b : V × D × D => b.2.2.pd) (f := fun b : V × D × D => b.2) (fun _ _ _ _ => rfl), List.map_map]
  rfl
section
variable {X : Cx} {pins : List (Addr × Obj)} {σ : L2.St} {H : Hp} {s : Shared} {F G : Hp} {ι : List Addr} {es : S} {Fn : Ev.Fn} {k f : Nat} {fa : Addr} {fd : FuncData} {ps : List Str} {fr : Bool} {a kS : Addr} {e1 : Nat} {vs : List Value} {bs : List (V × D × D)}
theorem reps_map {K : PySem.W.Frag} : ∀ {l : List (V × D × D)}, (∀ b ∈ l, Rep K G ι b.1 b.2.1) → Reps K G ι (l.map (·.1)) (l.map fun b => b.2.1)
  | [], _ => .nil
  | b :: l, h => .cons (h b List.mem_cons_self) (reps_map fun c hc => h c (List.mem_cons_of_mem _ hc))
theorem vals_each : ∀ {l : List (V × D × D)} {us : List Value}, Vals (l.map (·.1)) us → EachIs (fun u (b : V × D × D) => RelV b.1 u) us l
  | [], _, .nil => .nil
  | b :: l, _, .cons r t => .cons r (vals_each t)
theorem each_vals : ∀ {us : List Value} {l : List (V × D × D)}, EachIs (fun u (b : V × D × D) => RelV b.1 u) us l → Vals (l.map (·.1)) us
  | _, _, .nil => .nil
  | _, _, .cons r t => .cons r (each_vals t)
theorem upd_comm (H : Hp) {p q : Addr} (o u : HO) (h : p ≠ q) : upd (upd H p o) q u = upd (upd H q u) p o := by
  funext b
  by_cases z : b = p
  · subst z
    rw [upd_same, upd_ne h, upd_same]
  · rw [upd_ne z]
    by_cases y : b = q
    · subst y; rw [upd_same, upd_same]
    · rw [upd_ne y, upd_ne y, upd_ne z]
theorem vals_getI {l : List (V × D × D)} {us : List Value} {i : Nat} {u : Value} (r : Vals (l.map (·.1)) us) (h : us[i]? = some u) : ∃ b, l[i]? = some b ∧ RelV b.1 u := by
  induction l generalizing us i with
  | nil => cases r; simp at h
  | cons b l ih =>
    cases r with
    | cons r0 rr =>
      cases i with
      | zero =>
        simp only [List.getElem?_cons_zero, Option.some.injEq] at h
        subst h
        exact ⟨b, rfl, r0⟩
      | succ i => exact ih rr (by simpa using h)
theorem vals_snoc {vs : List V} {us : List Value} {v : V} {u : Value} : Vals vs us → RelV v u → Vals (vs ++ [v]) (us ++ [u])
  | .nil, r => .cons r .nil
  | .cons q t, r => .cons q (vals_snoc t r)
theorem keyZ_rest {σ' : L2.St} {P : PySem.Fin → Shared → Prop} {E : Value → Shared → Prop} (C : FnOk X.prog X.w X.K X.mg X.base CXn k fa fd ps (spD X.K Fn f fr)) (hr : Room (k + 2) X.A) (hb : Binds X.K fd ps []) (hg : ∀ b ∈ bs, Rep X.K G ι b.1 b.2.1 ∧ Fn f [b.2.1] es.st = some (b.2.2, es.st)) (hv : Vals (bs.map (·.1)) vs)
    (hks : keysOk (bs.map fun b => b.2.2) = true) (hZ : vs.length ≤ sizeLine) (hka : kS ≠ a) (fa0 : F a = none) (fk0 : F kS = none) (I : Inv X pins σ H s) (ok : Ok X.K (upd (upd F a (Xo a (seqObj "list" #[] e1))) kS (Xo kS (seqObj "list" #[] 0))) G ι H es.ρ σ' es.st)
    (h : ∀ s2 H2 G2 ι2 zs, Inv X pins σ (upd H2 a (.lst zs)) s2 → Ok X.K F G2 ι2 (upd H2 a (.lst zs)) es.ρ σ' es.st → Ext G ι G2 ι2 → Away F G2 ι2 es.ρ σ' a → Reps X.K G2 ι2 zs (sortP (bs.map fun b => b.2.1) (bs.map fun b => b.2.2)) → P (.done (.ret .none)) s2) :
    wpAny (model X.prog X.w) X.A.in1.in1 (ksk_rest a (.ref fa) false vs.toArray e1 (.ref kS)) P E s := by
  have hlen : bs.length = vs.length := by have := hv.length; rw [List.length_map] at this; exact this
  obtain ⟨hk1, hal, hsk⟩ := keysOk_of hks
  unfold ksk_rest
  refine wpAny_bind (wpAny_rule ?_)
  first
    | rw [List.forIn_toArray]
    | (rw [← Array.forIn_toList]; simp only [List.toList_toArray])
    | rw [← Array.forIn_toList]
  refine wpAny_bind (ksk_fold (fun i s' => ∃ H1 G1 ι1 kA e ks, Inv X pins σ H1 s' ∧ Ok X.K (upd (upd F a (Xo a (seqObj "list" #[] e1))) kS (Xo kS (seqObj "list" kA e))) G1 ι1 H1 es.ρ σ' es.st ∧ Ext G ι G1 ι1 ∧ Vals ks kA.toList ∧ Reps X.K G1 ι1 ks ((bs.map fun b => b.2.2).take i)) vs 0 s
    ⟨H, G, ι, #[], 0, [], I, ok, Ext.refl _ _, .nil, by rw [List.take_zero]; exact .nil⟩ ?step ?done)
  case step =>
    rintro j x s' hx ⟨H1, G1, ι1, kA, e, ks, I1, ok1, x1, rv, rk⟩
    simp only [Nat.zero_add] at rk ⊢
    obtain ⟨b, hbj, rb⟩ := vals_getI hv hx
    obtain ⟨g1, g2⟩ := hg b (List.mem_of_getElem? hbj)
    have hj : j < bs.length := (List.getElem?_eq_some_iff.mp hbj).1
    have hz : kA.size ≤ vs.length := by
      have h1 := rk.length
      have h2 := rv.length
      have h3 : kA.toList.length = kA.size := Array.length_toList
      rw [List.length_take, List.length_map] at h1
      omega
    refine wpAny_bind (wpAny_attempt (wpAny_mono (key_call C hr hb I1 ok1 (g1.ext x1) rb g2 (Q := fun w s2 => ∃ v' H2 G2 ι2, Inv X pins σ H2 s2 ∧ Ok X.K (upd (upd F a (Xo a (seqObj "list" #[] e1))) kS (Xo kS (seqObj "list" kA e))) G2 ι2 H2 es.ρ σ' es.st ∧ Ext G1 ι1 G2 ι2 ∧ Rep X.K G2 ι2 v' b.2.2 ∧ RelV v' w)
      fun w v' H' G' ι' s2 a1 a2 a3 a4 a5 => ⟨v', H', G', ι', a1, a2, a3, a4, a5⟩) (fun v s'' he => ?_) fun _ _ hF => hF.elim))
    obtain ⟨v', H2, G2, ι2, I2, ok2, x2, r2, rv2⟩ := he
    try dsimp only
    have nk2 : s''.heap.get? kS = some (seqObj "list" kA e) := Xo_get I2 (ok2.fsub _ _ upd_same)
    have s1 := Heap.SameBut.update s''.heap kS (Obj.mapSeq (·.push v))
    obtain ⟨c2, hc2⟩ : ∃ c2, (s''.heap.update kS (Obj.mapSeq (·.push v))).get? kS = some (seqObj "list" (kA.push v) c2) := ⟨_, get?_update_seq nk2 (·.push v)⟩
    refine wpAny_bind (listUpdate_at nk2 rfl ?_ (Nat.le_trans hz hZ) (Nat.le_trans (Nat.le_of_eq (Array.size_push ..)) (Nat.succ_le_succ (Nat.le_trans hz hZ))))
    have mu : Mut (H2 kS) := by rw [ok2.fsub _ _ upd_same]; exact True.intro
    have I3 := d_write (t' := s''.toks) (ob := Xo kS (seqObj "list" (kA.push v) c2)) I2 mu s1 ⟨_, hc2⟩ (Xo_ok hc2)
    have ek : (bs.map fun b => b.2.2).take (j + 1) = (bs.map fun b => b.2.2).take j ++ [b.2.2] := by rw [List.take_add_one, List.getElem?_map, hbj]; simp
    refine wpAny_pure ⟨rfl, _, G2, ι2, kA.push v, c2, ks ++ [v'], I3, ok2.foreignW, x1.trans x2, ?_, ?_⟩
    · rw [Array.toList_push]
      exact vals_snoc rv rv2
    · rw [ek]
      exact (rk.ext x2).append (.cons r2 .nil)
  case done =>
    rintro s' ⟨H1, G1, ι1, kA, e, ks, I1, ok1, x1, rv, rk⟩
    have e3 : (bs.map fun b => b.2.2).take (0 + vs.length) = bs.map fun b => b.2.2 := List.take_of_length_le (by rw [List.length_map]; omega)
    rw [e3] at rk
    have nk' : s'.heap.get? kS = some (seqObj "list" kA e) := Xo_get I1 (ok1.fsub _ _ upd_same)
    have na' : s'.heap.get? a = some (seqObj "list" #[] e1) := Xo_get I1 (ok1.fsub _ _ (by rw [upd_ne (Ne.symm hka), upd_same]))
    have hsz : kA.size = vs.length := by
      have h1 := rk.length
      have h2 := rv.length
      have h3 : kA.toList.length = kA.size := Array.length_toList
      rw [List.length_map] at h1
      omega
    have hk' : EachIs (fun v d => ∃ as, Reads s'.heap v d as) kA.toList (bs.map fun b => b.2.2.pd) := by
      have go : ∀ {ds : List D} {ks : List V} {us : List Value}, (∀ d ∈ ds, D.keyed deep d = true) → Reps X.K G1 ι1 ks ds → Vals ks us → EachIs (fun v d => ∃ as, Reads s'.heap v d as) us (ds.map D.pd) := by
        intro ds
        induction ds with
        | nil => intro ks us _ r v; cases r; cases v; exact .nil
        | cons d ds ih =>
          intro ks us hd r v
          cases r with
          | cons r0 rr =>
            cases v with
            | cons v0 vv => exact .cons ⟨[], reads_of I1 ok1 deep d (hd d List.mem_cons_self) r0 v0⟩ (ih (fun c hc => hd c (List.mem_cons_of_mem _ hc)) rr vv)
      have q := go hk1 rk rv
      rw [List.map_map] at q
      exact q
    have hal' : AllAlike (bs.map fun b => b.2.2.pd) := by rw [List.map_map] at hal; exact hal
    have hsk' : Sortable (bs.map fun b => b.2.2.pd) := by rw [List.map_map] at hsk; exact hsk
    have hu : ∀ d, d ∈ (bs.map fun b => b.2.2.pd) → X.A.in1.in1.units + d.depth < cLine := fun d hd => by
      obtain ⟨b, hb', rfl⟩ := List.mem_map.mp hd
      have q := depth_keyed deep b.2.2 (hk1 _ (List.mem_map.mpr ⟨b, hb', rfl⟩))
      have u0 := hr.un
      have u1 : X.A.in1.in1.units = X.A.units + 2 := rfl
      unfold deep at q
      omega
    try dsimp only
    refine wpAny_bind (listItems_at nk' rfl ?_)
    refine keyZ_end (κ := dataKind s'.heap (bs.map fun b => b.2.2.pd)) nk' na' hka (SortsAt.data (s := s') hk' hal' hsk' hu) hsz hZ fun h1 h2 tk ob c q1 q2 q3 q4 => ?_
    have ko : KeyedOut false (bs.map fun b => b.2.2.pd) vs (sortVals (dataKind s'.heap (bs.map fun b => b.2.2.pd)) false kA.toList vs) := ⟨s'.heap, kA.toList, hal', rfl, hk'⟩
    have eo := keyedOut_each (R := fun u (b : V × D × D) => RelV b.1 u) (fun b => b.2.2.pd) ko (vals_each hv)
    have vo := each_vals eo
    generalize sortVals (dataKind s'.heap (bs.map fun b => b.2.2.pd)) false kA.toList vs = out at q4 eo vo
    -- the two writes
    have muk : Mut (H1 kS) := by rw [ok1.fsub _ _ upd_same]; exact True.intro
    have I2 := d_write (t' := tk) (ob := Xo kS ob) I1 muk q1 ⟨_, q2⟩ (Xo_ok q2)
    have ok2 : Ok X.K (upd (upd F a (Xo a (seqObj "list" #[] e1))) kS (Xo kS ob)) G1 ι1 (upd H1 kS (Xo kS ob)) es.ρ σ' es.st := ok1.foreignW
    rw [upd_comm F _ _ (Ne.symm hka)] at ok2
    have mua : Mut (upd H1 kS (Xo kS ob) a) := by rw [ok2.fsub _ _ upd_same]; exact True.intro
    have hzl : ((bs.mergeSort (dataLe false fun b => b.2.2.pd)).map (·.1)).length ≤ sizeLine := by rw [List.length_map, List.length_mergeSort, hlen]; exact hZ
    have I3 := d_write (t' := tk) (ob := .lst ((bs.mergeSort (dataLe false fun b => b.2.2.pd)).map (·.1))) I2 mua q3 ⟨_, q4⟩ ⟨hzl, out, c, vo, q4⟩
    have ok3 := ok2.foreignW (o' := .lst ((bs.mergeSort (dataLe false fun b => b.2.2.pd)).map (·.1)))
    obtain ⟨ok4, w4⟩ := ok3.unforeign (by rw [upd_ne (Ne.symm hka)]; exact fa0)
    obtain ⟨ok5, _⟩ := ok4.unforeign fk0
    refine h _ _ G1 ι1 _ I3 ok5 x1 ⟨w4.g, w4.i, fa0, w4.o⟩ ?_
    rw [← sortP_map]
    exact reps_map fun b hb' => ((hg b ((List.mergeSort_perm _ _).mem_iff.mp hb')).1).ext x1
theorem keyZ_tree {σ' : L2.St} {E : Value → Shared → Prop} {Q : Value → Shared → Prop} {l : Addr} (C : FnOk X.prog X.w X.K X.mg X.base CXn k fa fd ps (spD X.K Fn f fr)) (hr : Room (k + 2) X.A) (hb : Binds X.K fd ps []) (hg : ∀ b ∈ bs, Rep X.K G ι b.1 b.2.1 ∧ Fn f [b.2.1] es.st = some (b.2.2, es.st)) (hv : Vals (bs.map (·.1)) vs)
    (hks : keysOk (bs.map fun b => b.2.2) = true) (hZ : vs.length ≤ sizeLine) (I : Inv X pins σ H s) (ok : Ok X.K F G ι H es.ρ σ' es.st) (hl : s.heap.IsList l vs.toArray)
    (h : ∀ a s2 H2 G2 ι2 zs, Inv X pins σ (upd H2 a (.lst zs)) s2 → Ok X.K F G2 ι2 (upd H2 a (.lst zs)) es.ρ σ' es.st → Ext G ι G2 ι2 → Away F G2 ι2 es.ρ σ' a → Reps X.K G2 ι2 zs (sortP (bs.map fun b => b.2.1) (bs.map fun b => b.2.2)) → Q (.ref a) s2) :
    wpAny (model X.prog X.w) X.A (call (.builtin "sorted") [.ref l] [(Str.ofString "key", .ref fa)]) Q E s := by
  refine sorted_of_sort hl hZ (ksk_s1 _ _) (fun _ => ksk_l1 _ _) fun E' => ?_
  rw [ksk_t1]
  have hp : H (s.heap.objs.size + 1) = none := I.hok.fresh (Nat.le_succ s.heap.objs.size)
  have Ia : Inv X pins σ (upd H (s.heap.objs.size + 1) (Xo (s.heap.objs.size + 1) (seqObj "list" vs.toArray 0))) { s with heap := copyHeap s.heap vs } := I.laid (t' := s.toks) (fun _ _ => copyHeap_old) (Nat.le_succ _) (Xo_ok (copyHeap_at s.heap vs))
  have oka := (ok.alloc hp (Xo (s.heap.objs.size + 1) (seqObj "list" vs.toArray 0))).foreign (ok.fresh hp) upd_same
  have ho := copyHeap_at s.heap vs
  generalize ha : s.heap.objs.size + 1 = a at Ia oka ho hp ⊢
  obtain ⟨e1, ho1⟩ : ∃ e1, ((copyHeap s.heap vs).update a (Obj.mapSeq fun _ => (#[] : Array Value))).get? a = some (seqObj "list" #[] e1) := ⟨_, get?_update_seq ho fun _ => #[]⟩
  unfold ksk_tree
  refine wpAny_bind (listItems_at ho rfl ?_)
  refine wpAny_bind (listUpdate_at ho rfl ?_ (by rw [List.size_toArray]; exact hZ) (Nat.zero_le _))
  refine wpAny_bind (seqEpoch_at ho1 rfl ?_)
  have Ib := d_write (t' := s.toks) (ob := Xo a (seqObj "list" #[] e1)) Ia (by rw [upd_same]; exact True.intro) (Heap.SameBut.update (copyHeap s.heap vs) a (Obj.mapSeq fun _ => (#[] : Array Value))) ⟨_, ho1⟩ (Xo_ok ho1)
  have okb : Ok X.K (upd F a (Xo a (seqObj "list" #[] e1))) G ι _ es.ρ σ' es.st := oka.foreignW (o' := Xo a (seqObj "list" #[] e1))
  refine wpAny_bind (wpAny_newTuple ?_ (by show vs.length ≤ _; exact hZ))
  refine wpAny_bind (wpAny_newList ?_ (Nat.zero_le _))
  refine wpAny_holding ?_
  have Ic : Inv X pins σ _ { s with heap := ((copyHeap s.heap vs).update a (Obj.mapSeq fun _ => (#[] : Array Value))).push (seqObj "tuple" vs.toArray 0) } := Ib.kept (t' := s.toks) fun b o q => Heap.get?_push_of_some _ q
  have hk := Ic.hok.fresh (Nat.le_refl _)
  have Id := Ic.laid (t' := s.toks) (h' := (((copyHeap s.heap vs).update a (Obj.mapSeq fun _ => (#[] : Array Value))).push (seqObj "tuple" vs.toArray 0)).push (seqObj "list" #[] 0)) (fun b o q => Heap.get?_push_of_some _ q) (Nat.le_refl _) (Xo_ok (Heap.get?_push_size _ rfl))
  have okd := (okb.alloc hk (Xo (((copyHeap s.heap vs).update a (Obj.mapSeq fun _ => (#[] : Array Value))).push (seqObj "tuple" vs.toArray 0)).objs.size (seqObj "list" #[] 0))).foreign (okb.fresh hk) upd_same
  have wk := (okb.fresh hk).f
  have hka : (((copyHeap s.heap vs).update a (Obj.mapSeq fun _ => (#[] : Array Value))).push (seqObj "tuple" vs.toArray 0)).objs.size ≠ a := fun z => by
    rw [z, upd_same] at wk
    cases wk
  rw [upd_ne hka] at wk
  exact keyZ_rest C hr hb hg hv hks hZ hka (ok.fresh hp).f wk Id okd fun s2 H2 G2 ι2 zs a1 a2 a3 a4 a5 => ⟨rfl, h a s2 H2 G2 ι2 zs a1 a2 a3 a4 a5⟩
theorem keysO_of {st : List D} : ∀ {xs ks : List D}, keysO Fn f st xs = some ks → ks.length = xs.length ∧ ∀ (i : Nat) (x : D), xs[i]? = some x → ∃ kd, ks[i]? = some kd ∧ Fn f [x] st = some (kd, st)
  | [], ks, h => by cases h; exact ⟨rfl, fun i x q => by simp at q⟩
  | x :: r, ks, h => by
    unfold keysO at h
    rw [Option.bind_eq_some_iff] at h
    obtain ⟨⟨kd, st'⟩, h1, h2⟩ := h
    simp only at h2
    split at h2
    · rename_i hs
      subst hs
      rw [Option.map_eq_some_iff] at h2
      obtain ⟨ks', h3, rfl⟩ := h2
      obtain ⟨h4, h5⟩ := keysO_of h3
      refine ⟨by simp [h4], fun i y q => ?_⟩
      cases i with
      | zero =>
        simp only [List.getElem?_cons_zero, Option.some.injEq] at q
        subst q
        exact ⟨kd, rfl, h1⟩
      | succ i => simpa using h5 i y (by simpa using q)
    · cases h2
end
section
variable {X : Cx} {Fn : Ev.Fn} {k f : Nat} {fa : Addr} {fd : FuncData} {ps : List Str} {fr : Bool} {a : Expr} {ia : IE} {x : Str} {p pos kp kpos : Pos}
/-- sorted(e, key=f) -/
theorem pN_sortK (C : FnOk X.prog X.w X.K X.mg X.base CXn k fa fd ps (spD X.K Fn f fr)) (hr : Room (k + 2) X.A) (hb : Binds X.K fd ps []) (hg : Gl X "sorted") (hm : X.mg "sorted" = none) (hgx : Gl X x) (hmx : X.mg x = some (.ref fa)) (hdx : (x == ("__debug__" : Str)) = false) (ha : PE X a (tV Fn X.K ia)) (hs : noStar a = true) :
    PE X (.Call (.Name "sorted" p) [a] [⟨some "key", .Name x kp, kpos⟩] pos) (tN Fn X.K (.sortK f ia)) := by
  have hc : CallRK X (.builtin "sorted") [Str.ofString "key"] (fun xs zs H Q => zs = [.ref fa] ∧ ∃ (F G : Hp) (ι : List Addr) (es : S) (σ' : L2.St) (y : V) (ds ks : List D), xs = [y] ∧ Ok X.K F G ι H es.ρ σ' es.st ∧ Rep X.K G ι y (.lst ds) ∧ keysO Fn f es.st ds = some ks ∧ keysOk ks = true ∧ AfterN X.K F G ι es.ρ σ' es.st (.lst (sortP ds ks)) Q) := by
    rintro pins s σ H xs zs us ws Q I r rz ⟨rfl, F, G, ι, es, σ', y, ds, ks, rfl, ok, rr, h1, h2, kk⟩
    cases rr with
    | @lst l vs0 _ e1 e2 =>
    obtain rfl := Vals.ref1 r
    obtain rfl := Vals.ref1 rz
    obtain ⟨its, rv, pl, hz⟩ := I.list (SqL.of (ok.sub _ _ e1))
    obtain ⟨h3, h4⟩ := keysO_of h1
    have hlv := e2.length
    have eb : ((vs0.zip (ds.zip ks)).map (·.1)) = vs0 := List.map_fst_zip (by rw [List.length_zip]; omega)
    have ed : ((vs0.zip (ds.zip ks)).map fun b => b.2.1) = ds := by
      have q : (vs0.zip (ds.zip ks)).map (·.2) = ds.zip ks := List.map_snd_zip (by rw [List.length_zip]; omega)
      have q2 := congrArg (fun l => l.map (·.1)) q
      rw [List.map_map] at q2
      exact q2.trans (List.map_fst_zip (by omega))
    have ek : ((vs0.zip (ds.zip ks)).map fun b => b.2.2) = ks := by
      have q : (vs0.zip (ds.zip ks)).map (·.2) = ds.zip ks := List.map_snd_zip (by rw [List.length_zip]; omega)
      have q2 := congrArg (fun l => l.map (·.2)) q
      rw [List.map_map] at q2
      exact q2.trans (List.map_snd_zip (by omega))
    refine keyZ_tree (bs := vs0.zip (ds.zip ks)) C hr hb (fun b hbm => ?_) (by rw [eb]; exact rv) (by rw [ek]; exact h2) (by rw [← rv.length]; exact hz) I ok pl.isList fun z s2 H2 G2 ι2 zs a1 a2 a3 a4 a5 => ?_
    · obtain ⟨i, hi⟩ := List.mem_iff_getElem?.mp hbm
      rw [List.getElem?_zip_eq_some] at hi
      obtain ⟨i1, i2⟩ := hi
      have i2' : (ds.zip ks)[i]? = some (b.2.1, b.2.2) := i2
      rw [List.getElem?_zip_eq_some] at i2'
      obtain ⟨kd, j1, j2⟩ := h4 i _ i2'.1
      rw [i2'.2] at j1
      cases j1
      obtain ⟨v', j3, j4⟩ := e2.get i2'.1
      rw [i1] at j3
      cases j3
      exact ⟨j4, j2⟩
    · rw [ed, ek] at a5
      exact ⟨.ref z, _, a1, rfl, kk _ _ G2 ι2 a2 a3 (.inl ⟨rfl, z, rfl, a4, zs, upd_same, a5⟩)⟩
  have st := star_cons hs [] X.env
  refine (pe_callBK hc hg hm (by rfl) (pa_cons ha pa_nil st) (pk_cons (nm := some "key") (pe_glob (v := .ref fa) hgx hmx rfl hdx) pk_nil) (by decide) (by decide) (by rw [st]; rfl) (by rw [st]; rfl) (by rfl) (by rfl) (by rfl)).weak fun σ H Q ⟨F, G, ι, s, d, s', ok, ev, k⟩ => ?_
  simp only [evE, Option.bind_eq_some_iff, Prod.exists] at ev
  obtain ⟨y, s1, e1, e2⟩ := ev
  split at e2
  · rename_i ds
    rw [Option.bind_eq_some_iff] at e2
    obtain ⟨ks, e3, e4⟩ := e2
    split at e4
    · rename_i hk
      cases e4
      exact ⟨F, G, ι, s, _, _, ok, e1, fun v H1 G1 ι1 ok1 x1 r1 => ⟨rfl, F, G1, ι1, _, σ, v, ds, ks, rfl, ok1, r1, e3, hk, k.ext x1⟩⟩
    · cases e4
  · cases e2
end
end Ev

-- EvB
set_option autoImplicit true
set_option Elab.async false
set_option linter.all false
set_option maxRecDepth 100000
set_option maxHeartbeats 4000000
set_option autoImplicit false
/-! EvB: list comprehensions over a slot's list or tuple that stays the slot's own. -/
namespace Ev
open PySem PySem.Spec PyProof.Rows L2

/-- J yields the items of the root at v as long as it is c -/
structure ItV (K : PySem.W.Frag) (J : It) (v : V) (c : D) (items : List D) : Prop where
  go : ∀ G ι H i, Root K G ι H v c → i < items.length → J.go i H
  stop : ∀ G ι H, Root K G ι H v c → J.stop items.length H
  yld : ∀ G ι H i x H' d, Root K G ι H v c → J.yld i H x H' → items[i]? = some d → H' = H ∧ Rep K G ι x d
def tSrcV (K : PySem.W.Frag) (i : Nat) : TI := fun σ H R => ∃ F G ι s c items, Ok K F G ι H s.ρ σ s.st ∧ Ev.peek s i = some c ∧ rootOf c = some items ∧ ∀ J v, σ[i]? = some (some v) → ItV K J v c items → R J H
section
variable {X : Cx} {Fn : Ev.Fn}
theorem pi_seqV {tg : Expr} {i : Nat} {x : Str} {p : Pos} (hN : X.N[i]? = some x) (hv : Vis X.env.scope x) (hd : (x == ("__debug__" : Str)) = false) (hcd : (x == ("__classdict__" : Str)) = false) : PI X tg (.Name x p) (tSrcV X.K i) := by
  refine ⟨fun pins s σ H R I h => ?_⟩
  obtain ⟨F, G, ι, es, c, items, ok, hc, hi, k⟩ := h
  obtain ⟨v, h1, h2, h3⟩ := ok.peek hc
  cases c <;> simp only [rootOf, reduceCtorEq, Option.some.injEq] at hi
  · subst hi
    obtain ⟨a, xs, rfl, h4, h5⟩ := h2
    refine (pi_tup (pe_var hN hv hd hcd)).run pins s σ H R I ⟨.ref a, h1, a, rfl, ⟨_, h4⟩, k _ _ h1 ⟨fun G' ι' H' i r hl => ?_, fun G' ι' H' r => ?_, fun G' ι' H' i y H2 d r yl hd => ?_⟩⟩
    · obtain ⟨b, ys, e, q1, q2⟩ := r
      cases e
      exact ⟨ys, ys[i]'(by rw [q2.length]; exact hl), q1, List.getElem?_eq_getElem _⟩
    · obtain ⟨b, ys, e, q1, q2⟩ := r
      cases e
      exact ⟨ys, q1, by rw [q2.length]; exact Nat.le_refl _⟩
    · obtain ⟨b, ys, e, q1, q2⟩ := r
      cases e
      obtain ⟨e1, e2⟩ := yl
      obtain ⟨d', e3, e4⟩ := q2.getV (e2 ys q1)
      rw [hd] at e3; cases e3
      exact ⟨e1, e4⟩
  · subst hi
    obtain ⟨a, xs, rfl, h4, h5⟩ := h2
    refine (pi_list (pe_var hN hv hd hcd)).run pins s σ H R I ⟨.ref a, h1, a, rfl, ⟨_, SqL.of h4⟩, k _ _ h1 ⟨fun G' ι' H' i r hl => ?_, fun G' ι' H' r => ?_, fun G' ι' H' i y H2 d r yl hd => ?_⟩⟩
    · obtain ⟨b, ys, e, q1, q2⟩ := r
      cases e
      exact ⟨ys, ys[i]'(by rw [q2.length]; exact hl), SqL.of q1, List.getElem?_eq_getElem _⟩
    · obtain ⟨b, ys, e, q1, q2⟩ := r
      cases e
      exact ⟨ys, SqL.of q1, by rw [q2.length]; exact Nat.le_refl _⟩
    · obtain ⟨b, ys, e, q1, q2⟩ := r
      cases e
      obtain ⟨e1, e2⟩ := yl
      obtain ⟨d', e3, e4⟩ := q2.getV (e2 ys (SqL.of q1))
      rw [hd] at e3; cases e3
      exact ⟨e1, e4⟩
theorem lc_stepV {K : PySem.W.Frag} {ts : Tg} {i0 : Nat} {iifs : IEs} {ielt : IE} {σ : L2.St} {H : Hp} {Q : VK} (h : tN Fn K (.compV ts i0 iifs ielt) σ H Q) :
    tLc (tSrcV K i0) (gT K ts) (tIfs Fn K iifs) (tV Fn K ielt) ts.slots σ H Q := by
  obtain ⟨F, G, ι, s, d, s', ok, ev, kk⟩ := h
  simp only [evE, Option.bind_eq_some_iff] at ev
  obtain ⟨c, e1, items, e2, ev⟩ := ev
  split at ev
  case isFalse => cases ev
  case isTrue fr0 =>
  rw [Bool.and_eq_true, Bool.not_eq_true'] at fr0
  obtain ⟨fr, hni⟩ := fr0
  have ni : i0 ∉ ts.slots := fun z => by rw [List.contains_iff_mem.mpr z] at hni; cases hni
  simp only [Option.bind_eq_some_iff, Prod.exists] at ev
  obtain ⟨acc, s2, e3, e4⟩ := ev
  split at e4
  case isFalse => cases e4
  case isTrue hend =>
  cases e4
  refine ⟨F, G, ι, s, c, items, ok, e1, e2, fun J v hv it => ?_⟩
  intro Dp hD
  have w1 := ok.fresh hD
  generalize hf : (fun d (st : List D × S) => if Ev.peek st.2 i0 = some c then (bindT (wipeS st.2 ts.slots) ts d).bind fun s1 => (evIfs Fn iifs s1).bind fun c =>
          if c.1 then (evE Fn ielt c.2).bind fun r => if st.1.length < sizeLine then some (st.1 ++ [r.1], r.2) else none else some (st.1, c.2) else none) = f at e3
  refine ⟨fun i m H => i + m = items.length ∧ ∃ G2 ι2 sC σ2 accD accV, Ext G ι G2 ι2 ∧ L2.wipe σ2 ts.slots = L2.wipe σ ts.slots ∧ Ok K (upd F Dp (.lst accV)) G2 ι2 H sC.ρ σ2 sC.st ∧ Reps K G2 ι2 accV accD ∧
    foldO f (items.drop i) (accD, sC) = some (acc, s2), ?_, ?_⟩
  · have ok2 := ((ok.alloc hD (.lst [])).foreign w1 upd_same).wipeL (s := s) rfl rfl ts.slots
    exact ⟨items.length, by omega, G, ι, wipeS s ts.slots, L2.wipe σ ts.slots, [], [], Ext.refl _ _, wipe_wipe σ _, ok2, .nil, by rw [List.drop_zero]; exact e3⟩
  · rintro i m H2 ⟨hm, G2, ι2, sC, σ2, accD, accV, x2, hw, ok2, rA, e6⟩
    have root : Ev.peek sC i0 = some c → Root K G2 ι2 H2 v c := fun hp => by
      obtain ⟨v', q1, q2, _⟩ := ok2.peek hp
      rw [wipe_out hw ni, hv] at q1
      cases q1
      exact q2
    by_cases hi : i < items.length
    · obtain ⟨b', e7, e8⟩ := foldO_split e6 hi
      rw [← hf] at e7
      simp only at e7
      split at e7
      case isFalse => cases e7
      case isTrue hp =>
      have rt := root hp
      refine .inr ⟨it.go G2 ι2 H2 i rt hi, fun H' => ∃ G2 ι2 sC σ2 accD accV, Ext G ι G2 ι2 ∧ L2.wipe σ2 ts.slots = L2.wipe σ ts.slots ∧ Ok K (upd F Dp (.lst accV)) G2 ι2 H' sC.ρ σ2 sC.st ∧ Reps K G2 ι2 accV accD ∧
        foldO f (items.drop (i + 1)) (accD, sC) = some (acc, s2), fun H' n => ⟨m - 1, by omega, by omega, n⟩, fun x H3 y => ?_⟩
      obtain ⟨rfl, r3⟩ := it.yld G2 ι2 H2 i x H3 items[i] rt y (List.getElem?_eq_getElem hi)
      simp only [Option.bind_eq_some_iff, Prod.exists] at e7
      obtain ⟨sB, e9, cc, s4, e10, e11⟩ := e7
      have ok3' := ok2.wipeL (s := sC) rfl rfl ts.slots
      rw [hw] at ok3'
      refine ⟨_, G2, ι2, wipeS sC ts.slots, items[i], sB, ok3', r3, e9, fun σ3 okB hw3 => ?_⟩
      rw [wipe_wipe] at hw3
      refine ⟨hw3, _, G2, ι2, sB, cc, s4, okB, e10, fun H4 G4 ι4 ok4 x4 => ?_⟩
      cases cc with
      | false =>
        simp only [Bool.false_eq_true, if_false, Option.some.injEq] at e11 ⊢
        subst e11
        exact ⟨G4, ι4, s4, σ3, accD, accV, x2.trans x4, hw3, ok4, rA.ext x4, e8⟩
      | true =>
        simp only [if_true, Option.bind_eq_some_iff, Prod.exists] at e11 ⊢
        obtain ⟨dd, s5, e12, e13⟩ := e11
        split at e13
        case isFalse => cases e13
        case isTrue hz =>
        cases e13
        refine ⟨_, G4, ι4, s4, dd, s5, ok4, e12, fun v H5 G5 ι5 ok5 x5 r5 => ⟨accV, ok5.fsub _ _ upd_same, by rw [rA.length]; exact hz, ?_⟩⟩
        have x25 := x4.trans x5
        exact ⟨G5, ι5, s5, σ3, accD ++ [dd], accV ++ [v], x2.trans x25, hw3, ok5.foreignW, (rA.ext x25).append (.cons r5 .nil), e8⟩
    · have e : i = items.length := by omega
      subst e
      rw [List.drop_length] at e6
      cases e6
      refine .inl ⟨it.stop G2 ι2 H2 (root hend), ?_⟩
      obtain ⟨ok3, w3⟩ := ok2.unforeign w1.f
      refine kk _ _ _ _ (Ok.back ok ok3 x2 hw fr) x2 (.inl ⟨rfl, Dp, rfl, w3.back hw fr, accV, ok2.fsub _ _ upd_same, rA⟩)
section
variable {elt tg : Expr} {ifs : List Expr} {scope : Scope} {own : List (Str × Nat)} {pos nm : Pos} {ts : Tg} {i : Nat} {x : Str} {iifs : IEs} {ielt : IE}
theorem pN_lcV (hc : X.calm = true) (hN : X.N.Nodup) (hx : X.N[i]? = some x) (hv : Vis X.env.scope x) (hd : (x == ("__debug__" : Str)) = false) (hcd : (x == ("__classdict__" : Str)) = false) (ok : BlkOk X.N X.env.scope scope own) (ho : own.map (·.2) = ts.slots)
    (hg : ∀ (s : Shared) (H : Hp) (C : Addr) (cl : List (Str × Addr)) (fp : List Addr), PG (X.blk s H scope (compEnvC scope cl C X.env) fp) tg (gT X.K ts)) (ht : ∀ (s : Shared) (H : Hp) (C : Addr) (cl : List (Str × Addr)) (fp : List Addr), PTs (X.blk s H scope (compEnvC scope cl C X.env) fp) ifs (tIfs Fn X.K iifs))
    (he : ∀ (s : Shared) (H : Hp) (C : Addr) (cl : List (Str × Addr)) (fp : List Addr), PE (X.blk s H scope (compEnvC scope cl C X.env) fp) elt (tV Fn X.K ielt)) :
    PE X (.ListComp elt [⟨tg, .Name x nm, ifs, 0⟩] scope pos) (tN Fn X.K (.compV ts i iifs ielt)) :=
  (pe_lc hc hN (pi_seqV hx hv hd hcd) ok hg ht he).weak fun σ H Q h => by rw [ho]; exact lc_stepV h
theorem pS_setLcV (hc : X.calm = true) (hN : X.N.Nodup) {j : Nat} {y : Str} {py spos : Pos} (hy : X.N[j]? = some y) (hyl : X.env.scope.names.lookup y = some .local)
    (hsw : swapsWith (.ListComp elt [⟨tg, .Name x nm, ifs, 0⟩] scope pos) (some (.Name y py)) spos.line X.env = pure true) (hx : X.N[i]? = some x) (hv : Vis X.env.scope x) (hd : (x == ("__debug__" : Str)) = false) (hcd : (x == ("__classdict__" : Str)) = false) (ok : BlkOk X.N X.env.scope scope own) (ho : own.map (·.2) = ts.slots)
    (hg : ∀ (s : Shared) (H : Hp) (C : Addr) (cl : List (Str × Addr)) (fp : List Addr), PG (X.blk s H scope (compEnvC scope cl C X.env) fp) tg (gT X.K ts)) (ht : ∀ (s : Shared) (H : Hp) (C : Addr) (cl : List (Str × Addr)) (fp : List Addr), PTs (X.blk s H scope (compEnvC scope cl C X.env) fp) ifs (tIfs Fn X.K iifs))
    (he : ∀ (s : Shared) (H : Hp) (C : Addr) (cl : List (Str × Addr)) (fp : List Addr), PE (X.blk s H scope (compEnvC scope cl C X.env) fp) elt (tV Fn X.K ielt)) :
    PS X (.Assign [.Name y py] (.ListComp elt [⟨tg, .Name x nm, ifs, 0⟩] scope pos) spos) (tAsg (tN Fn X.K (.compV ts i iifs ielt)) (gName j)) :=
  (ps_setLc hc hN hy hyl hsw (pi_seqV hx hv hd hcd) ok hg ht he).weak fun D σ H h => by
    show tLc _ _ _ _ (own.map (·.2)) σ H _
    rw [ho]
    exact lc_stepV h
end
end
end Ev

-- EvN
set_option autoImplicit true
set_option Elab.async false
set_option linter.all false
set_option maxRecDepth 100000
set_option maxHeartbeats 4000000
set_option autoImplicit false
/-! EvN: min(xs, key=f, default=None), f a def of the text. -/
namespace Ev
open PySem PySem.Spec PySem.Calls PyProof.Rows PySem.W L2

theorem keysOkM_of {ks : List D} (h : keysOkM ks = true) : (∀ k ∈ ks, D.keyed deep k = true) ∧ (∀ k ∈ ks, ∀ k' ∈ ks, alike k.pd k'.pd = true) ∧ ∀ k ∈ ks, k.pd ≠ .none := by
  unfold keysOkM at h
  simp only [Bool.and_eq_true, List.all_eq_true, decide_eq_true_eq] at h
  obtain ⟨⟨h1, h2⟩, h3⟩ := h
  refine ⟨h1, h2, fun k hk z => ?_⟩
  have := h3 k hk
  cases k <;> first | exact this rfl | cases z
def stepM (b p : V × D × D) : V × D × D := if dataLt p.2.2.pd b.2.2.pd then p else b
section
variable {X : Cx} {pins : List (Addr × Obj)} {σ σ' : L2.St} {F G : Hp} {ι : List Addr} {es : S} {Fn : Ev.Fn} {k f : Nat} {fa : Addr} {fd : FuncData} {ps : List Str} {fr : Bool} {bs : List (V × D × D)} {l it S : Addr}
/-- a call of the key, one frame of the built-ins down -/
theorem key_call1 {H : Hp} {s : Shared} (C : FnOk X.prog X.w X.K X.mg X.base CXn k fa fd ps (spD X.K Fn f fr)) (hr : Room (k + 2) X.A) (hb : Binds X.K fd ps []) (I : Inv X pins σ H s) (ok : Ok X.K F G ι H es.ρ σ' es.st) {v : V} {d kd : D} {u : Value} (r : Rep X.K G ι v d) (rv : RelV v u)
    (e : Fn f [d] es.st = some (kd, es.st)) {Q : Value → Shared → Prop} (hQ : ∀ w v' H' G' ι' s', Inv X pins σ H' s' → Ok X.K F G' ι' H' es.ρ σ' es.st → Ext G ι G' ι' → Rep X.K G' ι' v' kd → RelV v' w → Q w s') :
    wpAny (model X.prog X.w) X.A.in1 (call (.ref fa) [u]) Q (fun _ _ => False) s := by
  have hsp : spD X.K Fn f fr [v] H (fun v' H' => ∃ G' ι', Ok X.K F G' ι' H' es.ρ σ' es.st ∧ Ext G ι G' ι' ∧ Rep X.K G' ι' v' kd) En := call_step ok (.cons r .nil) e fun v' H' G' ι' ok' x q => by
    cases fr with
    | false => exact ⟨G', ι', ok', x, q⟩
    | true =>
      rcases (show NewRoot X.K F G' ι' H' es.ρ σ' v' kd from q) with ⟨_, a, rfl, aw, w⟩ | ⟨_, q⟩
      · obtain ⟨o, ho⟩ := w.some
        obtain ⟨ok2, e2⟩ := ok'.freeze aw ho
        exact ⟨_, _, ok2, x.trans e2, (w.move e2 rfl).rep (by rw [upd_same, ho])⟩
      · exact ⟨G', ι', ok', x, q⟩
  have hl := C.len _ _ _ _ hsp
  refine wpAny_call (codeAny_mono (C.run X.A.in1 X.stack s H ⟨[u], []⟩ [u] [v] _ En (Room.in1 (hr.mono (Nat.le_succ (k + 1)))) I.env0.in1 (hb s [u] I.kIn (by simpa using hl)) (.cons rv .nil) hsp) fun r s' hq => ?_)
  cases r with
  | error e => exact False.elim hq
  | ok fl =>
    cases fl with
    | ret u =>
      obtain ⟨v', H', I', rv', G', ι', ok', x, q⟩ := I.after hq
      exact hQ u v' H' G' ι' s' I' ok' x q rv'
    | next => exact False.elim hq
    | brk => exact False.elim hq
    | cont => exact False.elim hq
theorem FpOk.at {H H' : Hp} {b : Addr} (f : FpOk X pins H b) (hn : H' b = none) : FpOk X pins H' b := ⟨hn, f.2⟩
theorem minK_loop {R : Result → Shared → Prop} (C : FnOk X.prog X.w X.K X.mg X.base CXn k fa fd ps (spD X.K Fn f fr)) (hr : Room (k + 2) X.A) (hb : Binds X.K fd ps []) (hg : ∀ b ∈ bs, Rep X.K G ι b.1 b.2.1 ∧ Fn f [b.2.1] es.st = some (b.2.2, es.st)) (hlist : G l = some (.lst (bs.map (·.1))))
    (hks : keysOkM (bs.map fun b => b.2.2) = true) (hS : S ≠ it) (hli : l ≠ it) (fS : F S = none) :
    ∀ (rest pre : List (V × D × D)) (b : V × D × D) (s : Shared) (H1 G1 : Hp) (ι1 : List Addr) (u w : Value) (kv : V) (c : Nat), bs = pre ++ rest → b ∈ bs → Inv X pins σ H1 s → Ok X.K (upd F S (Xo S (seqObj "list" #[u, w] c))) G1 ι1 H1 es.ρ σ' es.st → Ext G ι G1 ι1 →
      FpOk X pins H1 it → s.heap.IsListIter it l pre.length → RelV b.1 u → RelV kv w → Rep X.K G1 ι1 kv b.2.2 →
      (∀ u2 s2 H2 G2 ι2, Inv X pins σ H2 s2 → Ok X.K F G2 ι2 H2 es.ρ σ' es.st → Ext G ι G2 ι2 → RelV (rest.foldl stepM b).1 u2 → R (.ok (.ret u2)) s2) →
      codeAny (model X.prog X.w) X.A (.builtin "min.loop" ⟨[.ref it, .ref fa, .ref S], [("default", .none)]⟩) R s := by
  have hname : (toString "min" ++ toString ".loop" : String) = "min.loop" := by decide
  obtain ⟨hk1, hk2, hk3⟩ := keysOkM_of hks
  have hh : X.A.in1.handled = none := by simpa using hr.hd
  intro rest
  induction rest with
  | nil =>
    intro pre b s H1 G1 ι1 u w kv c hbs hbm I ok x fp hit rb rk rr hR
    rw [List.append_nil] at hbs
    subst hbs
    have hSx := Xo_get I (ok.fsub _ _ upd_same)
    obtain ⟨its, rv, pl, hz⟩ := I.list (SqL.of (ok.sub _ _ (x.1 _ _ hlist)))
    have hn : its.toArray.size = bs.length := by have := rv.length; rw [List.length_map] at this; simp [this]
    have W := Walks.list (prog := X.prog) (w := X.w) hh it l hli its.toArray
    refine codeAny_builtin PySem.F.entry_min_loop ?_
    rw [Around.under_plainId PySem.F.plain_min_loop _]
    show wpAny _ X.A.in1 (seqItems? (.ref S) >>= _) _ _ s
    refine wpAny_bind (wpAny_seqItems hSx rfl ?_)
    show wpAny _ X.A.in1 (tryCatch (pyNext (.ref it)) _ >>= _) _ _ s
    refine wpAny_bind (wpAny_tryCatch (W.done s _ _ ⟨by rw [hn]; exact hit, pl.isList⟩ fun h' tk hk' => ?_))
    have hS' := hk' S _ (by simpa using hS) hSx
    have I2 : Inv X pins σ H1 { s with heap := h', toks := tk } := I.turned (fun b o hb e => hk' b o (by simpa using hb) e) fp.1 fp.2.1 fp.2.2.2.1 fp.2.2.2.2.1 fp.2.2.2.2.2
    show wpAny _ X.A.in1 (updateSeq S (fun _ => #[]) >>= _) _ _ _
    refine wpAny_bind ?_
    refine wpAny_updateSeq hS' rfl (wpAny_bind (wpAny_letGo (wpAny_pure ?_)))
    have hc2 := get?_update_seq hS' fun _ => (#[] : Array Value)
    have I3 := d_write (t' := tk) (ob := Xo S _) I2 (by rw [ok.fsub _ _ upd_same]; exact True.intro) (Heap.SameBut.update h' S (Obj.mapSeq fun _ => (#[] : Array Value))) ⟨_, hc2⟩ (Xo_ok hc2)
    obtain ⟨ok3, _⟩ := (ok.foreignW (o' := Xo S _)).unforeign fS
    exact hR u _ _ G1 ι1 I3 ok3 x rb
  | cons p rest ih =>
    intro pre b s H1 G1 ι1 u w kv c hbs hbm I ok x fp hit rb rk rr hR
    have hpm : p ∈ bs := by rw [hbs]; simp
    have hSx := Xo_get I (ok.fsub _ _ upd_same)
    obtain ⟨its, rv, pl, hz⟩ := I.list (SqL.of (ok.sub _ _ (x.1 _ _ hlist)))
    have hn : its.toArray.size = bs.length := by have := rv.length; rw [List.length_map] at this; simp [this]
    have hlt : pre.length < its.toArray.size := by rw [hn, hbs]; simp
    have W := Walks.list (prog := X.prog) (w := X.w) hh it l hli its.toArray
    refine codeAny_builtin PySem.F.entry_min_loop ?_
    rw [Around.under_plainId PySem.F.plain_min_loop _]
    show wpAny _ X.A.in1 (seqItems? (.ref S) >>= _) _ _ s
    refine wpAny_bind (wpAny_seqItems hSx rfl ?_)
    show wpAny _ X.A.in1 (tryCatch (pyNext (.ref it)) _ >>= _) _ _ s
    refine wpAny_bind (wpAny_tryCatch (W.item pre.length s _ _ hlt ⟨hit, pl.isList⟩ fun v h' tk hP hst' hk' => ?_))
    have hv : its[pre.length]? = some v := by simpa using hP
    obtain ⟨p', hp', rp⟩ := vals_getI rv hv
    have ep : p' = p := by
      rw [hbs, List.getElem?_append_right (Nat.le_refl _), Nat.sub_self] at hp'
      simpa using hp'.symm
    subst ep
    have I2 : Inv X pins σ H1 { s with heap := h', toks := tk } := I.turned (fun b o hb e => hk' b o (by simpa using hb) e) fp.1 fp.2.1 fp.2.2.2.1 fp.2.2.2.2.1 fp.2.2.2.2.2
    obtain ⟨g1, g2⟩ := hg p' hpm
    have hit2 := hst'.1
    obtain ⟨oi, ei, ci, di⟩ := id hit2
    have fp2 : ∀ b ∈ [it], FpOk X pins H1 b := fun b hb => by rw [List.mem_singleton.mp hb]; exact fp
    have I2p := I2.pinned fp2 fun b hb => by rw [List.mem_singleton.mp hb]; exact ⟨oi, ei, fun v z => by rw [di] at z; cases z⟩
    show wpAny _ X.A.in1 (tryCatch (holding [v] (call (.ref fa) [v])) _ >>= _) _ _ _
    refine wpAny_bind (wpAny_tryCatch (wpAny_holding (wpAny_mono (key_call1 C hr hb I2p ok (g1.ext x) rp g2 (Q := fun w2 s3 => ∃ kv3 H3 G3 ι3, Inv X (pins ++ pinsAt [it] h') σ H3 s3 ∧ Ok X.K (upd F S (Xo S (seqObj "list" #[u, w] c))) G3 ι3 H3 es.ρ σ' es.st ∧ Ext G1 ι1 G3 ι3 ∧ Rep X.K G3 ι3 kv3 p'.2.2 ∧ RelV kv3 w2)
      fun w2 v' H' G' ι' s3 a1 a2 a3 a4 a5 => ⟨v', H', G', ι', a1, a2, a3, a4, a5⟩) (fun w2 s3 he => ?_) fun _ _ hF => hF.elim)))
    obtain ⟨kv3, H3, G3, ι3, I3p, ok3, x3, r3, rv3⟩ := he
    have pin := I3p.pin (it, oi) (List.mem_append_right _ (List.mem_append_right _ (mem_pinsAt (List.mem_singleton.mpr rfl) ei)))
    have I3 := I3p.unpinned
    have hit3 : s3.heap.IsListIter it l (pre.length + 1) := ⟨oi, pin.1, ci, di⟩
    have fp3 : FpOk X pins H3 it := FpOk.at fp pin.2.1
    have hS3 := Xo_get I3 (ok3.fsub _ _ upd_same)
    have kb : b.2.2 ∈ bs.map fun b => b.2.2 := List.mem_map.mpr ⟨b, hbm, rfl⟩
    have kp : p'.2.2 ∈ bs.map fun b => b.2.2 := List.mem_map.mpr ⟨p', hpm, rfl⟩
    have rc := rcLt_alike p'.2.2.pd b.2.2.pd X.A.in1 s3 w2 w [] [] (reads_of I3 ok3 deep _ (hk1 _ kp) r3 rv3) (reads_of I3 ok3 deep _ (hk1 _ kb) (rr.ext x3) rk) (hk2 _ kp _ kb) (hk3 _ kp) (by
      have q := depth_keyed deep p'.2.2 (hk1 _ kp)
      have q2 := Nat.min_le_left p'.2.2.pd.depth b.2.2.pd.depth
      have u0 := hr.un
      have u1 : X.A.in1.units = X.A.units + 1 := rfl
      unfold deep at q
      omega)
    show wpAny _ X.A.in1 (tryCatch (holding [v, w2] (richCompare .Lt w2 w >>= _)) _ >>= _) _ _ _
    refine wpAny_bind (wpAny_tryCatch (wpAny_holding (wpAny_bind (rc _ _ _ _ ?_))))
    refine wpAny_bind (wpAny_holding (wpAny_truthy_bool ?_))
    refine wpAny_bind (wpAny_letGo (wpAny_pure ?_))
    have hlen : (pre ++ [p']).length = pre.length + 1 := by rw [List.length_append]; rfl
    have hbs' : bs = (pre ++ [p']) ++ rest := by rw [hbs]; simp
    cases hlt2 : dataLt p'.2.2.pd b.2.2.pd with
    | true =>
      have e2 : stepM b p' = p' := by unfold stepM; rw [hlt2]; rfl
      have hR2 : ∀ u2 s2 H2 G2 ι2, Inv X pins σ H2 s2 → Ok X.K F G2 ι2 H2 es.ρ σ' es.st → Ext G ι G2 ι2 → RelV (rest.foldl stepM p').1 u2 → R (.ok (.ret u2)) s2 := fun u2 s2 H2 G2 ι2 a1 a2 a3 a4 => hR u2 s2 H2 G2 ι2 a1 a2 a3 (by rw [List.foldl_cons, e2]; exact a4)
      simp only [if_true]
      refine wpAny_bind ?_
      refine wpAny_updateSeq hS3 rfl (wpAny_bind (wpAny_letGo ?_))
      rw [hname]
      have hc2 := get?_update_seq hS3 fun _ => (#[v, w2] : Array Value)
      have sb := Heap.SameBut.update s3.heap S (Obj.mapSeq fun _ => (#[v, w2] : Array Value))
      have I4 := d_write (t' := s3.toks) (ob := Xo S _) I3 (by rw [ok3.fsub _ _ upd_same]; exact True.intro) sb ⟨_, hc2⟩ (Xo_ok hc2)
      refine wpAny_pure ⟨plainId_quiet PySem.F.plain_min_loop _, ih (pre ++ [p']) p' _ _ G3 ι3 v w2 kv3 _ hbs' hpm I4 ok3.foreignW (x.trans x3) (FpOk.at fp3 (by rw [upd_ne (Ne.symm hS)]; exact fp3.1)) ?_ rp rv3 r3 hR2⟩
      rw [hlen]
      exact hit3.at fun o e => (sb.2 it (Ne.symm hS)).trans e
    | false =>
      have e2 : stepM b p' = b := by unfold stepM; rw [hlt2]; rfl
      have hR2 : ∀ u2 s2 H2 G2 ι2, Inv X pins σ H2 s2 → Ok X.K F G2 ι2 H2 es.ρ σ' es.st → Ext G ι G2 ι2 → RelV (rest.foldl stepM b).1 u2 → R (.ok (.ret u2)) s2 := fun u2 s2 H2 G2 ι2 a1 a2 a3 a4 => hR u2 s2 H2 G2 ι2 a1 a2 a3 (by rw [List.foldl_cons, e2]; exact a4)
      simp only [Bool.false_eq_true, if_false]
      refine wpAny_bind (wpAny_letGo ?_)
      rw [hname]
      exact wpAny_pure ⟨plainId_quiet PySem.F.plain_min_loop _, ih (pre ++ [p']) b s3 H3 G3 ι3 u w kv c hbs' hbm I3 ok3 (x.trans x3) fp3 (by rw [hlen]; exact hit3) rb rk (rr.ext x3) hR2⟩
/-- the first item, or none -/
theorem minK_first {R : Result → Shared → Prop} (C : FnOk X.prog X.w X.K X.mg X.base CXn k fa fd ps (spD X.K Fn f fr)) (hr : Room (k + 2) X.A) (hb : Binds X.K fd ps []) (hg : ∀ b ∈ bs, Rep X.K G ι b.1 b.2.1 ∧ Fn f [b.2.1] es.st = some (b.2.2, es.st)) (hlist : G l = some (.lst (bs.map (·.1))))
    (hks : keysOkM (bs.map fun b => b.2.2) = true) (hS : S ≠ it) (hli : l ≠ it) (fS : F S = none) {s : Shared} {H1 : Hp} {c : Nat} (I : Inv X pins σ H1 s) (ok : Ok X.K (upd F S (Xo S (seqObj "list" #[] c))) G ι H1 es.ρ σ' es.st) (fp : FpOk X pins H1 it) (hit : s.heap.IsListIter it l 0)
    (h0 : bs = [] → ∀ s2 H2 G2 ι2, Inv X pins σ H2 s2 → Ok X.K F G2 ι2 H2 es.ρ σ' es.st → Ext G ι G2 ι2 → R (.ok (.ret .none)) s2)
    (hR : ∀ p rest, bs = p :: rest → ∀ u2 s2 H2 G2 ι2, Inv X pins σ H2 s2 → Ok X.K F G2 ι2 H2 es.ρ σ' es.st → Ext G ι G2 ι2 → RelV (rest.foldl stepM p).1 u2 → R (.ok (.ret u2)) s2) :
    codeAny (model X.prog X.w) X.A (.builtin "min.loop" ⟨[.ref it, .ref fa, .ref S], [("default", .none)]⟩) R s := by
  have hname : (toString "min" ++ toString ".loop" : String) = "min.loop" := by decide
  have hh : X.A.in1.handled = none := by simpa using hr.hd
  have hSx := Xo_get I (ok.fsub _ _ upd_same)
  obtain ⟨its, rv, pl, hz⟩ := I.list (SqL.of (ok.sub _ _ hlist))
  have hn : its.toArray.size = bs.length := by have := rv.length; rw [List.length_map] at this; simp [this]
  have W := Walks.list (prog := X.prog) (w := X.w) hh it l hli its.toArray
  refine codeAny_builtin PySem.F.entry_min_loop ?_
  rw [Around.under_plainId PySem.F.plain_min_loop _]
  show wpAny _ X.A.in1 (seqItems? (.ref S) >>= _) _ _ s
  refine wpAny_bind (wpAny_seqItems hSx rfl ?_)
  show wpAny _ X.A.in1 (tryCatch (pyNext (.ref it)) _ >>= _) _ _ s
  cases hbs : bs with
  | nil =>
    have hn0 : its.toArray.size = 0 := by rw [hn, hbs]; rfl
    refine wpAny_bind (wpAny_tryCatch (W.done s _ _ ⟨by rw [hn0]; exact hit, pl.isList⟩ fun h' tk hk' => ?_))
    have I2 : Inv X pins σ H1 { s with heap := h', toks := tk } := I.turned (fun b o hb e => hk' b o (by simpa using hb) e) fp.1 fp.2.1 fp.2.2.2.1 fp.2.2.2.2.1 fp.2.2.2.2.2
    show wpAny _ X.A.in1 (rule _ >>= fun _ => ret Value.none) _ _ _
    refine wpAny_bind (wpAny_rule (wpAny_pure ?_))
    obtain ⟨ok3, _⟩ := ok.unforeign fS
    exact h0 hbs _ H1 G ι I2 ok3 (Ext.refl _ _)
  | cons p rest =>
    have hlt : 0 < its.toArray.size := by rw [hn, hbs]; simp
    have hpm : p ∈ bs := by rw [hbs]; exact List.mem_cons_self
    refine wpAny_bind (wpAny_tryCatch (W.item 0 s _ _ hlt ⟨hit, pl.isList⟩ fun v h' tk hP hst' hk' => ?_))
    have hv : its[0]? = some v := by simpa using hP
    obtain ⟨p', hp', rp⟩ := vals_getI rv hv
    have ep : p' = p := by
      rw [hbs] at hp'
      simpa using hp'.symm
    subst ep
    have I2 : Inv X pins σ H1 { s with heap := h', toks := tk } := I.turned (fun b o hb e => hk' b o (by simpa using hb) e) fp.1 fp.2.1 fp.2.2.2.1 fp.2.2.2.2.1 fp.2.2.2.2.2
    obtain ⟨g1, g2⟩ := hg p' hpm
    obtain ⟨oi, ei, ci, di⟩ := id hst'.1
    have fp2 : ∀ b ∈ [it], FpOk X pins H1 b := fun b hb => by rw [List.mem_singleton.mp hb]; exact fp
    have I2p := I2.pinned fp2 fun b hb => by rw [List.mem_singleton.mp hb]; exact ⟨oi, ei, fun v z => by rw [di] at z; cases z⟩
    show wpAny _ X.A.in1 (tryCatch (holding [v] (call (.ref fa) [v])) _ >>= _) _ _ _
    refine wpAny_bind (wpAny_tryCatch (wpAny_holding (wpAny_mono (key_call1 C hr hb I2p ok g1 rp g2 (Q := fun w2 s3 => ∃ kv3 H3 G3 ι3, Inv X (pins ++ pinsAt [it] h') σ H3 s3 ∧ Ok X.K (upd F S (Xo S (seqObj "list" #[] c))) G3 ι3 H3 es.ρ σ' es.st ∧ Ext G ι G3 ι3 ∧ Rep X.K G3 ι3 kv3 p'.2.2 ∧ RelV kv3 w2)
      fun w2 v' H' G' ι' s3 a1 a2 a3 a4 a5 => ⟨v', H', G', ι', a1, a2, a3, a4, a5⟩) (fun w2 s3 he => ?_) fun _ _ hF => hF.elim)))
    obtain ⟨kv3, H3, G3, ι3, I3p, ok3, x3, r3, rv3⟩ := he
    have pin := I3p.pin (it, oi) (List.mem_append_right _ (List.mem_append_right _ (mem_pinsAt (List.mem_singleton.mpr rfl) ei)))
    have I3 := I3p.unpinned
    have hit3 : s3.heap.IsListIter it l 1 := ⟨oi, pin.1, ci, di⟩
    have fp3 : FpOk X pins H3 it := FpOk.at fp pin.2.1
    have hS3 := Xo_get I3 (ok3.fsub _ _ upd_same)
    have hc2 := get?_update_seq hS3 fun _ => (#[v, w2] : Array Value)
    have sb := Heap.SameBut.update s3.heap S (Obj.mapSeq fun _ => (#[v, w2] : Array Value))
    have I4 := d_write (t' := s3.toks) (ob := Xo S _) I3 (by rw [ok3.fsub _ _ upd_same]; exact True.intro) sb ⟨_, hc2⟩ (Xo_ok hc2)
    show wpAny _ X.A.in1 (updateSeq S (fun _ => #[v, w2]) >>= _) _ _ _
    refine wpAny_bind ?_
    refine wpAny_updateSeq hS3 rfl ?_
    rw [hname]
    exact wpAny_pure ⟨plainId_quiet PySem.F.plain_min_loop _, minK_loop (G := G) (ι := ι) C hr hb hg hlist hks hS hli fS rest [p'] p' _ _ G3 ι3 v w2 kv3 _ hbs hpm I4 ok3.foreignW x3 (FpOk.at fp3 (by rw [upd_ne (Ne.symm hS)]; exact fp3.1)) (hit3.at fun o e => (sb.2 it (Ne.symm hS)).trans e) rp rv3 r3
      fun u2 s2 H2 G2 ι2 a1 a2 a3 a4 => hR p' rest hbs u2 s2 H2 G2 ι2 a1 a2 a3 a4⟩
end
end Ev

-- EvN2
set_option autoImplicit true
set_option Elab.async false
set_option linter.all false
set_option maxRecDepth 100000
set_option maxHeartbeats 4000000
set_option autoImplicit false
/-! EvN2: min(xs, key=f, default=None): the call, the rule. -/
namespace Ev
open PySem PySem.Spec PySem.Calls PyProof.Rows PySem.W L2

theorem args_minK (a v : Value) : argsOk "min" ⟨[a], [(Str.ofString "key", v), (Str.ofString "default", .none)]⟩ := by unfold argsOk; kernel_rfl
theorem call_tree_kw {prog : Program} {w : World} {A : Around} {E : Value → Shared → Prop} {s : Shared} {id : String} {b : Builtin} {args : List Value} {kw : List (Str × Value)} {Q : Value → Shared → Prop} (hk : builtinKind id = none) (hp : plainId id = true) (hb : entryFor table id = some b) (ha : argsOk id ⟨args, kw⟩)
    (hc : wpAny (model prog w) A.in1 (b ⟨args, kw⟩) (fun fin s' => match fin with
      | .done f => (match (Except.ok f : Result) with | .ok (.ret v) => Q v s' | .ok _ => False | .error e => E e s')
      | .again c' => c'.quiet = true ∧ codeAny (model prog w) A c' (fun r s' => match r with | .ok (.ret v) => Q v s' | .ok _ => False | .error e => E e s') s') E s) :
    wpAny (model prog w) A (call (.builtin id) args kw) Q E s := by
  refine wpAny_call (codeAny_call_builtin hp hb ?_)
  simp only [checkBuiltinCall, hk]
  cases hsig : Manifest.signature? id with
  | none => exact wpAny_pure hc
  | some sig =>
    have ha' : Bind.checkArgs id sig ⟨args, kw⟩ = pure () := by simpa only [argsOk, hsig] using ha
    simp only [ha']
    exact wpAny_pure hc
theorem minP_map : ∀ (l : List (V × D × D)) (b : V × D × D), (l.foldl stepM b).2 = minP b.2 (l.map (·.2))
  | [], b => rfl
  | p :: l, b => by
    show (l.foldl stepM (stepM b p)).2 = _
    rw [minP_map l]
    show minP (stepM b p).2 _ = minP (if dataLt p.2.2.pd b.2.2.pd then p.2 else b.2) _
    congr 1
    unfold stepM
    split <;> rfl
theorem step_mem : ∀ (l : List (V × D × D)) (b : V × D × D), l.foldl stepM b = b ∨ l.foldl stepM b ∈ l
  | [], b => .inl rfl
  | p :: l, b => by
    rw [List.foldl_cons]
    rcases step_mem l (stepM b p) with h | h
    · rw [h]
      unfold stepM
      split
      · exact .inr List.mem_cons_self
      · exact .inl rfl
    · exact .inr (List.mem_cons_of_mem _ h)
section
variable {X : Cx} {pins : List (Addr × Obj)} {σ σ' : L2.St} {F G : Hp} {ι : List Addr} {es : S} {Fn : Ev.Fn} {k f : Nat} {fa : Addr} {fd : FuncData} {ps : List Str} {fr : Bool} {bs : List (V × D × D)} {l : Addr} {H : Hp} {s : Shared}
theorem minK_call {Q : Value → Shared → Prop} {E : Value → Shared → Prop} (C : FnOk X.prog X.w X.K X.mg X.base CXn k fa fd ps (spD X.K Fn f fr)) (hr : Room (k + 2) X.A) (hb : Binds X.K fd ps []) (hg : ∀ b ∈ bs, Rep X.K G ι b.1 b.2.1 ∧ Fn f [b.2.1] es.st = some (b.2.2, es.st)) (hlist : G l = some (.lst (bs.map (·.1))))
    (hks : keysOkM (bs.map fun b => b.2.2) = true) (I : Inv X pins σ H s) (ok : Ok X.K F G ι H es.ρ σ' es.st)
    (h0 : bs = [] → ∀ s2 H2 G2 ι2, Inv X pins σ H2 s2 → Ok X.K F G2 ι2 H2 es.ρ σ' es.st → Ext G ι G2 ι2 → Q .none s2)
    (hR : ∀ p rest, bs = p :: rest → ∀ u2 s2 H2 G2 ι2, Inv X pins σ H2 s2 → Ok X.K F G2 ι2 H2 es.ρ σ' es.st → Ext G ι G2 ι2 → RelV (rest.foldl stepM p).1 u2 → Q u2 s2) :
    wpAny (model X.prog X.w) X.A (call (.builtin "min") [.ref l] [(Str.ofString "key", .ref fa), (Str.ofString "default", .none)]) Q E s := by
  have hname : (toString "min" ++ toString ".loop" : String) = "min.loop" := by decide
  obtain ⟨its, rv, pl, hz⟩ := I.list (SqL.of (ok.sub _ _ hlist))
  refine call_tree_kw PySem.F.kind_min PySem.F.plain_min PySem.F.entry_min (args_minK _ _) ?_
  show wpAny _ X.A.in1 (Builtin.Builtins.bindParams "min" ["key", "default"] 0 ⟨[], [(Str.ofString "key", .ref fa), (Str.ofString "default", .none)]⟩ >>= _) _ _ s
  refine wpAny_bind (wpAny_of_eq (show Builtin.Builtins.bindParams "min" ["key", "default"] 0 ⟨[], [(Str.ofString "key", .ref fa), (Str.ofString "default", .none)]⟩ = pure [some (.ref fa), some .none] from by kernel_rfl) ?_)
  refine wpAny_bind (wpAny_pure ?_)
  refine wpAny_bind (wpAny_pyIter_list pl.isList ?_)
  have I1 : Inv X pins σ H { s with heap := s.heap.push { cls := .type "list_iterator", data := .fields #[.ref l, .int 0 0] } } := I.kept (t' := s.toks) fun b o q => Heap.get?_push_of_some _ q
  have fp := I.fpOk (Nat.le_refl _) (I.hok.fresh (Nat.le_refl _))
  have hsz : (s.heap.push { cls := .type "list_iterator", data := .fields #[.ref l, .int 0 0] }).objs.size = s.heap.objs.size + 1 := Heap.size_push ..
  refine wpAny_bind (wpAny_newList ?_ (Nat.zero_le _))
  rw [hname]
  have hp := I1.hok.fresh (Nat.le_refl _)
  have I2 := I1.laid (t' := s.toks) (h' := (s.heap.push { cls := .type "list_iterator", data := .fields #[.ref l, .int 0 0] }).push (seqObj "list" #[] 0)) (fun b o q => Heap.get?_push_of_some _ q) (Nat.le_refl _) (Xo_ok (Heap.get?_push_size _ rfl))
  have ok2 := (ok.alloc hp (Xo (s.heap.push { cls := .type "list_iterator", data := .fields #[.ref l, .int 0 0] }).objs.size (seqObj "list" #[] 0))).foreign (ok.fresh hp) upd_same
  have hS : (s.heap.push { cls := .type "list_iterator", data := .fields #[.ref l, .int 0 0] }).objs.size ≠ s.heap.objs.size := by rw [hsz]; omega
  have hli : l ≠ s.heap.objs.size := Nat.ne_of_lt pl.lt
  refine wpAny_pure ⟨plainId_quiet PySem.F.plain_min_loop _, ?_⟩
  refine minK_first (G := G) (ι := ι) C hr hb hg hlist hks hS hli (ok.fresh hp).f I2 ok2 (FpOk.at fp (by rw [upd_ne (Ne.symm hS)]; exact fp.1)) ⟨_, Heap.get?_push_of_some _ (Heap.get?_push_size _ rfl), rfl, rfl⟩ (fun z s2 H2 G2 ι2 a1 a2 a3 => h0 z s2 H2 G2 ι2 a1 a2 a3) fun p rest z u2 s2 H2 G2 ι2 a1 a2 a3 a4 => hR p rest z u2 s2 H2 G2 ι2 a1 a2 a3 a4
end
section
variable {X : Cx} {Fn : Ev.Fn} {k f : Nat} {fa : Addr} {fd : FuncData} {ps : List Str} {fr : Bool} {a : Expr} {ia : IE} {x : Str} {p pos kp kpos dpos dkpos : Pos} {j : Nat}
/-- min(e, key=f, default=None) -/
theorem pD_minK (C : FnOk X.prog X.w X.K X.mg X.base CXn k fa fd ps (spD X.K Fn f fr)) (hr : Room (k + 2) X.A) (hb : Binds X.K fd ps []) (hg : Gl X "min") (hm : X.mg "min" = none) (hgx : Gl X x) (hmx : X.mg x = some (.ref fa)) (hdx : (x == ("__debug__" : Str)) = false) (ha : PE X a (tV Fn X.K ia)) (hs : noStar a = true) :
    PE X (.Call (.Name "min" p) [a] [⟨some "key", .Name x kp, kpos⟩, ⟨some "default", .Constant .none j dpos, dkpos⟩] pos) (tV Fn X.K (.minKD f ia)) := by
  have hc : CallRK X (.builtin "min") [Str.ofString "key", Str.ofString "default"] (fun xs zs H Q => zs = [.ref fa, .non] ∧ ∃ (F G : Hp) (ι : List Addr) (es : S) (σ' : L2.St) (y : V) (ds ks : List D) (d : D), xs = [y] ∧ Ok X.K F G ι H es.ρ σ' es.st ∧ Rep X.K G ι y (.lst ds) ∧ keysO Fn f es.st ds = some ks ∧ keysOkM ks = true ∧
      (match ds, ks with
        | x :: xs, k :: ks => (minP (x, k) (xs.zip ks)).1
        | _, _ => .non) = d ∧ After X.K F G ι es.ρ σ' es.st d Q) := by
    rintro pins s σ H xs zs us ws Q I r rz ⟨rfl, F, G, ι, es, σ', y, ds, ks, d, rfl, ok, rr, h1, h2, hd, kk⟩
    cases rr with
    | @lst l vs0 _ e1 e2 =>
    obtain rfl := Vals.ref1 r
    obtain ⟨w1, w2, rfl, z1, z2⟩ := vals2 rz
    obtain rfl : w1 = Value.ref fa := z1
    obtain rfl : w2 = Value.none := z2
    obtain ⟨h3, h4⟩ := keysO_of h1
    have hlv := e2.length
    have eb : ((vs0.zip (ds.zip ks)).map (·.1)) = vs0 := List.map_fst_zip (by rw [List.length_zip]; omega)
    have e0 : (vs0.zip (ds.zip ks)).map (·.2) = ds.zip ks := List.map_snd_zip (by rw [List.length_zip]; omega)
    have ek : ((vs0.zip (ds.zip ks)).map fun b => b.2.2) = ks := by
      have q2 := congrArg (fun l => l.map (·.2)) e0
      rw [List.map_map] at q2
      exact q2.trans (List.map_snd_zip (by omega))
    have hmem : ∀ b ∈ vs0.zip (ds.zip ks), Rep X.K G ι b.1 b.2.1 ∧ Fn f [b.2.1] es.st = some (b.2.2, es.st) := fun b hbm => by
      obtain ⟨i, hi⟩ := List.mem_iff_getElem?.mp hbm
      rw [List.getElem?_zip_eq_some] at hi
      obtain ⟨i1, i2⟩ := hi
      have i2' : (ds.zip ks)[i]? = some (b.2.1, b.2.2) := i2
      rw [List.getElem?_zip_eq_some] at i2'
      obtain ⟨kd, j1, j2⟩ := h4 i _ i2'.1
      rw [i2'.2] at j1
      cases j1
      obtain ⟨v', j3, j4⟩ := e2.get i2'.1
      rw [i1] at j3
      cases j3
      exact ⟨j4, j2⟩
    refine minK_call (bs := vs0.zip (ds.zip ks)) C hr hb hmem (by rw [eb]; exact e1) (by rw [ek]; exact h2) I ok (fun z s2 H2 G2 ι2 a1 a2 a3 => ?_) fun p rest z u2 s2 H2 G2 ι2 a1 a2 a3 a4 => ?_
    · have : d = .non := by
        rw [z] at e0
        have e00 : ds.zip ks = [] := e0.symm
        cases ds with
        | nil => exact hd.symm
        | cons x xs =>
          cases ks with
          | nil => exact hd.symm
          | cons => simp at e00
      subst this
      exact ⟨.non, H2, a1, rfl, kk _ _ G2 ι2 a2 a3 .non⟩
    · have hd2 : (rest.foldl stepM p).2.1 = d := by
        rw [z] at e0
        cases ds with
        | nil => simp at e0
        | cons x xs =>
          cases ks with
          | nil => simp at e0
          | cons k ks =>
            have e00 : p.2 = (x, k) ∧ rest.map (·.2) = xs.zip ks := by simpa using e0
            have q := minP_map rest p
            rw [e00.1, e00.2] at q
            rw [q]
            exact hd
      have hin : rest.foldl stepM p ∈ vs0.zip (ds.zip ks) := by
        rw [z]
        rcases step_mem rest p with q | q
        · rw [q]; exact List.mem_cons_self
        · exact List.mem_cons_of_mem _ q
      refine ⟨_, H2, a1, a4, kk _ _ G2 ι2 a2 a3 ?_⟩
      have := (hmem _ hin).1.ext a3
      rw [hd2] at this
      exact this
  have st := star_cons hs [] X.env
  refine (pe_callBK hc hg hm (by rfl) (pa_cons ha pa_nil st) (pk_cons (nm := some "key") (pe_glob (v := .ref fa) hgx hmx rfl hdx) (pk_cons (nm := some "default") pe_non pk_nil)) (by decide) (by decide) (by rw [st]; rfl) (by rw [st]; rfl) (by rfl) (by rfl) (by rfl)).weak fun σ H Q ⟨F, G, ι, s, d, s', ok, ev, k⟩ => ?_
  simp only [evE, Option.bind_eq_some_iff, Prod.exists] at ev
  obtain ⟨y, s1, e1, e2⟩ := ev
  split at e2
  · cases e2
    exact ⟨F, G, ι, s, _, _, ok, e1, fun v H1 G1 ι1 ok1 x1 r1 => ⟨rfl, F, G1, ι1, _, σ, v, [], [], _, rfl, ok1, r1, rfl, rfl, rfl, k.ext x1⟩⟩
  · rename_i x xs
    rw [Option.bind_eq_some_iff] at e2
    obtain ⟨ks, e3, e4⟩ := e2
    split at e4
    · rename_i k0 ks0
      split at e4
      · rename_i hk
        cases e4
        exact ⟨F, G, ι, s, _, _, ok, e1, fun v H1 G1 ι1 ok1 x1 r1 => ⟨rfl, F, G1, ι1, _, σ, v, x :: xs, k0 :: ks0, _, rfl, ok1, r1, e3, hk, rfl, k.ext x1⟩⟩
      · cases e4
    · cases e4
  · cases e2
end
end Ev

-- EvS
set_option autoImplicit true
set_option Elab.async false
set_option linter.all false
set_option maxRecDepth 100000
set_option maxHeartbeats 4000000
set_option autoImplicit false
/-! EvS: statements. -/
namespace Ev
open PySem PySem.Spec PyProof.Rows L2

/-- what is wanted behind a statement -/
def AfterS (K : PySem.W.Frag) (fr : Bool) (F G : Hp) (ι : List Addr) (fl : Fl) (s : S) (D : Ends) : Prop := ∀ σ H G' ι', Ext G ι G' ι' → match fl with
  | .nx => Ok K F G' ι' H s.ρ σ s.st → D.nx σ H
  | .brk => Ok K F G' ι' H s.ρ σ s.st → D.bk σ H
  | .cnt => Ok K F G' ι' H s.ρ σ s.st → D.ct σ H
  | .ret d => ∀ v, Ok K F G' ι' H [] [] s.st → (if fr = true then NewRoot K F G' ι' H [] [] v d else Rep K G' ι' v d) → D.rt v H
def tS (Fn : Ev.Fn) (K : PySem.W.Frag) (fr : Bool) (is : IS) : TS := fun D σ H => ∃ F G ι s fl s', Ok K F G ι H s.ρ σ s.st ∧ evS Fn is s = some (fl, s') ∧ AfterS K fr F G ι fl s' D
def tSs (Fn : Ev.Fn) (K : PySem.W.Frag) (fr : Bool) (is : ISs) : TS := fun D σ H => ∃ F G ι s fl s', Ok K F G ι H s.ρ σ s.st ∧ evSs Fn is s = some (fl, s') ∧ AfterS K fr F G ι fl s' D
section
variable {K : PySem.W.Frag} {F G G1 H : Hp} {ι ι1 : List Addr} {fl : Fl} {s : S} {E : Ends} {fr : Bool}
theorem AfterS.ext (k : AfterS K fr F G ι fl s E) (x : Ext G ι G1 ι1) : AfterS K fr F G1 ι1 fl s E := fun σ H G' ι' x' => k σ H G' ι' (x.trans x')
theorem NewRoot.forget {ρ : List Sl} {σ : L2.St} {v : V} {d : D} (h : NewRoot K F G ι H ρ σ v d) : NewRoot K F G ι H [] [] v d := by
  rcases h with ⟨h1, a, h2, h3, h4⟩ | h
  · exact .inl ⟨h1, a, h2, h3.forget, h4⟩
  · exact .inr h
end
section
variable {X : Cx} {Fn : Ev.Fn} {e : Expr} {ie : IE} {fr : Bool} {pos : Pos}
/-! ### suites -/
theorem pSs_nil : PSs X [] (tSs Fn X.K fr .nil) :=
  pss_nil.weak fun D σ H ⟨F, G, ι, s, fl, s', ok, ev, k⟩ => by
    cases ev
    exact k σ H G ι (Ext.refl _ _) ok
theorem pSs_cons {st : Stmt} {sts : List Stmt} {i : IS} {is : ISs} (h1 : PS X st (tS Fn X.K fr i)) (h2 : PSs X sts (tSs Fn X.K fr is)) : PSs X (st :: sts) (tSs Fn X.K fr (.cons i is)) :=
  (pss_cons h1 h2).weak fun D σ H ⟨F, G, ι, s, fl, s', ok, ev, k⟩ => by
    simp only [evSs, Option.bind_eq_some_iff, Prod.exists] at ev
    obtain ⟨f1, s1, e1, e2⟩ := ev
    refine ⟨F, G, ι, s, f1, s1, ok, e1, fun σ1 H1 G1 ι1 x1 => ?_⟩
    cases f1 with
    | nx => exact fun ok1 => ⟨F, G1, ι1, s1, fl, s', ok1, e2, k.ext x1⟩
    | brk => cases e2; exact k σ1 H1 G1 ι1 x1
    | cnt => cases e2; exact k σ1 H1 G1 ι1 x1
    | ret d => cases e2; exact k σ1 H1 G1 ι1 x1
/-! ### simple statements -/
theorem pS_expr (he : PE X e (tV Fn X.K ie)) (hs : swapsWith e none pos.line X.env = pure false) : PS X (.Expr e pos) (tS Fn X.K fr (.expr ie)) :=
  (ps_expr he hs).weak fun D σ H ⟨F, G, ι, s, fl, s', ok, ev, k⟩ => by
    simp only [evS, Option.map_eq_some_iff, Prod.exists, Prod.mk.injEq] at ev
    obtain ⟨d, s1, e1, e2, e3⟩ := ev
    subst e2 e3
    exact ⟨F, G, ι, s, d, s1, ok, e1, fun v H1 G1 ι1 ok1 x1 _ => k σ H1 G1 ι1 x1 ok1⟩
theorem pS_doc {x : Str} {j : Nat} {p2 : Pos} : PS X (.Expr (.Constant (.str x) j p2) pos) (tS Fn X.K fr .nop) :=
  ps_doc.weak fun D σ H ⟨F, G, ι, s, fl, s', ok, ev, k⟩ => by
    cases ev
    exact k σ H G ι (Ext.refl _ _) ok
theorem pS_pass : PS X (.Pass pos) (tS Fn X.K fr .nop) :=
  ps_pass.weak fun D σ H ⟨F, G, ι, s, fl, s', ok, ev, k⟩ => by
    cases ev
    exact k σ H G ι (Ext.refl _ _) ok
theorem pS_brk : PS X (.Break pos) (tS Fn X.K fr .brk) :=
  ps_break.weak fun D σ H ⟨F, G, ι, s, fl, s', ok, ev, k⟩ => by
    cases ev
    exact k σ H G ι (Ext.refl _ _) ok
theorem pS_cnt : PS X (.Continue pos) (tS Fn X.K fr .cnt) :=
  ps_continue.weak fun D σ H ⟨F, G, ι, s, fl, s', ok, ev, k⟩ => by
    cases ev
    exact k σ H G ι (Ext.refl _ _) ok
theorem pS_ret (he : PE X e (tV Fn X.K ie)) : PS X (.Return (some e) pos) (tS Fn X.K false (.ret ie)) :=
  (ps_ret he).weak fun D σ H ⟨F, G, ι, s, fl, s', ok, ev, k⟩ => by
    simp only [evS, Option.map_eq_some_iff, Prod.exists, Prod.mk.injEq] at ev
    obtain ⟨d, s1, e1, e2, e3⟩ := ev
    subst e2 e3
    exact ⟨F, G, ι, s, d, s1, ok, e1, fun v H1 G1 ι1 ok1 x1 r1 => k σ H1 G1 ι1 x1 v ok1.forget r1⟩
theorem pS_retF (he : PE X e (tN Fn X.K ie)) : PS X (.Return (some e) pos) (tS Fn X.K true (.ret ie)) :=
  (ps_ret he).weak fun D σ H ⟨F, G, ι, s, fl, s', ok, ev, k⟩ => by
    simp only [evS, Option.map_eq_some_iff, Prod.exists, Prod.mk.injEq] at ev
    obtain ⟨d, s1, e1, e2, e3⟩ := ev
    subst e2 e3
    exact ⟨F, G, ι, s, d, s1, ok, e1, fun v H1 G1 ι1 ok1 x1 r1 => k σ H1 G1 ι1 x1 v ok1.forget (NewRoot.forget r1)⟩
theorem pS_retN : PS X (.Return none pos) (tS Fn X.K fr (.ret (.cst .non))) :=
  ps_retN.weak fun D σ H ⟨F, G, ι, s, fl, s', ok, ev, k⟩ => by
    simp only [evS, evE, Option.map_some, Option.some.injEq, Prod.mk.injEq] at ev
    obtain ⟨e1, e2⟩ := ev
    subst e1 e2
    refine k σ H G ι (Ext.refl _ _) .non ok.forget ?_
    cases fr with
    | true => exact .inr ⟨rfl, .non⟩
    | false => exact .non
theorem pS_retO {i : Nat} {x : Str} {p2 : Pos} (hN : X.N[i]? = some x) (hv : Vis X.env.scope x) (hd : (x == ("__debug__" : Str)) = false) (hcd : (x == ("__classdict__" : Str)) = false) : PS X (.Return (some (.Name x p2)) pos) (tS Fn X.K true (.retO i)) :=
  (ps_ret (pe_var hN hv hd hcd)).weak fun D σ H ⟨F, G, ι, s, fl, s', ok, ev, k⟩ => by
    simp only [evS] at ev
    split at ev
    · rename_i d q
      cases ev
      obtain ⟨a, e1, g, hi, f, w⟩ := ok.slots i _ q
      exact ⟨.ref a, e1, k σ H G ι (Ext.refl _ _) _ ok.forget (.inl ⟨w.box, a, rfl, ⟨g, hi, f, fun i d q => by simp at q⟩, w⟩)⟩
    · cases ev
/-! ### name = e -/
section
variable {i : Nat} {x : Str} {p2 : Pos}
theorem pS_setV (hN : X.N.Nodup) (hi : X.N[i]? = some x) (hx : Loc X.env.scope x) (hf : X.fn x = true ∨ X.env.scope.names.lookup x = some .local) (he : PE X e (tV Fn X.K ie)) (hs : swapsWith e (some (.Name x p2)) pos.line X.env = pure false) :
    PS X (.Assign [.Name x p2] e pos) (tS Fn X.K fr (.setV i ie)) :=
  (ps_set hN hi hx he hs hf).weak fun D σ H ⟨F, G, ι, s, fl, s', ok, ev, k⟩ => by
    simp only [evS, Option.bind_eq_some_iff, Prod.exists] at ev
    obtain ⟨d, s1, e1, e2⟩ := ev
    split at e2
    · cases e2
      exact ⟨F, G, ι, s, d, s1, ok, e1, fun v H1 G1 ι1 ok1 x1 r1 => k _ H1 G1 ι1 x1 (ok1.setV r1)⟩
    · cases e2
theorem pS_setO (hN : X.N.Nodup) (hi : X.N[i]? = some x) (hx : Loc X.env.scope x) (hf : X.fn x = true ∨ X.env.scope.names.lookup x = some .local) (he : PE X e (tN Fn X.K ie)) (hs : swapsWith e (some (.Name x p2)) pos.line X.env = pure false) :
    PS X (.Assign [.Name x p2] e pos) (tS Fn X.K fr (.setO i ie)) :=
  (ps_set hN hi hx he hs hf).weak fun D σ H ⟨F, G, ι, s, fl, s', ok, ev, k⟩ => by
    simp only [evS, Option.bind_eq_some_iff, Prod.exists] at ev
    obtain ⟨d, s1, e1, e2⟩ := ev
    split at e2
    · cases e2
      refine ⟨F, G, ι, s, d, s1, ok, e1, fun v H1 G1 ι1 ok1 x1 r1 => k _ H1 G1 ι1 x1 ?_⟩
      rcases r1 with ⟨h1, a, h2, h3, h4⟩ | ⟨h1, h2⟩
      · subst h2
        unfold Ev.setO
        rw [if_pos h1]
        exact ok1.setO h3 h4
      · unfold Ev.setO
        rw [if_neg (by rw [h1]; exact Bool.false_ne_true)]
        exact ok1.setV h2
    · cases e2
theorem pS_setR (hN : X.N.Nodup) (hi : X.N[i]? = some x) (hx : Loc X.env.scope x) (hf : X.fn x = true ∨ X.env.scope.names.lookup x = some .local) (he : PE X e (tN Fn X.K ie)) (hs : swapsWith e (some (.Name x p2)) pos.line X.env = pure false) :
    PS X (.Assign [.Name x p2] e pos) (tS Fn X.K fr (.setR i ie)) :=
  (ps_set hN hi hx he hs hf).weak fun D σ H ⟨F, G, ι, s, fl, s', ok, ev, k⟩ => by
    simp only [evS, Option.bind_eq_some_iff, Prod.exists] at ev
    obtain ⟨d, s1, e1, e2⟩ := ev
    split at e2
    · rename_i hz
      simp only [Bool.and_eq_true, decide_eq_true_eq] at hz
      cases e2
      refine ⟨F, G, ι, s, d, s1, ok, e1, fun v H1 G1 ι1 ok1 x1 r1 => ?_⟩
      rcases r1 with ⟨h1, a, h2, h3, h4⟩ | ⟨h1, h2⟩
      · subst h2
        obtain ⟨ok2, x2⟩ := ok1.newCell h3 h4
        refine k _ H1 G1 _ (x1.trans x2) (ok2.setV (.ref ?_))
        rw [← ok1.len, List.getElem?_append_right (Nat.le_refl _), Nat.sub_self]; rfl
      · rw [hz.1] at h1; cases h1
    · cases e2
end
/-- (a, b, ..) = e -/
theorem pS_setT {tg : Expr} {is : List Nat} (hg : PG X tg (gT X.K (.many is))) (he : PE X e (tV Fn X.K ie)) (hs : swapsWithSole [tg] e pos.line X.env = pure false) (hw : swappedStores [tg] e X.env = pure none)
    (h1 : (assignEach [tg] X.env).map (·.2) = [assign tg X.env]) : PS X (.Assign [tg] e pos) (tS Fn X.K fr (.setT is ie)) :=
  (ps_asg he hg hs hw h1).weak fun D σ H ⟨F, G, ι, s, fl, s', ok, ev, k⟩ => by
    simp only [evS, Option.bind_eq_some_iff, Option.map_eq_some_iff, Prod.exists, Prod.mk.injEq] at ev
    obtain ⟨d, s1, e1, s2, e2, e3, e4⟩ := ev
    subst e3 e4
    exact ⟨F, G, ι, s, d, s1, ok, e1, fun v H1 G1 ι1 ok1 x1 r1 => ⟨F, G1, ι1, s1, d, s2, ok1, r1, e2, fun σ' ok' _ => k σ' H1 G1 ι1 x1 ok'⟩⟩
/-! ### if -/
theorem pS_ite {c : Expr} {ic : IE} {a b : List Stmt} {ia ib : ISs} (hc : PT X c (tT Fn X.K ic)) (ha : PSs X a (tSs Fn X.K fr ia)) (hb : PSs X b (tSs Fn X.K fr ib)) : PS X (.If c a b pos) (tS Fn X.K fr (.ite ic ia ib)) :=
  (ps_if hc ha hb).weak fun D σ H ⟨F, G, ι, s, fl, s', ok, ev, k⟩ => by
    simp only [evS, Option.bind_eq_some_iff, Prod.exists] at ev
    obtain ⟨d, s1, e1, e2⟩ := ev
    split at e2
    · exact ⟨F, G, ι, s, true, s1, ok, e1, fun H1 G1 ι1 ok1 x1 => by
        show tSs Fn X.K fr ia D σ H1
        exact ⟨F, G1, ι1, s1, fl, s', ok1, e2, k.ext x1⟩⟩
    · exact ⟨F, G, ι, s, false, s1, ok, e1, fun H1 G1 ι1 ok1 x1 => by
        show tSs Fn X.K fr ib D σ H1
        exact ⟨F, G1, ι1, s1, fl, s', ok1, e2, k.ext x1⟩⟩
    · cases e2
/-! ### loops -/
theorem foldO_stay {α : Type} {f : α → Fl × S → Option (Fl × S)} {l : List α} {fl : Fl} {s : S} {r : Fl × S} (hf : ∀ a, f a (fl, s) = some (fl, s)) (h : foldO f l (fl, s) = some r) : r = (fl, s) := by
  induction l with
  | nil => cases h; rfl
  | cons a l ih =>
    unfold foldO at h
    rw [hf a] at h
    exact ih h
theorem pS_loop {tg iter : Expr} {body : List Stmt} {ts : Tg} {sk : SK} {src : IEs} {ib : ISs} (hp : PassesOwn (model X.prog X.w) X.A X.env X.xe) (hc : X.calm = true) (hi : PI X tg iter (tSrc Fn X.K sk src)) (hg : PG X tg (gT X.K ts)) (hb : PSs X body (tSs Fn X.K fr ib))
    (hs : noSet iter = true) : PS X (.For tg iter body [] pos) (tS Fn X.K fr (.loop ts sk src ib)) :=
  (ps_for hp hc hi hg hb fun x => folded_of hs X.env x).weak fun D σ H ⟨F, G, ι, s, fl, s', ok, ev, k⟩ => by
    simp only [evS, Option.bind_eq_some_iff, Option.map_eq_some_iff, Prod.exists] at ev
    obtain ⟨ds, s1, e1, items, e2, fl2, s2, e3, e4⟩ := ev
    refine ⟨F, G, ι, s, ds, s1, items, ok, e1, e2, fun J H1 G1 ι1 ok1 x1 it => ?_⟩
    have stay : ∀ (fl : Fl) (s : S), fl ≠ .nx → ∀ a, loopF (fun s d => bindT s ts d) (fun s => evSs Fn ib s) a (fl, s) = some (fl, s) := fun fl s hn a => by
      cases fl <;> first | rfl | exact absurd rfl hn
    generalize hf : loopF (fun s d => bindT s ts d) (fun s => evSs Fn ib s) = f at e3 stay
    refine ⟨fun i m σ H => i + m = items.length ∧ ∃ G2 ι2 sC, Ext G1 ι1 G2 ι2 ∧ Ok X.K F G2 ι2 H sC.ρ σ sC.st ∧ foldO f (items.drop i) (.nx, sC) = some (fl2, s2), ?_, ?_⟩
    · exact ⟨items.length, by omega, G1, ι1, s1, Ext.refl _ _, ok1, by rw [List.drop_zero]; exact e3⟩
    · rintro i m σ2 H2 ⟨hm, G2, ι2, sC, x2, ok2, e6⟩
      have sm : Same G1 H2 := fun a o q => ok2.sub a o (x2.1 a o q)
      by_cases hlt : i < items.length
      · refine .inr ⟨it.go i H2 sm hlt, fun σ H => ∃ G2 ι2 sC, Ext G1 ι1 G2 ι2 ∧ Ok X.K F G2 ι2 H sC.ρ σ sC.st ∧ foldO f (items.drop (i + 1)) (.nx, sC) = some (fl2, s2), fun σ' H' n => ⟨m - 1, by omega, by omega, n⟩, fun x H3 y => ?_⟩
        obtain ⟨b', e7, e8⟩ := foldO_split e6 hlt
        obtain ⟨G3, ok3, x3, r3⟩ := ok2.yld it x2 y (List.getElem?_eq_getElem hlt)
        have e7' := e7
        rw [← hf] at e7
        simp only [loopF, Option.bind_eq_some_iff, Option.map_eq_some_iff, Prod.exists] at e7
        obtain ⟨sB, e9, f4, s4, e10, e11⟩ := e7
        refine ⟨F, G3, ι2, sC, items[i], sB, ok3, r3, e9, fun σ3 okB _ => ⟨F, G3, ι2, sB, f4, s4, okB, e10, fun σ5 H5 G5 ι5 x5 => ?_⟩⟩
        have x15 := x2.trans (x3.trans x5)
        cases f4 with
        | nx =>
          simp only at e11
          subst e11
          exact fun ok5 => ⟨G5, ι5, s4, x15, ok5, e8⟩
        | cnt =>
          simp only at e11
          subst e11
          exact fun ok5 => ⟨G5, ι5, s4, x15, ok5, e8⟩
        | brk =>
          simp only at e11
          subst e11
          have := foldO_stay (stay .brk s4 (by simp)) e8
          cases this
          cases e4
          exact fun ok5 => k σ5 H5 G5 ι5 (x1.trans x15) ok5
        | ret d =>
          simp only at e11
          subst e11
          have := foldO_stay (stay (.ret d) s4 (by simp)) e8
          cases this
          cases e4
          exact fun v ok5 r => k σ5 H5 G5 ι5 (x1.trans x15) v ok5 r
      · have e : i = items.length := by omega
        subst e
        rw [List.drop_length] at e6
        cases e6
        cases e4
        exact .inl ⟨it.stop H2 sm, k σ2 H2 G2 ι2 (x1.trans x2) ok2⟩
theorem whileO_split {β : Type} {f : β → Option (Bool × β)} {n : Nat} {b r : β} (h : whileO f n b = some r) : ∃ m p, n = m + 1 ∧ f b = some p ∧ if p.1 = true then whileO f m p.2 = some r else p.2 = r := by
  cases n with
  | zero => cases h
  | succ m =>
    unfold whileO at h
    rw [Option.bind_eq_some_iff] at h
    obtain ⟨p, h1, h2⟩ := h
    refine ⟨m, p, rfl, h1, ?_⟩
    split at h2
    · rename_i hp; rw [if_pos hp]; exact h2
    · rename_i hp; rw [if_neg hp]; cases h2; rfl
theorem pS_whl {c : Expr} {ic : IE} {body : List Stmt} {ib : ISs} (hp : PassesOwn (model X.prog X.w) X.A X.env X.xe) (hc : PT X c (tT Fn X.K ic)) (hb : PSs X body (tSs Fn X.K fr ib)) : PS X (.While c body [] pos) (tS Fn X.K fr (.whl ic ib)) :=
  (ps_while hp hc hb).weak fun D σ H ⟨F, G, ι, s, fl, s', ok, ev, k⟩ => by
    simp only [evS, Option.map_eq_some_iff, Prod.exists] at ev
    obtain ⟨fl2, s2, e3, e4⟩ := ev
    generalize hf : whlF (fun s => evE Fn ic s) (fun s => evSs Fn ib s) = f at e3
    refine ⟨fun m σ H => ∃ G2 ι2 sC, Ext G ι G2 ι2 ∧ Ok X.K F G2 ι2 H sC.ρ σ sC.st ∧ whileO f m (.nx, sC) = some (fl2, s2), ⟨fuelW, G, ι, s, Ext.refl _ _, ok, e3⟩, ?_⟩
    rintro m σ2 H2 ⟨G2, ι2, sC, x2, ok2, e6⟩
    obtain ⟨m', p, rfl, e7, e8⟩ := whileO_split e6
    have e7' := e7
    rw [← hf] at e7
    simp only [whlF, Option.bind_eq_some_iff, Prod.exists] at e7
    obtain ⟨d, s3, e9, e10⟩ := e7
    split at e10
    · refine ⟨F, G2, ι2, sC, true, s3, ok2, e9, fun H4 G4 ι4 ok4 x4 => ?_⟩
      simp only [Option.map_eq_some_iff, Prod.exists] at e10
      obtain ⟨f4, s4, e11, e12⟩ := e10
      show ∃ N : L2.St → Hp → Prop, _
      refine ⟨fun σ H => ∃ G2 ι2 sC, Ext G ι G2 ι2 ∧ Ok X.K F G2 ι2 H sC.ρ σ sC.st ∧ whileO f m' (.nx, sC) = some (fl2, s2), fun σ' H' n => ⟨m', Nat.lt_succ_self _, n⟩, F, G4, ι4, s3, f4, s4, ok4, e11, fun σ5 H5 G5 ι5 x5 => ?_⟩
      have x15 := x2.trans (x4.trans x5)
      subst e12
      cases f4 with
      | nx =>
        simp only [if_true] at e8
        exact fun ok5 => ⟨G5, ι5, s4, x15, ok5, e8⟩
      | cnt =>
        simp only [if_true] at e8
        exact fun ok5 => ⟨G5, ι5, s4, x15, ok5, e8⟩
      | brk =>
        simp only [Bool.false_eq_true, if_false, Prod.mk.injEq] at e8
        obtain ⟨e8, e8'⟩ := e8
        subst e8 e8'
        cases e4
        exact fun ok5 => k σ5 H5 G5 ι5 x15 ok5
      | ret d =>
        simp only [Bool.false_eq_true, if_false, Prod.mk.injEq] at e8
        obtain ⟨e8, e8'⟩ := e8
        subst e8 e8'
        cases e4
        exact fun v ok5 r => k σ5 H5 G5 ι5 x15 v ok5 r
    · cases e10
      simp only [Bool.false_eq_true, if_false, Prod.mk.injEq] at e8
      obtain ⟨e8, e8'⟩ := e8
      subst e8 e8'
      cases e4
      refine ⟨F, G2, ι2, sC, false, _, ok2, e9, fun H4 G4 ι4 ok4 x4 => ?_⟩
      exact k σ2 H4 G4 ι4 (x2.trans x4) ok4
    · cases e10
end
end Ev

-- EvU
set_option autoImplicit true
set_option Elab.async false
set_option linter.all false
set_option maxRecDepth 100000
set_option maxHeartbeats 4000000
set_option autoImplicit false
/-! EvU: x[k] = e, x = [comprehension], d.setdefault. -/
namespace Ev
open PySem PySem.Spec PyProof.Rows L2

theorem pset_or {X : Cx} {t t' : TSet} (h : PSet X t) (h' : PSet X t') : PSet X (fun o i v H Q => t o i v H Q ∨ t' o i v H Q) :=
  fun pins s σ H o i v ov iv u Q I ro ri rv q => q.elim (h pins s σ H o i v ov iv u Q I ro ri rv) (h' pins s σ H o i v ov iv u Q I ro ri rv)
theorem storeD_own {K : PySem.W.Frag} {G H : Hp} {ι : List Addr} {a : Addr} {c y x d : D} {vk v : V} {Q : Hp → Prop} (w : OwnAt K G ι H a c) (ry : Rep K G ι vk y) (rx : Rep K G ι v x) (e : storeD c y x = some d)
    (k : ∀ o, OwnAt K G ι (upd H a o) a d → Q (upd H a o)) : rSetL (.ref a) vk v H Q ∨ rSetD (.ref a) vk v H Q := by
  cases c with
  | lst xs =>
    cases y <;> simp only [storeD, reduceCtorEq, Option.map_eq_some_iff] at e
    obtain ⟨j, h1, h2⟩ := e
    subst h2
    obtain ⟨ys, h3, h4⟩ := w
    cases ry
    exact .inl ⟨a, ys, _, j, rfl, rfl, h3, by rw [h4.length]; exact h1, k _ ⟨_, upd_same, h4.set j rx⟩⟩
  | dct kvs =>
    simp only [storeD] at e
    split at e
    · rename_i hz
      simp only [Bool.and_eq_true, decide_eq_true_eq] at hz
      cases e
      obtain ⟨kk, rfl⟩ := keyOk1_key hz.1
      obtain ⟨ys, h3, h4⟩ := w
      rw [ry.key]
      refine .inr ⟨a, _, rfl, DPut.k h3 (by rw [h4.length]; exact hz.2), k _ ⟨_, upd_same, h4.put kk rx⟩⟩
    · cases e
  | _ => simp only [storeD, reduceCtorEq] at e
section
variable {X : Cx} {Fn : Ev.Fn} {e b : Expr} {ie ib : IE} {fr : Bool} {pos : Pos}
theorem swSole_of {tg : Expr} (h : swapsWith e (some tg) pos.line X.env = pure false) : swapsWithSole [tg] e pos.line X.env = pure false := h
theorem pS_item (hu : X.A.units + 1 < cLine) {i : Nat} {x : Str} {p2 p3 : Pos} (hN : X.N[i]? = some x) (hv : Vis X.env.scope x) (hd : (x == ("__debug__" : Str)) = false) (hcd : (x == ("__classdict__" : Str)) = false) (he : PE X e (tV Fn X.K ie)) (hb : PE X b (tV Fn X.K ib)) (hsl : noSlice b = true)
    (hs : swapsWith e (some (.Subscript (.Name x p2) b p3)) pos.line X.env = pure false) (hw : swappedStores [.Subscript (.Name x p2) b p3] e X.env = pure none) :
    PS X (.Assign [.Subscript (.Name x p2) b p3] e pos) (tS Fn X.K fr (.item i ib ie)) :=
  (ps_asg he (pg_sub (pe_var hN hv hd hcd) hb (pset_or set_list (set_dict hu)) (by intro v; cases b <;> first | rfl | (simp [noSlice] at hsl))) hs hw (by cases b <;> first | rfl | (simp [noSlice] at hsl))).weak fun D σ H ⟨F, G, ι, s, fl, s', ok, ev, k⟩ => by
    simp only [evS, Option.bind_eq_some_iff, Option.map_eq_some_iff, Prod.exists, Prod.mk.injEq] at ev
    obtain ⟨c0, e0, d, s1, e1, y, s2, e2, c, e3, d', e4, s3, e5, e6, e7⟩ := ev
    subst e6 e7
    refine ⟨F, G, ι, s, d, s1, ok, e1, fun v H1 G1 ι1 ok1 x1 r1 => ?_⟩
    have hbx : isBox c = true := by cases c <;> first | rfl | (simp only [storeD, reduceCtorEq] at e4)
    obtain ⟨vv, hvv, _⟩ := ok.peek e0
    refine ⟨vv, hvv, F, G1, ι1, s1, y, s2, ok1, e2, fun vk H2 G2 ι2 ok2 x2 r2 => ?_⟩
    obtain ⟨a, h4, w, wr⟩ := ok2.poke e3 hbx e5
    rw [hvv] at h4; cases h4
    exact storeD_own w r2 (r1.ext x2) e4 fun o w' => k σ _ G2 ι2 (x1.trans x2) (wr o w')
/-- name = [..] on one line, the name a local of the def alone -/
theorem pS_setLc (hc : X.calm = true) (hN : X.N.Nodup) {i : Nat} {y : Str} {py : Pos} {elt tg iter : Expr} {ifs : List Expr} {scope : Scope} {own : List (Str × Nat)} {p2 : Pos} {ts : Tg} {k : SK} {src iifs : IEs} {ielt : IE} (hy : X.N[i]? = some y) (hyl : X.env.scope.names.lookup y = some .local)
    (hsw : swapsWith (.ListComp elt [⟨tg, iter, ifs, 0⟩] scope p2) (some (.Name y py)) pos.line X.env = pure true) (hi : PI X tg iter (tSrc Fn X.K k src)) (ok : BlkOk X.N X.env.scope scope own) (ho : own.map (·.2) = ts.slots)
    (hg : ∀ (s : Shared) (H : Hp) (C : Addr) (cl : List (Str × Addr)) (fp : List Addr), PG (X.blk s H scope (compEnvC scope cl C X.env) fp) tg (gT X.K ts)) (ht : ∀ (s : Shared) (H : Hp) (C : Addr) (cl : List (Str × Addr)) (fp : List Addr), PTs (X.blk s H scope (compEnvC scope cl C X.env) fp) ifs (tIfs Fn X.K iifs))
    (he : ∀ (s : Shared) (H : Hp) (C : Addr) (cl : List (Str × Addr)) (fp : List Addr), PE (X.blk s H scope (compEnvC scope cl C X.env) fp) elt (tV Fn X.K ielt)) (hs : noSet iter = true) :
    PS X (.Assign [.Name y py] (.ListComp elt [⟨tg, iter, ifs, 0⟩] scope p2) pos) (tAsg (tN Fn X.K (.comp ts k src iifs ielt)) (gName i)) :=
  (ps_setLc hc hN hy hyl hsw hi ok hg ht he fun x => folded_of hs X.env x).weak fun D σ H h => by
    show tLc _ _ _ _ (own.map (·.2)) σ H _
    rw [ho]
    exact lc_step h
end
/-- what an assignment of a new thing to a slot is -/
theorem asg_setV {Fn : Ev.Fn} {K : PySem.W.Frag} {fr : Bool} {i : Nat} {ie : IE} {D : Ends} {σ : L2.St} {H : Hp} (h : tS Fn K fr (.setV i ie) D σ H) : tAsg (tV Fn K ie) (gName i) D σ H := by
  obtain ⟨F, G, ι, s, fl, s', ok, ev, k⟩ := h
  simp only [evS, Option.bind_eq_some_iff, Prod.exists] at ev
  obtain ⟨d, s1, e1, e2⟩ := ev
  split at e2
  · cases e2
    exact ⟨F, G, ι, s, d, s1, ok, e1, fun v H1 G1 ι1 ok1 x1 r1 => k _ H1 G1 ι1 x1 (ok1.setV r1)⟩
  · cases e2
theorem asg_setO {Fn : Ev.Fn} {K : PySem.W.Frag} {fr : Bool} {i : Nat} {ie : IE} {D : Ends} {σ : L2.St} {H : Hp} (h : tS Fn K fr (.setO i ie) D σ H) : tAsg (tN Fn K ie) (gName i) D σ H := by
  obtain ⟨F, G, ι, s, fl, s', ok, ev, k⟩ := h
  simp only [evS, Option.bind_eq_some_iff, Prod.exists] at ev
  obtain ⟨d, s1, e1, e2⟩ := ev
  split at e2
  · cases e2
    refine ⟨F, G, ι, s, d, s1, ok, e1, fun v H1 G1 ι1 ok1 x1 r1 => k _ H1 G1 ι1 x1 ?_⟩
    rcases r1 with ⟨h1, a, h2, h3, h4⟩ | ⟨h1, h2⟩
    · subst h2
      unfold Ev.setO
      rw [if_pos h1]
      exact ok1.setO h3 h4
    · unfold Ev.setO
      rw [if_neg (by rw [h1]; exact Bool.false_ne_true)]
      exact ok1.setV h2
  · cases e2
theorem asg_setR {Fn : Ev.Fn} {K : PySem.W.Frag} {fr : Bool} {i : Nat} {ie : IE} {D : Ends} {σ : L2.St} {H : Hp} (h : tS Fn K fr (.setR i ie) D σ H) : tAsg (tN Fn K ie) (gName i) D σ H := by
  obtain ⟨F, G, ι, s, fl, s', ok, ev, k⟩ := h
  simp only [evS, Option.bind_eq_some_iff, Prod.exists] at ev
  obtain ⟨d, s1, e1, e2⟩ := ev
  split at e2
  · rename_i hz
    simp only [Bool.and_eq_true, decide_eq_true_eq] at hz
    cases e2
    refine ⟨F, G, ι, s, d, s1, ok, e1, fun v H1 G1 ι1 ok1 x1 r1 => ?_⟩
    rcases r1 with ⟨h1, a, h2, h3, h4⟩ | ⟨h1, h2⟩
    · subst h2
      obtain ⟨ok2, x2⟩ := ok1.newCell h3 h4
      refine k _ H1 G1 _ (x1.trans x2) (ok2.setV (.ref ?_))
      rw [← ok1.len, List.getElem?_append_right (Nat.le_refl _), Nat.sub_self]; rfl
    · rw [hz.1] at h1; cases h1
  · cases e2
/-- .. for a list comprehension that the evaluator takes as a value -/
theorem asgN_V {Fn : Ev.Fn} {K : PySem.W.Frag} {i : Nat} {ie : IE} {D : Ends} {σ : L2.St} {H : Hp} (h : tAsg (tV Fn K ie) (gName i) D σ H) : tAsg (tN Fn K ie) (gName i) D σ H := tN_tV h
end Ev

-- EvK
set_option autoImplicit true
set_option Elab.async false
set_option linter.all false
set_option maxRecDepth 100000
set_option maxHeartbeats 4000000
set_option autoImplicit false
/-! EvK: which expression of the model's an IR expression stands for: a check, and its soundness. -/
namespace Ev
open PySem PySem.Spec PyProof.Rows L2

structure TC where
  N : List Str
  sc : Scope
  wr : Scope
  fns : List (Str × Bool)
  free : List Str
  con : List (Str × Str)
def vis (c : TC) (x : Str) : Bool := match c.sc.names.lookup x with
  | some .local => true
  | some .cell => true
  | some .free => true
  | _ => false
def nodb (x : Str) : Bool := !(x == ("__debug__" : Str)) && !(x == ("__classdict__" : Str)) && !decide (x = ("__name__" : Str))
def okN (c : TC) (i : Nat) (x : Str) : Bool := decide (c.N[i]? = some x) && vis c x && nodb x
def sto (c : TC) (x : Str) : Bool := match c.wr.names.lookup x with
  | some .local => true
  | some .cell => true
  | _ => false
def glb (c : TC) (x : Str) : Bool := match c.sc.names.lookup x with
  | some .globalImplicit => true
  | _ => false
def fre (c : TC) (x : Str) : Bool := glb c x && c.free.any fun y => decide (y = x)
/-- what is written as a constant -/
def chkC (c : TC) : D → Expr → Bool
  | .int i, .Constant (.int j) _ _ => decide (i = j)
  | .bl i, .Constant (.bool j) _ _ => decide (i = j)
  | .non, .Constant .none _ _ => true
  | .str i, .Constant (.str j) _ _ => decide (i = j)
  | .str i, .Name x _ => glb c x && nodb x && c.con.any fun p => decide (p = (x, i))
  | _, _ => false
def relab (scope sc : Scope) : Scope := { scope with names := scope.names.map fun (n, k) => if (k == .free && sc.kind == .function && sc.names.lookup n == some .cell) then (n, .cell) else (n, k) }
def TC.blk (c : TC) (scope : Scope) : TC := { c with sc := relab scope c.sc, wr := scope }
def srcOf (c : TC) : SK → Expr → Expr → Option (List Expr)
  | .seq, iter, _ => if noSet iter then some [iter] else none
  | .range1, .Call (.Name x _) [a] [] _, _ => if decide (x = ("range" : Str)) && fre c x && noStar a then some [a] else none
  | .range2, .Call (.Name x _) [a, b] [] _, _ => if decide (x = ("range" : Str)) && fre c x && noStar a && noStar b then some [a, b] else none
  | .enum, .Call (.Name x _) [a] [] _, .Tuple _ _ _ => if decide (x = ("enumerate" : Str)) && fre c x && noStar a then some [a] else none
  | .zip, .Call (.Name x _) [a, b] [] _, .Tuple _ _ _ => if decide (x = ("zip" : Str)) && fre c x && noStar a && noStar b then some [a, b] else none
  | _, _, _ => none
def chkTg1 (c : TC) (i : Nat) : Expr → Bool
  | .Name x _ => decide (c.N[i]? = some x) && sto c x
  | _ => false
def chkTgs (c : TC) : List Nat → List Expr → Bool
  | [], [] => true
  | i :: is, e :: es => chkTg1 c i e && chkTgs c is es
  | _, _ => false
def chkTg (c : TC) : Tg → Expr → Bool
  | .one i, e => chkTg1 c i e
  | .many is, .Tuple es _ _ => chkTgs c is es
  | _, _ => false
def ownOf (c : TC) (ts : Tg) : List (Str × Nat) := ts.slots.map fun i => (c.N.getD i "", i)
/-- a built-in of one argument, by its name -/
def bltName : Blt → Option String
  | .len => some "len"
  | .max1 => some "max"
  | .min1 => some "min"
  | .all => some "all"
  | .any => some "any"
  | .sum => some "sum"
  | _ => none
def tyNm (x : Str) (t : Ty) : Bool := decide (x = Str.ofString (tyN t)) && decide (t ≠ .none)
def mutName : MM → Option String
  | .append => some "append"
  | .pop0 => some "pop"
  | .pop1 => some "pop"
  | .insert => some "insert"
  | .reverse => some "reverse"
  | .extend => some "extend"
  | .setdefault => none
def mut0 : MM → Bool
  | .pop0 => true
  | .reverse => true
  | _ => false
def boRest (op : BoolOp) (y : Expr) (r : List Expr) (p : Pos) : Expr := match r with
  | [] => y
  | _ => .BoolOp op (y :: r) p
mutual
def chk : IE → Bool → TC → Expr → Bool
  | .var i, n, c, e => !n && match e with
    | .Name x _ => okN c i x
    | _ => false
  | .cst d, _, c, e => !isBox d && chkC c d e
  | .tup es, n, c, e => !n && match e with
    | .Tuple xs _ _ => chks es c xs
    | _ => false
  | .lst es, _, c, e => match e with
    | .List xs _ => chks es c xs
    | _ => false
  | .dct0, _, _, e => match e with
    | .Dict [] [] _ => true
    | _ => false
  | .bin o a b, n, c, e => match e with
    | .BinOp x op y _ => decide (boOf op = some o) && (!n || decide (op = .Add)) && chk a false c x && chk b false c y
    | _ => false
  | .un o a, n, c, e => !n && match o, e with
    | .neg, .UnaryOp .USub x _ => chk a false c x
    | .inv, .UnaryOp .Invert x _ => chk a false c x
    | _, _ => false
  | .cmp o a b, n, c, e => !n && match e with
    | .Compare x [op] [y] _ => decide (coOf op = o) && noSet y && chk a false c x && chk b false c y
    | _ => false
  | .cmpV o a i, n, c, e => !n && match e with
    | .Compare x [op] [.Name y _] _ => decide (coOf op = o) && (decide (op = .In) || decide (op = .NotIn)) && okN c i y && chk a false c x
    | _ => false
  | .cmp2 o o' a b d, n, c, e => !n && match e with
    | .Compare x [op, op'] [y, z] _ => decide (coOf op = o) && decide (coOf op' = o') && noSet z && chk a false c x && chk b false c y && chk d false c z
    | _ => false
  | .land a b, n, c, e => !n && match e with
    | .BoolOp .And (x :: y :: r) p => chk a false c x && chk b false c (boRest .And y r p)
    | _ => false
  | .lor a b, n, c, e => !n && match e with
    | .BoolOp .Or (x :: y :: r) p => chk a false c x && chk b false c (boRest .Or y r p)
    | _ => false
  | .lnot a, n, c, e => !n && match e with
    | .UnaryOp .Not x _ => chk a false c x
    | _ => false
  | .ite t a b, n, c, e => !n && match e with
    | .IfExp z x y _ => chkT t c z && chk a false c x && chk b false c y
    | _ => false
  | .truth _, _, _, _ => false
  | .truthV _, _, _, _ => false
  | .idx a i, n, c, e => !n && match e with
    | .Subscript x y _ => noSlice y && chk a false c x && chk i false c y
    | _ => false
  | .idxV i k, n, c, e => !n && match e with
    | .Subscript (.Name x _) y _ => noSlice y && okN c i x && chk k false c y
    | _ => false
  | .slc a lo hi, n, c, e => !n && match e with
    | .Subscript x (.Slice l h none _) _ => chk a false c x && chkP lo c l && chkP hi c h
    | _ => false
  | .rev a, _, c, e => match e with
    | .Subscript x (.Slice none none (some (.UnaryOp .USub (.Constant (.int 1) _ _) _)) _) _ => chk a false c x
    | _ => false
  | .call f es, n, c, e => match e with
    | .Call (.Name x _) xs [] _ => glb c x && nodb x && (match c.fns[f]? with
        | some (y, fr) => decide (y = x) && (!n || fr)
        | none => false) && chks es c xs
    | _ => false
  | .blt b a, n, c, e => match b, e with
    | .isi [t], .Call (.Name x _) [y, .Name z _] [] _ => !n && decide (x = ("isinstance" : Str)) && fre c x && tyNm z t && fre c z && noStar y && chk a false c y
    | .isi [t, u], .Call (.Name x _) [y, .Tuple [.Name z _, .Name w _] _ _] [] _ => !n && decide (x = ("isinstance" : Str)) && fre c x && tyNm z t && fre c z && tyNm w u && fre c w && noStar y && chk a false c y
    | .join sep, .Call (.Attribute (.Constant (.str s) _ _) m ap) [y] [] p => !n && decide (s = sep) && decide (m = ("join" : Str)) && (ap.endLine == p.line) && noStar y && chk a false c y
    | .sortedSet, .Call (.Name x _) [.Call (.Name z _) [y] [] _] [] _ => decide (x = ("sorted" : Str)) && fre c x && decide (z = ("set" : Str)) && fre c z && noStar y && chk a false c y
    | b, .Call (.Name x _) [y] [] _ => fre c x && noStar y && (match b with
        | .tuple => !n && decide (x = ("tuple" : Str))
        | .list => decide (x = ("list" : Str))
        | .dict => decide (x = ("dict" : Str))
        | .int => !n && decide (x = ("int" : Str))
        | .sorted => decide (x = ("sorted" : Str))
        | .sortedSet => false
        | _ => !n && match bltName b with
          | some z => decide (x = Str.ofString z)
          | none => false) && chk a false c y
    | _, _ => false
  | .bltV b i, n, c, e => match b, e with
    | .isi [t], .Call (.Name x _) [.Name y _, .Name z _] [] _ => !n && decide (x = ("isinstance" : Str)) && fre c x && tyNm z t && fre c z && okN c i y
    | b, .Call (.Name x _) [.Name y _] [] _ => fre c x && okN c i y && (match b with
        | .tuple => !n && decide (x = ("tuple" : Str))
        | .list => decide (x = ("list" : Str))
        | .dict => decide (x = ("dict" : Str))
        | .sorted => decide (x = ("sorted" : Str))
        | _ => !n && match bltName b with
          | some z => decide (x = Str.ofString z)
          | none => false)
    | _, _ => false
  | .bltB b a a', n, c, e => !n && match e with
    | .Call (.Name x _) [y, z] [] _ => fre c x && noStar y && noStar z && (match b with
        | .max2 => decide (x = ("max" : Str))
        | .min2 => decide (x = ("min" : Str))
        | _ => false) && chk a false c y && chk a' false c z
    | _ => false
  | .sortK f a, _, c, e => match e with
    | .Call (.Name z _) [y] [⟨some kn, .Name x _, _⟩] _ => decide (z = ("sorted" : Str)) && fre c z && decide (kn = ("key" : Str)) && glb c x && nodb x && noStar y && (match c.fns[f]? with
        | some (w, _) => decide (w = x)
        | none => false) && chk a false c y
    | _ => false
  | .minKD f a, n, c, e => !n && match e with
    | .Call (.Name z _) [y] [⟨some kn, .Name x _, _⟩, ⟨some dn, .Constant .none _ _, _⟩] _ => decide (z = ("min" : Str)) && fre c z && decide (kn = ("key" : Str)) && decide (dn = ("default" : Str)) && glb c x && nodb x && noStar y && (match c.fns[f]? with
        | some (w, _) => decide (w = x)
        | none => false) && chk a false c y
    | _ => false
  | .mutV m i es, n, c, e => !n && match e with
    | .Call (.Attribute (.Name y _) nm ap) xs [] p => okN c i y && (ap.endLine == p.line) && (match mutName m with
        | some z => decide (nm = Str.ofString z)
        | none => false) && decide (xs.length < 10) && (xs.isEmpty == mut0 m) && chks es c xs
    | _ => false
  | .comp ts k src ifs elt, _, c, e => match e with
    | .ListComp el [⟨tg, iter, fs, 0⟩] scope _ => (match srcOf c k iter tg with
        | some xs => chks src c xs
        | none => false) && noSet iter && blkC c.N c.sc scope (ownOf c ts) && chkTg (c.blk scope) ts tg && chkIfs ifs (c.blk scope) fs && chk elt false (c.blk scope) el
    | _ => false
  | .comp2 ts k src ts' k' src' elt, _, c, e => match e with
    | .ListComp el [⟨tg, iter, [], 0⟩, ⟨tg', iter', [], 0⟩] scope _ => (match srcOf c k iter tg with
        | some xs => chks src c xs
        | none => false) && (match srcOf (c.blk scope) k' iter' tg' with
        | some xs => chks src' (c.blk scope) xs
        | none => false) && noSet iter && noSet iter' && blkC c.N c.sc scope (ownOf c ts ++ ownOf c ts') && chkTg (c.blk scope) ts tg && chkTg (c.blk scope) ts' tg' && chk elt false (c.blk scope) el
    | _ => false
  | .dcomp ts k src ek ev, _, c, e => match e with
    | .DictComp kx vx [⟨tg, iter, [], 0⟩] scope _ => (match srcOf c k iter tg with
        | some xs => chks src c xs
        | none => false) && noSet iter && blkC c.N c.sc scope (ownOf c ts) && chkTg (c.blk scope) ts tg && chk ek false (c.blk scope) kx && chk ev false (c.blk scope) vx
    | _ => false
  | .nb a, _, c, e => chk a false c e
  | .compV ts i ifs elt, _, c, e => match e with
    | .ListComp el [⟨tg, .Name y _, fs, 0⟩] scope _ => okN c i y && blkC c.N c.sc scope (ownOf c ts) && chkTg (c.blk scope) ts tg && chkIfs ifs (c.blk scope) fs && chk elt false (c.blk scope) el
    | _ => false
  | .setd i a b, n, c, e => !n && match e with
    | .Call (.Attribute (.Name y _) nm ap) [u, v] [] p => okN c i y && decide (nm = ("setdefault" : Str)) && (ap.endLine == p.line) && noStar u && noStar v && chk a false c u && chk b false c v
    | _ => false
def chks : IEs → TC → List Expr → Bool
  | .nil, _, xs => match xs with
    | [] => true
    | _ => false
  | .cons a r, c, xs => match xs with
    | x :: ys => noStar x && chk a false c x && chks r c ys
    | [] => false
def chkT : IE → TC → Expr → Bool
  | .cmp o a b, c, e => match e with
    | .Compare x [op] [y] _ => decide (coOf op = o) && noSet y && chk a false c x && chk b false c y
    | _ => false
  | .cmpV o a i, c, e => match e with
    | .Compare x [op] [.Name y _] _ => decide (coOf op = o) && (decide (op = .In) || decide (op = .NotIn)) && okN c i y && chk a false c x
    | _ => false
  | .cmp2 o o' a b d, c, e => match e with
    | .Compare x [op, op'] [y, z] _ => decide (coOf op = o) && decide (coOf op' = o') && noSet z && chk a false c x && chk b false c y && chk d false c z
    | _ => false
  | .land a b, c, e => match e with
    | .BoolOp .And (x :: y :: r) p => chkT a c x && chkT b c (boRest .And y r p)
    | _ => false
  | .lor a b, c, e => match e with
    | .BoolOp .Or (x :: y :: r) p => chkT a c x && chkT b c (boRest .Or y r p)
    | _ => false
  | .lnot a, c, e => match e with
    | .UnaryOp .Not x _ => chkT a c x
    | _ => false
  | .truth a, c, e => plainT e && chk a false c e
  | .truthV i, c, e => match e with
    | .Name x _ => okN c i x
    | _ => false
  | _, _, _ => false
/-- a part of a slice -/
def chkP : IE → TC → Option Expr → Bool
  | .cst .non, _, none => true
  | .un .part a, c, some e => chk a false c e
  | _, _, _ => false
def chkIfs : IEs → TC → List Expr → Bool
  | .nil, _, xs => match xs with
    | [] => true
    | _ => false
  | .cons a .nil, c, xs => match xs with
    | [x] => chkT a c x
    | _ => false
  | _, _, _ => false
end
end Ev

-- EvG
set_option autoImplicit true
set_option Elab.async false
set_option linter.all false
set_option maxRecDepth 100000
set_option maxHeartbeats 4000000
set_option autoImplicit false
/-! EvG: the check of expressions is sound. -/
namespace Ev
open PySem PySem.Spec PyProof.Rows L2

structure Good (Fn : Ev.Fn) (k : Nat) (c : TC) (X : Cx) : Prop where
  hN : X.N = c.N
  nd : X.N.Nodup
  sc : X.env.scope = c.sc
  calm : X.calm = true
  room : Room (k + 2) X.A
  sto : ∀ x, sto c x = true → Loc X.env.scope x ∧ (X.fn x = true ∨ X.env.scope.names.lookup x = some .local)
  fns : ∀ f x fr, c.fns[f]? = some (x, fr) → ∃ fa fd ps, FnOk X.prog X.w X.K X.mg X.base CXn k fa fd ps (spD X.K Fn f fr) ∧ X.mg x = some (.ref fa) ∧ PySem.W.keepIn X.K (.ref fa) = true ∧ Binds X.K fd ps []
  free : ∀ x ∈ c.free, X.mg x = none
  con : ∀ p ∈ c.con, ∃ u, X.mg p.1 = some u ∧ RelV (.str p.2) u
section
variable {Fn : Ev.Fn} {k : Nat} {c : TC} {X : Cx}
theorem vis_ok (g : Good Fn k c X) {x : Str} (h : vis c x = true) : Vis X.env.scope x := by
  unfold vis at h
  rw [← g.sc] at h
  unfold Vis
  split at h
  · exact .inl (by assumption)
  · exact .inr (.inl (by assumption))
  · exact .inr (.inr (by assumption))
  · cases h
theorem nodb_ok {x : Str} (h : nodb x = true) : (x == ("__debug__" : Str)) = false ∧ (x == ("__classdict__" : Str)) = false ∧ x ≠ "__name__" := by
  unfold nodb at h
  simp only [Bool.and_eq_true, Bool.not_eq_true', decide_eq_false_iff_not] at h
  exact ⟨h.1.1, h.1.2, h.2⟩
theorem okN_ok (g : Good Fn k c X) {i : Nat} {x : Str} (h : okN c i x = true) : X.N[i]? = some x ∧ Vis X.env.scope x ∧ (x == ("__debug__" : Str)) = false ∧ (x == ("__classdict__" : Str)) = false := by
  unfold okN at h
  simp only [Bool.and_eq_true, decide_eq_true_eq] at h
  obtain ⟨⟨h1, h2⟩, h3⟩ := h
  rw [g.hN]
  exact ⟨h1, vis_ok g h2, (nodb_ok h3).1, (nodb_ok h3).2.1⟩
theorem glb_ok (g : Good Fn k c X) {x : Str} (h : glb c x = true) : Gl X x := by
  unfold glb at h
  rw [← g.sc] at h
  split at h
  · assumption
  · cases h
theorem fre_ok (g : Good Fn k c X) {x : Str} (h : fre c x = true) : Gl X x ∧ X.mg x = none := by
  unfold fre at h
  simp only [Bool.and_eq_true, List.any_eq_true, decide_eq_true_eq] at h
  obtain ⟨h1, y, h2, rfl⟩ := h
  exact ⟨glb_ok g h1, g.free _ h2⟩
theorem lookup_relab {sc : Scope} : ∀ {names : List (Str × NameKind)} {x : Str} {kd : NameKind}, kd ≠ .free → names.lookup x = some kd →
    (names.map fun (n, k) => if (k == NameKind.free && sc.kind == .function && sc.names.lookup n == some .cell) then (n, NameKind.cell) else (n, k)).lookup x = some kd := @lookup_relS_keep sc
/-- within a comprehension's block -/
theorem Good.blk (g : Good Fn k c X) (scope : Scope) (s : Shared) (H : Hp) (C : Addr) (cl : List (Str × Addr)) (fp : List Addr) : Good Fn k (c.blk scope) (X.blk s H scope (compEnvC scope cl C X.env) fp) where
  hN := g.hN
  nd := g.nd
  sc := by
    show relabel scope X.env = relab scope c.sc
    rw [← g.sc]
    rfl
  calm := g.calm
  room := g.room
  sto := fun x h => by
    unfold Ev.sto at h
    split at h
    · rename_i e
      have e' : scope.names.lookup x = some .local := e
      have q : (relabel scope X.env).names.lookup x = some .local := lookup_relab (by simp) e'
      exact ⟨.inl q, .inr q⟩
    · rename_i e
      have e' : scope.names.lookup x = some .cell := e
      have q : (relabel scope X.env).names.lookup x = some .cell := lookup_relab (by simp) e'
      refine ⟨.inr q, .inl ?_⟩
      show (scope.names.lookup x == some .cell) = true
      rw [e']
      rfl
    · cases h
  fns := g.fns
  free := g.free
  con := g.con
theorem chkC_ok (g : Good Fn k c X) {d : D} {e : Expr} (hb : isBox d = false) (h : chkC c d e = true) : PE X e (tV Fn X.K (.cst d)) := by
  unfold chkC at h
  split at h
  · rw [of_decide_eq_true h]; exact pD_int
  · rw [of_decide_eq_true h]; exact pD_bl
  · exact pD_non
  · rw [of_decide_eq_true h]; exact pD_str
  · simp only [Bool.and_eq_true, List.any_eq_true, decide_eq_true_eq] at h
    obtain ⟨⟨h1, h2⟩, p, h3, rfl⟩ := h
    obtain ⟨u, h4, h5⟩ := g.con _ h3
    exact pD_glob (glb_ok g h1) h4 h5 (nodb_ok h2).1
  · cases h
theorem chkTg1_ok (g : Good Fn k c X) {i : Nat} {e : Expr} (h : chkTg1 c i e = true) : TgN X e i := by
  unfold chkTg1 at h
  split at h
  · simp only [Bool.and_eq_true, decide_eq_true_eq] at h
    obtain ⟨h1, h2⟩ := g.sto _ h.2
    exact ⟨_, _, rfl, by rw [g.hN]; exact h.1, h1, h2⟩
  · cases h
theorem chkTgs_ok (g : Good Fn k c X) : ∀ {is : List Nat} {es : List Expr}, chkTgs c is es = true → Paired (TgN X) es is
  | [], [], _ => .nil
  | i :: is, e :: es, h => by
    unfold chkTgs at h
    simp only [Bool.and_eq_true] at h
    exact .cons (chkTg1_ok g h.1) (chkTgs_ok g h.2)
  | [], _ :: _, h => by cases h
  | _ :: _, [], h => by cases h
theorem chkTg_ok (g : Good Fn k c X) {ts : Tg} {e : Expr} (h : chkTg c ts e = true) : PG X e (gT X.K ts) := by
  unfold chkTg at h
  split at h
  · obtain ⟨x, p, rfl, h1, h2, h3⟩ := (chkTg1_ok g h).ex
    exact pgT_one g.nd h1 h2 h3
  · exact pgT_many g.calm g.nd (chkTgs_ok g h)
  · cases h
theorem ownOf_slots (c : TC) (ts : Tg) : (ownOf c ts).map (·.2) = ts.slots := by
  unfold ownOf
  rw [List.map_map]
  exact List.map_id _
theorem srcOf_ok (g : Good Fn k c X) {sk : SK} {iter tg : Expr} {xs : List Expr} {src : IEs} (h : srcOf c sk iter tg = some xs) (hA : PA X xs (tVs Fn X.K src)) (h1 : ∀ x, xs = [x] → ∃ ie, src = .cons ie .nil ∧ PE X x (tV Fn X.K ie)) : PI X tg iter (tSrc Fn X.K sk src) := by
  unfold srcOf at h
  split at h
  · split at h
    · cases h
      obtain ⟨ie, rfl, q⟩ := h1 _ rfl
      exact pi_seqD q
    · cases h
  · split at h
    · rename_i hz
      simp only [Bool.and_eq_true, decide_eq_true_eq] at hz
      cases h
      obtain ⟨⟨rfl, hf⟩, hs⟩ := hz
      obtain ⟨q1, q2⟩ := fre_ok g hf
      exact pi_range1D q1 q2 hA (star_cons hs [] X.env)
    · cases h
  · split at h
    · rename_i hz
      simp only [Bool.and_eq_true, decide_eq_true_eq] at hz
      cases h
      obtain ⟨⟨⟨rfl, hf⟩, hs⟩, hs2⟩ := hz
      obtain ⟨q1, q2⟩ := fre_ok g hf
      exact pi_range2D q1 q2 hA (by rw [star_cons hs [_] X.env, star_cons hs2 [] X.env]; rfl) (star_cons hs2 [] X.env)
    · cases h
  · split at h
    · rename_i hz
      simp only [Bool.and_eq_true, decide_eq_true_eq] at hz
      cases h
      obtain ⟨⟨rfl, hf⟩, hs⟩ := hz
      obtain ⟨q1, q2⟩ := fre_ok g hf
      exact pi_enumD q1 q2 hA (star_cons hs [] X.env)
    · cases h
  · split at h
    · rename_i hz
      simp only [Bool.and_eq_true, decide_eq_true_eq] at hz
      cases h
      obtain ⟨⟨⟨rfl, hf⟩, hs⟩, hs2⟩ := hz
      obtain ⟨q1, q2⟩ := fre_ok g hf
      exact pi_zipD q1 q2 hA (star_cons hs [_] X.env) (star_any (es := [_]) (by simp [hs2]) _ X.env)
    · cases h
  · cases h
theorem chks_star {src : IEs} : ∀ {xs : List Expr}, chks src c xs = true → xs.all noStar = true := by
  induction src using IEs.rec (motive_1 := fun _ => True) (motive_3 := fun _ => True) with
  | nil =>
    intro xs h
    unfold chks at h
    cases xs with
    | nil => rfl
    | cons => cases h
  | cons a r _ ih =>
    intro xs h
    unfold chks at h
    cases xs with
    | nil => cases h
    | cons x ys =>
      simp only [Bool.and_eq_true] at h
      rw [List.all_cons, h.1.1, ih h.2]
      rfl
  | _ => trivial
end
end Ev

-- EvH
set_option autoImplicit true
set_option Elab.async false
set_option linter.all false
set_option maxRecDepth 100000
set_option maxHeartbeats 4000000
set_option autoImplicit false
/-! EvH: the check of expressions is sound: the induction. -/
namespace Ev
open PySem PySem.Spec PyProof.Rows L2

/-- the reading by the mode -/
def tM (Fn : Ev.Fn) (K : PySem.W.Frag) (n : Bool) (ie : IE) : TE := if n = true then tN Fn K ie else tV Fn K ie
section
variable {Fn : Ev.Fn} {k : Nat}
theorem tM_N {X : Cx} {e : Expr} {ie : IE} (n : Bool) (h : PE X e (tN Fn X.K ie)) : PE X e (tM Fn X.K n ie) := by
  cases n with
  | true => exact h
  | false => exact h.asV
theorem tM_V {X : Cx} {e : Expr} {ie : IE} {n : Bool} (hn : n = false) (h : PE X e (tV Fn X.K ie)) : PE X e (tM Fn X.K n ie) := by
  subst hn
  exact h
theorem boRest_pe {X : Cx} {op : BoolOp} {y : Expr} {r : List Expr} {p : Pos} {t : TE} (h : PE X (boRest op y r p) t) : PE X (.BoolOp op (y :: r) p) t := by
  cases r with
  | nil => exact pe_one h
  | cons => exact h
theorem mutR_ok {X : Cx} {m : MM} {z : String} (hz : mutName m = some z) : ∃ id r, m ≠ .setdefault ∧ Slot "list" (Str.ofString z) id ∧ typeOf (.builtin id) = pure (.type "method_descriptor") ∧ MtR X id r ∧ MutOk X m r := by
  cases m <;> simp only [mutName, Option.some.injEq, reduceCtorEq] at hz <;> subst hz
  · exact ⟨_, _, by decide, PySem.F.slot_list_append, PySem.F.type_list_append, mt_append, mut_append⟩
  · exact ⟨_, _, by decide, PySem.F.slot_list_pop, PySem.F.type_list_pop, mt_pop, mut_pop⟩
  · exact ⟨_, _, by decide, PySem.F.slot_list_pop, PySem.F.type_list_pop, mt_popAt, mut_pop1⟩
  · exact ⟨_, _, by decide, PySem.F.slot_list_insert, PySem.F.type_list_insert, mt_insert, mut_insert⟩
  · exact ⟨_, _, by decide, PySem.F.slot_list_reverse, PySem.F.type_list_reverse, mt_reverse, mut_reverse⟩
  · exact ⟨_, _, by decide, PySem.F.slot_list_extend, PySem.F.type_list_extend, mt_extend, mut_extend⟩
theorem bltR_ok {X : Cx} (hc : X.calm = true) {b : Blt} {z : String} (hz : bltName b = some z) : ∃ id, bootBuiltins (Str.ofString z) = some (.builtin id) ∧ CallR X (.builtin id) (rK X.K (blt1 b)) ∧ Str.ofString z ≠ "__name__" ∧ (Str.ofString z == ("__debug__" : Str)) = false := by
  cases b <;> simp only [bltName, Option.some.injEq, reduceCtorEq] at hz <;> subst hz
  · exact ⟨_, rfl, cD_len, by decide, by decide⟩
  · exact ⟨_, rfl, cD_max1 hc, by decide, by decide⟩
  · exact ⟨_, rfl, cD_min1 hc, by decide, by decide⟩
  · exact ⟨_, rfl, cD_all hc, by decide, by decide⟩
  · exact ⟨_, rfl, cD_any hc, by decide, by decide⟩
  · exact ⟨_, rfl, cD_sum hc, by decide, by decide⟩
theorem tyNm_ok {x : Str} {t : Ty} (h : tyNm x t = true) : TyName x t := by
  unfold tyNm at h
  simp only [Bool.and_eq_true, decide_eq_true_eq] at h
  obtain ⟨rfl, h2⟩ := h
  cases t <;> first | exact ⟨rfl, by decide, by decide, by decide⟩ | exact absurd rfl h2

theorem not_true {n : Bool} (h : (!n) = true) : n = false := by simpa using h
theorem boRest_pw {X : Cx} {y : Expr} {r : List Expr} {p : Pos} {t : TT} (h : PT X (boRest .And y r p) t ∧ ∀ op es p', boRest .And y r p = .BoolOp op es p' → PW X (boRest .And y r p) t) : PW X (.BoolOp .And (y :: r) p) t := by
  cases r with
  | nil => exact pw_and1 h.1
  | cons => exact h.2 _ _ _ rfl
theorem boRest_pwO {X : Cx} {y : Expr} {r : List Expr} {p : Pos} {t : TT} (h : PT X (boRest .Or y r p) t ∧ ∀ op es p', boRest .Or y r p = .BoolOp op es p' → PW X (boRest .Or y r p) t) : PW X (.BoolOp .Or (y :: r) p) t := by
  cases r with
  | nil => exact pw_or1 h.1
  | cons => exact h.2 _ _ _ rfl
theorem two_star {x y : Expr} (h : noStar x = true) (h' : noStar y = true) : [x, y].all noStar = true := by
  show (noStar x && (noStar y && true)) = true
  rw [h, h']
  rfl
theorem cl_of {c : TC} {X : Cx} {xs : List Expr} {es : IEs} {f : Nat} {fa : Addr} {fd : FuncData} {ps : List Str} {x : Str} {fr : Bool} {p pos : Pos} (g : Good Fn k c X) (hA : PA X xs (tVs Fn X.K es)) (h : chks es c xs = true)
    (F : FnOk X.prog X.w X.K X.mg X.base CXn k fa fd ps (spD X.K Fn f fr)) (m : X.mg x = some (.ref fa)) (kp : PySem.W.keepIn X.K (.ref fa) = true) (b : Binds X.K fd ps []) (hg : Gl X x) (hd : (x == ("__debug__" : Str)) = false) :
    PE X (.Call (.Name x p) xs [] pos) (tCl Fn X.K fr (.call f es)) := by
  cases xs with
  | nil =>
    cases es with
    | nil => exact pCl_call0 F (g.room.mono (Nat.le_add_right k 2)) hg m kp b hd
    | cons => unfold chks at h; cases h
  | cons y ys => exact pCl_call F (g.room.mono (Nat.le_add_right k 2)) hg m kp b hA hd (chks_star h)
theorem mut_of {c : TC} {X : Cx} {xs : List Expr} {es : IEs} {mt : MM} {name : Str} {id : String} {r : V → List V → Hp → VK → Prop} {i : Nat} {y : Str} {p apos pos : Pos} (hA : PA X xs (tVs Fn X.K es)) (h : chks es c xs = true)
    (h0 : mt ≠ .setdefault) (slot : Slot "list" name id) (hty : typeOf (.builtin id) = pure (.type "method_descriptor")) (hm : MtR X id r) (hr : MutOk X mt r) (hN : X.N[i]? = some y) (hy : Vis X.env.scope y) (hd : (y == ("__debug__" : Str)) = false) (hcd : (y == ("__classdict__" : Str)) = false)
    (hl : (apos.endLine == pos.line) = true) (hfew : xs.length < 10) : PE X (.Call (.Attribute (.Name y p) name apos) xs [] pos) (tV Fn X.K (.mutV mt i es)) := by
  cases xs with
  | nil =>
    cases es with
    | nil => exact pD_mut0 h0 slot hty hm hr hN hy hd hcd hl
    | cons => unfold chks at h; cases h
  | cons x xs => exact pD_mut h0 slot hty hm hr hN hy hd hcd hA hl (chks_star h) (by simp at hfew; omega)
mutual
theorem chk_ok : ∀ (ie : IE) (n : Bool) (c : TC) (X : Cx) (e : Expr), Good Fn k c X → chk ie n c e = true → PE X e (tM Fn X.K n ie)
  | .var i, n, c, X, e, g, h => by
    unfold chk at h
    rw [Bool.and_eq_true] at h
    obtain ⟨hn, h⟩ := h
    refine tM_V (not_true hn) ?_
    split at h
    · obtain ⟨h1, h2, h3, h4⟩ := okN_ok g h
      exact pD_var h1 h2 h3 h4
    · cases h
  | .cst d, n, c, X, e, g, h => by
    unfold chk at h
    rw [Bool.and_eq_true, Bool.not_eq_true'] at h
    obtain ⟨hb, h⟩ := h
    have q := chkC_ok g hb h
    cases n with
    | false => exact q
    | true => exact asN q fun s d' s' ev => by cases ev; exact hb
  | .tup es, n, c, X, e, g, h => by
    unfold chk at h
    rw [Bool.and_eq_true] at h
    obtain ⟨hn, h⟩ := h
    refine tM_V (not_true hn) ?_
    split at h
    · exact pD_tup (chks_ok es c X _ g h).1
    · cases h
  | .lst es, n, c, X, e, g, h => by
    unfold chk at h
    refine tM_N n ?_
    split at h
    · exact pN_lst (chks_ok es c X _ g h).1
    · cases h
  | .dct0, n, c, X, e, g, h => by
    unfold chk at h
    refine tM_N n ?_
    split at h
    · exact pN_dct0
    · cases h
  | .bin o a b, n, c, X, e, g, h => by
    unfold chk at h
    split at h
    · simp only [Bool.and_eq_true, decide_eq_true_eq, Bool.or_eq_true] at h
      obtain ⟨⟨⟨ho, hn⟩, ha⟩, hb⟩ := h
      have qa := chk_ok a false c X _ g ha
      have qb := chk_ok b false c X _ g hb
      cases n with
      | false => exact pD_bin ho qa qb
      | true =>
        rcases hn with hn | hn
        · cases hn
        · subst hn
          cases ho
          exact pN_add qa qb
    · cases h
  | .un o a, n, c, X, e, g, h => by
    unfold chk at h
    rw [Bool.and_eq_true] at h
    obtain ⟨hn, h⟩ := h
    refine tM_V (not_true hn) ?_
    split at h
    · exact pD_neg (chk_ok a false c X _ g h)
    · exact pD_inv (chk_ok a false c X _ g h)
    · cases h
  | .cmp o a b, n, c, X, e, g, h => by
    unfold chk at h
    rw [Bool.and_eq_true] at h
    obtain ⟨hn, h⟩ := h
    refine tM_V (not_true hn) ?_
    split at h
    · simp only [Bool.and_eq_true, decide_eq_true_eq] at h
      obtain ⟨⟨⟨rfl, hs⟩, ha⟩, hb⟩ := h
      exact pD_cmp g.room.units hs (chk_ok a false c X _ g ha) (chk_ok b false c X _ g hb)
    · cases h
  | .cmpV o a i, n, c, X, e, g, h => by
    unfold chk at h
    rw [Bool.and_eq_true] at h
    obtain ⟨hn, h⟩ := h
    refine tM_V (not_true hn) ?_
    split at h
    · simp only [Bool.and_eq_true, Bool.or_eq_true, decide_eq_true_eq] at h
      obtain ⟨⟨⟨rfl, ho⟩, hi⟩, ha⟩ := h
      obtain ⟨h1, h2, h3, h4⟩ := okN_ok g hi
      exact pD_cmpV g.room.units ho h1 h2 h3 h4 (chk_ok a false c X _ g ha)
    · cases h
  | .cmp2 o o' a b d, n, c, X, e, g, h => by
    unfold chk at h
    rw [Bool.and_eq_true] at h
    obtain ⟨hn, h⟩ := h
    refine tM_V (not_true hn) ?_
    split at h
    · simp only [Bool.and_eq_true, decide_eq_true_eq] at h
      obtain ⟨⟨⟨⟨⟨rfl, rfl⟩, hs⟩, ha⟩, hb⟩, hd⟩ := h
      exact pD_cmp2 g.room.units hs (chk_ok a false c X _ g ha) (chk_ok b false c X _ g hb) (chk_ok d false c X _ g hd)
    · cases h
  | .land a b, n, c, X, e, g, h => by
    unfold chk at h
    rw [Bool.and_eq_true] at h
    obtain ⟨hn, h⟩ := h
    refine tM_V (not_true hn) ?_
    split at h
    · rw [Bool.and_eq_true] at h
      exact pD_and (chk_ok a false c X _ g h.1) (boRest_pe (chk_ok b false c X _ g h.2))
    · cases h
  | .lor a b, n, c, X, e, g, h => by
    unfold chk at h
    rw [Bool.and_eq_true] at h
    obtain ⟨hn, h⟩ := h
    refine tM_V (not_true hn) ?_
    split at h
    · rw [Bool.and_eq_true] at h
      exact pD_or (chk_ok a false c X _ g h.1) (boRest_pe (chk_ok b false c X _ g h.2))
    · cases h
  | .lnot a, n, c, X, e, g, h => by
    unfold chk at h
    rw [Bool.and_eq_true] at h
    obtain ⟨hn, h⟩ := h
    refine tM_V (not_true hn) ?_
    split at h
    · exact pD_not (chk_ok a false c X _ g h)
    · cases h
  | .ite t a b, n, c, X, e, g, h => by
    unfold chk at h
    rw [Bool.and_eq_true] at h
    obtain ⟨hn, h⟩ := h
    refine tM_V (not_true hn) ?_
    split at h
    · simp only [Bool.and_eq_true] at h
      exact pD_ite (chkT_ok t c X _ g h.1.1).1 (chk_ok a false c X _ g h.1.2) (chk_ok b false c X _ g h.2)
    · cases h
  | .truth _, _, _, _, _, _, h => by unfold chk at h; cases h
  | .truthV _, _, _, _, _, _, h => by unfold chk at h; cases h
  | .idx a i, n, c, X, e, g, h => by
    unfold chk at h
    rw [Bool.and_eq_true] at h
    obtain ⟨hn, h⟩ := h
    refine tM_V (not_true hn) ?_
    split at h
    · simp only [Bool.and_eq_true] at h
      exact pD_idx g.room.units h.1.1 (chk_ok a false c X _ g h.1.2) (chk_ok i false c X _ g h.2)
    · cases h
  | .idxV i a, n, c, X, e, g, h => by
    unfold chk at h
    rw [Bool.and_eq_true] at h
    obtain ⟨hn, h⟩ := h
    refine tM_V (not_true hn) ?_
    split at h
    · simp only [Bool.and_eq_true] at h
      obtain ⟨h1, h2, h3, h4⟩ := okN_ok g h.1.2
      exact pD_idxV g.room.units h.1.1 h1 h2 h3 h4 (chk_ok a false c X _ g h.2)
    · cases h
  | .slc a lo hi, n, c, X, e, g, h => by
    unfold chk at h
    rw [Bool.and_eq_true] at h
    obtain ⟨hn, h⟩ := h
    refine tM_V (not_true hn) ?_
    split at h
    · simp only [Bool.and_eq_true] at h
      exact pD_slc (chk_ok a false c X _ g h.1.1) (chkP_ok lo c X _ g h.1.2) (chkP_ok hi c X _ g h.2)
    · cases h
  | .rev a, n, c, X, e, g, h => by
    unfold chk at h
    refine tM_N n ?_
    split at h
    · exact pN_rev (chk_ok a false c X _ g h)
    · cases h
  | .call f es, n, c, X, e, g, h => by
    unfold chk at h
    split at h
    · simp only [Bool.and_eq_true] at h
      obtain ⟨⟨⟨h1, h2⟩, h3⟩, h4⟩ := h
      split at h3
      · rename_i y fr hf
        simp only [Bool.and_eq_true, Bool.or_eq_true, decide_eq_true_eq] at h3
        obtain ⟨rfl, hn⟩ := h3
        obtain ⟨fa, fd, ps, F, m, kp, b⟩ := g.fns _ _ _ hf
        have cl := fun p pos => cl_of (p := p) (pos := pos) g (chks_ok es c X _ g h4).1 h4 F m kp b (glb_ok g h1) (nodb_ok h2).1
        cases n with
        | false => exact clV (cl _ _)
        | true =>
          rcases hn with hn | hn
          · cases hn
          · subst hn; exact clN (cl _ _)
      · cases h3
    · cases h
  | .blt b a, n, c, X, e, g, h => by
    unfold chk at h
    split at h
    · simp only [Bool.and_eq_true, decide_eq_true_eq] at h
      obtain ⟨⟨⟨⟨⟨⟨hn, rfl⟩, h1⟩, h2⟩, h3⟩, h4⟩, h5⟩ := h
      refine tM_V (not_true hn) ?_
      obtain ⟨q1, q2⟩ := fre_ok g h1
      obtain ⟨q3, q4⟩ := fre_ok g h3
      exact pD_isi q1 q2 (tyNm_ok h2) q3 q4 (chk_ok a false c X _ g h5) h4
    · simp only [Bool.and_eq_true, decide_eq_true_eq] at h
      obtain ⟨⟨⟨⟨⟨⟨⟨⟨hn, rfl⟩, h1⟩, h2⟩, h3⟩, h6⟩, h7⟩, h4⟩, h5⟩ := h
      refine tM_V (not_true hn) ?_
      obtain ⟨q1, q2⟩ := fre_ok g h1
      obtain ⟨q3, q4⟩ := fre_ok g h3
      obtain ⟨q5, q6⟩ := fre_ok g h7
      exact pD_isi2 q1 q2 (tyNm_ok h2) q3 q4 (tyNm_ok h6) q5 q6 (chk_ok a false c X _ g h5) h4
    · simp only [Bool.and_eq_true, decide_eq_true_eq] at h
      obtain ⟨⟨⟨⟨⟨hn, rfl⟩, rfl⟩, h1⟩, h2⟩, h3⟩ := h
      refine tM_V (not_true hn) ?_
      exact pD_join (chk_ok a false c X _ g h3) h1 h2
    · simp only [Bool.and_eq_true, decide_eq_true_eq] at h
      obtain ⟨⟨⟨⟨⟨rfl, h1⟩, rfl⟩, h2⟩, h3⟩, h4⟩ := h
      obtain ⟨q1, q2⟩ := fre_ok g h1
      obtain ⟨q3, q4⟩ := fre_ok g h2
      exact tM_N n (pN_sset g.calm q1 q2 q3 q4 (chk_ok a false c X _ g h4) h3)
    · simp only [Bool.and_eq_true] at h
      obtain ⟨⟨⟨h1, h2⟩, h3⟩, h4⟩ := h
      obtain ⟨q1, q2⟩ := fre_ok g h1
      have q := chk_ok a false c X _ g h4
      split at h3
      · simp only [Bool.and_eq_true, decide_eq_true_eq] at h3
        obtain ⟨hn, rfl⟩ := h3
        exact tM_V (not_true hn) (pD_tuple q1 q2 q h2)
      · cases of_decide_eq_true h3
        exact tM_N n (pN_bltT (cD_listN g.calm) q1 q2 rfl q (by decide) (by decide) h2)
      · cases of_decide_eq_true h3
        exact tM_N n (pN_bltT cD_dictN q1 q2 rfl q (by decide) (by decide) h2)
      · simp only [Bool.and_eq_true, decide_eq_true_eq] at h3
        obtain ⟨hn, rfl⟩ := h3
        exact tM_V (not_true hn) (pD_bltT cD_int q1 q2 rfl q (by decide) (by decide) h2)
      · cases of_decide_eq_true h3
        exact tM_N n (pN_blt (cD_sorted g.calm) q1 q2 rfl q (by decide) (by decide) h2)
      · cases h3
      · rw [Bool.and_eq_true] at h3
        obtain ⟨hn, h3⟩ := h3
        split at h3
        · rename_i z hz
          cases of_decide_eq_true h3
          obtain ⟨id, r1, r2, r3, r4⟩ := bltR_ok g.calm hz
          exact tM_V (not_true hn) (pD_blt r2 q1 q2 r1 q r3 r4 h2)
        · cases h3
    · cases h
  | .bltV b i, n, c, X, e, g, h => by
    unfold chk at h
    split at h
    · simp only [Bool.and_eq_true, decide_eq_true_eq] at h
      obtain ⟨⟨⟨⟨⟨hn, rfl⟩, h1⟩, h2⟩, h3⟩, h4⟩ := h
      refine tM_V (not_true hn) ?_
      obtain ⟨q1, q2⟩ := fre_ok g h1
      obtain ⟨q3, q4⟩ := fre_ok g h3
      obtain ⟨r1, r2, r3, r4⟩ := okN_ok g h4
      exact pD_isiV q1 q2 (tyNm_ok h2) q3 q4 r1 r2 r3 r4
    · simp only [Bool.and_eq_true] at h
      obtain ⟨⟨h1, h2⟩, h3⟩ := h
      obtain ⟨q1, q2⟩ := fre_ok g h1
      obtain ⟨r1, r2, r3, r4⟩ := okN_ok g h2
      split at h3
      · simp only [Bool.and_eq_true, decide_eq_true_eq] at h3
        obtain ⟨hn, rfl⟩ := h3
        exact tM_V (not_true hn) (pD_tupleV q1 q2 r1 r2 r3 r4)
      · cases of_decide_eq_true h3
        exact tM_N n (pN_bltTV (cD_listN g.calm) q1 q2 rfl (by decide) (by decide) r1 r2 r3 r4)
      · cases of_decide_eq_true h3
        exact tM_N n (pN_bltTV cD_dictN q1 q2 rfl (by decide) (by decide) r1 r2 r3 r4)
      · cases of_decide_eq_true h3
        exact tM_N n (pN_bltVB (cD_sorted g.calm) q1 q2 rfl (by decide) (by decide) r1 r2 r3 r4)
      · rw [Bool.and_eq_true] at h3
        obtain ⟨hn, h3⟩ := h3
        split at h3
        · rename_i z hz
          cases of_decide_eq_true h3
          obtain ⟨id, s1, s2, s3, s4⟩ := bltR_ok g.calm hz
          exact tM_V (not_true hn) (pD_bltV s2 q1 q2 s1 s3 s4 r1 r2 r3 r4)
        · cases h3
    · cases h
  | .bltB b a a', n, c, X, e, g, h => by
    unfold chk at h
    rw [Bool.and_eq_true] at h
    obtain ⟨hn, h⟩ := h
    refine tM_V (not_true hn) ?_
    split at h
    · simp only [Bool.and_eq_true] at h
      obtain ⟨⟨⟨⟨⟨h1, h2⟩, h3⟩, h4⟩, h5⟩, h6⟩ := h
      obtain ⟨q1, q2⟩ := fre_ok g h1
      have qa := chk_ok a false c X _ g h5
      have qb := chk_ok a' false c X _ g h6
      have hs := two_star h2 h3
      split at h4
      · cases of_decide_eq_true h4
        exact pD_bltB (cD_max2 g.calm) q1 q2 rfl qa qb (by decide) (by decide) hs
      · cases of_decide_eq_true h4
        exact pD_bltB (cD_min2 g.calm) q1 q2 rfl qa qb (by decide) (by decide) hs
      · cases h4
    · cases h
  | .sortK f a, n, c, X, e, g, h => by
    unfold chk at h
    refine tM_N n ?_
    split at h
    · simp only [Bool.and_eq_true, decide_eq_true_eq] at h
      obtain ⟨⟨⟨⟨⟨⟨⟨rfl, h1⟩, rfl⟩, h2⟩, h3⟩, h4⟩, h5⟩, h6⟩ := h
      obtain ⟨q1, q2⟩ := fre_ok g h1
      split at h5
      · rename_i w fr hf
        cases of_decide_eq_true h5
        obtain ⟨fa, fd, ps, F, m, kp, b⟩ := g.fns _ _ _ hf
        exact pN_sortK F g.room b q1 q2 (glb_ok g h2) m (nodb_ok h3).1 (chk_ok a false c X _ g h6) h4
      · cases h5
    · cases h
  | .minKD f a, n, c, X, e, g, h => by
    unfold chk at h
    rw [Bool.and_eq_true] at h
    obtain ⟨hn, h⟩ := h
    refine tM_V (not_true hn) ?_
    split at h
    · simp only [Bool.and_eq_true, decide_eq_true_eq] at h
      obtain ⟨⟨⟨⟨⟨⟨⟨⟨rfl, h1⟩, rfl⟩, rfl⟩, h2⟩, h3⟩, h4⟩, h5⟩, h6⟩ := h
      obtain ⟨q1, q2⟩ := fre_ok g h1
      split at h5
      · rename_i w fr hf
        cases of_decide_eq_true h5
        obtain ⟨fa, fd, ps, F, m, kp, b⟩ := g.fns _ _ _ hf
        exact pD_minK F g.room b q1 q2 (glb_ok g h2) m (nodb_ok h3).1 (chk_ok a false c X _ g h6) h4
      · cases h5
    · cases h
  | .mutV m i es, n, c, X, e, g, h => by
    unfold chk at h
    rw [Bool.and_eq_true] at h
    obtain ⟨hn, h⟩ := h
    refine tM_V (not_true hn) ?_
    split at h
    · simp only [Bool.and_eq_true, decide_eq_true_eq] at h
      obtain ⟨⟨⟨⟨⟨h1, h2⟩, h3⟩, h4⟩, h5⟩, h6⟩ := h
      obtain ⟨r1, r2, r3, r4⟩ := okN_ok g h1
      split at h3
      · rename_i z hz
        cases of_decide_eq_true h3
        obtain ⟨id, r, s0, s1, s2, s3, s4⟩ := mutR_ok (X := X) hz
        exact mut_of (chks_ok es c X _ g h6).1 h6 s0 s1 s2 s3 s4 r1 r2 r3 r4 h2 h4
      · cases h3
    · cases h
  | .comp ts sk src ifs elt, n, c, X, e, g, h => by
    unfold chk at h
    refine tM_N n ?_
    split at h
    · simp only [Bool.and_eq_true] at h
      obtain ⟨⟨⟨⟨⟨h1, h2⟩, h3⟩, h4⟩, h5⟩, h6⟩ := h
      split at h1
      · rename_i xs hx
        obtain ⟨a1, a2⟩ := chks_ok src c X _ g h1
        have bo := blkOk_by h3
        rw [← g.hN, ← g.sc] at bo
        exact pN_lc g.calm g.nd (srcOf_ok g hx a1 a2) bo (ownOf_slots c ts) (fun s H C cl fp => chkTg_ok (g.blk _ s H C cl fp) h4) (fun s H C cl fp => chkIfs_ok ifs _ _ _ (g.blk _ s H C cl fp) h5)
          (fun s H C cl fp => chk_ok elt false _ _ _ (g.blk _ s H C cl fp) h6) h2
      · cases h1
    · cases h
  | .comp2 ts sk src ts' sk' src' elt, n, c, X, e, g, h => by
    unfold chk at h
    refine tM_N n ?_
    split at h
    · simp only [Bool.and_eq_true] at h
      obtain ⟨⟨⟨⟨⟨⟨⟨h1, h2⟩, h3⟩, h4⟩, h5⟩, h6⟩, h7⟩, h8⟩ := h
      split at h1
      · rename_i xs hx
        split at h2
        · rename_i xs' hx'
          obtain ⟨a1, a2⟩ := chks_ok src c X _ g h1
          have bo := blkOk_by h5
          rw [← g.hN, ← g.sc] at bo
          exact pN_lc2 g.calm g.nd (srcOf_ok g hx a1 a2) bo (by rw [List.map_append, ownOf_slots, ownOf_slots]) (fun s H C cl fp => chkTg_ok (g.blk _ s H C cl fp) h6)
            (fun s H C cl fp => srcOf_ok (g.blk _ s H C cl fp) hx' (chks_ok src' _ _ _ (g.blk _ s H C cl fp) h2).1 (chks_ok src' _ _ _ (g.blk _ s H C cl fp) h2).2)
            (fun s H C cl fp => chkTg_ok (g.blk _ s H C cl fp) h7) (fun s H C cl fp => chk_ok elt false _ _ _ (g.blk _ s H C cl fp) h8) h3 h4
        · cases h2
      · cases h1
    · cases h
  | .dcomp ts sk src ek ev, n, c, X, e, g, h => by
    unfold chk at h
    refine tM_N n ?_
    split at h
    · simp only [Bool.and_eq_true] at h
      obtain ⟨⟨⟨⟨⟨h1, h2⟩, h3⟩, h4⟩, h5⟩, h6⟩ := h
      split at h1
      · rename_i xs hx
        obtain ⟨a1, a2⟩ := chks_ok src c X _ g h1
        have bo := blkOk_by h3
        rw [← g.hN, ← g.sc] at bo
        exact pN_dc g.calm g.nd (srcOf_ok g hx a1 a2) bo (ownOf_slots c ts) (fun s H C cl fp => chkTg_ok (g.blk _ s H C cl fp) h4) (fun s H C cl fp => chk_ok ek false _ _ _ (g.blk _ s H C cl fp) h5)
          (fun s H C cl fp => chk_ok ev false _ _ _ (g.blk _ s H C cl fp) h6) h2
      · cases h1
    · cases h
  | .nb a, n, c, X, e, g, h => by
    unfold chk at h
    exact tM_N n (pN_nb (chk_ok a false c X _ g h))
  | .compV ts i ifs elt, n, c, X, e, g, h => by
    unfold chk at h
    refine tM_N n ?_
    split at h
    · simp only [Bool.and_eq_true] at h
      obtain ⟨⟨⟨⟨h1, h3⟩, h4⟩, h5⟩, h6⟩ := h
      obtain ⟨r1, r2, r3, r4⟩ := okN_ok g h1
      have bo := blkOk_by h3
      rw [← g.hN, ← g.sc] at bo
      exact pN_lcV g.calm g.nd r1 r2 r3 r4 bo (ownOf_slots c ts) (fun s H C cl fp => chkTg_ok (g.blk _ s H C cl fp) h4) (fun s H C cl fp => chkIfs_ok ifs _ _ _ (g.blk _ s H C cl fp) h5)
        (fun s H C cl fp => chk_ok elt false _ _ _ (g.blk _ s H C cl fp) h6)
    · cases h
  | .setd i a b, n, c, X, e, g, h => by
    unfold chk at h
    rw [Bool.and_eq_true] at h
    obtain ⟨hn, h⟩ := h
    refine tM_V (not_true hn) ?_
    split at h
    · simp only [Bool.and_eq_true, decide_eq_true_eq] at h
      obtain ⟨⟨⟨⟨⟨⟨h1, rfl⟩, h2⟩, h3⟩, h4⟩, h5⟩, h6⟩ := h
      obtain ⟨r1, r2, r3, r4⟩ := okN_ok g h1
      exact pD_setd r1 r2 r3 r4 (chk_ok a false c X _ g h5) (chk_ok b false c X _ g h6) h2 h3 h4
    · cases h
theorem chks_ok : ∀ (es : IEs) (c : TC) (X : Cx) (xs : List Expr), Good Fn k c X → chks es c xs = true → PA X xs (tVs Fn X.K es) ∧ ∀ x, xs = [x] → ∃ ie, es = .cons ie .nil ∧ PE X x (tV Fn X.K ie)
  | .nil, c, X, xs, g, h => by
    unfold chks at h
    cases xs with
    | nil => exact ⟨pA_nil, fun x z => by cases z⟩
    | cons => cases h
  | .cons a r, c, X, xs, g, h => by
    unfold chks at h
    cases xs with
    | nil => cases h
    | cons x ys =>
      simp only [Bool.and_eq_true] at h
      obtain ⟨⟨h1, h2⟩, h3⟩ := h
      have qa := chk_ok a false c X x g h2
      refine ⟨pA_cons qa (chks_ok r c X ys g h3).1 h1, fun x' z => ?_⟩
      cases z
      cases r with
      | nil => exact ⟨a, rfl, qa⟩
      | cons => unfold chks at h3; cases h3
theorem chkT_ok : ∀ (ie : IE) (c : TC) (X : Cx) (e : Expr), Good Fn k c X → chkT ie c e = true → PT X e (tT Fn X.K ie) ∧ ∀ op es p, e = .BoolOp op es p → PW X e (tT Fn X.K ie)
  | .cmp o a b, c, X, e, g, h => by
    unfold chkT at h
    split at h
    · simp only [Bool.and_eq_true, decide_eq_true_eq] at h
      obtain ⟨⟨⟨rfl, hs⟩, ha⟩, hb⟩ := h
      exact ⟨pT_cmp g.room.units hs (chk_ok a false c X _ g ha) (chk_ok b false c X _ g hb), fun _ _ _ z => by cases z⟩
    · cases h
  | .cmpV o a i, c, X, e, g, h => by
    unfold chkT at h
    split at h
    · simp only [Bool.and_eq_true, Bool.or_eq_true, decide_eq_true_eq] at h
      obtain ⟨⟨⟨rfl, ho⟩, hi⟩, ha⟩ := h
      obtain ⟨h1, h2, h3, h4⟩ := okN_ok g hi
      exact ⟨pT_cmpV g.room.units ho h1 h2 h3 h4 (chk_ok a false c X _ g ha), fun _ _ _ z => by cases z⟩
    · cases h
  | .cmp2 o o' a b d, c, X, e, g, h => by
    unfold chkT at h
    split at h
    · simp only [Bool.and_eq_true, decide_eq_true_eq] at h
      obtain ⟨⟨⟨⟨⟨rfl, rfl⟩, hs⟩, ha⟩, hb⟩, hd⟩ := h
      exact ⟨pT_cmp2 g.room.units hs (chk_ok a false c X _ g ha) (chk_ok b false c X _ g hb) (chk_ok d false c X _ g hd), fun _ _ _ z => by cases z⟩
    · cases h
  | .land a b, c, X, e, g, h => by
    unfold chkT at h
    split at h
    · rw [Bool.and_eq_true] at h
      have q := pT_and (chkT_ok a c X _ g h.1).1 (boRest_pw (chkT_ok b c X _ g h.2))
      exact ⟨q.pt, fun _ _ _ _ => q⟩
    · cases h
  | .lor a b, c, X, e, g, h => by
    unfold chkT at h
    split at h
    · rw [Bool.and_eq_true] at h
      have q := pT_or (chkT_ok a c X _ g h.1).1 (boRest_pwO (chkT_ok b c X _ g h.2))
      exact ⟨q.pt, fun _ _ _ _ => q⟩
    · cases h
  | .lnot a, c, X, e, g, h => by
    unfold chkT at h
    split at h
    · exact ⟨pT_not (chkT_ok a c X _ g h).1, fun _ _ _ z => by cases z⟩
    · cases h
  | .truth a, c, X, e, g, h => by
    unfold chkT at h
    rw [Bool.and_eq_true] at h
    refine ⟨pT_truth h.1 (chk_ok a false c X _ g h.2), fun _ _ _ z => ?_⟩
    subst z
    cases h.1
  | .truthV i, c, X, e, g, h => by
    unfold chkT at h
    split at h
    · obtain ⟨h1, h2, h3, h4⟩ := okN_ok g h
      exact ⟨pT_truthV h1 h2 h3 h4, fun _ _ _ z => by cases z⟩
    · cases h
  | .var _, _, _, _, _, h => by unfold chkT at h; cases h
  | .cst _, _, _, _, _, h => by unfold chkT at h; cases h
  | .tup _, _, _, _, _, h => by unfold chkT at h; cases h
  | .lst _, _, _, _, _, h => by unfold chkT at h; cases h
  | .dct0, _, _, _, _, h => by unfold chkT at h; cases h
  | .bin _ _ _, _, _, _, _, h => by unfold chkT at h; cases h
  | .un _ _, _, _, _, _, h => by unfold chkT at h; cases h
  | .ite _ _ _, _, _, _, _, h => by unfold chkT at h; cases h
  | .idx _ _, _, _, _, _, h => by unfold chkT at h; cases h
  | .idxV _ _, _, _, _, _, h => by unfold chkT at h; cases h
  | .slc _ _ _, _, _, _, _, h => by unfold chkT at h; cases h
  | .rev _, _, _, _, _, h => by unfold chkT at h; cases h
  | .call _ _, _, _, _, _, h => by unfold chkT at h; cases h
  | .blt _ _, _, _, _, _, h => by unfold chkT at h; cases h
  | .bltV _ _, _, _, _, _, h => by unfold chkT at h; cases h
  | .bltB _ _ _, _, _, _, _, h => by unfold chkT at h; cases h
  | .sortK _ _, _, _, _, _, h => by unfold chkT at h; cases h
  | .minKD _ _, _, _, _, _, h => by unfold chkT at h; cases h
  | .mutV _ _ _, _, _, _, _, h => by unfold chkT at h; cases h
  | .comp _ _ _ _ _, _, _, _, _, h => by unfold chkT at h; cases h
  | .comp2 _ _ _ _ _ _ _, _, _, _, _, h => by unfold chkT at h; cases h
  | .dcomp _ _ _ _ _, _, _, _, _, h => by unfold chkT at h; cases h
  | .nb _, _, _, _, _, h => by unfold chkT at h; cases h
  | .setd _ _ _, _, _, _, _, h => by unfold chkT at h; cases h
  | .compV _ _ _ _, _, _, _, _, h => by unfold chkT at h; cases h
theorem chkP_ok : ∀ (ie : IE) (c : TC) (X : Cx) (e : Option Expr), Good Fn k c X → chkP ie c e = true → PO X e (tP Fn X.K ie)
  | .cst d, c, X, e, g, h => by
    cases e with
    | none => cases d <;> first | exact po_noneD | (unfold chkP at h; cases h)
    | some e => cases d <;> (unfold chkP at h; cases h)
  | .un o a, c, X, e, g, h => by
    cases e with
    | none => cases o <;> (unfold chkP at h; cases h)
    | some e =>
      cases o with
      | part => unfold chkP at h; exact po_someD (chk_ok a false c X _ g h)
      | neg => unfold chkP at h; cases h
      | inv => unfold chkP at h; cases h
  | .var _, _, _, _, _, h => by unfold chkP at h; cases h
  | .tup _, _, _, _, _, h => by unfold chkP at h; cases h
  | .lst _, _, _, _, _, h => by unfold chkP at h; cases h
  | .dct0, _, _, _, _, h => by unfold chkP at h; cases h
  | .bin _ _ _, _, _, _, _, h => by unfold chkP at h; cases h
  | .cmp _ _ _, _, _, _, _, h => by unfold chkP at h; cases h
  | .cmpV _ _ _, _, _, _, _, h => by unfold chkP at h; cases h
  | .cmp2 _ _ _ _ _, _, _, _, _, h => by unfold chkP at h; cases h
  | .land _ _, _, _, _, _, h => by unfold chkP at h; cases h
  | .lor _ _, _, _, _, _, h => by unfold chkP at h; cases h
  | .lnot _, _, _, _, _, h => by unfold chkP at h; cases h
  | .truth _, _, _, _, _, h => by unfold chkP at h; cases h
  | .truthV _, _, _, _, _, h => by unfold chkP at h; cases h
  | .ite _ _ _, _, _, _, _, h => by unfold chkP at h; cases h
  | .idx _ _, _, _, _, _, h => by unfold chkP at h; cases h
  | .idxV _ _, _, _, _, _, h => by unfold chkP at h; cases h
  | .slc _ _ _, _, _, _, _, h => by unfold chkP at h; cases h
  | .rev _, _, _, _, _, h => by unfold chkP at h; cases h
  | .call _ _, _, _, _, _, h => by unfold chkP at h; cases h
  | .blt _ _, _, _, _, _, h => by unfold chkP at h; cases h
  | .bltV _ _, _, _, _, _, h => by unfold chkP at h; cases h
  | .bltB _ _ _, _, _, _, _, h => by unfold chkP at h; cases h
  | .sortK _ _, _, _, _, _, h => by unfold chkP at h; cases h
  | .minKD _ _, _, _, _, _, h => by unfold chkP at h; cases h
  | .mutV _ _ _, _, _, _, _, h => by unfold chkP at h; cases h
  | .comp _ _ _ _ _, _, _, _, _, h => by unfold chkP at h; cases h
  | .comp2 _ _ _ _ _ _ _, _, _, _, _, h => by unfold chkP at h; cases h
  | .dcomp _ _ _ _ _, _, _, _, _, h => by unfold chkP at h; cases h
  | .nb _, _, _, _, _, h => by unfold chkP at h; cases h
  | .setd _ _ _, _, _, _, _, h => by unfold chkP at h; cases h
  | .compV _ _ _ _, _, _, _, _, h => by unfold chkP at h; cases h
theorem chkIfs_ok : ∀ (es : IEs) (c : TC) (X : Cx) (xs : List Expr), Good Fn k c X → chkIfs es c xs = true → PTs X xs (tIfs Fn X.K es)
  | .nil, c, X, xs, g, h => by
    unfold chkIfs at h
    cases xs with
    | nil => exact pIfs_nil
    | cons => cases h
  | .cons a .nil, c, X, xs, g, h => by
    unfold chkIfs at h
    split at h
    · exact pIfs_one (chkT_ok a c X _ g h).1
    · cases h
  | .cons a (.cons _ _), c, X, xs, g, h => by unfold chkIfs at h; cases h
end
end
end Ev

-- EvJ
set_option autoImplicit true
set_option Elab.async false
set_option linter.all false
set_option maxRecDepth 100000
set_option maxHeartbeats 4000000
set_option autoImplicit false
/-! EvJ: the check of statements and defs, and its soundness. -/
namespace Ev
open PySem PySem.Spec PyProof.Rows L2

def noComp : Expr → Bool
  | .ListComp _ _ _ _ => false
  | .SetComp _ _ _ _ => false
  | .DictComp _ _ _ _ _ => false
  | _ => true
theorem sw_no {v : Expr} (h : noComp v = true) (t : Option Expr) (l : Nat) (env : Env) : swapsWith v t l env = pure false := by
  cases v <;> first | rfl | (simp [noComp] at h)
/-- a list comprehension that takes its target's name along -/
def swC (sc : Scope) (scope : Scope) (p : Pos) (x : Str) (px : Pos) : Bool :=
  (if sc.kind.isAnnotationScope then ScopeKind.function else sc.kind) == .function && sc.names.lookup x == some .local && px.line == p.line && !(scope.names.any fun (n, k) => n == x && (k == .local || k == .cell))
theorem swC_ok {el : Expr} {gs : List Comprehension} {scope : Scope} {p px : Pos} {x : Str} {l : Nat} {env : Env} : swapsWith (.ListComp el gs scope p) (some (.Name x px)) l env = pure (swC env.scope scope p x px) := rfl
theorem swD_ok {kx vx : Expr} {gs : List Comprehension} {scope : Scope} {p px : Pos} {x : Str} {l : Nat} {env : Env} : swapsWith (.DictComp kx vx gs scope p) (some (.Name x px)) l env = pure (swC env.scope scope p x px) := rfl
def noTup : Expr → Bool
  | .Tuple _ _ _ => false
  | _ => true
theorem sws_no {tg v : Expr} (h : noTup v = true) (env : Env) : swappedStores [tg] v env = pure none := by
  cases v <;> first | (simp [noTup] at h; done) | (cases tg <;> rfl)
theorem sws_sub {a b v : Expr} {p : Pos} (env : Env) : swappedStores [.Subscript a b p] v env = pure none := by
  cases v <;> rfl
/-- how the name takes what the evaluator has -/
inductive SM where | v | o | r
  deriving DecidableEq
def SM.is : SM → Nat → IE → IS
  | .v, i, e => .setV i e
  | .o, i, e => .setO i e
  | .r, i, e => .setR i e
def chkSet (m : SM) (c : TC) (i : Nat) (ie : IE) (x : Str) (px : Pos) (v : Expr) : Bool := decide (c.N[i]? = some x) && sto c x && chk ie (decide (m ≠ .v)) c v && (match v with
  | .ListComp _ _ scope p => !swC c.sc scope p x px || (match ie with
    | .comp _ _ _ _ _ => decide (c.sc.names.lookup x = some .local)
    | .compV _ _ _ _ => decide (c.sc.names.lookup x = some .local)
    | .comp2 _ _ _ _ _ _ _ => decide (c.sc.names.lookup x = some .local)
    | _ => false)
  | .DictComp _ _ _ scope p => !swC c.sc scope p x px || (match ie with
    | .dcomp _ _ _ _ _ => decide (c.sc.names.lookup x = some .local)
    | _ => false)
  | v => noComp v)
mutual
def chkS : IS → Bool → TC → Stmt → Bool
  | .expr e, _, c, st => match st with
    | .Expr x _ => noComp x && chk e false c x
    | _ => false
  | .setV i e, _, c, st => match st with
    | .Assign [.Name x px] v _ => chkSet .v c i e x px v
    | _ => false
  | .setO i e, _, c, st => match st with
    | .Assign [.Name x px] v _ => chkSet .o c i e x px v
    | _ => false
  | .setR i e, _, c, st => match st with
    | .Assign [.Name x px] v _ => chkSet .r c i e x px v
    | _ => false
  | .setT is e, _, c, st => match st with
    | .Assign [.Tuple es _ _] v _ => chkTgs c is es && noComp v && noTup v && chk e false c v
    | _ => false
  | .item i k e, _, c, st => match st with
    | .Assign [.Subscript (.Name x _) y _] v _ => okN c i x && noSlice y && noComp v && chk e false c v && chk k false c y
    | _ => false
  | .ret e, fr, c, st => match st with
    | .Return (some v) _ => chk e fr c v
    | .Return none _ => (match e with
      | .cst .non => true
      | _ => false)
    | _ => false
  | .retO i, fr, c, st => fr && match st with
    | .Return (some (.Name x _)) _ => okN c i x
    | _ => false
  | .ite t a b, fr, c, st => match st with
    | .If z x y _ => chkT t c z && chkSs a fr c x && chkSs b fr c y
    | _ => false
  | .loop ts k src body, fr, c, st => match st with
    | .For tg iter bd [] _ => (match srcOf c k iter tg with
        | some xs => chks src c xs
        | none => false) && noSet iter && chkTg c ts tg && chkSs body fr c bd
    | _ => false
  | .whl t body, fr, c, st => match st with
    | .While z bd [] _ => chkT t c z && chkSs body fr c bd
    | _ => false
  | .brk, _, _, st => match st with
    | .Break _ => true
    | _ => false
  | .cnt, _, _, st => match st with
    | .Continue _ => true
    | _ => false
  | .nop, _, _, st => match st with
    | .Pass _ => true
    | .Expr (.Constant (.str _) _ _) _ => true
    | _ => false
def chkSs : ISs → Bool → TC → List Stmt → Bool
  | .nil, _, _, sts => match sts with
    | [] => true
    | _ => false
  | .cons a r, fr, c, sts => match sts with
    | st :: rest => chkS a fr c st && chkSs r fr c rest
    | [] => false
end
section
variable {Fn : Ev.Fn} {k : Nat}
theorem asg_any {K : PySem.W.Frag} {fr : Bool} {i : Nat} {ie : IE} {D : Ends} {σ : L2.St} {H : Hp} (m : SM) (h : tS Fn K fr (m.is i ie) D σ H) : tAsg (tM Fn K (decide (m ≠ .v)) ie) (gName i) D σ H := by
  cases m with
  | v => exact asg_setV h
  | o => exact asg_setO h
  | r => exact asg_setR h
theorem comp_weak {K : PySem.W.Frag} {n : Bool} {ie : IE} {σ : L2.St} {H : Hp} {Q : VK} (h : tM Fn K n ie σ H Q) : tN Fn K ie σ H Q ∨ n = false := by
  cases n with
  | true => exact .inl h
  | false => exact .inr rfl
theorem chkSet_ok {m : SM} {c : TC} {X : Cx} {i : Nat} {ie : IE} {x : Str} {px pos : Pos} {v : Expr} {fr : Bool} (g : Good Fn k c X) (h : chkSet m c i ie x px v = true) : PS X (.Assign [.Name x px] v pos) (tS Fn X.K fr (m.is i ie)) := by
  unfold chkSet at h
  simp only [Bool.and_eq_true, decide_eq_true_eq] at h
  obtain ⟨⟨⟨h1, h2⟩, h3⟩, h4⟩ := h
  obtain ⟨s1, s2⟩ := g.sto _ h2
  rw [← g.hN] at h1
  have plain : swapsWith v (some (.Name x px)) pos.line X.env = pure false → PS X (.Assign [.Name x px] v pos) (tS Fn X.K fr (m.is i ie)) := fun hs =>
    (ps_set g.nd h1 s1 (chk_ok ie _ c X v g h3) hs s2).weak fun D σ H h => asg_any m h
  split at h4
  · rename_i el gs scope p
    simp only [Bool.or_eq_true, Bool.not_eq_true'] at h4
    cases hsw : swC X.env.scope scope p x px with
    | false => exact plain (by rw [swC_ok, hsw])
    | true =>
      rw [g.sc] at hsw
      rw [hsw] at h4
      rcases h4 with h4 | h4
      · cases h4
      · split at h4
        · rename_i ts sk src ifs elt
          have hl := of_decide_eq_true h4
          unfold chk at h3
          split at h3
          · rename_i el' tg iter fs sc' p' he
            cases he
            simp only [Bool.and_eq_true] at h3
            obtain ⟨⟨⟨⟨⟨h5, h6⟩, h7⟩, h8⟩, h9⟩, h10⟩ := h3
            split at h5
            · rename_i xs hx
              obtain ⟨a1, a2⟩ := chks_ok src c X _ g h5
              have bo := blkOk_by h7
              rw [← g.hN, ← g.sc] at bo
              refine (pS_setLc (pos := pos) (py := px) g.calm g.nd h1 (by rw [g.sc]; exact hl) (by rw [swC_ok, g.sc, hsw]) (srcOf_ok g hx a1 a2) bo (ownOf_slots c ts) (fun s H C cl fp => chkTg_ok (g.blk _ s H C cl fp) h8) (fun s H C cl fp => chkIfs_ok ifs _ _ _ (g.blk _ s H C cl fp) h9)
                (fun s H C cl fp => chk_ok elt false _ _ _ (g.blk _ s H C cl fp) h10) h6).weak fun D σ H h => ?_
              have q := asg_any m h
              cases m with
              | v => exact asgN_V q
              | o => exact q
              | r => exact q
            · cases h5
          · cases h3
        · rename_i ts i2 ifs elt
          have hl := of_decide_eq_true h4
          unfold chk at h3
          split at h3
          · rename_i el' tg nm pnm fs sc' p' he
            cases he
            simp only [Bool.and_eq_true] at h3
            obtain ⟨⟨⟨⟨h5, h7⟩, h8⟩, h9⟩, h10⟩ := h3
            obtain ⟨r1, r2, r3, r4⟩ := okN_ok g h5
            have bo := blkOk_by h7
            rw [← g.hN, ← g.sc] at bo
            refine (pS_setLcV (spos := pos) (py := px) g.calm g.nd h1 (by rw [g.sc]; exact hl) (by rw [swC_ok, g.sc, hsw]) r1 r2 r3 r4 bo (ownOf_slots c ts) (fun s H C cl fp => chkTg_ok (g.blk _ s H C cl fp) h8) (fun s H C cl fp => chkIfs_ok ifs _ _ _ (g.blk _ s H C cl fp) h9)
              (fun s H C cl fp => chk_ok elt false _ _ _ (g.blk _ s H C cl fp) h10)).weak fun D σ H h => ?_
            have q := asg_any m h
            cases m with
            | v => exact asgN_V q
            | o => exact q
            | r => exact q
          · cases h3
        · rename_i ts sk src ts' sk' src' elt
          have hl := of_decide_eq_true h4
          unfold chk at h3
          split at h3
          · rename_i el' tg iter tg' iter' sc' p' he
            cases he
            simp only [Bool.and_eq_true] at h3
            obtain ⟨⟨⟨⟨⟨⟨⟨h5, h6⟩, h7⟩, h8⟩, h9⟩, h10⟩, h11⟩, h12⟩ := h3
            split at h5
            · rename_i xs hx
              split at h6
              · rename_i xs' hx'
                obtain ⟨a1, a2⟩ := chks_ok src c X _ g h5
                have bo := blkOk_by h9
                rw [← g.hN, ← g.sc] at bo
                refine (pS_setLc2 (spos := pos) (py := px) g.calm g.nd h1 (by rw [g.sc]; exact hl) (by rw [swC_ok, g.sc, hsw]) (srcOf_ok g hx a1 a2) bo (by rw [List.map_append, ownOf_slots, ownOf_slots]) (fun s H C cl fp => chkTg_ok (g.blk _ s H C cl fp) h10)
                  (fun s H C cl fp => srcOf_ok (g.blk _ s H C cl fp) hx' (chks_ok src' _ _ _ (g.blk _ s H C cl fp) h6).1 (chks_ok src' _ _ _ (g.blk _ s H C cl fp) h6).2)
                  (fun s H C cl fp => chkTg_ok (g.blk _ s H C cl fp) h11) (fun s H C cl fp => chk_ok elt false _ _ _ (g.blk _ s H C cl fp) h12) h7 h8).weak fun D σ H h => ?_
                have q := asg_any m h
                cases m with
                | v => exact asgN_V q
                | o => exact q
                | r => exact q
              · cases h6
            · cases h5
          · cases h3
        · cases h4
  · rename_i kx vx gs scope p
    simp only [Bool.or_eq_true, Bool.not_eq_true'] at h4
    cases hsw : swC X.env.scope scope p x px with
    | false => exact plain (by rw [swD_ok, hsw])
    | true =>
      rw [g.sc] at hsw
      rw [hsw] at h4
      rcases h4 with h4 | h4
      · cases h4
      · split at h4
        · rename_i ts sk src ek ev
          have hl := of_decide_eq_true h4
          unfold chk at h3
          split at h3
          · rename_i kx' vx' tg iter sc' p' he
            cases he
            simp only [Bool.and_eq_true] at h3
            obtain ⟨⟨⟨⟨⟨h5, h6⟩, h7⟩, h8⟩, h9⟩, h10⟩ := h3
            split at h5
            · rename_i xs hx
              obtain ⟨a1, a2⟩ := chks_ok src c X _ g h5
              have bo := blkOk_by h7
              rw [← g.hN, ← g.sc] at bo
              refine (ps_setDc (spos := pos) (py := px) g.calm g.nd h1 (by rw [g.sc]; exact hl) (by rw [swD_ok, g.sc, hsw]) (srcOf_ok g hx a1 a2) bo (ownOf_slots c ts) (fun s H C cl fp => chkTg_ok (g.blk _ s H C cl fp) h8) (fun s H C cl fp => chk_ok ek false _ _ _ (g.blk _ s H C cl fp) h9)
                (fun s H C cl fp => chk_ok ev false _ _ _ (g.blk _ s H C cl fp) h10) h6).weak fun D σ H h => ?_
              have q := asg_any m h
              cases m with
              | v => exact asgN_V q
              | o => exact q
              | r => exact q
            · cases h5
          · cases h3
        · cases h4
  · exact plain (sw_no h4 _ _ _)
mutual
theorem chkS_ok : ∀ (is : IS) (fr : Bool) (c : TC) (X : Cx) (st : Stmt), Good Fn k c X → PassesOwn (model X.prog X.w) X.A X.env X.xe → chkS is fr c st = true → PS X st (tS Fn X.K fr is)
  | .expr e, fr, c, X, st, g, hp, h => by
    unfold chkS at h
    split at h
    · rw [Bool.and_eq_true] at h
      exact pS_expr (chk_ok e false c X _ g h.2) (sw_no h.1 _ _ _)
    · cases h
  | .setV i e, fr, c, X, st, g, hp, h => by
    unfold chkS at h
    split at h
    · exact chkSet_ok (m := .v) g h
    · cases h
  | .setO i e, fr, c, X, st, g, hp, h => by
    unfold chkS at h
    split at h
    · exact chkSet_ok (m := .o) g h
    · cases h
  | .setR i e, fr, c, X, st, g, hp, h => by
    unfold chkS at h
    split at h
    · exact chkSet_ok (m := .r) g h
    · cases h
  | .setT is e, fr, c, X, st, g, hp, h => by
    unfold chkS at h
    split at h
    · simp only [Bool.and_eq_true] at h
      obtain ⟨⟨⟨h1, h2⟩, h3⟩, h4⟩ := h
      exact pS_setT (pgT_many g.calm g.nd (chkTgs_ok g h1)) (chk_ok e false c X _ g h4) (swSole_of (sw_no h2 _ _ _)) (sws_no h3 _) rfl
    · cases h
  | .item i kx e, fr, c, X, st, g, hp, h => by
    unfold chkS at h
    split at h
    · simp only [Bool.and_eq_true] at h
      obtain ⟨⟨⟨⟨h1, h2⟩, h3⟩, h4⟩, h5⟩ := h
      obtain ⟨r1, r2, r3, r4⟩ := okN_ok g h1
      exact pS_item (by have := g.room.units; omega) r1 r2 r3 r4 (chk_ok e false c X _ g h4) (chk_ok kx false c X _ g h5) h2 (sw_no h3 _ _ _) (sws_sub _)
    · cases h
  | .ret e, fr, c, X, st, g, hp, h => by
    unfold chkS at h
    split at h
    · cases fr with
      | false => exact pS_ret (chk_ok e false c X _ g h)
      | true => exact pS_retF (chk_ok e true c X _ g h)
    · split at h
      · exact pS_retN
      · cases h
    · cases h
  | .retO i, fr, c, X, st, g, hp, h => by
    unfold chkS at h
    rw [Bool.and_eq_true] at h
    obtain ⟨rfl, h⟩ := h
    split at h
    · obtain ⟨r1, r2, r3, r4⟩ := okN_ok g h
      exact pS_retO r1 r2 r3 r4
    · cases h
  | .ite t a b, fr, c, X, st, g, hp, h => by
    unfold chkS at h
    split at h
    · simp only [Bool.and_eq_true] at h
      exact pS_ite (chkT_ok t c X _ g h.1.1).1 (chkSs_ok a fr c X _ g hp h.1.2) (chkSs_ok b fr c X _ g hp h.2)
    · cases h
  | .loop ts sk src body, fr, c, X, st, g, hp, h => by
    unfold chkS at h
    split at h
    · simp only [Bool.and_eq_true] at h
      obtain ⟨⟨⟨h1, h2⟩, h3⟩, h4⟩ := h
      split at h1
      · rename_i xs hx
        obtain ⟨a1, a2⟩ := chks_ok src c X _ g h1
        exact pS_loop hp g.calm (srcOf_ok g hx a1 a2) (chkTg_ok g h3) (chkSs_ok body fr c X _ g hp h4) h2
      · cases h1
    · cases h
  | .whl t body, fr, c, X, st, g, hp, h => by
    unfold chkS at h
    split at h
    · simp only [Bool.and_eq_true] at h
      exact pS_whl hp (chkT_ok t c X _ g h.1).1 (chkSs_ok body fr c X _ g hp h.2)
    · cases h
  | .brk, fr, c, X, st, g, hp, h => by
    unfold chkS at h
    split at h
    · exact pS_brk
    · cases h
  | .cnt, fr, c, X, st, g, hp, h => by
    unfold chkS at h
    split at h
    · exact pS_cnt
    · cases h
  | .nop, fr, c, X, st, g, hp, h => by
    unfold chkS at h
    split at h
    · exact pS_pass
    · exact pS_doc
    · cases h
theorem chkSs_ok : ∀ (is : ISs) (fr : Bool) (c : TC) (X : Cx) (sts : List Stmt), Good Fn k c X → PassesOwn (model X.prog X.w) X.A X.env X.xe → chkSs is fr c sts = true → PSs X sts (tSs Fn X.K fr is)
  | .nil, fr, c, X, sts, g, hp, h => by
    unfold chkSs at h
    cases sts with
    | nil => exact pSs_nil
    | cons => cases h
  | .cons a r, fr, c, X, sts, g, hp, h => by
    unfold chkSs at h
    cases sts with
    | nil => cases h
    | cons st rest =>
      rw [Bool.and_eq_true] at h
      exact pSs_cons (chkS_ok a fr c X st g hp h.1) (chkSs_ok r fr c X rest g hp h.2)
end
end

/-! ### defs -/
/-- a def of the text and its IR -/
structure Ent where
  x : Str
  ps : List Str
  N : List Str
  sc : Scope
  args : Arguments
  body : List Stmt
  df : Df
structure Glob where
  ents : List Ent
  free : List Str
  con : List (Str × Str)
def Glob.tab (g : Glob) : Tab := g.ents.map (·.df)
def Glob.tc (g : Glob) (e : Ent) : TC := { N := e.N, sc := e.sc, wr := e.sc, fns := g.ents.map fun e => (e.x, e.df.fr), free := g.free, con := g.con }
def chkScope (e : Ent) : Bool := (match e.sc.kind with
    | .function => true
    | _ => false) && !e.sc.isCoroutine && !e.sc.isGenerator && decide e.N.Nodup && decide (e.N.take e.ps.length = e.ps) && (e.ps.all fun x => match e.sc.names.lookup x with
      | some .local => true
      | some .cell => true
      | _ => false) && (e.sc.names.all fun y => match y.2 with
      | .free => false
      | _ => true) && decide (e.df.np = e.ps.length) && decide (e.df.ns = e.N.length)
def chkEnt (g : Glob) (e : Ent) : Bool := chkScope e && chkSs e.df.body e.df.fr (g.tc e) e.body
def chkGlob (g : Glob) : Bool := g.ents.all (chkEnt g)
theorem chkScope_ok {e : Ent} (h : chkScope e = true) : FnScope e.N e.ps e.sc ∧ e.df.np = e.ps.length ∧ e.df.ns = e.N.length := by
  unfold chkScope at h
  simp only [Bool.and_eq_true, Bool.not_eq_true', decide_eq_true_eq, List.all_eq_true] at h
  obtain ⟨⟨⟨⟨⟨⟨⟨⟨h1, h2⟩, h3⟩, h4⟩, h5⟩, h6⟩, h7⟩, h8⟩, h9⟩ := h
  refine ⟨⟨?_, h2, h3, h4, h5, fun x hx => ?_, fun y hy z => ?_⟩, h8, h9⟩
  · split at h1
    · assumption
    · cases h1
  · have q := h6 x hx
    split at q
    · exact .inl (by assumption)
    · exact .inr (by assumption)
    · cases q
  · have q := h7 y hy
    rw [z] at q
    cases q

theorem start_get {N : List Str} {vs : List V} {i : Nat} (h : i < vs.length) : (L2.start N vs)[i]? = some (some vs[i]) := by
  unfold L2.start
  rw [List.getElem?_append_left (by simpa using h), List.getElem?_map, List.getElem?_eq_getElem h]
  rfl
theorem Ok.begin {K : PySem.W.Frag} {F G H : Hp} {ι : List Addr} {st : List D} {vs : List V} {ds : List D} {N : List Str} {m : Nat} (ok : Ok K F G ι H [] [] st) (r : Reps K G ι vs ds) (hl : vs.length + m = N.length) :
    Ok K F G ι H (ds.map .v ++ List.replicate m .un) (L2.start N vs) st := by
  have hlen := r.length
  refine ok.subst (by unfold L2.start; simp; omega) fun i sl q => ?_
  by_cases hi : i < ds.length
  · rw [List.getElem?_append_left (by simpa using hi), List.getElem?_map, List.getElem?_eq_getElem hi] at q
    cases q
    obtain ⟨v, h1, h2⟩ := r.get (List.getElem?_eq_getElem hi)
    refine .inr (.inr ⟨ds[i], v, rfl, ?_, h2⟩)
    rw [start_get (by omega)]
    rw [List.getElem?_eq_getElem (by omega)] at h1
    exact congrArg some h1
  · rw [List.getElem?_append_right (by simpa using hi), List.getElem?_replicate] at q
    split at q
    · cases q; exact .inl rfl
    · cases q
theorem passes_no {P : Program} {w : World} {A : Around} {env : Env} : PassesOwn (model P w) A env (fun _ _ => False) := by
  intro e s h
  exact h.elim
theorem no_sp0 {K : PySem.W.Frag} {T : Tab} {f : Nat} {fr : Bool} {vs : List V} {H : Hp} {Q : VK} {E : XK} : ¬ spD K (evF T 0) f fr vs H Q E := fun ⟨_, _, _, _, _, _, _, _, _, ev, _⟩ => by cases ev
/-- what the head tells of the table's defs -/
structure Facts (g : Glob) (K : PySem.W.Frag) (mg : Str → Option Value) : Prop where
  ents : ∀ (f : Nat) (e : Ent), g.ents[f]? = some e → ∃ fa fd, FunD K e.x e.x e.args e.body e.sc [] [] fa fd ∧ mg e.x = some (.ref fa) ∧ Binds K fd e.ps []
  free : ∀ x ∈ g.free, mg x = none
  con : ∀ p ∈ g.con, ∃ u, mg p.1 = some u ∧ RelV (.str p.2) u
/-- THE TABLE'S DEFS KEEP THEIR PROMISES -/
theorem tab_ok {g : Glob} {P : Program} {w : World} {K : PySem.W.Frag} {mg : Str → Option Value} {base : Heap} (ch : chkGlob g = true) (fs : Facts g K mg) : ∀ (n f : Nat) (e : Ent), g.ents[f]? = some e → ∀ (fa : Addr) (fd : FuncData), FunD K e.x e.x e.args e.body e.sc [] [] fa fd →
    FnOk P w K mg base CXn (3 * n) fa fd e.ps (spD K (evF g.tab n) f e.df.fr)
  | 0, f, e, he, fa, fd, F => ⟨fun vs H Q E h => absurd h no_sp0, fun A outer s H args us vs Q E hr e0 hb r h => absurd h no_sp0⟩
  | n + 1, f, e, he, fa, fd, F => by
    have ce : chkEnt g e = true := by
      unfold chkGlob at ch
      rw [List.all_eq_true] at ch
      exact ch e (List.mem_of_getElem? he)
    unfold chkEnt at ce
    rw [Bool.and_eq_true] at ce
    obtain ⟨cs, cb⟩ := ce
    obtain ⟨S, hnp, hns⟩ := chkScope_ok cs
    have hdf : g.tab[f]? = some e.df := by
      unfold Glob.tab
      rw [List.getElem?_map, he]
      rfl
    have inv : ∀ {ds : List D} {st : List D} {d : D} {st' : List D}, evF g.tab (n + 1) f ds st = some (d, st') → ds.length = e.df.np ∧ e.df.np ≤ e.df.ns ∧
        ∃ fl s', evSs (evF g.tab n) e.df.body { ρ := ds.map .v ++ List.replicate (e.df.ns - e.df.np) .un, st := st } = some (fl, s') ∧ s'.st = st' ∧ (fl = .ret d ∨ (fl = .nx ∧ d = .non)) := fun {ds st d st'} ev => by
      unfold evF at ev
      rw [hdf, Option.bind_some] at ev
      split at ev
      · rename_i hz
        simp only [Bool.and_eq_true, decide_eq_true_eq] at hz
        rw [Option.bind_eq_some_iff] at ev
        obtain ⟨⟨fl, s'⟩, h1, h2⟩ := ev
        refine ⟨hz.1, hz.2, fl, s', h1, ?_⟩
        cases fl with
        | ret v => cases h2; exact ⟨rfl, .inl rfl⟩
        | nx => cases h2; exact ⟨rfl, .inr ⟨rfl, rfl⟩⟩
        | brk => cases h2
        | cnt => cases h2
      · cases ev
    refine F.ok S (fun vs H Q E ⟨F', G, ι, ds, st, d, st', ok, r, ev, k⟩ => ?_) fun cdv A outer s H vs Q E hr ⟨F', G, ι, ds, st, d, st', ok, r, ev, k⟩ => ?_
    · obtain ⟨h1, _⟩ := inv ev
      rw [r.length, h1, hnp]
    · obtain ⟨h1, h2, fl, s', h3, h4, h5⟩ := inv ev
      have gd : Good (evF g.tab n) (3 * n) (g.tc e) (cxOf CXn P w K mg base e.N e.x e.sc fa cdv A outer s H E).nox := by
        refine ⟨rfl, S.nd, rfl, rfl, hr, fun x hx => ?_, fun f' x fr hf => ?_, fs.free, fs.con⟩
        · unfold sto at hx
          split at hx
          · rename_i q; exact ⟨.inl q, .inl rfl⟩
          · rename_i q; exact ⟨.inr q, .inl rfl⟩
          · cases hx
        · have hf' : (g.ents.map fun e => (e.x, e.df.fr))[f']? = some (x, fr) := hf
          rw [List.getElem?_map] at hf'
          cases he' : g.ents[f']? with
          | none => rw [he'] at hf'; cases hf'
          | some e' =>
            rw [he'] at hf'
            cases hf'
            obtain ⟨fa', fd', F2, m2, b2⟩ := fs.ents f' e' he'
            exact ⟨fa', fd', e'.ps, tab_ok ch fs n f' e' he' fa' fd' F2, m2, F2.kp, b2⟩
      refine ⟨tSs (evF g.tab n) K e.df.fr e.df.body, PSs.nox (chkSs_ok e.df.body e.df.fr (g.tc e) _ e.body gd passes_no cb), F', G, ι, _, fl, s', ok.begin (m := e.df.ns - e.df.np) r (by rw [r.length, h1]; omega), h3, fun σ1 H1 G1 ι1 x1 => ?_⟩
      rcases h5 with rfl | ⟨rfl, rfl⟩
      · intro v ok1 q
        rw [h4] at ok1
        exact k v H1 G1 ι1 ok1 x1 q
      · intro ok1
        have ok2 := ok1.forget
        rw [h4] at ok2
        refine k .non H1 G1 ι1 ok2 x1 ?_
        cases e.df.fr with
        | true => exact .inr ⟨rfl, .non⟩
        | false => exact .non
end Ev

-- EvQ
set_option autoImplicit true
set_option Elab.async false
set_option linter.all false
set_option maxRecDepth 100000
set_option maxHeartbeats 4000000
set_option autoImplicit false
/-! EvQ: from the head's facts to the law's end. -/
namespace Ev
open PySem PySem.Spec PyProof.Rows L2

def plainArgs (ps : List Str) (a : Arguments) : Bool := a.posonlyargs.isEmpty && a.vararg.isNone && a.kwonlyargs.isEmpty && a.kw_defaults.isEmpty && a.kwarg.isNone && a.defaults.isEmpty && decide (a.args.map (·.arg) = ps) && decide ps.Nodup
theorem lk_in {ps : List Str} {us : List Value} (h : us.length = ps.length) : ∀ n ∈ ps, ((ps.zip us).lookup n).isNone = false := by
  induction ps generalizing us with
  | nil => intro n hn; cases hn
  | cons p ps ih =>
    cases us with
    | nil => simp at h
    | cons u us =>
      intro n hn
      simp only [List.zip_cons_cons, List.lookup_cons]
      cases e : n == p with
      | true => rfl
      | false =>
        rcases List.mem_cons.mp hn with rfl | hn
        · simp at e
        · exact ih (by simpa using h) n hn
theorem lk_none {ps : List Str} {us : List Value} (h : us.length = ps.length) : (ps.filter fun n => ((ps.zip us).lookup n).isNone) = [] := by
  rw [List.filter_eq_nil_iff]
  intro n hn
  rw [lk_in h n hn]
  simp
theorem filterMap_same {α β : Type} {f g : α → Option β} : ∀ {l : List α}, (∀ a ∈ l, f a = g a) → l.filterMap f = l.filterMap g
  | [], _ => rfl
  | a :: l, h => by
    rw [List.filterMap_cons, List.filterMap_cons, h a List.mem_cons_self, filterMap_same fun b hb => h b (List.mem_cons_of_mem _ hb)]
theorem lk_map {ps : List Str} : ∀ {us : List Value}, us.length = ps.length → ps.Nodup → (ps.filterMap fun n => ((ps.zip us).lookup n).map (n, ·)) = ps.zip us := by
  induction ps with
  | nil => intro us _ _; rfl
  | cons p ps ih =>
    intro us h nd
    cases us with
    | nil => simp at h
    | cons u us =>
      rw [List.nodup_cons] at nd
      have e0 : ((p, u) :: ps.zip us).lookup p = some u := by simp [List.lookup_cons]
      rw [List.zip_cons_cons, List.filterMap_cons, e0]
      simp only [Option.map_some]
      congr 1
      refine Eq.trans ?_ (ih (us := us) (by simpa using h) nd.2)
      refine filterMap_same fun n hn => ?_
      have hne : (n == p) = false := by
        rw [beq_eq_false_iff_ne]
        intro z
        exact nd.1 (z ▸ hn)
      simp [List.lookup_cons, hne]
theorem bind_gen {x qual : Str} {body : List Stmt} {scope : Scope} {kV doc pm : Value} {an : Option Addr} {cdv ct : Value} (as : List Arg) (us : List Value) (hu : us.length = as.length) (nd : (as.map (·.arg)).Nodup) :
    bindArgs (PySem.W.fnOf x qual ⟨[], as, none, [], [], none, []⟩ body scope .none kV doc pm an cdv ct) ⟨us, []⟩ = pure ((as.map (·.arg)).zip us) := by
  have hl : us.length = (as.map (·.arg)).length := by rw [hu, List.length_map]
  have h1 := lk_none hl
  have h2 := lk_map hl nd
  unfold bindArgs PySem.W.fnOf
  simp only [List.map_nil, List.nil_append, List.append_nil]
  generalize hps : as.map (·.arg) = ps at *
  simp only [hl, List.forIn_nil]
  have hs : seqItems? Value.none = pure none := rfl
  have hd : decide (ps.length > ps.length) = false := by simp
  rw [hs]
  show (if (decide (ps.length > ps.length) && true) = true then _ else _) = _
  rw [hd]
  show (if (!(List.filter (fun n => (List.lookup n (ps.zip us)).isNone) (List.take (ps.length - (List.drop (0 - ps.length) ([] : List Value)).length) ps)).isEmpty) = true then _ else _) = _
  rw [List.drop_nil, List.length_nil, Nat.sub_zero, List.take_length, h1]
  rw [if_neg (by simp)]
  have e : List.drop (((none : Option (Array Value)).getD #[]).toList.length - ps.length) ((none : Option (Array Value)).getD #[]).toList = [] := by simp
  rw [e, List.zip_nil_right, List.forIn_nil]
  show (pure (List.filterMap (fun n => Option.map (fun x => (n, x)) (List.lookup n (ps.zip us))) ps) : Sem _) = _
  rw [h2]

def Ent.dD (e : Ent) : He.DefD := ⟨(e.x, none), e.x, e.x, e.args, e.body, e.sc, [], []⟩
def Glob.dDs (g : Glob) : List He.DefD := g.ents.map Ent.dD
def Glob.fas (g : Glob) : List He.Fa := g.ents.map (fun e => .glo e.x) ++ (g.free.map (fun x => .free x) ++ g.con.map (fun p => .str p.1 p.2))
def Glob.argsOk (g : Glob) : Bool := g.ents.all fun e => plainArgs e.ps e.args
theorem has_fact {fa : List He.Fa} {fn : List He.DefD} {K : PySem.W.Frag} (c : He.SaysD fa fn K) {f : He.Fa} (h : f ∈ fa) : f.ok K = true := by
  obtain ⟨i, hi, e⟩ := List.getElem_of_mem h
  exact c.fact i (by rw [List.getElem?_eq_getElem hi, e])
theorem facts_of {g : Glob} {K : PySem.W.Frag} {mg : Str → Option Value} {h : Heap} (X : K.In h) (G : h.Ns mainGlobals mg) (c : He.SaysD g.fas g.dDs K) (ha : g.argsOk = true) : Facts g K mg where
  ents := fun f e he => by
    have hm : e ∈ g.ents := List.mem_of_getElem? he
    obtain ⟨fd, F⟩ := c.def_ f (d := e.dD) (by unfold Glob.dDs; rw [List.getElem?_map, he]; rfl)
    have m := He.glo_ok X G (has_fact c (f := .glo e.x) (by unfold Glob.fas; exact List.mem_append_left _ (List.mem_map.mpr ⟨e, hm, rfl⟩)))
    unfold Glob.argsOk at ha
    rw [List.all_eq_true] at ha
    have hp := ha e hm
    unfold plainArgs at hp
    simp only [Bool.and_eq_true, decide_eq_true_eq, List.isEmpty_iff, Option.isNone_iff_eq_none] at hp
    obtain ⟨⟨⟨⟨⟨⟨⟨p1, p2⟩, p3⟩, p4⟩, p5⟩, p6⟩, p7⟩, p8⟩ := hp
    refine ⟨_, fd, F, m, F.bindsN fun kV doc pm an cdv ct us hl => ?_⟩
    obtain ⟨x, ps, N, sc, ⟨a1, a2, a3, a4, a5, a6, a7⟩, body, df⟩ := e
    simp only at p1 p2 p3 p4 p5 p6 p7 p8 hl ⊢
    subst p1 p2 p3 p4 p5 p6 p7
    rw [List.length_map] at hl
    exact bind_gen a2 us hl p8
  free := fun x hx => He.free_ok X G (has_fact c (f := .free x) (by unfold Glob.fas; exact List.mem_append_right _ (List.mem_append_left _ (List.mem_map.mpr ⟨x, hx, rfl⟩))))
  con := fun p hp => by
    obtain ⟨t, ht⟩ := He.str_ok X G (has_fact c (f := .str p.1 p.2) (by unfold Glob.fas; exact List.mem_append_right _ (List.mem_append_right _ (List.mem_map.mpr ⟨p, hp, rfl⟩))))
    exact ⟨_, ht, t, rfl⟩
/-- what is to be proved of the evaluator -/
def LawHolds (g : Glob) (n f : Nat) : Prop := ∀ ns : List Int, ns.length ≤ 63 → ∃ st', evF g.tab n f [.scr (ns.map .int)] [] = some (.bl true, st')
theorem ok_begin {K : PySem.W.Frag} {H : Hp} : Ok K (fun _ => none) H [] H [] [] [] where
  sub := Same.refl H
  fsub := fun a o e => by cases e
  fg := fun a o e => by cases e
  fi := fun a ha => rfl
  gi := fun a ha => by cases ha
  nd := List.nodup_nil
  len := rfl
  cells := fun n a d e _ => by simp at e
  slots := fun i sl e => by simp at e
  own := fun i j d d' a e => by simp at e
  lenr := rfl
theorem end_of {g : Glob} {n f : Nat} (hv : LawHolds g n f) (K : PySem.W.Frag) (H : Hp) (a : Addr) (ns : List Int) (hl : ns.length ≤ 63) (hS : SqL K H a (ns.map V.int)) :
    spD K (evF g.tab n) f false [.ref a] H (fun v _ => v = .bl true) fun _ _ _ => False := by
  obtain ⟨st', e⟩ := hv ns hl
  refine ⟨_, H, [], [.scr (ns.map .int)], [], .bl true, st', ok_begin, .cons (.scr hS (Reps.ofInts ns)) .nil, e, fun v H' G' ι' _ _ r => ?_⟩
  cases r
  rfl
/-- the law's end, behind the head -/
theorem law_end {g : Glob} {P : Program} {w : World} {K : PySem.W.Frag} {h : Heap} {mg : Str → Option Value} {fa : Addr} {n f : Nat} {e : Ent} {x : Str} (he : g.ents[f]? = some e) (hfr : e.df.fr = false) (hps : e.ps = [x]) (X : K.In h) (G : h.Ns mainGlobals mg) (hfa : mg e.x = some (.ref fa)) (c : He.SaysD g.fas g.dDs K)
    (ha : g.argsOk = true) (hch : chkGlob g = true) : ∃ fd : FuncData, (∀ (s : Shared) (u : Value), BindsTo s fd ⟨[u], []⟩ [(x, u)]) ∧ ∀ base : Heap, K.In base → base.Ns mainGlobals mg → FnOk P w K mg base CXn (3 * n) fa fd [x] (spD K (evF g.tab n) f false) := by
  have F := facts_of X G c ha
  obtain ⟨fa', fd, FD, m, _⟩ := F.ents f e he
  rw [hfa] at m
  cases m
  unfold Glob.argsOk at ha
  rw [List.all_eq_true] at ha
  have hp := ha e (List.mem_of_getElem? he)
  unfold plainArgs at hp
  simp only [Bool.and_eq_true, decide_eq_true_eq, List.isEmpty_iff, Option.isNone_iff_eq_none] at hp
  obtain ⟨⟨⟨⟨⟨⟨⟨p1, p2⟩, p3⟩, p4⟩, p5⟩, p6⟩, p7⟩, p8⟩ := hp
  refine ⟨fd, ?_, fun base _ _ => ?_⟩
  · have b := FunD.bindsA (ps := [x]) FD fun kV doc pm an cdv ct us hl => by
      obtain ⟨x0, ps, N, sc, ⟨a1, a2, a3, a4, a5, a6, a7⟩, body, df⟩ := e
      simp only at p1 p2 p3 p4 p5 p6 p7 p8 hps ⊢
      subst p1 p2 p3 p4 p5 p6
      rw [hps] at p7
      rw [← p7]
      have hl2 : us.length = a2.length := by rw [hl, ← p7, List.length_map]
      exact bind_gen a2 us hl2 (by rw [p7]; simp)
    exact fun s u => b s [u] rfl
  · have q := tab_ok (base := base) (P := P) (w := w) hch F n f e he fa fd FD
    rw [hfr, hps] at q
    exact q
end Ev

-- Lx
set_option autoImplicit true
set_option Elab.async false
set_option linter.all false
set_option maxRecDepth 100000
set_option maxHeartbeats 4000000
/-! Lx: simp rules of the evaluator, the calculus ok, comprehensions and loops over typed rows, draws. The store is `dr xs rest`: the draws first. -/
namespace Ev
open PySem PySem.Spec PyProof.Rows L2
/-- an equation by rfl that simp is to use by its proof, not by unfolding -/
theorem nr {α : Sort _} {a b : α} (h : a = b) : a = b := h.trans rfl
def bnd {α β : Type} (o : Option α) (f : α → Option β) : Option β := o.bind f
def mp {α β : Type} (o : Option α) (f : α → β) : Option β := o.map f
@[simp] theorem bnd_some {α β : Type} (a : α) (f : α → Option β) : bnd (some a) f = f a := nr rfl
@[simp] theorem bnd_none {α β : Type} (f : α → Option β) : bnd none f = none := nr rfl
@[simp] theorem mp_some {α β : Type} (a : α) (f : α → β) : mp (some a) f = some (f a) := nr rfl
@[simp] theorem mp_none {α β : Type} (f : α → β) : mp none f = none := nr rfl
/-! ### branches -/
def selB {α : Type} : D → Option α → Option α → Option α
  | .bl true, x, _ => x
  | .bl false, _, y => y
  | _, _, _ => none
@[simp] theorem selB_bl {α : Type} (b : Bool) (x y : Option α) : selB (.bl b) x y = if b = true then x else y := by cases b <;> rfl
def nxt (k : S → Option (Fl × S)) (p : Fl × S) : Option (Fl × S) := match p.1 with
  | .nx => k p.2
  | _ => some p
@[simp] theorem nxt_nx (k : S → Option (Fl × S)) (s : S) : nxt k (.nx, s) = k s := nr rfl
@[simp] theorem nxt_ret (k : S → Option (Fl × S)) (d : D) (s : S) : nxt k (.ret d, s) = some (.ret d, s) := nr rfl
@[simp] theorem nxt_brk (k : S → Option (Fl × S)) (s : S) : nxt k (.brk, s) = some (.brk, s) := nr rfl
@[simp] theorem nxt_cnt (k : S → Option (Fl × S)) (s : S) : nxt k (.cnt, s) = some (.cnt, s) := nr rfl
def finR (r : Fl × S) : Option (D × List D) := match r.1 with
  | .ret v => some (v, r.2.st)
  | .nx => some (.non, r.2.st)
  | _ => none
@[simp] theorem finR_ret (v : D) (s : S) : finR (.ret v, s) = some (v, s.st) := nr rfl
@[simp] theorem finR_nx (s : S) : finR (.nx, s) = some (.non, s.st) := nr rfl
/-- a call of a def of the table -/
theorem evF_run {T : Tab} {n f : Nat} {d : Df} {ds st : List D} (hf : T[f]? = some d) (hl : ds.length = d.np) (hn : d.np ≤ d.ns) : evF T (n + 1) f ds st = bnd (evSs (evF T n) d.body ⟨ds.map .v ++ List.replicate (d.ns - d.np) .un, st⟩) finR := by
  show (T[f]?).bind _ = _
  rw [hf]
  simp only [Option.bind_some, hl, hn, decide_true, Bool.and_true, if_true]
  rfl
/-! ### slots -/
def slV : Option Sl → Option D
  | some (.v d) => some d
  | some (.o d) => some d
  | _ => none
@[simp] theorem slV_v (d : D) : slV (some (.v d)) = some d := nr rfl
@[simp] theorem slV_o (d : D) : slV (some (.o d)) = some d := nr rfl
@[simp] theorem getV_mk (ρ : List Sl) (st : List D) (i : Nat) : getV ⟨ρ, st⟩ i = slV ρ[i]? := by
  unfold getV
  rcases h : ρ[i]? with _ | (_ | _ | _) <;> rfl
def frz1 (ρ : List Sl) (st : List D) (i : Nat) : Option Sl → S
  | some (.o d) => ⟨ρ.set i (.v d), st⟩
  | _ => ⟨ρ, st⟩
@[simp] theorem frz1_o (ρ : List Sl) (st : List D) (i : Nat) (d : D) : frz1 ρ st i (some (.o d)) = ⟨ρ.set i (.v d), st⟩ := nr rfl
@[simp] theorem frz1_v (ρ : List Sl) (st : List D) (i : Nat) (d : D) : frz1 ρ st i (some (.v d)) = ⟨ρ, st⟩ := nr rfl
@[simp] theorem frzV_mk (ρ : List Sl) (st : List D) (i : Nat) : frzV ⟨ρ, st⟩ i = frz1 ρ st i ρ[i]? := by
  unfold frzV
  rcases h : ρ[i]? with _ | (_ | _ | _) <;> rfl
def pk (st : List D) : Option Sl → Option D
  | some (.v (.ref n)) => st[n]?
  | some (.o (.ref n)) => st[n]?
  | some (.v d) => some d
  | some (.o d) => some d
  | _ => none
@[simp] theorem peek_mk (ρ : List Sl) (st : List D) (i : Nat) : peek ⟨ρ, st⟩ i = pk st ρ[i]? := by
  unfold peek getV
  rcases h : ρ[i]? with _ | (_ | d | d) <;> simp only [pk] <;> (try cases d) <;> rfl
@[simp] theorem pk_ref (st : List D) (n : Nat) : pk st (some (.v (.ref n))) = st[n]? := nr rfl
@[simp] theorem pk_lst (st : List D) (xs : List D) : pk st (some (.v (.lst xs))) = some (.lst xs) := nr rfl
@[simp] theorem pk_olst (st : List D) (xs : List D) : pk st (some (.o (.lst xs))) = some (.lst xs) := nr rfl
@[simp] theorem pk_odct (st : List D) (xs : List (D × D)) : pk st (some (.o (.dct xs))) = some (.dct xs) := nr rfl
@[simp] theorem pk_dct (st : List D) (xs : List (D × D)) : pk st (some (.v (.dct xs))) = some (.dct xs) := nr rfl
@[simp] theorem pk_tup (st : List D) (xs : List D) : pk st (some (.v (.tup xs))) = some (.tup xs) := nr rfl
@[simp] theorem pk_int (st : List D) (i : Int) : pk st (some (.v (.int i))) = some (.int i) := nr rfl
@[simp] theorem pk_non (st : List D) : pk st (some (.v .non)) = some .non := nr rfl
def pok (ρ : List Sl) (st : List D) (i : Nat) (d : D) : Option Sl → Option S
  | some (.o _) => some ⟨ρ.set i (.o d), st⟩
  | some (.v (.ref n)) => if n < st.length then some ⟨ρ, st.set n d⟩ else none
  | _ => none
@[simp] theorem poke_mk (ρ : List Sl) (st : List D) (i : Nat) (d : D) : poke ⟨ρ, st⟩ i d = pok ρ st i d ρ[i]? := by
  unfold poke
  rcases h : ρ[i]? with _ | (_ | e | e) <;> simp only [pok] <;> (try cases e) <;> rfl
@[simp] theorem pok_o (ρ : List Sl) (st : List D) (i : Nat) (d e : D) : pok ρ st i d (some (.o e)) = some ⟨ρ.set i (.o d), st⟩ := nr rfl
@[simp] theorem pok_ref (ρ : List Sl) (st : List D) (i : Nat) (d : D) (n : Nat) : pok ρ st i d (some (.v (.ref n))) = if n < st.length then some ⟨ρ, st.set n d⟩ else none := nr rfl
@[simp] theorem setV_mk (ρ : List Sl) (st : List D) (i : Nat) (d : D) : setV ⟨ρ, st⟩ i d = ⟨ρ.set i (.v d), st⟩ := nr rfl
@[simp] theorem isBox_lst (xs : List D) : isBox (.lst xs) = true := nr rfl
@[simp] theorem isBox_dct (xs : List (D × D)) : isBox (.dct xs) = true := nr rfl
@[simp] theorem isBox_non : isBox .non = false := nr rfl
@[simp] theorem isBox_tup (xs : List D) : isBox (.tup xs) = false := nr rfl
@[simp] theorem isBox_int (i : Int) : isBox (.int i) = false := nr rfl
@[simp] theorem isBox_str (i : Str) : isBox (.str i) = false := nr rfl
@[simp] theorem isBox_bl (i : Bool) : isBox (.bl i) = false := nr rfl
@[simp] theorem setO_mk (ρ : List Sl) (st : List D) (i : Nat) (d : D) : setO ⟨ρ, st⟩ i d = ⟨ρ.set i (if isBox d = true then .o d else .v d), st⟩ := nr rfl
@[simp] theorem bindT_one (ρ : List Sl) (st : List D) (i : Nat) (d : D) : bindT ⟨ρ, st⟩ (.one i) d = some ⟨ρ.set i (.v d), st⟩ := nr rfl
@[simp] theorem bindT_tup (s : S) (is : List Nat) (ds : List D) : bindT s (.many is) (.tup ds) = if is.length = ds.length then some ((is.zip ds).foldl (fun s p => Ev.setV s p.1 p.2) s) else none := nr rfl
@[simp] theorem bindT_lst (s : S) (is : List Nat) (ds : List D) : bindT s (.many is) (.lst ds) = if is.length = ds.length then some ((is.zip ds).foldl (fun s p => Ev.setV s p.1 p.2) s) else none := nr rfl
@[simp] theorem slots_one (i : Nat) : (Tg.one i).slots = [i] := nr rfl
@[simp] theorem slots_many (is : List Nat) : (Tg.many is).slots = is := nr rfl
@[simp] theorem wipeS_mk (ρ : List Sl) (st : List D) (is : List Nat) : wipeS ⟨ρ, st⟩ is = ⟨is.foldl (fun ρ i => ρ.set i .un) ρ, st⟩ := nr rfl
@[simp] theorem backS_mk (ρ0 ρ : List Sl) (st0 st : List D) (is : List Nat) : backS ⟨ρ0, st0⟩ ⟨ρ, st⟩ is = ⟨is.foldl (fun ρ i => ρ.set i (ρ0.getD i .un)) ρ, st⟩ := nr rfl
def fr1 : Option Sl → Bool
  | some (.o _) => false
  | some _ => true
  | none => false
@[simp] theorem fr1_un : fr1 (some .un) = true := nr rfl
@[simp] theorem fr1_v (d : D) : fr1 (some (.v d)) = true := nr rfl
@[simp] theorem freeS_mk (ρ : List Sl) (st : List D) (is : List Nat) : freeS ⟨ρ, st⟩ is = is.all fun i => fr1 ρ[i]? := by
  unfold freeS
  congr 1
/-! ### expressions and statements -/
section
variable (F : Fn) (s : S)
@[simp] theorem s_var (i : Nat) : evE F (.var i) s = mp (getV s i) fun d => (d, frzV s i) := nr rfl
@[simp] theorem s_cst (d : D) : evE F (.cst d) s = some (d, s) := nr rfl
@[simp] theorem s_bin (o : BO) (a b : IE) : evE F (.bin o a b) s = bnd (evE F a s) fun p => bnd (evE F b p.2) fun q => mp (binD o p.1 q.1) fun d => (d, q.2) := nr rfl
@[simp] theorem s_cmp (o : CO) (a b : IE) : evE F (.cmp o a b) s = bnd (evE F a s) fun p => bnd (evE F b p.2) fun q => mp (cmpD o p.1 q.1) fun k => (.bl k, q.2) := nr rfl
@[simp] theorem s_bltV (b : Blt) (i : Nat) : evE F (.bltV b i) s = bnd (peek s i) fun c => mp (blt1 b c) fun d => (d, s) := nr rfl
@[simp] theorem s_blt (b : Blt) (a : IE) : evE F (.blt b a) s = bnd (evE F a s) fun p => mp (blt1 b p.1) fun d => (d, p.2) := nr rfl
@[simp] theorem s_mutV (m : MM) (i : Nat) (es : IEs) : evE F (.mutV m i es) s = bnd (peek s i) fun c0 => if boxOk m c0 then bnd (evEs F es s) fun p => bnd (peek p.2 i) fun c => bnd (mutD m c p.1) fun r => mp (poke p.2 i r.2) fun s' => (r.1, s') else none := nr rfl
@[simp] theorem s_setd (i : Nat) (a b : IE) : evE F (.setd i a b) s = bnd (peek s i) fun c0 => if boxOk .setdefault c0 then bnd (evE F a s) fun p => bnd (evE F b p.2) fun q => bnd (peek q.2 i) fun c => bnd (mutD .setdefault c [p.1, q.1]) fun r => mp (poke q.2 i r.2) fun s' => (r.1, s') else none := nr rfl
@[simp] theorem s_idx (a i : IE) : evE F (.idx a i) s = bnd (evE F a s) fun p => bnd (evE F i p.2) fun q => mp (idxD p.1 q.1) fun d => (d, q.2) := nr rfl
@[simp] theorem s_call (f : Nat) (es : IEs) : evE F (.call f es) s = bnd (evEs F es s) fun p => mp (F f p.1 p.2.st) fun r => (r.1, ⟨p.2.ρ, r.2⟩) := nr rfl
@[simp] theorem s_nil : evEs F .nil s = some ([], s) := nr rfl
@[simp] theorem s_cons (e : IE) (r : IEs) : evEs F (.cons e r) s = bnd (evE F e s) fun p => mp (evEs F r p.2) fun q => (p.1 :: q.1, q.2) := nr rfl
@[simp] theorem s_tup (es : IEs) : evE F (.tup es) s = bnd (evEs F es s) fun p => if p.1.length ≤ sizeLine then some (.tup p.1, p.2) else none := nr rfl
@[simp] theorem s_lst (es : IEs) : evE F (.lst es) s = bnd (evEs F es s) fun p => if p.1.length ≤ sizeLine then some (.lst p.1, p.2) else none := nr rfl
@[simp] theorem s_dct0 : evE F .dct0 s = some (.dct [], s) := nr rfl
@[simp] theorem s_un (o : UO) (a : IE) : evE F (.un o a) s = bnd (evE F a s) fun p => mp (unD o p.1) fun d => (d, p.2) := nr rfl
@[simp] theorem s_cmpV (o : CO) (a : IE) (i : Nat) : evE F (.cmpV o a i) s = bnd (evE F a s) fun p => bnd (peek p.2 i) fun c => mp (cmpD o p.1 c) fun k => (.bl k, p.2) := nr rfl
@[simp] theorem s_cmp2 (o o' : CO) (a b c : IE) : evE F (.cmp2 o o' a b c) s = bnd (evE F a s) fun p => bnd (evE F b p.2) fun q => bnd (cmpD o p.1 q.1) fun k =>
      if k then bnd (evE F c q.2) fun r => mp (cmpD o' q.1 r.1) fun k' => (.bl k', r.2) else some (.bl false, q.2) := nr rfl
@[simp] theorem s_land (a b : IE) : evE F (.land a b) s = bnd (evE F a s) fun p => selB p.1 (evE F b p.2) (some (.bl false, p.2)) := by
  show (evE F a s).bind _ = _
  congr 1; funext p
  rcases p with ⟨_ | (_ | _) | _ | _ | _ | _ | _ | _ | _, _⟩ <;> rfl
@[simp] theorem s_lor (a b : IE) : evE F (.lor a b) s = bnd (evE F a s) fun p => selB p.1 (some (.bl true, p.2)) (evE F b p.2) := by
  show (evE F a s).bind _ = _
  congr 1; funext p
  rcases p with ⟨_ | (_ | _) | _ | _ | _ | _ | _ | _ | _, _⟩ <;> rfl
@[simp] theorem s_lnot (a : IE) : evE F (.lnot a) s = bnd (evE F a s) fun p => selB p.1 (some (.bl false, p.2)) (some (.bl true, p.2)) := by
  show (evE F a s).bind _ = _
  congr 1; funext p
  rcases p with ⟨_ | (_ | _) | _ | _ | _ | _ | _ | _ | _, _⟩ <;> rfl
@[simp] theorem s_ite (c a b : IE) : evE F (.ite c a b) s = bnd (evE F c s) fun p => selB p.1 (evE F a p.2) (evE F b p.2) := by
  show (evE F c s).bind _ = _
  congr 1; funext p
  rcases p with ⟨_ | (_ | _) | _ | _ | _ | _ | _ | _ | _, _⟩ <;> rfl
@[simp] theorem s_truth (a : IE) : evE F (.truth a) s = bnd (evE F a s) fun p => mp (truthD p.1) fun k => (.bl k, p.2) := nr rfl
@[simp] theorem s_truthV (i : Nat) : evE F (.truthV i) s = bnd (peek s i) fun d => mp (truthD d) fun k => (.bl k, s) := nr rfl
@[simp] theorem s_idxV (i : Nat) (k : IE) : evE F (.idxV i k) s = bnd (peek s i) fun _ => bnd (evE F k s) fun p => bnd (peek p.2 i) fun c => mp (idxD c p.1) fun d => (d, p.2) := nr rfl
@[simp] theorem s_slc (a lo hi : IE) : evE F (.slc a lo hi) s = bnd (evE F a s) fun p => bnd (evE F lo p.2) fun q => bnd (evE F hi q.2) fun r => mp (slcD p.1 q.1 r.1) fun d => (d, r.2) := nr rfl
@[simp] theorem s_rev (a : IE) : evE F (.rev a) s = bnd (evE F a s) fun p => mp (revD p.1) fun d => (d, p.2) := nr rfl
@[simp] theorem s_bltB (b : Blt) (a a' : IE) : evE F (.bltB b a a') s = bnd (evE F a s) fun p => bnd (evE F a' p.2) fun q => mp (blt2 b p.1 q.1) fun d => (d, q.2) := nr rfl
@[simp] theorem s_nb (a : IE) : evE F (.nb a) s = bnd (evE F a s) fun p => if isBox p.1 then none else some p := nr rfl
@[simp] theorem s_ifs0 : evIfs F .nil s = some (true, s) := nr rfl
@[simp] theorem s_ifs1 (e : IE) (r : IEs) : evIfs F (.cons e r) s = bnd (evE F e s) fun p => selB p.1 (evIfs F r p.2) (some (false, p.2)) := by
  show (evE F e s).bind _ = _
  congr 1; funext p
  rcases p with ⟨_ | (_ | _) | _ | _ | _ | _ | _ | _ | _, _⟩ <;> rfl
@[simp] theorem t_nil : evSs F .nil s = some (.nx, s) := nr rfl
@[simp] theorem t_cons (a : IS) (r : ISs) : evSs F (.cons a r) s = bnd (evS F a s) (nxt fun s => evSs F r s) := nr rfl
@[simp] theorem t_ret (e : IE) : evS F (.ret e) s = mp (evE F e s) fun p => (.ret p.1, p.2) := nr rfl
@[simp] theorem t_ite (c : IE) (a b : ISs) : evS F (.ite c a b) s = bnd (evE F c s) fun p => selB p.1 (evSs F a p.2) (evSs F b p.2) := by
  show (evE F c s).bind _ = _
  congr 1; funext p
  rcases p with ⟨_ | (_ | _) | _ | _ | _ | _ | _ | _ | _, _⟩ <;> rfl
@[simp] theorem t_expr (e : IE) : evS F (.expr e) s = mp (evE F e s) fun p => (.nx, p.2) := nr rfl
@[simp] theorem t_setV (i : Nat) (e : IE) : evS F (.setV i e) s = bnd (evE F e s) fun p => if i < p.2.ρ.length then some (.nx, setV p.2 i p.1) else none := nr rfl
@[simp] theorem t_setO (i : Nat) (e : IE) : evS F (.setO i e) s = bnd (evE F e s) fun p => if i < p.2.ρ.length then some (.nx, setO p.2 i p.1) else none := nr rfl
@[simp] theorem t_setR (i : Nat) (e : IE) : evS F (.setR i e) s = bnd (evE F e s) fun p => if isBox p.1 && decide (i < p.2.ρ.length) then some (.nx, { ρ := p.2.ρ.set i (.v (.ref p.2.st.length)), st := p.2.st ++ [p.1] }) else none := nr rfl
@[simp] theorem t_setT (is : List Nat) (e : IE) : evS F (.setT is e) s = bnd (evE F e s) fun p => (bindT p.2 (.many is) p.1).map fun s' => (.nx, s') := nr rfl
@[simp] theorem t_item (i : Nat) (k v : IE) : evS F (.item i k v) s = bnd (peek s i) fun _ => bnd (evE F v s) fun p => bnd (evE F k p.2) fun q => bnd (peek q.2 i) fun c => bnd (storeD c q.1 p.1) fun d => mp (poke q.2 i d) fun s' => (.nx, s') := nr rfl
def rto : Option Sl → S → Option (Fl × S)
  | some (.o d), s => some (.ret d, s)
  | _, _ => none
@[simp] theorem rto_o (d : D) : rto (some (.o d)) s = some (.ret d, s) := nr rfl
@[simp] theorem t_retO (i : Nat) : evS F (.retO i) s = rto s.ρ[i]? s := by
  show (match s.ρ[i]? with
      | some (.o d) => some (Fl.ret d, s)
      | _ => none) = _
  rcases h : s.ρ[i]? with _ | (_ | _ | _) <;> rfl
@[simp] theorem t_brk : evS F .brk s = some (.brk, s) := nr rfl
@[simp] theorem t_cnt : evS F .cnt s = some (.cnt, s) := nr rfl
@[simp] theorem t_nop : evS F .nop s = some (.nx, s) := nr rfl
end
/-! ### data -/
@[simp] theorem b_len (xs : List D) : blt1 .len (.lst xs) = some (.int xs.length) := nr rfl
@[simp] theorem b_lenT (xs : List D) : blt1 .len (.tup xs) = some (.int xs.length) := nr rfl
@[simp] theorem b_lenS (z : Str) : blt1 .len (.str z) = if z.length ≤ sizeLine then some (.int z.length) else none := nr rfl
@[simp] theorem b_lenD (xs : List (D × D)) : blt1 .len (.dct xs) = some (.int xs.length) := nr rfl
@[simp] theorem b_int (i : Int) : blt1 .int (.int i) = some (.int i) := nr rfl
@[simp] theorem b_intB (i : Bool) : blt1 .int (.bl i) = some (.int (b2i i)) := nr rfl
@[simp] theorem b_tupL (xs : List D) : blt1 .tuple (.lst xs) = some (.tup xs) := nr rfl
@[simp] theorem b_tupT (xs : List D) : blt1 .tuple (.tup xs) = some (.tup xs) := nr rfl
@[simp] theorem b_lstL (xs : List D) : blt1 .list (.lst xs) = some (.lst xs) := nr rfl
@[simp] theorem b_lstT (xs : List D) : blt1 .list (.tup xs) = some (.lst xs) := nr rfl
@[simp] theorem b_lstD (xs : List (D × D)) : blt1 .list (.dct xs) = some (.lst (xs.map (·.1))) := nr rfl
@[simp] theorem b_dctD (xs : List (D × D)) : blt1 .dict (.dct xs) = some (.dct xs) := nr rfl
@[simp] theorem b_srt (xs : List D) : blt1 .sorted (.lst xs) = sortD xs := nr rfl
@[simp] theorem b_srtD (xs : List (D × D)) : blt1 .sorted (.dct xs) = sortD (xs.map (·.1)) := nr rfl
@[simp] theorem b_isiI (ts : List Ty) (x : Int) : blt1 (.isi ts) (.int x) = some (.bl (ts.any (tyOf (.int x)))) := nr rfl
@[simp] theorem b_isiS (ts : List Ty) (x : Str) : blt1 (.isi ts) (.str x) = some (.bl (ts.any (tyOf (.str x)))) := nr rfl
@[simp] theorem b_isiT (ts : List Ty) (x : List D) : blt1 (.isi ts) (.tup x) = some (.bl (ts.any (tyOf (.tup x)))) := nr rfl
@[simp] theorem b_isiL (ts : List Ty) (x : List D) : blt1 (.isi ts) (.lst x) = some (.bl (ts.any (tyOf (.lst x)))) := nr rfl
@[simp] theorem b_isiB (ts : List Ty) (x : Bool) : blt1 (.isi ts) (.bl x) = some (.bl (ts.any (tyOf (.bl x)))) := nr rfl
@[simp] theorem b_isiN (ts : List Ty) : blt1 (.isi ts) .non = some (.bl (ts.any (tyOf .non))) := nr rfl
@[simp] theorem ty_int (x : Int) (t : Ty) : tyOf (.int x) t = decide (t = .int) := nr rfl
@[simp] theorem ty_bl (x : Bool) (t : Ty) : tyOf (.bl x) t = (decide (t = .bool) || decide (t = .int)) := nr rfl
@[simp] theorem ty_str (x : Str) (t : Ty) : tyOf (.str x) t = decide (t = .str) := nr rfl
@[simp] theorem ty_tup (x : List D) (t : Ty) : tyOf (.tup x) t = decide (t = .tuple) := nr rfl
@[simp] theorem ty_lst (x : List D) (t : Ty) : tyOf (.lst x) t = decide (t = .list) := nr rfl
@[simp] theorem ty_dct (x : List (D × D)) (t : Ty) : tyOf (.dct x) t = decide (t = .dict) := nr rfl
@[simp] theorem ty_non (t : Ty) : tyOf .non t = false := nr rfl
@[simp] theorem c_eqI (a b : Int) : cmpD .eq (.int a) (.int b) = some (a == b) := nr rfl
@[simp] theorem c_neI (a b : Int) : cmpD .ne (.int a) (.int b) = some (!(a == b)) := nr rfl
@[simp] theorem c_eqS (a b : Str) : cmpD .eq (.str a) (.str b) = some (a == b) := nr rfl
@[simp] theorem c_neS (a b : Str) : cmpD .ne (.str a) (.str b) = some (!(a == b)) := nr rfl
@[simp] theorem c_eqB (a b : Bool) : cmpD .eq (.bl a) (.bl b) = some (a == b) := nr rfl
@[simp] theorem c_neB (a b : Bool) : cmpD .ne (.bl a) (.bl b) = some (!(a == b)) := nr rfl
@[simp] theorem c_gtI (a b : Int) : cmpD .gt (.int a) (.int b) = some (decide (b < a)) := nr rfl
@[simp] theorem c_ltI (a b : Int) : cmpD .lt (.int a) (.int b) = some (decide (a < b)) := nr rfl
@[simp] theorem c_leI (a b : Int) : cmpD .le (.int a) (.int b) = some (decide (a ≤ b)) := nr rfl
@[simp] theorem c_geI (a b : Int) : cmpD .ge (.int a) (.int b) = some (decide (b ≤ a)) := nr rfl
@[simp] theorem c_isN (a : D) : cmpD .is a .non = some (decide (a = .non)) := nr rfl
@[simp] theorem c_isnN (a : D) : cmpD .isn a .non = some (!decide (a = .non)) := nr rfl
@[simp] theorem c_isB (a b : Bool) : cmpD .is (.bl a) (.bl b) = some (decide (a = b)) := nr rfl
@[simp] theorem c_isnB (a b : Bool) : cmpD .isn (.bl a) (.bl b) = some (!decide (a = b)) := nr rfl
@[simp] theorem o_mod (a b : Int) : binD .mod (.int a) (.int b) = if 0 < b then some (.int (a % b)) else none := nr rfl
@[simp] theorem o_add (a b : Int) : binD .add (.int a) (.int b) = some (.int (a + b)) := nr rfl
@[simp] theorem o_sub (a b : Int) : binD .sub (.int a) (.int b) = some (.int (a - b)) := nr rfl
@[simp] theorem o_addT (a b : List D) : binD .add (.tup a) (.tup b) = if a.length + b.length ≤ sizeLine then some (.tup (a ++ b)) else none := nr rfl
@[simp] theorem o_addL (a b : List D) : binD .add (.lst a) (.lst b) = if a.length + b.length ≤ sizeLine then some (.lst (a ++ b)) else none := nr rfl
@[simp] theorem o_addS (a b : Str) : binD .add (.str a) (.str b) = if a.length + b.length ≤ sizeLine then some (.str (a ++ b)) else none := nr rfl
@[simp] theorem u_neg (a : Int) : unD .neg (.int a) = some (.int (-a)) := nr rfl
@[simp] theorem u_part (a : Int) : unD .part (.int a) = some (.int a) := nr rfl
@[simp] theorem tr_lst (xs : List D) : truthD (.lst xs) = some (!xs.isEmpty) := nr rfl
@[simp] theorem tr_tup (xs : List D) : truthD (.tup xs) = some (!xs.isEmpty) := nr rfl
@[simp] theorem tr_bl (b : Bool) : truthD (.bl b) = some b := nr rfl
@[simp] theorem tr_int (b : Int) : truthD (.int b) = some (b != 0) := nr rfl
@[simp] theorem m_pop0 (xs : List D) (y : D) : mutD .pop0 (.lst (xs ++ [y])) [] = some (y, D.lst xs) := by
  show (match (xs ++ [y])[(xs ++ [y]).length - 1]? with
    | some y' => some (y', D.lst (xs ++ [y]).dropLast)
    | none => none) = _
  simp
@[simp] theorem m_app (xs : List D) (d : D) : mutD .append (.lst xs) [d] = if xs.length < sizeLine then some (.non, .lst (xs ++ [d])) else none := nr rfl
@[simp] theorem m_ext (xs ys : List D) : mutD .extend (.lst xs) [.lst ys] = if xs.length + ys.length ≤ sizeLine then some (.non, .lst (xs ++ ys)) else none := nr rfl
@[simp] theorem m_rev (xs : List D) : mutD .reverse (.lst xs) [] = some (.non, .lst xs.reverse) := nr rfl
@[simp] theorem bx_lst (m : MM) (xs : List D) : boxOk m (.lst xs) = !decide (m = .setdefault) := by cases m <;> rfl
@[simp] theorem bx_dct (m : MM) (xs : List (D × D)) : boxOk m (.dct xs) = decide (m = .setdefault) := by cases m <;> rfl
@[simp] theorem i_tup (xs : List D) (k : Int) : idxD (.tup xs) (.int k) = L2.atI xs k := nr rfl
@[simp] theorem i_lst (xs : List D) (k : Int) : idxD (.lst xs) (.int k) = L2.atI xs k := nr rfl
@[simp] theorem i_dctS (xs : List (D × D)) (k : Str) : idxD (.dct xs) (.str k) = dget xs (.str k) := nr rfl
@[simp] theorem i_dctI (xs : List (D × D)) (k : Int) : idxD (.dct xs) (.int k) = dget xs (.int k) := nr rfl
theorem atI_nat {α : Type} {row : List α} {k : Nat} {d : α} (hk : row[k]? = some d) : L2.atI row (k : Int) = some d := by
  have hl := (List.getElem?_eq_some_iff.mp hk).1
  have e : L2.ixN row.length (k : Int) = some k := by
    unfold L2.ixN
    rw [if_pos (Int.natCast_nonneg k), if_pos (by omega)]
    rfl
  unfold L2.atI
  rw [e]
  exact hk
@[simp] theorem at0 {α : Type} (a : α) (r : List α) : L2.atI (a :: r) 0 = some a := atI_nat (k := 0) rfl
@[simp] theorem at1 {α : Type} (a b : α) (r : List α) : L2.atI (a :: b :: r) 1 = some b := atI_nat (k := 1) rfl
@[simp] theorem at2 {α : Type} (a b c : α) (r : List α) : L2.atI (a :: b :: c :: r) 2 = some c := atI_nat (k := 2) rfl
@[simp] theorem at3 {α : Type} (a b c d : α) (r : List α) : L2.atI (a :: b :: c :: d :: r) 3 = some d := atI_nat (k := 3) rfl
@[simp] theorem it_lst (xs : List D) : itemsD .seq [.lst xs] = some xs := nr rfl
@[simp] theorem it_tup (xs : List D) : itemsD .seq [.tup xs] = some xs := nr rfl
@[simp] theorem sizeL : sizeLine = 16777216 := nr rfl
theorem small_of {n : Nat} (h : n ≤ 100000) : small62 (n : Int) = true := by
  unfold small62
  rw [Bool.and_eq_true, decide_eq_true_iff, decide_eq_true_iff]
  have h0 : (-(2 ^ 62) : Int) ≤ 0 := by decide
  have h1 : (0 : Int) ≤ 2 ^ 62 := by decide
  have h2 : (100000 : Int) < 2 ^ 62 := by decide
  constructor <;> omega
theorem it_range {n : Nat} (h : n ≤ 100000) : itemsD .range1 [.int (n : Int)] = some ((List.range n).map fun k => .int (k : Int)) := by
  have e : itemsD .range1 [.int (n : Int)] = if small62 (n : Int) then some (rangeD 0 (n : Int).toNat) else none := by simp only [itemsD]
  rw [e, if_pos (small_of h), Int.toNat_natCast]
  simp [rangeD]
/-! ### ok -/
def ok {α : Type} (o : Option α) (Q : α → Prop) : Prop := ∃ a, o = some a ∧ Q a
section
variable {α β : Type}
@[simp] theorem ok_some (a : α) (Q : α → Prop) : ok (some a) Q ↔ Q a := ⟨fun ⟨_, e, h⟩ => by cases e; exact h, fun h => ⟨a, rfl, h⟩⟩
@[simp] theorem ok_none (Q : α → Prop) : ok (none : Option α) Q ↔ False := ⟨fun h => (by obtain ⟨_, e, _⟩ := h; cases e), False.elim⟩
@[simp] theorem ok_bind (o : Option α) (f : α → Option β) (Q : β → Prop) : ok (o.bind f) Q ↔ ok o fun a => ok (f a) Q := by
  cases o with
  | none => simp
  | some a => simp
@[simp] theorem ok_map (o : Option α) (f : α → β) (Q : β → Prop) : ok (o.map f) Q ↔ ok o fun a => Q (f a) := by
  cases o with
  | none => simp
  | some a => simp
@[simp] theorem ok_bnd (o : Option α) (f : α → Option β) (Q : β → Prop) : ok (bnd o f) Q ↔ ok o fun a => ok (f a) Q := ok_bind o f Q
@[simp] theorem ok_mp (o : Option α) (f : α → β) (Q : β → Prop) : ok (mp o f) Q ↔ ok o fun a => Q (f a) := ok_map o f Q
@[simp] theorem ok_ite (c : Prop) [Decidable c] (a b : Option α) (Q : α → Prop) : ok (if c then a else b) Q ↔ (c → ok a Q) ∧ (¬ c → ok b Q) := by
  split <;> simp_all
theorem ok_mono {o : Option α} {P Q : α → Prop} (h : ok o P) (hi : ∀ a, P a → Q a) : ok o Q := by
  obtain ⟨a, e, p⟩ := h
  exact ⟨a, e, hi a p⟩
theorem ok_eq {o : Option α} {a : α} (h : o = some a) {Q : α → Prop} (q : Q a) : ok o Q := ⟨a, h, q⟩
theorem eq_ok {o : Option α} {a : α} (h : ok o fun x => x = a) : o = some a := by
  obtain ⟨b, e, rfl⟩ := h
  exact e
end
/-! ### the store of draws -/
def dr (xs : List Int) (rest : List D) : List D := .lst (xs.map .int) :: rest
/-- a def that draws: whatever the draws, it hands back something of P and leaves draws -/
def Gen (F : Fn) (f : Nat) (args : List D) (P : D → Prop) : Prop := ∀ (xs : List Int) (rest : List D), ok (F f (.ref 0 :: args) (dr xs rest)) fun r => P r.1 ∧ ∃ ys, r.2 = dr ys rest
theorem Gen.bnd {F : Fn} {f : Nat} {args : List D} {P : D → Prop} (h : Gen F f args P) {xs : List Int} {rest : List D} {Q : D × List D → Prop} (hq : ∀ d ys, P d → Q (d, dr ys rest)) : ok (F f (.ref 0 :: args) (dr xs rest)) Q := by
  refine ok_mono (h xs rest) fun r hr => ?_
  obtain ⟨d, st⟩ := r
  obtain ⟨hp, ys, e⟩ := hr
  simp only at e hp
  subst e
  exact hq d ys hp
/-! ### folds -/
theorem fold_inv {α β : Type} {f : α → β → Option β} (P : Nat → β → Prop) : ∀ {l : List α} {b0 : β} (j : Nat), P j b0 → (∀ (i : Nat) (a : α) (b : β), l[i]? = some a → P (j + i) b → ∃ b', f a b = some b' ∧ P (j + i + 1) b') → ∃ b', foldO f l b0 = some b' ∧ P (j + l.length) b'
  | [], b0, j, h0, _ => ⟨b0, rfl, h0⟩
  | a :: l, b0, j, h0, step => by
    obtain ⟨b1, e1, p1⟩ := step 0 a b0 rfl h0
    obtain ⟨b2, e2, p2⟩ := fold_inv P (l := l) (b0 := b1) (j + 1) p1 fun i x b hx hb => by
      have e : j + 1 + i = j + (i + 1) := by omega
      rw [e] at hb ⊢
      exact step (i + 1) x b (by simpa using hx) hb
    refine ⟨b2, ?_, ?_⟩
    · unfold foldO
      rw [e1]
      exact e2
    · have e : j + 1 + l.length = j + (a :: l).length := by rw [List.length_cons]; omega
      rw [← e]
      exact p2
theorem fold_ok {α β : Type} {f : α → β → Option β} (P : Nat → β → Prop) {l : List α} {b0 : β} (h0 : P 0 b0) (step : ∀ (i : Nat) (a : α) (b : β), l[i]? = some a → P i b → ok (f a b) fun b' => P (i + 1) b') : ok (foldO f l b0) fun b' => P l.length b' := by
  obtain ⟨b', e, p⟩ := fold_inv (f := f) P (l := l) (b0 := b0) 0 h0 fun i a b ha hb => by
    rw [Nat.zero_add] at hb ⊢
    obtain ⟨b', e, q⟩ := step i a b ha hb
    exact ⟨b', e, q⟩
  rw [Nat.zero_add] at p
  exact ⟨b', e, p⟩
theorem sets_at (f : Nat → Sl) : ∀ (is : List Nat) (ρ : List Sl) (j : Nat), (is.foldl (fun ρ i => ρ.set i (f i)) ρ)[j]? = if j ∈ is then (ρ[j]?).map fun _ => f j else ρ[j]?
  | [], ρ, j => by simp
  | i :: is, ρ, j => by
    rw [List.foldl_cons, sets_at f is, List.getElem?_set]
    by_cases hi : i = j
    · subst hi
      by_cases hl : i < ρ.length
      · simp [hl]
      · simp [hl]
    · have hi' : ¬ j = i := fun e => hi e.symm
      simp [hi, hi']
theorem back_of_wipe {s1 s2 : S} {is : List Nat} {ρw : List Sl} {st st' : List D} (h1 : wipeS s1 is = ⟨ρw, st⟩) (h2 : wipeS s2 is = ⟨ρw, st'⟩) : backS s1 s2 is = ⟨s1.ρ, st'⟩ := by
  have e : is.foldl (fun ρ i => ρ.set i .un) s1.ρ = is.foldl (fun ρ i => ρ.set i .un) s2.ρ := by
    have a1 := congrArg S.ρ h1
    have a2 := congrArg S.ρ h2
    simp only [wipeS] at a1 a2
    rw [a1, a2]
  have hst : s2.st = st' := congrArg S.st h2
  show S.mk _ _ = _
  rw [hst]
  congr 1
  apply List.ext_getElem?
  intro j
  have ej := congrArg (fun l => l[j]?) e
  simp only [sets_at] at ej ⊢
  split
  · rename_i hj
    rw [if_pos hj, if_pos hj] at ej
    rw [List.getD_eq_getElem?_getD]
    cases h1 : s1.ρ[j]? <;> cases h2 : s2.ρ[j]? <;> simp_all
  · rename_i hj
    rw [if_neg hj, if_neg hj] at ej
    exact ej.symm
theorem wipeS_wipeS (s : S) (is : List Nat) : wipeS (wipeS s is) is = wipeS s is := by
  simp only [wipeS]
  congr 1
  apply List.ext_getElem?
  intro j
  simp only [sets_at]
  split
  · cases s.ρ[j]? <;> rfl
  · rfl
/-! ### comprehensions -/
/-- with an invariant; the store may change -/
theorem comp_ok {F : Fn} {ts : Tg} {k : SK} {src ifs : IEs} {elt : IE} {ρ : List Sl} {st0 : List D} {items : List D} (P : Nat → List D → List D → Prop)
    (h1 : ok (evEs F src ⟨ρ, st0⟩) fun p => itemsD k p.1 = some items ∧ p.2.ρ = ρ ∧ P 0 [] p.2.st) (h3 : freeS ⟨ρ, st0⟩ ts.slots = true) (hl : items.length ≤ sizeLine)
    (step : ∀ (i : Nat) (d : D) (acc st : List D), items[i]? = some d → P i acc st → ok (bindT (wipeS ⟨ρ, st⟩ ts.slots) ts d) fun sb => ok (evIfs F ifs sb) fun c =>
      (c.1 = true → ok (evE F elt c.2) fun r => (wipeS r.2 ts.slots).ρ = (wipeS ⟨ρ, st0⟩ ts.slots).ρ ∧ P (i + 1) (acc ++ [r.1]) r.2.st) ∧ (c.1 = false → (wipeS c.2 ts.slots).ρ = (wipeS ⟨ρ, st0⟩ ts.slots).ρ ∧ P (i + 1) acc c.2.st)) :
    ok (evE F (.comp ts k src ifs elt) ⟨ρ, st0⟩) fun r => ∃ acc st, r = (.lst acc, ⟨ρ, st⟩) ∧ P items.length acc st := by
  obtain ⟨⟨ds, ⟨ρ', st1⟩⟩, e1, h2, e2, h0⟩ := h1
  simp only at e2 h2 h0
  subst e2
  have h3' : freeS ⟨ρ', st1⟩ ts.slots = true := h3
  show ok ((evEs F src ⟨ρ', st0⟩).bind _) _
  rw [e1]
  simp only [Option.bind_some, h2, h3', if_true]
  rw [ok_map]
  refine ok_mono (fold_ok (fun i (b : List D × S) => b.1.length ≤ i ∧ (wipeS b.2 ts.slots).ρ = (wipeS ⟨ρ', st0⟩ ts.slots).ρ ∧ P i b.1 b.2.st) ⟨Nat.zero_le 0, ?_, h0⟩ ?_) ?_
  · show (wipeS (wipeS ⟨ρ', st1⟩ ts.slots) ts.slots).ρ = (wipeS ⟨ρ', st1⟩ ts.slots).ρ
    rw [wipeS_wipeS]
  · intro i d b hd ⟨g1, g2, g3⟩
    obtain ⟨acc, sC⟩ := b
    simp only at g1 g2 g3 ⊢
    have ew : wipeS sC ts.slots = wipeS ⟨ρ', sC.st⟩ ts.slots := by
      have : wipeS sC ts.slots = ⟨(wipeS sC ts.slots).ρ, sC.st⟩ := rfl
      rw [this, g2]
      rfl
    rw [ok_bind, ew]
    refine ok_mono (step i d acc sC.st hd g3) fun sb hb => ?_
    rw [ok_bind]
    refine ok_mono hb fun c hc => ?_
    have hi := (List.getElem?_eq_some_iff.mp hd).1
    by_cases hc1 : c.1 = true
    · rw [if_pos hc1, ok_bind]
      refine ok_mono (hc.1 hc1) fun r hr => ?_
      rw [if_pos (by omega), ok_some]
      exact ⟨by rw [List.length_append, List.length_singleton]; omega, hr⟩
    · rw [if_neg hc1, ok_some]
      have := hc.2 (by simpa using hc1)
      exact ⟨by simp only; omega, this⟩
  · intro b ⟨g1, g2, g3⟩
    refine ⟨b.1, b.2.st, ?_, g3⟩
    have := back_of_wipe (s1 := ⟨ρ', st1⟩) (s2 := b.2) (is := ts.slots) (ρw := (wipeS ⟨ρ', st0⟩ ts.slots).ρ) (st := st1) (st' := b.2.st) rfl (by rw [← g2]; rfl)
    rw [this]
/-- over a typed row, the state as it was -/
theorem compP {F : Fn} {ts : Tg} {k : SK} {src ifs : IEs} {elt : IE} {ρ : List Sl} {st : List D} {α : Type} (emb : α → D) (xs : List α) (p : α → Bool) (g : α → D)
    (h1 : ok (evEs F src ⟨ρ, st⟩) fun q => itemsD k q.1 = some (xs.map emb) ∧ q.2.ρ = ρ ∧ q.2.st = st) (h3 : freeS ⟨ρ, st⟩ ts.slots = true) (hl : xs.length ≤ sizeLine)
    (h5 : ∀ x ∈ xs, ok (bindT (wipeS ⟨ρ, st⟩ ts.slots) ts (emb x)) fun sb => ok (evIfs F ifs sb) fun c => c.1 = p x ∧
      (p x = true → ok (evE F elt c.2) fun r => r.1 = g x ∧ (wipeS r.2 ts.slots).ρ = (wipeS ⟨ρ, st⟩ ts.slots).ρ ∧ r.2.st = st) ∧ (p x = false → (wipeS c.2 ts.slots).ρ = (wipeS ⟨ρ, st⟩ ts.slots).ρ ∧ c.2.st = st)) :
    evE F (.comp ts k src ifs elt) ⟨ρ, st⟩ = some (.lst ((xs.filter p).map g), ⟨ρ, st⟩) := by
  refine eq_ok (ok_mono (comp_ok (items := xs.map emb) (fun i acc st' => acc = ((xs.take i).filter p).map g ∧ st' = st) (ok_mono h1 fun q hq => ⟨hq.1, hq.2.1, rfl, hq.2.2⟩) h3 (by rwa [List.length_map]) ?_) ?_)
  · rintro i d acc st' hd ⟨rfl, rfl⟩
    obtain ⟨x, hx, rfl⟩ : ∃ x, xs[i]? = some x ∧ emb x = d := by simpa using hd
    refine ok_mono (h5 x (List.mem_of_getElem? hx)) fun sb hb => ok_mono hb fun c hc => ?_
    obtain ⟨c1, c2, c3⟩ := hc
    have et : xs.take (i + 1) = xs.take i ++ [x] := by rw [List.take_succ, hx]; rfl
    rw [et, List.filter_append, List.map_append, List.filter_cons, c1]
    refine ⟨fun h => ?_, fun h => ?_⟩
    · rw [h]
      refine ok_mono (c2 h) fun r hr => ⟨hr.2.1, ?_, hr.2.2⟩
      rw [hr.1]
      rfl
    · rw [h]
      exact ⟨(c3 h).1, by simp, (c3 h).2⟩
  · rintro r ⟨acc, st', rfl, rfl, rfl⟩
    rw [List.length_map, List.take_length]
/-- without a test -/
theorem compM {F : Fn} {ts : Tg} {k : SK} {src : IEs} {elt : IE} {ρ : List Sl} {st : List D} {α : Type} (emb : α → D) (xs : List α) (g : α → D)
    (h1 : ok (evEs F src ⟨ρ, st⟩) fun q => itemsD k q.1 = some (xs.map emb) ∧ q.2.ρ = ρ ∧ q.2.st = st) (h3 : freeS ⟨ρ, st⟩ ts.slots = true) (hl : xs.length ≤ sizeLine)
    (h5 : ∀ x ∈ xs, ok (bindT (wipeS ⟨ρ, st⟩ ts.slots) ts (emb x)) fun sb => ok (evE F elt sb) fun r => r.1 = g x ∧ (wipeS r.2 ts.slots).ρ = (wipeS ⟨ρ, st⟩ ts.slots).ρ ∧ r.2.st = st) :
    evE F (.comp ts k src .nil elt) ⟨ρ, st⟩ = some (.lst (xs.map g), ⟨ρ, st⟩) := by
  have e := compP (F := F) (ts := ts) (k := k) (src := src) (ifs := .nil) (elt := elt) (ρ := ρ) (st := st) emb xs (fun _ => true) g h1 h3 hl fun x hx => ok_mono (h5 x hx) fun sb hb => by
    rw [s_ifs0, ok_some]
    exact ⟨rfl, fun _ => hb, fun h => by cases h⟩
  rwa [List.filter_eq_self.mpr (fun _ _ => rfl)] at e
/-- a row of n things drawn one by one -/
theorem compG {F : Fn} {ts : Tg} {k : SK} {src ifs : IEs} {elt : IE} {ρ : List Sl} {xs : List Int} {rest : List D} {items : List D} (R : D → Prop)
    (h1 : ok (evEs F src ⟨ρ, dr xs rest⟩) fun p => itemsD k p.1 = some items ∧ p.2.ρ = ρ ∧ ∃ ys, p.2.st = dr ys rest) (h3 : freeS ⟨ρ, dr xs rest⟩ ts.slots = true) (hl : items.length ≤ sizeLine)
    (step : ∀ d ∈ items, ∀ ys, ok (bindT (wipeS ⟨ρ, dr ys rest⟩ ts.slots) ts d) fun sb => ok (evIfs F ifs sb) fun c => c.1 = true ∧
      ok (evE F elt c.2) fun r => (wipeS r.2 ts.slots).ρ = (wipeS ⟨ρ, dr xs rest⟩ ts.slots).ρ ∧ R r.1 ∧ ∃ zs, r.2.st = dr zs rest) :
    ok (evE F (.comp ts k src ifs elt) ⟨ρ, dr xs rest⟩) fun r => ∃ acc ys, r = (.lst acc, ⟨ρ, dr ys rest⟩) ∧ acc.length = items.length ∧ ∀ d ∈ acc, R d := by
  refine ok_mono (comp_ok (items := items) (fun i acc st' => acc.length = i ∧ (∀ d ∈ acc, R d) ∧ ∃ ys, st' = dr ys rest) (ok_mono h1 fun q hq => ⟨hq.1, hq.2.1, rfl, by simp, hq.2.2⟩) h3 hl ?_) ?_
  · rintro i d acc st' hd ⟨a1, a2, ys, rfl⟩
    refine ok_mono (step d (List.mem_of_getElem? hd) ys) fun sb hb => ok_mono hb fun c hc => ⟨fun _ => ?_, fun h => by rw [hc.1] at h; cases h⟩
    refine ok_mono hc.2 fun r hr => ⟨hr.1, by rw [List.length_append, a1]; rfl, ?_, hr.2.2⟩
    intro y hy
    rcases List.mem_append.mp hy with h | h
    · exact a2 y h
    · rw [List.mem_singleton] at h
      exact h ▸ hr.2.1
  · rintro r ⟨acc, st', rfl, a1, a2, ys, rfl⟩
    exact ⟨acc, ys, rfl, a1, a2⟩
/-- a dict comprehension over a typed row -/
theorem dcompP {F : Fn} {ts : Tg} {k : SK} {src : IEs} {ek ev : IE} {ρ : List Sl} {st : List D} {α : Type} (emb : α → D) (xs : List α) (g h : α → D)
    (h1 : ok (evEs F src ⟨ρ, st⟩) fun q => itemsD k q.1 = some (xs.map emb) ∧ q.2.ρ = ρ ∧ q.2.st = st) (h3 : freeS ⟨ρ, st⟩ ts.slots = true) (hl : xs.length ≤ sizeLine)
    (h5 : ∀ x ∈ xs, ok (bindT (wipeS ⟨ρ, st⟩ ts.slots) ts (emb x)) fun sb => ok (evE F ek sb) fun c => ok (evE F ev c.2) fun r =>
      c.1 = g x ∧ r.1 = h x ∧ keyOk1 (g x) = true ∧ (wipeS r.2 ts.slots).ρ = (wipeS ⟨ρ, st⟩ ts.slots).ρ ∧ r.2.st = st) :
    evE F (.dcomp ts k src ek ev) ⟨ρ, st⟩ = some (.dct (xs.foldl (fun a x => dput a (g x) (h x)) []), ⟨ρ, st⟩) := by
  obtain ⟨⟨ds, ⟨ρ', st1⟩⟩, e1, h2, e2, h0⟩ := h1
  simp only at e2 h2 h0
  subst e2 h0
  apply eq_ok
  show ok ((evEs F src ⟨ρ', st1⟩).bind _) _
  rw [e1]
  simp only [Option.bind_some, h2, h3, if_true]
  rw [ok_map]
  refine ok_mono (fold_ok (fun i (b : List (D × D) × S) => b.1.length ≤ i ∧ (wipeS b.2 ts.slots).ρ = (wipeS ⟨ρ', st1⟩ ts.slots).ρ ∧ b.1 = (xs.take i).foldl (fun a x => dput a (g x) (h x)) [] ∧ b.2.st = st1) ⟨Nat.zero_le 0, ?_, rfl, rfl⟩ ?_) ?_
  · show (wipeS (wipeS ⟨ρ', st1⟩ ts.slots) ts.slots).ρ = (wipeS ⟨ρ', st1⟩ ts.slots).ρ
    rw [wipeS_wipeS]
  · rintro i d b hd ⟨g1, g2, g3, g4⟩
    obtain ⟨acc, sC⟩ := b
    simp only at g1 g2 g3 g4 ⊢
    obtain ⟨x, hx, rfl⟩ : ∃ x, xs[i]? = some x ∧ emb x = d := by simpa using hd
    have hi := (List.getElem?_eq_some_iff.mp hx).1
    have ew : wipeS sC ts.slots = wipeS ⟨ρ', st1⟩ ts.slots := by
      have : wipeS sC ts.slots = ⟨(wipeS sC ts.slots).ρ, sC.st⟩ := rfl
      rw [this, g2, g4]
      rfl
    rw [ok_bind, ew]
    refine ok_mono (h5 x (List.mem_of_getElem? hx)) fun sb hb => ?_
    rw [ok_bind]
    refine ok_mono hb fun c hc => ?_
    rw [ok_bind]
    refine ok_mono hc fun r hr => ?_
    rw [hr.1, hr.2.1, hr.2.2.1, if_pos (by rw [Bool.true_and]; exact decide_eq_true (by omega)), ok_some]
    have et : xs.take (i + 1) = xs.take i ++ [x] := by rw [List.take_succ, hx]; rfl
    refine ⟨?_, hr.2.2.2.1, ?_, hr.2.2.2.2⟩
    · simp only [dput]
      split
      · rw [List.length_map]; omega
      · rw [List.length_append, List.length_singleton]; omega
    · rw [et, List.foldl_append, ← g3]
      rfl
  · intro b ⟨g1, g2, g3, g4⟩
    have := back_of_wipe (s1 := ⟨ρ', st1⟩) (s2 := b.2) (is := ts.slots) (ρw := (wipeS ⟨ρ', st1⟩ ts.slots).ρ) (st := st1) (st' := st1) rfl (by rw [← g2, ← g4]; rfl)
    rw [this, g3, List.length_map, List.take_length]
theorem wipeS_more (s : S) (is js : List Nat) : wipeS (wipeS s js) (is ++ js) = wipeS s (is ++ js) := by
  simp only [wipeS]
  congr 1
  apply List.ext_getElem?
  intro j
  simp only [sets_at, List.mem_append]
  by_cases h1 : j ∈ is <;> by_cases h2 : j ∈ js <;> simp [h1, h2, Function.comp_def]
/-- two clauses over typed rows -/
theorem comp2P {F : Fn} {ts ts' : Tg} {k k' : SK} {src src' : IEs} {elt : IE} {ρ : List Sl} {st : List D} {α β : Type} (emb : α → D) (emb' : β → D) (xs : List α) (ys : α → List β) (g : α → β → D)
    (h1 : ok (evEs F src ⟨ρ, st⟩) fun q => itemsD k q.1 = some (xs.map emb) ∧ q.2.ρ = ρ ∧ q.2.st = st) (h3 : freeS ⟨ρ, st⟩ (ts.slots ++ ts'.slots) = true) (hl : (xs.flatMap fun x => (ys x).map (g x)).length ≤ sizeLine)
    (h5 : ∀ x ∈ xs, ok (bindT (wipeS ⟨ρ, st⟩ (ts.slots ++ ts'.slots)) ts (emb x)) fun sb => ok (evEs F src' sb) fun q => itemsD k' q.1 = some ((ys x).map emb') ∧ (wipeS q.2 (ts.slots ++ ts'.slots)).ρ = (wipeS ⟨ρ, st⟩ (ts.slots ++ ts'.slots)).ρ ∧ q.2.st = st ∧
      ∀ y ∈ ys x, ok (bindT (wipeS q.2 ts'.slots) ts' (emb' y)) fun s2 => ok (evE F elt s2) fun r => r.1 = g x y ∧ (wipeS r.2 ts'.slots).ρ = (wipeS q.2 ts'.slots).ρ ∧ r.2.st = st) :
    evE F (.comp2 ts k src ts' k' src' elt) ⟨ρ, st⟩ = some (.lst (xs.flatMap fun x => (ys x).map (g x)), ⟨ρ, st⟩) := by
  obtain ⟨⟨ds, ⟨ρ', st1⟩⟩, e1, h2, e2, h0⟩ := h1
  simp only at e2 h2 h0
  subst e2 h0
  have hst : ∀ {s1 s2 : S} {is : List Nat}, (wipeS s1 is).ρ = (wipeS s2 is).ρ → s1.st = s2.st → wipeS s1 is = wipeS s2 is := by
    intro s1 s2 is a b
    have c1 : wipeS s1 is = ⟨(wipeS s1 is).ρ, s1.st⟩ := rfl
    rw [c1, a, b]
    rfl
  apply eq_ok
  show ok ((evEs F src ⟨ρ', st1⟩).bind _) _
  rw [e1]
  simp only [Option.bind_some, h2, h3, if_true]
  rw [ok_map]
  refine ok_mono (fold_ok (fun i (b : List D × S) => wipeS b.2 (ts.slots ++ ts'.slots) = wipeS ⟨ρ', st1⟩ (ts.slots ++ ts'.slots) ∧ b.1 = (xs.take i).flatMap (fun x => (ys x).map (g x))) ⟨?_, rfl⟩ ?_) ?_
  · show wipeS (wipeS ⟨ρ', st1⟩ (ts.slots ++ ts'.slots)) (ts.slots ++ ts'.slots) = _
    rw [wipeS_wipeS]
  · rintro i d ⟨acc, sC⟩ hd ⟨g1, g2⟩
    simp only at g1 g2 ⊢
    obtain ⟨x, hx, rfl⟩ : ∃ x, xs[i]? = some x ∧ emb x = d := by simpa using hd
    have et : xs.take (i + 1) = xs.take i ++ [x] := by rw [List.take_succ, hx]; rfl
    have hsub : (acc ++ (ys x).map (g x)).length ≤ sizeLine := by
      have q : xs.flatMap (fun x => (ys x).map (g x)) = (xs.take (i + 1)).flatMap (fun x => (ys x).map (g x)) ++ (xs.drop (i + 1)).flatMap (fun x => (ys x).map (g x)) := by rw [← List.flatMap_append, List.take_append_drop]
      have := congrArg List.length q
      rw [et, List.flatMap_append, List.length_append, List.flatMap_singleton, ← g2] at this
      omega
    rw [ok_bind, g1]
    refine ok_mono (h5 x (List.mem_of_getElem? hx)) fun sb hb => ?_
    rw [ok_bind]
    refine ok_mono hb fun q hq => ?_
    obtain ⟨q1, q2, q3, q4⟩ := hq
    rw [q1, Option.bind_some]
    refine ok_mono (fold_ok (fun j (b : List D × S) => wipeS b.2 ts'.slots = wipeS q.2 ts'.slots ∧ b.1 = acc ++ ((ys x).take j).map (g x)) ⟨?_, by simp⟩ ?_) ?_
    · show wipeS (wipeS q.2 ts'.slots) ts'.slots = _
      rw [wipeS_wipeS]
    · rintro j d' ⟨acc', sD⟩ hd' ⟨w1, w2⟩
      simp only at w1 w2 ⊢
      obtain ⟨y, hy, rfl⟩ : ∃ y, (ys x)[j]? = some y ∧ emb' y = d' := by simpa using hd'
      have hj := (List.getElem?_eq_some_iff.mp hy).1
      have et' : (ys x).take (j + 1) = (ys x).take j ++ [y] := by rw [List.take_succ, hy]; rfl
      rw [ok_bind, w1]
      refine ok_mono (q4 y (List.mem_of_getElem? hy)) fun s2 hs2 => ?_
      rw [ok_bind]
      refine ok_mono hs2 fun r hr => ?_
      have hlen : acc'.length < sizeLine := by
        rw [w2, List.length_append, List.length_map, List.length_take]
        rw [List.length_append, List.length_map] at hsub
        omega
      rw [if_pos hlen, ok_some]
      refine ⟨hst hr.2.1 (hr.2.2.trans q3.symm), ?_⟩
      simp only
      rw [w2, et', hr.1]
      simp
    · rintro ⟨acc', sD⟩ ⟨w1, w2⟩
      simp only at w1 w2 ⊢
      refine ⟨?_, ?_⟩
      · have a1 := wipeS_more sD ts.slots ts'.slots
        rw [w1, wipeS_more] at a1
        rw [← a1]
        exact hst q2 q3
      · rw [List.length_map, List.take_length] at w2
        rw [w2, et, List.flatMap_append, List.flatMap_singleton, g2]
  · rintro ⟨acc, sC⟩ ⟨g1, g2⟩
    simp only at g1 g2 ⊢
    have e := back_of_wipe (s1 := ⟨ρ', st1⟩) (s2 := sC) (is := ts.slots ++ ts'.slots) (ρw := (wipeS ⟨ρ', st1⟩ (ts.slots ++ ts'.slots)).ρ) (st := st1) (st' := st1) rfl (by rw [g1]; rfl)
    rw [e, g2, List.length_map, List.take_length]
/-! ### loops -/
/-- a for: P holds ahead of each turn; a turn may break off (Br) or hand something back (Rt) -/
theorem loop_ok {F : Fn} {ts : Tg} {k : SK} {src : IEs} {body : ISs} {s : S} {items : List D} (P : Nat → S → Prop) (Br : S → Prop) (Rt : D → S → Prop) (h1 : ok (evEs F src s) fun p => itemsD k p.1 = some items ∧ P 0 p.2)
    (step : ∀ (i : Nat) (d : D) (s2 : S), items[i]? = some d → P i s2 → ok (bindT s2 ts d) fun sB => ok (evSs F body sB) fun r => match r.1 with
      | .nx => P (i + 1) r.2
      | .cnt => P (i + 1) r.2
      | .brk => Br r.2
      | .ret v => Rt v r.2) :
    ok (evS F (.loop ts k src body) s) fun r => (r.1 = .nx ∧ (P items.length r.2 ∨ Br r.2)) ∨ ∃ v, r.1 = .ret v ∧ Rt v r.2 := by
  obtain ⟨⟨ds, s1⟩, e1, h2, h0⟩ := h1
  show ok ((evEs F src s).bind _) _
  rw [e1]
  simp only [Option.bind_some, h2]
  rw [ok_map]
  refine ok_mono (fold_ok (f := loopF (fun s d => bindT s ts d) (fun s => evSs F body s)) (fun i (b : Fl × S) => match b.1 with
      | .nx => P i b.2
      | .cnt => False
      | .brk => Br b.2
      | .ret v => Rt v b.2) (b0 := (.nx, s1)) h0 fun i d b hd hb => ?_) ?_
  · obtain ⟨fl, s2⟩ := b
    cases fl with
    | nx =>
      simp only at hb
      simp only [loopF]
      rw [ok_bind]
      refine ok_mono (step i d s2 hd hb) fun sB hB => ?_
      rw [ok_map]
      refine ok_mono hB fun r hr => ?_
      obtain ⟨rf, rs⟩ := r
      cases rf <;> exact hr
    | cnt => exact hb.elim
    | brk => exact (ok_some _ _).mpr hb
    | ret v => exact (ok_some _ _).mpr hb
  · intro b hb
    obtain ⟨fl, s2⟩ := b
    cases fl with
    | nx => exact .inl ⟨rfl, .inl hb⟩
    | cnt => exact hb.elim
    | brk => exact .inl ⟨rfl, .inr hb⟩
    | ret v => exact .inr ⟨v, rfl, hb⟩
/-- a for over a typed row that goes on to its end: the states stand for R (fold); I holds of the fold behind i turns -/
theorem loopP {F : Fn} {ts : Tg} {k : SK} {src : IEs} {body : ISs} {s : S} {α β : Type} (emb : α → D) (xs : List α) (f : β → α → β) (b0 : β) (R : β → S → Prop) (I : Nat → β → Prop) (h1 : ok (evEs F src s) fun p => itemsD k p.1 = some (xs.map emb) ∧ R b0 p.2)
    (i0 : I 0 b0) (iN : ∀ (i : Nat) (b : β) (x : α), xs[i]? = some x → I i b → I (i + 1) (f b x))
    (step : ∀ (i : Nat) (b : β) (x : α) (s2 : S), xs[i]? = some x → I i b → R b s2 → ok (bindT s2 ts (emb x)) fun sB => ok (evSs F body sB) fun r => (r.1 = .nx ∨ r.1 = .cnt) ∧ R (f b x) r.2) :
    ok (evS F (.loop ts k src body) s) fun r => r.1 = .nx ∧ R (xs.foldl f b0) r.2 ∧ I xs.length (xs.foldl f b0) := by
  refine ok_mono (loop_ok (items := xs.map emb) (fun i s => R ((xs.take i).foldl f b0) s ∧ I i ((xs.take i).foldl f b0)) (fun _ => False) (fun _ _ => False) (ok_mono h1 fun p hp => ⟨hp.1, hp.2, i0⟩) ?_) ?_
  · rintro i d s2 hd ⟨hR, hI⟩
    obtain ⟨x, hx, rfl⟩ : ∃ x, xs[i]? = some x ∧ emb x = d := by simpa using hd
    refine ok_mono (step i _ x s2 hx hI hR) fun sB hB => ok_mono hB fun r hr => ?_
    have et : xs.take (i + 1) = xs.take i ++ [x] := by rw [List.take_succ, hx]; rfl
    rw [et, List.foldl_append]
    obtain ⟨rf, rs⟩ := r
    rcases hr with ⟨h | h, h'⟩
    · simp only at h; subst h; exact ⟨h', iN i _ x hx hI⟩
    · simp only at h; subst h; exact ⟨h', iN i _ x hx hI⟩
  · intro r hr
    rcases hr with ⟨h, h' | h'⟩ | ⟨v, h, h'⟩
    · rw [List.length_map, List.take_length] at h'
      exact ⟨h, h'⟩
    · exact h'.elim
    · exact h'.elim
/-- a for that may hand something back on its way: the fold of f ends with the first .error -/
theorem loopR {F : Fn} {ts : Tg} {k : SK} {src : IEs} {body : ISs} {s : S} {α β ε : Type} (emb : α → D) (xs : List α) (vv : ε → D) (f : β → α → Except ε β) (b0 : β) (R : β → S → Prop) (E : S → Prop) (I : Nat → β → Prop) (h1 : ok (evEs F src s) fun p => itemsD k p.1 = some (xs.map emb) ∧ R b0 p.2)
    (i0 : I 0 b0) (iN : ∀ (i : Nat) (b b' : β) (x : α), xs[i]? = some x → I i b → f b x = .ok b' → I (i + 1) b')
    (step : ∀ (i : Nat) (b : β) (x : α) (s2 : S), xs[i]? = some x → I i b → R b s2 → ok (bindT s2 ts (emb x)) fun sB => ok (evSs F body sB) fun r => match f b x with
      | .ok b' => (r.1 = .nx ∨ r.1 = .cnt) ∧ R b' r.2
      | .error v => r.1 = .ret (vv v) ∧ E r.2) :
    ok (evS F (.loop ts k src body) s) fun r => match xs.foldlM f b0 with
      | .ok b' => r.1 = .nx ∧ R b' r.2 ∧ I xs.length b'
      | .error v => r.1 = .ret (vv v) ∧ E r.2 := by
  refine ok_mono (loop_ok (items := xs.map emb) (fun i s => ∃ b, (xs.take i).foldlM f b0 = .ok b ∧ R b s ∧ I i b) (fun _ => False) (fun v s => ∃ z, v = vv z ∧ xs.foldlM f b0 = .error z ∧ E s) (ok_mono h1 fun p hp => ⟨hp.1, b0, rfl, hp.2, i0⟩) ?_) ?_
  · rintro i d s2 hd ⟨b, hb, hR, hI⟩
    obtain ⟨x, hx, rfl⟩ : ∃ x, xs[i]? = some x ∧ emb x = d := by simpa using hd
    refine ok_mono (step i _ x s2 hx hI hR) fun sB hB => ok_mono hB fun r hr => ?_
    have et : xs.take (i + 1) = xs.take i ++ [x] := by rw [List.take_succ, hx]; rfl
    have ef : xs = xs.take (i + 1) ++ xs.drop (i + 1) := (List.take_append_drop _ _).symm
    obtain ⟨rf, rs⟩ := r
    cases hf : f b x with
    | ok b' =>
      rw [hf] at hr
      have en : (xs.take (i + 1)).foldlM f b0 = .ok b' := by
        rw [et, List.foldlM_append, hb]
        simp only [bind, Except.bind, List.foldlM_cons, List.foldlM_nil, hf, pure, Except.pure]
      rcases hr with ⟨h | h, h'⟩
      · simp only at h; subst h; exact ⟨b', en, h', iN i b b' x hx hI hf⟩
      · simp only at h; subst h; exact ⟨b', en, h', iN i b b' x hx hI hf⟩
    | error v =>
      rw [hf] at hr
      obtain ⟨h, h'⟩ := hr
      simp only at h; subst h
      refine ⟨v, rfl, ?_, h'⟩
      rw [ef, et, List.foldlM_append, List.foldlM_append, hb]
      simp only [bind, Except.bind, List.foldlM_cons, List.foldlM_nil, hf, pure, Except.pure]
  · intro r hr
    rcases hr with ⟨h, ⟨b, hb, h'⟩ | h'⟩ | ⟨v, h, z, rfl, h1, h2⟩
    · rw [List.length_map, List.take_length] at hb
      rw [List.length_map] at h'
      rw [hb]
      exact ⟨h, h'⟩
    · exact h'.elim
    · rw [h1]
      exact ⟨h, h2⟩
/-- a for that looks for the first thing -/
theorem loopS {F : Fn} {ts : Tg} {k : SK} {src : IEs} {body : ISs} {s : S} {α ε : Type} (emb : α → D) (xs : List α) (vv : ε → D) (g : α → Option ε) (R : S → Prop) (E : S → Prop) (h1 : ok (evEs F src s) fun p => itemsD k p.1 = some (xs.map emb) ∧ R p.2)
    (step : ∀ (i : Nat) (x : α) (s2 : S), xs[i]? = some x → R s2 → ok (bindT s2 ts (emb x)) fun sB => ok (evSs F body sB) fun r => match g x with
      | none => (r.1 = .nx ∨ r.1 = .cnt) ∧ R r.2
      | some v => r.1 = .ret (vv v) ∧ E r.2) :
    ok (evS F (.loop ts k src body) s) fun r => match xs.findSome? g with
      | none => r.1 = .nx ∧ R r.2
      | some v => r.1 = .ret (vv v) ∧ E r.2 := by
  have e : ∀ xs : List α, xs.foldlM (fun (_ : Unit) x => match g x with
      | none => (Except.ok () : Except ε Unit)
      | some v => .error v) () = match xs.findSome? g with
      | none => .ok ()
      | some v => .error v := by
    intro xs
    induction xs with
    | nil => rfl
    | cons x xs ih =>
      rw [List.foldlM_cons, List.findSome?_cons]
      cases g x with
      | none => exact ih
      | some v => rfl
  refine ok_mono (loopR emb xs vv (fun (_ : Unit) x => match g x with
      | none => (Except.ok () : Except ε Unit)
      | some v => .error v) () (fun _ s => R s) E (fun _ _ => True) h1 trivial (fun _ _ _ _ _ _ _ => trivial) ?_) ?_
  · intro i b x s2 hx _ hR
    refine ok_mono (step i x s2 hx hR) fun sB hB => ok_mono hB fun r hr => ?_
    cases hg : g x with
    | none => rw [hg] at hr; exact hr
    | some v => rw [hg] at hr; exact hr
  · intro r hr
    rw [e] at hr
    cases hf : xs.findSome? g with
    | none => rw [hf] at hr; exact ⟨hr.1, hr.2.1⟩
    | some v => rw [hf] at hr; exact hr
theorem enumD_map {α : Type} (emb : α → D) : ∀ (l : List α) (j : Nat), enumD j (l.map emb) = (l.zipIdx j).map fun q => .tup [.int q.2, emb q.1]
  | [], _ => rfl
  | x :: l, j => by simp [enumD, enumD_map emb l (j + 1), List.zipIdx_cons]
theorem it_enumT {α : Type} (emb : α → D) (l : List α) : itemsD .enum [.tup (l.map emb)] = some (l.zipIdx.map fun q => .tup [.int q.2, emb q.1]) := by
  show (rootOf (.tup (l.map emb))).map _ = _
  simp [rootOf, enumD_map]
theorem it_enumL {α : Type} (emb : α → D) (l : List α) : itemsD .enum [.lst (l.map emb)] = some (l.zipIdx.map fun q => .tup [.int q.2, emb q.1]) := by
  show (rootOf (.lst (l.map emb))).map _ = _
  simp [rootOf, enumD_map]
end Ev

-- Ty
set_option autoImplicit true
set_option Elab.async false
set_option linter.all false
set_option maxRecDepth 100000
set_option maxHeartbeats 4000000
/-! Ty: typed data of the program: terms, patterns, tests, conditions, deeds, rules, dicts by names; comparisons of good data. -/
namespace Ev
open PySem PySem.Spec PyProof.Rows L2
theorem char_inj {a b : Char} (h : a.toNat = b.toNat) : a = b := Char.ext (UInt32.toNat_inj.mp h)
theorem ofS_inj {a b : String} (h : Str.ofString a = Str.ofString b) : a = b := by
  rw [Str.ofString_eq_toList, Str.ofString_eq_toList] at h
  simp only [Str.mk.injEq] at h
  have h' : a.toList.map Char.toNat = b.toList.map Char.toNat := by
    have := congrArg Array.toList h
    simpa using this
  have h2 : a.toList = b.toList := by
    generalize a.toList = x at h'
    generalize b.toList = y at h'
    induction x generalizing y with
    | nil => cases y with
      | nil => rfl
      | cons c y => simp at h'
    | cons c x ih => cases y with
      | nil => simp at h'
      | cons d y =>
        simp only [List.map_cons, List.cons.injEq] at h'
        rw [char_inj h'.1, ih y h'.2]
  exact String.toList_inj.mp h2
@[simp] theorem ofS_eq (a b : String) : (Str.ofString a = Str.ofString b) = (a = b) := propext ⟨ofS_inj, fun h => by rw [h]⟩
@[simp] theorem ofS_beq (a b : String) : (Str.ofString a == Str.ofString b) = decide (a = b) := by
  by_cases h : a = b
  · subst h; simp
  · have : ¬ Str.ofString a = Str.ofString b := fun q => h (ofS_inj q)
    simp [h]
/-! ### good data: numbers, texts, None, tuples and lists of such -/
mutual
def D.gd : Nat → D → Bool
  | _, .non => true
  | _, .int _ => true
  | _, .str _ => true
  | n + 1, .tup xs => D.gds n xs
  | n + 1, .lst xs => D.gds n xs
  | _, _ => false
def D.gds : Nat → List D → Bool
  | _, [] => true
  | n, x :: xs => D.gd n x && D.gds n xs
end
theorem gds_iff (n : Nat) : ∀ xs : List D, D.gds n xs = true ↔ ∀ x ∈ xs, D.gd n x = true
  | [] => by simp [D.gds]
  | x :: xs => by simp [D.gds, gds_iff n xs]
mutual
theorem gd_plain : ∀ {n m : Nat} (a : D), n ≤ m → D.gd n a = true → D.plain m a = true
  | _, _, .non, _, _ => by simp [D.plain]
  | _, _, .int _, _, _ => by simp [D.plain]
  | _, _, .str _, _, _ => by simp [D.plain]
  | 0, _, .tup _, _, h => by simp [D.gd] at h
  | 0, _, .lst _, _, h => by simp [D.gd] at h
  | n + 1, 0, .tup xs, hm, h => by omega
  | n + 1, 0, .lst xs, hm, h => by omega
  | n + 1, m + 1, .tup xs, hm, h => by
    simp only [D.gd, D.plain] at h ⊢
    exact gds_plains xs (by omega) h
  | n + 1, m + 1, .lst xs, hm, h => by
    simp only [D.gd, D.plain] at h ⊢
    exact gds_plains xs (by omega) h
  | n, _, .bl _, _, h => by cases n <;> simp [D.gd] at h
  | n, _, .dct _, _, h => by cases n <;> simp [D.gd] at h
  | n, _, .ref _, _, h => by cases n <;> simp [D.gd] at h
  | n, _, .scr _, _, h => by cases n <;> simp [D.gd] at h
theorem gds_plains : ∀ {n m : Nat} (a : List D), n ≤ m → D.gds n a = true → D.plains m a = true
  | _, _, [], _, _ => by simp [D.plains]
  | n, m, x :: xs, hm, h => by
    simp only [D.gds, Bool.and_eq_true] at h
    simp only [D.plains, gd_plain x hm h.1, gds_plains xs hm h.2, Bool.and_self]
end
mutual
theorem gd_eqv : ∀ {n m : Nat} (a b : D), D.gd n a = true → D.gd m b = true → D.eqv a b = decide (a = b)
  | n, m, .non, b, _, h => by cases b <;> cases m <;> simp [D.gd] at h <;> simp [D.eqv]
  | n, m, .int i, b, _, h => by cases b <;> cases m <;> simp [D.gd] at h <;> simp [D.eqv] <;> rfl
  | n, m, .str i, b, _, h => by cases b <;> cases m <;> simp [D.gd] at h <;> simp [D.eqv] <;> rfl
  | n, m, .tup xs, b, h, h' => by
    cases n with
    | zero => simp [D.gd] at h
    | succ n =>
      cases b with
      | tup ys =>
        cases m with
        | zero => simp [D.gd] at h'
        | succ m =>
          simp only [D.gd] at h h'
          simp only [D.eqv, gd_eqvs xs ys h h', D.tup.injEq]
      | _ => simp [D.eqv]
  | n, m, .lst xs, b, h, h' => by
    cases n with
    | zero => simp [D.gd] at h
    | succ n =>
      cases b with
      | lst ys =>
        cases m with
        | zero => simp [D.gd] at h'
        | succ m =>
          simp only [D.gd] at h h'
          simp only [D.eqv, gd_eqvs xs ys h h', D.lst.injEq]
      | _ => simp [D.eqv]
  | n, _, .bl _, _, h, _ => by cases n <;> simp [D.gd] at h
  | n, _, .dct _, _, h, _ => by cases n <;> simp [D.gd] at h
  | n, _, .ref _, _, h, _ => by cases n <;> simp [D.gd] at h
  | n, _, .scr _, _, h, _ => by cases n <;> simp [D.gd] at h
theorem gd_eqvs : ∀ {n m : Nat} (a b : List D), D.gds n a = true → D.gds m b = true → D.eqvs a b = decide (a = b)
  | _, _, [], [], _, _ => by simp [D.eqvs]
  | _, _, [], y :: ys, _, _ => by simp [D.eqvs]
  | _, _, x :: xs, [], _, _ => by simp [D.eqvs]
  | n, m, x :: xs, y :: ys, h, h' => by
    simp only [D.gds, Bool.and_eq_true] at h h'
    simp only [D.eqvs, gd_eqv x y h.1 h'.1, gd_eqvs xs ys h.2 h'.2, List.cons.injEq, Bool.decide_and]
end
theorem eqD_gd {n m : Nat} {a b : D} (ha : D.gd n a = true) (hb : D.gd m b = true) (hn : n ≤ 60) (hm : m ≤ 60) : eqD a b = some (decide (a = b)) := by
  unfold eqD
  rw [gd_plain a (show n ≤ deep from hn) ha, gd_plain b (show m ≤ deep from hm) hb, gd_eqv a b ha hb]
  rfl
theorem c_eq {n m : Nat} {a b : D} (ha : D.gd n a = true) (hb : D.gd m b = true) (hn : n ≤ 60) (hm : m ≤ 60) : cmpD .eq a b = some (decide (a = b)) := eqD_gd ha hb hn hm
theorem c_ne {n m : Nat} {a b : D} (ha : D.gd n a = true) (hb : D.gd m b = true) (hn : n ≤ 60) (hm : m ≤ 60) : cmpD .ne a b = some (!decide (a = b)) := by
  show (eqD a b).map _ = _
  rw [eqD_gd ha hb hn hm]
  rfl
theorem any_gd {n m : Nat} {x : D} (hx : D.gd n x = true) : ∀ ds : List D, D.gds m ds = true → anyEqv ds x = decide (x ∈ ds)
  | [], _ => by simp [anyEqv]
  | d :: ds, h => by
    simp only [D.gds, Bool.and_eq_true] at h
    have ih := any_gd hx ds h.2
    unfold anyEqv at ih ⊢
    rw [List.any_cons, ih, gd_eqv d x h.1 hx]
    by_cases e : d = x
    · simp [e]
    · have e' : ¬ x = d := fun q => e q.symm
      simp [e, e']
theorem c_inL {n m : Nat} {x : D} {ds : List D} (hx : D.gd n x = true) (hd : D.gds m ds = true) (hn : n ≤ 60) (hm : m ≤ 60) : cmpD .inn x (.lst ds) = some (decide (x ∈ ds)) := by
  show (if D.plain deep x && D.plains deep ds then some (anyEqv ds x) else none) = _
  rw [gd_plain x (show n ≤ deep from hn) hx, gds_plains ds (show m ≤ deep from hm) hd, any_gd hx ds hd]
  rfl
theorem c_inT {n m : Nat} {x : D} {ds : List D} (hx : D.gd n x = true) (hd : D.gds m ds = true) (hn : n ≤ 60) (hm : m ≤ 60) : cmpD .inn x (.tup ds) = some (decide (x ∈ ds)) := c_inL hx hd hn hm
theorem c_niL {n m : Nat} {x : D} {ds : List D} (hx : D.gd n x = true) (hd : D.gds m ds = true) (hn : n ≤ 60) (hm : m ≤ 60) : cmpD .notin x (.lst ds) = some (!decide (x ∈ ds)) := by
  show (inD x (.lst ds)).map _ = _
  have : inD x (.lst ds) = some (decide (x ∈ ds)) := c_inL hx hd hn hm
  rw [this]
  rfl
theorem c_niT {n m : Nat} {x : D} {ds : List D} (hx : D.gd n x = true) (hd : D.gds m ds = true) (hn : n ≤ 60) (hm : m ≤ 60) : cmpD .notin x (.tup ds) = some (!decide (x ∈ ds)) := c_niL hx hd hn hm
/-! ### a type whose things are good data, each in one way -/
class Emb (α : Type) where
  e : α → D
  inj : ∀ a b, e a = e b → a = b
  dep : Nat
  gd : ∀ a, D.gd dep (e a) = true
  small : dep ≤ 30
section
variable {α : Type} [Emb α] [DecidableEq α]
open Emb
theorem e_eq (a b : α) : (e a = e b) = (a = b) := propext ⟨inj a b, fun h => by rw [h]⟩
theorem gds_emb (l : List α) : D.gds (dep α) (l.map e) = true := (gds_iff _ _).mpr fun x hx => by
  obtain ⟨a, _, rfl⟩ := List.mem_map.mp hx
  exact gd a
theorem mem_emb (a : α) (l : List α) : (e a ∈ l.map e) = (a ∈ l) := propext ⟨fun h => by
  obtain ⟨b, hb, q⟩ := List.mem_map.mp h
  exact inj b a q ▸ hb, fun h => List.mem_map.mpr ⟨a, h, rfl⟩⟩
theorem E_eq (a b : α) : cmpD .eq (e a) (e b) = some (decide (a = b)) := by
  have h := small (α := α)
  rw [c_eq (gd a) (gd b) (by omega) (by omega)]
  simp only [e_eq]
theorem E_ne (a b : α) : cmpD .ne (e a) (e b) = some (!decide (a = b)) := by
  have h := small (α := α)
  rw [c_ne (gd a) (gd b) (by omega) (by omega)]
  simp only [e_eq]
theorem E_inL (a : α) (l : List α) : cmpD .inn (e a) (.lst (l.map e)) = some (decide (a ∈ l)) := by
  have h := small (α := α)
  rw [c_inL (gd a) (gds_emb l) (by omega) (by omega)]
  simp only [mem_emb]
theorem E_inT (a : α) (l : List α) : cmpD .inn (e a) (.tup (l.map e)) = some (decide (a ∈ l)) := E_inL a l
theorem E_niL (a : α) (l : List α) : cmpD .notin (e a) (.lst (l.map e)) = some (!decide (a ∈ l)) := by
  have h := small (α := α)
  rw [c_niL (gd a) (gds_emb l) (by omega) (by omega)]
  simp only [mem_emb]
theorem E_niT (a : α) (l : List α) : cmpD .notin (e a) (.tup (l.map e)) = some (!decide (a ∈ l)) := E_niL a l
end
theorem map_inj' {α : Type} {f : α → D} (hf : ∀ a b, f a = f b → a = b) : ∀ a b : List α, a.map f = b.map f → a = b
  | [], [], _ => rfl
  | [], _ :: _, h => by simp at h
  | _ :: _, [], h => by simp at h
  | x :: xs, y :: ys, h => by
    simp only [List.map_cons, List.cons.injEq] at h
    rw [hf x y h.1, map_inj' hf xs ys h.2]
/-! ### dicts by names -/
section
variable {α : Type}
def lk (σ : List (Str × α)) (x : Str) : Option α := (σ.find? fun p => decide (p.1 = x)).map (·.2)
def hasK (σ : List (Str × α)) (x : Str) : Bool := σ.any fun p => decide (p.1 = x)
def put (σ : List (Str × α)) (x : Str) (v : α) : List (Str × α) := if hasK σ x = true then σ.map (fun p => if p.1 = x then (p.1, v) else p) else σ ++ [(x, v)]
def dctD (e : α → D) (σ : List (Str × α)) : List (D × D) := σ.map fun p => (.str p.1, e p.2)
@[simp] theorem dget_dctD (e : α → D) (x : Str) : ∀ σ : List (Str × α), dget (dctD e σ) (.str x) = (lk σ x).map e
  | [] => rfl
  | p :: σ => by
    have ih := dget_dctD e x σ
    unfold dget lk dctD at *
    rw [List.map_cons, List.find?_cons, List.find?_cons]
    by_cases h : p.1 = x
    · simp [h]
    · simp only [D.str.injEq, h, decide_false]
      exact ih
@[simp] theorem dhas_dctD (e : α → D) (x : Str) (σ : List (Str × α)) : dhas (dctD e σ) (.str x) = hasK σ x := by
  unfold dhas hasK dctD
  rw [List.any_map]
  congr 1
  funext p
  simp
@[simp] theorem dput_dctD (e : α → D) (x : Str) (v : α) (σ : List (Str × α)) : dput (dctD e σ) (.str x) (e v) = dctD e (put σ x v) := by
  unfold dput put
  rw [dhas_dctD]
  by_cases h : hasK σ x = true
  · rw [if_pos h, if_pos h]
    unfold dctD
    rw [List.map_map, List.map_map]
    apply List.map_congr_left
    intro p _
    by_cases hp : p.1 = x <;> simp [hp]
  · rw [if_neg h, if_neg h]
    unfold dctD
    rw [List.map_append]
    rfl
@[simp] theorem dctD_len (e : α → D) (σ : List (Str × α)) : (dctD e σ).length = σ.length := List.length_map _
@[simp] theorem m_setd (e : α → D) (σ : List (Str × α)) (x : Str) (v : α) : mutD .setdefault (.dct (dctD e σ)) [.str x, e v] = if σ.length < sizeLine then (match lk σ x with
    | some u => some (e u, .dct (dctD e σ))
    | none => some (e v, .dct (dctD e (put σ x v)))) else none := by
  show (if keyOk1 (.str x) && decide ((dctD e σ).length < sizeLine) then (match dget (dctD e σ) (.str x) with
      | some v => some (v, D.dct (dctD e σ))
      | none => some (e v, .dct (dput (dctD e σ) (.str x) (e v)))) else none) = _
  rw [dctD_len, dget_dctD, dput_dctD, show keyOk1 (.str x) = true from rfl, Bool.true_and]
  by_cases h : σ.length < sizeLine
  · rw [if_pos (decide_eq_true h), if_pos h]
    cases lk σ x <;> rfl
  · rw [if_neg (by rw [decide_eq_false h]; exact Bool.false_ne_true), if_neg h]
@[simp] theorem i_dctN (e : α → D) (σ : List (Str × α)) (x : Str) : idxD (.dct (dctD e σ)) (.str x) = (lk σ x).map e := dget_dctD e x σ
@[simp] theorem st_dctN (e : α → D) (σ : List (Str × α)) (x : Str) (v : α) : storeD (.dct (dctD e σ)) (.str x) (e v) = if σ.length < sizeLine then some (.dct (dctD e (put σ x v))) else none := by
  show (if keyOk1 (.str x) && decide ((dctD e σ).length < sizeLine) then some (D.dct (dput (dctD e σ) (.str x) (e v))) else none) = _
  rw [dctD_len, dput_dctD, show keyOk1 (.str x) = true from rfl, Bool.true_and]
  by_cases h : σ.length < sizeLine
  · rw [if_pos (decide_eq_true h), if_pos h]
  · rw [if_neg (by rw [decide_eq_false h]; exact Bool.false_ne_true), if_neg h]
@[simp] theorem c_inN (e : α → D) (σ : List (Str × α)) (x : Str) : cmpD .inn (.str x) (.dct (dctD e σ)) = some (hasK σ x) := by
  show some (dhas (dctD e σ) (.str x)) = _
  rw [dhas_dctD]
@[simp] theorem c_niN (e : α → D) (σ : List (Str × α)) (x : Str) : cmpD .notin (.str x) (.dct (dctD e σ)) = some (!hasK σ x) := by
  show (some (dhas (dctD e σ) (.str x))).map _ = _
  rw [dhas_dctD]
  rfl
theorem hasK_iff (σ : List (Str × α)) (x : Str) : hasK σ x = true ↔ x ∈ σ.map (·.1) := by
  unfold hasK
  simp [List.any_eq_true]
theorem lks_none (σ : List (Str × α)) (x : Str) : lk σ x = none ↔ x ∉ σ.map (·.1) := by
  unfold lk
  simp
  exact ⟨fun h v hv => h x v hv rfl, fun h a v hv e => h v (e ▸ hv)⟩
theorem lks_some (σ : List (Str × α)) (x : Str) : (lk σ x).isSome = hasK σ x := by
  cases h : lk σ x with
  | none =>
    have := (lks_none σ x).mp h
    cases hk : hasK σ x with
    | false => rfl
    | true => exact absurd ((hasK_iff σ x).mp hk) this
  | some v =>
    cases hk : hasK σ x with
    | true => rfl
    | false =>
      have h1 : x ∉ σ.map (·.1) := fun q => by rw [(hasK_iff σ x).mpr q] at hk; cases hk
      rw [(lks_none σ x).mpr h1] at h
      cases h
end
/-! ### terms, patterns, tests, conditions, deeds, rules -/
inductive Tm where | int (i : Int) | str (x : Str) | var (x : Str)
  deriving DecidableEq, Inhabited
def Tm.d : Tm → D
  | .int i => .int i
  | .str x => .str x
  | .var x => .tup [.str "var", .str x]
def Tm.name? : Tm → Option Str
  | .var x => some x
  | _ => none
def Tm.isVar : Tm → Bool
  | .var _ => true
  | _ => false
structure Pat where
  k : Str
  ts : List Tm
  deriving DecidableEq, Inhabited
def tms (l : List Tm) : List D := l.map Tm.d
def Pat.d (p : Pat) : D := .tup [.str p.k, .tup (p.ts.map Tm.d)]
def Pat.names (p : Pat) : List Str := p.ts.filterMap Tm.name?
structure Ts where
  nm : Str
  a : Tm
  b : Tm
  deriving DecidableEq, Inhabited
def Ts.d (t : Ts) : D := .tup [.str t.nm, t.a.d, t.b.d]
inductive Cn where | yes (p : Pat) | no (ps : List Pat) (ts : List Ts) | test (t : Ts)
  deriving DecidableEq, Inhabited
def Cn.d : Cn → D
  | .yes p => .tup [.str "yes", p.d]
  | .no ps ts => .tup [.str "no", .tup (ps.map Pat.d), .tup (ts.map Ts.d)]
  | .test t => .tup [.str "test", t.d]
/-- its pattern, as data -/
def Cn.pd : Cn → D
  | .yes p => p.d
  | _ => .non
def Cn.yes? : Cn → Option Pat
  | .yes p => some p
  | _ => none
inductive Dd where | drop (i : Nat) | halt | make (p : Pat) | stand (p : Pat)
  deriving DecidableEq, Inhabited
def Dd.d : Dd → D
  | .drop i => .tup [.str "drop", .int i]
  | .halt => .tup [.str "halt"]
  | .make p => .tup [.str "make", p.d]
  | .stand p => .tup [.str "stand", p.d]
structure Rl where
  rank : Int
  cs : List Cn
  ds : List Dd
  deriving DecidableEq, Inhabited
def Rl.d (r : Rl) : D := .tup [.int r.rank, .tup (r.cs.map Cn.d), .tup (r.ds.map Dd.d)]
def Rl.ps (r : Rl) : List Pat := r.cs.filterMap Cn.yes?
theorem Tm.d_inj : ∀ a b : Tm, a.d = b.d → a = b
  | .int i, b, h => by cases b <;> simp_all [Tm.d]
  | .str i, b, h => by cases b <;> simp_all [Tm.d]
  | .var i, b, h => by cases b <;> simp_all [Tm.d]
instance : Emb Tm where
  e := Tm.d
  inj := Tm.d_inj
  dep := 1
  gd := fun a => by cases a <;> simp [Tm.d, D.gd, D.gds]
  small := by decide
theorem Pat.d_inj (a b : Pat) (h : a.d = b.d) : a = b := by
  cases a; cases b
  simp only [Pat.d, D.tup.injEq, List.cons.injEq, D.str.injEq, and_true] at h
  rw [h.1, map_inj' Tm.d_inj _ _ h.2]
instance : Emb Pat where
  e := Pat.d
  inj := Pat.d_inj
  dep := 3
  gd := fun a => by
    have := gds_emb a.ts
    simp only [Pat.d, D.gd, D.gds, Bool.and_true, Bool.true_and]
    exact this
  small := by decide
instance : Emb Str where
  e := .str
  inj := fun a b h => by simpa using h
  dep := 0
  gd := fun a => by simp [D.gd]
  small := by decide
instance : Emb Int where
  e := .int
  inj := fun a b h => by simpa using h
  dep := 0
  gd := fun a => by simp [D.gd]
  small := by decide
@[simp] theorem Tm_eq (a b : Tm) : cmpD .eq a.d b.d = some (decide (a = b)) := E_eq a b
@[simp] theorem Tm_ne (a b : Tm) : cmpD .ne a.d b.d = some (!decide (a = b)) := E_ne a b
@[simp] theorem Tm_inL (a : Tm) (l : List Tm) : cmpD .inn a.d (.lst (l.map Tm.d)) = some (decide (a ∈ l)) := E_inL a l
@[simp] theorem Tm_niL (a : Tm) (l : List Tm) : cmpD .notin a.d (.lst (l.map Tm.d)) = some (!decide (a ∈ l)) := E_niL a l
@[simp] theorem Pat_eq (a b : Pat) : cmpD .eq a.d b.d = some (decide (a = b)) := E_eq a b
@[simp] theorem Pat_ne (a b : Pat) : cmpD .ne a.d b.d = some (!decide (a = b)) := E_ne a b
@[simp] theorem Pat_inL (a : Pat) (l : List Pat) : cmpD .inn a.d (.lst (l.map Pat.d)) = some (decide (a ∈ l)) := E_inL a l
@[simp] theorem Pat_niL (a : Pat) (l : List Pat) : cmpD .notin a.d (.lst (l.map Pat.d)) = some (!decide (a ∈ l)) := E_niL a l
@[simp] theorem Str_inL (a : Str) (l : List Str) : cmpD .inn (.str a) (.lst (l.map .str)) = some (decide (a ∈ l)) := E_inL a l
@[simp] theorem Str_niL (a : Str) (l : List Str) : cmpD .notin (.str a) (.lst (l.map .str)) = some (!decide (a ∈ l)) := E_niL a l
@[simp] theorem Str_inT1 (a x : Str) : cmpD .inn (.str a) (.tup [.str x]) = some (decide (a = x)) := by
  have := E_inT a [x]
  simpa [Emb.e] using this
@[simp] theorem Str_inT2 (a x y : Str) : cmpD .inn (.str a) (.tup [.str x, .str y]) = some (decide (a = x ∨ a = y)) := by
  have := E_inT a [x, y]
  simpa [Emb.e] using this
@[simp] theorem Int_inL (a : Int) (l : List Int) : cmpD .inn (.int a) (.lst (l.map .int)) = some (decide (a ∈ l)) := E_inL a l
@[simp] theorem Int_niL (a : Int) (l : List Int) : cmpD .notin (.int a) (.lst (l.map .int)) = some (!decide (a ∈ l)) := E_niL a l
@[simp] theorem pat_i0 (p : Pat) : idxD p.d (.int 0) = some (.str p.k) := by simp [Pat.d]
@[simp] theorem pat_i1 (p : Pat) : idxD p.d (.int 1) = some (.tup (p.ts.map Tm.d)) := by simp [Pat.d]
@[simp] theorem tm_i0 (x : Str) : idxD (Tm.var x).d (.int 0) = some (.str "var") := by simp [Tm.d]
@[simp] theorem tm_i1 (x : Str) : idxD (Tm.var x).d (.int 1) = some (.str x) := by simp [Tm.d]
@[simp] theorem rl_i0 (r : Rl) : idxD r.d (.int 0) = some (.int r.rank) := by simp [Rl.d]
@[simp] theorem rl_i1 (r : Rl) : idxD r.d (.int 1) = some (.tup (r.cs.map Cn.d)) := by simp [Rl.d]
@[simp] theorem rl_i2 (r : Rl) : idxD r.d (.int 2) = some (.tup (r.ds.map Dd.d)) := by simp [Rl.d]
theorem Tm.ne_non (t : Tm) : t.d ≠ .non := by cases t <;> simp [Tm.d]
theorem ps_map (r : Rl) : r.ps.map Pat.d = ((r.cs.filter fun c => c.yes?.isSome).map Cn.pd) := by
  unfold Rl.ps
  induction r.cs with
  | nil => rfl
  | cons c cs ih => cases c <;> simp [List.filterMap_cons, Cn.yes?, Cn.pd, ih]
@[simp] theorem beq_cast (a b : Nat) : ((a : Int) == (b : Int)) = decide (a = b) := by
  by_cases h : a = b
  · simp [h]
  · have : ¬ (a : Int) = (b : Int) := by omega
    rw [beq_eq_false_iff_ne.mpr this, decide_eq_false h]
/-! ### lists of texts -/
theorem allS_strs : ∀ l : List Str, allS (l.map .str) = some l
  | [] => rfl
  | x :: r => by
    show (allS (r.map .str)).map _ = _
    rw [allS_strs r]
    rfl
@[simp] theorem sortD_strs {l : List Str} : sortD (l.map .str) = if l.length < 64 then some (.lst ((sortS l).map .str)) else none := by
  unfold sortD
  rw [allS_strs]
@[simp] theorem b_srtN {α : Type} (e : α → D) (σ : List (Str × α)) : blt1 .sorted (.dct (dctD e σ)) = if σ.length < 64 then some (.lst ((sortS (σ.map (·.1))).map .str)) else none := by
  show sortD ((dctD e σ).map (·.1)) = _
  have e1 : (dctD e σ).map (·.1) = (σ.map (·.1)).map D.str := by simp [dctD, Function.comp_def]
  rw [e1, sortD_strs, List.length_map]
@[simp] theorem sortD_N {α : Type} (e : α → D) (σ : List (Str × α)) : sortD ((dctD e σ).map (·.1)) = if σ.length < 64 then some (.lst ((sortS (σ.map (·.1))).map .str)) else none := b_srtN e σ
@[simp] theorem b_sset (l : List Str) : blt1 .sortedSet (.lst (l.map .str)) = if l.length < 64 then some (.lst ((sortS (dedupS l)).map .str)) else none := by
  show (match allS (l.map .str) with
    | some ss => if ss.length < 64 then some (D.lst ((sortS (dedupS ss)).map .str)) else none
    | none => none) = _
  rw [allS_strs]
theorem allB_bls : ∀ l : List Bool, allB (l.map .bl) = some l
  | [] => rfl
  | x :: r => by
    show (allB (r.map .bl)).map _ = _
    rw [allB_bls r]
    rfl
@[simp] theorem allB_map {α : Type} (g : α → Bool) (l : List α) : allB (l.map fun x => D.bl (g x)) = some (l.map g) := by
  rw [← allB_bls, List.map_map]; rfl
@[simp] theorem allS_map {α : Type} (g : α → Str) (l : List α) : allS (l.map fun x => D.str (g x)) = some (l.map g) := by
  rw [← allS_strs, List.map_map]; rfl
@[simp] theorem b_all (l : List D) : blt1 .all (.lst l) = mp (allB l) fun bs => .bl (bs.all id) := nr rfl
@[simp] theorem b_any (l : List D) : blt1 .any (.lst l) = mp (allB l) fun bs => .bl (bs.any id) := nr rfl
theorem b_allB (l : List Bool) : blt1 .all (.lst (l.map .bl)) = some (.bl (l.all id)) := by
  show (allB (l.map .bl)).map _ = _
  rw [allB_bls]
  rfl
theorem b_anyB (l : List Bool) : blt1 .any (.lst (l.map .bl)) = some (.bl (l.any id)) := by
  show (allB (l.map .bl)).map _ = _
  rw [allB_bls]
  rfl
theorem bl_noFalse (l : List Bool) : cmpD .notin (.bl false) (.lst (l.map .bl)) = some (l.all id) := by
  have e : ∀ l : List Bool, anyEqv (l.map .bl) (.bl false) = !l.all id := by
    intro l
    induction l with
    | nil => rfl
    | cons b l ih =>
      unfold anyEqv at ih ⊢
      rw [List.map_cons, List.any_cons, ih]
      cases b <;> simp [D.eqv]
  have p : ∀ (l : List Bool), D.plains deep (l.map .bl) = true := by
    intro l
    induction l with
    | nil => simp [D.plains]
    | cons b l ih => simp [D.plains, D.plain, ih]
  show (inD (.bl false) (.lst (l.map .bl))).map _ = _
  show (if D.plain deep (.bl false) && D.plains deep (l.map .bl) then some (anyEqv (l.map .bl) (.bl false)) else none).map _ = _
  rw [p, e]
  simp [D.plain]
theorem bl_inFalse (l : List Bool) : cmpD .inn (.bl false) (.lst (l.map .bl)) = some (!l.all id) := by
  have h := bl_noFalse l
  cases hi : inD (.bl false) (.lst (l.map .bl)) with
  | none =>
    have : cmpD .notin (.bl false) (.lst (l.map .bl)) = (inD (.bl false) (.lst (l.map .bl))).map (!·) := rfl
    rw [this, hi] at h
    cases h
  | some b =>
    have : cmpD .notin (.bl false) (.lst (l.map .bl)) = (inD (.bl false) (.lst (l.map .bl))).map (!·) := rfl
    rw [this, hi] at h
    show inD (.bl false) (.lst (l.map .bl)) = _
    rw [hi]
    simp only [Option.map_some, Option.some.injEq] at h ⊢
    rw [← h]
    simp
end Ev

-- Tf
set_option autoImplicit true
set_option Elab.async false
set_option linter.all false
set_option maxRecDepth 100000
set_option maxHeartbeats 4000000
/-! Tf: the program's functions over typed data. -/
namespace Ev
open PySem PyProof.Rows L2
def vstep (a : List Str) (t : Tm) : List Str := match t with
  | .var x => if x ∈ a then a else a ++ [x]
  | _ => a
def varsOf (l : List Tm) : List Str := l.foldl vstep []
theorem varsOf_len (l : List Tm) : (varsOf l).length ≤ l.length := by
  have : ∀ (l : List Tm) (a : List Str), (l.foldl vstep a).length ≤ a.length + l.length := by
    intro l
    induction l with
    | nil => intro a; simp
    | cons t l ih =>
      intro a
      have := ih (vstep a t)
      have h2 : (vstep a t).length ≤ a.length + 1 := by cases t <;> simp only [vstep] <;> (try split) <;> (try simp) <;> omega
      simp only [List.foldl_cons, List.length_cons]
      omega
  have := this l []
  simpa [varsOf] using this
/-! ### forms of parts -/
def isNum : D → Bool
  | .int _ => true
  | _ => false
def letters : List Nat := (Str.ofString "abcdefghijklmnopqrstuvwxyz").cps.toList
def wordB (x : Str) : Bool := decide (0 < x.length) && x.cps.toList.all fun c => decide (c ∈ letters)
def isWord : D → Bool
  | .str x => wordB x
  | _ => false
def isVal (d : D) : Bool := isNum d || isWord d
def isRow (k : Nat) : D → Bool
  | .tup xs => decide (xs.length = k)
  | _ => false
def isTerm : D → Bool
  | .tup [.str x, .str y] => decide (x = "var") && wordB y
  | .int _ => true
  | .str x => wordB x
  | _ => false
/-! ### words of a rule -/
def Rl.tms (r : Rl) : List Tm := r.ps.flatMap Pat.ts
theorem ps_len (r : Rl) : r.ps.length ≤ r.cs.length := List.length_filterMap_le _ _
def rwords (r : Rl) : List Str := sortS (varsOf r.tms)
theorem sortS_len (l : List Str) : (sortS l).length = l.length := List.length_mergeSort _
theorem rwords_len (r : Rl) : (rwords r).length ≤ r.tms.length := by
  unfold rwords
  rw [sortS_len]
  exact varsOf_len _
/-! ### terms by a naming -/
abbrev Nm := List (Str × Tm)
def Tm.by (σ : Nm) : Tm → Tm
  | .var x => (lk σ x).getD (.var x)
  | t => t
def Pat.by (σ : Nm) (p : Pat) : Pat := ⟨p.k, p.ts.map (Tm.by σ)⟩
def nmD (σ : Nm) : D := .dct (dctD Tm.d σ)
def nbStep (σ : Nm) (q : Tm × Tm) : Except Unit Nm := match q.1 with
  | .var x => match lk σ x with
    | some v => if v = q.2 then .ok σ else .error ()
    | none => .ok (put σ x q.2)
  | t => if t = q.2 then .ok σ else .error ()
def nb (p o : Pat) (σ : Nm) : Option Nm := if p.k = o.k ∧ p.ts.length = o.ts.length then (match (p.ts.zip o.ts).foldlM nbStep σ with
    | .ok τ => some τ
    | .error _ => none) else none
def optD (e : α → D) : Option α → D
  | some a => e a
  | none => .non
def nms1 (o : List Pat) (told : List Nm) (p : Pat) : List Nm := (told.flatMap fun σ => o.map fun q => nb p q σ).filterMap id
def nms (plain rule : Rl) : List Nm := plain.ps.foldl (nms1 rule.ps) [[]]
/-- what a deed comes to -/
inductive Sd where | halt | drop (p : Pat) | make (p : Pat)
  deriving DecidableEq, Inhabited
def Sd.d : Sd → D
  | .halt => .tup [.str "halt"]
  | .drop p => .tup [.str "drop", p.d]
  | .make p => .tup [.str "make", p.d]
theorem Sd.d_inj : ∀ a b : Sd, a.d = b.d → a = b
  | .halt, b, h => by cases b <;> simp_all [Sd.d]
  | .drop p, b, h => by cases b <;> simp_all [Sd.d]; exact Pat.d_inj _ _ h
  | .make p, b, h => by cases b <;> simp_all [Sd.d]; exact Pat.d_inj _ _ h
instance : Emb Sd where
  e := Sd.d
  inj := Sd.d_inj
  dep := 4
  gd := fun a => by
    have h := fun p : Pat => Emb.gd p
    cases a <;> simp [Sd.d, D.gd, D.gds]
    · exact h _
    · exact h _
  small := by decide
@[simp] theorem Sd_inL (a : Sd) (l : List Sd) : cmpD .inn a.d (.lst (l.map Sd.d)) = some (decide (a ∈ l)) := E_inL a l
def Dd.pat? : Dd → Option Pat
  | .make p => some p
  | .stand p => some p
  | _ => none
def Dd.sd (ps : List Pat) (σ : Nm) : Dd → Sd
  | .halt => .halt
  | .drop i => .drop ((ps.getD i default).by σ)
  | .make p => .make (p.by σ)
  | .stand p => .make (p.by σ)
/-- whose names are all bound -/
def Pat.sub (p : Pat) (ws : List Str) : Prop := ∀ x ∈ p.names, x ∈ ws
def Dd.okFor (k : Nat) (ws : List Str) : Dd → Prop
  | .halt => True
  | .drop i => i < k
  | .make p => p.sub ws
  | .stand p => p.sub ws
def own (r : Rl) : Nm := (rwords r).foldl (fun a w => put a w (.var w)) []
def covers (plain : Rl) (σ : Nm) (rule : Rl) (i : Nat) : Bool := decide (((rule.ds.getD i default).sd rule.ps (own rule)) ∈ plain.ds.map (Dd.sd plain.ps σ))
def told (σ : Nm) : Nm := (sortS (σ.map (·.1))).map fun w => (w, (lk σ w).getD default)
def prD (p : Str × Tm) : D := .tup [.str p.1, p.2.d]
def toldD (t : Nm) : D := .tup (t.map prD)
def tkey : Tm → D
  | .int i => .tup [.int 0, .tup [.int 0, .int i, .str ""]]
  | .str x => .tup [.int 0, .tup [.int 1, .int 0, .str x]]
  | .var x => .tup [.int 1, .tup [.int 0, .int 0, .str x]]
def nkey (t : Nm) : D := .tup (t.map fun p => tkey p.2)
end Ev

-- Or
set_option autoImplicit true
set_option Elab.async false
set_option linter.all false
set_option maxRecDepth 100000
set_option maxHeartbeats 4000000
/-! Or: the order of keys; sorted and min by a key over typed rows. -/
namespace Ev
open PySem PyProof.Rows L2
def toks (d : D) : List (Int ⊕ List Nat) := W.keyToks d.pd
def dlt (a b : D) : Bool := W.dataLt a.pd b.pd
theorem dlt_def (a b : D) : dlt a b = lexLt itemOrd (toks a) (toks b) := rfl
theorem dlt_irrefl (a : D) : dlt a a = false := lex_irrefl (O := itemOrd) _
theorem dlt_trans {a b c : D} (h1 : dlt a b = true) (h2 : dlt b c = true) : dlt a c = true := lex_trans (O := itemOrd) _ _ _ h1 h2
theorem dlt_total {a b : D} (h1 : dlt a b = false) (h2 : dlt b a = false) : toks a = toks b := lex_total (O := itemOrd) _ _ h1 h2
theorem dlt_asymm {a b : D} (h : dlt a b = true) : dlt b a = false := by
  cases h2 : dlt b a with
  | false => rfl
  | true =>
    have := dlt_trans h h2
    rw [dlt_irrefl] at this
    cases this
theorem dle_trans {a b c : D} (h1 : dlt b a = false) (h2 : dlt c b = false) : dlt c a = false := by
  cases h : dlt c a with
  | false => rfl
  | true =>
    have := lex_negTrans (O := itemOrd) (toks c) (toks b) (toks a) h
    rcases this with q | q
    · rw [← dlt_def, h2] at q; cases q
    · rw [← dlt_def, h1] at q; cases q
/-- alike, and equal just if Python says so -/
structure Kd (x y : D) : Prop where
  al : W.alike x.pd y.pd = true
  eq : PyData.eqv x.pd y.pd = decide (x = y)
def rlt (xs ys : List D) : Bool := lexLt itemOrd (W.keyToksAll (D.pds xs)) (W.keyToksAll (D.pds ys))
theorem dlt_tup (xs ys : List D) : dlt (.tup xs) (.tup ys) = rlt xs ys := by
  show W.dataLt (.tuple (D.pds xs)) (.tuple (D.pds ys)) = _
  rw [W.dataLt_tuple]
  rfl
@[simp] theorem dlt_int (a b : Int) : dlt (.int a) (.int b) = decide (a < b) := W.dataLt_int a b
@[simp] theorem dlt_str (a b : Str) : dlt (.str a) (.str b) = decide (a.cps.toList < b.cps.toList) := W.dataLt_str a b
theorem rlt_cons {x y : D} (h : Kd x y) (xs ys : List D) : rlt (x :: xs) (y :: ys) = if x = y then rlt xs ys else dlt x y := by
  unfold rlt
  show lexLt itemOrd (W.keyToksAll (x.pd :: D.pds xs)) (W.keyToksAll (y.pd :: D.pds ys)) = _
  rw [W.dataLt_cons h.al, h.eq]
  by_cases e : x = y
  · simp [e]
  · simp [e]; rfl
@[simp] theorem rlt_nil : rlt [] [] = false := lex_irrefl (O := itemOrd) _
theorem Kd.int (a b : Int) : Kd (.int a) (.int b) := ⟨by simp [D.pd, W.alike], by
  by_cases h : a = b <;> simp [D.pd, PyData.eqv, h]⟩
theorem Kd.str (a b : Str) : Kd (.str a) (.str b) := ⟨by simp [D.pd, W.alike], by
  by_cases h : a = b <;> simp [D.pd, PyData.eqv, h]⟩
theorem Kd.tup1 {a b : D} (h : Kd a b) : Kd (.tup [a]) (.tup [b]) := ⟨by
  have := h.al
  simp [D.pd, D.pds, W.alike, W.alikeAll, this], by
  simp only [D.pd, D.pds, PyData.eqv, PyData.eqvAll, h.eq, D.tup.injEq, List.cons.injEq, and_true, Bool.and_true]⟩
theorem Kd.tup2 {a b a' b' : D} (h : Kd a b) (h' : Kd a' b') : Kd (.tup [a, a']) (.tup [b, b']) := ⟨by
  simp [D.pd, D.pds, W.alike, W.alikeAll, h.al, h'.al], by
  simp only [D.pd, D.pds, PyData.eqv, PyData.eqvAll, h.eq, h'.eq, D.tup.injEq, List.cons.injEq, and_true, Bool.and_true, Bool.decide_and]⟩
theorem Kd.tup3 {a b a' b' c d : D} (h : Kd a b) (h' : Kd a' b') (h'' : Kd c d) : Kd (.tup [a, a', c]) (.tup [b, b', d]) := ⟨by
  simp [D.pd, D.pds, W.alike, W.alikeAll, h.al, h'.al, h''.al], by
  simp only [D.pd, D.pds, PyData.eqv, PyData.eqvAll, h.eq, h'.eq, h''.eq, D.tup.injEq, List.cons.injEq, and_true, Bool.and_true, Bool.decide_and]⟩
/-! ### keys of a row -/
theorem keysO_map {F : Fn} {f : Nat} {st : List D} {α : Type} (emb key : α → D) : ∀ (l : List α), (∀ x ∈ l, F f [emb x] st = some (key x, st)) → keysO F f st (l.map emb) = some (l.map key)
  | [], _ => rfl
  | x :: l, h => by
    have ih := keysO_map emb key l fun y hy => h y (List.mem_cons_of_mem _ hy)
    show (F f [emb x] st).bind _ = _
    rw [h x List.mem_cons_self]
    simp [ih]
def minT {α : Type} (key : α → D) (x : α) (l : List α) : α := l.foldl (fun b p => if dlt (key p) (key b) = true then p else b) x
theorem minPT_map {α : Type} (emb key : α → D) : ∀ (l : List α) (x : α), minP (emb x, key x) ((l.map emb).zip (l.map key)) = (emb (minT key x l), key (minT key x l))
  | [], _ => rfl
  | y :: l, x => by
    have ih := minPT_map emb key l (if dlt (key y) (key x) = true then y else x)
    unfold minP minT at *
    simp only [List.map_cons, List.zip_cons_cons, List.foldl_cons]
    rw [← ih]
    congr 1
    show (if dlt (key y) (key x) = true then _ else _) = _
    split <;> rfl
theorem minT_spec {α : Type} (key : α → D) : ∀ (l : List α) (x : α), minT key x l ∈ x :: l ∧ ∀ y ∈ x :: l, dlt (key y) (key (minT key x l)) = false
  | [], x => ⟨List.mem_singleton.mpr rfl, fun y hy => by rw [List.mem_singleton.mp hy]; exact dlt_irrefl _⟩
  | z :: l, x => by
    have e : minT key x (z :: l) = minT key (if dlt (key z) (key x) = true then z else x) l := rfl
    rw [e]
    obtain ⟨h1, h2⟩ := minT_spec key l (if dlt (key z) (key x) = true then z else x)
    by_cases h : dlt (key z) (key x) = true
    · rw [if_pos h] at h1 h2 ⊢
      refine ⟨List.mem_cons_of_mem _ h1, fun y hy => ?_⟩
      rcases List.mem_cons.mp hy with rfl | hy
      · exact dle_trans (h2 z List.mem_cons_self) (dlt_asymm h)
      · exact h2 y hy
    · have h' : dlt (key z) (key x) = false := by simpa using h
      rw [if_neg h] at h1 h2 ⊢
      refine ⟨?_, fun y hy => ?_⟩
      · rcases List.mem_cons.mp h1 with q | q
        · rw [q]; exact List.mem_cons_self
        · exact List.mem_cons_of_mem _ (List.mem_cons_of_mem _ q)
      · rcases List.mem_cons.mp hy with rfl | hy
        · exact h2 _ List.mem_cons_self
        · rcases List.mem_cons.mp hy with rfl | hy
          · exact dle_trans (h2 x List.mem_cons_self) h'
          · exact h2 y (List.mem_cons_of_mem _ hy)
def leT {α : Type} (key : α → D) (a b : α) : Bool := !dlt (key b) (key a)
theorem sortPT_map {α : Type} (emb key : α → D) (l : List α) : sortP (l.map emb) (l.map key) = (l.mergeSort (leT key)).map emb := by
  unfold sortP
  have e : (l.map emb).zip (l.map key) = l.map fun x => (emb x, key x) := by
    induction l with
    | nil => rfl
    | cons x l ih => simp [ih]
  rw [e, ← List.map_mergeSort (r := leT key) (f := fun x => (emb x, key x)) (fun a _ b _ => rfl), List.map_map]
  rfl
theorem s_minKD (F : Fn) (s : S) (f : Nat) (a : IE) : evE F (.minKD f a) s = (evE F a s).bind fun p => match p.1 with
      | .lst [] => some (.non, p.2)
      | .lst (x :: xs) => (keysO F f p.2.st (x :: xs)).bind fun ks => match ks with
        | k :: ks => if keysOkM (k :: ks) then some ((minP (x, k) (xs.zip ks)).1, p.2) else none
        | [] => none
      | _ => none := rfl
theorem s_sortK (F : Fn) (s : S) (f : Nat) (a : IE) : evE F (.sortK f a) s = (evE F a s).bind fun p => match p.1 with
      | .lst xs => (keysO F f p.2.st xs).bind fun ks => if keysOk ks then some (.lst (sortP xs ks), p.2) else none
      | _ => none := rfl
def minO {α : Type} (key : α → D) : List α → Option α
  | [] => none
  | x :: l => some (minT key x l)
/-- data that may stand as keys, one beside the other -/
structure KOk (ks : List D) : Prop where
  kd : ∀ k ∈ ks, D.keyed deep k = true
  al : ∀ a ∈ ks, ∀ b ∈ ks, W.alike a.pd b.pd = true
  tp : ∀ k ∈ ks, tupNE k = true
theorem KOk.ok {ks : List D} (h : KOk ks) : keysOk ks = true := by
  unfold keysOk
  rw [Bool.and_eq_true, Bool.and_eq_true]
  refine ⟨⟨List.all_eq_true.mpr h.kd, List.all_eq_true.mpr fun a ha => List.all_eq_true.mpr fun b hb => h.al a ha b hb⟩, ?_⟩
  rw [Bool.or_eq_true]
  exact .inl (List.all_eq_true.mpr h.tp)
theorem minKD_ok {F : Fn} {f : Nat} {s : S} {a : IE} {α : Type} (emb key : α → D) (l : List α) {s1 : S} (h : evE F a s = some (.lst (l.map emb), s1)) (hf : ∀ x ∈ l, F f [emb x] s1.st = some (key x, s1.st))
    (hk : ∀ x ∈ l, D.keyed deep (key x) = true ∧ key x ≠ .non) (ha : ∀ x ∈ l, ∀ y ∈ l, W.alike (key x).pd (key y).pd = true) : evE F (.minKD f a) s = some (optD emb (minO key l), s1) := by
  rw [s_minKD, h]
  cases l with
  | nil => rfl
  | cons x l =>
    have e := keysO_map emb key (x :: l) hf
    simp only [Option.bind_some, List.map_cons] at e ⊢
    rw [e]
    have e2 : keysOkM ((x :: l).map key) = true := by
      unfold keysOkM
      rw [Bool.and_eq_true, Bool.and_eq_true]
      refine ⟨⟨List.all_eq_true.mpr fun k hk' => ?_, List.all_eq_true.mpr fun k hk' => List.all_eq_true.mpr fun k' hk'' => ?_⟩, List.all_eq_true.mpr fun k hk' => ?_⟩
      · obtain ⟨y, hy, rfl⟩ := List.mem_map.mp hk'
        exact (hk y hy).1
      · obtain ⟨y, hy, rfl⟩ := List.mem_map.mp hk'
        obtain ⟨z, hz, rfl⟩ := List.mem_map.mp hk''
        exact ha y hy z hz
      · obtain ⟨y, hy, rfl⟩ := List.mem_map.mp hk'
        exact decide_eq_true (hk y hy).2
    simp only [List.map_cons] at e2
    simp only [Option.bind_some, e2, if_true, minPT_map]
    rfl
theorem sortK_ok {F : Fn} {f : Nat} {s : S} {a : IE} {α : Type} (emb key : α → D) (l : List α) {s1 : S} (h : evE F a s = some (.lst (l.map emb), s1)) (hf : ∀ x ∈ l, F f [emb x] s1.st = some (key x, s1.st))
    (hk : KOk (l.map key)) : evE F (.sortK f a) s = some (.lst ((l.mergeSort (leT key)).map emb), s1) := by
  rw [s_sortK, h]
  have e := keysO_map emb key l hf
  simp only [Option.bind_some, e, hk.ok, if_true, sortPT_map]
theorem leT_trans {α : Type} (key : α → D) (a b c : α) (h1 : leT key a b = true) (h2 : leT key b c = true) : leT key a c = true := by
  unfold leT at *
  simp only [Bool.not_eq_true'] at *
  exact dle_trans h1 h2
theorem leT_total {α : Type} (key : α → D) (a b : α) : (leT key a b || leT key b a) = true := by
  unfold leT
  cases h : dlt (key b) (key a) with
  | false => rfl
  | true => rw [dlt_asymm h]; rfl
theorem sortT_pairwise {α : Type} (key : α → D) (l : List α) : (l.mergeSort (leT key)).Pairwise fun a b => dlt (key b) (key a) = false := by
  have := List.pairwise_mergeSort (le := leT key) (fun a b c => leT_trans key a b c) (fun a b => leT_total key a b) l
  refine this.imp fun {a b} h => ?_
  unfold leT at h
  simpa using h
theorem sortS_perm (l : List Str) : (sortS l).Perm l := List.mergeSort_perm _ _
theorem mem_sortS {l : List Str} {x : Str} : x ∈ sortS l ↔ x ∈ l := (sortS_perm l).mem_iff
theorem Str_ext {a b : Str} (h : a.cps.toList = b.cps.toList) : a = b := by
  cases a; cases b
  simp only [Str.mk.injEq]
  exact Array.toList_inj.mp h
theorem leS_antisymm {a b : Str} (h1 : leS a b = true) (h2 : leS b a = true) : a = b := by
  unfold leS at *
  simp only [Bool.not_eq_true', decide_eq_false_iff_not] at *
  exact Str_ext (List.le_antisymm (List.not_lt.mp h1) (List.not_lt.mp h2))
theorem sortS_pairwise (l : List Str) : (sortS l).Pairwise fun a b => leS a b = true := List.pairwise_mergeSort leS_trans leS_total l
/-- a sorted row is told by its things -/
theorem sorted_unique {α : Type} {le : α → α → Bool} (anti : ∀ a b, le a b = true → le b a = true → a = b) {l m : List α} (hp : l.Perm m) (hl : l.Pairwise fun a b => le a b = true) (hm : m.Pairwise fun a b => le a b = true) : l = m := by
  induction l generalizing m with
  | nil => exact (List.nil_perm.mp hp).symm
  | cons a l ih =>
    cases m with
    | nil => exact absurd hp.length_eq (by simp)
    | cons b m =>
      have hab : a = b := by
        have h1 : a ∈ b :: m := hp.mem_iff.mp List.mem_cons_self
        have h2 : b ∈ a :: l := hp.mem_iff.mpr List.mem_cons_self
        rcases List.mem_cons.mp h1 with q | q
        · exact q
        · rcases List.mem_cons.mp h2 with q2 | q2
          · exact q2.symm
          · exact anti a b ((List.pairwise_cons.mp hl).1 b q2) ((List.pairwise_cons.mp hm).1 a q)
      subst hab
      rw [ih hp.cons_inv (List.pairwise_cons.mp hl).2 (List.pairwise_cons.mp hm).2]
theorem sortS_congr {l m : List Str} (h : l.Perm m) : sortS l = sortS m :=
  sorted_unique (fun _ _ => leS_antisymm) (((sortS_perm l).trans h).trans (sortS_perm m).symm) (sortS_pairwise l) (sortS_pairwise m)
theorem sortS_nodup {l : List Str} (h : l.Nodup) : (sortS l).Nodup := (sortS_perm l).nodup_iff.mpr h
end Ev

-- Nam
set_option autoImplicit true
set_option Elab.async false
set_option linter.all false
set_option maxRecDepth 100000
set_option maxHeartbeats 4000000
/-! Nam: namings: the join of the program finds just the namings that put all patterns among those of the rule; the law's rows in order; the least is the first. -/
namespace Ev
open PySem PyProof.Rows L2
def mk (f : Str → Tm) (K : List Str) : Nm := K.map fun x => (x, f x)
theorem lk_mk (f : Str → Tm) (x : Str) : ∀ K : List Str, lk (mk f K) x = if x ∈ K then some (f x) else none
  | [] => by simp [lk, mk]
  | y :: K => by
    have ih := lk_mk f x K
    unfold lk mk at *
    rw [List.map_cons, List.find?_cons]
    by_cases h : y = x
    · subst h; simp
    · have h' : ¬ x = y := fun e => h e.symm
      simp only [h, decide_false, List.mem_cons, h', false_or]
      exact ih
theorem keys_mk (f : Str → Tm) (K : List Str) : (mk f K).map (·.1) = K := by
  unfold mk
  rw [List.map_map]
  exact (List.map_congr_left (fun _ _ => rfl)).trans (List.map_id K)
theorem hasK_mk (f : Str → Tm) (K : List Str) (x : Str) : hasK (mk f K) x = decide (x ∈ K) := by
  rw [← lks_some, lk_mk]
  by_cases h : x ∈ K <;> simp [h]
theorem mk_congr {f g : Str → Tm} {K : List Str} (h : ∀ x ∈ K, f x = g x) : mk f K = mk g K := List.map_congr_left fun x hx => by rw [h x hx]
theorem mk_len (f : Str → Tm) (K : List Str) : (mk f K).length = K.length := List.length_map _
theorem put_mk {f : Str → Tm} {K : List Str} {x : Str} {v : Tm} (hx : x ∉ K) : put (mk f K) x v = mk (fun y => if y = x then v else f y) (K ++ [x]) := by
  unfold put
  rw [hasK_mk, decide_eq_false hx, if_neg Bool.false_ne_true]
  have e : mk f K = mk (fun y => if y = x then v else f y) K := mk_congr fun y hy => by
    have : ¬ y = x := fun e => hx (e ▸ hy)
    simp [this]
  rw [e]
  simp [mk]
def Tm.fby (f : Str → Tm) : Tm → Tm
  | .var x => f x
  | t => t
def Pat.fby (f : Str → Tm) (p : Pat) : Pat := ⟨p.k, p.ts.map (Tm.fby f)⟩
theorem vstep_sub (K : List Str) (t : Tm) : ∀ x ∈ K, x ∈ vstep K t := by
  intro x hx
  cases t <;> simp only [vstep] <;> (try exact hx)
  split
  · exact hx
  · exact List.mem_append_left _ hx
theorem vstep_nodup {K : List Str} (h : K.Nodup) (t : Tm) : (vstep K t).Nodup := by
  cases t <;> simp only [vstep] <;> (try exact h)
  split
  · exact h
  · rename_i x hx
    rw [List.nodup_append]
    refine ⟨h, by simp, ?_⟩
    intro a ha b hb
    rw [List.mem_singleton] at hb
    subst hb
    exact fun e => hx (e ▸ ha)
theorem vstep_mem (K : List Str) (x : Str) : x ∈ vstep K (.var x) := by
  simp only [vstep]
  split
  · assumption
  · simp
theorem vfold_sub (l : List Tm) : ∀ (K : List Str), ∀ x ∈ K, x ∈ l.foldl vstep K := by
  induction l with
  | nil => intro K x hx; exact hx
  | cons t l ih => intro K x hx; exact ih _ _ (vstep_sub K t x hx)
theorem vfold_nodup (l : List Tm) : ∀ {K : List Str}, K.Nodup → (l.foldl vstep K).Nodup := by
  induction l with
  | nil => intro K h; exact h
  | cons t l ih => intro K h; exact ih (vstep_nodup h t)
theorem vfold_mem (l : List Tm) : ∀ (K : List Str) (x : Str), x ∈ l.foldl vstep K ↔ x ∈ K ∨ .var x ∈ l := by
  induction l with
  | nil => intro K x; simp
  | cons t l ih =>
    intro K x
    rw [List.foldl_cons, ih, List.mem_cons]
    cases t with
    | var y =>
      simp only [vstep]
      by_cases h : y ∈ K
      · rw [if_pos h]
        constructor
        · rintro (q | q)
          · exact .inl q
          · exact .inr (.inr q)
        · rintro (q | q | q)
          · exact .inl q
          · cases q; exact .inl h
          · exact .inr q
      · rw [if_neg h, List.mem_append, List.mem_singleton]
        constructor
        · rintro ((q | q) | q)
          · exact .inl q
          · exact .inr (.inl (by rw [q]))
          · exact .inr (.inr q)
        · rintro (q | q | q)
          · exact .inl (.inl q)
          · cases q; exact .inl (.inr rfl)
          · exact .inr q
    | _ => simp [vstep]
theorem varsOf_mem (l : List Tm) (x : Str) : x ∈ varsOf l ↔ .var x ∈ l := by
  unfold varsOf
  rw [vfold_mem]
  simp
theorem nbStep_to {f : Str → Tm} {K : List Str} {t u : Tm} {τ : Nm} (h : nbStep (mk f K) (t, u) = .ok τ) : ∃ g : Str → Tm, (∀ x ∈ K, g x = f x) ∧ t.fby g = u ∧ τ = mk g (vstep K t) := by
  cases t with
  | var x =>
    simp only [nbStep, lk_mk] at h
    by_cases hx : x ∈ K
    · simp only [hx, if_true] at h
      split at h
      · rename_i hf
        cases h
        exact ⟨f, fun _ _ => rfl, hf, by simp [vstep, hx]⟩
      · cases h
    · simp only [hx, if_false] at h
      cases h
      refine ⟨fun y => if y = x then u else f y, ?_, by simp [Tm.fby], ?_⟩
      · intro y hy
        have : ¬ y = x := fun e => hx (e ▸ hy)
        simp [this]
      · rw [put_mk hx]
        simp [vstep, hx]
  | int i =>
    simp only [nbStep] at h
    split at h
    · rename_i hf
      cases h
      exact ⟨f, fun _ _ => rfl, hf, rfl⟩
    · cases h
  | str i =>
    simp only [nbStep] at h
    split at h
    · rename_i hf
      cases h
      exact ⟨f, fun _ _ => rfl, hf, rfl⟩
    · cases h
theorem nbStep_of {f : Str → Tm} {K : List Str} {t u : Tm} (h : t.fby f = u) : nbStep (mk f K) (t, u) = .ok (mk f (vstep K t)) := by
  subst h
  cases t with
  | var x =>
    simp only [nbStep, lk_mk, vstep, Tm.fby]
    by_cases hx : x ∈ K
    · simp [hx]
    · simp only [hx, if_false]
      rw [put_mk hx]
      congr 1
      apply mk_congr
      intro y _
      by_cases h : y = x <;> simp [h]
  | int i => simp [nbStep, Tm.fby, vstep]
  | str i => simp [nbStep, Tm.fby, vstep]
theorem nbFold_to : ∀ (l : List (Tm × Tm)) {f : Str → Tm} {K : List Str} {τ : Nm}, l.foldlM nbStep (mk f K) = .ok τ → ∃ g : Str → Tm, (∀ x ∈ K, g x = f x) ∧ (∀ q ∈ l, q.1.fby g = q.2) ∧ τ = mk g ((l.map (·.1)).foldl vstep K)
  | [], f, K, τ, h => by
    simp [pure, Except.pure] at h
    subst h
    exact ⟨f, fun _ _ => rfl, by simp, rfl⟩
  | (t, u) :: l, f, K, τ, h => by
    rw [List.foldlM_cons] at h
    cases h1 : nbStep (mk f K) (t, u) with
    | error e => rw [h1] at h; cases h
    | ok σ =>
      rw [h1] at h
      obtain ⟨g1, a1, a2, rfl⟩ := nbStep_to h1
      obtain ⟨g, b1, b2, b3⟩ := nbFold_to l (f := g1) (K := vstep K t) h
      refine ⟨g, fun x hx => (b1 x (vstep_sub K t x hx)).trans (a1 x hx), ?_, b3⟩
      intro q hq
      rcases List.mem_cons.mp hq with rfl | hq
      · rw [← a2]
        cases t with
        | var x => exact b1 x (vstep_mem K x)
        | _ => rfl
      · exact b2 q hq
theorem nbFold_of : ∀ (l : List (Tm × Tm)) {f : Str → Tm} {K : List Str}, (∀ q ∈ l, q.1.fby f = q.2) → l.foldlM nbStep (mk f K) = .ok (mk f ((l.map (·.1)).foldl vstep K))
  | [], f, K, _ => rfl
  | (t, u) :: l, f, K, h => by
    rw [List.foldlM_cons, nbStep_of (h (t, u) List.mem_cons_self)]
    exact nbFold_of l fun q hq => h q (List.mem_cons_of_mem _ hq)
theorem zip_fst : ∀ {a b : List Tm}, a.length = b.length → (a.zip b).map (·.1) = a
  | [], _, _ => rfl
  | _ :: _, [], h => by cases h
  | x :: a, y :: b, h => by
    simp only [List.zip_cons_cons, List.map_cons, List.cons.injEq, true_and]
    exact zip_fst (by simpa using h)
theorem zip_all : ∀ {f : Str → Tm} {a b : List Tm}, a.length = b.length → ((∀ q ∈ a.zip b, q.1.fby f = q.2) ↔ a.map (Tm.fby f) = b)
  | _, [], [], _ => by simp
  | _, _ :: _, [], h => by cases h
  | _, [], _ :: _, h => by cases h
  | f, x :: a, y :: b, h => by
    have ih := zip_all (f := f) (a := a) (b := b) (by simpa using h)
    rw [List.zip_cons_cons, List.map_cons, List.cons.injEq, ← ih]
    constructor
    · intro q
      exact ⟨q (x, y) List.mem_cons_self, fun z hz => q z (List.mem_cons_of_mem _ hz)⟩
    · rintro ⟨q1, q2⟩ z hz
      rcases List.mem_cons.mp hz with rfl | hz
      · exact q1
      · exact q2 z hz
theorem nb_to {p o : Pat} {f : Str → Tm} {K : List Str} {τ : Nm} (h : nb p o (mk f K) = some τ) : ∃ g : Str → Tm, (∀ x ∈ K, g x = f x) ∧ p.fby g = o ∧ τ = mk g (p.ts.foldl vstep K) := by
  unfold nb at h
  split at h
  · rename_i hk
    cases hf : (p.ts.zip o.ts).foldlM nbStep (mk f K) with
    | error e => rw [hf] at h; cases h
    | ok σ =>
      rw [hf] at h
      cases h
      obtain ⟨g, a1, a2, a3⟩ := nbFold_to _ hf
      refine ⟨g, a1, ?_, ?_⟩
      · cases o
        unfold Pat.fby
        rw [(zip_all hk.2).mp a2]
        simp only at hk
        rw [hk.1]
      · rw [zip_fst hk.2] at a3
        exact a3
  · cases h
theorem nb_of (p : Pat) (f : Str → Tm) (K : List Str) : nb p (p.fby f) (mk f K) = some (mk f (p.ts.foldl vstep K)) := by
  have hl : p.ts.length = (p.fby f).ts.length := by simp [Pat.fby]
  unfold nb
  rw [if_pos ⟨rfl, hl⟩, nbFold_of (p.ts.zip (p.fby f).ts) ((zip_all hl).mpr rfl), zip_fst hl]
theorem mem_nms1 {o : List Pat} {told : List Nm} {p : Pat} {τ : Nm} : τ ∈ nms1 o told p ↔ ∃ σ ∈ told, ∃ q ∈ o, nb p q σ = some τ := by
  unfold nms1
  rw [List.mem_filterMap]
  constructor
  · rintro ⟨x, hx, e⟩
    simp only [id] at e
    subst e
    obtain ⟨σ, hσ, hx⟩ := List.mem_flatMap.mp hx
    obtain ⟨q, hq, e⟩ := List.mem_map.mp hx
    exact ⟨σ, hσ, q, hq, e⟩
  · rintro ⟨σ, hσ, q, hq, e⟩
    exact ⟨some τ, List.mem_flatMap.mpr ⟨σ, hσ, List.mem_map.mpr ⟨q, hq, e⟩⟩, rfl⟩
theorem fby_congr {f g : Str → Tm} {p : Pat} (h : ∀ x, .var x ∈ p.ts → f x = g x) : p.fby f = p.fby g := by
  unfold Pat.fby
  congr 1
  apply List.map_congr_left
  intro t ht
  cases t with
  | var x => exact h x ht
  | _ => rfl
theorem mem_nms_fold (o : List Pat) (ps : List Pat) : ∀ (K : List Str) (told : List Nm) (C : (Str → Tm) → Prop), (∀ f g, (∀ x ∈ K, f x = g x) → C f → C g) → (∀ σ, σ ∈ told ↔ ∃ f, C f ∧ σ = mk f K) →
    ∀ σ, σ ∈ ps.foldl (nms1 o) told ↔ ∃ f, (C f ∧ ∀ p ∈ ps, p.fby f ∈ o) ∧ σ = mk f ((ps.flatMap Pat.ts).foldl vstep K) := by
  induction ps with
  | nil =>
    intro K told C _ hC σ
    simp [hC]
  | cons p ps ih =>
    intro K told C hc hC σ
    rw [List.foldl_cons]
    have e : ((p :: ps).flatMap Pat.ts).foldl vstep K = (ps.flatMap Pat.ts).foldl vstep (p.ts.foldl vstep K) := by rw [List.flatMap_cons, List.foldl_append]
    rw [e, ih (p.ts.foldl vstep K) (nms1 o told p) (fun f => C f ∧ p.fby f ∈ o) ?_ ?_ σ]
    · constructor
      · rintro ⟨f, ⟨⟨a, b⟩, c⟩, d⟩
        refine ⟨f, ⟨a, fun q hq => ?_⟩, d⟩
        rcases List.mem_cons.mp hq with rfl | hq
        · exact b
        · exact c q hq
      · rintro ⟨f, ⟨a, b⟩, d⟩
        exact ⟨f, ⟨⟨a, b p List.mem_cons_self⟩, fun q hq => b q (List.mem_cons_of_mem _ hq)⟩, d⟩
    · rintro f g hfg ⟨a, b⟩
      refine ⟨hc f g (fun x hx => hfg x (vfold_sub _ _ x hx)) a, ?_⟩
      rw [← fby_congr (f := f) (g := g) fun x hx => hfg x ((vfold_mem _ _ _).mpr (.inr hx))]
      exact b
    · intro τ
      rw [mem_nms1]
      constructor
      · rintro ⟨σ, hσ, q, hq, h⟩
        obtain ⟨f, hf, rfl⟩ := (hC σ).mp hσ
        obtain ⟨g, a1, a2, a3⟩ := nb_to h
        exact ⟨g, ⟨hc f g (fun x hx => (a1 x hx).symm) hf, a2 ▸ hq⟩, a3⟩
      · rintro ⟨f, ⟨a, b⟩, rfl⟩
        exact ⟨mk f K, (hC _).mpr ⟨f, a, rfl⟩, p.fby f, b, nb_of p f K⟩
theorem mem_nms (pl r : Rl) (σ : Nm) : σ ∈ nms pl r ↔ ∃ f, (∀ p ∈ pl.ps, p.fby f ∈ r.ps) ∧ σ = mk f (varsOf pl.tms) := by
  unfold nms
  rw [mem_nms_fold r.ps pl.ps [] [[]] (fun _ => True) (fun _ _ _ h => h) (by
    intro σ
    constructor
    · intro h
      exact ⟨default, trivial, by rw [List.mem_singleton] at h; rw [h]; rfl⟩
    · rintro ⟨f, _, rfl⟩
      simp [mk]) σ]
  simp only [true_and]
  rfl
theorem told_mk (f : Str → Tm) (K : List Str) : told (mk f K) = mk f (sortS K) := by
  unfold told
  rw [keys_mk]
  unfold mk
  apply List.map_congr_left
  intro x hx
  have hx' : x ∈ K := mem_sortS.mp hx
  have := lk_mk f x K
  unfold mk at this
  rw [this, if_pos hx']
  rfl
theorem by_congr {σ τ : Nm} (h : ∀ x, lk σ x = lk τ x) : Tm.by σ = Tm.by τ := by
  funext t
  cases t <;> simp [Tm.by, h]
theorem covers_congr {σ τ : Nm} (h : ∀ x, lk σ x = lk τ x) (pl r : Rl) (i : Nat) : covers pl σ r i = covers pl τ r i := by
  have e : Pat.by σ = Pat.by τ := by
    funext p
    unfold Pat.by
    rw [by_congr h]
  have e2 : Dd.sd pl.ps σ = Dd.sd pl.ps τ := by
    funext d
    cases d <;> simp [Dd.sd, e]
  unfold covers
  rw [e2]
theorem lk_mk_perm {K L : List Str} (h : K.Perm L) (f : Str → Tm) (x : Str) : lk (mk f K) x = lk (mk f L) x := by
  rw [lk_mk, lk_mk]
  simp only [h.mem_iff]
theorem by_mk {f : Str → Tm} {K : List Str} {p : Pat} (h : ∀ x, .var x ∈ p.ts → x ∈ K) : p.by (mk f K) = p.fby f := by
  unfold Pat.by Pat.fby
  congr 1
  apply List.map_congr_left
  intro t ht
  cases t with
  | var x => simp [Tm.by, Tm.fby, lk_mk, h x ht]
  | _ => rfl
theorem rwords_mem (r : Rl) (x : Str) : x ∈ rwords r ↔ .var x ∈ r.tms := by
  unfold rwords
  rw [mem_sortS, varsOf_mem]
theorem rwords_nodup (r : Rl) : (rwords r).Nodup := sortS_nodup (vfold_nodup _ List.nodup_nil)
/-- the program's told namings -/
def progN (r : Rl) (i : Nat) (pl : Rl) : List Nm := ((nms pl r).filter fun σ => covers pl σ r i).map told
/-- a naming of all words that puts the patterns among those of the rule, and a deed on its deed -/
def RightN (r : Rl) (i : Nat) (pl : Rl) (τ : Nm) : Prop := τ.map (·.1) = rwords pl ∧ (∀ p ∈ pl.ps, p.by τ ∈ r.ps) ∧ covers pl τ r i = true
theorem mk_of_keys {τ : Nm} {K : List Str} (h : τ.map (·.1) = K) (hn : K.Nodup) : τ = mk (fun x => (lk τ x).getD default) K := by
  subst h
  have : ∀ l : Nm, (l.map (·.1)).Nodup → (∀ p ∈ l, lk l p.1 = some p.2) := by
    intro l
    induction l with
    | nil => intro _ p hp; cases hp
    | cons q l ih =>
      intro hn p hp
      rw [List.map_cons, List.nodup_cons] at hn
      unfold lk
      rw [List.find?_cons]
      rcases List.mem_cons.mp hp with rfl | hp
      · simp
      · have hne : ¬ q.1 = p.1 := fun e => hn.1 (e ▸ List.mem_map_of_mem hp)
        simp only [hne, decide_false]
        exact ih hn.2 p hp
  have h2 := this τ hn
  unfold mk
  rw [List.map_map]
  symm
  conv => rhs; rw [← List.map_id τ]
  apply List.map_congr_left
  intro p hp
  simp [h2 p hp]
theorem ps_var {r : Rl} {p : Pat} (hp : p ∈ r.ps) {x : Str} (hx : .var x ∈ p.ts) : x ∈ rwords r := (rwords_mem r x).mpr (List.mem_flatMap.mpr ⟨p, hp, hx⟩)
theorem mem_progN (r : Rl) (i : Nat) (pl : Rl) (τ : Nm) : τ ∈ progN r i pl ↔ RightN r i pl τ := by
  unfold progN RightN
  rw [List.mem_map]
  have hp : (varsOf pl.tms).Perm (rwords pl) := (sortS_perm _).symm
  constructor
  · rintro ⟨σ, hσ, rfl⟩
    obtain ⟨h1, h2⟩ := List.mem_filter.mp hσ
    obtain ⟨f, hf, rfl⟩ := (mem_nms pl r σ).mp h1
    rw [told_mk]
    refine ⟨keys_mk _ _, ?_, ?_⟩
    · intro p hp
      show Pat.by (mk f (rwords pl)) p ∈ r.ps
      rw [by_mk fun x hx => ps_var hp hx]
      exact hf p hp
    · rw [covers_congr (τ := mk f (varsOf pl.tms)) fun x => lk_mk_perm (sortS_perm _) f x]
      exact h2
  · rintro ⟨h1, h2, h3⟩
    have e := mk_of_keys h1 (rwords_nodup pl)
    refine ⟨mk (fun x => (lk τ x).getD default) (varsOf pl.tms), List.mem_filter.mpr ⟨(mem_nms pl r _).mpr ⟨_, ?_, rfl⟩, ?_⟩, ?_⟩
    · intro p hp
      have := h2 p hp
      rw [e, by_mk fun x hx => ps_var hp hx] at this
      exact this
    · rw [covers_congr (τ := mk (fun x => (lk τ x).getD default) (rwords pl)) fun x => lk_mk_perm hp _ x]
      rw [e] at h3
      exact h3
    · rw [told_mk]
      exact e.symm
/-! ### the law's rows -/
def rowsN (T : List Tm) (ws : List Str) : List (List Tm) := ws.foldl (fun found _ => found.flatMap fun row => T.map fun t => row ++ [t]) [[]]
def lawN (T : List Tm) (r : Rl) (i : Nat) (pl : Rl) : List Nm := ((rowsN T (rwords pl)).filter fun row => pl.ps.all (fun p => decide (p.by ((rwords pl).zip row) ∈ r.ps)) && covers pl ((rwords pl).zip row) r i).map fun row => (rwords pl).zip row
theorem mem_rows_fold (T : List Tm) (ws : List Str) : ∀ (n : Nat) (found : List (List Tm)), (∀ row, row ∈ found ↔ row.length = n ∧ ∀ t ∈ row, t ∈ T) → ∀ row, row ∈ ws.foldl (fun found _ => found.flatMap fun row => T.map fun t => row ++ [t]) found ↔ row.length = n + ws.length ∧ ∀ t ∈ row, t ∈ T := by
  induction ws with
  | nil => intro n found h row; simpa using h row
  | cons w ws ih =>
    intro n found h row
    rw [List.foldl_cons, ih (n + 1) _ ?_ row]
    · rw [List.length_cons, Nat.add_assoc, Nat.add_comm 1]
    · intro row
      rw [List.mem_flatMap]
      constructor
      · rintro ⟨r0, h0, h1⟩
        obtain ⟨t, ht, rfl⟩ := List.mem_map.mp h1
        obtain ⟨a, b⟩ := (h r0).mp h0
        refine ⟨by simp [a], fun u hu => ?_⟩
        rcases List.mem_append.mp hu with q | q
        · exact b u q
        · rw [List.mem_singleton] at q; exact q ▸ ht
      · rintro ⟨a, b⟩
        have hne : row ≠ [] := fun e => by rw [e] at a; cases a
        refine ⟨row.dropLast, (h _).mpr ⟨by rw [List.length_dropLast]; omega, fun t ht => b t ((List.dropLast_sublist row).subset ht)⟩, List.mem_map.mpr ⟨row.getLast hne, b _ (List.getLast_mem hne), List.dropLast_concat_getLast hne⟩⟩
theorem mem_rows (T : List Tm) (ws : List Str) (row : List Tm) : row ∈ rowsN T ws ↔ row.length = ws.length ∧ ∀ t ∈ row, t ∈ T := by
  unfold rowsN
  rw [mem_rows_fold T ws 0 [[]] ?_ row, Nat.zero_add]
  intro row
  constructor
  · intro h
    rw [List.mem_singleton] at h
    subst h
    simp
  · rintro ⟨a, _⟩
    rw [List.length_eq_zero_iff.mp a]
    simp
theorem zip_keys : ∀ {ws : List Str} {row : List Tm}, row.length = ws.length → (ws.zip row).map (·.1) = ws
  | [], _, _ => rfl
  | w :: ws, [], h => by cases h
  | w :: ws, t :: row, h => by
    simp only [List.zip_cons_cons, List.map_cons, List.cons.injEq, true_and]
    exact zip_keys (by simpa using h)
theorem zip_vals : ∀ {ws : List Str} {row : List Tm}, row.length = ws.length → (ws.zip row).map (·.2) = row
  | [], [], _ => rfl
  | [], _ :: _, h => by cases h
  | w :: ws, [], h => by cases h
  | w :: ws, t :: row, h => by
    simp only [List.zip_cons_cons, List.map_cons, List.cons.injEq, true_and]
    exact zip_vals (by simpa using h)
theorem zip_of_keys : ∀ {ws : List Str} {τ : Nm}, τ.map (·.1) = ws → ws.zip (τ.map (·.2)) = τ
  | _, [], h => by subst h; rfl
  | _, p :: τ, h => by
    subst h
    simp only [List.map_cons, List.zip_cons_cons]
    rw [zip_of_keys rfl]
theorem mem_lawN {T : List Tm} {r : Rl} (hT : ∀ t, t ∈ T ↔ t ∈ r.tms) (i : Nat) (pl : Rl) (τ : Nm) : τ ∈ lawN T r i pl ↔ RightN r i pl τ := by
  unfold lawN RightN
  rw [List.mem_map]
  constructor
  · rintro ⟨row, h, rfl⟩
    obtain ⟨h1, h2⟩ := List.mem_filter.mp h
    rw [Bool.and_eq_true, List.all_eq_true] at h2
    obtain ⟨a, b⟩ := (mem_rows _ _ _).mp h1
    exact ⟨zip_keys a, fun p hp => of_decide_eq_true (h2.1 p hp), h2.2⟩
  · rintro ⟨h1, h2, h3⟩
    have e := zip_of_keys h1
    refine ⟨τ.map (·.2), List.mem_filter.mpr ⟨(mem_rows _ _ _).mpr ⟨by rw [← h1]; simp, ?_⟩, ?_⟩, e⟩
    · intro t ht
      obtain ⟨q, hq, rfl⟩ := List.mem_map.mp ht
      rw [hT]
      have hk : q.1 ∈ rwords pl := h1 ▸ List.mem_map_of_mem hq
      have hv := (rwords_mem pl q.1).mp hk
      obtain ⟨p, hp, hpt⟩ := List.mem_flatMap.mp hv
      refine List.mem_flatMap.mpr ⟨p.by τ, h2 p hp, ?_⟩
      have em := mk_of_keys h1 (rwords_nodup pl)
      have e2 : (Tm.var q.1).by τ = q.2 := by
        have hl : lk τ q.1 = some q.2 := by
          have hq' := hq
          rw [em] at hq'
          obtain ⟨x, hx, ex⟩ := List.mem_map.mp hq'
          have e3 := lk_mk (fun x => (lk τ x).getD default) q.1 (rwords pl)
          rw [← em, if_pos hk] at e3
          rw [e3]
          cases ex
          rfl
        simp [Tm.by, hl]
      rw [← e2]
      exact List.mem_map_of_mem hpt
    · rw [Bool.and_eq_true, List.all_eq_true, e]
      exact ⟨fun p hp => decide_eq_true (h2 p hp), h3⟩
/-! ### the order -/
theorem tkey_kd (a b : Tm) : Kd (tkey a) (tkey b) := by
  cases a <;> cases b <;> exact Kd.tup2 (Kd.int _ _) (Kd.tup3 (Kd.int _ _) (Kd.int _ _) (Kd.str _ _))
theorem tkey_inj {a b : Tm} (h : tkey a = tkey b) : a = b := by
  cases a <;> cases b <;> simp_all [tkey]
def rkey (row : List Tm) : D := .tup (row.map tkey)
theorem dlt_rkey_cons (a b : Tm) (r s : List Tm) : dlt (rkey (a :: r)) (rkey (b :: s)) = if a = b then dlt (rkey r) (rkey s) else dlt (tkey a) (tkey b) := by
  unfold rkey
  rw [dlt_tup, List.map_cons, List.map_cons, rlt_cons (tkey_kd a b), dlt_tup]
  by_cases h : a = b
  · simp [h]
  · have : ¬ tkey a = tkey b := fun e => h (tkey_inj e)
    simp [h, this]
theorem dlt_rkey_snoc (t u : Tm) : ∀ {r s : List Tm}, r.length = s.length → dlt (rkey (r ++ [t])) (rkey (s ++ [u])) = if r = s then dlt (tkey t) (tkey u) else dlt (rkey r) (rkey s)
  | [], [], _ => by
    rw [List.nil_append, List.nil_append, dlt_rkey_cons, if_pos rfl]
    by_cases h : t = u
    · rw [if_pos h, h, dlt_irrefl, dlt_irrefl]
    · rw [if_neg h]
  | [], _ :: _, h => by cases h
  | _ :: _, [], h => by cases h
  | x :: r, y :: s, h => by
    have ih := dlt_rkey_snoc t u (r := r) (s := s) (by simpa using h)
    rw [List.cons_append, List.cons_append, dlt_rkey_cons, dlt_rkey_cons, ih]
    by_cases h1 : x = y <;> by_cases h2 : r = s <;> simp [h1, h2]
theorem rows_sorted (T : List Tm) (hT : T.Pairwise fun a b => dlt (tkey a) (tkey b) = true) (ws : List Str) : (rowsN T ws).Pairwise fun a b => dlt (rkey a) (rkey b) = true := by
  have : ∀ (ws : List Str) (n : Nat) (found : List (List Tm)), (∀ row ∈ found, row.length = n) → found.Pairwise (fun a b => dlt (rkey a) (rkey b) = true) → (ws.foldl (fun found _ => found.flatMap fun row => T.map fun t => row ++ [t]) found).Pairwise fun a b => dlt (rkey a) (rkey b) = true := by
    intro ws
    induction ws with
    | nil => intro n found _ h; exact h
    | cons w ws ih =>
      intro n found hl hp
      rw [List.foldl_cons]
      refine ih (n + 1) _ ?_ ?_
      · intro row hr
        obtain ⟨r0, h0, h1⟩ := List.mem_flatMap.mp hr
        obtain ⟨t, ht, rfl⟩ := List.mem_map.mp h1
        simp [hl r0 h0]
      · rw [List.pairwise_flatMap]
        refine ⟨fun r0 h0 => ?_, ?_⟩
        · rw [List.pairwise_map]
          refine hT.imp fun {a b} hab => ?_
          rw [dlt_rkey_snoc a b rfl, if_pos rfl]
          exact hab
        · refine hp.imp_of_mem fun {a b} ha hb hab => ?_
          intro x hx y hy
          obtain ⟨t, ht, rfl⟩ := List.mem_map.mp hx
          obtain ⟨u, hu, rfl⟩ := List.mem_map.mp hy
          rw [dlt_rkey_snoc t u ((hl a ha).trans (hl b hb).symm)]
          by_cases e : a = b
          · subst e
            rw [dlt_irrefl] at hab
            cases hab
          · rw [if_neg e]
            exact hab
  exact this ws 0 [[]] (by simp) (by simp)
theorem nkey_zip {ws : List Str} {row : List Tm} (h : row.length = ws.length) : nkey (ws.zip row) = rkey row := by
  unfold nkey rkey
  have : (ws.zip row).map (fun p => tkey p.2) = ((ws.zip row).map (·.2)).map tkey := by rw [List.map_map]; rfl
  rw [this, zip_vals h]
theorem lawN_sorted (T : List Tm) (hT : T.Pairwise fun a b => dlt (tkey a) (tkey b) = true) (r : Rl) (i : Nat) (pl : Rl) : (lawN T r i pl).Pairwise fun a b => dlt (nkey a) (nkey b) = true := by
  unfold lawN
  rw [List.pairwise_map]
  have h1 : (rowsN T (rwords pl)).Pairwise fun a b => dlt (nkey ((rwords pl).zip a)) (nkey ((rwords pl).zip b)) = true := by
    refine (rows_sorted T hT (rwords pl)).imp_of_mem fun {a b} ha hb hab => ?_
    rw [nkey_zip ((mem_rows _ _ _).mp ha).1, nkey_zip ((mem_rows _ _ _).mp hb).1]
    exact hab
  exact h1.filter _
/-- the least of a row is the first of the same things in order -/
theorem minO_head {α : Type} (key : α → D) (l m : List α) (hs : ∀ x, x ∈ l ↔ x ∈ m) (hm : m.Pairwise fun a b => dlt (key a) (key b) = true) : minO key l = m.head? := by
  cases l with
  | nil =>
    cases m with
    | nil => rfl
    | cons b m => exact absurd ((hs b).mpr List.mem_cons_self) (by simp)
  | cons a l =>
    cases m with
    | nil => exact absurd ((hs a).mp List.mem_cons_self) (by simp)
    | cons b m =>
      obtain ⟨h1, h2⟩ := minT_spec key l a
      show some (minT key a l) = some b
      have hb := h2 b ((hs b).mpr List.mem_cons_self)
      rcases List.mem_cons.mp ((hs _).mp h1) with q | q
      · rw [q]
      · have := (List.pairwise_cons.mp hm).1 _ q
        rw [hb] at this
        cases this
theorem naming_law {T : List Tm} {r : Rl} (hT : ∀ t, t ∈ T ↔ t ∈ r.tms) (hs : T.Pairwise fun a b => dlt (tkey a) (tkey b) = true) (i : Nat) (pl : Rl) : minO nkey (progN r i pl) = (lawN T r i pl).head? :=
  minO_head nkey _ _ (fun τ => (mem_progN r i pl τ).trans (mem_lawN hT i pl τ).symm) (lawN_sorted T hs r i pl)
end Ev
namespace Ev
open PySem PyProof.Rows L2
theorem put_fold (ws : List Str) : ∀ (K : List Str), (K ++ ws).Nodup → ws.foldl (fun (a : Nm) w => put a w (.var w)) (mk Tm.var K) = mk Tm.var (K ++ ws) := by
  induction ws with
  | nil => intro K _; simp
  | cons w ws ih =>
    intro K h
    rw [List.foldl_cons]
    have hw : w ∉ K := by
      rw [List.nodup_append] at h
      exact fun hk => h.2.2 w hk w List.mem_cons_self rfl
    have e : mk (fun y => if y = w then Tm.var w else Tm.var y) (K ++ [w]) = mk Tm.var (K ++ [w]) := mk_congr fun y _ => by
      by_cases hy : y = w <;> simp [hy]
    rw [put_mk hw, e, ih (K ++ [w]) (by simpa using h)]
    simp
theorem own_eq (r : Rl) : own r = mk Tm.var (rwords r) := by
  have := put_fold (rwords r) [] (by simpa using rwords_nodup r)
  simpa [own, mk] using this
theorem names_iff {p : Pat} {x : Str} : x ∈ p.names ↔ .var x ∈ p.ts := by
  unfold Pat.names
  rw [List.mem_filterMap]
  constructor
  · rintro ⟨t, ht, h⟩
    cases t <;> simp [Tm.name?] at h
    subst h
    exact ht
  · intro h
    exact ⟨_, h, rfl⟩
theorem ps_sub {r : Rl} {p : Pat} (hp : p ∈ r.ps) : p.sub (rwords r) := fun x hx => ps_var hp (names_iff.mp hx)
theorem tkey_al (a b : Tm) : W.alike (tkey a).pd (tkey b).pd = true := (tkey_kd a b).al
theorem al_all {xs ys : List D} (h : ∀ x ∈ xs, ∀ y ∈ ys, W.alike x.pd y.pd = true) : W.alikeAll (D.pds xs) (D.pds ys) = true := by
  induction xs generalizing ys with
  | nil => simp [D.pds, W.alikeAll]
  | cons x xs ih =>
    cases ys with
    | nil => simp [D.pds, W.alikeAll]
    | cons y ys =>
      simp only [D.pds, W.alikeAll, Bool.and_eq_true]
      exact ⟨h x List.mem_cons_self y List.mem_cons_self, ih fun a ha b hb => h a (List.mem_cons_of_mem _ ha) b (List.mem_cons_of_mem _ hb)⟩
theorem al_tup {xs ys : List D} (h : ∀ x ∈ xs, ∀ y ∈ ys, W.alike x.pd y.pd = true) : W.alike (D.tup xs).pd (D.tup ys).pd = true := by
  simp only [D.pd, W.alike]
  exact al_all h
theorem nkey_al (a b : Nm) : W.alike (nkey a).pd (nkey b).pd = true := al_tup fun x hx y hy => by
  obtain ⟨p, _, rfl⟩ := List.mem_map.mp hx
  obtain ⟨q, _, rfl⟩ := List.mem_map.mp hy
  exact tkey_al _ _
theorem keyeds_iff (n : Nat) : ∀ xs : List D, D.keyeds n xs = true ↔ ∀ x ∈ xs, D.keyed n x = true
  | [] => by simp [D.keyeds]
  | x :: xs => by simp [D.keyeds, keyeds_iff n xs]
theorem tkey_keyed (n : Nat) (a : Tm) : D.keyed (n + 2) (tkey a) = true := by
  cases a <;> simp [tkey, D.keyed, D.keyeds]
theorem nkey_keyed (a : Nm) : D.keyed deep (nkey a) = true := by
  show D.keyed 60 (.tup _) = true
  simp only [D.keyed]
  rw [keyeds_iff]
  intro x hx
  obtain ⟨p, _, rfl⟩ := List.mem_map.mp hx
  exact tkey_keyed 57 _
end Ev

-- Sp
set_option autoImplicit true
set_option Elab.async false
set_option linter.all false
set_option maxRecDepth 100000
set_option maxHeartbeats 4000000
/-! Sp: spoilt things: tuples, numbers, texts of bounded depth and size. -/
namespace Ev
open PySem PyProof.Rows L2
mutual
def D.pt (k : Nat) : Nat → D → Bool
  | _, .int _ => true
  | _, .str x => decide (x.length ≤ k)
  | n + 1, .tup xs => decide (xs.length ≤ k) && D.pts k n xs
  | _, _ => false
def D.pts (k : Nat) : Nat → List D → Bool
  | _, [] => true
  | n, x :: xs => D.pt k n x && D.pts k n xs
end
theorem pts_iff (k n : Nat) : ∀ xs : List D, D.pts k n xs = true ↔ ∀ x ∈ xs, D.pt k n x = true
  | [] => by simp [D.pts]
  | x :: xs => by simp [D.pts, pts_iff k n xs]
theorem pt_tup {k n : Nat} {xs : List D} : D.pt k (n + 1) (.tup xs) = true ↔ xs.length ≤ k ∧ ∀ x ∈ xs, D.pt k n x = true := by
  simp only [D.pt, Bool.and_eq_true, decide_eq_true_iff, pts_iff]
mutual
theorem pt_gd {k : Nat} : ∀ {n : Nat} (d : D), D.pt k n d = true → D.gd n d = true
  | _, .int _, _ => by simp [D.gd]
  | _, .str _, _ => by simp [D.gd]
  | 0, .tup _, h => by simp [D.pt] at h
  | n + 1, .tup xs, h => by
    simp only [D.pt, Bool.and_eq_true] at h
    simp only [D.gd]
    exact pts_gds xs h.2
  | n, .non, h => by cases n <;> simp [D.pt] at h
  | n, .bl _, h => by cases n <;> simp [D.pt] at h
  | n, .lst _, h => by cases n <;> simp [D.pt] at h
  | n, .dct _, h => by cases n <;> simp [D.pt] at h
  | n, .ref _, h => by cases n <;> simp [D.pt] at h
  | n, .scr _, h => by cases n <;> simp [D.pt] at h
theorem pts_gds {k : Nat} : ∀ {n : Nat} (d : List D), D.pts k n d = true → D.gds n d = true
  | _, [], _ => by simp [D.gds]
  | n, x :: xs, h => by
    simp only [D.pts, Bool.and_eq_true] at h
    simp only [D.gds, pt_gd x h.1, pts_gds xs h.2, Bool.and_self]
end
mutual
theorem pt_mono {k k' : Nat} (hk : k ≤ k') : ∀ {n n' : Nat} (d : D), n ≤ n' → D.pt k n d = true → D.pt k' n' d = true
  | _, n', .int _, _, _ => by cases n' <;> simp [D.pt]
  | _, n', .str _, _, h => by
    have h' := h
    simp only [D.pt, decide_eq_true_iff] at h' ⊢
    omega
  | 0, _, .tup _, _, h => by simp [D.pt] at h
  | n + 1, 0, .tup _, hn, _ => by omega
  | n + 1, n' + 1, .tup xs, hn, h => by
    simp only [D.pt, Bool.and_eq_true, decide_eq_true_iff] at h ⊢
    exact ⟨by omega, pts_mono hk xs (by omega) h.2⟩
  | n, _, .non, _, h => by cases n <;> simp [D.pt] at h
  | n, _, .bl _, _, h => by cases n <;> simp [D.pt] at h
  | n, _, .lst _, _, h => by cases n <;> simp [D.pt] at h
  | n, _, .dct _, _, h => by cases n <;> simp [D.pt] at h
  | n, _, .ref _, _, h => by cases n <;> simp [D.pt] at h
  | n, _, .scr _, _, h => by cases n <;> simp [D.pt] at h
theorem pts_mono {k k' : Nat} (hk : k ≤ k') : ∀ {n n' : Nat} (d : List D), n ≤ n' → D.pts k n d = true → D.pts k' n' d = true
  | _, _, [], _, _ => by simp [D.pts]
  | n, n', x :: xs, hn, h => by
    simp only [D.pts, Bool.and_eq_true] at h ⊢
    exact ⟨pt_mono hk x hn h.1, pts_mono hk xs hn h.2⟩
end
def asTm : D → Option Tm
  | .int i => some (.int i)
  | .str x => some (.str x)
  | .tup [.str v, .str y] => if v = "var" then some (.var y) else none
  | _ => none
theorem asTm_d (t : Tm) : asTm t.d = some t := by cases t <;> simp [Tm.d, asTm]
theorem asTm_some {d : D} {t : Tm} (h : asTm d = some t) : d = t.d := by
  unfold asTm at h
  split at h
  · cases h; rfl
  · cases h; rfl
  · split at h
    · rename_i hv
      cases h
      subst hv
      rfl
    · cases h
  · cases h
theorem isTerm_as {d : D} (h : isTerm d = true) : ∃ t : Tm, d = t.d := by
  unfold isTerm at h
  split at h
  · rename_i x y
    simp only [Bool.and_eq_true, decide_eq_true_iff] at h
    exact ⟨.var y, by rw [h.1]; rfl⟩
  · rename_i i
    exact ⟨.int i, rfl⟩
  · rename_i x
    exact ⟨.str x, rfl⟩
  · cases h
/-- a term of words -/
def Tm.ok (t : Tm) : Bool := isTerm t.d
def pairOk (x : D) (w : Str) : Bool := match x with
  | .tup [a, b] => decide (a = .str w) && isTerm b
  | _ => false
theorem pairOk_as {x : D} {w : Str} (h : pairOk x w = true) : ∃ t : Tm, x = prD (w, t) ∧ t.ok = true := by
  unfold pairOk at h
  split at h
  · rename_i a b
    simp only [Bool.and_eq_true, decide_eq_true_iff] at h
    obtain ⟨t, rfl⟩ := isTerm_as h.2
    exact ⟨t, by rw [h.1]; rfl, h.2⟩
  · cases h
theorem pairOk_pr (w : Str) (t : Tm) : pairOk (prD (w, t)) w = t.ok := by simp [pairOk, prD, Tm.ok]
theorem pairs_as : ∀ {xs : List D} {ws : List Str}, xs.length = ws.length → (xs.zip ws).all (fun q => pairOk q.1 q.2) = true → ∃ τ : Nm, xs = τ.map prD ∧ τ.map (·.1) = ws ∧ ∀ p ∈ τ, p.2.ok = true
  | [], [], _, _ => ⟨[], rfl, rfl, by simp⟩
  | [], _ :: _, h, _ => by cases h
  | _ :: _, [], h, _ => by cases h
  | x :: xs, w :: ws, h, h2 => by
    simp only [List.zip_cons_cons, List.all_cons, Bool.and_eq_true] at h2
    obtain ⟨t, rfl, ht⟩ := pairOk_as h2.1
    obtain ⟨τ, rfl, rfl, h3⟩ := pairs_as (xs := xs) (ws := ws) (by simpa using h) h2.2
    refine ⟨(w, t) :: τ, rfl, rfl, fun p hp => ?_⟩
    rcases List.mem_cons.mp hp with rfl | hp
    · exact ht
    · exact h3 p hp
theorem pairs_of (τ : Nm) (h : ∀ p ∈ τ, p.2.ok = true) : ((τ.map prD).zip (τ.map (·.1))).all (fun q => pairOk q.1 q.2) = true := by
  induction τ with
  | nil => rfl
  | cons p τ ih =>
    simp only [List.map_cons, List.zip_cons_cons, List.all_cons, Bool.and_eq_true]
    exact ⟨by rw [pairOk_pr]; exact h p List.mem_cons_self, ih fun q hq => h q (List.mem_cons_of_mem _ hq)⟩
theorem prD_inj : ∀ a b : Str × Tm, prD a = prD b → a = b := by
  rintro ⟨a, t⟩ ⟨b, u⟩ h
  simp only [prD, D.tup.injEq, List.cons.injEq, D.str.injEq, and_true] at h
  rw [h.1, Tm.d_inj _ _ h.2]
theorem toldD_inj {a b : Nm} (h : toldD a = toldD b) : a = b := by
  simp only [toldD, D.tup.injEq] at h
  exact map_inj' prD_inj _ _ h
theorem dict_fold : ∀ (τ σ : Nm), (σ.map (·.1) ++ τ.map (·.1)).Nodup → τ.foldl (fun a p => dput a (.str p.1) p.2.d) (dctD Tm.d σ) = dctD Tm.d (σ ++ τ)
  | [], σ, _ => by simp
  | p :: τ, σ, h => by
    rw [List.foldl_cons, dput_dctD]
    have hp : p.1 ∉ σ.map (·.1) := by
      rw [List.nodup_append] at h
      exact fun hk => h.2.2 _ hk _ (by simp) rfl
    have e : put σ p.1 p.2 = σ ++ [p] := by
      unfold put
      cases hk : hasK σ p.1 with
      | true => exact absurd ((hasK_iff σ p.1).mp hk) hp
      | false => simp
    rw [e, dict_fold τ (σ ++ [p]) (by simpa using h)]
    simp
/-- what the judge of namings tells -/
def judgeN (r : Rl) (i : Nat) (pl : Rl) (τ : Nm) : Bool := pl.ps.all (fun p => decide (p.by τ ∈ r.ps)) && covers pl τ r i
end Ev

-- Gn
set_option autoImplicit true
set_option Elab.async false
set_option linter.all false
set_option maxRecDepth 100000
set_option maxHeartbeats 4000000
/-! Gn: what the laws' drawing helpers rest on. -/
namespace Ev
open PySem PyProof.Rows L2
@[simp] theorem dr_0 (xs : List Int) (rest : List D) : (dr xs rest)[0]? = some (.lst (xs.map .int)) := nr rfl
theorem it_rangeZ {j : Int} (h0 : 0 ≤ j) (h : j ≤ 100000) : itemsD .range1 [.int j] = some ((List.range j.toNat).map fun k => .int (k : Int)) := by
  obtain ⟨n, rfl⟩ := Int.eq_ofNat_of_zero_le h0
  exact it_range (by omega)
@[simp] theorem o_mul (a b : Int) : binD .mul (.int a) (.int b) = if (-(2 ^ 64) < a ∧ a < 2 ^ 64) ∨ (-(2 ^ 64) < b ∧ b < 2 ^ 64) then some (.int (a * b)) else none := nr rfl
@[simp] theorem o_fdiv (a b : Int) : binD .fdiv (.int a) (.int b) = if 0 < b ∧ b < 1073741824 then some (.int (a / b)) else none := nr rfl
@[simp] theorem o_pow (a b : Int) : binD .pow (.int a) (.int b) = if 0 ≤ b ∧ b ≤ 1000000 ∧ a.natAbs < 2 ^ 64 then some (.int (a ^ b.toNat)) else none := nr rfl
theorem atI_int {l : List Int} {j : Nat} (h : j < l.length) : L2.atI (l.map D.int) (j : Int) = some (.int (l.getD j 0)) := atI_nat (by simp [h])
theorem ixN_nat {n k : Nat} (h : k < n) : L2.ixN n (k : Int) = some k := by
  unfold L2.ixN
  rw [if_pos (Int.natCast_nonneg k), if_pos (by omega)]
  rfl
@[simp] theorem st_lst (xs : List D) (k : Int) (v : D) : storeD (.lst xs) (.int k) v = mp (L2.ixN xs.length k) fun j => .lst (xs.set j v) := nr rfl
/-- a term over names and values -/
def TmOf (names : List Str) (values : List Tm) (t : Tm) : Prop := (∃ x ∈ names, t = .var x) ∨ t ∈ values
def PatOf (kinds : List (Str × Nat)) (names : List Str) (values : List Tm) (p : Pat) : Prop := (p.k, p.ts.length) ∈ kinds ∧ ∀ t ∈ p.ts, TmOf names values t
def kindD (q : Str × Nat) : D := .tup [.str q.1, .int q.2]
/-- a word of letters of bounded length -/
def WordOk (x : Str) : Prop := wordB x = true ∧ x.length ≤ 60
theorem cutD_mem {xs : List D} {l h : Option Int} {x : D} (hx : x ∈ cutD xs l h) : x ∈ xs := List.mem_of_mem_drop (List.mem_of_mem_take hx)
theorem cutD_len (xs : List D) (l h : Option Int) : (cutD xs l h).length ≤ xs.length := by
  unfold cutD
  rw [List.length_take, List.length_drop]
  omega
theorem cutD_to (xs : List D) (k : Nat) : Ev.cutD xs none (some (k : Int)) = xs.take k := by
  unfold Ev.cutD
  rw [HT.sIx_nat]
  show (xs.drop 0).take (min k xs.length - 0) = _
  rw [List.drop_zero, Nat.sub_zero, List.take_eq_take_iff]
  omega
theorem cutD_from (xs : List D) (k : Nat) : Ev.cutD xs (some (k : Int)) none = xs.drop k := by
  unfold Ev.cutD
  rw [HT.sIx_nat]
  show (xs.drop (min k xs.length)).take (xs.length - min k xs.length) = _
  have e : xs.drop (min k xs.length) = xs.drop k := by
    by_cases h : k ≤ xs.length
    · rw [Nat.min_eq_left h]
    · rw [List.drop_of_length_le (i := k) (by omega), List.drop_of_length_le (by omega)]
  rw [e, List.take_of_length_le]
  rw [List.length_drop]
  omega
theorem cutD_map {α : Type} (f : α → D) (xs : List α) (l h : Option Int) : ∃ ys : List α, Ev.cutD (xs.map f) l h = ys.map f ∧ ys.Sublist xs := by
  refine ⟨(xs.drop (HT.sIx (xs.map f).length 0 l)).take (HT.sIx (xs.map f).length (xs.map f).length h - HT.sIx (xs.map f).length 0 l), ?_, (List.take_sublist _ _).trans (List.drop_sublist _ _)⟩
  unfold Ev.cutD
  rw [List.map_take, List.map_drop]
theorem slT_non (xs : List D) (k : Int) : slcD (.tup xs) .non (.int k) = some (.tup (cutD xs none (some k))) := rfl
theorem sl_slc (a : List D) (lo hi : D) (l h : Option Int) (h1 : partD lo = some l) (h2 : partD hi = some h) : slcD (.tup a) lo hi = some (.tup (cutD a l h)) := by
  unfold slcD
  rw [h1, h2]
  rfl
@[simp] theorem sl_TnI (xs : List D) (k : Int) : slcD (.tup xs) .non (.int k) = some (.tup (cutD xs none (some k))) := nr rfl
@[simp] theorem sl_TIn (xs : List D) (k : Int) : slcD (.tup xs) (.int k) .non = some (.tup (cutD xs (some k) none)) := nr rfl
@[simp] theorem sl_TII (xs : List D) (k j : Int) : slcD (.tup xs) (.int k) (.int j) = some (.tup (cutD xs (some k) (some j))) := nr rfl
@[simp] theorem sl_LnI (xs : List D) (k : Int) : slcD (.lst xs) .non (.int k) = some (.lst (cutD xs none (some k))) := nr rfl
@[simp] theorem sl_LIn (xs : List D) (k : Int) : slcD (.lst xs) (.int k) .non = some (.lst (cutD xs (some k) none)) := nr rfl
@[simp] theorem sl_LII (xs : List D) (k j : Int) : slcD (.lst xs) (.int k) (.int j) = some (.lst (cutD xs (some k) (some j))) := nr rfl
@[simp] theorem sl_RnI (xs : List D) (k : Int) : slcD (.scr xs) .non (.int k) = some (.lst (cutD xs none (some k))) := nr rfl
@[simp] theorem sl_SIn (z : Str) (k : Int) : slcD (.str z) (.int k) .non = if z.length ≤ sizeLine then some (.str (cutS z (some k) none)) else none := nr rfl
/-- a comprehension over an own list -/
theorem compV_ok {F : Fn} {i v : Nat} {elt : IE} {ρ : List Sl} {st : List D} {α : Type} (emb : α → D) (xs : List α) (g : α → D) (hv : ρ[v]? = some (.o (.lst (xs.map emb)))) (hi : i ≠ v) (hf : freeS ⟨ρ, st⟩ [i] = true) (hl : xs.length ≤ sizeLine)
    (h5 : ∀ x ∈ xs, ok (evE F elt ⟨ρ.set i (.v (emb x)), st⟩) fun r => r.1 = g x ∧ r.2.ρ = ρ.set i (.v (emb x)) ∧ r.2.st = st) :
    evE F (.compV (.one i) v .nil elt) ⟨ρ, st⟩ = some (.lst (xs.map g), ⟨ρ, st⟩) := by
  have hset : ∀ (a : Sl), (ρ.set i a)[v]? = some (.o (.lst (xs.map emb))) := fun a => by rw [List.getElem?_set_ne hi]; exact hv
  apply eq_ok
  show ok ((peek ⟨ρ, st⟩ v).bind _) _
  rw [peek_mk, hv, pk_olst]
  simp only [Option.bind_some, rootOf]
  have hc : (freeS ⟨ρ, st⟩ (Tg.one i).slots && !((Tg.one i).slots.contains v)) = true := by
    rw [Bool.and_eq_true]
    refine ⟨hf, ?_⟩
    have : ¬ v = i := fun e => hi e.symm
    simp [this]
  rw [if_pos hc, ok_bind]
  refine ok_mono (fold_ok (fun j (b : List D × S) => b.1 = (xs.take j).map g ∧ ∃ a, b.2 = ⟨ρ.set i a, st⟩) ⟨rfl, .un, rfl⟩ ?_) ?_
  · rintro j d ⟨acc, sC⟩ hd ⟨rfl, a, rfl⟩
    obtain ⟨x, hx, rfl⟩ : ∃ x, xs[j]? = some x ∧ emb x = d := by simpa using hd
    have hj := (List.getElem?_eq_some_iff.mp hx).1
    have et : xs.take (j + 1) = xs.take j ++ [x] := by rw [List.take_succ, hx]; rfl
    have hw : wipeS ⟨ρ.set i a, st⟩ (Tg.one i).slots = ⟨ρ.set i .un, st⟩ := by simp
    have hp : peek ⟨ρ.set i a, st⟩ v = some (.lst (xs.map emb)) := by rw [peek_mk, hset]; rfl
    have h6 := h5 x (List.mem_of_getElem? hx)
    simp only [hp, if_true, hw, bindT_one, Option.bind_some, List.set_set, s_ifs0]
    rw [ok_bind]
    refine ok_mono h6 fun r hr => ?_
    obtain ⟨r1, ⟨r2, r3⟩⟩ := r
    obtain ⟨a1, a2, a3⟩ := hr
    simp only at a1 a2 a3
    subst a1 a2 a3
    rw [if_pos (by rw [List.length_map, List.length_take]; omega), ok_some]
    exact ⟨by rw [et]; simp, _, rfl⟩
  · rintro ⟨acc, sC⟩ ⟨rfl, a, rfl⟩
    have hp : peek ⟨ρ.set i a, st⟩ v = some (.lst (xs.map emb)) := by rw [peek_mk, hset]; rfl
    simp only [hp, if_true, ok_some, List.length_map, List.take_length]
    have hb : ρ.set i (ρ.getD i .un) = ρ := by
      apply List.ext_getElem?
      intro j
      rw [List.getElem?_set]
      by_cases h : i = j
      · subst h
        by_cases hl : i < ρ.length
        · simp [hl]
        · simp [hl]
      · simp [h]
    simp only [backS_mk, slots_one, List.foldl_cons, List.foldl_nil, List.set_set, hb]
theorem maxI_spec : ∀ (l : List Int) (a : Int), a ≤ maxI a l ∧ (∀ b ∈ l, b ≤ maxI a l) ∧ (maxI a l = a ∨ maxI a l ∈ l)
  | [], a => ⟨Int.le_refl _, by simp, .inl rfl⟩
  | b :: l, a => by
    obtain ⟨h1, h2, h3⟩ := maxI_spec l (if b > a then b else a)
    have e : maxI a (b :: l) = maxI (if b > a then b else a) l := rfl
    rw [e]
    refine ⟨?_, ?_, ?_⟩
    · split at h1 <;> split <;> omega
    · intro c hc
      rcases List.mem_cons.mp hc with rfl | hc
      · split at h1 <;> split <;> omega
      · exact h2 c hc
    · rcases h3 with h | h
      · split at h <;> split
        · exact .inr (by rw [h]; exact List.mem_cons_self)
        · omega
        · omega
        · exact .inl h
      · exact .inr (List.mem_cons_of_mem _ h)
theorem allI_ints : ∀ l : List Int, allI (l.map .int) = some l
  | [] => rfl
  | x :: r => by
    show (allI (r.map .int)).map _ = _
    rw [allI_ints r]
    rfl
@[simp] theorem allI_map {α : Type} (g : α → Int) (l : List α) : allI (l.map fun x => D.int (g x)) = some (l.map g) := by
  rw [← allI_ints, List.map_map]; rfl
/-- one statement, then the rest -/
theorem seq_ok {F : Fn} {a : IS} {r : ISs} {s : S} {Q : Fl × S → Prop} (P : S → Prop) (h1 : ok (evS F a s) fun p => p.1 = .nx ∧ P p.2) (h2 : ∀ s', P s' → ok (evSs F r s') Q) : ok (evSs F (.cons a r) s) Q := by
  rw [t_cons, ok_bnd]
  refine ok_mono h1 fun p hp => ?_
  obtain ⟨fl, s'⟩ := p
  obtain ⟨e, hP⟩ := hp
  simp only at e
  subst e
  exact h2 s' hP
theorem cutS_len (w : Str) (l h : Option Int) : (L2.cutS w l h).length ≤ w.length := by
  unfold L2.cutS Str.length
  simp only [List.size_toArray, List.length_take, List.length_drop, Array.length_toList]
  omega
theorem imp_and {A B : Prop} (hA : A) (h : B) : (A → B) ∧ A := ⟨fun _ => h, hA⟩
theorem seq_br {F : Fn} {a : IS} {r : ISs} {s : S} {Q : Fl × S → Prop} (P R : S → Prop) (h1 : ok (evS F a s) fun p => (p.1 = .brk ∧ R p.2) ∨ (p.1 = .nx ∧ P p.2)) (h2 : ∀ s', P s' → ok (evSs F r s') Q) (h3 : ∀ s', R s' → Q (.brk, s')) : ok (evSs F (.cons a r) s) Q := by
  rw [t_cons, ok_bnd]
  refine ok_mono h1 fun p hp => ?_
  obtain ⟨fl, s'⟩ := p
  rcases hp with ⟨e, hP⟩ | ⟨e, hP⟩
  · simp only at e
    subst e
    rw [nxt_brk, ok_some]
    exact h3 s' hP
  · simp only at e
    subst e
    exact h2 s' hP
mutual
/-- plain data of bounded size -/
def D.bd : Nat → D → Bool
  | _, .non => true
  | _, .bl _ => true
  | _, .int _ => true
  | _, .str _ => true
  | n + 1, .tup xs => decide (xs.length ≤ 1000) && D.bds n xs
  | n + 1, .lst xs => decide (xs.length ≤ 1000) && D.bds n xs
  | _, _ => false
def D.bds : Nat → List D → Bool
  | _, [] => true
  | n, x :: xs => D.bd n x && D.bds n xs
end
theorem bds_iff (n : Nat) : ∀ xs : List D, D.bds n xs = true ↔ ∀ x ∈ xs, D.bd n x = true
  | [] => by simp [D.bds]
  | x :: xs => by simp [D.bds, bds_iff n xs]
theorem bd_tup {n : Nat} {xs : List D} : D.bd (n + 1) (.tup xs) = true ↔ xs.length ≤ 1000 ∧ ∀ x ∈ xs, D.bd n x = true := by
  simp only [D.bd, Bool.and_eq_true, decide_eq_true_iff, bds_iff]
theorem bd_lst {n : Nat} {xs : List D} : D.bd (n + 1) (.lst xs) = true ↔ xs.length ≤ 1000 ∧ ∀ x ∈ xs, D.bd n x = true := by
  simp only [D.bd, Bool.and_eq_true, decide_eq_true_iff, bds_iff]
theorem join_toList : ∀ (parts : List Str), (Str.join "" parts).cps.toList = parts.flatMap fun p => p.cps.toList
  | [] => rfl
  | [x] => by simp [Str.join]
  | x :: y :: r => by
    have ih := join_toList (y :: r)
    show ((x ++ ("" : Str)) ++ Str.join "" (y :: r)).cps.toList = _
    have e : ∀ a b : Str, (a ++ b).cps.toList = a.cps.toList ++ b.cps.toList := fun a b => by
      show (a.cps ++ b.cps).toList = _
      simp
    have e0 : (("" : Str)).cps.toList = [] := by decide +kernel
    rw [e, e, e0, ih]
    simp
theorem join_chars (cs : List Nat) : (Txt.join "" (cs.map fun c => (⟨#[c]⟩ : Str))).cps.toList = cs := by
  rw [TL.join_eq, join_toList]
  induction cs with
  | nil => rfl
  | cons c cs ih =>
    simp
    exact ih
theorem length_toList (x : Str) : x.length = x.cps.toList.length := by simp [Str.length]
theorem map_of_all {α : Type} (emb : α → D) (P : α → Prop) : ∀ {acc : List D}, (∀ d ∈ acc, ∃ a, d = emb a ∧ P a) → ∃ l : List α, acc = l.map emb ∧ ∀ a ∈ l, P a
  | [], _ => ⟨[], rfl, by simp⟩
  | d :: acc, h => by
    obtain ⟨l, rfl, h3⟩ := map_of_all emb P fun x hx => h x (List.mem_cons_of_mem _ hx)
    obtain ⟨a, rfl, ha⟩ := h d List.mem_cons_self
    refine ⟨a :: l, rfl, fun b hb => ?_⟩
    rcases List.mem_cons.mp hb with rfl | hb
    · exact ha
    · exact h3 b hb
/-- a for over a row that is drawn: at most N turns -/
theorem loopD_ok {F : Fn} {ts : Tg} {k : SK} {src : IEs} {body : ISs} {s : S} (N : Nat) (P : Nat → S → Prop) (h1 : ok (evEs F src s) fun p => ∃ items, itemsD k p.1 = some items ∧ items.length ≤ N ∧ P 0 p.2)
    (step : ∀ (i : Nat) (d : D) (s2 : S), i < N → P i s2 → ok (bindT s2 ts d) fun sB => ok (evSs F body sB) fun r => (r.1 = .nx ∨ r.1 = .cnt) ∧ P (i + 1) r.2) :
    ok (evS F (.loop ts k src body) s) fun r => r.1 = .nx ∧ ∃ m, m ≤ N ∧ P m r.2 := by
  obtain ⟨⟨ds, s1⟩, e1, items, h2, hN, h0⟩ := h1
  refine ok_mono (loop_ok (items := items) P (fun _ => False) (fun _ _ => False) ⟨_, e1, h2, h0⟩ ?_) ?_
  · intro i d s2 hd hP
    have := (List.getElem?_eq_some_iff.mp hd).1
    refine ok_mono (step i d s2 (by omega) hP) fun sB hB => ok_mono hB fun r hr => ?_
    obtain ⟨rf, rs⟩ := r
    rcases hr with ⟨h | h, h'⟩
    · simp only at h; subst h; exact h'
    · simp only at h; subst h; exact h'
  · rintro r (⟨h, h' | h'⟩ | ⟨v, h, h'⟩)
    · exact ⟨h, _, hN, h'⟩
    · exact h'.elim
    · exact h'.elim
theorem nodup_le {α : Type} [DecidableEq α] : ∀ (l m : List α), l.Nodup → (∀ x ∈ l, x ∈ m) → l.length ≤ m.length
  | [], _, _, _ => by simp
  | x :: l, m, h, hs => by
    have hx : x ∈ m := hs x List.mem_cons_self
    rw [List.nodup_cons] at h
    have ih := nodup_le l (m.erase x) h.2 fun y hy => (List.mem_erase_of_ne (fun e : y = x => h.1 (e ▸ hy))).mpr (hs y (List.mem_cons_of_mem _ hy))
    rw [List.length_erase_of_mem hx] at ih
    have := List.length_pos_of_mem hx
    rw [List.length_cons]
    omega
theorem vfold_dedup (l : List Tm) : ∀ a : List Str, l.foldl vstep a = a ++ (dedupS (l.filterMap Tm.name?)).filter fun x => decide (x ∉ a) := by
  induction l with
  | nil => intro a; simp [dedupS]
  | cons t l ih =>
    intro a
    rw [List.foldl_cons]
    cases t with
    | var x =>
      have e0 : (Tm.var x :: l).filterMap Tm.name? = x :: l.filterMap Tm.name? := rfl
      rw [e0]
      simp only [dedupS]
      by_cases h : x ∈ a
      · rw [show vstep a (.var x) = a from if_pos h, ih, List.filter_cons, if_neg (by simp [h]), List.filter_filter]
        congr 1
        apply List.filter_congr
        intro y _
        by_cases hy : y ∈ a
        · simp [hy]
        · have : ¬ y = x := fun e => hy (e ▸ h)
          simp [hy, this]
      · rw [show vstep a (.var x) = a ++ [x] from if_neg h, ih, List.filter_cons, if_pos (by simp [h]), List.filter_filter, List.append_assoc]
        congr 1
        rw [List.singleton_append]
        congr 1
        apply List.filter_congr
        intro y _
        by_cases hy : y ∈ a <;> by_cases hx : y = x <;> simp [hy, hx]
    | int i => exact ih a
    | str i => exact ih a
theorem dedup_names (ps : List Pat) : dedupS (ps.flatMap Pat.names) = varsOf (ps.flatMap Pat.ts) := by
  have e : ps.flatMap Pat.names = (ps.flatMap Pat.ts).filterMap Tm.name? := by
    rw [List.filterMap_flatMap]
    rfl
  unfold varsOf
  rw [vfold_dedup, e]
  simp
  exact (List.filter_eq_self.mpr fun _ _ => rfl).symm
/-- the words of patterns, in order -/
def psWords (ps : List Pat) : List Str := sortS (varsOf (ps.flatMap Pat.ts))
/-- a row of conditions, a tuple or a list -/
def rowD (b : Bool) (xs : List D) : D := if b = true then .tup xs else .lst xs
@[simp] theorem it_row (b : Bool) (xs : List D) : itemsD .seq [rowD b xs] = some xs := by cases b <;> rfl
def ysOf (cs : List Cn) : List Pat := cs.filterMap Cn.yes?
theorem ys_map (cs : List Cn) : (ysOf cs).map Pat.d = (cs.filter fun c => c.yes?.isSome).map Cn.pd := ps_map ⟨0, cs, []⟩
/-- a deed over the words ws, of many patterns -/
def DdOf (many : Nat) (kinds : List (Str × Nat)) (ws : List Str) (values : List Tm) : Dd → Prop
  | .halt => True
  | .drop i => i < many
  | .make p => PatOf kinds ws values p
  | .stand p => PatOf kinds ws values p
/-- a value of the draws -/
def VOk (t : Tm) : Prop := t.isVar = false ∧ t.ok = true ∧ ∀ x, t = .str x → x.length ≤ 60
theorem app_toList (a b : Str) : (a ++ b).cps.toList = a.cps.toList ++ b.cps.toList := by
  show (a.cps ++ b.cps).toList = _
  simp
theorem wordB_iff (x : Str) : wordB x = true ↔ 0 < x.length ∧ ∀ c ∈ x.cps.toList, c ∈ letters := by
  unfold wordB
  simp only [Bool.and_eq_true, decide_eq_true_iff, List.all_eq_true]
theorem wordB_app {a b : Str} (ha : wordB a = true) (hb : ∀ c ∈ b.cps.toList, c ∈ letters) : wordB (a ++ b) = true := by
  rw [wordB_iff] at ha ⊢
  rw [length_toList, app_toList, List.length_append]
  rw [length_toList] at ha
  refine ⟨by omega, fun c hc => ?_⟩
  rcases List.mem_append.mp hc with h | h
  · exact ha.2 c h
  · exact hb c h
theorem len_app (a b : Str) : (a ++ b).length = a.length + b.length := by
  rw [length_toList, app_toList, List.length_append, ← length_toList, ← length_toList]
theorem vok_int (i : Int) : VOk (.int i) := ⟨rfl, rfl, fun x h => by cases h⟩
theorem vok_str {x : Str} (h : wordB x = true) (hl : x.length ≤ 60) : VOk (.str x) := ⟨rfl, h, fun y e => by cases e; exact hl⟩
theorem m_pop1 {xs : List D} {j : Nat} (h : j < xs.length) (hl : xs.length ≤ sizeLine) : mutD .pop1 (.lst xs) [.int (j : Int)] = some (xs[j], .lst (xs.eraseIdx j)) := by
  show (if decide (0 ≤ (j : Int)) && decide ((j : Int) < xs.length) && decide (xs.length ≤ sizeLine) then (xs[(j : Int).toNat]?).map (fun y => (y, D.lst (xs.eraseIdx (j : Int).toNat))) else none) = _
  rw [if_pos (by simp only [Bool.and_eq_true, decide_eq_true_iff]; exact ⟨⟨by omega, by omega⟩, hl⟩), Int.toNat_natCast, List.getElem?_eq_getElem h]
  rfl
/-- a comprehension whose turns may change the state -/
theorem comp_gen {F : Fn} {ts : Tg} {k : SK} {src ifs : IEs} {elt : IE} {s s1 : S} {items : List D} (P : Nat → List D → S → Prop)
    (h1 : ok (evEs F src s) fun p => itemsD k p.1 = some items ∧ p.2 = s1) (h3 : freeS s1 ts.slots = true) (h0 : P 0 [] (wipeS s1 ts.slots)) (hl : items.length ≤ sizeLine)
    (step : ∀ (i : Nat) (d : D) (acc : List D) (s2 : S), items[i]? = some d → P i acc s2 → ok (bindT (wipeS s2 ts.slots) ts d) fun sb => ok (evIfs F ifs sb) fun c =>
      (c.1 = true → ok (evE F elt c.2) fun r => P (i + 1) (acc ++ [r.1]) r.2) ∧ (c.1 = false → P (i + 1) acc c.2)) :
    ok (evE F (.comp ts k src ifs elt) s) fun r => ∃ acc s2, r = (.lst acc, backS s1 s2 ts.slots) ∧ P items.length acc s2 := by
  obtain ⟨⟨ds, s1'⟩, e1, h2, e2⟩ := h1
  simp only at e2 h2
  subst e2
  show ok ((evEs F src s).bind _) _
  rw [e1]
  simp only [Option.bind_some, h2, h3, if_true]
  rw [ok_map]
  refine ok_mono (fold_ok (fun i (b : List D × S) => b.1.length ≤ i ∧ P i b.1 b.2) ⟨Nat.zero_le 0, h0⟩ ?_) ?_
  · intro i d b hd ⟨g1, g3⟩
    obtain ⟨acc, sC⟩ := b
    simp only at g1 g3 ⊢
    rw [ok_bind]
    refine ok_mono (step i d acc sC hd g3) fun sb hb => ?_
    rw [ok_bind]
    refine ok_mono hb fun c hc => ?_
    have hi := (List.getElem?_eq_some_iff.mp hd).1
    by_cases hc1 : c.1 = true
    · rw [if_pos hc1, ok_bind]
      refine ok_mono (hc.1 hc1) fun r hr => ?_
      rw [if_pos (by omega), ok_some]
      exact ⟨by rw [List.length_append, List.length_singleton]; omega, hr⟩
    · rw [if_neg hc1, ok_some]
      exact ⟨by simp only; omega, hc.2 (by simpa using hc1)⟩
  · intro b ⟨g1, g3⟩
    exact ⟨b.1, b.2, rfl, g3⟩
theorem t_loop (F : Fn) (ts : Tg) (k : SK) (src : IEs) (body : ISs) (s : S) : evS F (.loop ts k src body) s = bnd (evEs F src s) fun p => bnd (itemsD k p.1) fun items => mp (foldO (loopF (fun s d => bindT s ts d) (fun s => evSs F body s)) items (.nx, p.2)) unbrk := nr rfl
theorem loop_one {F : Fn} {i : Nat} {src : IEs} {body : ISs} {ρ : List Sl} {st : List D} {d : D} {s2 : S} (h1 : evEs F src ⟨ρ, st⟩ = some ([.tup [d]], ⟨ρ, st⟩)) (h2 : evSs F body ⟨ρ.set i (.v d), st⟩ = some (.nx, s2)) : evS F (.loop (.one i) .seq src body) ⟨ρ, st⟩ = some (.nx, s2) := by
  rw [t_loop, h1, bnd_some, it_tup, bnd_some]
  simp only [foldO, loopF, bindT_one, Option.bind_some, h2, Option.map_some, mp_some, unbrk]
/-- a for over a row that is drawn: each thing of the row is of I -/
theorem loopX_ok {F : Fn} {ts : Tg} {k : SK} {src : IEs} {body : ISs} {s : S} (I : D → Prop) (P : S → Prop) (h1 : ok (evEs F src s) fun p => ∃ items, itemsD k p.1 = some items ∧ (∀ d ∈ items, I d) ∧ P p.2)
    (step : ∀ (d : D) (s2 : S), I d → P s2 → ok (bindT s2 ts d) fun sB => ok (evSs F body sB) fun r => (r.1 = .nx ∨ r.1 = .cnt) ∧ P r.2) :
    ok (evS F (.loop ts k src body) s) fun r => r.1 = .nx ∧ P r.2 := by
  obtain ⟨⟨ds, s1⟩, e1, items, h2, hI, h0⟩ := h1
  refine ok_mono (loop_ok (items := items) (fun _ => P) (fun _ => False) (fun _ _ => False) ⟨_, e1, h2, h0⟩ ?_) ?_
  · intro i d s2 hd hP
    refine ok_mono (step d s2 (hI d (List.mem_of_getElem? hd)) hP) fun sB hB => ok_mono hB fun r hr => ?_
    obtain ⟨rf, rs⟩ := r
    rcases hr with ⟨h | h, h'⟩
    · simp only at h; subst h; exact h'
    · simp only at h; subst h; exact h'
  · rintro r (⟨h, h' | h'⟩ | ⟨v, h, h'⟩)
    · exact ⟨h, h'⟩
    · exact h'.elim
    · exact h'.elim
end Ev

-- Lw87
set_option autoImplicit true
set_option Elab.async false
set_option linter.all false
set_option maxRecDepth 100000
set_option maxHeartbeats 4000000
/-! Lw87: the law's own namings over typed data. -/
namespace Ev
open PySem PyProof.Rows L2
def trank : Tm → D
  | .int i => .tup [.int 0, .tup [.tup [.int 0, .int i, .str ""]], .str ""]
  | .str x => .tup [.int 0, .tup [.tup [.int 1, .int 0, .str x]], .str ""]
  | .var x => .tup [.int 1, .tup [.tup [.int 0, .int 0, .str ""]], .str x]
theorem trank_kd (a b : Tm) : Kd (trank a) (trank b) := by
  cases a <;> cases b <;> exact Kd.tup3 (Kd.int _ _) (Kd.tup1 (Kd.tup3 (Kd.int _ _) (Kd.int _ _) (Kd.str _ _))) (Kd.str _ _)
/-- both ranks put the terms in one order -/
theorem trank_lt (a b : Tm) : dlt (trank a) (trank b) = dlt (tkey a) (tkey b) := by
  have k1 : ∀ i j : Int, ∀ x y : Str, Kd (.tup [.int 0, .int i, .str x]) (.tup [.int 0, .int j, .str y]) := fun i j x y => Kd.tup3 (Kd.int _ _) (Kd.int _ _) (Kd.str _ _)
  have k3 : ∀ a b i j : Int, ∀ x y : Str, dlt (.tup [.int a, .int i, .str x]) (.tup [.int b, .int j, .str y]) = if a = b then (if i = j then (if x = y then false else dlt (.str x) (.str y)) else decide (i < j)) else decide (a < b) := by
    intro a b i j x y
    rw [dlt_tup, rlt_cons (Kd.int _ _), rlt_cons (Kd.int _ _), rlt_cons (Kd.str _ _), rlt_nil, dlt_int, dlt_int]
    simp only [D.int.injEq, D.str.injEq]
  have k2 : ∀ a b : Int, ∀ d e : D, Kd d e → dlt (.tup [.int a, d]) (.tup [.int b, e]) = if a = b then (if d = e then false else dlt d e) else decide (a < b) := by
    intro a b d e h
    rw [dlt_tup, rlt_cons (Kd.int _ _), rlt_cons h, rlt_nil, dlt_int]
    simp only [D.int.injEq]
  have k1' : ∀ d e : D, Kd d e → dlt (.tup [d]) (.tup [e]) = if d = e then false else dlt d e := by
    intro d e h
    rw [dlt_tup, rlt_cons h, rlt_nil]
  have k4 : ∀ (a b : Int) (d e : D) (x y : Str), Kd d e → dlt (.tup [.int a, d, .str x]) (.tup [.int b, e, .str y]) = if a = b then (if d = e then (if x = y then false else dlt (.str x) (.str y)) else dlt d e) else decide (a < b) := by
    intro a b d e x y h
    rw [dlt_tup, rlt_cons (Kd.int _ _), rlt_cons h, rlt_cons (Kd.str _ _), rlt_nil, dlt_int]
    simp only [D.int.injEq, D.str.injEq]
  have kk : ∀ a b i j : Int, ∀ x y : Str, Kd (.tup [.int a, .int i, .str x]) (.tup [.int b, .int j, .str y]) := fun a b i j x y => Kd.tup3 (Kd.int _ _) (Kd.int _ _) (Kd.str _ _)
  cases a <;> cases b <;> simp only [trank, tkey] <;> rw [k4 _ _ _ _ _ _ (Kd.tup1 (kk _ _ _ _ _ _)), k2 _ _ _ _ (kk _ _ _ _ _ _), k1' _ _ (kk _ _ _ _ _ _), k3] <;> simp [k3]
def tstep (a : List Tm) (t : Tm) : List Tm := if t ∈ a then a else a ++ [t]
def dedupT (l : List Tm) : List Tm := l.foldl tstep []
theorem tfold_mem (l : List Tm) : ∀ (a : List Tm) (t : Tm), t ∈ l.foldl tstep a ↔ t ∈ a ∨ t ∈ l := by
  induction l with
  | nil => intro a t; simp
  | cons u l ih =>
    intro a t
    rw [List.foldl_cons, ih]
    unfold tstep
    by_cases h : u ∈ a
    · rw [if_pos h, List.mem_cons]
      constructor
      · rintro (q | q)
        · exact .inl q
        · exact .inr (.inr q)
      · rintro (q | q | q)
        · exact .inl q
        · exact .inl (q ▸ h)
        · exact .inr q
    · rw [if_neg h, List.mem_append, List.mem_singleton, List.mem_cons, or_assoc]
theorem tfold_nodup (l : List Tm) : ∀ {a : List Tm}, a.Nodup → (l.foldl tstep a).Nodup := by
  induction l with
  | nil => intro a h; exact h
  | cons u l ih =>
    intro a h
    refine ih ?_
    unfold tstep
    by_cases hu : u ∈ a
    · rw [if_pos hu]; exact h
    · rw [if_neg hu, List.nodup_append]
      refine ⟨h, by simp, ?_⟩
      intro x hx y hy
      rw [List.mem_singleton] at hy
      subst hy
      exact fun e => hu (e ▸ hx)
theorem tfold_len (l : List Tm) : ∀ (a : List Tm), (l.foldl tstep a).length ≤ a.length + l.length := by
  induction l with
  | nil => intro a; simp
  | cons u l ih =>
    intro a
    have := ih (tstep a u)
    have h2 : (tstep a u).length ≤ a.length + 1 := by unfold tstep; split <;> simp
    rw [List.foldl_cons, List.length_cons]
    omega
/-- the terms of a rule in the law's order -/
def termsL (r : Rl) : List Tm := (dedupT r.tms).mergeSort (leT trank)
theorem termsL_mem (r : Rl) (t : Tm) : t ∈ termsL r ↔ t ∈ r.tms := by
  unfold termsL dedupT
  rw [(List.mergeSort_perm _ _).mem_iff, tfold_mem]
  simp
theorem tkey_tri {a b : Tm} (h1 : dlt (tkey a) (tkey b) = false) (h2 : dlt (tkey b) (tkey a) = false) : a = b := by
  have k3 : ∀ a b i j : Int, ∀ x y : Str, dlt (.tup [.int a, .int i, .str x]) (.tup [.int b, .int j, .str y]) = if a = b then (if i = j then (if x = y then false else dlt (.str x) (.str y)) else decide (i < j)) else decide (a < b) := by
    intro a b i j x y
    rw [dlt_tup, rlt_cons (Kd.int _ _), rlt_cons (Kd.int _ _), rlt_cons (Kd.str _ _), rlt_nil, dlt_int, dlt_int]
    simp only [D.int.injEq, D.str.injEq]
  have k2 : ∀ a b : Int, ∀ d e : D, Kd d e → dlt (.tup [.int a, d]) (.tup [.int b, e]) = if a = b then (if d = e then false else dlt d e) else decide (a < b) := by
    intro a b d e h
    rw [dlt_tup, rlt_cons (Kd.int _ _), rlt_cons h, rlt_nil, dlt_int]
    simp only [D.int.injEq]
  have kk : ∀ a b i j : Int, ∀ x y : Str, Kd (.tup [.int a, .int i, .str x]) (.tup [.int b, .int j, .str y]) := fun a b i j x y => Kd.tup3 (Kd.int _ _) (Kd.int _ _) (Kd.str _ _)
  have hs : ∀ x y : Str, dlt (.str x) (.str y) = false → dlt (.str y) (.str x) = false → x = y := by
    intro x y q1 q2
    rw [dlt_str] at q1 q2
    simp only [decide_eq_false_iff_not] at q1 q2
    exact Str_ext (List.le_antisymm (List.not_lt.mp q2) (List.not_lt.mp q1))
  cases a <;> cases b <;> simp only [tkey] at h1 h2 <;> rw [k2 _ _ _ _ (kk _ _ _ _ _ _), k3] at h1 h2
  · rename_i i j
    by_cases e : i = j
    · rw [e]
    · have e' : ¬ j = i := fun q => e q.symm
      simp [e, e'] at h1 h2
      omega
  · simp at h1
  · simp at h1
  · simp at h2
  · rename_i x y
    by_cases e : x = y
    · rw [e]
    · have e' : ¬ y = x := fun q => e q.symm
      simp only [e, e', if_false, if_true, D.tup.injEq, List.cons.injEq, D.str.injEq, and_true, and_false, true_and] at h1 h2
      rw [hs x y h1 h2]
  · simp at h1
  · simp at h2
  · simp at h2
  · rename_i x y
    by_cases e : x = y
    · rw [e]
    · have e' : ¬ y = x := fun q => e q.symm
      simp only [e, e', if_false, if_true, D.tup.injEq, List.cons.injEq, D.str.injEq, and_true, and_false, true_and] at h1 h2
      rw [hs x y h1 h2]
theorem termsL_sorted (r : Rl) : (termsL r).Pairwise fun a b => dlt (tkey a) (tkey b) = true := by
  have h1 := sortT_pairwise trank (dedupT r.tms)
  have h2 : (termsL r).Nodup := (List.mergeSort_perm _ _).nodup_iff.mpr (tfold_nodup _ List.nodup_nil)
  unfold termsL at h2 ⊢
  refine (h1.and h2).imp fun {a b} ⟨q1, q2⟩ => ?_
  rw [trank_lt] at q1
  cases h : dlt (tkey a) (tkey b) with
  | true => rfl
  | false => exact absurd (tkey_tri h q1) q2
theorem termsL_len (r : Rl) : (termsL r).length ≤ r.tms.length := by
  unfold termsL
  rw [List.length_mergeSort]
  have := tfold_len r.tms []
  simpa [dedupT] using this
theorem trank_keyed (a : Tm) : D.keyed deep (trank a) = true := by
  show D.keyed 60 _ = true
  cases a <;> simp [trank, D.keyed, D.keyeds]
theorem trank_KOk (l : List Tm) : KOk (l.map trank) where
  kd := fun k hk => by
    obtain ⟨t, _, rfl⟩ := List.mem_map.mp hk
    exact trank_keyed t
  al := fun a ha b hb => by
    obtain ⟨t, _, rfl⟩ := List.mem_map.mp ha
    obtain ⟨u, _, rfl⟩ := List.mem_map.mp hb
    exact (trank_kd t u).al
  tp := fun k hk => by
    obtain ⟨t, _, rfl⟩ := List.mem_map.mp hk
    cases t <;> rfl
/-- the law's namings -/
def rightL (r : Rl) (i : Nat) (pl : Rl) : List Nm := lawN (termsL r) r i pl
theorem rightL_mem (r : Rl) (i : Nat) (pl : Rl) (τ : Nm) : τ ∈ rightL r i pl ↔ RightN r i pl τ := mem_lawN (termsL_mem r) i pl τ
theorem naming_head (r : Rl) (i : Nat) (pl : Rl) : minO nkey (progN r i pl) = (rightL r i pl).head? := naming_law (termsL_mem r) (termsL_sorted r) i pl
theorem right_vals {r pl : Rl} {i : Nat} {τ : Nm} (h : RightN r i pl τ) : ∀ q ∈ τ, q.2 ∈ r.tms := by
  obtain ⟨h1, h2, h3⟩ := h
  intro q hq
  have hk : q.1 ∈ rwords pl := h1 ▸ List.mem_map_of_mem hq
  have hv := (rwords_mem pl q.1).mp hk
  obtain ⟨p, hp, hpt⟩ := List.mem_flatMap.mp hv
  refine List.mem_flatMap.mpr ⟨p.by τ, h2 p hp, ?_⟩
  have em := mk_of_keys h1 (rwords_nodup pl)
  have e2 : (Tm.var q.1).by τ = q.2 := by
    have hl : lk τ q.1 = some q.2 := by
      have hq' := hq
      rw [em] at hq'
      obtain ⟨x, hx, ex⟩ := List.mem_map.mp hq'
      have e3 := lk_mk (fun x => (lk τ x).getD default) q.1 (rwords pl)
      rw [← em, if_pos hk] at e3
      rw [e3]
      cases ex
      rfl
    simp [Tm.by, hl]
  rw [← e2]
  exact List.mem_map_of_mem hpt
theorem judge_right {r pl : Rl} {i : Nat} {τ : Nm} : (τ.map (·.1) = rwords pl ∧ judgeN r i pl τ = true) ↔ RightN r i pl τ := by
  unfold RightN judgeN
  rw [Bool.and_eq_true, List.all_eq_true]
  constructor
  · rintro ⟨a, b, c⟩
    exact ⟨a, fun p hp => of_decide_eq_true (b p hp), c⟩
  · rintro ⟨a, b, c⟩
    exact ⟨a, fun p hp => decide_eq_true (b p hp), c⟩
mutual
theorem pt_bd {k : Nat} (hk : k ≤ 1000) : ∀ {n : Nat} (d : D), D.pt k n d = true → D.bd n d = true
  | _, .int _, _ => by simp [D.bd]
  | _, .str _, _ => by simp [D.bd]
  | 0, .tup _, h => by simp [D.pt] at h
  | n + 1, .tup xs, h => by
    simp only [D.pt, Bool.and_eq_true, decide_eq_true_iff] at h
    simp only [D.bd, Bool.and_eq_true, decide_eq_true_iff]
    exact ⟨by omega, pts_bds hk xs h.2⟩
  | n, .non, h => by cases n <;> simp [D.pt] at h
  | n, .bl _, h => by cases n <;> simp [D.pt] at h
  | n, .lst _, h => by cases n <;> simp [D.pt] at h
  | n, .dct _, h => by cases n <;> simp [D.pt] at h
  | n, .ref _, h => by cases n <;> simp [D.pt] at h
  | n, .scr _, h => by cases n <;> simp [D.pt] at h
theorem pts_bds {k : Nat} (hk : k ≤ 1000) : ∀ {n : Nat} (d : List D), D.pts k n d = true → D.bds n d = true
  | _, [], _ => by simp [D.bds]
  | n, x :: xs, h => by
    simp only [D.pts, Bool.and_eq_true] at h
    simp only [D.bds, pt_bd hk x h.1, pts_bds hk xs h.2, Bool.and_self]
end
end Ev

-- K87I
set_option autoImplicit true
set_option Elab.async false
set_option linter.all false
set_option maxRecDepth 100000
set_option maxHeartbeats 4000000
namespace K87
open PySem PySem.Spec PyProof.Rows L2 Ev
def top (i : Nat) : Stmt := PySem.Challenge.pw_matchweb_k87_namings.main.body.getD i (.Pass ⟨0, 0, 0, 0⟩)
def b0 : Df := { np := 1, ns := 1, fr := false, body := (.cons (.ite (.truth (.blt (.isi [.int]) (.var 0))) (.cons (.ret (.tup (.cons (.cst (.int 0)) (.cons (.var 0) (.cons (.cst (.str "")) .nil))))) .nil) .nil) (.cons (.ret (.tup (.cons (.cst (.int 1)) (.cons (.cst (.int 0)) (.cons (.var 0) .nil))))) .nil)) }
def b1 : Df := { np := 1, ns := 1, fr := false, body := (.cons (.ret (.blt (.isi [.tuple]) (.var 0))) .nil) }
def b2 : Df := { np := 1, ns := 3, fr := false, body := (.cons (.setO 1 (.lst .nil)) (.cons (.loop (.one 2) .seq (.cons (.var 0) .nil) (.cons (.ite (.land (.truth (.call 1 (.cons (.var 2) .nil))) (.cmpV .notin (.idx (.var 2) (.cst (.int 1))) 1)) (.cons (.expr (.mutV .append 1 (.cons (.idx (.var 2) (.cst (.int 1))) .nil))) .nil) .nil) .nil)) (.cons (.ret (.var 1)) .nil))) }
def b3 : Df := { np := 1, ns := 2, fr := false, body := (.cons (.ret (.comp (.one 1) .seq (.cons (.idx (.var 0) (.cst (.int 1))) .nil) (.cons (.cmp .eq (.idx (.var 1) (.cst (.int 0))) (.cst (.str "yes"))) .nil) (.idx (.var 1) (.cst (.int 1))))) .nil) }
def b4 : Df := { np := 1, ns := 1, fr := false, body := (.cons (.ret (.ite (.cmp .inn (.idx (.var 0) (.cst (.int 0))) (.tup (.cons (.cst (.str "make")) (.cons (.cst (.str "stand")) .nil)))) (.idx (.var 0) (.cst (.int 1))) (.cst .non))) .nil) }
def b5 : Df := { np := 1, ns := 1, fr := false, body := (.cons (.ret (.land (.blt (.isi [.int]) (.var 0)) (.lnot (.blt (.isi [.bool]) (.var 0))))) .nil) }
def b6 : Df := { np := 1, ns := 2, fr := false, body := (.cons (.ret (.land (.blt (.isi [.str]) (.var 0)) (.land (.cmp .gt (.blt .len (.var 0)) (.cst (.int 0))) (.blt .all (.comp (.one 1) .seq (.cons (.var 0) .nil) .nil (.cmp .inn (.var 1) (.cst (.str "abcdefghijklmnopqrstuvwxyz")))))))) .nil) }
def b7 : Df := { np := 1, ns := 1, fr := false, body := (.cons (.ret (.lor (.call 5 (.cons (.var 0) .nil)) (.call 6 (.cons (.var 0) .nil)))) .nil) }
def b8 : Df := { np := 2, ns := 2, fr := false, body := (.cons (.ret (.land (.blt (.isi [.tuple]) (.var 0)) (.cmp .eq (.blt .len (.var 0)) (.var 1)))) .nil) }
def b9 : Df := { np := 1, ns := 4, fr := false, body := (.cons (.ret (.blt .sorted (.call 2 (.cons (.comp2 (.many [1, 2]) .seq (.cons (.call 3 (.cons (.var 0) .nil)) .nil) (.one 3) .seq (.cons (.var 2) .nil) (.var 3)) .nil)))) .nil) }
def b10 : Df := { np := 1, ns := 1, fr := false, body := (.cons (.ret (.ite (.truth (.call 1 (.cons (.var 0) .nil))) (.tup (.cons (.cst (.int 1)) (.cons (.tup (.cons (.cst (.int 0)) (.cons (.cst (.int 0)) (.cons (.idx (.var 0) (.cst (.int 1))) .nil)))) .nil))) (.tup (.cons (.cst (.int 0)) (.cons (.call 0 (.cons (.var 0) .nil)) .nil))))) .nil) }
def b11 : Df := { np := 2, ns := 5, fr := false, body := (.cons (.setT [2, 3] (.var 0)) (.cons (.ret (.tup (.cons (.var 2) (.cons (.blt .tuple (.comp (.one 4) .seq (.cons (.var 3) .nil) .nil (.ite (.truth (.call 1 (.cons (.var 4) .nil))) (.idx (.var 1) (.idx (.var 4) (.cst (.int 1)))) (.var 4)))) .nil)))) .nil)) }
def b12 : Df := { np := 3, ns := 6, fr := false, body := (.cons (.ite (.lor (.cmp .ne (.idx (.var 0) (.cst (.int 0))) (.idx (.var 1) (.cst (.int 0)))) (.cmp .ne (.blt .len (.idx (.var 0) (.cst (.int 1)))) (.blt .len (.idx (.var 1) (.cst (.int 1)))))) (.cons (.ret (.cst .non)) .nil) .nil) (.cons (.setO 3 (.blt .dict (.var 2))) (.cons (.loop (.many [4, 5]) .zip (.cons (.idx (.var 0) (.cst (.int 1))) (.cons (.idx (.var 1) (.cst (.int 1))) .nil)) (.cons (.ite (.lnot (.truth (.call 1 (.cons (.var 4) .nil)))) (.cons (.ite (.cmp .ne (.var 4) (.var 5)) (.cons (.ret (.cst .non)) .nil) .nil) .nil) (.cons (.ite (.cmp .ne (.setd 3 (.idx (.var 4) (.cst (.int 1))) (.var 5)) (.var 5)) (.cons (.ret (.cst .non)) .nil) .nil) .nil)) .nil)) (.cons (.ret (.var 3)) .nil)))) }
def b13 : Df := { np := 2, ns := 7, fr := false, body := (.cons (.setV 2 (.lst (.cons .dct0 .nil))) (.cons (.loop (.one 3) .seq (.cons (.call 3 (.cons (.var 0) .nil)) .nil) (.cons (.setV 4 (.comp2 (.one 5) .seq (.cons (.var 2) .nil) (.one 6) .seq (.cons (.call 3 (.cons (.var 1) .nil)) .nil) (.call 12 (.cons (.var 3) (.cons (.var 6) (.cons (.var 5) .nil)))))) (.cons (.setV 2 (.comp (.one 5) .seq (.cons (.var 4) .nil) (.cons (.cmp .isn (.var 5) (.cst .non)) .nil) (.var 5))) .nil))) (.cons (.ret (.var 2)) .nil))) }
def b14 : Df := { np := 3, ns := 3, fr := false, body := (.cons (.ite (.cmp .eq (.idx (.var 1) (.cst (.int 0))) (.cst (.str "halt"))) (.cons (.ret (.tup (.cons (.cst (.str "halt")) .nil))) .nil) .nil) (.cons (.ite (.cmp .eq (.idx (.var 1) (.cst (.int 0))) (.cst (.str "drop"))) (.cons (.ret (.tup (.cons (.cst (.str "drop")) (.cons (.call 11 (.cons (.idx (.call 3 (.cons (.var 0) .nil)) (.idx (.var 1) (.cst (.int 1)))) (.cons (.var 2) .nil))) .nil)))) .nil) .nil) (.cons (.ret (.tup (.cons (.cst (.str "make")) (.cons (.call 11 (.cons (.call 4 (.cons (.var 1) .nil)) (.cons (.var 2) .nil))) .nil)))) .nil))) }
def b15 : Df := { np := 1, ns := 2, fr := false, body := (.cons (.ret (.dcomp (.one 1) .seq (.cons (.call 9 (.cons (.var 0) .nil)) .nil) (.var 1) (.tup (.cons (.cst (.str "var")) (.cons (.var 1) .nil))))) .nil) }
def b16 : Df := { np := 4, ns := 6, fr := false, body := (.cons (.setV 4 (.call 14 (.cons (.var 2) (.cons (.idx (.idx (.var 2) (.cst (.int 2))) (.var 3)) (.cons (.call 15 (.cons (.var 2) .nil)) .nil))))) (.cons (.ret (.cmp .inn (.var 4) (.comp (.one 5) .seq (.cons (.idx (.var 0) (.cst (.int 2))) .nil) .nil (.call 14 (.cons (.var 0) (.cons (.var 5) (.cons (.var 1) .nil))))))) .nil)) }
def b17 : Df := { np := 1, ns := 2, fr := false, body := (.cons (.ret (.blt .tuple (.comp (.one 1) .seq (.cons (.blt .sorted (.var 0)) .nil) .nil (.tup (.cons (.var 1) (.cons (.idx (.var 0) (.var 1)) .nil)))))) .nil) }
def b18 : Df := { np := 1, ns := 3, fr := false, body := (.cons (.ret (.blt .tuple (.comp (.many [1, 2]) .seq (.cons (.var 0) .nil) .nil (.call 10 (.cons (.var 2) .nil))))) .nil) }
def b19 : Df := { np := 3, ns := 5, fr := false, body := (.cons (.setV 3 (.comp (.one 4) .seq (.cons (.call 13 (.cons (.var 2) (.cons (.var 0) .nil))) .nil) (.cons (.truth (.call 16 (.cons (.var 2) (.cons (.var 4) (.cons (.var 0) (.cons (.var 1) .nil)))))) .nil) (.call 17 (.cons (.var 4) .nil)))) (.cons (.ret (.minKD 18 (.var 3))) .nil)) }
def b20 : Df := { np := 3, ns := 6, fr := false, body := (.cons (.loop (.many [3, 4]) .enum (.cons (.var 0) .nil) (.cons (.setV 5 (.ite (.cmp .eq (.var 3) (.var 1)) (.cst .non) (.call 19 (.cons (.idx (.var 0) (.var 1)) (.cons (.var 2) (.cons (.var 4) .nil)))))) (.cons (.ite (.cmp .isn (.var 5) (.cst .non)) (.cons (.ret (.tup (.cons (.var 3) (.cons (.var 5) .nil)))) .nil) .nil) .nil))) (.cons (.ret (.cst .non)) .nil)) }
def b21 : Df := { np := 2, ns := 3, fr := false, body := (.cons (.ret (.blt .all (.comp (.one 2) .range1 (.cons (.blt .len (.idx (.idx (.var 0) (.var 1)) (.cst (.int 2)))) .nil) .nil (.cmp .isn (.call 20 (.cons (.var 0) (.cons (.var 1) (.cons (.var 2) .nil)))) (.cst .non))))) .nil) }
def b22 : Df := { np := 1, ns := 1, fr := false, body := (.cons (.ite (.truth (.call 8 (.cons (.var 0) (.cons (.cst (.int 2)) .nil)))) (.cons (.ret (.land (.cmp .eq (.idx (.var 0) (.cst (.int 0))) (.cst (.str "var"))) (.call 6 (.cons (.idx (.var 0) (.cst (.int 1))) .nil)))) .nil) .nil) (.cons (.ret (.call 7 (.cons (.var 0) .nil))) .nil)) }
def b23 : Df := { np := 4, ns := 11, fr := false, body := (.cons (.setV 4 (.call 9 (.cons (.var 2) .nil))) (.cons (.ite (.lnot (.truth (.call 8 (.cons (.var 3) (.cons (.blt .len (.var 4)) .nil))))) (.cons (.ret (.cst (.bl false))) .nil) .nil) (.cons (.ite (.lnot (.truth (.blt .all (.comp (.many [5, 6]) .zip (.cons (.var 3) (.cons (.var 4) .nil)) .nil (.land (.call 8 (.cons (.var 5) (.cons (.cst (.int 2)) .nil))) (.land (.cmp .eq (.idx (.var 5) (.cst (.int 0))) (.var 6)) (.call 22 (.cons (.idx (.var 5) (.cst (.int 1))) .nil)))))))) (.cons (.ret (.cst (.bl false))) .nil) .nil) (.cons (.setV 7 (.dcomp (.many [6, 8]) .seq (.cons (.var 3) .nil) (.var 6) (.var 8))) (.cons (.setV 9 (.call 3 (.cons (.var 0) .nil))) (.cons (.ite (.lnot (.truth (.blt .all (.comp (.one 10) .seq (.cons (.call 3 (.cons (.var 2) .nil)) .nil) .nil (.cmp .inn (.call 11 (.cons (.var 10) (.cons (.var 7) .nil))) (.var 9)))))) (.cons (.ret (.cst (.bl false))) .nil) .nil) (.cons (.ret (.call 16 (.cons (.var 2) (.cons (.var 7) (.cons (.var 0) (.cons (.var 1) .nil)))))) .nil))))))) }
def b24 : Df := { np := 2, ns := 9, fr := true, body := (.cons (.setO 2 (.comp (.one 3) .seq (.cons (.slc (.var 0) (.cst .non) (.un .part (.cst (.int 63)))) .nil) .nil (.bin .mod (.blt .int (.var 3)) (.bin .shl (.cst (.int 1)) (.cst (.int 7200)))))) (.cons (.ite (.cmp .eq (.bltV .len 2) (.cst (.int 0))) (.cons (.expr (.mutV .append 2 (.cons (.cst (.int 0)) .nil))) .nil) .nil) (.cons (.setO 4 (.bltV .list 2)) (.cons (.setO 5 (.lst .nil)) (.cons (.loop (.one 6) .range1 (.cons (.var 1) .nil) (.cons (.setV 7 (.bin .mod (.blt .int (.var 6)) (.bltV .len 2))) (.cons (.ite (.land (.cmp .ge (.idxV 2 (.var 7)) (.bin .pow (.cst (.int 10)) (.cst (.int 18)))) (.cmp .gt (.idxV 4 (.var 7)) (.cst (.int 0)))) (.cons (.expr (.mutV .append 5 (.cons (.bin .mod (.blt .int (.idxV 4 (.var 7))) (.cst (.int 1000))) .nil))) (.cons (.item 4 (.var 7) (.bin .fdiv (.idxV 4 (.var 7)) (.cst (.int 1000)))) .nil)) (.cons (.setV 8 (.bin .mod (.blt .int (.bin .add (.bin .add (.bin .mul (.idxV 2 (.var 7)) (.cst (.int 48271))) (.bin .mul (.var 6) (.cst (.int 69621)))) (.cst (.int 11)))) (.cst (.int 2147483647)))) (.cons (.expr (.mutV .append 5 (.cons (.bin .mod (.blt .int (.bin .add (.bin .add (.bin .mul (.var 8) (.var 8)) (.bin .mul (.cst (.int 3)) (.var 8))) (.var 6))) (.cst (.int 1000003))) .nil))) .nil))) .nil))) (.cons (.expr (.mutV .reverse 5 .nil)) (.cons (.retO 5) .nil))))))) }
def b25 : Df := { np := 2, ns := 2, fr := false, body := (.cons (.ite (.cmp .eq (.bltV .len 0) (.cst (.int 0))) (.cons (.ret (.cst (.int 0))) .nil) .nil) (.cons (.ret (.bin .mod (.blt .int (.mutV .pop0 0 .nil)) (.var 1))) .nil)) }
def b26 : Df := { np := 2, ns := 2, fr := false, body := (.cons (.ret (.idx (.var 1) (.call 25 (.cons (.var 0) (.cons (.blt .len (.var 1)) .nil))))) .nil) }
def b27 : Df := { np := 2, ns := 3, fr := false, body := (.cons (.ite (.truth (.blt (.isi [.tuple, .list]) (.var 1))) (.cons (.ite (.lor (.cmp .ne (.blt (.isi [.tuple]) (.var 0)) (.blt (.isi [.tuple]) (.var 1))) (.cmp .ne (.blt (.isi [.list]) (.var 0)) (.blt (.isi [.list]) (.var 1)))) (.cons (.ret (.cst (.bl false))) .nil) .nil) (.cons (.ite (.cmp .ne (.blt .len (.var 0)) (.blt .len (.var 1))) (.cons (.ret (.cst (.bl false))) .nil) .nil) (.cons (.ret (.cmp .notin (.cst (.bl false)) (.comp (.one 2) .range1 (.cons (.blt .len (.var 1)) .nil) .nil (.call 27 (.cons (.idx (.var 0) (.var 2)) (.cons (.idx (.var 1) (.var 2)) .nil)))))) .nil))) .nil) (.cons (.ite (.lor (.cmp .ne (.blt (.isi [.bool]) (.var 0)) (.blt (.isi [.bool]) (.var 1))) (.cmp .ne (.blt (.isi [.int]) (.var 0)) (.blt (.isi [.int]) (.var 1)))) (.cons (.ret (.cst (.bl false))) .nil) .nil) (.cons (.ite (.lor (.cmp .ne (.blt (.isi [.str]) (.var 0)) (.blt (.isi [.str]) (.var 1))) (.cmp .ne (.cmp .is (.var 0) (.cst .non)) (.cmp .is (.var 1) (.cst .non)))) (.cons (.ret (.cst (.bl false))) .nil) .nil) (.cons (.ret (.cmp .eq (.var 0) (.var 1))) .nil)))) }
def b28 : Df := { np := 2, ns := 5, fr := false, body := (.cons (.setO 2 (.blt .list (.var 1))) (.cons (.setO 3 (.lst .nil)) (.cons (.loop (.one 4) .range1 (.cons (.bltV .len 2) .nil) (.cons (.expr (.mutV .append 3 (.cons (.mutV .pop1 2 (.cons (.call 25 (.cons (.var 0) (.cons (.bltV .len 2) .nil))) .nil)) .nil))) .nil)) (.cons (.ret (.var 3)) .nil)))) }
def b29 : Df := { np := 1, ns := 1, fr := false, body := (.cons (.ret (.land (.blt (.isi [.int]) (.var 0)) (.lnot (.blt (.isi [.bool]) (.var 0))))) .nil) }
def b30 : Df := { np := 3, ns := 3, fr := false, body := (.cons (.ret (.bin .add (.bin .add (.slc (.var 0) (.cst .non) (.un .part (.var 1))) (.tup (.cons (.var 2) .nil))) (.slc (.var 0) (.un .part (.bin .add (.var 1) (.cst (.int 1)))) (.cst .non)))) .nil) }
def b31 : Df := { np := 2, ns := 8, fr := false, body := (.cons (.setO 2 (.lst .nil)) (.cons (.loop (.one 3) .range1 (.cons (.var 1) .nil) (.cons (.setV 4 (.bin .add (.cst (.int 1)) (.call 25 (.cons (.var 0) (.cons (.cst (.int 3)) .nil))))) (.cons (.ite (.cmp .eq (.call 25 (.cons (.var 0) (.cons (.cst (.int 9)) .nil))) (.cst (.int 0))) (.cons (.setV 4 (.bin .add (.bin .add (.var 4) (.cst (.int 3))) (.call 25 (.cons (.var 0) (.cons (.cst (.int 20)) .nil))))) .nil) .nil) (.cons (.setV 5 (.blt (.join "") (.comp (.one 6) .range1 (.cons (.var 4) .nil) .nil (.idx (.cst (.str "abcdefghijklmnopqrstuvwxyz")) (.call 25 (.cons (.var 0) (.cons (.cst (.int 26)) .nil))))))) (.cons (.ite (.lor (.cmpV .inn (.var 5) 2) (.cmp .inn (.var 5) (.tup (.cons (.cst (.str "and")) (.cons (.cst (.str "if")) .nil))))) (.cons (.setV 5 (.bin .mul (.cst (.str "z")) (.bin .add (.cst (.int 1)) (.blt .max1 (.bin .add (.lst (.cons (.cst (.int 5)) .nil)) (.compV (.one 7) 2 .nil (.blt .len (.var 7)))))))) .nil) .nil) (.cons (.expr (.mutV .append 2 (.cons (.var 5) .nil))) .nil)))))) (.cons (.ret (.var 2)) .nil))) }
def b32 : Df := { np := 1, ns := 3, fr := false, body := (.cons (.setO 1 (.lst .nil)) (.cons (.loop (.one 2) .seq (.cons (.var 0) .nil) (.cons (.ite (.truth (.blt (.isi [.str]) (.var 2))) (.cons (.expr (.mutV .append 1 (.cons (.tup (.cons (.cst (.int 1)) (.cons (.cst (.int 0)) (.cons (.var 2) .nil)))) .nil))) .nil) (.cons (.expr (.mutV .append 1 (.cons (.tup (.cons (.cst (.int 0)) (.cons (.var 2) (.cons (.cst (.str "")) .nil)))) .nil))) .nil)) .nil)) (.cons (.ret (.bltV .tuple 1)) .nil))) }
def b33 : Df := { np := 3, ns := 3, fr := false, body := (.cons (.ite (.land (.cmp .gt (.blt .len (.var 1)) (.cst (.int 0))) (.cmp .gt (.call 25 (.cons (.var 0) (.cons (.cst (.int 3)) .nil))) (.cst (.int 0)))) (.cons (.ret (.tup (.cons (.cst (.str "var")) (.cons (.call 26 (.cons (.var 0) (.cons (.var 1) .nil))) .nil)))) .nil) .nil) (.cons (.ret (.call 26 (.cons (.var 0) (.cons (.var 2) .nil)))) .nil)) }
def b34 : Df := { np := 4, ns := 7, fr := false, body := (.cons (.setT [4, 5] (.call 26 (.cons (.var 0) (.cons (.var 1) .nil)))) (.cons (.ret (.tup (.cons (.var 4) (.cons (.blt .tuple (.comp (.one 6) .range1 (.cons (.var 5) .nil) .nil (.call 33 (.cons (.var 0) (.cons (.var 2) (.cons (.var 3) .nil)))))) .nil)))) .nil)) }
def b35 : Df := { np := 1, ns := 4, fr := false, body := (.cons (.setV 1 (.lst .nil)) (.cons (.loop (.one 2) .seq (.cons (.var 0) .nil) (.cons (.setV 1 (.bin .add (.var 1) (.comp (.one 3) .seq (.cons (.idx (.var 2) (.cst (.int 1))) .nil) (.cons (.truth (.blt (.isi [.tuple]) (.var 3))) .nil) (.idx (.var 3) (.cst (.int 1)))))) .nil)) (.cons (.ret (.blt .sortedSet (.var 1))) .nil))) }
def b36 : Df := { np := 1, ns := 2, fr := false, body := (.cons (.ret (.call 35 (.cons (.comp (.one 1) .seq (.cons (.var 0) .nil) (.cons (.cmp .eq (.idx (.var 1) (.cst (.int 0))) (.cst (.str "yes"))) .nil) (.idx (.var 1) (.cst (.int 1)))) .nil))) .nil) }
def b37 : Df := { np := 5, ns := 14, fr := false, body := (.cons (.setV 5 (.call 36 (.cons (.var 1) .nil))) (.cons (.setV 6 (.blt .len (.comp (.one 7) .seq (.cons (.var 1) .nil) (.cons (.cmp .eq (.idx (.var 7) (.cst (.int 0))) (.cst (.str "yes"))) .nil) (.var 7)))) (.cons (.setO 8 (.lst .nil)) (.cons (.setO 9 (.lst .nil)) (.cons (.loop (.one 10) .range1 (.cons (.call 26 (.cons (.var 0) (.cons (.lst (.cons (.cst (.int 1)) (.cons (.cst (.int 2)) (.cons (.cst (.int 0)) (.cons (.cst (.int 1)) (.cons (.cst (.int 3)) (.cons (.cst (.int 4)) .nil))))))) .nil))) .nil) (.cons (.setV 11 (.call 26 (.cons (.var 0) (.cons (.var 4) .nil)))) (.cons (.ite (.cmp .eq (.var 11) (.cst (.str "drop"))) (.cons (.ite (.cmp .lt (.bltV .len 8) (.var 6)) (.cons (.setV 12 (.call 26 (.cons (.var 0) (.cons (.comp (.one 13) .range1 (.cons (.var 6) .nil) (.cons (.cmpV .notin (.var 13) 8) .nil) (.var 13)) .nil)))) (.cons (.expr (.mutV .append 8 (.cons (.var 12) .nil))) (.cons (.expr (.mutV .append 9 (.cons (.tup (.cons (.cst (.str "drop")) (.cons (.var 12) .nil))) .nil))) .nil))) .nil) .nil) (.cons (.ite (.cmp .eq (.var 11) (.cst (.str "halt"))) (.cons (.expr (.mutV .append 9 (.cons (.tup (.cons (.cst (.str "halt")) .nil)) .nil))) .nil) (.cons (.expr (.mutV .append 9 (.cons (.tup (.cons (.var 11) (.cons (.call 34 (.cons (.var 0) (.cons (.var 2) (.cons (.var 5) (.cons (.var 3) .nil))))) .nil))) .nil))) .nil)) .nil)) .nil))) (.cons (.ret (.bltV .tuple 9)) .nil)))))) }
def b38 : Df := { np := 1, ns := 2, fr := false, body := (.cons (.ret (.comp (.one 1) .seq (.cons (.idx (.var 0) (.cst (.int 1))) .nil) (.cons (.cmp .eq (.idx (.var 1) (.cst (.int 0))) (.cst (.str "yes"))) .nil) (.idx (.var 1) (.cst (.int 1))))) .nil) }
def b39 : Df := { np := 2, ns := 8, fr := false, body := (.cons (.setO 2 (.lst .nil)) (.cons (.setV 3 (.var 1)) (.cons (.loop (.one 4) .range1 (.cons (.cst (.int 8)) .nil) (.cons (.ite (.lor (.lnot (.truth (.blt (.isi [.tuple]) (.var 3)))) (.lor (.cmp .eq (.blt .len (.var 3)) (.cst (.int 0))) (.land (.cmp .gt (.var 4) (.cst (.int 0))) (.cmp .eq (.call 25 (.cons (.var 0) (.cons (.cst (.int 5)) .nil))) (.cst (.int 0)))))) (.cons .brk .nil) .nil) (.cons (.setV 5 (.call 25 (.cons (.var 0) (.cons (.blt .len (.var 3)) .nil)))) (.cons (.expr (.mutV .append 2 (.cons (.lst (.cons (.var 3) (.cons (.var 5) .nil))) .nil))) (.cons (.setV 3 (.idx (.var 3) (.var 5))) .nil))))) (.cons (.ite (.truth (.blt (.isi [.tuple]) (.var 3))) (.cons (.setV 5 (.call 25 (.cons (.var 0) (.cons (.bin .add (.blt .len (.var 3)) (.cst (.int 1))) .nil)))) (.cons (.setV 6 (.call 26 (.cons (.var 0) (.cons (.lst (.cons (.bin .add (.slc (.var 3) (.cst .non) (.un .part (.var 5))) (.slc (.var 3) (.un .part (.bin .add (.var 5) (.cst (.int 1)))) (.cst .non))) (.cons (.bin .add (.bin .add (.slc (.var 3) (.cst .non) (.un .part (.var 5))) (.slc (.slc (.var 3) (.un .part (.var 5)) (.cst .non)) (.cst .non) (.un .part (.cst (.int 1))))) (.slc (.var 3) (.un .part (.var 5)) (.cst .non))) (.cons (.bin .add (.slc (.var 3) (.un .part (.var 5)) (.cst .non)) (.slc (.var 3) (.cst .non) (.un .part (.var 5)))) (.cons (.bin .add (.var 3) (.tup (.cons (.tup .nil) .nil))) (.cons (.tup .nil) (.cons (.bin .add (.bin .add (.slc (.var 3) (.cst .non) (.un .part (.var 5))) (.tup (.cons (.cst (.int 0)) .nil))) (.slc (.var 3) (.un .part (.bin .add (.var 5) (.cst (.int 1)))) (.cst .non))) .nil))))))) .nil)))) .nil)) (.cons (.ite (.truth (.blt (.isi [.str]) (.var 3))) (.cons (.setV 6 (.call 26 (.cons (.var 0) (.cons (.lst (.cons (.bin .add (.var 3) (.cst (.str "a"))) (.cons (.slc (.var 3) (.un .part (.cst (.int 1))) (.cst .non)) (.cons (.cst (.int 0)) (.cons (.cst (.str "blocked")) (.cons (.cst (.str "one")) (.cons (.cst (.str "step")) .nil))))))) .nil)))) .nil) (.cons (.setV 6 (.call 26 (.cons (.var 0) (.cons (.lst (.cons (.bin .add (.var 3) (.cst (.int 1))) (.cons (.bin .sub (.var 3) (.cst (.int 1))) (.cons (.bin .add (.var 3) (.cst (.int 1))) (.cons (.bin .sub (.var 3) (.cst (.int 1))) (.cons (.cst (.int 0)) (.cons (.un .neg (.cst (.int 1))) (.cons (.cst (.str "a")) (.cons (.tup (.cons (.var 3) .nil)) .nil))))))))) .nil)))) .nil)) .nil)) (.cons (.expr (.mutV .reverse 2 .nil)) (.cons (.loop (.many [7, 5]) .seq (.cons (.var 2) .nil) (.cons (.setV 6 (.call 30 (.cons (.var 7) (.cons (.var 5) (.cons (.var 6) .nil))))) .nil)) (.cons (.ret (.var 6)) .nil))))))) }
def b40 : Df := { np := 3, ns := 5, fr := false, body := (.cons (.setV 3 (.call 26 (.cons (.var 0) (.cons (.lst (.cons (.bin .sub (.call 25 (.cons (.var 0) (.cons (.cst (.int 12)) .nil))) (.cst (.int 2))) (.cons (.bin .add (.bin .pow (.cst (.int 10)) (.cst (.int 40))) (.cst (.int 121))) (.cons (.var 1) (.cons (.call 25 (.cons (.var 0) (.cons (.cst (.int 5)) .nil))) .nil))))) .nil)))) (.cons (.setV 4 (.call 26 (.cons (.var 0) (.cons (.lst (.cons (.bin .pow (.cst (.int 10)) (.cst (.int 41))) (.cons (.bin .add (.var 1) (.cst (.str "a"))) (.cons (.bin .sub (.un .neg (.cst (.int 5))) (.call 25 (.cons (.var 0) (.cons (.cst (.int 9)) .nil)))) (.cons (.bin .add (.var 1) (.cst (.str "aa"))) .nil))))) .nil)))) (.cons (.ite (.land (.truth (.call 29 (.cons (.var 3) .nil))) (.cmp .eq (.call 25 (.cons (.var 0) (.cons (.cst (.int 2)) .nil))) (.cst (.int 0)))) (.cons (.setV 4 (.bin .add (.bin .add (.var 3) (.cst (.int 1))) (.call 25 (.cons (.var 0) (.cons (.cst (.int 3)) .nil))))) .nil) .nil) (.cons (.ret (.slc (.lst (.cons (.var 3) (.cons (.var 4) .nil))) (.cst .non) (.un .part (.var 2)))) .nil)))) }
def b41 : Df := { np := 1, ns := 1, fr := false, body := (.cons (.ite (.truth (.blt (.isi [.tuple]) (.var 0))) (.cons (.ret (.tup (.cons (.cst (.int 1)) (.cons (.tup (.cons (.tup (.cons (.cst (.int 0)) (.cons (.cst (.int 0)) (.cons (.cst (.str "")) .nil)))) .nil)) (.cons (.idx (.var 0) (.cst (.int 1))) .nil))))) .nil) .nil) (.cons (.ret (.tup (.cons (.cst (.int 0)) (.cons (.call 32 (.cons (.tup (.cons (.var 0) .nil)) .nil)) (.cons (.cst (.str "")) .nil))))) .nil)) }
def b42 : Df := { np := 2, ns := 4, fr := false, body := (.cons (.setO 2 (.lst .nil)) (.cons (.loop (.one 3) .seq (.cons (.idx (.var 0) (.cst (.int 1))) .nil) (.cons (.ite (.truth (.blt (.isi [.tuple]) (.var 3))) (.cons (.expr (.mutV .append 2 (.cons (.idx (.var 1) (.idx (.var 3) (.cst (.int 1)))) .nil))) .nil) (.cons (.expr (.mutV .append 2 (.cons (.var 3) .nil))) .nil)) .nil)) (.cons (.ret (.tup (.cons (.idx (.var 0) (.cst (.int 0))) (.cons (.bltV .tuple 2) .nil)))) .nil))) }
def b43 : Df := { np := 2, ns := 5, fr := false, body := (.cons (.setV 2 (.call 38 (.cons (.var 0) .nil))) (.cons (.setO 3 (.lst .nil)) (.cons (.loop (.one 4) .seq (.cons (.idx (.var 0) (.cst (.int 2))) .nil) (.cons (.ite (.cmp .eq (.idx (.var 4) (.cst (.int 0))) (.cst (.str "drop"))) (.cons (.expr (.mutV .append 3 (.cons (.tup (.cons (.cst (.str "drop")) (.cons (.call 42 (.cons (.idx (.var 2) (.idx (.var 4) (.cst (.int 1)))) (.cons (.var 1) .nil))) .nil))) .nil))) .nil) (.cons (.ite (.cmp .eq (.idx (.var 4) (.cst (.int 0))) (.cst (.str "halt"))) (.cons (.expr (.mutV .append 3 (.cons (.var 4) .nil))) .nil) (.cons (.expr (.mutV .append 3 (.cons (.tup (.cons (.cst (.str "make")) (.cons (.call 42 (.cons (.idx (.var 4) (.cst (.int 1))) (.cons (.var 1) .nil))) .nil))) .nil))) .nil)) .nil)) .nil)) (.cons (.ret (.var 3)) .nil)))) }
def b44 : Df := { np := 1, ns := 3, fr := false, body := (.cons (.setO 1 .dct0) (.cons (.loop (.one 2) .seq (.cons (.call 36 (.cons (.idx (.var 0) (.cst (.int 1))) .nil)) .nil) (.cons (.item 1 (.var 2) (.tup (.cons (.cst (.str "var")) (.cons (.var 2) .nil)))) .nil)) (.cons (.ret (.var 1)) .nil))) }
def b45 : Df := { np := 3, ns := 17, fr := false, body := (.cons (.setV 3 (.idx (.call 43 (.cons (.var 0) (.cons (.call 44 (.cons (.var 0) .nil)) .nil))) (.var 1))) (.cons (.setV 4 (.call 38 (.cons (.var 0) .nil))) (.cons (.setO 5 (.lst .nil)) (.cons (.loop (.one 6) .seq (.cons (.var 4) .nil) (.cons (.loop (.one 7) .seq (.cons (.idx (.var 6) (.cst (.int 1))) .nil) (.cons (.ite (.cmpV .notin (.var 7) 5) (.cons (.expr (.mutV .append 5 (.cons (.var 7) .nil))) .nil) .nil) .nil)) .nil)) (.cons (.setO 5 (.sortK 41 (.var 5))) (.cons (.setV 8 (.call 36 (.cons (.idx (.var 2) (.cst (.int 1))) .nil))) (.cons (.setV 9 (.lst (.cons (.tup .nil) .nil))) (.cons (.loop (.one 10) .seq (.cons (.var 8) .nil) (.cons (.setV 11 (.lst .nil)) (.cons (.loop (.one 12) .seq (.cons (.var 9) .nil) (.cons (.setV 11 (.bin .add (.var 11) (.compV (.one 7) 5 .nil (.bin .add (.var 12) (.tup (.cons (.var 7) .nil)))))) .nil)) (.cons (.setV 9 (.var 11)) .nil)))) (.cons (.setO 13 (.lst .nil)) (.cons (.loop (.one 12) .seq (.cons (.var 9) .nil) (.cons (.setO 14 .dct0) (.cons (.loop (.one 15) .range1 (.cons (.blt .len (.var 8)) .nil) (.cons (.item 14 (.idx (.var 8) (.var 15)) (.idx (.var 12) (.var 15))) .nil)) (.cons (.setV 16 (.comp (.one 6) .seq (.cons (.call 38 (.cons (.var 2) .nil)) .nil) .nil (.cmp .inn (.call 42 (.cons (.var 6) (.cons (.var 14) .nil))) (.var 4)))) (.cons (.ite (.land (.cmp .notin (.cst (.bl false)) (.var 16)) (.cmp .inn (.var 3) (.call 43 (.cons (.var 2) (.cons (.var 14) .nil))))) (.cons (.expr (.mutV .append 13 (.cons (.blt .tuple (.comp (.one 10) .seq (.cons (.var 8) .nil) .nil (.tup (.cons (.var 10) (.cons (.idxV 14 (.var 10)) .nil))))) .nil))) .nil) .nil) .nil))))) (.cons (.ret (.var 13)) .nil))))))))))) }
def b46 : Df := { np := 3, ns := 5, fr := false, body := (.cons (.loop (.one 3) .range1 (.cons (.blt .len (.var 0)) .nil) (.cons (.ite (.cmp .ne (.var 3) (.var 1)) (.cons (.setV 4 (.call 45 (.cons (.idx (.var 0) (.var 1)) (.cons (.var 2) (.cons (.idx (.var 0) (.var 3)) .nil))))) (.cons (.ite (.cmp .gt (.blt .len (.var 4)) (.cst (.int 0))) (.cons (.ret (.tup (.cons (.var 3) (.cons (.idx (.var 4) (.cst (.int 0))) .nil)))) .nil) .nil) .nil)) .nil) .nil)) (.cons (.ret (.cst .non)) .nil)) }
def b47 : Df := { np := 5, ns := 8, fr := false, body := (.cons (.setV 5 (.comp (.one 6) .range1 (.cons (.bin .add (.cst (.int 1)) (.call 25 (.cons (.var 0) (.cons (.var 4) .nil)))) .nil) .nil (.tup (.cons (.cst (.str "yes")) (.cons (.call 34 (.cons (.var 0) (.cons (.var 1) (.cons (.var 2) (.cons (.var 3) .nil))))) .nil))))) (.cons (.setV 7 (.slc (.call 37 (.cons (.var 0) (.cons (.var 5) (.cons (.var 1) (.cons (.var 3) (.cons (.lst (.cons (.cst (.str "drop")) (.cons (.cst (.str "make")) (.cons (.cst (.str "stand")) (.cons (.cst (.str "drop")) (.cons (.cst (.str "halt")) .nil)))))) .nil)))))) (.cst .non) (.un .part (.cst (.int 3))))) (.cons (.ret (.tup (.cons (.call 25 (.cons (.var 0) (.cons (.cst (.int 3)) .nil))) (.cons (.blt .tuple (.var 5)) (.cons (.var 7) .nil))))) .nil))) }
def b48 : Df := { np := 5, ns := 11, fr := false, body := (.cons (.setO 5 .dct0) (.cons (.loop (.one 6) .seq (.cons (.call 36 (.cons (.idx (.var 1) (.cst (.int 1))) .nil)) .nil) (.cons (.item 5 (.var 6) (.call 33 (.cons (.var 0) (.cons (.var 3) (.cons (.var 4) .nil))))) .nil)) (.cons (.setO 7 (.comp (.one 8) .seq (.cons (.call 38 (.cons (.var 1) .nil)) .nil) .nil (.tup (.cons (.cst (.str "yes")) (.cons (.call 42 (.cons (.var 8) (.cons (.var 5) .nil))) .nil))))) (.cons (.setO 9 (.lst .nil)) (.cons (.loop (.one 10) .seq (.cons (.idx (.var 1) (.cst (.int 2))) .nil) (.cons (.ite (.cmp .inn (.idx (.var 10) (.cst (.int 0))) (.tup (.cons (.cst (.str "make")) (.cons (.cst (.str "stand")) .nil)))) (.cons (.setV 10 (.tup (.cons (.call 26 (.cons (.var 0) (.cons (.lst (.cons (.cst (.str "make")) (.cons (.cst (.str "stand")) .nil))) .nil))) (.cons (.call 42 (.cons (.idx (.var 10) (.cst (.int 1))) (.cons (.var 5) .nil))) .nil)))) .nil) .nil) (.cons (.expr (.mutV .append 9 (.cons (.var 10) .nil))) .nil))) (.cons (.ite (.cmp .eq (.call 25 (.cons (.var 0) (.cons (.cst (.int 2)) .nil))) (.cst (.int 0))) (.cons (.expr (.mutV .append 7 (.cons (.tup (.cons (.cst (.str "yes")) (.cons (.call 34 (.cons (.var 0) (.cons (.var 2) (.cons (.var 3) (.cons (.var 4) .nil))))) .nil))) .nil))) .nil) .nil) (.cons (.ret (.tup (.cons (.cst (.int 0)) (.cons (.bltV .tuple 7) (.cons (.bltV .tuple 9) .nil))))) .nil))))))) }
def b49 : Df := { np := 4, ns := 9, fr := false, body := (.cons (.setV 4 (.call 45 (.cons (.var 1) (.cons (.var 2) (.cons (.var 3) .nil))))) (.cons (.ite (.lnot (.truth (.call 27 (.cons (.call 19 (.cons (.var 1) (.cons (.var 2) (.cons (.var 3) .nil)))) (.cons (.idx (.bin .add (.var 4) (.lst (.cons (.cst .non) .nil))) (.cst (.int 0))) .nil))))) (.cons (.ret (.cst (.bl false))) .nil) .nil) (.cons (.loop (.one 5) .seq (.cons (.bin .add (.slc (.var 4) (.cst .non) (.un .part (.cst (.int 3)))) (.slc (.var 4) (.un .part (.un .neg (.cst (.int 1)))) (.cst .non))) .nil) (.cons (.ite (.cmp .isn (.call 23 (.cons (.var 1) (.cons (.var 2) (.cons (.var 3) (.cons (.var 5) .nil))))) (.cst (.bl true))) (.cons (.ret (.cst (.bl false))) .nil) .nil) .nil)) (.cons (.setV 6 (.call 44 (.cons (.var 3) .nil))) (.cons (.setV 6 (.blt .tuple (.comp (.one 7) .seq (.cons (.blt .sorted (.var 6)) .nil) .nil (.tup (.cons (.var 7) (.cons (.idx (.var 6) (.var 7)) .nil)))))) (.cons (.loop (.one 8) .seq (.cons (.bin .add (.lst (.cons (.var 6) (.cons (.tup .nil) (.cons (.call 39 (.cons (.var 0) (.cons (.var 6) .nil))) .nil)))) (.comp (.one 5) .seq (.cons (.slc (.var 4) (.cst .non) (.un .part (.cst (.int 2)))) .nil) .nil (.call 39 (.cons (.var 0) (.cons (.var 5) .nil))))) .nil) (.cons (.ite (.lnot (.truth (.call 27 (.cons (.call 23 (.cons (.var 1) (.cons (.var 2) (.cons (.var 3) (.cons (.var 8) .nil))))) (.cons (.cmp .inn (.var 8) (.var 4)) .nil))))) (.cons (.ret (.cst (.bl false))) .nil) .nil) .nil)) (.cons (.ret (.cst (.bl true))) .nil))))))) }
def b50 : Df := { np := 1, ns := 15, fr := false, body := (.cons (.setR 1 (.call 24 (.cons (.var 0) (.cons (.cst (.int 600)) .nil)))) (.cons (.loop (.one 2) .range1 (.cons (.cst (.int 3)) .nil) (.cons (.setV 3 (.call 31 (.cons (.var 1) (.cons (.cst (.int 7)) .nil)))) (.cons (.setV 4 (.lst (.cons (.tup (.cons (.idx (.var 3) (.cst (.int 0))) (.cons (.cst (.int 1)) .nil))) (.cons (.tup (.cons (.idx (.var 3) (.cst (.int 1))) (.cons (.call 26 (.cons (.var 1) (.cons (.lst (.cons (.cst (.int 2)) (.cons (.cst (.int 1)) (.cons (.cst (.int 0)) .nil)))) .nil))) .nil))) .nil)))) (.cons (.setV 5 (.slc (.var 3) (.un .part (.cst (.int 1))) (.un .part (.bin .add (.cst (.int 2)) (.call 25 (.cons (.var 1) (.cons (.cst (.int 3)) .nil))))))) (.cons (.setV 6 (.call 40 (.cons (.var 1) (.cons (.idx (.var 3) (.cst (.int 5))) (.cons (.bin .add (.cst (.int 1)) (.call 25 (.cons (.var 1) (.cons (.cst (.int 2)) .nil)))) .nil))))) (.cons (.setO 7 (.lst (.cons (.call 47 (.cons (.var 1) (.cons (.var 4) (.cons (.var 5) (.cons (.var 6) (.cons (.cst (.int 3)) .nil)))))) .nil))) (.cons (.expr (.mutV .append 7 (.cons (.call 48 (.cons (.var 1) (.cons (.idxV 7 (.cst (.int 0))) (.cons (.var 4) (.cons (.var 5) (.cons (.var 6) .nil)))))) .nil))) (.cons (.expr (.mutV .append 7 (.cons (.call 47 (.cons (.var 1) (.cons (.var 4) (.cons (.slc (.var 3) (.un .part (.cst (.int 4))) (.un .part (.cst (.int 6)))) (.cons (.var 6) (.cons (.cst (.int 2)) .nil)))))) .nil))) (.cons (.setO 7 (.nb (.blt .tuple (.call 28 (.cons (.var 1) (.cons (.var 7) .nil)))))) (.cons (.loop (.one 8) .range1 (.cons (.bltV .len 7) .nil) (.cons (.setO 9 (.lst .nil)) (.cons (.loop (.one 10) .range1 (.cons (.blt .len (.idx (.idxV 7 (.var 8)) (.cst (.int 2)))) .nil) (.cons (.setV 11 (.call 46 (.cons (.var 7) (.cons (.var 8) (.cons (.var 10) .nil))))) (.cons (.expr (.mutV .append 9 (.cons (.cmp .isn (.var 11) (.cst .non)) .nil))) (.cons (.ite (.lnot (.truth (.call 27 (.cons (.call 20 (.cons (.var 7) (.cons (.var 8) (.cons (.var 10) .nil)))) (.cons (.var 11) .nil))))) (.cons (.ret (.cst (.bl false))) .nil) .nil) (.cons (.ite (.lnot (.truth (.call 49 (.cons (.var 1) (.cons (.idxV 7 (.var 8)) (.cons (.var 10) (.cons (.call 26 (.cons (.var 1) (.cons (.var 7) .nil))) .nil))))))) (.cons (.ret (.cst (.bl false))) .nil) .nil) .nil))))) (.cons (.ite (.lnot (.truth (.call 27 (.cons (.call 21 (.cons (.var 7) (.cons (.var 8) .nil))) (.cons (.cmpV .notin (.cst (.bl false)) 9) .nil))))) (.cons (.ret (.cst (.bl false))) .nil) .nil) .nil)))) .nil)))))))))) (.cons (.setV 12 (.tup (.cons (.cst (.int 0)) (.cons (.tup (.cons (.tup (.cons (.cst (.str "yes")) (.cons (.tup (.cons (.cst (.str "p")) (.cons (.tup (.cons (.tup (.cons (.cst (.str "var")) (.cons (.cst (.str "x")) .nil))) (.cons (.tup (.cons (.cst (.str "var")) (.cons (.cst (.str "y")) .nil))) .nil))) .nil))) .nil))) .nil)) (.cons (.tup (.cons (.tup (.cons (.cst (.str "drop")) (.cons (.cst (.int 0)) .nil))) (.cons (.tup (.cons (.cst (.str "make")) (.cons (.tup (.cons (.cst (.str "q")) (.cons (.tup (.cons (.tup (.cons (.cst (.str "var")) (.cons (.cst (.str "y")) .nil))) .nil)) .nil))) .nil))) .nil))) .nil))))) (.cons (.setV 13 (.tup (.cons (.tup (.cons (.cst (.str "stand")) (.cons (.tup (.cons (.cst (.str "q")) (.cons (.tup (.cons (.cst (.int 3)) .nil)) .nil))) .nil))) (.cons (.tup (.cons (.cst (.str "halt")) .nil)) .nil)))) (.cons (.setV 14 (.tup (.cons (.cst (.int 0)) (.cons (.tup (.cons (.tup (.cons (.cst (.str "yes")) (.cons (.tup (.cons (.cst (.str "p")) (.cons (.tup (.cons (.tup (.cons (.cst (.str "var")) (.cons (.cst (.str "z")) .nil))) (.cons (.cst (.int 3)) .nil))) .nil))) .nil))) (.cons (.tup (.cons (.cst (.str "yes")) (.cons (.tup (.cons (.cst (.str "p")) (.cons (.tup (.cons (.cst (.int 3)) (.cons (.cst (.int 3)) .nil))) .nil))) .nil))) .nil))) (.cons (.var 13) .nil))))) (.cons (.ite (.lor (.cmp .ne (.call 19 (.cons (.var 14) (.cons (.cst (.int 0)) (.cons (.var 12) .nil)))) (.tup (.cons (.tup (.cons (.cst (.str "x")) (.cons (.cst (.int 3)) .nil))) (.cons (.tup (.cons (.cst (.str "y")) (.cons (.cst (.int 3)) .nil))) .nil)))) (.cmp .isn (.call 19 (.cons (.var 14) (.cons (.cst (.int 1)) (.cons (.var 12) .nil)))) (.cst .non))) (.cons (.ret (.cst (.bl false))) .nil) .nil) (.cons (.ite (.cmp .isn (.call 23 (.cons (.var 14) (.cons (.cst (.int 0)) (.cons (.var 12) (.cons (.tup (.cons (.tup (.cons (.cst (.str "x")) (.cons (.tup (.cons (.cst (.str "var")) (.cons (.cst (.str "z")) .nil))) .nil))) (.cons (.tup (.cons (.cst (.str "y")) (.cons (.cst (.int 3)) .nil))) .nil))) .nil))))) (.cst (.bl true))) (.cons (.ret (.cst (.bl false))) .nil) .nil) (.cons (.ite (.cmp .ne (.call 20 (.cons (.tup (.cons (.var 14) (.cons (.var 12) .nil))) (.cons (.cst (.int 0)) (.cons (.cst (.int 0)) .nil)))) (.tup (.cons (.cst (.int 1)) (.cons (.tup (.cons (.tup (.cons (.cst (.str "x")) (.cons (.cst (.int 3)) .nil))) (.cons (.tup (.cons (.cst (.str "y")) (.cons (.cst (.int 3)) .nil))) .nil))) .nil)))) (.cons (.ret (.cst (.bl false))) .nil) .nil) (.cons (.ret (.cmp .is (.call 21 (.cons (.tup (.cons (.var 14) (.cons (.var 12) .nil))) (.cons (.cst (.int 0)) .nil))) (.cst (.bl false)))) .nil))))))))) }
def e0 : Ent := { x := "value_key", ps := ["value"], N := ["value"], sc := defScope (top 1), args := defArgs (top 1), body := defBody (top 1), df := b0 }
def e1 : Ent := { x := "is_variable", ps := ["term"], N := ["term"], sc := defScope (top 3), args := defArgs (top 3), body := defBody (top 3), df := b1 }
def e2 : Ent := { x := "variables_of_terms", ps := ["terms"], N := ["terms", "told", "term"], sc := defScope (top 4), args := defArgs (top 4), body := defBody (top 4), df := b2 }
def e3 : Ent := { x := "yes_patterns", ps := ["rule"], N := ["rule", "condition"], sc := defScope (top 6), args := defArgs (top 6), body := defBody (top 6), df := b3 }
def e4 : Ent := { x := "pattern_of_deed", ps := ["deed"], N := ["deed"], sc := defScope (top 7), args := defArgs (top 7), body := defBody (top 7), df := b4 }
def e5 : Ent := { x := "is_number", ps := ["part"], N := ["part"], sc := defScope (top 10), args := defArgs (top 10), body := defBody (top 10), df := b5 }
def e6 : Ent := { x := "is_word", ps := ["part"], N := ["part", "letter"], sc := defScope (top 11), args := defArgs (top 11), body := defBody (top 11), df := b6 }
def e7 : Ent := { x := "is_value", ps := ["part"], N := ["part"], sc := defScope (top 12), args := defArgs (top 12), body := defBody (top 12), df := b7 }
def e8 : Ent := { x := "is_row_of", ps := ["part", "size"], N := ["part", "size"], sc := defScope (top 13), args := defArgs (top 13), body := defBody (top 13), df := b8 }
def e9 : Ent := { x := "rule_words", ps := ["rule"], N := ["rule", "_", "terms", "term"], sc := defScope (top 15), args := defArgs (top 15), body := defBody (top 15), df := b9 }
def e10 : Ent := { x := "term_key", ps := ["term"], N := ["term"], sc := defScope (top 17), args := defArgs (top 17), body := defBody (top 17), df := b10 }
def e11 : Ent := { x := "named_pattern", ps := ["pattern", "naming"], N := ["pattern", "naming", "kind", "terms", "term"], sc := defScope (top 18), args := defArgs (top 18), body := defBody (top 18), df := b11 }
def e12 : Ent := { x := "naming_behind", ps := ["pattern", "other", "naming"], N := ["pattern", "other", "naming", "told", "term", "becomes"], sc := defScope (top 19), args := defArgs (top 19), body := defBody (top 19), df := b12 }
def e13 : Ent := { x := "namings_of", ps := ["plain", "rule"], N := ["plain", "rule", "told", "pattern", "longer", "naming", "other"], sc := defScope (top 20), args := defArgs (top 20), body := defBody (top 20), df := b13 }
def e14 : Ent := { x := "deed_by", ps := ["rule", "deed", "naming"], N := ["rule", "deed", "naming"], sc := defScope (top 21), args := defArgs (top 21), body := defBody (top 21), df := b14 }
def e15 : Ent := { x := "own_naming", ps := ["rule"], N := ["rule", "word"], sc := defScope (top 22), args := defArgs (top 22), body := defBody (top 22), df := b15 }
def e16 : Ent := { x := "covers_deed", ps := ["plain", "naming", "rule", "deed"], N := ["plain", "naming", "rule", "deed", "sought", "one"], sc := defScope (top 23), args := defArgs (top 23), body := defBody (top 23), df := b16 }
def e17 : Ent := { x := "told_naming", ps := ["naming"], N := ["naming", "word"], sc := defScope (top 24), args := defArgs (top 24), body := defBody (top 24), df := b17 }
def e18 : Ent := { x := "naming_key", ps := ["told"], N := ["told", "_", "term"], sc := defScope (top 25), args := defArgs (top 25), body := defBody (top 25), df := b18 }
def e19 : Ent := { x := "naming_for", ps := ["rule", "deed", "other"], N := ["rule", "deed", "other", "told", "naming"], sc := defScope (top 26), args := defArgs (top 26), body := defBody (top 26), df := b19 }
def e20 : Ent := { x := "covering_rule", ps := ["rules", "index", "deed"], N := ["rules", "index", "deed", "place", "other", "naming"], sc := defScope (top 27), args := defArgs (top 27), body := defBody (top 27), df := b20 }
def e21 : Ent := { x := "is_needless_plain", ps := ["rules", "index"], N := ["rules", "index", "deed"], sc := defScope (top 28), args := defArgs (top 28), body := defBody (top 28), df := b21 }
def e22 : Ent := { x := "is_term", ps := ["part"], N := ["part"], sc := defScope (top 29), args := defArgs (top 29), body := defBody (top 29), df := b22 }
def e23 : Ent := { x := "judge_naming", ps := ["rule", "deed", "other", "naming"], N := ["rule", "deed", "other", "naming", "words", "pair", "word", "known", "term", "patterns", "pattern"], sc := defScope (top 30), args := defArgs (top 30), body := defBody (top 30), df := b23 }
def e24 : Ent := { x := "_law_draws", ps := ["script", "many"], N := ["script", "many", "cells", "cell", "left", "draws", "k", "place", "mixed"], sc := defScope (top 32), args := defArgs (top 32), body := defBody (top 32), df := b24 }
def e25 : Ent := { x := "_law_take", ps := ["draws", "many"], N := ["draws", "many"], sc := defScope (top 33), args := defArgs (top 33), body := defBody (top 33), df := b25 }
def e26 : Ent := { x := "_law_pick", ps := ["draws", "row"], N := ["draws", "row"], sc := defScope (top 34), args := defArgs (top 34), body := defBody (top 34), df := b26 }
def e27 : Ent := { x := "_law_same", ps := ["actual", "due"], N := ["actual", "due", "k"], sc := defScope (top 35), args := defArgs (top 35), body := defBody (top 35), df := b27 }
def e28 : Ent := { x := "_law_shuffled", ps := ["draws", "row"], N := ["draws", "row", "left", "told", "k"], sc := defScope (top 36), args := defArgs (top 36), body := defBody (top 36), df := b28 }
def e29 : Ent := { x := "_law_is_int", ps := ["thing"], N := ["thing"], sc := defScope (top 37), args := defArgs (top 37), body := defBody (top 37), df := b29 }
def e30 : Ent := { x := "_law_put", ps := ["row", "k", "thing"], N := ["row", "k", "thing"], sc := defScope (top 38), args := defArgs (top 38), body := defBody (top 38), df := b30 }
def e31 : Ent := { x := "_law_words", ps := ["draws", "many"], N := ["draws", "many", "words", "k", "size", "word", "j", "other"], sc := defScope (top 39), args := defArgs (top 39), body := defBody (top 39), df := b31 }
def e32 : Ent := { x := "_law_rank", ps := ["values"], N := ["values", "told", "value"], sc := defScope (top 40), args := defArgs (top 40), body := defBody (top 40), df := b32 }
def e33 : Ent := { x := "_law_term", ps := ["draws", "names", "values"], N := ["draws", "names", "values"], sc := defScope (top 41), args := defArgs (top 41), body := defBody (top 41), df := b33 }
def e34 : Ent := { x := "_law_pattern", ps := ["draws", "kinds", "names", "values"], N := ["draws", "kinds", "names", "values", "kind", "many", "k"], sc := defScope (top 42), args := defArgs (top 42), body := defBody (top 42), df := b34 }
def e35 : Ent := { x := "_law_names_of", ps := ["patterns"], N := ["patterns", "found", "pattern", "term"], sc := defScope (top 43), args := defArgs (top 43), body := defBody (top 43), df := b35 }
def e36 : Ent := { x := "_law_bound_by", ps := ["conditions"], N := ["conditions", "condition"], sc := defScope (top 44), args := defArgs (top 44), body := defBody (top 44), df := b36 }
def e37 : Ent := { x := "_law_deeds", ps := ["draws", "conditions", "kinds", "values", "words"], N := ["draws", "conditions", "kinds", "values", "words", "bound", "many", "condition", "dropped", "told", "k", "word", "i", "j"], sc := defScope (top 45), args := defArgs (top 45), body := defBody (top 45), df := b37 }
def e38 : Ent := { x := "_law_yes_patterns", ps := ["rule"], N := ["rule", "condition"], sc := defScope (top 46), args := defArgs (top 46), body := defBody (top 46), df := b38 }
def e39 : Ent := { x := "_law_spoilt", ps := ["draws", "thing"], N := ["draws", "thing", "path", "here", "turn", "k", "new", "whole"], sc := defScope (top 47), args := defArgs (top 47), body := defBody (top 47), df := b39 }
def e40 : Ent := { x := "_law_few_values", ps := ["draws", "word", "many"], N := ["draws", "word", "many", "first", "second"], sc := defScope (top 48), args := defArgs (top 48), body := defBody (top 48), df := b40 }
def e41 : Ent := { x := "_law_term_rank", ps := ["term"], N := ["term"], sc := defScope (top 49), args := defArgs (top 49), body := defBody (top 49), df := b41 }
def e42 : Ent := { x := "_law_put_terms", ps := ["pattern", "table"], N := ["pattern", "table", "terms", "term"], sc := defScope (top 50), args := defArgs (top 50), body := defBody (top 50), df := b42 }
def e43 : Ent := { x := "_law_put_deeds", ps := ["rule", "table"], N := ["rule", "table", "yes", "told", "deed"], sc := defScope (top 51), args := defArgs (top 51), body := defBody (top 51), df := b43 }
def e44 : Ent := { x := "_law_as_itself", ps := ["rule"], N := ["rule", "table", "name"], sc := defScope (top 52), args := defArgs (top 52), body := defBody (top 52), df := b44 }
def e45 : Ent := { x := "_law_namings", ps := ["rule", "deed", "other"], N := ["rule", "deed", "other", "due", "yes", "terms", "pattern", "term", "names", "found", "name", "grown", "row", "told", "table", "k", "inside"], sc := defScope (top 53), args := defArgs (top 53), body := defBody (top 53), df := b45 }
def e46 : Ent := { x := "_law_covering", ps := ["rules", "index", "deed"], N := ["rules", "index", "deed", "k", "some"], sc := defScope (top 54), args := defArgs (top 54), body := defBody (top 54), df := b46 }
def e47 : Ent := { x := "_law_plain_rule", ps := ["draws", "kinds", "names", "values", "many"], N := ["draws", "kinds", "names", "values", "many", "some", "k", "deeds"], sc := defScope (top 55), args := defArgs (top 55), body := defBody (top 55), df := b47 }
def e48 : Ent := { x := "_law_special", ps := ["draws", "rule", "kinds", "names", "values"], N := ["draws", "rule", "kinds", "names", "values", "table", "name", "conditions", "pattern", "deeds", "deed"], sc := defScope (top 56), args := defArgs (top 56), body := defBody (top 56), df := b48 }
def e49 : Ent := { x := "_law_goes", ps := ["draws", "rule", "deed", "other"], N := ["draws", "rule", "deed", "other", "right", "naming", "base", "name", "thing"], sc := defScope (top 57), args := defArgs (top 57), body := defBody (top 57), df := b49 }
def e50 : Ent := { x := "law", ps := ["script"], N := ["script", "draws", "turn", "drawn", "kinds", "names", "values", "rules", "k", "covered", "deed", "due", "wide", "deeds", "near"], sc := defScope (top 58), args := defArgs (top 58), body := defBody (top 58), df := b50 }
def glob : Glob := { ents := [e0, e1, e2, e3, e4, e5, e6, e7, e8, e9, e10, e11, e12, e13, e14, e15, e16, e17, e18, e19, e20, e21, e22, e23, e24, e25, e26, e27, e28, e29, e30, e31, e32, e33, e34, e35, e36, e37, e38, e39, e40, e41, e42, e43, e44, e45, e46, e47, e48, e49, e50], free := ["all", "bool", "dict", "enumerate", "int", "isinstance", "len", "list", "max", "min", "range", "set", "sorted", "str", "tuple", "zip"], con := [("LETTERS", "abcdefghijklmnopqrstuvwxyz")] }
abbrev tb : Tab := [b0, b1, b2, b3, b4, b5, b6, b7, b8, b9, b10, b11, b12, b13, b14, b15, b16, b17, b18, b19, b20, b21, b22, b23, b24, b25, b26, b27, b28, b29, b30, b31, b32, b33, b34, b35, b36, b37, b38, b39, b40, b41, b42, b43, b44, b45, b46, b47, b48, b49, b50]
end K87

-- K87A
set_option autoImplicit true
set_option Elab.async false
set_option linter.all false
set_option maxRecDepth 100000
set_option maxHeartbeats 400000
namespace K87
open PySem PyProof.Rows Ev
variable {n : Nat} {st : List D}
@[simp] theorem is_variable_spec (t : Tm) : evF tb (n + 1) 1 [t.d] st = some (.bl t.isVar, st) := by
  rw [evF_run (d := b1) rfl rfl (by decide)]
  cases t <;> simp [b1, Tm.d, Tm.isVar]
theorem variables_of_terms_spec (l : List Tm) (hl : l.length ≤ 1000) : evF tb (n + 2) 2 [.lst (l.map Tm.d)] st = some (.lst ((varsOf l).map .str), st) := by
  rw [evF_run (d := b2) rfl rfl (by decide)]
  apply eq_ok
  simp [b2]
  refine ok_mono (loopP Tm.d l vstep [] (fun a s => ∃ z, s = ⟨[.v (.lst (l.map Tm.d)), .o (.lst (a.map .str)), z], st⟩) (fun i a => a.length ≤ i) ?_ ?_ ?_ ?_) ?_
  · simp
  · simp
  · intro i b x hx hi
    cases x <;> simp only [vstep] <;> (try split) <;> (try simp) <;> omega
  · rintro i b x s2 hx hi ⟨z, rfl⟩
    have hl' := (List.getElem?_eq_some_iff.mp hx).1
    have hb : b.length < 16777216 := by omega
    simp
    cases x with
    | var y => by_cases hy : y ∈ b <;> simp [Tm.isVar, Tm.d, vstep, hb, hy]
    | _ => simp [Tm.isVar, vstep]
  · rintro ⟨fl, s⟩ ⟨h1, ⟨z, h2⟩, h3⟩
    simp only at h1 h2
    subst h1 h2
    simp [varsOf]
@[simp] theorem yes_patterns_spec (r : Rl) (hl : r.cs.length ≤ 1000) : evF tb (n + 1) 3 [r.d] st = some (.lst (r.ps.map Pat.d), st) := by
  rw [evF_run (d := b3) rfl rfl (by decide)]
  simp [b3]
  rw [compP Cn.d r.cs (fun c => c.yes?.isSome) Cn.pd (by simp) (by simp) (by simp; omega) ?_]
  · simp [ps_map]
  · intro c hc
    cases c <;> simp [Cn.d, Cn.yes?, Cn.pd]
@[simp] theorem pattern_of_make (p : Pat) : evF tb (n + 1) 4 [(Dd.make p).d] st = some (p.d, st) := by
  rw [evF_run (d := b4) rfl rfl (by decide)]
  simp [b4, Dd.d]
@[simp] theorem pattern_of_stand (p : Pat) : evF tb (n + 1) 4 [(Dd.stand p).d] st = some (p.d, st) := by
  rw [evF_run (d := b4) rfl rfl (by decide)]
  simp [b4, Dd.d]
theorem is_number_spec {m : Nat} (d : D) (hd : D.gd m d = true) : evF tb (n + 1) 5 [d] st = some (.bl (isNum d), st) := by
  rw [evF_run (d := b5) rfl rfl (by decide)]
  cases d <;> cases m <;> simp [D.gd] at hd <;> simp [b5, isNum]
theorem is_word_spec {m : Nat} (d : D) (hd : D.gd m d = true) (hl : ∀ x, d = .str x → x.length ≤ 100000) : evF tb (n + 1) 6 [d] st = some (.bl (isWord d), st) := by
  rw [evF_run (d := b6) rfl rfl (by decide)]
  cases d with
  | str x =>
    have h2 := hl x rfl
    have h3 : x.cps.toList.length = x.length := by simp [Str.length]
    by_cases h0 : 0 < x.length
    · simp [b6, isWord, b_lenS, show x.length ≤ 16777216 by omega, h0]
      rw [compM (fun c => .str ⟨#[c]⟩) x.cps.toList (fun c => .bl (decide (c ∈ letters))) (by simp [itemsD]) (by simp) (by rw [h3]; simp; omega) ?_]
      · simp [wordB, h0, Function.comp_def]
      · intro c hc
        simp [cmpD, inD, strIn, letters]
    · simp [b6, isWord, b_lenS, show x.length ≤ 16777216 by omega, h0, wordB]
  | _ => cases m <;> simp [D.gd] at hd <;> simp [b6, isWord]
theorem is_row_of_spec {m : Nat} (d : D) (hd : D.gd m d = true) (k : Nat) : evF tb (n + 1) 8 [d, .int k] st = some (.bl (isRow k d), st) := by
  rw [evF_run (d := b8) rfl rfl (by decide)]
  cases d <;> cases m <;> simp [D.gd] at hd <;> simp [b8, isRow]
theorem is_row2_spec {m : Nat} (d : D) (hd : D.gd m d = true) : evF tb (n + 1) 8 [d, .int 2] st = some (.bl (isRow 2 d), st) := is_row_of_spec d hd 2
end K87

-- K87B
set_option autoImplicit true
set_option Elab.async false
set_option linter.all false
set_option maxRecDepth 100000
set_option maxHeartbeats 400000
namespace K87
open PySem PyProof.Rows Ev
variable {n : Nat} {st : List D}
theorem is_value_spec {m : Nat} (d : D) (hd : D.gd m d = true) (hl : ∀ x, d = .str x → x.length ≤ 100000) : evF tb (n + 2) 7 [d] st = some (.bl (isVal d), st) := by
  rw [evF_run (d := b7) rfl rfl (by decide)]
  simp [b7, is_number_spec d hd, is_word_spec d hd hl, isVal]
  cases isNum d <;> simp
theorem is_term_spec {m : Nat} (hm : m ≤ 60) (d : D) (hd : D.gd m d = true) (hl : ∀ x, (d = .str x ∨ ∃ y, d = .tup [y, .str x]) → x.length ≤ 100000) : evF tb (n + 3) 22 [d] st = some (.bl (isTerm d), st) := by
  rw [evF_run (d := b22) rfl rfl (by decide)]
  have ev := is_value_spec (n := n) (st := st) d hd (fun x h => hl x (.inl h))
  have er := is_row2_spec (n := n + 1) (st := st) d hd
  simp [b22, er]
  cases d with
  | tup xs =>
    match xs with
    | [a, b] =>
      cases m with
      | zero => simp [D.gd] at hd
      | succ m =>
        simp only [D.gd, D.gds, Bool.and_eq_true, Bool.and_true] at hd
        have e1 := c_eq (a := a) (b := .str "var") hd.1 (m := 0) (by simp [D.gd]) (by omega) (by omega)
        simp [isRow, e1, is_word_spec b hd.2 (fun x h => hl x (.inr ⟨a, by rw [h]⟩))]
        cases a <;> (try (simp [isTerm]; done))
        rename_i y
        by_cases h : y = "var" <;> simp [h] <;> cases b <;> simp [isTerm, isWord, h]
    | [] => simp [isRow, isTerm, isVal, isNum, isWord, ev]
    | [a] => simp [isRow, isTerm, isVal, isNum, isWord, ev]
    | a :: b :: c :: r => simp [isRow, isTerm, isVal, isNum, isWord, ev]
  | _ => simp [isRow, isTerm, isVal, isNum, isWord, ev]
/-! ### words of a rule -/
@[simp] theorem rule_words_spec (r : Rl) (h1 : r.cs.length ≤ 1000) (h2 : r.tms.length < 64) : evF tb (n + 3) 9 [r.d] st = some (.lst ((rwords r).map .str), st) := by
  rw [evF_run (d := b9) rfl rfl (by decide)]
  have h3 := ps_len r
  have h4 := varsOf_len r.tms
  have h5 : (varsOf r.tms).length < 64 := by omega
  have h6 : (r.ps.flatMap fun x => x.ts.map fun t => t.d) = r.tms.map Tm.d := by simp [Rl.tms, List.map_flatMap]
  simp [b9]
  rw [comp2P Pat.d Tm.d r.ps Pat.ts (fun _ t => t.d) (by simp [h1]) (by simp) (by rw [h6]; simp; omega) ?_]
  · simp only [h6]
    simp [variables_of_terms_spec r.tms (by omega), h5, rwords]
  · intro p hp
    simp [Pat.d]
@[simp] theorem term_key_spec (t : Tm) : evF tb (n + 2) 10 [t.d] st = some (tkey t, st) := by
  have e : ∀ i : Int, evF tb (n + 1) 0 [.int i] st = some (.tup [.int 0, .int i, .str ""], st) := fun i => by
    rw [evF_run (d := b0) rfl rfl (by decide)]
    simp [b0]
  have e2 : ∀ x : Str, evF tb (n + 1) 0 [.str x] st = some (.tup [.int 1, .int 0, .str x], st) := fun i => by
    rw [evF_run (d := b0) rfl rfl (by decide)]
    simp [b0]
  rw [evF_run (d := b10) rfl rfl (by decide)]
  simp [b10]
  cases t <;> simp [Tm.isVar, Tm.d, tkey, e, e2]
@[simp] theorem named_pattern_spec (p : Pat) (σ : Nm) (hl : p.ts.length ≤ 1000) (h : ∀ x ∈ p.names, hasK σ x = true) : evF tb (n + 2) 11 [p.d, nmD σ] st = some ((p.by σ).d, st) := by
  rw [evF_run (d := b11) rfl rfl (by decide)]
  simp [b11, Pat.d]
  rw [compM Tm.d p.ts (fun t => (t.by σ).d) (by simp) (by simp) (by simp; omega) ?_]
  · simp [Pat.by, Function.comp_def]
  · intro t ht
    simp
    cases t with
    | var x =>
      have hx : x ∈ p.names := by
        unfold Pat.names
        exact List.mem_filterMap.mpr ⟨_, ht, rfl⟩
      have := h x hx
      rw [← lks_some] at this
      obtain ⟨v, hv⟩ := Option.isSome_iff_exists.mp this
      simp [Tm.isVar, Tm.d, nmD, dget_dctD, Tm.by, hv]
    | _ => simp [Tm.isVar, Tm.by]
@[simp] theorem naming_behind_spec (p o : Pat) (σ : Nm) (hl : p.ts.length ≤ 1000) (hs : σ.length ≤ 1000) : evF tb (n + 2) 12 [p.d, o.d, nmD σ] st = some (optD nmD (nb p o σ), st) := by
  rw [evF_run (d := b12) rfl rfl (by decide)]
  apply eq_ok
  simp [b12, nb]
  by_cases hk : p.k = o.k
  · by_cases hlen : p.ts.length = o.ts.length
    · simp [hk, hlen, nmD]
      refine ok_mono (loopR (fun q : Tm × Tm => .tup [q.1.d, q.2.d]) (p.ts.zip o.ts) (fun _ => .non) nbStep σ (fun τ s => ∃ a b, s = ⟨[.v p.d, .v o.d, .v (nmD σ), .o (nmD τ), a, b], st⟩) (fun s => s.st = st) (fun i τ => τ.length ≤ 1000 + i) ?_ ?_ ?_ ?_) ?_
      · simp [itemsD, rootOf, nmD, List.zip_map]
      · omega
      · intro i b b' x hx hi hb
        obtain ⟨t, u⟩ := x
        have hp : ∀ z, (put b z u).length ≤ b.length + 1 := by
          intro z
          unfold put; split <;> simp
        cases t with
        | var z =>
          have := hp z
          simp only [nbStep] at hb
          split at hb <;> (try split at hb) <;> simp at hb <;> subst hb <;> omega
        | _ => simp only [nbStep] at hb; split at hb <;> simp at hb; subst hb; omega
      · rintro i τ ⟨t, u⟩ s2 hx hi ⟨a, b, rfl⟩
        have hi' := (List.getElem?_eq_some_iff.mp hx).1
        rw [List.length_zip] at hi'
        have hτ : τ.length < 16777216 := by omega
        cases t with
        | var x =>
          cases hv : lk τ x with
          | none => simp [Tm.isVar, nbStep, hv, nmD, hτ]
          | some v =>
            by_cases hvu : v = u
            · simp [Tm.isVar, nbStep, hv, nmD, hτ, hvu]
            · simp [Tm.isVar, nbStep, hv, nmD, hτ, hvu]
        | int j =>
          simp [Tm.isVar, nbStep]
          by_cases hvu : Tm.int j = u <;> simp [hvu]
        | str j =>
          simp [Tm.isVar, nbStep]
          by_cases hvu : Tm.str j = u <;> simp [hvu]
      · rintro ⟨fl, s⟩ h
        cases hf : (p.ts.zip o.ts).foldlM nbStep σ with
        | ok τ =>
          rw [hf] at h
          obtain ⟨rfl, ⟨a, b, rfl⟩, -⟩ := h
          simp [optD, nmD]
        | error v =>
          rw [hf] at h
          obtain ⟨h1, h2⟩ := h
          simp only at h1 h2
          subst h1 h2
          simp [optD]
    · simp [hk, hlen, optD]
  · simp [hk, optD]
end K87

-- K87C
set_option autoImplicit true
set_option Elab.async false
set_option linter.all false
set_option maxRecDepth 100000
set_option maxHeartbeats 400000
namespace K87
open PySem PyProof.Rows Ev
variable {n : Nat} {st : List D}
theorem nbStep_len {σ τ : Nm} {q : Tm × Tm} (h : nbStep σ q = .ok τ) : τ.length ≤ σ.length + 1 := by
  obtain ⟨t, u⟩ := q
  have hp : ∀ z, (put σ z u).length ≤ σ.length + 1 := by
    intro z
    unfold put; split <;> simp
  cases t with
  | var z =>
    have := hp z
    simp only [nbStep] at h
    split at h <;> (try split at h) <;> simp at h <;> subst h <;> omega
  | _ => simp only [nbStep] at h; split at h <;> simp at h; subst h; omega
theorem nbFold_len : ∀ {l : List (Tm × Tm)} {σ τ : Nm}, l.foldlM nbStep σ = .ok τ → τ.length ≤ σ.length + l.length
  | [], σ, τ, h => by
    simp [pure, Except.pure] at h
    subst h; simp
  | q :: l, σ, τ, h => by
    rw [List.foldlM_cons] at h
    cases h1 : nbStep σ q with
    | error e => rw [h1] at h; cases h
    | ok σ' =>
      rw [h1] at h
      have a := nbStep_len h1
      have b := nbFold_len (l := l) h
      rw [List.length_cons]
      omega
theorem nb_len {p o : Pat} {σ τ : Nm} (h : nb p o σ = some τ) : τ.length ≤ σ.length + p.ts.length := by
  unfold nb at h
  split at h
  · cases hf : (p.ts.zip o.ts).foldlM nbStep σ with
    | ok τ' =>
      rw [hf] at h
      cases h
      have := nbFold_len hf
      rw [List.length_zip] at this
      omega
    | error e => rw [hf] at h; cases h
  · cases h
theorem optD_non (σ : Option Nm) : (optD nmD σ = .non) = (σ = none) := by
  cases σ <;> simp [optD, nmD]
theorem filt_opt (l : List (Option Nm)) : (l.filter fun x => x.isSome).map (optD nmD) = (l.filterMap id).map nmD := by
  induction l with
  | nil => rfl
  | cons a l ih => cases a <;> simp [optD, ih]
@[simp] theorem namings_of_spec (pl r : Rl) (h1 : pl.cs.length ≤ 1000) (h2 : r.cs.length ≤ 1000) (h3 : pl.ps.length ≤ 4) (h4 : r.ps.length ≤ 4) (h5 : ∀ p ∈ pl.ps, p.ts.length ≤ 100) :
    evF tb (n + 3) 13 [pl.d, r.d] st = some (.lst ((nms pl r).map nmD), st) := by
  rw [evF_run (d := b13) rfl rfl (by decide)]
  apply eq_ok
  simp [b13]
  refine ok_mono (loopP Pat.d pl.ps (nms1 r.ps) [[]] (fun a s => ∃ y z, s = ⟨[.v pl.d, .v r.d, .v (.lst (a.map nmD)), y, z, .un, .un], st⟩) (fun i a => a.length ≤ 4 ^ i ∧ ∀ σ ∈ a, σ.length ≤ 100 * i) ?_ ?_ ?_ ?_) ?_
  · simp [h1, nmD, dctD]
  · simp
  · rintro i a p hp ⟨a1, a2⟩
    have hp' := List.mem_of_getElem? hp
    refine ⟨?_, ?_⟩
    · refine Nat.le_trans (List.length_filterMap_le _ _) ?_
      rw [List.length_flatMap]
      have : (a.map fun σ => (r.ps.map fun q => nb p q σ).length).sum ≤ a.length * 4 := by
        clear a1 a2
        induction a with
        | nil => simp
        | cons x a ih =>
          simp only [List.map_cons, List.sum_cons, List.length_map, List.length_cons] at ih ⊢
          omega
      have h6 : 4 ^ (i + 1) = 4 ^ i * 4 := Nat.pow_succ ..
      rw [h6]
      omega
    · intro σ hσ
      obtain ⟨o, ho, he⟩ := List.mem_filterMap.mp hσ
      simp only [id] at he
      subst he
      obtain ⟨τ, hτ, hq⟩ := List.mem_flatMap.mp ho
      obtain ⟨q, hq, he⟩ := List.mem_map.mp hq
      have := nb_len he
      have := a2 τ hτ
      have := h5 p hp'
      omega
  · rintro i a p s2 hp ⟨a1, a2⟩ ⟨y, z, rfl⟩
    have hp' := List.mem_of_getElem? hp
    have hi := (List.getElem?_eq_some_iff.mp hp).1
    have h6 : 4 ^ i ≤ 4 ^ 4 := Nat.pow_le_pow_right (by decide) (by omega)
    have h7 : (a.flatMap fun σ => r.ps.map fun q => optD nmD (nb p q σ)).length ≤ a.length * 4 := by
      rw [List.length_flatMap]
      clear a1 a2
      induction a with
      | nil => simp
      | cons x a ih =>
        simp only [List.map_cons, List.sum_cons, List.length_map, List.length_cons] at ih ⊢
        omega
    simp
    rw [comp2P nmD Pat.d a (fun _ => r.ps) (fun σ q => optD nmD (nb p q σ)) (by simp) (by simp) (by rw [sizeL]; omega) ?_]
    · simp
      have e0 : (a.flatMap fun σ => r.ps.map fun q => optD nmD (nb p q σ)) = (a.flatMap fun σ => r.ps.map fun q => nb p q σ).map (optD nmD) := by simp [List.map_flatMap, Function.comp_def]
      rw [e0] at h7 ⊢
      rw [compP (optD nmD) (a.flatMap fun σ => r.ps.map fun q => nb p q σ) (fun x => x.isSome) (optD nmD) (by simp) (by simp) (by rw [List.length_map] at h7; rw [sizeL]; omega) ?_]
      · rw [filt_opt]
        simp [nms1]
      · intro x hx
        cases x <;> simp [optD, nmD]
    · intro σ hσ
      have := a2 σ hσ
      simp [h2]
      intro q hq
      have := h5 p hp'
      rw [naming_behind_spec p q σ (by omega) (by omega)]
      simp
  · rintro ⟨fl, s⟩ ⟨h1, ⟨y, z, h2⟩, -⟩
    simp only at h1 h2
    subst h1 h2
    simp [nms]
@[simp] theorem deed_by_spec (r : Rl) (dd : Dd) (σ : Nm) (h1 : r.cs.length ≤ 1000) (h2 : ∀ p ∈ r.ps, p.ts.length ≤ 1000) (h3 : dd.okFor r.ps.length (σ.map (·.1))) (h4 : ∀ p ∈ r.ps, p.sub (σ.map (·.1))) (h5 : ∀ p, dd.pat? = some p → p.ts.length ≤ 1000) :
    evF tb (n + 3) 14 [r.d, dd.d, nmD σ] st = some ((dd.sd r.ps σ).d, st) := by
  rw [evF_run (d := b14) rfl rfl (by decide)]
  have hs : ∀ p : Pat, p.sub (σ.map (·.1)) → ∀ x ∈ p.names, hasK σ x = true := fun p hp x hx => (hasK_iff σ x).mpr (hp x hx)
  cases dd with
  | halt => simp [b14, Dd.d, Dd.sd, Sd.d]
  | drop i =>
    have hi : i < r.ps.length := h3
    have e1 : (r.ps.map Pat.d)[i]? = some (r.ps.getD i default).d := by simp [hi]
    have hm : r.ps.getD i default ∈ r.ps := by
      rw [List.getD_eq_getElem?_getD, List.getElem?_eq_getElem hi]
      exact List.getElem_mem hi
    simp [b14, Dd.d, h1, atI_nat e1, -List.getD_eq_getElem?_getD]
    simp [named_pattern_spec _ σ (h2 _ hm) (hs _ (h4 _ hm)), Dd.sd, Sd.d, -List.getD_eq_getElem?_getD]
  | make p =>
    have e := pattern_of_make (n := n + 1) (st := st) p
    have e2 := named_pattern_spec (n := n) (st := st) p σ (h5 p rfl) (hs p h3)
    simp only [Dd.d] at e
    simp [b14, Dd.d, e, e2, Dd.sd, Sd.d]
  | stand p =>
    have e := pattern_of_stand (n := n + 1) (st := st) p
    have e2 := named_pattern_spec (n := n) (st := st) p σ (h5 p rfl) (hs p h3)
    simp only [Dd.d] at e
    simp [b14, Dd.d, e, e2, Dd.sd, Sd.d]
end K87

-- K87Dd
set_option autoImplicit true
set_option Elab.async false
set_option linter.all false
set_option maxRecDepth 100000
set_option maxHeartbeats 400000
namespace K87
open PySem PyProof.Rows Ev
variable {n : Nat} {st : List D}
/-- a rule of bounded size, its deeds over its own words -/
structure RlOk (r : Rl) : Prop where
  cs : r.cs.length ≤ 4
  tm : ∀ p ∈ r.ps, p.ts.length ≤ 2
  ds : ∀ d ∈ r.ds, d.okFor r.ps.length (rwords r) ∧ ∀ p, d.pat? = some p → p.ts.length ≤ 2
  dl : r.ds.length ≤ 4
  wl : (rwords r).length ≤ 3
theorem RlOk.ps {r : Rl} (h : RlOk r) : r.ps.length ≤ 4 := Nat.le_trans (ps_len r) h.cs
theorem flatMap_len {α β : Type} (l : List α) (f : α → List β) (k : Nat) (h : ∀ a ∈ l, (f a).length ≤ k) : (l.flatMap f).length ≤ k * l.length := by
  induction l with
  | nil => simp
  | cons a l ih =>
    have h1 := h a List.mem_cons_self
    have h2 := ih fun b hb => h b (List.mem_cons_of_mem _ hb)
    rw [List.flatMap_cons, List.length_append, List.length_cons, Nat.mul_add]
    omega
theorem RlOk.tms {r : Rl} (h : RlOk r) : r.tms.length ≤ 8 := by
  have a := h.ps
  have b := flatMap_len r.ps Pat.ts 2 h.tm
  show (r.ps.flatMap Pat.ts).length ≤ 8
  omega
theorem RlOk.words {r : Rl} (h : RlOk r) : (rwords r).length ≤ 8 := Nat.le_trans (rwords_len r) h.tms
theorem own_fold (l : List Str) : ∀ a : Nm, l.foldl (fun a x => dput a (D.str x) (.tup [.str "var", .str x])) (dctD Tm.d a) = dctD Tm.d (l.foldl (fun a w => put a w (.var w)) a) := by
  induction l with
  | nil => intro a; rfl
  | cons x l ih =>
    intro a
    rw [List.foldl_cons, List.foldl_cons, ← ih]
    congr 1
    exact dput_dctD Tm.d x (.var x) a
@[simp] theorem own_naming_spec (r : Rl) (h : RlOk r) : evF tb (n + 4) 15 [r.d] st = some (nmD (own r), st) := by
  rw [evF_run (d := b15) rfl rfl (by decide)]
  have h1 := h.cs
  have h2 := h.tms
  have h3 := h.words
  simp [b15]
  rw [dcompP D.str (rwords r) D.str (fun x => .tup [.str "var", .str x]) (by simp [show r.cs.length ≤ 1000 by omega, show r.tms.length < 64 by omega]) (by simp) (by rw [sizeL]; omega) ?_]
  · have := own_fold (rwords r) []
    have e0 : dctD Tm.d [] = [] := rfl
    rw [e0] at this
    simp [nmD, own, this]
  · intro x hx
    simp [keyOk1]
@[simp] theorem told_naming_spec (σ : Nm) (h : σ.length < 64) : evF tb (n + 1) 17 [nmD σ] st = some (toldD (told σ), st) := by
  rw [evF_run (d := b17) rfl rfl (by decide)]
  simp [b17, nmD]
  rw [compM D.str (sortS (σ.map (·.1))) (fun w => prD (w, (lk σ w).getD default)) (by simp [h]) (by simp) (by rw [sortS_len]; simp; omega) ?_]
  · simp [toldD, told, Function.comp_def]
  · intro w hw
    have : w ∈ σ.map (·.1) := (List.Perm.mem_iff (List.mergeSort_perm _ _)).mp hw
    have hs := lks_some σ w
    rw [(hasK_iff σ w).mpr this] at hs
    obtain ⟨v, hv⟩ := Option.isSome_iff_exists.mp hs
    simp [hv, prD]
@[simp] theorem naming_key_spec (t : Nm) (h : t.length ≤ 1000) : evF tb (n + 3) 18 [toldD t] st = some (nkey t, st) := by
  rw [evF_run (d := b18) rfl rfl (by decide)]
  simp [b18, toldD]
  rw [compM prD t (fun p => tkey p.2) (by simp) (by simp) (by rw [sizeL]; omega) ?_]
  · simp [nkey]
  · intro p hp
    simp [prD]
@[simp] theorem covers_deed_spec (pl r : Rl) (σ : Nm) (i : Nat) (hp : RlOk pl) (hr : RlOk r) (hi : i < r.ds.length) (hσ : ∀ w, w ∈ σ.map (·.1) ↔ w ∈ rwords pl) (ho : ∀ w, w ∈ (own r).map (·.1) ↔ w ∈ rwords r)
    (hsp : ∀ p ∈ pl.ps, p.sub (rwords pl)) (hsr : ∀ p ∈ r.ps, p.sub (rwords r)) :
    evF tb (n + 5) 16 [pl.d, nmD σ, r.d, .int i] st = some (.bl (covers pl σ r i), st) := by
  rw [evF_run (d := b16) rfl rfl (by decide)]
  have okm : ∀ {k : Nat} {ws ws' : List Str} {d : Dd}, (∀ w, w ∈ ws' ↔ w ∈ ws) → d.okFor k ws → d.okFor k ws' := by
    intro k ws ws' d hw hd
    cases d with
    | halt => trivial
    | drop i => exact hd
    | make p => exact fun x hx => (hw x).mpr (hd x hx)
    | stand p => exact fun x hx => (hw x).mpr (hd x hx)
  have h1 := hp.cs
  have h2 := hr.cs
  have e1 : (r.ds.map Dd.d)[i]? = some (r.ds.getD i default).d := by simp [hi]
  have hm : r.ds.getD i default ∈ r.ds := by
    rw [List.getD_eq_getElem?_getD, List.getElem?_eq_getElem hi]
    exact List.getElem_mem hi
  have hd := hr.ds _ hm
  have e2 := deed_by_spec (n := n + 1) (st := st) r (r.ds.getD i default) (own r) (by omega) (fun p hq => by have := hr.tm p hq; omega) (okm ho hd.1) (fun p hq x hx => (ho x).mpr (hsr p hq x hx)) (fun p hq => by have := hd.2 p hq; omega)
  have hl := hp.dl
  simp [b16, atI_nat e1, -List.getD_eq_getElem?_getD]
  simp [own_naming_spec r hr, e2, -List.getD_eq_getElem?_getD]
  rw [compM Dd.d pl.ds (fun d => (d.sd pl.ps σ).d) (by simp) (by simp) (by rw [sizeL]; omega) ?_]
  · have e3 : (pl.ds.map fun d => (d.sd pl.ps σ).d) = (pl.ds.map (Dd.sd pl.ps σ)).map Sd.d := by simp
    rw [e3]
    simp [covers, -List.getD_eq_getElem?_getD, -List.map_map, -List.mem_map]
  · intro d hd
    have hd' := hp.ds d hd
    have e := deed_by_spec (n := n + 1) (st := st) pl d σ (by omega) (fun p hq => by have := hp.tm p hq; omega) (okm hσ hd'.1) (fun p hq x hx => (hσ x).mpr (hsp p hq x hx)) (fun p hq => by have := hd'.2 p hq; omega)
    simp [e]
end K87

-- K87E
set_option autoImplicit true
set_option Elab.async false
set_option linter.all false
set_option maxRecDepth 100000
set_option maxHeartbeats 400000
namespace K87
open PySem PyProof.Rows Ev
variable {n : Nat} {st : List D}
theorem toldD_ne (t : Nm) : toldD t ≠ .non := by simp [toldD]
@[simp] theorem naming_for_spec (r pl : Rl) (i : Nat) (hr : RlOk r) (hp : RlOk pl) (hi : i < r.ds.length) : evF tb (n + 6) 19 [r.d, .int i, pl.d] st = some (optD toldD (minO nkey (progN r i pl)), st) := by
  rw [evF_run (d := b19) rfl rfl (by decide)]
  have h1 := hp.cs
  have h2 := hr.cs
  have h3 := hp.words
  have h4 : ∀ σ ∈ nms pl r, σ.length ≤ 8 ∧ ∀ w, w ∈ σ.map (·.1) ↔ w ∈ rwords pl := by
    intro σ hσ
    obtain ⟨f, _, rfl⟩ := (mem_nms pl r σ).mp hσ
    have := varsOf_len pl.tms
    have := hp.tms
    refine ⟨by rw [mk_len]; omega, fun w => ?_⟩
    rw [keys_mk]
    exact mem_sortS.symm
  have h5 : (nms pl r).length ≤ 256 := by
    have hps := hp.ps
    have hps' := hr.ps
    have : ∀ (ps : List Pat) (a : List Nm), (ps.foldl (nms1 r.ps) a).length ≤ a.length * 4 ^ ps.length := by
      intro ps
      induction ps with
      | nil => intro a; simp
      | cons p ps ih =>
        intro a
        have q := ih (nms1 r.ps a p)
        have q2 : (nms1 r.ps a p).length ≤ a.length * 4 := by
          refine Nat.le_trans (List.length_filterMap_le _ _) ?_
          have := flatMap_len a (fun σ => r.ps.map fun q => nb p q σ) 4 (fun _ _ => by rw [List.length_map]; exact hps')
          omega
        rw [List.foldl_cons, List.length_cons, Nat.pow_succ]
        refine Nat.le_trans q ?_
        rw [Nat.mul_comm (4 ^ ps.length) 4, ← Nat.mul_assoc]
        exact Nat.mul_le_mul_right _ q2
    have q := this pl.ps [[]]
    have q2 : 4 ^ pl.ps.length ≤ 4 ^ 4 := Nat.pow_le_pow_right (by decide) hps
    unfold nms
    simp only [List.length_singleton, Nat.one_mul] at q
    omega
  simp [b19]
  rw [compP nmD (nms pl r) (fun σ => covers pl σ r i) (fun σ => toldD (told σ)) (by
    rw [s_cons]
    simp [namings_of_spec pl r (by omega) (by omega) hp.ps hr.ps (fun p hq => by have := hp.tm p hq; omega)]) (by simp) (by rw [sizeL]; omega) ?_]
  · simp
    have e0 : ((nms pl r).filter fun σ => covers pl σ r i).map (fun σ => toldD (told σ)) = (progN r i pl).map toldD := by simp [progN]
    have hl : (progN r i pl).length ≤ 256 := by
      unfold progN
      rw [List.length_map]
      exact Nat.le_trans (List.length_filter_le _ _) h5
    rw [e0]
    have hk := minKD_ok (F := evF tb (n + 5)) (f := 18) (s := ⟨[.v r.d, .v (.int i), .v pl.d, .v (.lst ((progN r i pl).map toldD)), .un], st⟩) (a := .var 3) toldD nkey (progN r i pl) (s1 := ⟨[.v r.d, .v (.int i), .v pl.d, .v (.lst ((progN r i pl).map toldD)), .un], st⟩) (by simp) (fun x hx => naming_key_spec x (by
      have := (mem_progN r i pl x).mp hx
      have e1 := congrArg List.length this.1
      rw [List.length_map] at e1
      omega)) (fun x _ => ⟨nkey_keyed x, by simp [nkey]⟩) (fun x _ y _ => nkey_al x y)
    rw [hk]
    simp
  · intro σ hσ
    obtain ⟨a, b⟩ := h4 σ hσ
    have ho : ∀ w, w ∈ (own r).map (·.1) ↔ w ∈ rwords r := fun w => by rw [own_eq, keys_mk]
    simp [covers_deed_spec pl r σ i hp hr hi b ho (fun p hq => ps_sub hq) (fun p hq => ps_sub hq)]
    cases covers pl σ r i <;> simp [told_naming_spec σ (by omega)]
def forN (r : Rl) (i : Nat) (pl : Rl) : Option Nm := minO nkey (progN r i pl)
/-- the first other rule with a naming -/
def coverP (rs : List Rl) (k i : Nat) : Option (Nat × Nm) := rs.zipIdx.findSome? fun q => if q.2 = k then none else (forN (rs.getD k default) i q.1).map fun τ => (q.2, τ)
def cvD (q : Nat × Nm) : D := .tup [.int q.1, toldD q.2]
theorem rls_at {rs : List Rl} {k : Nat} (hk : k < rs.length) : (rs.map Rl.d)[k]? = some (rs.getD k default).d := by simp [hk]
theorem getD_mem {rs : List Rl} {k : Nat} (hk : k < rs.length) : rs.getD k default ∈ rs := by
  rw [List.getD_eq_getElem?_getD, List.getElem?_eq_getElem hk]
  exact List.getElem_mem hk
@[simp] theorem covering_rule_spec (rs : List Rl) (k i : Nat) (h : ∀ r ∈ rs, RlOk r) (hk : k < rs.length) (hi : i < (rs.getD k default).ds.length) : evF tb (n + 7) 20 [.tup (rs.map Rl.d), .int k, .int i] st = some (optD cvD (coverP rs k i), st) := by
  rw [evF_run (d := b20) rfl rfl (by decide)]
  apply eq_ok
  simp [b20]
  refine ok_mono (loopS (fun q : Rl × Nat => .tup [.int q.2, q.1.d]) rs.zipIdx cvD (fun q => if q.2 = k then none else (forN (rs.getD k default) i q.1).map fun τ => (q.2, τ)) (fun s => ∃ a b c, s = ⟨[.v (.tup (rs.map Rl.d)), .v (.int k), .v (.int i), a, b, c], st⟩) (fun s => s.st = st) ?_ ?_) ?_
  · simp [it_enumT]
  · rintro j ⟨o, q⟩ s2 hx ⟨a, b, c, rfl⟩
    have ho : o ∈ rs := List.fst_mem_of_mem_zipIdx (List.mem_of_getElem? hx)
    have e := naming_for_spec (n := n) (st := st) (rs.getD k default) o i (h _ (getD_mem hk)) (h o ho) hi
    by_cases hq : q = k
    · simp [hq]
    · simp [hq, atI_nat (rls_at hk), e, -List.getD_eq_getElem?_getD]
      cases hf : forN (rs.getD k default) i o with
      | none => 
        unfold forN at hf
        simp [hf, optD, -List.getD_eq_getElem?_getD]
      | some τ => 
        unfold forN at hf
        simp [hf, optD, toldD_ne, cvD, -List.getD_eq_getElem?_getD]
  · rintro ⟨fl, s⟩ h
    unfold coverP
    cases hf : rs.zipIdx.findSome? (fun q => if q.2 = k then none else (forN (rs.getD k default) i q.1).map fun τ => (q.2, τ)) with
    | none =>
      rw [hf] at h
      obtain ⟨h1, a, b, c, h2⟩ := h
      simp only at h1 h2
      subst h1 h2
      simp [optD]
    | some v =>
      rw [hf] at h
      obtain ⟨h1, h2⟩ := h
      simp only at h1 h2
      subst h1 h2
      simp [optD]
def needlessP (rs : List Rl) (k : Nat) : Bool := (List.range (rs.getD k default).ds.length).all fun i => (coverP rs k i).isSome
@[simp] theorem is_needless_spec (rs : List Rl) (k : Nat) (h : ∀ r ∈ rs, RlOk r) (hk : k < rs.length) : evF tb (n + 8) 21 [.tup (rs.map Rl.d), .int k] st = some (.bl (needlessP rs k), st) := by
  rw [evF_run (d := b21) rfl rfl (by decide)]
  have hd := (h _ (getD_mem hk)).dl
  simp [b21, -List.getD_eq_getElem?_getD]
  rw [compM (fun i : Nat => D.int (i : Int)) (List.range (rs.getD k default).ds.length) (fun i => .bl (coverP rs k i).isSome) (by simp [atI_nat (rls_at hk), -List.getD_eq_getElem?_getD]; rw [it_range (by omega)]) (by simp) (by rw [sizeL, List.length_range]; omega) ?_]
  · simp [needlessP, Function.comp_def, -List.getD_eq_getElem?_getD]
  · intro i hi
    have hi' : i < (rs.getD k default).ds.length := List.mem_range.mp hi
    have e := covering_rule_spec (n := n) (st := st) rs k i h hk hi'
    simp [e]
    cases coverP rs k i <;> simp [optD, cvD]
end K87

-- K87F
set_option autoImplicit true
set_option Elab.async false
set_option linter.all false
set_option maxRecDepth 100000
set_option maxHeartbeats 400000
namespace K87
open PySem PyProof.Rows Ev
variable {n : Nat} {st : List D}
theorem judge_spec (r pl : Rl) (i : Nat) (hr : RlOk r) (hp : RlOk pl) (hi : i < r.ds.length) {m : Nat} (hm : m ≤ 50) (d : D) (hd : D.pt 1000 m d = true) :
    ok (evF tb (n + 6) 23 [r.d, .int i, pl.d, d] st) fun q => q.2 = st ∧ ∃ b, q.1 = .bl b ∧ (b = true ↔ ∃ τ : Nm, d = toldD τ ∧ τ.map (·.1) = rwords pl ∧ (∀ p ∈ τ, p.2.ok = true) ∧ judgeN r i pl τ = true) := by
  rw [evF_run (d := b23) rfl rfl (by decide)]
  have h1 := hp.cs
  have h2 := hr.cs
  have h3 := hp.words
  have h4 := hp.tms
  have hrow := is_row_of_spec (n := n + 4) (st := st) d (pt_gd d hd) (rwords pl).length
  cases hgood : isRow (rwords pl).length d with
  | false =>
    rw [hgood] at hrow
    simp [b23, rule_words_spec pl (by omega) (by omega), hrow]
    rintro τ rfl hk
    have : isRow (rwords pl).length (toldD τ) = true := by
      rw [← hk]
      simp [isRow, toldD]
    rw [this] at hgood
    cases hgood
  | true =>
    rw [hgood] at hrow
    cases d with
    | tup xs =>
      simp only [isRow, decide_eq_true_iff] at hgood
      cases m with
      | zero => simp [D.pt] at hd
      | succ m =>
        obtain ⟨hd1, hd2⟩ := pt_tup.mp hd
        have eall : evE (evF tb (n + 5)) (.comp (.many [5, 6]) .zip (.cons (.var 3) (.cons (.var 4) .nil)) .nil (.land (.call 8 (.cons (.var 5) (.cons (.cst (.int 2)) .nil))) (.land (.cmp .eq (.idx (.var 5) (.cst (.int 0))) (.var 6)) (.call 22 (.cons (.idx (.var 5) (.cst (.int 1))) .nil)))))
            ⟨[.v r.d, .v (.int i), .v pl.d, .v (.tup xs), .v (.lst ((rwords pl).map .str)), .un, .un, .un, .un, .un, .un], st⟩ = some (.lst ((xs.zip (rwords pl)).map fun q => .bl (pairOk q.1 q.2)), ⟨[.v r.d, .v (.int i), .v pl.d, .v (.tup xs), .v (.lst ((rwords pl).map .str)), .un, .un, .un, .un, .un, .un], st⟩) := by
          refine compM (fun q : D × Str => .tup [q.1, .str q.2]) (xs.zip (rwords pl)) (fun q => .bl (pairOk q.1 q.2)) ?_ (by simp) (by rw [sizeL, List.length_zip]; omega) ?_
          · simp [itemsD, rootOf, List.zip_map_right, Function.comp_def]
          · rintro ⟨x, w⟩ hx
            have hxm : x ∈ xs := (List.of_mem_zip hx).1
            have hx1 := hd2 x hxm
            have erow := is_row2_spec (n := n + 4) (st := st) x (pt_gd x hx1)
            simp [erow]
            cases x with
            | tup ys =>
              match ys with
              | [a, b] =>
                cases m with
                | zero => simp [D.pt] at hx1
                | succ m =>
                  obtain ⟨-, hx2⟩ := pt_tup.mp hx1
                  have ha := hx2 a (by simp)
                  have hb := hx2 b (by simp)
                  have e1 := c_eq (a := a) (b := .str w) (pt_gd a ha) (m := 0) (by simp [D.gd]) (by omega) (by omega)
                  have e2 := is_term_spec (n := n + 2) (st := st) (m := m) (by omega) b (pt_gd b hb) (fun y hy => by
                    rcases hy with rfl | ⟨z, rfl⟩
                    · cases m <;> simp [D.pt] at hb <;> omega
                    · cases m with
                      | zero => simp [D.pt] at hb
                      | succ m =>
                        have := (pt_tup.mp hb).2 (.str y) (by simp)
                        cases m <;> simp [D.pt] at this <;> omega)
                  simp [isRow, e1, e2, pairOk]
                  by_cases haw : a = .str w <;> simp [haw]
              | [] => simp [isRow, pairOk]
              | [a] => simp [isRow, pairOk]
              | a :: b :: c :: z => simp [isRow, pairOk]
            | _ => simp [isRow, pairOk]
        cases hall : (xs.zip (rwords pl)).all (fun q => pairOk q.1 q.2) with
        | false =>
          simp [b23, rule_words_spec pl (by omega) (by omega), hrow, eall, Function.comp_def, hall]
          rintro τ h1 hk h2
          simp only [toldD, D.tup.injEq] at h1
          subst h1
          rw [← hk, pairs_of τ (fun p hp => h2 p.1 p.2 hp)] at hall
          cases hall
        | true =>
          obtain ⟨τ, rfl, hk, hok⟩ := pairs_as hgood hall
          have hτl : τ.length = (rwords pl).length := by rw [← hk, List.length_map]
          have edc : evE (evF tb (n + 5)) (.dcomp (.many [6, 8]) .seq (.cons (.var 3) .nil) (.var 6) (.var 8)) ⟨[.v r.d, .v (.int i), .v pl.d, .v (.tup (τ.map prD)), .v (.lst ((rwords pl).map .str)), .un, .un, .un, .un, .un, .un], st⟩ = some (nmD τ, ⟨[.v r.d, .v (.int i), .v pl.d, .v (.tup (τ.map prD)), .v (.lst ((rwords pl).map .str)), .un, .un, .un, .un, .un, .un], st⟩) := by
            have e := dict_fold τ [] (by rw [hk]; exact rwords_nodup pl)
            have e0 : dctD Tm.d [] = [] := rfl
            rw [e0, List.nil_append] at e
            rw [show nmD τ = .dct (τ.foldl (fun a p => dput a (.str p.1) p.2.d) []) by rw [e]; rfl]
            refine dcompP prD τ (fun p => .str p.1) (fun p => p.2.d) (by simp) (by simp) (by rw [sizeL]; omega) ?_
            intro p hp
            simp [prD, keyOk1]
          have hps := hp.ps
          have eps : evE (evF tb (n + 5)) (.comp (.one 10) .seq (.cons (.call 3 (.cons (.var 2) .nil)) .nil) .nil (.cmp .inn (.call 11 (.cons (.var 10) (.cons (.var 7) .nil))) (.var 9))) ⟨[.v r.d, .v (.int i), .v pl.d, .v (.tup (τ.map prD)), .v (.lst ((rwords pl).map .str)), .un, .un, .v (nmD τ), .un, .v (.lst (r.ps.map Pat.d)), .un], st⟩
              = some (.lst (pl.ps.map fun p => .bl (decide (p.by τ ∈ r.ps))), ⟨[.v r.d, .v (.int i), .v pl.d, .v (.tup (τ.map prD)), .v (.lst ((rwords pl).map .str)), .un, .un, .v (nmD τ), .un, .v (.lst (r.ps.map Pat.d)), .un], st⟩) := by
            refine compM Pat.d pl.ps (fun p => .bl (decide (p.by τ ∈ r.ps))) (by simp [show pl.cs.length ≤ 1000 by omega]) (by simp) (by rw [sizeL]; omega) ?_
            intro p hq
            have := hp.tm p hq
            simp [named_pattern_spec (n := n + 3) (st := st) p τ (by omega) (fun x hx => (hasK_iff τ x).mpr (hk ▸ ps_sub hq x hx)), -List.mem_map]
          have ecv := covers_deed_spec (n := n) (st := st) pl r τ i hp hr hi (fun w => by rw [hk]) (fun w => by rw [own_eq, keys_mk]) (fun p hq => ps_sub hq) (fun p hq => ps_sub hq)
          have fin : ∀ b : Bool, (b = judgeN r i pl τ) → (b = true ↔ ∃ τ' : Nm, D.tup (τ.map prD) = toldD τ' ∧ τ'.map (·.1) = rwords pl ∧ (∀ p ∈ τ', p.2.ok = true) ∧ judgeN r i pl τ' = true) := by
            rintro b rfl
            constructor
            · intro h
              exact ⟨τ, rfl, hk, hok, h⟩
            · rintro ⟨τ', e, -, -, h⟩
              have : τ = τ' := toldD_inj e
              rw [this]
              exact h
          cases hin : pl.ps.all (fun p => decide (p.by τ ∈ r.ps)) with
          | false =>
            refine ok_eq (a := (.bl false, st)) ?_ ⟨rfl, false, rfl, fin false (by simp only [judgeN, hin, Bool.false_and])⟩
            simp [b23, rule_words_spec pl (by omega) (by omega), hrow, eall, Function.comp_def, hall, edc, eps, show r.cs.length ≤ 1000 by omega, hin]
          | true =>
            refine ok_eq (a := (.bl (covers pl τ r i), st)) ?_ ⟨rfl, _, rfl, fin _ (by simp only [judgeN, hin, Bool.true_and])⟩
            simp [b23, rule_words_spec pl (by omega) (by omega), hrow, eall, Function.comp_def, hall, edc, eps, show r.cs.length ≤ 1000 by omega, hin, ecv]
    | _ => simp [isRow] at hgood
end K87

-- K87G
set_option autoImplicit true
set_option Elab.async false
set_option linter.all false
set_option maxRecDepth 100000
set_option maxHeartbeats 400000
namespace K87
open PySem PyProof.Rows Ev
variable {n : Nat} {st : List D}
theorem take_gen (m : Int) (hm : 0 < m) : Gen (evF tb (n + 1)) 25 [.int m] fun d => ∃ k : Int, d = .int k ∧ 0 ≤ k ∧ k < m := by
  intro xs rest
  rw [evF_run (d := b25) rfl rfl (by decide)]
  rcases List.eq_nil_or_concat xs with rfl | ⟨ys, y, rfl⟩
  · simp [b25, dr]
    exact hm
  · have e : ((ys.length : Int) + 1 == 0) = false := by rw [beq_eq_false_iff_ne]; omega
    simp [b25, dr, e]
    refine ⟨fun _ => ⟨⟨Int.emod_nonneg y (by omega), Int.emod_lt_of_pos y hm⟩, ys, rfl⟩, hm⟩
theorem pick_gen (row : List D) (hr : row ≠ []) : Gen (evF tb (n + 2)) 26 [.lst row] fun d => d ∈ row := by
  intro xs rest
  have hl : 0 < row.length := List.length_pos_iff.mpr hr
  rw [evF_run (d := b26) rfl rfl (by decide)]
  simp [b26]
  refine (take_gen (n := n) row.length (by omega)).bnd fun d ys hd => ?_
  obtain ⟨k, rfl, k0, k1⟩ := hd
  obtain ⟨j, rfl⟩ := Int.eq_ofNat_of_zero_le k0
  have hj : j < row.length := by omega
  simp [atI_nat (List.getElem?_eq_getElem hj)]
  exact ⟨ys, rfl⟩
theorem pickT_gen (row : List D) (hr : row ≠ []) : Gen (evF tb (n + 2)) 26 [.tup row] fun d => d ∈ row := by
  intro xs rest
  have hl : 0 < row.length := List.length_pos_iff.mpr hr
  rw [evF_run (d := b26) rfl rfl (by decide)]
  simp [b26]
  refine (take_gen (n := n) row.length (by omega)).bnd fun d ys hd => ?_
  obtain ⟨k, rfl, k0, k1⟩ := hd
  obtain ⟨j, rfl⟩ := Int.eq_ofNat_of_zero_le k0
  have hj : j < row.length := by omega
  simp [atI_nat (List.getElem?_eq_getElem hj)]
  exact ⟨ys, rfl⟩
theorem term_gen (names : List Str) (values : List Tm) (hv : values ≠ []) : Gen (evF tb (n + 3)) 33 [.lst (names.map .str), .lst (values.map Tm.d)] fun d => ∃ t : Tm, d = t.d ∧ TmOf names values t := by
  intro xs rest
  rw [evF_run (d := b33) rfl rfl (by decide)]
  have hlast : ∀ ys : List Int, ok (evF tb (n + 2) 26 [.ref 0, .lst (values.map Tm.d)] (dr ys rest)) fun r => (∃ t : Tm, r.1 = t.d ∧ TmOf names values t) ∧ ∃ ys, r.2 = dr ys rest := fun ys =>
    (pick_gen (n := n) (values.map Tm.d) (by simpa using hv)).bnd fun d zs hd => by
      obtain ⟨t, ht, rfl⟩ := List.mem_map.mp hd
      exact ⟨⟨t, rfl, .inr ht⟩, zs, rfl⟩
  by_cases hn : names = []
  · subst hn
    simp [b33]
    exact hlast xs
  · have hp : 0 < names.length := List.length_pos_iff.mpr hn
    simp [b33, hp]
    refine (take_gen (n := n + 1) 3 (by decide)).bnd fun d ys hd => ?_
    obtain ⟨k, rfl, k0, k1⟩ := hd
    by_cases hk : 0 < k
    · simp [hk]
      refine (pick_gen (n := n) (names.map .str) (by simpa using hn)).bnd fun d zs hd => ?_
      obtain ⟨x, hx, rfl⟩ := List.mem_map.mp hd
      simp
      exact ⟨⟨.var x, rfl, .inl ⟨x, hx, rfl⟩⟩, zs, rfl⟩
    · simp [hk]
      exact hlast ys
theorem pattern_gen (kinds : List (Str × Nat)) (names : List Str) (values : List Tm) (hk : kinds ≠ []) (hk' : ∀ q ∈ kinds, q.2 ≤ 1000) (hv : values ≠ []) :
    Gen (evF tb (n + 4)) 34 [.lst (kinds.map kindD), .lst (names.map .str), .lst (values.map Tm.d)] fun d => ∃ p : Pat, d = p.d ∧ PatOf kinds names values p := by
  intro xs rest
  rw [evF_run (d := b34) rfl rfl (by decide)]
  simp [b34]
  refine (pick_gen (n := n + 1) (kinds.map kindD) (by simpa using hk)).bnd fun d ys hd => ?_
  obtain ⟨q, hq, rfl⟩ := List.mem_map.mp hd
  have hq2 := hk' q hq
  simp [kindD]
  refine ok_mono (compG (items := (List.range q.2).map fun (k : Nat) => .int (k : Int)) (fun d => ∃ t : Tm, d = t.d ∧ TmOf names values t) ?_ (by simp) (by simp; omega) ?_) ?_
  · simp [it_range (show q.2 ≤ 100000 by omega)]
    exact ⟨ys, rfl⟩
  · intro d hd ys
    simp
    refine (term_gen (n := n) names values hv).bnd fun d zs hd => ?_
    simp
    exact ⟨hd, zs, rfl⟩
  · rintro r ⟨acc, zs, rfl, h1, h2⟩
    simp
    have : ∃ ts : List Tm, acc = ts.map Tm.d ∧ ∀ t ∈ ts, TmOf names values t := by
      clear h1
      induction acc with
      | nil => exact ⟨[], rfl, by simp⟩
      | cons a acc ih =>
        obtain ⟨ts, rfl, h3⟩ := ih fun d hd => h2 d (List.mem_cons_of_mem _ hd)
        obtain ⟨t, rfl, ht⟩ := h2 a List.mem_cons_self
        exact ⟨t :: ts, rfl, fun u hu => by
          rcases List.mem_cons.mp hu with rfl | hu
          · exact ht
          · exact h3 u hu⟩
    obtain ⟨ts, rfl, hts⟩ := this
    refine ⟨⟨⟨q.1, ts⟩, rfl, ?_, hts⟩, zs, rfl⟩
    have : ts.length = q.2 := by simpa using h1
    rw [this]
    exact hq
end K87

-- K87H
set_option autoImplicit true
set_option Elab.async false
set_option linter.all false
set_option maxRecDepth 100000
set_option maxHeartbeats 400000
namespace K87
open PySem PyProof.Rows Ev
variable {n : Nat} {st : List D}
theorem put_spec (xs : List D) (k : Int) (d : D) (hl : xs.length ≤ 1000) : ∃ ys : List D, evF tb (n + 1) 30 [.tup xs, .int k, d] st = some (.tup ys, st) ∧ ys.length ≤ 2 * xs.length + 1 ∧ ∀ y ∈ ys, y ∈ xs ∨ y = d := by
  rw [evF_run (d := b30) rfl rfl (by decide)]
  have h1 := cutD_len xs none (some k)
  have h2 := cutD_len xs (some (k + 1)) none
  refine ⟨Ev.cutD xs none (some k) ++ [d] ++ Ev.cutD xs (some (k + 1)) none, ?_, ?_, ?_⟩
  · apply eq_ok
    simp [b30]
    omega
  · simp only [List.length_append, List.length_singleton]
    omega
  · intro y hy
    simp only [List.mem_append, List.mem_singleton] at hy
    rcases hy with (h | h) | h
    · exact .inl (cutD_mem h)
    · exact .inr h
    · exact .inl (cutD_mem h)
theorem is_int_gd {m : Nat} (d : D) (hd : D.gd m d = true) : evF tb (n + 1) 29 [d] st = some (.bl (isNum d), st) := by
  rw [evF_run (d := b29) rfl rfl (by decide)]
  cases d <;> cases m <;> simp [D.gd] at hd <;> simp [b29, isNum]
def drawsLoop : IS := match b24.body with
  | .cons _ (.cons _ (.cons _ (.cons _ (.cons l _)))) => l
  | _ => .nop
theorem drawsLoop_ok (x : D) (cs : List Int) (h0 : 0 < cs.length) (h1 : cs.length ≤ 64) : ok (evS (evF tb n) drawsLoop ⟨[.v x, .v (.int 600), .o (.lst (cs.map .int)), .un, .o (.lst (cs.map .int)), .o (.lst []), .un, .un, .un], st⟩) fun r => r.1 = .nx ∧ ∃ (ls xs : List Int) (a b c : Sl), xs.length ≤ 600 ∧ r.2 = ⟨[.v x, .v (.int 600), .o (.lst (cs.map .int)), .un, .o (.lst (ls.map .int)), .o (.lst (xs.map .int)), a, b, c], st⟩ := by
  refine ok_mono (loop_ok (items := (List.range 600).map fun (k : Nat) => .int (k : Int)) (fun i s => ∃ (ls xs : List Int) (a b c : Sl), xs.length ≤ i ∧ ls.length = cs.length ∧ s = ⟨[.v x, .v (.int 600), .o (.lst (cs.map .int)), .un, .o (.lst (ls.map .int)), .o (.lst (xs.map .int)), a, b, c], st⟩) (fun _ => False) (fun _ _ => False) ?_ ?_) ?_
  · simp
    exact ⟨it_range (n := 600) (by omega), cs, rfl, rfl⟩
  · rintro i d s2 hd ⟨ls, xs, a, b, c, hx, hl, rfl⟩
    obtain ⟨j, hj, rfl⟩ : ∃ j : Nat, i = j ∧ .int (j : Int) = d := by
      rw [List.getElem?_map] at hd
      obtain ⟨j, hj, e⟩ := Option.map_eq_some_iff.mp hd
      have := (List.getElem?_eq_some_iff.mp hj)
      obtain ⟨h, e2⟩ := this
      rw [List.getElem_range] at e2
      exact ⟨j, e2, e⟩
    subst hj
    have hi : i < 600 := by
      have := (List.getElem?_eq_some_iff.mp hd).1
      simpa using this
    have hm : ((i : Int) % (cs.length : Int)) = ((i % cs.length : Nat) : Int) := by simp
    have hp : i % cs.length < cs.length := Nat.mod_lt _ h0
    generalize hq : i % cs.length = q at hm hp
    have e1 := atI_int hp
    have e2 := atI_int (l := ls) (j := q) (by omega)
    have e3 : L2.ixN ls.length (q : Int) = some q := ixN_nat (by omega)
    simp [h0, hm, e1, e2, e3]
    have u0 := Int.emod_nonneg (cs[q]?.getD 0 * 48271 + (i : Int) * 69621 + 11) (show (2147483647 : Int) ≠ 0 by decide)
    have u1 := Int.emod_lt_of_pos (cs[q]?.getD 0 * 48271 + (i : Int) * 69621 + 11) (show (0 : Int) < 2147483647 by decide)
    generalize (cs[q]?.getD 0 * 48271 + (i : Int) * 69621 + 11) % 2147483647 = u at u0 u1 ⊢
    have hx1 : xs.length < 16777216 := by omega
    have app : ∀ v : Int, ∃ ls_1 xs_1 : List Int, xs_1.length ≤ i + 1 ∧ ls_1.length = cs.length ∧ ls.map D.int = ls_1.map D.int ∧ xs.map D.int ++ [D.int v] = xs_1.map D.int := fun v => ⟨ls, xs ++ [v], by simp; omega, hl, rfl, by simp⟩
    refine ⟨fun _ => ⟨fun _ => ⟨fun _ => ⟨ls.set q (ls[q]?.getD 0 / 1000), xs ++ [ls[q]?.getD 0 % 1000], by simp; omega, by simpa using hl, by rw [List.map_set], by simp⟩, hx1⟩, fun _ => ⟨fun _ _ => ⟨fun _ => app _, hx1⟩, by omega, by omega⟩⟩, fun _ => ⟨fun _ _ => ⟨fun _ => app _, hx1⟩, by omega, by omega⟩⟩
  · rintro ⟨fl, s⟩ (⟨h1, h2 | h2⟩ | ⟨v, h1, h2⟩)
    · obtain ⟨ls, xs, a, b, c, hx, -, h3⟩ := h2
      exact ⟨h1, ls, xs, a, b, c, by simpa using hx, h3⟩
    · exact h2.elim
    · exact h2.elim
theorem draws_spec (ns : List Int) : ok (evF tb (n + 1) 24 [.scr (ns.map .int), .int 600] st) fun r => ∃ xs : List Int, r = (.lst (xs.map .int), st) := by
  rw [evF_run (d := b24) rfl rfl (by decide)]
  obtain ⟨M, hM, eM⟩ : ∃ M : Int, 0 < M ∧ binD .shl (.int 1) (.int 7200) = some (.int M) := ⟨1 * 2 ^ (7200 : Int).toNat, by rw [Int.one_mul]; exact Int.pow_pos (by decide), rfl⟩
  have ecut : Ev.cutD (ns.map .int) none (some 63) = (ns.take 63).map D.int := by
    have := cutD_to (ns.map .int) 63
    rw [← List.map_take] at this
    exact this
  obtain ⟨cs, ecs, hcs⟩ : ∃ cs : List Int, ((ns.take 63).map fun k => D.int (k % M)) = cs.map D.int ∧ cs.length ≤ 63 := ⟨(ns.take 63).map (· % M), by rw [List.map_map]; rfl, by simp; omega⟩
  simp [b24, -List.map_take]
  rw [compM D.int (ns.take 63) (fun k => .int (k % M)) (by simp [ecut, -List.map_take]) (by simp) (by rw [sizeL, List.length_take]; omega) (by
    intro k hk
    simp [eM, hM])]
  rw [ecs]
  by_cases hc : cs = []
  · subst hc
    simp
    refine ok_mono (drawsLoop_ok _ [0] (by decide) (by decide)) ?_
    rintro ⟨fl, s⟩ ⟨h1, ls, xs, a, b, c, hx, h2⟩
    simp only at h1 h2
    subst h1 h2
    simp
    exact ⟨xs.reverse, by simp⟩
  · have h0 : 0 < cs.length := List.length_pos_iff.mpr hc
    have h0' : ¬ cs.length = 0 := by omega
    simp [hc]
    refine ok_mono (drawsLoop_ok _ cs h0 (by omega)) ?_
    rintro ⟨fl, s⟩ ⟨h1, ls, xs, a, b, c, hx, h2⟩
    simp only at h1 h2
    subst h1 h2
    simp
    exact ⟨xs.reverse, by simp⟩
end K87

-- K87J
set_option autoImplicit true
set_option Elab.async false
set_option linter.all false
set_option maxRecDepth 100000
set_option maxHeartbeats 400000
namespace K87
open PySem PyProof.Rows Ev
variable {n : Nat} {st : List D}
theorem all_true (k : Nat) : cmpD .notin (.bl false) (.lst ((List.range k).map fun _ => .bl true)) = some true := by
  have := bl_noFalse ((List.range k).map fun _ => true)
  rw [List.map_map] at this
  have e : ((List.range k).map fun _ => true).all id = true := by simp
  rw [e] at this
  exact this
theorem same_core {F : Fn} (xs : List D) (D' : List D → D) (hl : xs.length ≤ 1000) (hx : ∀ x ∈ xs, F 27 [x, x] st = some (.bl true, st)) (hi : ∀ (k : Nat) (x : D), xs[k]? = some x → idxD (D' xs) (.int k) = some x) (hlen : blt1 .len (D' xs) = some (.int xs.length)) :
    evE F (.comp (.one 2) .range1 (.cons (.blt .len (.var 1)) .nil) .nil (.call 27 (.cons (.idx (.var 0) (.var 2)) (.cons (.idx (.var 1) (.var 2)) .nil)))) ⟨[.v (D' xs), .v (D' xs), .un], st⟩ = some (.lst ((List.range xs.length).map fun _ => .bl true), ⟨[.v (D' xs), .v (D' xs), .un], st⟩) := by
  refine compM (fun (k : Nat) => .int (k : Int)) (List.range xs.length) (fun _ => .bl true) (by simp [hlen]; exact it_range (by omega)) (by simp) (by rw [sizeL, List.length_range]; omega) ?_
  intro k hk
  have hk' : k < xs.length := List.mem_range.mp hk
  have e := hi k xs[k] (List.getElem?_eq_getElem hk')
  have ih := hx xs[k] (List.getElem_mem hk')
  simp [e, ih]
theorem same_atom (d : D) (h : D.bd 0 d = true) (F : Fn) : (evSs F b27.body ⟨[.v d, .v d, .un], st⟩).bind finR = some (.bl true, st) := by
  cases d with
  | non =>
    have e : cmpD .eq .non .non = some true := rfl
    simp [b27, e]
  | bl b => simp [b27]
  | int b => simp [b27]
  | str b => simp [b27]
  | _ => simp [D.bd] at h
theorem same_spec (m : Nat) : ∀ (d : D), D.bd m d = true → ∀ n, evF tb (n + m + 1) 27 [d, d] st = some (.bl true, st) := by
  induction m with
  | zero =>
    intro d h n
    have es : (List.map Sl.v [d, d] ++ List.replicate (b27.ns - b27.np) Sl.un) = [.v d, .v d, .un] := rfl
    rw [evF_run (d := b27) rfl rfl (by decide), es]
    exact same_atom d h _
  | succ m ih =>
    intro d h n
    have es : (List.map Sl.v [d, d] ++ List.replicate (b27.ns - b27.np) Sl.un) = [.v d, .v d, .un] := rfl
    rw [evF_run (d := b27) rfl rfl (by decide), es]
    by_cases h0 : D.bd 0 d = true
    · exact same_atom d h0 _
    · cases d with
      | tup xs =>
        obtain ⟨h1, h2⟩ := bd_tup.mp h
        have e := same_core (F := evF tb (n + (m + 1))) (st := st) xs .tup h1 (fun x hx => ih x (h2 x hx) n) (fun k x hk => by simp [atI_nat hk]) rfl
        simp [b27, e, all_true]
      | lst xs =>
        obtain ⟨h1, h2⟩ := bd_lst.mp h
        have e := same_core (F := evF tb (n + (m + 1))) (st := st) xs .lst h1 (fun x hx => ih x (h2 x hx) n) (fun k x hk => by simp [atI_nat hk]) rfl
        simp [b27, e, all_true]
      | _ => simp [D.bd] at h h0
end K87

-- K87L
set_option autoImplicit true
set_option Elab.async false
set_option linter.all false
set_option maxRecDepth 100000
set_option maxHeartbeats 400000
namespace K87
open PySem PyProof.Rows Ev
variable {n : Nat} {st : List D}
theorem letter_at {k : Int} (h0 : 0 ≤ k) (h1 : k < 26) : ∃ c ∈ letters, idxD (.str "abcdefghijklmnopqrstuvwxyz") (.int k) = some (.str ⟨#[c]⟩) := by
  obtain ⟨j, rfl⟩ := Int.eq_ofNat_of_zero_le h0
  have hlen : letters.length = 26 := by decide +kernel
  have hj : j < letters.length := by omega
  refine ⟨letters[j], List.getElem_mem hj, ?_⟩
  show (if (Str.ofString "abcdefghijklmnopqrstuvwxyz").length ≤ sizeLine then (L2.atI (Str.ofString "abcdefghijklmnopqrstuvwxyz").cps.toList (j : Int)).map (fun c => D.str ⟨#[c]⟩) else none) = _
  rw [if_pos (by rw [length_toList]; show letters.length ≤ sizeLine; rw [hlen]; decide)]
  have : L2.atI letters (j : Int) = some letters[j] := atI_nat (List.getElem?_eq_getElem hj)
  show (L2.atI letters (j : Int)).map _ = _
  rw [this]
  rfl
theorem rep_toList (x : Str) (k : Nat) : (repStr x k).cps.toList = (List.replicate k x.cps.toList).flatten := by
  unfold repStr
  have : ∀ (l : List (Array Nat)) (a : Array Nat), (l.foldl (· ++ ·) a).toList = a.toList ++ (l.map Array.toList).flatten := by
    intro l
    induction l with
    | nil => intro a; simp
    | cons x l ih => intro a; rw [List.foldl_cons, ih]; simp
  simp [this]
/-- words of the draws: all of letters, all different -/
def Words (ws : List Str) : Prop := ws.Nodup ∧ ∀ w ∈ ws, wordB w = true
theorem words_gen (many : Nat) (hm : many ≤ 20) : Gen (evF tb (n + 2)) 31 [.int many] fun d => ∃ ws : List Str, d = .lst (ws.map .str) ∧ ws.length = many ∧ Words ws ∧ ∀ w ∈ ws, w.length ≤ 50 := by
  intro xs rest
  rw [evF_run (d := b31) rfl rfl (by decide)]
  simp [b31]
  refine ok_mono (loop_ok (items := (List.range many).map fun (k : Nat) => .int (k : Int)) (fun i s => ∃ (ws : List Str) (ys : List Int) (a b c : Sl), ws.length = i ∧ Words ws ∧ (∀ w ∈ ws, w.length ≤ 26 + i) ∧ s = ⟨[.v (.ref 0), .v (.int many), .o (.lst (ws.map .str)), a, b, c, .un, .un], dr ys rest⟩) (fun _ => False) (fun _ _ => False) ?_ ?_) ?_
  · simp
    refine ⟨it_range (by omega), ?_⟩
    exact ⟨⟨List.nodup_nil, by simp⟩, xs, rfl⟩
  · rintro i d s2 hd ⟨ws, ys, a, b, c, hl, hw, hb, rfl⟩
    have hi : i < many := by
      have := (List.getElem?_eq_some_iff.mp hd).1
      simpa using this
    rw [bindT_one, ok_some]
    refine seq_ok (fun s => ∃ (k : Int) (ys : List Int), 1 ≤ k ∧ k ≤ 3 ∧ s = ⟨[.v (.ref 0), .v (.int many), .o (.lst (ws.map .str)), .v d, .v (.int k), c, .un, .un], dr ys rest⟩) ?_ ?_
    · simp
      refine (take_gen (n := n) 3 (by decide)).bnd fun e zs he => ?_
      obtain ⟨k, rfl, k0, k1⟩ := he
      simp
      refine ⟨_, ?_, ?_, rfl, zs, rfl⟩ <;> omega
    rintro s3 ⟨k, ys, k0, k1, rfl⟩
    refine seq_ok (fun s => ∃ (k : Int) (ys : List Int), 1 ≤ k ∧ k ≤ 25 ∧ s = ⟨[.v (.ref 0), .v (.int many), .o (.lst (ws.map .str)), .v d, .v (.int k), c, .un, .un], dr ys rest⟩) ?_ ?_
    · simp
      refine (take_gen (n := n) 9 (by decide)).bnd fun e zs he => ?_
      obtain ⟨k2, rfl, k3, k4⟩ := he
      simp
      refine ⟨fun _ => ?_, fun _ => ⟨k, k0, by omega, rfl, zs, rfl⟩⟩
      refine (take_gen (n := n) 20 (by decide)).bnd fun e us he => ?_
      obtain ⟨k5, rfl, k6, k7⟩ := he
      simp
      refine ⟨_, ?_, ?_, rfl, us, rfl⟩ <;> omega
    rintro s3 ⟨k, ys, k0, k1, rfl⟩
    refine seq_ok (fun s => ∃ (w : Str) (ys : List Int), wordB w = true ∧ w.length ≤ 25 ∧ s = ⟨[.v (.ref 0), .v (.int many), .o (.lst (ws.map .str)), .v d, .v (.int k), .v (.str w), .un, .un], dr ys rest⟩) ?_ ?_
    · simp
      refine ok_mono (compG (items := (List.range k.toNat).map fun (k : Nat) => .int (k : Int)) (fun d => ∃ c : Nat, d = .str ⟨#[c]⟩ ∧ c ∈ letters) ?_ (by simp) (by simp; omega) ?_) ?_
      · simp
        exact ⟨it_rangeZ (by omega) (by omega), ys, rfl⟩
      · intro e he us
        simp
        refine (take_gen (n := n) 26 (by decide)).bnd fun e us he => ?_
        obtain ⟨k5, rfl, k6, k7⟩ := he
        obtain ⟨c', hc', e1⟩ := letter_at k6 k7
        simp [e1]
        exact ⟨hc', us, rfl⟩
      · rintro r ⟨acc, zs, rfl, h1, h2⟩
        obtain ⟨cs, rfl, hcs⟩ := map_of_all (fun c : Nat => D.str ⟨#[c]⟩) (fun c => c ∈ letters) h2
        have hcl : cs.length = k.toNat := by simpa using h1
        have ej : blt1 (.join "") (.lst (cs.map fun c => D.str ⟨#[c]⟩)) = some (.str (Txt.join "" (cs.map fun c => (⟨#[c]⟩ : Str)))) := by
          show (match allS (cs.map fun c => D.str ⟨#[c]⟩) with
            | some ss => if (ss.map (fun x : Str => x.length)).sum + ss.length * (Str.ofString "").length ≤ 16777216 then some (D.str (Txt.join "" ss)) else none
            | none => none) = _
          rw [allS_map]
          simp only
          have h0 : (Str.ofString "").length = 0 := by decide +kernel
          have hs : ((cs.map fun c => (⟨#[c]⟩ : Str)).map (fun x : Str => x.length)).sum = cs.length := by
            clear h1 h2 hcs hcl
            induction cs with
            | nil => rfl
            | cons c cs ih => simp only [List.map_cons, List.sum_cons, List.length_cons, ih]; simp [Str.length]; omega
          rw [h0, hs, if_pos (by omega)]
        simp [ej]
        have et := join_chars cs
        refine ⟨_, ?_, ?_, rfl, zs, rfl⟩
        · rw [wordB_iff, length_toList, et]
          exact ⟨by omega, hcs⟩
        · rw [length_toList, et]
          omega
    rintro s3 ⟨w, ys, w0, w1, rfl⟩
    refine seq_ok (fun s => ∃ (w : Str) (ys : List Int), w ∉ ws ∧ wordB w = true ∧ w.length ≤ 27 + i ∧ s = ⟨[.v (.ref 0), .v (.int many), .o (.lst (ws.map .str)), .v d, .v (.int k), .v (.str w), .un, .un], dr ys rest⟩) ?_ ?_
    · have emax : evE (evF tb (n + 1)) (.compV (.one 7) 2 .nil (.blt .len (.var 7))) ⟨[.v (.ref 0), .v (.int many), .o (.lst (ws.map .str)), .v d, .v (.int k), .v (.str w), .un, .un], dr ys rest⟩ = some (.lst (ws.map fun w => .int w.length), ⟨[.v (.ref 0), .v (.int many), .o (.lst (ws.map .str)), .v d, .v (.int k), .v (.str w), .un, .un], dr ys rest⟩) := by
        refine compV_ok D.str ws (fun w => .int w.length) rfl (by decide) (by simp) (by rw [sizeL]; omega) ?_
        intro x hx
        have := hb x hx
        simp [show x.length ≤ 16777216 by omega]
      have emx : ∃ m : Int, blt1 .max1 (.lst (.int 5 :: ws.map fun w => .int w.length)) = some (.int m) ∧ 5 ≤ m ∧ m ≤ 26 + i ∧ ∀ w ∈ ws, (w.length : Int) ≤ m := by
        have e1 : allI (D.int 5 :: ws.map fun w => .int w.length) = some (5 :: ws.map fun w => (w.length : Int)) := by
          show (allI (ws.map fun w => D.int w.length)).map _ = _
          rw [allI_map]
          rfl
        obtain ⟨h1, h2, h3⟩ := maxI_spec (ws.map fun w => (w.length : Int)) 5
        refine ⟨maxI 5 (ws.map fun w => (w.length : Int)), ?_, h1, ?_, fun w hw => h2 _ (List.mem_map.mpr ⟨w, hw, rfl⟩)⟩
        · show (match allI (D.int 5 :: ws.map fun w => .int w.length) with
            | some (a :: r) => some (D.int (maxI a r))
            | _ => none) = _
          rw [e1]
        · rcases h3 with h | h
          · omega
          · obtain ⟨w', hw', e⟩ := List.mem_map.mp h
            have := hb w' hw'
            omega
      obtain ⟨m, em, m0, m1, m2⟩ := emx
      have ez : binD .mul (.str "z") (.int (1 + m)) = some (.str (repStr "z" (1 + m).toNat)) := by
        show (if 1 ≤ 1 + m ∧ 1 + m ≤ 1000 ∧ (Str.ofString "z").length ≤ 1000 then some (D.str (repStr "z" (1 + m).toNat)) else none) = _
        rw [if_pos ⟨by omega, by omega, by decide +kernel⟩]
      have hzl : (repStr "z" (1 + m).toNat).cps.toList = List.replicate (1 + m).toNat 122 := by
        rw [rep_toList, show (Str.ofString "z").cps.toList = [122] by decide +kernel]
        generalize (1 + m).toNat = q
        induction q with
        | zero => rfl
        | succ q ih => simp [List.replicate_succ, ih]
      simp [emax, em, ez]
      have hz : (repStr "z" (1 + m).toNat) ∉ ws ∧ wordB (repStr "z" (1 + m).toNat) = true ∧ (repStr "z" (1 + m).toNat).length ≤ 27 + i := by
        have hlen : (repStr "z" (1 + m).toNat).length = (1 + m).toNat := by rw [length_toList, hzl, List.length_replicate]
        refine ⟨fun h => ?_, ?_, by omega⟩
        · have := m2 _ h
          omega
        · rw [wordB_iff, hlen, hzl]
          refine ⟨by omega, fun c hc => ?_⟩
          rw [(List.mem_replicate.mp hc).2]
          decide +kernel
      by_cases hin : w ∈ ws
      · simp [hin]
        exact ⟨fun _ => ⟨_, hz.1, hz.2.1, hz.2.2, rfl, ys, rfl⟩, by omega⟩
      · simp [hin]
        exact ⟨fun _ => ⟨fun _ => ⟨_, hz.1, hz.2.1, hz.2.2, rfl, ys, rfl⟩, by omega⟩, fun _ _ => ⟨w, hin, w0, by omega, rfl, ys, rfl⟩⟩
    rintro s3 ⟨w, ys, w0, w1, w2, rfl⟩
    simp
    refine ⟨fun _ => ⟨ws ++ [w], by simp [hl], ⟨?_, ?_⟩, ?_, by simp, ys, rfl⟩, by omega⟩
    · rw [List.nodup_append]
      refine ⟨hw.1, by simp, ?_⟩
      intro x hx y hy
      rw [List.mem_singleton] at hy
      subst hy
      exact fun e => w0 (e ▸ hx)
    · intro x hx
      rcases List.mem_append.mp hx with h | h
      · exact hw.2 x h
      · rw [List.mem_singleton] at h
        exact h ▸ w1
    · intro x hx
      rcases List.mem_append.mp hx with h | h
      · have := hb x h; omega
      · rw [List.mem_singleton] at h
        subst h
        omega
  · rintro ⟨fl, s⟩ (⟨h1, h2 | h2⟩ | ⟨v, h1, h2⟩)
    · obtain ⟨ws, ys, a, b, c, hl, hw, hb, rfl⟩ := h2
      simp only at h1
      subst h1
      simp at hl
      simp -failIfUnchanged
      exact ⟨⟨ws, rfl, hl, hw, fun w hw => by have := hb w hw; simp at this; omega⟩, ys, rfl⟩
    · exact h2.elim
    · exact h2.elim
end K87

-- K87M
set_option autoImplicit true
set_option Elab.async false
set_option linter.all false
set_option maxRecDepth 100000
set_option maxHeartbeats 400000
namespace K87
open PySem PyProof.Rows Ev
variable {n : Nat} {st : List D}
def tsnd : D → D
  | .tup [_, x] => x
  | d => d
theorem names_of_spec (ps : List Pat) (hn : ps.length ≤ 1000) (hl : ∀ p ∈ ps, p.ts.length ≤ 1000) (h6 : (ps.flatMap Pat.ts).length < 64) :
    evF tb (n + 1) 35 [.lst (ps.map Pat.d)] st = some (.lst ((psWords ps).map .str), st) := by
  rw [evF_run (d := b35) rfl rfl (by decide)]
  have hnm : ∀ ps : List Pat, (ps.flatMap Pat.names).length ≤ (ps.flatMap Pat.ts).length := by
    intro ps
    induction ps with
    | nil => simp
    | cons p ps ih =>
      rw [List.flatMap_cons, List.flatMap_cons, List.length_append, List.length_append]
      have : p.names.length ≤ p.ts.length := List.length_filterMap_le _ _
      omega
  apply eq_ok
  simp [b35]
  refine ok_mono (loopP Pat.d ps (fun a p => a ++ p.names) [] (fun a s => ∃ z, s = ⟨[.v (.lst (ps.map Pat.d)), .v (.lst (a.map .str)), z, .un], st⟩) (fun i a => a = (ps.take i).flatMap Pat.names) ?_ ?_ ?_ ?_) ?_
  · simp
  · simp
  · rintro i a p hp rfl
    have et : ps.take (i + 1) = ps.take i ++ [p] := by rw [List.take_succ, hp]; rfl
    rw [et, List.flatMap_append, List.flatMap_singleton]
  · rintro i a p s2 hp ha ⟨z, rfl⟩
    have hlp := hl p (List.mem_of_getElem? hp)
    have et : ps.take (i + 1) = ps.take i ++ [p] := by rw [List.take_succ, hp]; rfl
    have hb : a.length + p.names.length < 64 := by
      have h1 : ps.flatMap Pat.names = (ps.take (i + 1)).flatMap Pat.names ++ (ps.drop (i + 1)).flatMap Pat.names := by rw [← List.flatMap_append, List.take_append_drop]
      have h2 := congrArg List.length h1
      rw [et, List.flatMap_append, List.flatMap_singleton, ← ha, List.length_append, List.length_append] at h2
      have := hnm ps
      omega
    have e : evE (evF tb n) (.comp (.one 3) .seq (.cons (.idx (.var 2) (.cst (.int 1))) .nil) (.cons (.truth (.blt (.isi [.tuple]) (.var 3))) .nil) (.idx (.var 3) (.cst (.int 1)))) ⟨[.v (.lst (ps.map Pat.d)), .v (.lst (a.map .str)), .v p.d, .un], st⟩ = some (.lst (p.names.map .str), ⟨[.v (.lst (ps.map Pat.d)), .v (.lst (a.map .str)), .v p.d, .un], st⟩) := by
      rw [compP Tm.d p.ts Tm.isVar (fun t => tsnd t.d) (by simp) (by simp) (by simp; omega) ?_]
      · have : ∀ ts : List Tm, (ts.filter Tm.isVar).map (fun t => tsnd t.d) = (ts.filterMap Tm.name?).map .str := by
          intro ts
          induction ts with
          | nil => rfl
          | cons t ts ih =>
            cases t with
            | var x =>
              show D.str x :: _ = _
              rw [ih]
              rfl
            | int x => exact ih
            | str x => exact ih
        rw [this]
        rfl
      · intro t ht
        cases t <;> simp [Tm.isVar, Tm.d, tsnd]
    simp [e]
    omega
  · rintro ⟨fl, s⟩ ⟨h1, ⟨z, h2⟩, h3⟩
    simp only at h1 h2
    subst h1 h2
    rw [List.take_length] at h3
    have h7 := hnm ps
    rw [h3]
    have e := b_sset (ps.flatMap Pat.names)
    rw [if_pos (by omega), dedup_names] at e
    simp [e, psWords]
theorem bound_by_spec (b : Bool) (cs : List Cn) (hn : cs.length ≤ 1000) (hl : ∀ p ∈ ysOf cs, p.ts.length ≤ 1000) (h6 : ((ysOf cs).flatMap Pat.ts).length < 64) :
    evF tb (n + 2) 36 [rowD b (cs.map Cn.d)] st = some (.lst ((psWords (ysOf cs)).map .str), st) := by
  rw [evF_run (d := b36) rfl rfl (by decide)]
  have hy : (ysOf cs).length ≤ cs.length := List.length_filterMap_le _ _
  have e := names_of_spec (n := n) (st := st) (ysOf cs) (by omega) hl h6
  simp [b36]
  rw [compP Cn.d cs (fun c => c.yes?.isSome) Cn.pd (by simp) (by simp) (by simp; omega) ?_]
  · rw [← ys_map]
    simp [e]
  · intro c hc
    cases c <;> simp [Cn.d, Cn.yes?, Cn.pd]
theorem law_yes_spec (r : Rl) (hl : r.cs.length ≤ 1000) : evF tb (n + 1) 38 [r.d] st = some (.lst (r.ps.map Pat.d), st) := by
  rw [evF_run (d := b38) rfl rfl (by decide)]
  simp [b38]
  rw [compP Cn.d r.cs (fun c => c.yes?.isSome) Cn.pd (by simp) (by simp) (by simp; omega) ?_]
  · simp [ps_map]
  · intro c hc
    cases c <;> simp [Cn.d, Cn.yes?, Cn.pd]
def deedWords (l : List Str) : Prop := l ≠ [] ∧ ∀ w ∈ l, w = "drop" ∨ w = "halt" ∨ w = "make" ∨ w = "stand"
def DeedsInv (b : Bool) (cs : List Cn) (kinds : List (Str × Nat)) (values : List Tm) (words : List Str) (rest : List D) (i : Nat) (s : S) : Prop := ∃ (is : List Nat) (ds : List Dd) (ys : List Int) (a c d : Sl), is.Nodup ∧ (∀ j ∈ is, j < (ysOf cs).length) ∧ is.length ≤ i ∧ ds.length ≤ i ∧ (∀ x ∈ ds, DdOf (ysOf cs).length kinds (psWords (ysOf cs)) values x) ∧
    s = ⟨[.v (.ref 0), .v (rowD b (cs.map Cn.d)), .v (.lst (kinds.map kindD)), .v (.lst (values.map Tm.d)), .v (.lst (words.map .str)), .v (.lst ((psWords (ysOf cs)).map .str)), .v (.int (ysOf cs).length), .un, .o (.lst (is.map fun (j : Nat) => .int (j : Int))), .o (.lst (ds.map Dd.d)), a, c, d, .un], dr ys rest⟩
theorem deeds_gen (b : Bool) (cs : List Cn) (kinds : List (Str × Nat)) (values : List Tm) (words : List Str) (hn : cs.length ≤ 100) (hl : ∀ p ∈ ysOf cs, p.ts.length ≤ 1000) (h6 : ((ysOf cs).flatMap Pat.ts).length < 64) (hk : kinds ≠ []) (hk' : ∀ q ∈ kinds, q.2 ≤ 1000) (hv : values ≠ []) (hw : deedWords words) :
    Gen (evF tb (n + 5)) 37 [rowD b (cs.map Cn.d), .lst (kinds.map kindD), .lst (values.map Tm.d), .lst (words.map .str)] fun d => ∃ ds : List Dd, d = .tup (ds.map Dd.d) ∧ ds.length ≤ 4 ∧ ∀ x ∈ ds, DdOf (ysOf cs).length kinds (psWords (ysOf cs)) values x := by
  intro xs rest
  rw [evF_run (d := b37) rfl rfl (by decide)]
  have hy : (ysOf cs).length ≤ cs.length := List.length_filterMap_le _ _
  have e := bound_by_spec (n := n + 2) (st := dr xs rest) b cs (by omega) hl h6
  have ec : ∀ a c, evE (evF tb (n + 4)) (.comp (.one 7) .seq (.cons (.var 1) .nil) (.cons (.cmp .eq (.idx (.var 7) (.cst (.int 0))) (.cst (.str "yes"))) .nil) (.var 7)) ⟨[.v (.ref 0), .v (rowD b (cs.map Cn.d)), .v (.lst (kinds.map kindD)), .v (.lst (values.map Tm.d)), .v (.lst (words.map .str)), a, c, .un, .un, .un, .un, .un, .un, .un], dr xs rest⟩ =
      some (.lst ((cs.filter fun c => c.yes?.isSome).map Cn.d), ⟨[.v (.ref 0), .v (rowD b (cs.map Cn.d)), .v (.lst (kinds.map kindD)), .v (.lst (values.map Tm.d)), .v (.lst (words.map .str)), a, c, .un, .un, .un, .un, .un, .un, .un], dr xs rest⟩) := by
    intro a c
    refine compP Cn.d cs (fun c => c.yes?.isSome) Cn.d (by simp) (by simp) (by simp; omega) ?_
    intro c hc
    cases c <;> simp [Cn.d, Cn.yes?]
  have ecl : (cs.filter fun c => c.yes?.isSome).length = (ysOf cs).length := by
    have := congrArg List.length (ys_map cs)
    rw [List.length_map, List.length_map] at this
    exact this.symm
  simp [b37, e, ec, ecl]
  refine ok_mono (loopD_ok 4 (DeedsInv b cs kinds values words rest) ?_ ?_) ?_
  · simp
    refine (pick_gen (n := n + 2) [.int 1, .int 2, .int 0, .int 1, .int 3, .int 4] (by simp)).bnd fun e zs he => ?_
    have : ∃ j : Nat, e = .int (j : Int) ∧ j ≤ 4 := by
      simp only [List.mem_cons, List.not_mem_nil, or_false] at he
      rcases he with h | h | h | h | h | h
      · exact ⟨1, h, by omega⟩
      · exact ⟨2, h, by omega⟩
      · exact ⟨0, h, by omega⟩
      · exact ⟨1, h, by omega⟩
      · exact ⟨3, h, by omega⟩
      · exact ⟨4, h, by omega⟩
    obtain ⟨j, rfl, hj⟩ := this
    simp [it_range (show j ≤ 100000 by omega)]
    exact ⟨hj, [], [], zs, _, _, _, List.nodup_nil, by simp, by simp, by simp, by simp, rfl⟩
  · rintro i d s2 hi ⟨is, ds, ys, a, c, d', h1, h2, h3, h4, h5, rfl⟩
    rw [bindT_one, ok_some]
    refine seq_ok (fun s => ∃ (w : Str) (ys : List Int), w ∈ words ∧ s = ⟨[.v (.ref 0), .v (rowD b (cs.map Cn.d)), .v (.lst (kinds.map kindD)), .v (.lst (values.map Tm.d)), .v (.lst (words.map .str)), .v (.lst ((psWords (ysOf cs)).map .str)), .v (.int (ysOf cs).length), .un, .o (.lst (is.map fun (j : Nat) => .int (j : Int))), .o (.lst (ds.map Dd.d)), .v d, .v (.str w), d', .un], dr ys rest⟩) ?_ ?_
    · simp
      refine (pick_gen (n := n + 2) (words.map .str) (by simpa using hw.1)).bnd fun e zs he => ?_
      obtain ⟨w, hw', rfl⟩ := List.mem_map.mp he
      simp
      exact ⟨_, hw', rfl, zs, rfl⟩
    · rintro s3 ⟨w, ys, hw', rfl⟩
      have hds : ds.length < 16777216 := by omega
      rcases hw.2 w hw' with rfl | rfl | rfl | rfl
      · by_cases hlt : is.length < (ysOf cs).length
        · have ecp : evE (evF tb (n + 4)) (.comp (.one 13) .range1 (.cons (.var 6) .nil) (.cons (.cmpV .notin (.var 13) 8) .nil) (.var 13)) ⟨[.v (.ref 0), .v (rowD b (cs.map Cn.d)), .v (.lst (kinds.map kindD)), .v (.lst (values.map Tm.d)), .v (.lst (words.map .str)), .v (.lst ((psWords (ysOf cs)).map .str)), .v (.int (ysOf cs).length), .un, .o (.lst (is.map fun (j : Nat) => .int (j : Int))), .o (.lst (ds.map Dd.d)), .v d, .v (.str "drop"), d', .un], dr ys rest⟩
              = some (.lst (((List.range (ysOf cs).length).filter fun j => decide (j ∉ is)).map fun (j : Nat) => .int (j : Int)), ⟨[.v (.ref 0), .v (rowD b (cs.map Cn.d)), .v (.lst (kinds.map kindD)), .v (.lst (values.map Tm.d)), .v (.lst (words.map .str)), .v (.lst ((psWords (ysOf cs)).map .str)), .v (.int (ysOf cs).length), .un, .o (.lst (is.map fun (j : Nat) => .int (j : Int))), .o (.lst (ds.map Dd.d)), .v d, .v (.str "drop"), d', .un], dr ys rest⟩) := by
            refine compP (fun (j : Nat) => .int (j : Int)) (List.range (ysOf cs).length) (fun j => decide (j ∉ is)) (fun (j : Nat) => .int (j : Int)) (by simp [it_range (show (ysOf cs).length ≤ 100000 by omega)]) (by simp) (by rw [sizeL, List.length_range]; omega) ?_
            intro j hj
            have e1 := E_niL (j : Int) (is.map fun (j : Nat) => (j : Int))
            rw [List.map_map] at e1
            have e2 : (decide ((j : Int) ∈ is.map fun (j : Nat) => (j : Int))) = decide (j ∈ is) := by
              congr 1
              apply propext
              constructor
              · intro h
                obtain ⟨k, hk, e⟩ := List.mem_map.mp h
                have : k = j := by omega
                exact this ▸ hk
              · exact fun h => List.mem_map.mpr ⟨j, h, rfl⟩
            rw [e2] at e1
            have e3 : cmpD .notin (.int (j : Int)) (.lst (is.map fun (j : Nat) => .int (j : Int))) = some (!decide (j ∈ is)) := e1
            simp [e3]
          have hne : ((List.range (ysOf cs).length).filter fun j => decide (j ∉ is)) ≠ [] := by
            intro h0
            rw [List.filter_eq_nil_iff] at h0
            have := nodup_le (List.range (ysOf cs).length) is List.nodup_range (fun j hj => by simpa using h0 j hj)
            rw [List.length_range] at this
            omega
          have hjs : ∀ j ∈ (List.range (ysOf cs).length).filter (fun j => decide (j ∉ is)), j < (ysOf cs).length ∧ j ∉ is := by
            intro j hj
            obtain ⟨hj1, hj2⟩ := List.mem_filter.mp hj
            exact ⟨List.mem_range.mp hj1, by simpa using hj2⟩
          generalize (List.range (ysOf cs).length).filter (fun j => decide (j ∉ is)) = js at ecp hne hjs
          simp [hlt, ecp]
          refine (pick_gen (n := n + 2) (js.map fun (j : Nat) => .int (j : Int)) (by simpa using hne)).bnd fun e zs he => ?_
          obtain ⟨j, hj, rfl⟩ := List.mem_map.mp he
          obtain ⟨hj1', hj2'⟩ := hjs j hj
          simp
          refine ⟨fun _ => ⟨fun _ => ⟨is ++ [j], ds ++ [.drop j], zs, _, _, _, ?_, ?_, by simp; omega, by simp; omega, ?_, by simp [Dd.d]; exact ⟨rfl, rfl, rfl⟩⟩, hds⟩, by omega⟩
          · rw [List.nodup_append]
            refine ⟨h1, by simp, ?_⟩
            intro x hx y hy
            rw [List.mem_singleton] at hy
            subst hy
            exact fun e => hj2' (e ▸ hx)
          · intro x hx
            rcases List.mem_append.mp hx with h | h
            · exact h2 x h
            · rw [List.mem_singleton] at h; omega
          · intro x hx
            rcases List.mem_append.mp hx with h | h
            · exact h5 x h
            · rw [List.mem_singleton] at h; subst h; exact hj1'
        · simp [hlt]
          exact ⟨is, ds, ys, _, _, _, h1, h2, by omega, by omega, h5, rfl⟩
      · simp
        refine ⟨fun _ => ⟨is, ds ++ [.halt], ys, _, _, _, h1, h2, by omega, by simp; omega, ?_, by simp [Dd.d]; exact ⟨rfl, rfl, rfl⟩⟩, hds⟩
        intro x hx
        rcases List.mem_append.mp hx with h | h
        · exact h5 x h
        · rw [List.mem_singleton] at h; subst h; trivial
      · simp
        refine (pattern_gen (n := n) kinds (psWords (ysOf cs)) values hk hk' hv).bnd fun e zs he => ?_
        obtain ⟨p, rfl, hp⟩ := he
        simp
        refine ⟨fun _ => ⟨is, ds ++ [.make p], zs, _, _, _, h1, h2, by omega, by simp; omega, ?_, by simp [Dd.d]; exact ⟨rfl, rfl, rfl⟩⟩, hds⟩
        intro x hx
        rcases List.mem_append.mp hx with h | h
        · exact h5 x h
        · rw [List.mem_singleton] at h; subst h; exact hp
      · simp
        refine (pattern_gen (n := n) kinds (psWords (ysOf cs)) values hk hk' hv).bnd fun e zs he => ?_
        obtain ⟨p, rfl, hp⟩ := he
        simp
        refine ⟨fun _ => ⟨is, ds ++ [.stand p], zs, _, _, _, h1, h2, by omega, by simp; omega, ?_, by simp [Dd.d]; exact ⟨rfl, rfl, rfl⟩⟩, hds⟩
        intro x hx
        rcases List.mem_append.mp hx with h | h
        · exact h5 x h
        · rw [List.mem_singleton] at h; subst h; exact hp
  · rintro ⟨fl, s⟩ ⟨g1, m, hm, is, ds, ys, a, c, d', h1, h2, h3, h4, h5, rfl⟩
    simp only at g1
    subst g1
    simp
    exact ⟨⟨ds, rfl, by omega, h5⟩, ys, rfl⟩
end K87

-- K87N
set_option autoImplicit true
set_option Elab.async false
set_option linter.all false
set_option maxRecDepth 100000
set_option maxHeartbeats 400000
namespace K87
open PySem PyProof.Rows Ev
variable {n : Nat} {st : List D}
theorem few_values_gen (w : Str) (hw : wordB w = true) (hwl : w.length ≤ 50) (many : Int) (hm : many = 1 ∨ many = 2) : Gen (evF tb (n + 3)) 40 [.str w, .int many] fun d => ∃ vs : List Tm, d = .lst (vs.map Tm.d) ∧ vs ≠ [] ∧ vs.length ≤ 2 ∧ ∀ v ∈ vs, VOk v := by
  intro xs rest
  rw [evF_run (d := b40) rfl rfl (by decide)]
  have hwa : wordB (w ++ ("a" : Str)) = true := wordB_app hw (by decide +kernel)
  have hwaa : wordB (w ++ ("aa" : Str)) = true := wordB_app hw (by decide +kernel)
  have la : (Str.ofString "a").length = 1 := by decide +kernel
  have laa : (Str.ofString "aa").length = 2 := by decide +kernel
  have vw : VOk (.str w) := vok_str hw (by omega)
  have va : VOk (.str (w ++ ("a" : Str))) := vok_str hwa (by rw [len_app, la]; omega)
  have vaa : VOk (.str (w ++ ("aa" : Str))) := vok_str hwaa (by rw [len_app, laa]; omega)
  have l1 : w.length + 1 ≤ 16777216 := by omega
  have l2 : w.length + 2 ≤ 16777216 := by omega
  simp only [b40]
  rw [ok_bnd]
  refine seq_ok (fun s => ∃ (t : Tm) (ys : List Int), VOk t ∧ s = ⟨[.v (.ref 0), .v (.str w), .v (.int many), .v t.d, .un], dr ys rest⟩) ?_ ?_
  · simp
    refine (take_gen (n := n + 1) 12 (by decide)).bnd fun e zs he => ?_
    obtain ⟨k, rfl, k0, k1⟩ := he
    simp
    refine (take_gen (n := n + 1) 5 (by decide)).bnd fun e zs he => ?_
    obtain ⟨k', rfl, k2, k3⟩ := he
    simp
    refine (pick_gen _ (by simp)).bnd fun e zs he => ?_
    simp only [List.mem_cons, List.not_mem_nil, or_false] at he
    have ht : ∃ t : Tm, e = t.d ∧ VOk t := by
      rcases he with h | h | h | h
      · exact ⟨.int _, h, vok_int _⟩
      · exact ⟨.int _, h, vok_int _⟩
      · exact ⟨.str _, h, vw⟩
      · exact ⟨.int _, h, vok_int _⟩
    obtain ⟨t, rfl, ht⟩ := ht
    simp
    exact ⟨t, ht, rfl, zs, rfl⟩
  · rintro s1 ⟨t, ys, ht, rfl⟩
    refine seq_ok (fun s => ∃ (u : Tm) (ys : List Int), VOk u ∧ s = ⟨[.v (.ref 0), .v (.str w), .v (.int many), .v t.d, .v u.d], dr ys rest⟩) ?_ ?_
    · simp [la, laa, l1, l2]
      refine (take_gen (n := n + 1) 9 (by decide)).bnd fun e zs he => ?_
      obtain ⟨k, rfl, k0, k1⟩ := he
      simp [la, laa, l1, l2]
      refine (pick_gen _ (by simp)).bnd fun e zs he => ?_
      simp only [List.mem_cons, List.not_mem_nil, or_false] at he
      have ht : ∃ t : Tm, e = t.d ∧ VOk t := by
        rcases he with h | h | h | h
        · exact ⟨.int _, h, vok_int _⟩
        · exact ⟨.str _, h, va⟩
        · exact ⟨.int _, h, vok_int _⟩
        · exact ⟨.str _, h, vaa⟩
      obtain ⟨t, rfl, ht⟩ := ht
      simp
      exact ⟨t, ht, rfl, zs, rfl⟩
    rintro s1 ⟨u, ys, hu, rfl⟩
    refine seq_ok (fun s => ∃ (u : Tm) (ys : List Int), VOk u ∧ s = ⟨[.v (.ref 0), .v (.str w), .v (.int many), .v t.d, .v u.d], dr ys rest⟩) ?_ ?_
    · have ei := is_int_gd (n := n + 1) (st := dr ys rest) t.d (Emb.gd t)
      simp [ei]
      cases t with
      | int j =>
        simp [isNum, Tm.d]
        refine (take_gen (n := n + 1) 2 (by decide)).bnd fun e zs he => ?_
        obtain ⟨k, rfl, k0, k1⟩ := he
        simp
        refine ⟨fun _ => ?_, fun _ => ⟨u, hu, rfl, zs, rfl⟩⟩
        refine (take_gen (n := n + 1) 3 (by decide)).bnd fun e zs he => ?_
        obtain ⟨k', rfl, k0, k1⟩ := he
        simp
        exact ⟨.int (j + 1 + k'), vok_int _, rfl, zs, rfl⟩
      | str x =>
        simp [isNum, Tm.d]
        exact ⟨u, hu, rfl, ys, rfl⟩
      | var x => cases ht.1
    rintro s1 ⟨u, ys, hu, rfl⟩
    rcases hm with rfl | rfl
    · have ec : Ev.cutD [t.d, u.d] none (some 1) = [t.d] := cutD_to [t.d, u.d] 1
      simp [ec]
      exact ⟨⟨[t], rfl, by simp, by simp, by simpa using ht⟩, ys, rfl⟩
    · have ec : Ev.cutD [t.d, u.d] none (some 2) = [t.d, u.d] := cutD_to [t.d, u.d] 2
      simp [ec]
      exact ⟨⟨[t, u], rfl, by simp, by simp, by simpa using ⟨ht, hu⟩⟩, ys, rfl⟩
theorem erase_perm {l : List D} {j : Nat} (h : j < l.length) : (l[j] :: l.eraseIdx j).Perm l := by
  rw [List.eraseIdx_eq_take_drop_succ]
  have e : l = l.take j ++ l[j] :: l.drop (j + 1) := by
    rw [← List.drop_eq_getElem_cons h, List.take_append_drop]
  conv => rhs; rw [e]
  exact List.perm_middle.symm
def ShInv (row : List D) (rest : List D) (i : Nat) (s : S) : Prop := ∃ (left told : List D) (ys : List Int) (a : Sl), told.length = i ∧ (told ++ left).Perm row ∧ s = ⟨[.v (.ref 0), .v (.lst row), .o (.lst left), .o (.lst told), a], dr ys rest⟩
theorem shuffled_gen (row : List D) (hl : row.length ≤ 1000) : Gen (evF tb (n + 2)) 28 [.lst row] fun d => ∃ zs, d = .lst zs ∧ zs.Perm row := by
  intro xs rest
  rw [evF_run (d := b28) rfl rfl (by decide)]
  simp [b28]
  refine ok_mono (loop_ok (items := (List.range row.length).map fun (k : Nat) => .int (k : Int)) (ShInv row rest) (fun _ => False) (fun _ _ => False) ?_ ?_) ?_
  · simp [it_range (show row.length ≤ 100000 by omega)]
    exact ⟨row, [], xs, _, rfl, by simp, rfl⟩
  · rintro i d s2 hd ⟨left, told, ys, a, h1, h2, rfl⟩
    have hi : i < row.length := by
      have := (List.getElem?_eq_some_iff.mp hd).1
      simpa using this
    have hll : left.length + i = row.length := by
      have := h2.length_eq
      rw [List.length_append] at this
      omega
    simp
    refine (take_gen (n := n) left.length (by omega)).bnd fun e zs he => ?_
    obtain ⟨k, rfl, k0, k1⟩ := he
    obtain ⟨j, rfl⟩ := Int.eq_ofNat_of_zero_le k0
    have hj : j < left.length := by omega
    simp [m_pop1 hj (by rw [sizeL]; omega)]
    refine ⟨fun _ => ⟨left.eraseIdx j, told ++ [left[j]], zs, _, by simp [h1], ?_, rfl⟩, by omega⟩
    rw [List.append_assoc, List.singleton_append]
    exact ((erase_perm hj).append_left told).trans h2
  · rintro ⟨fl, s⟩ (⟨g1, g2 | g2⟩ | ⟨v, g1, g2⟩)
    · obtain ⟨left, told, ys, a, h1, h2, rfl⟩ := g2
      simp only at g1
      subst g1
      have hll := h2.length_eq
      rw [List.length_append] at hll
      rw [List.length_map, List.length_range] at h1
      have : left = [] := List.length_eq_zero_iff.mp (by omega)
      subst this
      simp
      exact ⟨by simpa using h2, ys, rfl⟩
    · exact g2.elim
    · exact g2.elim
end K87

-- K87P
set_option autoImplicit true
set_option Elab.async false
set_option linter.all false
set_option maxRecDepth 100000
set_option maxHeartbeats 400000
namespace K87
open PySem PyProof.Rows Ev
variable {n : Nat} {st : List D}
def pathD (q : List D × Nat) : D := .lst [.tup q.1, .int q.2]
def SpA (N : Nat) (thing : D) (rest : List D) (i : Nat) (s : S) : Prop := ∃ (path : List (List D × Nat)) (here : D) (ys : List Int) (a b : Sl), path.length ≤ i ∧ (∀ q ∈ path, D.pt 100 N (.tup q.1) = true) ∧ D.pt 100 N here = true ∧
  s = ⟨[.v (.ref 0), .v thing, .o (.lst (path.map pathD)), .v here, a, b, .un, .un], dr ys rest⟩
def SpM (N : Nat) (thing : D) (rest : List D) (s : S) : Prop := ∃ (path : List (List D × Nat)) (here new : D) (ys : List Int) (a b : Sl), path.length ≤ 8 ∧ (∀ q ∈ path, D.pt 100 N (.tup q.1) = true) ∧ D.pt 1000 (N + 2) new = true ∧
  s = ⟨[.v (.ref 0), .v thing, .o (.lst (path.map pathD)), .v here, a, b, .v new, .un], dr ys rest⟩
def SpB (N : Nat) (thing here a : Sl) (path : List (List D × Nat)) (st : List D) (i : Nat) (s : S) : Prop := ∃ (new : D) (b c : Sl), D.pt 1000 (N + 2 + i) new = true ∧ s = ⟨[.v (.ref 0), thing, .v (.lst (path.map pathD)), here, a, b, .v new, c], st⟩
theorem pt_sub {N : Nat} {xs ys : List D} (h : D.pt 100 N (.tup xs) = true) (hy : ∀ y ∈ ys, y ∈ xs ∨ D.pt 1000 (N + 1) y = true) (hl : ys.length ≤ 1000) : D.pt 1000 (N + 2) (.tup ys) = true := by
  cases N with
  | zero => simp [D.pt] at h
  | succ N =>
    obtain ⟨h1, h2⟩ := pt_tup.mp h
    refine pt_tup.mpr ⟨hl, fun y hq => ?_⟩
    rcases hy y hq with q | q
    · exact pt_mono (by omega) y (by omega) (h2 y q)
    · exact q
theorem spoilt_gen (N : Nat) (thing : D) (ht : D.pt 100 N thing = true) : Gen (evF tb (n + 3)) 39 [thing] fun d => D.pt 1000 (N + 10) d = true := by
  intro xs rest
  rw [evF_run (d := b39) rfl rfl (by decide)]
  simp only [b39]
  rw [ok_bnd]
  refine seq_ok (fun s => s = ⟨[.v (.ref 0), .v thing, .o (.lst []), .un, .un, .un, .un, .un], dr xs rest⟩) ?_ ?_
  · simp
  rintro s0 rfl
  refine seq_ok (SpA N thing rest 0) ?_ ?_
  · simp
    exact ⟨[], thing, xs, _, _, by simp, by simp, ht, rfl⟩
  rintro s0 hs0
  refine seq_ok (SpA N thing rest 8) ?_ ?_
  · refine ok_mono (loop_ok (items := (List.range 8).map fun (k : Nat) => .int (k : Int)) (SpA N thing rest) (SpA N thing rest 8) (fun _ _ => False) ?_ ?_) ?_
    · simp
      exact ⟨it_range (n := 8) (by omega), hs0⟩
    · rintro i d s2 hd ⟨path, here, ys, a, b, h1, h2, h3, rfl⟩
      have hi : i < 8 := by
        have := (List.getElem?_eq_some_iff.mp hd).1
        simpa using this
      obtain ⟨j, hj, rfl⟩ : ∃ j : Nat, i = j ∧ .int (j : Int) = d := by
        rw [List.getElem?_map] at hd
        obtain ⟨j, hj, e⟩ := Option.map_eq_some_iff.mp hd
        obtain ⟨h, e2⟩ := List.getElem?_eq_some_iff.mp hj
        rw [List.getElem_range] at e2
        exact ⟨j, e2, e⟩
      subst hj
      rw [bindT_one, ok_some]
      refine seq_br (fun s => ∃ (ws : List D) (ys : List Int), here = .tup ws ∧ 0 < ws.length ∧ s = ⟨[.v (.ref 0), .v thing, .o (.lst (path.map pathD)), .v (.tup ws), .v (.int (i : Int)), b, .un, .un], dr ys rest⟩) (SpA N thing rest 8) ?_ ?_ (fun _ h => h)
      · have hbr : ∀ ys, SpA N thing rest 8 ⟨[.v (.ref 0), .v thing, .o (.lst (path.map pathD)), .v here, .v (.int (i : Int)), b, .un, .un], dr ys rest⟩ := fun ys => ⟨path, here, ys, _, _, by omega, h2, h3, rfl⟩
        cases here with
        | tup ws =>
          by_cases hw : ws = []
          · subst hw
            simp
            exact hbr ys
          · have hw' : ¬ ws.length = 0 := fun e => hw (List.length_eq_zero_iff.mp e)
            by_cases hi0 : 0 < i
            · simp [hw, hi0]
              refine (take_gen (n := n + 1) 5 (by decide)).bnd fun e zs he => ?_
              obtain ⟨k, rfl, k0, k1⟩ := he
              simp
              exact ⟨fun _ => hbr zs, fun _ => ⟨by omega, zs, rfl⟩⟩
            · simp [hw, hi0]
              exact ⟨by omega, ys, rfl⟩
        | int j =>
          simp
          exact hbr ys
        | str j =>
          simp
          exact hbr ys
        | _ => cases N <;> simp [D.pt] at h3
      · rintro s3 ⟨ws, ys, rfl, hw, rfl⟩
        simp
        refine (take_gen (n := n + 1) ws.length (by omega)).bnd fun e zs he => ?_
        obtain ⟨k, rfl, k0, k1⟩ := he
        obtain ⟨q, rfl⟩ := Int.eq_ofNat_of_zero_le k0
        have hq : q < ws.length := by omega
        simp [atI_nat (List.getElem?_eq_getElem hq)]
        refine ⟨fun _ => ⟨path ++ [(ws, q)], ws[q], zs, _, _, by simp; omega, ?_, ?_, by simp [pathD]; exact ⟨rfl, rfl⟩⟩, by omega⟩
        · intro x hx
          rcases List.mem_append.mp hx with h | h
          · exact h2 x h
          · rw [List.mem_singleton] at h; subst h; exact h3
        · cases N with
          | zero => simp [D.pt] at h3
          | succ N => exact pt_mono (by omega) _ (by omega) ((pt_tup.mp h3).2 _ (List.getElem_mem hq))
    · rintro r (⟨g1, g2 | g2⟩ | ⟨v, g1, g2⟩)
      · exact ⟨g1, g2⟩
      · exact ⟨g1, g2⟩
      · exact g2.elim
  rintro s0 ⟨path, here, ys, a, b, h1, h2, h3, rfl⟩
  refine seq_ok (SpM N thing rest) ?_ ?_
  · cases here with
    | tup ws =>
      have hwl : ws.length ≤ 100 := by
        cases N with
        | zero => simp [D.pt] at h3
        | succ N => exact (pt_tup.mp h3).1
      simp
      refine (take_gen (n := n + 1) (ws.length + 1) (by omega)).bnd fun e zs he => ?_
      obtain ⟨k, rfl, k0, k1⟩ := he
      have c1 := cutD_len ws none (some k)
      have c2 := cutD_len ws (some k) none
      have c3 := cutD_len ws (some (k + 1)) none
      have c4 := cutD_len (Ev.cutD ws (some k) none) none (some 1)
      simp
      refine imp_and (by omega) (imp_and (by omega) (imp_and (by omega) (imp_and (by omega) (imp_and (by omega) (imp_and (by omega) (imp_and (by omega) ?_))))))
      refine (pick_gen _ (by simp)).bnd fun e zs he => ?_
      refine ⟨path, .tup ws, e, zs, _, _, h1, h2, ?_, rfl⟩
      simp only [List.mem_cons, List.not_mem_nil, or_false] at he
      have m1 : ∀ y ∈ Ev.cutD ws none (some k), y ∈ ws := fun y hy => cutD_mem hy
      have m2 : ∀ y ∈ Ev.cutD ws (some k) none, y ∈ ws := fun y hy => cutD_mem hy
      have m3 : ∀ y ∈ Ev.cutD ws (some (k + 1)) none, y ∈ ws := fun y hy => cutD_mem hy
      have m4 : ∀ y ∈ Ev.cutD (Ev.cutD ws (some k) none) none (some 1), y ∈ ws := fun y hy => m2 y (cutD_mem hy)
      rcases he with h | h | h | h | h | h
      · subst h
        refine pt_sub h3 (fun y hy => .inl ?_) (by simp; omega)
        rcases List.mem_append.mp hy with q | q
        · exact m1 y q
        · exact m3 y q
      · subst h
        refine pt_sub h3 (fun y hy => .inl ?_) (by simp; omega)
        rcases List.mem_append.mp hy with q | q
        · exact m1 y q
        · rcases List.mem_append.mp q with q | q
          · exact m4 y q
          · exact m2 y q
      · subst h
        refine pt_sub h3 (fun y hy => .inl ?_) (by simp; omega)
        rcases List.mem_append.mp hy with q | q
        · exact m2 y q
        · exact m1 y q
      · subst h
        refine pt_sub h3 (fun y hy => ?_) (by simp; omega)
        rcases List.mem_append.mp hy with q | q
        · exact .inl q
        · rw [List.mem_singleton] at q
          subst q
          exact .inr (by simp [D.pt, D.pts])
      · subst h
        simp [D.pt, D.pts]
      · subst h
        refine pt_sub h3 (fun y hy => ?_) (by simp; omega)
        rcases List.mem_append.mp hy with q | q
        · exact .inl (m1 y q)
        · rcases List.mem_cons.mp q with q | q
          · subst q
            exact .inr (by simp [D.pt])
          · exact .inl (m3 y q)
    | str w =>
      have hwl : w.length ≤ 100 := by cases N <;> simp [D.pt] at h3 <;> exact h3
      have la : (Str.ofString "a").length = 1 := by decide +kernel
      have lb : (Str.ofString "blocked").length = 7 := by decide +kernel
      have lc : (Str.ofString "one").length = 3 := by decide +kernel
      have ld : (Str.ofString "step").length = 4 := by decide +kernel
      have cs := cutS_len w (some 1) none
      simp
      refine imp_and (by omega) (imp_and (by omega) ?_)
      refine (pick_gen _ (by simp)).bnd fun e zs he => ?_
      refine ⟨path, .str w, e, zs, _, _, h1, h2, ?_, rfl⟩
      simp only [List.mem_cons, List.not_mem_nil, or_false] at he
      rcases he with h | h | h | h | h | h <;> subst h <;> simp only [D.pt, decide_eq_true_iff]
      · rw [len_app]; omega
      · omega
      · omega
      · omega
      · omega
    | int w =>
      have la : (Str.ofString "a").length = 1 := by decide +kernel
      simp
      refine (pick_gen _ (by simp)).bnd fun e zs he => ?_
      refine ⟨path, .int w, e, zs, _, _, h1, h2, ?_, rfl⟩
      simp only [List.mem_cons, List.not_mem_nil, or_false] at he
      rcases he with h | h | h | h | h | h | h | h <;> subst h <;> simp [D.pt, D.pts, la]
    | _ => cases N <;> simp [D.pt] at h3
  rintro s0 ⟨path, here, new, ys, a, b, h1, h2, h3, rfl⟩
  simp
  refine ok_mono (loop_ok (items := path.reverse.map pathD) (SpB N (.v thing) (.v here) a path.reverse (dr ys rest)) (fun _ => False) (fun _ _ => False) ?_ ?_) ?_
  · simp
    exact ⟨new, _, _, h3, by rw [List.map_reverse]⟩
  · rintro i d s2 hd ⟨nw, b, c, hn, rfl⟩
    obtain ⟨q, hq, rfl⟩ : ∃ q, path.reverse[i]? = some q ∧ pathD q = d := by
      rw [List.getElem?_map] at hd
      obtain ⟨q, hq, e⟩ := Option.map_eq_some_iff.mp hd
      exact ⟨q, hq, e⟩
    have hqm : q ∈ path := List.mem_reverse.mp (List.mem_of_getElem? hq)
    have hq2 := h2 q hqm
    have hql : q.1.length ≤ 100 := by
      cases N with
      | zero => simp [D.pt] at hq2
      | succ N => exact (pt_tup.mp hq2).1
    obtain ⟨zs, e1, e2, e3⟩ := put_spec (n := n + 1) (st := dr ys rest) q.1 q.2 nw (by omega)
    simp [pathD, e1]
    refine ⟨.tup zs, .v (.int q.2), .v (.tup q.1), pt_tup.mpr ⟨by omega, fun y hy => ?_⟩, by rw [List.map_reverse]⟩
    rcases e3 y hy with h | h
    · cases N with
      | zero => simp [D.pt] at hq2
      | succ N => exact pt_mono (by omega) y (show N ≤ N + 1 + 2 + i by omega) ((pt_tup.mp hq2).2 y h)
    · exact h ▸ hn
  · rintro ⟨fl, s⟩ (⟨g1, g2 | g2⟩ | ⟨v, g1, g2⟩)
    · obtain ⟨nw, b, c, hn, rfl⟩ := g2
      simp only at g1
      subst g1
      simp
      rw [List.length_map, List.length_reverse] at hn
      exact ⟨pt_mono (Nat.le_refl _) nw (by omega) hn, ys, rfl⟩
    · exact g2.elim
    · exact g2.elim
end K87

-- K87Q
set_option autoImplicit true
set_option Elab.async false
set_option linter.all false
set_option maxRecDepth 100000
set_option maxHeartbeats 400000
namespace K87
open PySem PyProof.Rows Ev
variable {n : Nat} {st : List D}
theorem rank_int (i : Int) : evF tb (n + 1) 32 [.tup [.int i]] st = some (.tup [.tup [.int 0, .int i, .str ""]], st) := by
  rw [evF_run (d := b32) rfl rfl (by decide)]
  simp [b32]
  rw [loop_one (d := .int i) (s2 := ⟨[.v (.tup [.int i]), .o (.lst [.tup [.int 0, .int i, .str ""]]), .v (.int i)], st⟩) (by simp) (by simp)]
  simp
theorem rank_str (i : Str) : evF tb (n + 1) 32 [.tup [.str i]] st = some (.tup [.tup [.int 1, .int 0, .str i]], st) := by
  rw [evF_run (d := b32) rfl rfl (by decide)]
  simp [b32]
  rw [loop_one (d := .str i) (s2 := ⟨[.v (.tup [.str i]), .o (.lst [.tup [.int 1, .int 0, .str i]]), .v (.str i)], st⟩) (by simp) (by simp)]
  simp
theorem term_rank_spec (t : Tm) : evF tb (n + 2) 41 [t.d] st = some (trank t, st) := by
  rw [evF_run (d := b41) rfl rfl (by decide)]
  cases t with
  | int i => simp [b41, Tm.d, trank, rank_int]
  | str i => simp [b41, Tm.d, trank, rank_str]
  | var i => simp [b41, Tm.d, trank]
theorem put_terms_spec (p : Pat) (σ : Nm) (hl : p.ts.length ≤ 1000) (h : ∀ x ∈ p.names, hasK σ x = true) : evF tb (n + 1) 42 [p.d, nmD σ] st = some ((p.by σ).d, st) := by
  rw [evF_run (d := b42) rfl rfl (by decide)]
  apply eq_ok
  simp [b42]
  refine ok_mono (loopP Tm.d p.ts (fun a t => a ++ [t.by σ]) [] (fun a s => ∃ z, s = ⟨[.v p.d, .v (nmD σ), .o (.lst (a.map Tm.d)), z], st⟩) (fun i a => a = (p.ts.take i).map (Tm.by σ)) ?_ ?_ ?_ ?_) ?_
  · simp
  · simp
  · rintro i a t ht rfl
    have et : p.ts.take (i + 1) = p.ts.take i ++ [t] := by rw [List.take_succ, ht]; rfl
    rw [et, List.map_append]
    rfl
  · rintro i a t s2 ht ha ⟨z, rfl⟩
    have hi := (List.getElem?_eq_some_iff.mp ht).1
    have hal : a.length < 16777216 := by rw [ha, List.length_map, List.length_take]; omega
    cases t with
    | var x =>
      have hx : x ∈ p.names := List.mem_filterMap.mpr ⟨_, List.mem_of_getElem? ht, rfl⟩
      have := h x hx
      rw [← lks_some] at this
      obtain ⟨v, hv⟩ := Option.isSome_iff_exists.mp this
      have e : (Tm.var x).d = .tup [.str "var", .str x] := rfl
      simp [e, nmD, hv, Tm.by, hal]
    | int j =>
      have e : (Tm.int j).d = .int j := rfl
      simp [e, Tm.by, hal]
    | str j =>
      have e : (Tm.str j).d = .str j := rfl
      simp [e, Tm.by, hal]
  · rintro ⟨fl, s⟩ ⟨h1, ⟨z, h2⟩, h3⟩
    simp only at h1 h2
    subst h1 h2
    rw [List.take_length] at h3
    rw [h3]
    simp [Pat.d, Pat.by]
theorem put_deeds_spec (r : Rl) (σ : Nm) (hr : RlOk r) (hσ : ∀ w ∈ rwords r, w ∈ σ.map (·.1)) :
    evF tb (n + 2) 43 [r.d, nmD σ] st = some (.lst ((r.ds.map (Dd.sd r.ps σ)).map Sd.d), st) := by
  rw [evF_run (d := b43) rfl rfl (by decide)]
  have h1 := hr.cs
  have h2 := hr.dl
  have hk : ∀ p : Pat, p.sub (rwords r) → ∀ x ∈ p.names, hasK σ x = true := fun p hp x hx => (hasK_iff σ x).mpr (hσ x (hp x hx))
  apply eq_ok
  simp [b43, law_yes_spec r (by omega), -List.map_map]
  refine ok_mono (loopP Dd.d r.ds (fun a d => a ++ [d.sd r.ps σ]) [] (fun a s => ∃ z, s = ⟨[.v r.d, .v (nmD σ), .v (.lst (r.ps.map Pat.d)), .o (.lst (a.map Sd.d)), z], st⟩) (fun i a => a = (r.ds.take i).map (Dd.sd r.ps σ)) ?_ ?_ ?_ ?_) ?_
  · simp
  · simp
  · rintro i a t ht rfl
    have et : r.ds.take (i + 1) = r.ds.take i ++ [t] := by rw [List.take_succ, ht]; rfl
    rw [et, List.map_append]
    rfl
  · rintro i a d s2 hd ha ⟨z, rfl⟩
    have hi := (List.getElem?_eq_some_iff.mp hd).1
    have hal : a.length < 16777216 := by rw [ha, List.length_map, List.length_take]; omega
    obtain ⟨hd1, hd2⟩ := hr.ds d (List.mem_of_getElem? hd)
    cases d with
    | halt => simp [Dd.d, Dd.sd, Sd.d, hal]
    | drop j =>
      have hj : j < r.ps.length := hd1
      have e1 : (r.ps.map Pat.d)[j]? = some (r.ps.getD j default).d := by simp [hj]
      have hm : r.ps.getD j default ∈ r.ps := by
        rw [List.getD_eq_getElem?_getD, List.getElem?_eq_getElem hj]
        exact List.getElem_mem hj
      have e2 := put_terms_spec (n := n) (st := st) (r.ps.getD j default) σ (by have := hr.tm _ hm; omega) (hk _ (ps_sub hm))
      simp [Dd.d, Dd.sd, Sd.d, hal, atI_nat e1, -List.getD_eq_getElem?_getD]
      simp [e2, hal, -List.getD_eq_getElem?_getD]
    | make p =>
      have e2 := put_terms_spec (n := n) (st := st) p σ (by have := hd2 p rfl; omega) (hk _ hd1)
      simp [Dd.d, Dd.sd, Sd.d, hal, e2]
    | stand p =>
      have e2 := put_terms_spec (n := n) (st := st) p σ (by have := hd2 p rfl; omega) (hk _ hd1)
      simp [Dd.d, Dd.sd, Sd.d, hal, e2]
  · rintro ⟨fl, s⟩ ⟨h1, ⟨z, h2⟩, h3⟩
    simp only at h1 h2
    subst h1 h2
    rw [List.take_length] at h3
    rw [h3]
    simp
theorem as_itself_spec (r : Rl) (hr : RlOk r) : evF tb (n + 3) 44 [r.d] st = some (nmD (own r), st) := by
  rw [evF_run (d := b44) rfl rfl (by decide)]
  have h1 := hr.cs
  have h2 := hr.tms
  have e := bound_by_spec (n := n) (st := st) true r.cs (by omega) (fun p hp => by have := hr.tm p hp; omega) (by show (r.ps.flatMap Pat.ts).length < 64; have : (r.ps.flatMap Pat.ts).length ≤ 8 := h2; omega)
  have ew : psWords (ysOf r.cs) = rwords r := rfl
  rw [ew] at e
  have e' : evF tb (n + 2) 36 [.tup (r.cs.map Cn.d)] st = some (.lst ((rwords r).map .str), st) := e
  have hwl := hr.words
  apply eq_ok
  simp [b44]
  refine ok_mono (loopP D.str (rwords r) (fun (a : Nm) w => put a w (.var w)) [] (fun a s => ∃ z, s = ⟨[.v r.d, .o (.dct (dctD Tm.d a)), z], st⟩) (fun i a => a.length ≤ i) ?_ ?_ ?_ ?_) ?_
  · simp [e', dctD]
  · simp
  · intro i a w hw ha
    unfold put
    split
    · rw [List.length_map]; omega
    · rw [List.length_append, List.length_singleton]; omega
  · rintro i a w s2 hw ha ⟨z, rfl⟩
    have hi := (List.getElem?_eq_some_iff.mp hw).1
    have ev : D.tup [.str "var", .str w] = (Tm.var w).d := rfl
    have es := st_dctN Tm.d a w (.var w)
    rw [← ev] at es
    simp [es, show a.length < 16777216 by omega]
  · rintro ⟨fl, s⟩ ⟨h1, ⟨z, h2⟩, -⟩
    simp only at h1 h2
    subst h1 h2
    simp [nmD, own]
end K87

-- K87R
set_option autoImplicit true
set_option Elab.async false
set_option linter.all false
set_option maxRecDepth 100000
set_option maxHeartbeats 400000
namespace K87
open PySem PyProof.Rows Ev
variable {n : Nat} {st : List D}
def rowT (row : List Tm) : D := .tup (row.map Tm.d)
theorem rows_len (T : List Tm) (ws : List Str) : (rowsN T ws).length = T.length ^ ws.length := by
  have : ∀ (ws : List Str) (f : List (List Tm)), (ws.foldl (fun found _ => found.flatMap fun row => T.map fun t => row ++ [t]) f).length = f.length * T.length ^ ws.length := by
    intro ws
    induction ws with
    | nil => intro f; simp
    | cons w ws ih =>
      intro f
      rw [List.foldl_cons, ih, List.length_cons, Nat.pow_succ]
      have e : (f.flatMap fun row => T.map fun t => row ++ [t]).length = f.length * T.length := by
        clear ih
        induction f with
        | nil => simp
        | cons x f ih => rw [List.flatMap_cons, List.length_append, ih, List.length_map, List.length_cons, Nat.add_mul]; omega
      rw [e, Nat.mul_assoc, Nat.mul_comm T.length]
  have := this ws [[]]
  simpa [rowsN] using this
theorem rows_take (T : List Tm) (ws : List Str) (i : Nat) (w : Str) (h : ws[i]? = some w) : rowsN T (ws.take (i + 1)) = (rowsN T (ws.take i)).flatMap fun row => T.map fun t => row ++ [t] := by
  have et : ws.take (i + 1) = ws.take i ++ [w] := by rw [List.take_succ, h]; rfl
  unfold rowsN
  rw [et, List.foldl_append]
  rfl
theorem rows_small (T : List Tm) (ws : List Str) (i : Nat) (hT : T.length ≤ 8) (hw : ws.length ≤ 3) : (rowsN T (ws.take i)).length ≤ 512 := by
  rw [rows_len]
  have h1 : T.length ^ (ws.take i).length ≤ 8 ^ (ws.take i).length := Nat.pow_le_pow_left hT _
  have h2 : 8 ^ (ws.take i).length ≤ 8 ^ 3 := Nat.pow_le_pow_right (by decide) (by rw [List.length_take]; omega)
  omega
theorem put_zip : ∀ (ws : List Str) (row : List Tm) (i : Nat), ws.Nodup → row.length = ws.length → i < ws.length → put ((ws.zip row).take i) (ws.getD i "") (row.getD i default) = (ws.zip row).take (i + 1) := by
  intro ws row i hn hl hi
  have hz : i < (ws.zip row).length := by rw [List.length_zip]; omega
  have hnot : hasK ((ws.zip row).take i) (ws.getD i "") = false := by
    cases hk : hasK ((ws.zip row).take i) (ws.getD i "") with
    | false => rfl
    | true =>
      have h1 := (hasK_iff _ _).mp hk
      have e : ((ws.zip row).take i).map (·.1) = ws.take i := by rw [List.map_take, zip_keys hl]
      rw [e, List.getD_eq_getElem?_getD, List.getElem?_eq_getElem hi, Option.getD_some] at h1
      obtain ⟨j, hj, e2⟩ := List.getElem_of_mem h1
      rw [List.length_take] at hj
      rw [List.getElem_take] at e2
      exact absurd e2 (List.pairwise_iff_getElem.mp hn j i (by omega) hi (by omega))
  have et : (ws.zip row).take (i + 1) = (ws.zip row).take i ++ [(ws.getD i "", row.getD i default)] := by
    have e3 : (ws.zip row)[i]? = some (ws.getD i "", row.getD i default) := by
      rw [List.getElem?_eq_getElem hz, List.getElem_zip]
      simp [List.getD_eq_getElem?_getD, List.getElem?_eq_getElem hi, List.getElem?_eq_getElem (show i < row.length by omega)]
    rw [List.take_succ, e3]
    rfl
  unfold put
  rw [hnot, et]
  rfl
def condN (r : Rl) (i : Nat) (pl : Rl) (row : List Tm) : Bool := pl.ps.all (fun p => decide (p.by ((rwords pl).zip row) ∈ r.ps)) && covers pl ((rwords pl).zip row) r i
theorem lawN_eq (T : List Tm) (r : Rl) (i : Nat) (pl : Rl) : lawN T r i pl = ((rowsN T (rwords pl)).filter (condN r i pl)).map fun row => (rwords pl).zip row := rfl
def NaT (r pl : Rl) (i : Nat) (due : D) (st : List D) (l : List Tm) (s : S) : Prop := ∃ a b : Sl, s = ⟨[.v r.d, .v (.int i), .v pl.d, .v due, .v (.lst (r.ps.map Pat.d)), .o (.lst (l.map Tm.d)), a, b, .un, .un, .un, .un, .un, .un, .un, .un, .un], st⟩ ∧ fr1 (some a) = true ∧ fr1 (some b) = true
def NaF (r pl : Rl) (i : Nat) (due : D) (T : List Tm) (st : List D) (f : List (List Tm)) (s : S) : Prop := ∃ a b c d e : Sl, s = ⟨[.v r.d, .v (.int i), .v pl.d, .v due, .v (.lst (r.ps.map Pat.d)), .o (.lst (T.map Tm.d)), a, b, .v (.lst ((rwords pl).map .str)), .v (.lst (f.map rowT)), c, d, e, .un, .un, .un, .un], st⟩ ∧ fr1 (some a) = true ∧ fr1 (some b) = true ∧ fr1 (some c) = true
def NaG (r pl : Rl) (i : Nat) (due : D) (T : List Tm) (st : List D) (f g : List (List Tm)) (nm : Str) (s : S) : Prop := ∃ a b e : Sl, s = ⟨[.v r.d, .v (.int i), .v pl.d, .v due, .v (.lst (r.ps.map Pat.d)), .o (.lst (T.map Tm.d)), a, b, .v (.lst ((rwords pl).map .str)), .v (.lst (f.map rowT)), .v (.str nm), .v (.lst (g.map rowT)), e, .un, .un, .un, .un], st⟩ ∧ fr1 (some a) = true ∧ fr1 (some b) = true
def NaL (r pl : Rl) (i : Nat) (due : D) (T : List Tm) (st : List D) (f : List (List Tm)) (ld : List Nm) (s : S) : Prop := ∃ a b c d e x y z : Sl, s = ⟨[.v r.d, .v (.int i), .v pl.d, .v due, .v (.lst (r.ps.map Pat.d)), .o (.lst (T.map Tm.d)), a, b, .v (.lst ((rwords pl).map .str)), .v (.lst (f.map rowT)), c, d, e, .o (.lst (ld.map toldD)), x, y, z], st⟩ ∧ fr1 (some a) = true ∧ fr1 (some c) = true
def NaK (r pl : Rl) (i : Nat) (due : D) (T : List Tm) (st : List D) (f : List (List Tm)) (ld : List Nm) (row : List Tm) (σ : Nm) (s : S) : Prop := ∃ a b c d y z : Sl, s = ⟨[.v r.d, .v (.int i), .v pl.d, .v due, .v (.lst (r.ps.map Pat.d)), .o (.lst (T.map Tm.d)), a, b, .v (.lst ((rwords pl).map .str)), .v (.lst (f.map rowT)), c, d, .v (rowT row), .o (.lst (ld.map toldD)), .o (nmD σ), y, z], st⟩ ∧ fr1 (some a) = true ∧ fr1 (some c) = true
def NaI (r pl : Rl) (i : Nat) (due : D) (T : List Tm) (st : List D) (f : List (List Tm)) (ld : List Nm) (row : List Tm) (σ : Nm) (s : S) : Prop := ∃ a b c d t y : Sl, (t = .o (nmD σ) ∨ t = .v (nmD σ)) ∧ s = ⟨[.v r.d, .v (.int i), .v pl.d, .v due, .v (.lst (r.ps.map Pat.d)), .o (.lst (T.map Tm.d)), a, b, .v (.lst ((rwords pl).map .str)), .v (.lst (f.map rowT)), c, d, .v (rowT row), .o (.lst (ld.map toldD)), t, y, .v (.lst (pl.ps.map fun p => .bl (decide (p.by σ ∈ r.ps))))], st⟩ ∧ fr1 (some a) = true ∧ fr1 (some c) = true
def NaC (r pl : Rl) (i : Nat) (due : D) (T : List Tm) (st : List D) (f : List (List Tm)) (ld : List Nm) (row : List Tm) (σ : Nm) (a b c d y z : Sl) (j : Nat) (acc : List D) (s : S) : Prop := ∃ x t : Sl, (t = .o (nmD σ) ∨ t = .v (nmD σ)) ∧ acc = (pl.ps.take j).map (fun p => .bl (decide (p.by σ ∈ r.ps))) ∧ s = ⟨[.v r.d, .v (.int i), .v pl.d, .v due, .v (.lst (r.ps.map Pat.d)), .o (.lst (T.map Tm.d)), x, b, .v (.lst ((rwords pl).map .str)), .v (.lst (f.map rowT)), c, d, .v (rowT row), .o (.lst (ld.map toldD)), t, y, z], st⟩
theorem namings_spec (r pl : Rl) (i : Nat) (hr : RlOk r) (hp : RlOk pl) (hi : i < r.ds.length) : evF tb (n + 4) 45 [r.d, .int i, pl.d] st = some (.lst ((rightL r i pl).map toldD), st) := by
  rw [evF_run (d := b45) rfl rfl (by decide)]
  have c1 := hr.cs
  have c2 := hp.cs
  have c3 := hr.tms
  have c4 := hp.tms
  have c5 := hp.wl
  have hps := hr.ps
  have e1 := as_itself_spec (n := n) (st := st) r hr
  have e2 := put_deeds_spec (n := n + 1) (st := st) r (own r) hr (fun w hw => by rw [own_eq, keys_mk]; exact hw)
  have e3 := law_yes_spec (n := n + 2) (st := st) r (by omega)
  have edue : ((r.ds.map (Dd.sd r.ps (own r))).map Sd.d)[i]? = some ((r.ds.getD i default).sd r.ps (own r)).d := by simp [hi]
  generalize hdue : (r.ds.getD i default).sd r.ps (own r) = due at edue
  apply eq_ok
  simp only [b45]
  rw [ok_bnd]
  refine seq_ok (fun s => s = ⟨[.v r.d, .v (.int i), .v pl.d, .v due.d, .un, .un, .un, .un, .un, .un, .un, .un, .un, .un, .un, .un, .un], st⟩) ?_ ?_
  · simp [e1, e2, atI_nat edue, -List.map_map]
  rintro s0 rfl
  refine seq_ok (fun s => s = ⟨[.v r.d, .v (.int i), .v pl.d, .v due.d, .v (.lst (r.ps.map Pat.d)), .un, .un, .un, .un, .un, .un, .un, .un, .un, .un, .un, .un], st⟩) ?_ ?_
  · simp [e3]
  rintro s0 rfl
  refine seq_ok (NaT r pl i due.d st []) ?_ ?_
  · simp
    exact ⟨_, _, rfl, rfl, rfl⟩
  rintro s0 hs0
  refine seq_ok (NaT r pl i due.d st (dedupT r.tms)) ?_ ?_
  · refine ok_mono (loopP Pat.d r.ps (fun a p => p.ts.foldl tstep a) [] (NaT r pl i due.d st) (fun i a => a.length ≤ 2 * i) ?_ (by simp) ?_ ?_) ?_
    · obtain ⟨a, b, rfl, ha, hb⟩ := hs0
      simp
      exact ⟨_, _, rfl, ha, hb⟩
    · intro j a p hp ha
      have := tfold_len p.ts a
      have := hr.tm p (List.mem_of_getElem? hp)
      omega
    · rintro j a p s2 hp ha ⟨x, y, rfl, hx, hy⟩
      have hpt := hr.tm p (List.mem_of_getElem? hp)
      have hj := (List.getElem?_eq_some_iff.mp hp).1
      rw [bindT_one, ok_some]
      simp
      refine ok_mono (loopP Tm.d p.ts tstep a (NaT r pl i due.d st) (fun i b => b.length ≤ a.length + i) ?_ (by simp) ?_ ?_) ?_
      · simp
        exact ⟨_, _, rfl, rfl, hy⟩
      · intro k b t ht hb
        unfold tstep
        split
        · omega
        · rw [List.length_append, List.length_singleton]; omega
      · rintro k b t s2 ht hb ⟨x, y, rfl, hx, hy⟩
        have hk := (List.getElem?_eq_some_iff.mp ht).1
        by_cases hm : t ∈ b
        · simp [hm]
          exact ⟨x, .v t.d, by unfold tstep; rw [if_pos hm], hx, rfl⟩
        · simp [hm, show b.length < 16777216 by omega]
          exact ⟨x, .v t.d, by unfold tstep; rw [if_neg hm]; simp, hx, rfl⟩
      · rintro ⟨fl, s⟩ ⟨g1, g2, -⟩
        simp only at g1
        subst g1
        simp
        exact g2
    · rintro ⟨fl, s⟩ ⟨g1, g2, -⟩
      refine ⟨g1, ?_⟩
      have : ∀ (ps : List Pat) (a : List Tm), ps.foldl (fun a p => p.ts.foldl tstep a) a = (ps.flatMap Pat.ts).foldl tstep a := by
        intro ps
        induction ps with
        | nil => intro a; rfl
        | cons p ps ih => intro a; rw [List.foldl_cons, ih, List.flatMap_cons, List.foldl_append]
      rw [this] at g2
      exact g2
  rintro s0 ⟨a, b, rfl, ha, hb⟩
  have hT := termsL_len r
  generalize hTT : termsL r = T at hT
  refine seq_ok (fun s => s = ⟨[.v r.d, .v (.int i), .v pl.d, .v due.d, .v (.lst (r.ps.map Pat.d)), .o (.lst (T.map Tm.d)), a, b, .un, .un, .un, .un, .un, .un, .un, .un, .un], st⟩) ?_ ?_
  · have es := sortK_ok (F := evF tb (n + 3)) (f := 41) (s := ⟨[.v r.d, .v (.int i), .v pl.d, .v due.d, .v (.lst (r.ps.map Pat.d)), .o (.lst ((dedupT r.tms).map Tm.d)), a, b, .un, .un, .un, .un, .un, .un, .un, .un, .un], st⟩) (a := .var 5) Tm.d trank (dedupT r.tms) (s1 := ⟨[.v r.d, .v (.int i), .v pl.d, .v due.d, .v (.lst (r.ps.map Pat.d)), .v (.lst ((dedupT r.tms).map Tm.d)), a, b, .un, .un, .un, .un, .un, .un, .un, .un, .un], st⟩) (by simp) (fun x hx => term_rank_spec x) (trank_KOk _)
    have eT : (dedupT r.tms).mergeSort (leT trank) = T := hTT
    rw [eT] at es
    simp [es]
  rintro s0 rfl
  refine seq_ok (fun s => s = ⟨[.v r.d, .v (.int i), .v pl.d, .v due.d, .v (.lst (r.ps.map Pat.d)), .o (.lst (T.map Tm.d)), a, b, .v (.lst ((rwords pl).map .str)), .un, .un, .un, .un, .un, .un, .un, .un], st⟩) ?_ ?_
  · have e := bound_by_spec (n := n + 1) (st := st) true pl.cs (by omega) (fun p hq => by have := hp.tm p hq; omega) (by show (pl.ps.flatMap Pat.ts).length < 64; have : (pl.ps.flatMap Pat.ts).length ≤ 8 := c4; omega)
    have e' : evF tb (n + 3) 36 [.tup (pl.cs.map Cn.d)] st = some (.lst ((rwords pl).map .str), st) := e
    simp [e']
  rintro s0 rfl
  have hwn := rwords_nodup pl
  have hsm := fun i => rows_small T (rwords pl) i (by omega) c5
  refine seq_ok (NaF r pl i due.d T st [[]]) ?_ ?_
  · simp
    exact ⟨_, _, _, _, _, rfl, ha, hb, rfl⟩
  rintro s0 hs0
  refine seq_ok (NaF r pl i due.d T st (rowsN T (rwords pl))) ?_ ?_
  · refine ok_mono (loopP D.str (rwords pl) (fun f _ => f.flatMap fun row => T.map fun t => row ++ [t]) [[]] (NaF r pl i due.d T st) (fun i f => f = rowsN T ((rwords pl).take i)) ?_ rfl ?_ ?_) ?_
    · obtain ⟨a, b, c, d, e, rfl, ha, hb, hc⟩ := hs0
      simp
      exact ⟨_, _, _, _, _, rfl, ha, hb, hc⟩
    · rintro j f w hw rfl
      exact (rows_take T (rwords pl) j w hw).symm
    · rintro j f w s2 hw hf ⟨a, b, c, d, e, rfl, ha, hb, hc⟩
      have hj := (List.getElem?_eq_some_iff.mp hw).1
      have hfl : f.length ≤ 512 := by rw [hf]; exact hsm j
      rw [bindT_one, ok_some]
      refine seq_ok (NaG r pl i due.d T st f [] w) ?_ ?_
      · simp
        exact ⟨_, _, _, rfl, ha, hb⟩
      rintro s1 hs1
      refine seq_ok (NaG r pl i due.d T st f (f.flatMap fun row => T.map fun t => row ++ [t]) w) ?_ ?_
      · refine ok_mono (loopP rowT f (fun g row => g ++ T.map fun t => row ++ [t]) [] (fun g s => NaG r pl i due.d T st f g w s) (fun i g => g.length ≤ 8 * i) ?_ (by simp) ?_ ?_) ?_
        · obtain ⟨a, b, e, rfl, ha, hb⟩ := hs1
          simp
          exact ⟨_, _, _, rfl, ha, hb⟩
        · intro k g row _ hg
          rw [List.length_append, List.length_map]
          omega
        · rintro k g row s2 hrow hg ⟨a, b, e, rfl, ha, hb⟩
          have hk := (List.getElem?_eq_some_iff.mp hrow).1
          have hrl : row.length ≤ 3 := by
            have := List.mem_of_getElem? hrow
            rw [hf] at this
            have h1 := ((mem_rows _ _ _).mp this).1
            rw [List.length_take] at h1
            omega
          rw [bindT_one, ok_some]
          have ecv : evE (evF tb (n + 3)) (.compV (.one 7) 5 .nil (.bin .add (.var 12) (.tup (.cons (.var 7) .nil)))) ⟨[.v r.d, .v (.int i), .v pl.d, .v due.d, .v (.lst (r.ps.map Pat.d)), .o (.lst (T.map Tm.d)), a, b, .v (.lst ((rwords pl).map .str)), .v (.lst (f.map rowT)), .v (.str w), .v (.lst (g.map rowT)), .v (rowT row), .un, .un, .un, .un], st⟩
              = some (.lst (T.map fun t => rowT (row ++ [t])), ⟨[.v r.d, .v (.int i), .v pl.d, .v due.d, .v (.lst (r.ps.map Pat.d)), .o (.lst (T.map Tm.d)), a, b, .v (.lst ((rwords pl).map .str)), .v (.lst (f.map rowT)), .v (.str w), .v (.lst (g.map rowT)), .v (rowT row), .un, .un, .un, .un], st⟩) := by
            refine compV_ok Tm.d T (fun t => rowT (row ++ [t])) rfl (by decide) (by simp [hb]) (by rw [sizeL]; omega) ?_
            intro t ht
            simp [rowT]
            omega
          simp [ecv]
          refine ⟨fun _ => ⟨a, b, _, by simp [Function.comp_def]; rfl, ha, hb⟩, by omega⟩
        · rintro ⟨fl, s⟩ ⟨g1, g2, -⟩
          refine ⟨g1, ?_⟩
          have : ∀ (f g : List (List Tm)), f.foldl (fun g row => g ++ T.map fun t => row ++ [t]) g = g ++ f.flatMap fun row => T.map fun t => row ++ [t] := by
            intro f
            induction f with
            | nil => intro g; simp
            | cons x f ih => intro g; rw [List.foldl_cons, ih, List.flatMap_cons, List.append_assoc]
          rw [this, List.nil_append] at g2
          exact g2
      rintro s1 ⟨a, b, e, rfl, ha, hb⟩
      simp
      exact ⟨_, _, _, _, _, rfl, ha, hb, rfl⟩
    · rintro ⟨fl, s⟩ ⟨g1, g2, -⟩
      exact ⟨g1, g2⟩
  rintro s0 ⟨a, b, c, d, e, rfl, ha, hb, hc⟩
  refine seq_ok (NaL r pl i due.d T st (rowsN T (rwords pl)) []) ?_ ?_
  · simp
    exact ⟨_, _, _, _, _, _, _, _, rfl, ha, hc⟩
  rintro s0 hs0
  have hrow : ∀ {j : Nat} {row : List Tm}, (rowsN T (rwords pl))[j]? = some row → row.length = (rwords pl).length := fun h => ((mem_rows _ _ _).mp (List.mem_of_getElem? h)).1
  have hrl : (rowsN T (rwords pl)).length ≤ 512 := by
    have := hsm (rwords pl).length
    rwa [List.take_length] at this
  refine seq_ok (NaL r pl i due.d T st (rowsN T (rwords pl)) (lawN T r i pl)) ?_ ?_
  · generalize hF : rowsN T (rwords pl) = F at hs0 hrow hrl ⊢
    refine ok_mono (loopP rowT F (fun ld row => if condN r i pl row = true then ld ++ [(rwords pl).zip row] else ld) [] (NaL r pl i due.d T st F) (fun i ld => ld.length ≤ i) ?_ (by simp) ?_ ?_) ?_
    · obtain ⟨a, b, c, d, e, x, y, z, rfl, ha, hc⟩ := hs0
      simp
      exact ⟨_, _, _, _, _, _, _, _, rfl, ha, hc⟩
    · intro j ld row _ h
      split
      · rw [List.length_append, List.length_singleton]; omega
      · omega
    · rintro j ld row s2 hj hld ⟨a, b, c, d, e, x, y, z, rfl, ha, hc⟩
      have hlen := hrow hj
      have hjl := (List.getElem?_eq_some_iff.mp hj).1
      rw [bindT_one, ok_some]
      refine seq_ok (NaK r pl i due.d T st F ld row []) ?_ ?_
      · simp
        exact ⟨_, _, _, _, _, _, rfl, ha, hc⟩
      rintro s1 hs1
      refine seq_ok (NaK r pl i due.d T st F ld row ((rwords pl).zip row)) ?_ ?_
      · refine ok_mono (loopP (fun k : Nat => .int (k : Int)) (List.range (rwords pl).length) (fun (σ : Nm) k => put σ ((rwords pl).getD k "") (row.getD k default)) [] (NaK r pl i due.d T st F ld row) (fun i σ => σ = ((rwords pl).zip row).take i) ?_ (by simp) ?_ ?_) ?_
        · obtain ⟨a, b, c, d, y, z, rfl, ha, hc⟩ := hs1
          simp
          exact ⟨it_range (by omega), _, _, _, _, _, _, rfl, ha, hc⟩
        · rintro k σ q hq rfl
          have hk : k < (rwords pl).length := by have := (List.getElem?_eq_some_iff.mp hq).1; simpa using this
          have hkq : q = k := by
            obtain ⟨h1, h2⟩ := List.getElem?_eq_some_iff.mp hq
            rw [List.getElem_range] at h2
            exact h2.symm
          subst hkq
          exact put_zip _ _ _ hwn hlen hk
        · rintro k σ q s2 hq hσ ⟨a, b, c, d, y, z, rfl, ha, hc⟩
          have hk : k < (rwords pl).length := by have := (List.getElem?_eq_some_iff.mp hq).1; simpa using this
          have hkq : q = k := by
            obtain ⟨h1, h2⟩ := List.getElem?_eq_some_iff.mp hq
            rw [List.getElem_range] at h2
            exact h2.symm
          subst hkq
          have hσl : σ.length ≤ 3 := by rw [hσ, List.length_take, List.length_zip]; omega
          have e1 : ((rwords pl).map D.str)[q]? = some (.str ((rwords pl).getD q "")) := by simp [hk]
          have e2 : (row.map Tm.d)[q]? = some (row.getD q default).d := by simp [show q < row.length by omega]
          have es := st_dctN Tm.d σ ((rwords pl).getD q "") (row.getD q default)
          rw [if_pos (by rw [sizeL]; omega)] at es
          rw [bindT_one, ok_some]
          simp [rowT, nmD, atI_nat e1, atI_nat e2, es, -List.getD_eq_getElem?_getD]
          exact ⟨_, _, _, _, _, _, rfl, ha, hc⟩
        · rintro ⟨fl, s⟩ ⟨g1, g2, g3⟩
          refine ⟨g1, ?_⟩
          rw [g3, List.length_range, List.take_of_length_le (by rw [List.length_zip]; omega)] at g2
          exact g2
      rintro s1 ⟨a, b, c, d, y, z, rfl, ha, hc⟩
      have hσk : ((rwords pl).zip row).map (·.1) = rwords pl := zip_keys hlen
      have hσl : ((rwords pl).zip row).length ≤ 3 := by rw [List.length_zip]; omega
      have hcv : ∀ σ : Nm, condN r i pl row = (pl.ps.all (fun p => decide (p.by ((rwords pl).zip row) ∈ r.ps)) && covers pl ((rwords pl).zip row) r i) := fun _ => rfl
      have hcond := hcv []
      generalize hσ : (rwords pl).zip row = σ at hσk hσl hcond ⊢
      have hpsl := hp.ps
      have hks : ∀ p ∈ pl.ps, ∀ x ∈ p.names, hasK σ x = true := fun p hq x hx => (hasK_iff σ x).mpr (hσk ▸ ps_sub hq x hx)
      refine seq_ok (NaI r pl i due.d T st F ld row σ) ?_ ?_
      · have ey := law_yes_spec (n := n + 2) (st := st) pl (by omega)
        have eg := comp_gen (F := evF tb (n + 3)) (ts := .one 6) (k := .seq) (src := (.cons (.call 38 (.cons (.var 2) .nil)) .nil)) (ifs := .nil) (elt := (.cmp .inn (.call 42 (.cons (.var 6) (.cons (.var 14) .nil))) (.var 4)))
          (s := ⟨[.v r.d, .v (.int i), .v pl.d, .v due.d, .v (.lst (r.ps.map Pat.d)), .o (.lst (T.map Tm.d)), a, b, .v (.lst ((rwords pl).map .str)), .v (.lst (F.map rowT)), c, d, .v (rowT row), .o (.lst (ld.map toldD)), .o (nmD σ), y, z], st⟩)
          (s1 := ⟨[.v r.d, .v (.int i), .v pl.d, .v due.d, .v (.lst (r.ps.map Pat.d)), .o (.lst (T.map Tm.d)), a, b, .v (.lst ((rwords pl).map .str)), .v (.lst (F.map rowT)), c, d, .v (rowT row), .o (.lst (ld.map toldD)), .o (nmD σ), y, z], st⟩)
          (items := pl.ps.map Pat.d) (NaC r pl i due.d T st F ld row σ a b c d y z) (by simp [ey]) (by simp [ha]) ⟨.un, .o (nmD σ), .inl rfl, by simp, by simp⟩ (by simp; omega) (by
            rintro k dd acc s2 hk ⟨x, t, ht, rfl, rfl⟩
            obtain ⟨p, hpk, rfl⟩ : ∃ p, pl.ps[k]? = some p ∧ p.d = dd := by simpa using hk
            have hpm := List.mem_of_getElem? hpk
            have et : pl.ps.take (k + 1) = pl.ps.take k ++ [p] := by rw [List.take_succ, hpk]; rfl
            have epn := put_terms_spec (n := n + 2) (st := st) p σ (by have := hp.tm p hpm; omega) (hks p hpm)
            rcases ht with rfl | rfl
            · simp [epn]
              exact ⟨.v p.d, .v (nmD σ), .inr rfl, by rw [← List.map_take, et, List.map_append]; rfl, rfl⟩
            · simp [epn]
              exact ⟨.v p.d, .v (nmD σ), .inr rfl, by rw [← List.map_take, et, List.map_append]; rfl, rfl⟩)
        obtain ⟨q, eq, acc, s2, rfl, x, t, ht, rfl, rfl⟩ := eg
        rw [List.length_map, List.take_length] at eq
        simp [eq]
        exact ⟨_, _, _, _, t, _, ht, rfl, ha, hc⟩
      rintro s2 ⟨a, b, c, d, t, y, ht, rfl, ha, hc⟩
      have enf := bl_noFalse (pl.ps.map fun p => decide (p.by σ ∈ r.ps))
      rw [List.map_map] at enf
      have enf' : cmpD .notin (.bl false) (.lst (pl.ps.map fun p => .bl (decide (p.by σ ∈ r.ps)))) = some (pl.ps.all fun p => decide (p.by σ ∈ r.ps)) := by
        rw [List.all_map] at enf
        exact enf
      have epd := put_deeds_spec (n := n + 1) (st := st) pl σ hp (fun w hw => by rw [hσk]; exact hw)
      have ein := Sd_inL due (pl.ds.map (Dd.sd pl.ps σ))
      have ecov : decide (due ∈ pl.ds.map (Dd.sd pl.ps σ)) = covers pl σ r i := by unfold covers; rw [hdue]
      rw [ecov] at ein
      have etl : (rwords pl).map (fun w => prD (w, (lk σ w).getD default)) = σ.map prD := by
        have := mk_of_keys hσk hwn
        conv => rhs; rw [this]
        simp [mk, Function.comp_def]
      have ecp : ∀ t : Sl, (t = .o (nmD σ) ∨ t = .v (nmD σ)) → evE (evF tb (n + 3)) (.comp (.one 10) .seq (.cons (.var 8) .nil) .nil (.tup (.cons (.var 10) (.cons (.idxV 14 (.var 10)) .nil)))) ⟨[.v r.d, .v (.int i), .v pl.d, .v due.d, .v (.lst (r.ps.map Pat.d)), .o (.lst (T.map Tm.d)), a, b, .v (.lst ((rwords pl).map .str)), .v (.lst (F.map rowT)), c, d, .v (rowT row), .o (.lst (ld.map toldD)), t, y, .v (.lst (pl.ps.map fun p => .bl (decide (p.by σ ∈ r.ps))))], st⟩
          = some (.lst (σ.map prD), ⟨[.v r.d, .v (.int i), .v pl.d, .v due.d, .v (.lst (r.ps.map Pat.d)), .o (.lst (T.map Tm.d)), a, b, .v (.lst ((rwords pl).map .str)), .v (.lst (F.map rowT)), c, d, .v (rowT row), .o (.lst (ld.map toldD)), t, y, .v (.lst (pl.ps.map fun p => .bl (decide (p.by σ ∈ r.ps))))], st⟩) := by
        intro t ht
        rw [← etl]
        refine compM D.str (rwords pl) (fun w => prD (w, (lk σ w).getD default)) (by simp) (by simp [hc]) (by rw [sizeL]; omega) ?_
        intro w hw
        have hs := lks_some σ w
        rw [(hasK_iff σ w).mpr (hσk ▸ hw)] at hs
        obtain ⟨v, hv⟩ := Option.isSome_iff_exists.mp hs
        rcases ht with rfl | rfl <;> simp [nmD, hv, prD]
      have ecp2 := ecp (.v (nmD σ)) (.inr rfl)
      have hldl : ld.length < 16777216 := by omega
      cases hall : pl.ps.all (fun p => decide (p.by σ ∈ r.ps)) with
      | false =>
        rw [hall] at enf' hcond
        rw [hcond]
        simp [enf']
        exact ⟨_, _, _, _, _, _, _, _, rfl, ha, hc⟩
      | true =>
        rw [hall] at enf' hcond
        rw [hcond]
        cases hcc : covers pl σ r i with
        | false =>
          rw [hcc] at ein
          rcases ht with rfl | rfl
          · simp [enf', epd, ein, -List.map_map]
            exact ⟨_, _, _, _, _, _, _, _, rfl, ha, hc⟩
          · simp [enf', epd, ein, -List.map_map]
            exact ⟨_, _, _, _, _, _, _, _, rfl, ha, hc⟩
        | true =>
          rw [hcc] at ein
          rcases ht with rfl | rfl
          · simp [enf', epd, ein, ecp2, hldl, -List.map_map]
            exact ⟨a, b, c, d, .v (rowT row), .v (nmD σ), y, _, by rw [List.map_append]; rfl, ha, hc⟩
          · simp [enf', epd, ein, ecp2, hldl, -List.map_map]
            exact ⟨a, b, c, d, .v (rowT row), .v (nmD σ), y, _, by rw [List.map_append]; rfl, ha, hc⟩
    · rintro ⟨fl, s⟩ ⟨g1, g2, -⟩
      refine ⟨g1, ?_⟩
      have : ∀ (F : List (List Tm)) (ld : List Nm), F.foldl (fun ld row => if condN r i pl row = true then ld ++ [(rwords pl).zip row] else ld) ld = ld ++ (F.filter (condN r i pl)).map fun row => (rwords pl).zip row := by
        intro F
        induction F with
        | nil => intro ld; simp
        | cons x F ih =>
          intro ld
          rw [List.foldl_cons, ih, List.filter_cons]
          cases condN r i pl x <;> simp
      rw [this, List.nil_append] at g2
      rw [lawN_eq, hF]
      exact g2
  rintro s0 ⟨a, b, c, d, e, x, y, z, rfl, ha, hc⟩
  simp [rightL, hTT]
end K87

-- K87S
set_option autoImplicit true
set_option Elab.async false
set_option linter.all false
set_option maxRecDepth 100000
set_option maxHeartbeats 400000
namespace K87
open PySem PyProof.Rows Ev
variable {n : Nat} {st : List D}
def coverL (rs : List Rl) (k i : Nat) : Option (Nat × Nm) := (List.range rs.length).findSome? fun q => if q = k then none else ((rightL (rs.getD k default) i (rs.getD q default)).head?).map fun τ => (q, τ)
theorem zipIdx_range (rs : List Rl) : rs.zipIdx = (List.range rs.length).map fun k => (rs.getD k default, k) := by
  apply List.ext_getElem?
  intro j
  rw [List.getElem?_zipIdx, List.getElem?_map]
  by_cases h : j < rs.length
  · simp [h]
  · simp [h]
theorem cover_eq (rs : List Rl) (k i : Nat) : coverP rs k i = coverL rs k i := by
  unfold coverP coverL
  rw [zipIdx_range, List.findSome?_map]
  congr 1
  funext q
  simp only [Function.comp_def, forN, naming_head]
theorem law_covering_spec (rs : List Rl) (k i : Nat) (h : ∀ r ∈ rs, RlOk r) (hl : rs.length ≤ 1000) (hk : k < rs.length) (hi : i < (rs.getD k default).ds.length) : evF tb (n + 5) 46 [.tup (rs.map Rl.d), .int k, .int i] st = some (optD cvD (coverL rs k i), st) := by
  rw [evF_run (d := b46) rfl rfl (by decide)]
  apply eq_ok
  simp [b46]
  refine ok_mono (loopS (fun q : Nat => .int (q : Int)) (List.range rs.length) cvD (fun q => if q = k then none else ((rightL (rs.getD k default) i (rs.getD q default)).head?).map fun τ => (q, τ)) (fun s => ∃ a b, s = ⟨[.v (.tup (rs.map Rl.d)), .v (.int k), .v (.int i), a, b], st⟩) (fun s => s.st = st) ?_ ?_) ?_
  · simp
    exact it_range (by omega)
  · rintro j q s2 hx ⟨a, b, rfl⟩
    have hq : q < rs.length := List.mem_range.mp (List.mem_of_getElem? hx)
    by_cases hqk : q = k
    · simp [hqk]
    · have e := namings_spec (n := n) (st := st) (rs.getD k default) (rs.getD q default) i (h _ (getD_mem hk)) (h _ (getD_mem hq)) hi
      simp [hqk, atI_nat (rls_at hk), atI_nat (rls_at hq), e, -List.getD_eq_getElem?_getD]
      cases hR : rightL (rs.getD k default) i (rs.getD q default) with
      | nil => simp
      | cons τ R => simp [cvD]
  · rintro ⟨fl, s⟩ h
    unfold coverL
    cases hf : (List.range rs.length).findSome? (fun q => if q = k then none else ((rightL (rs.getD k default) i (rs.getD q default)).head?).map fun τ => (q, τ)) with
    | none =>
      rw [hf] at h
      obtain ⟨h1, a, b, h2⟩ := h
      simp only at h1 h2
      subst h1 h2
      simp [optD]
    | some v =>
      rw [hf] at h
      obtain ⟨h1, h2⟩ := h
      simp only at h1 h2
      subst h1 h2
      simp [optD]
/-- a rule of the draws -/
structure RlGood (k : Nat) (names : List Str) (values : List Tm) (r : Rl) : Prop where
  ok : RlOk r
  cs : r.cs.length ≤ k
  tm : ∀ p ∈ r.ps, ∀ t ∈ p.ts, TmOf names values t
  ys : r.cs = r.ps.map .yes
theorem ps_yes (ps : List Pat) (rank : Int) (ds : List Dd) : Rl.ps ⟨rank, ps.map .yes, ds⟩ = ps := by
  unfold Rl.ps
  rw [List.filterMap_map]
  exact List.filterMap_some
/-- names and values of the draws -/
structure Dr (kinds : List (Str × Nat)) (names : List Str) (values : List Tm) : Prop where
  k0 : kinds ≠ []
  k2 : ∀ q ∈ kinds, q.2 ≤ 2
  nw : ∀ x ∈ names, wordB x = true ∧ x.length ≤ 50
  v0 : values ≠ []
  vv : ∀ v ∈ values, VOk v
theorem pat_names {kinds : List (Str × Nat)} {names : List Str} {values : List Tm} (hv : ∀ v ∈ values, VOk v) {p : Pat} (h : ∀ t ∈ p.ts, TmOf names values t) : p.sub names := by
  intro x hx
  have := names_iff.mp hx
  rcases h _ this with ⟨y, hy, e⟩ | h
  · cases e; exact hy
  · have := (hv _ h).1
    cases this
theorem rwords_le {kinds : List (Str × Nat)} {names : List Str} {values : List Tm} (hd : Dr kinds names values) (hn : names.length ≤ 3) {r : Rl} (h : ∀ p ∈ r.ps, ∀ t ∈ p.ts, TmOf names values t) : (rwords r).length ≤ 3 := by
  have := nodup_le (rwords r) names (rwords_nodup r) fun x hx => by
    obtain ⟨p, hp, hpt⟩ := List.mem_flatMap.mp ((rwords_mem r x).mp hx)
    exact pat_names (kinds := kinds) hd.vv (h p hp) x (names_iff.mpr hpt)
  omega
theorem plain_rule_gen (kinds : List (Str × Nat)) (names : List Str) (values : List Tm) (hd : Dr kinds names values) (hn : names.length ≤ 3) (many : Nat) (h1 : 1 ≤ many) (h3 : many ≤ 3) :
    Gen (evF tb (n + 6)) 47 [.lst (kinds.map kindD), .lst (names.map .str), .lst (values.map Tm.d), .int many] fun d => ∃ r : Rl, d = r.d ∧ RlGood 3 names values r := by
  intro xs rest
  rw [evF_run (d := b47) rfl rfl (by decide)]
  simp only [b47]
  rw [ok_bnd]
  refine seq_ok (fun s => ∃ (ps : List Pat) (ys : List Int), ps.length ≤ 3 ∧ (∀ p ∈ ps, PatOf kinds names values p) ∧ s = ⟨[.v (.ref 0), .v (.lst (kinds.map kindD)), .v (.lst (names.map .str)), .v (.lst (values.map Tm.d)), .v (.int many), .v (.lst ((ps.map Cn.yes).map Cn.d)), .un, .un], dr ys rest⟩) ?_ ?_
  · simp
    have hg : ∀ (ρ : List Sl), ρ = [.v (.ref 0), .v (.lst (kinds.map kindD)), .v (.lst (names.map .str)), .v (.lst (values.map Tm.d)), .v (.int many), .un, .un, .un] → ok (evE (evF tb (n + 5)) (.comp (.one 6) .range1 (.cons (.bin .add (.cst (.int 1)) (.call 25 (.cons (.var 0) (.cons (.var 4) .nil)))) .nil) .nil (.tup (.cons (.cst (.str "yes")) (.cons (.call 34 (.cons (.var 0) (.cons (.var 1) (.cons (.var 2) (.cons (.var 3) .nil))))) .nil)))) ⟨ρ, dr xs rest⟩) fun r => ∃ (acc : List D) (ys : List Int), r = (.lst acc, ⟨ρ, dr ys rest⟩) ∧ acc.length ≤ 3 ∧ ∀ d ∈ acc, ∃ p : Pat, d = (Cn.yes p).d ∧ PatOf kinds names values p := by
      rintro ρ rfl
      have ht := take_gen (n := n + 4) (many : Int) (by omega) xs rest
      obtain ⟨⟨e, st'⟩, e1, ⟨k, rfl, k0, k1⟩, zs, rfl⟩ := ht
      have e2 : itemsD .range1 [.int (1 + k)] = some ((List.range (1 + k).toNat).map fun (j : Nat) => .int (j : Int)) := it_rangeZ (by omega) (by omega)
      refine ok_mono (comp_ok (items := (List.range (1 + k).toNat).map fun (j : Nat) => .int (j : Int)) (fun i acc st' => acc.length = i ∧ (∀ d ∈ acc, ∃ p : Pat, d = (Cn.yes p).d ∧ PatOf kinds names values p) ∧ ∃ ys, st' = dr ys rest) ?_ (by simp) (by simp; omega) ?_) ?_
      · simp [e1, e2]
        exact ⟨zs, rfl⟩
      · rintro i d acc st' hi ⟨a1, a2, ys, rfl⟩
        simp
        refine (pattern_gen (n := n + 1) kinds names values hd.k0 (fun q hq => by have := hd.k2 q hq; omega) hd.v0).bnd fun e zs he => ?_
        obtain ⟨p, rfl, hp⟩ := he
        simp
        refine ⟨by omega, fun d hd => ?_, zs, rfl⟩
        rcases hd with h | h
        · exact a2 d h
        · exact ⟨p, h, hp⟩
      · rintro r ⟨acc, st', rfl, a1, a2, ys, rfl⟩
        refine ⟨acc, ys, rfl, ?_, a2⟩
        rw [a1, List.length_map, List.length_range]
        omega
    refine ok_mono (hg _ rfl) ?_
    rintro r ⟨acc, ys, rfl, h1, h2⟩
    obtain ⟨ps, rfl, hps⟩ := map_of_all (fun p : Pat => (Cn.yes p).d) (PatOf kinds names values) h2
    simp
    refine ⟨ps, by simpa using h1, hps, rfl, ys, rfl⟩
  rintro s1 ⟨ps, ys, hl, hps, rfl⟩
  have hys : ysOf (ps.map Cn.yes) = ps := ps_yes ps 0 []
  have htm : ∀ p ∈ ps, p.ts.length ≤ 2 := fun p hp => hd.k2 _ (hps p hp).1
  refine seq_ok (fun s => ∃ (ds : List Dd) (ys : List Int), ds.length ≤ 3 ∧ (∀ x ∈ ds, DdOf ps.length kinds (psWords ps) values x) ∧ s = ⟨[.v (.ref 0), .v (.lst (kinds.map kindD)), .v (.lst (names.map .str)), .v (.lst (values.map Tm.d)), .v (.int many), .v (.lst ((ps.map Cn.yes).map Cn.d)), .un, .v (.tup (ds.map Dd.d))], dr ys rest⟩) ?_ ?_
  · have hdw : deedWords ["drop", "make", "stand", "drop", "halt"] := ⟨by simp, by simp⟩
    have hg := deeds_gen (n := n) false (ps.map Cn.yes) kinds values ["drop", "make", "stand", "drop", "halt"] (by rw [List.length_map]; omega) (fun p hp => by rw [hys] at hp; have := htm p hp; omega) (by
      rw [hys]
      have := flatMap_len ps Pat.ts 2 htm
      omega) hd.k0 (fun q hq => by have := hd.k2 q hq; omega) hd.v0 hdw
    rw [hys] at hg
    simp [-List.map_map]
    refine hg.bnd fun e zs he => ?_
    obtain ⟨ds, rfl, h1, h2⟩ := he
    have ec : Ev.cutD (ds.map Dd.d) none (some 3) = (ds.take 3).map Dd.d := by
      have := cutD_to (ds.map Dd.d) 3
      rw [← List.map_take] at this
      exact this
    simp [ec, -List.map_map, -List.map_take]
    exact ⟨ds.take 3, by rw [List.length_take]; omega, fun x hx => h2 x (List.mem_of_mem_take hx), rfl, zs, rfl⟩
  rintro s1 ⟨ds, ys, hdl, hds, rfl⟩
  simp [-List.map_map]
  refine (take_gen (n := n + 4) 3 (by decide)).bnd fun e zs he => ?_
  obtain ⟨k, rfl, k0, k1⟩ := he
  simp [-List.map_map]
  refine ⟨⟨⟨k, ps.map .yes, ds⟩, rfl, ?_⟩, zs, rfl⟩
  have eps : Rl.ps ⟨k, ps.map .yes, ds⟩ = ps := ps_yes ps k ds
  have etm : ∀ p ∈ Rl.ps ⟨k, ps.map .yes, ds⟩, ∀ t ∈ p.ts, TmOf names values t := by rw [eps]; exact fun p hp => (hps p hp).2
  refine ⟨⟨?_, ?_, ?_, by show ds.length ≤ 4; omega, rwords_le hd hn etm⟩, by simpa using hl, etm, by rw [eps]⟩
  · show (ps.map Cn.yes).length ≤ 4
    rw [List.length_map]; omega
  · rw [eps]; exact htm
  · rw [eps]
    intro d hd'
    have := hds d hd'
    have hw : rwords ⟨k, ps.map .yes, ds⟩ = psWords ps := by
      unfold rwords Rl.tms psWords
      rw [eps]
    rw [hw]
    cases d with
    | halt => exact ⟨trivial, fun p h => by cases h⟩
    | drop i => exact ⟨this, fun p h => by cases h⟩
    | make p => exact ⟨pat_names (kinds := kinds) hd.vv this.2, fun q h => by cases h; exact hd.k2 _ this.1⟩
    | stand p => exact ⟨pat_names (kinds := kinds) hd.vv this.2, fun q h => by cases h; exact hd.k2 _ this.1⟩
end K87

-- K87U
set_option autoImplicit true
set_option Elab.async false
set_option linter.all false
set_option maxRecDepth 100000
set_option maxHeartbeats 400000
namespace K87
open PySem PyProof.Rows Ev
variable {n : Nat} {st : List D}
/-- a deed by a table, make or stand as drawn -/
def DeedBy (σ : Nm) (d e : Dd) : Prop := match d with
  | .halt => e = .halt
  | .drop i => e = .drop i
  | .make p => e = .make (p.by σ) ∨ e = .stand (p.by σ)
  | .stand p => e = .make (p.by σ) ∨ e = .stand (p.by σ)
inductive DeedsBy (σ : Nm) : List Dd → List Dd → Prop
  | nil : DeedsBy σ [] []
  | snoc {ds es : List Dd} {d e : Dd} : DeedsBy σ ds es → DeedBy σ d e → DeedsBy σ (ds ++ [d]) (es ++ [e])
theorem DeedsBy.len {σ : Nm} {ds es : List Dd} (h : DeedsBy σ ds es) : es.length = ds.length := by
  induction h with
  | nil => rfl
  | snoc _ _ ih => simp [ih]
theorem DeedsBy.mem {σ : Nm} {ds es : List Dd} (h : DeedsBy σ ds es) : ∀ e ∈ es, ∃ d ∈ ds, DeedBy σ d e := by
  induction h with
  | nil => intro e he; cases he
  | snoc _ h ih =>
    intro e he
    rcases List.mem_append.mp he with q | q
    · obtain ⟨d, hd, hb⟩ := ih e q
      exact ⟨d, List.mem_append_left _ hd, hb⟩
    · rw [List.mem_singleton] at q
      subst q
      exact ⟨_, List.mem_append_right _ (List.mem_singleton.mpr rfl), h⟩
def Sx (r : Rl) (kinds : List (Str × Nat)) (names : List Str) (values : List Tm) (a5 a6 a7 a8 a9 a10 : Sl) (st : List D) : S := ⟨[.v (.ref 0), .v r.d, .v (.lst (kinds.map kindD)), .v (.lst (names.map .str)), .v (.lst (values.map Tm.d)), a5, a6, a7, a8, a9, a10], st⟩
def SpT (r : Rl) (kinds : List (Str × Nat)) (names : List Str) (values : List Tm) (rest : List D) (i : Nat) (s : S) : Prop := ∃ (σ : Nm) (ys : List Int) (a : Sl), σ.map (·.1) = (rwords r).take i ∧ (∀ q ∈ σ, TmOf names values q.2) ∧ s = Sx r kinds names values (.o (nmD σ)) a .un .un .un .un (dr ys rest)
def SpC (r : Rl) (kinds : List (Str × Nat)) (names : List Str) (values : List Tm) (σ : Nm) (a : Sl) (st : List D) (i : Nat) (acc : List D) (s : S) : Prop := ∃ t x : Sl, (t = .o (nmD σ) ∨ t = .v (nmD σ)) ∧ acc = (r.ps.take i).map (fun p => (Cn.yes (p.by σ)).d) ∧ s = Sx r kinds names values t a .un x .un .un st
def SpD (r : Rl) (kinds : List (Str × Nat)) (names : List Str) (values : List Tm) (σ : Nm) (a b : Sl) (rest : List D) (i : Nat) (s : S) : Prop := ∃ (es : List Dd) (ys : List Int) (t x : Sl), (t = .o (nmD σ) ∨ t = .v (nmD σ)) ∧ DeedsBy σ (r.ds.take i) es ∧ s = Sx r kinds names values t a (.o (.lst (r.ps.map fun p => (Cn.yes (p.by σ)).d))) b (.o (.lst (es.map Dd.d))) x (dr ys rest)
theorem special_gen (r : Rl) (kinds : List (Str × Nat)) (names : List Str) (values : List Tm) (hd : Dr kinds names values) (hn : names.length ≤ 3) (hr : RlGood 3 names values r) :
    Gen (evF tb (n + 6)) 48 [r.d, .lst (kinds.map kindD), .lst (names.map .str), .lst (values.map Tm.d)] fun d => ∃ r' : Rl, d = r'.d ∧ RlGood 4 names values r' := by
  intro xs rest
  rw [evF_run (d := b48) rfl rfl (by decide)]
  have c1 := hr.cs
  have c2 := hr.ok.tms
  have hwl := hr.ok.wl
  have hpl : r.ps.length ≤ 3 := Nat.le_trans (ps_len r) c1
  have eb := fun (st : List D) => bound_by_spec (n := n + 3) (st := st) true r.cs (by omega) (fun p hp => by have := hr.ok.tm p hp; omega) (by show (r.ps.flatMap Pat.ts).length < 64; have : (r.ps.flatMap Pat.ts).length ≤ 8 := c2; omega)
  have eb' : ∀ st, evF tb (n + 5) 36 [.tup (r.cs.map Cn.d)] st = some (.lst ((rwords r).map .str), st) := eb
  simp only [b48]
  rw [ok_bnd]
  refine seq_ok (SpT r kinds names values rest 0) ?_ ?_
  · simp
    exact ⟨[], xs, _, rfl, by simp, rfl⟩
  rintro s0 hs0
  refine seq_ok (SpT r kinds names values rest (rwords r).length) ?_ ?_
  · refine ok_mono (loop_ok (items := (rwords r).map .str) (SpT r kinds names values rest) (fun _ => False) (fun _ _ => False) ?_ ?_) ?_
    · obtain ⟨σ, ys, a, h1, h2, rfl⟩ := hs0
      simp [Sx, eb']
      exact ⟨σ, ys, _, h1, h2, rfl⟩
    · rintro i d s2 hi ⟨σ, ys, a, h1, h2, rfl⟩
      obtain ⟨w, hw, rfl⟩ : ∃ w, (rwords r)[i]? = some w ∧ D.str w = d := by simpa using hi
      have et : (rwords r).take (i + 1) = (rwords r).take i ++ [w] := by rw [List.take_succ, hw]; rfl
      simp [Sx, nmD]
      refine (term_gen (n := n + 2) names values hd.v0).bnd fun e zs he => ?_
      obtain ⟨t, rfl, ht⟩ := he
      have hσl : σ.length < 16777216 := by
        have := congrArg List.length h1
        rw [List.length_map, List.length_take] at this
        omega
      have es := st_dctN Tm.d σ w t
      rw [if_pos (by rw [sizeL]; exact hσl)] at es
      simp [es]
      have hn : hasK σ w = false := by
        cases hk : hasK σ w with
        | false => rfl
        | true =>
          have h3 := (hasK_iff σ w).mp hk
          rw [h1] at h3
          have h4 := rwords_nodup r
          rw [← List.take_append_drop (i + 1) (rwords r), et, List.nodup_append] at h4
          have h5 := h4.1
          rw [List.nodup_append] at h5
          exact absurd rfl (h5.2.2 w h3 w (by simp))
      have ep : put σ w t = σ ++ [(w, t)] := by unfold put; rw [hn]; rfl
      refine ⟨put σ w t, zs, _, by rw [ep, List.map_append, h1, et]; rfl, ?_, rfl⟩
      rw [ep]
      intro q hq
      rcases List.mem_append.mp hq with q1 | q1
      · exact h2 q q1
      · rw [List.mem_singleton] at q1; subst q1; exact ht
    · rintro ⟨fl, s⟩ (⟨g1, g2 | g2⟩ | ⟨v, g1, g2⟩)
      · rw [List.length_map] at g2
        exact ⟨g1, g2⟩
      · exact g2.elim
      · exact g2.elim
  rintro s0 ⟨σ, ys, a, h1, h2, rfl⟩
  rw [List.take_length] at h1
  have hks : ∀ p ∈ r.ps, ∀ x ∈ p.names, hasK σ x = true := fun p hq x hx => (hasK_iff σ x).mpr (h1 ▸ ps_sub hq x hx)
  refine seq_ok (fun s => ∃ t : Sl, (t = .o (nmD σ) ∨ t = .v (nmD σ)) ∧ s = Sx r kinds names values t a (.o (.lst (r.ps.map fun p => (Cn.yes (p.by σ)).d))) .un .un .un (dr ys rest)) ?_ ?_
  · have ey := law_yes_spec (n := n + 4) (st := dr ys rest) r (by omega)
    have eg := comp_gen (F := evF tb (n + 5)) (ts := .one 8) (k := .seq) (src := (.cons (.call 38 (.cons (.var 1) .nil)) .nil)) (ifs := .nil) (elt := (.tup (.cons (.cst (.str "yes")) (.cons (.call 42 (.cons (.var 8) (.cons (.var 5) .nil))) .nil))))
      (s := Sx r kinds names values (.o (nmD σ)) a .un .un .un .un (dr ys rest)) (s1 := Sx r kinds names values (.o (nmD σ)) a .un .un .un .un (dr ys rest)) (items := r.ps.map Pat.d) (SpC r kinds names values σ a (dr ys rest)) (by simp [Sx, ey]) (by simp [Sx]) ⟨.o (nmD σ), .un, .inl rfl, by simp, by simp [Sx]⟩ (by simp; omega) (by
        rintro k dd acc s2 hk ⟨t, x, ht, rfl, rfl⟩
        obtain ⟨p, hpk, rfl⟩ : ∃ p, r.ps[k]? = some p ∧ p.d = dd := by simpa using hk
        have hpm := List.mem_of_getElem? hpk
        have et : r.ps.take (k + 1) = r.ps.take k ++ [p] := by rw [List.take_succ, hpk]; rfl
        have epn := put_terms_spec (n := n + 4) (st := dr ys rest) p σ (by have := hr.ok.tm p hpm; omega) (hks p hpm)
        rcases ht with rfl | rfl
        · simp [Sx, epn]
          exact ⟨.v (nmD σ), .v p.d, .inr rfl, by rw [← List.map_take, et, List.map_append]; rfl, rfl⟩
        · simp [Sx, epn]
          exact ⟨.v (nmD σ), .v p.d, .inr rfl, by rw [← List.map_take, et, List.map_append]; rfl, rfl⟩)
    obtain ⟨q, eq, acc, s2, rfl, t, x, ht, rfl, rfl⟩ := eg
    rw [List.length_map, List.take_length] at eq
    simp only [Sx] at eq
    simp [Sx, eq]
    exact ht
  rintro s0 ⟨t, ht, rfl⟩
  refine seq_ok (SpD r kinds names values σ a .un rest 0) ?_ ?_
  · simp [Sx]
    exact ⟨[], ys, t, _, ht, .nil, rfl⟩
  rintro s0 hs0
  refine seq_ok (SpD r kinds names values σ a .un rest r.ds.length) ?_ ?_
  · refine ok_mono (loop_ok (items := r.ds.map Dd.d) (SpD r kinds names values σ a .un rest) (fun _ => False) (fun _ _ => False) ?_ ?_) ?_
    · obtain ⟨es, ys, t, x, ht, h3, rfl⟩ := hs0
      simp [Sx]
      exact ⟨es, ys, t, x, ht, h3, rfl⟩
    · rintro i d s2 hi ⟨es, ys, t, x, ht, h3, rfl⟩
      obtain ⟨dd, hdd, rfl⟩ : ∃ w, r.ds[i]? = some w ∧ w.d = d := by simpa using hi
      have hddm := List.mem_of_getElem? hdd
      have hi' := (List.getElem?_eq_some_iff.mp hdd).1
      have et : r.ds.take (i + 1) = r.ds.take i ++ [dd] := by rw [List.take_succ, hdd]; rfl
      have hesl : es.length < 16777216 := by
        have := h3.len
        rw [List.length_take] at this
        have := hr.ok.dl
        omega
      obtain ⟨o1, o2⟩ := hr.ok.ds dd hddm
      have hmk : ∀ (p : Pat) (k : Str), (k = "make" ∨ k = "stand") → p.sub (rwords r) → p.ts.length ≤ 2 → dd.d = .tup [.str k, p.d] → (∀ e, (e = .make (p.by σ) ∨ e = .stand (p.by σ)) → DeedBy σ dd e) →
          ok (bindT (Sx r kinds names values t a (.o (.lst (r.ps.map fun p => (Cn.yes (p.by σ)).d))) .un (.o (.lst (es.map Dd.d))) x (dr ys rest)) (.one 10) dd.d) fun sB => ok (evSs (evF tb (n + 5)) (.cons (.ite (.cmp .inn (.idx (.var 10) (.cst (.int 0))) (.tup (.cons (.cst (.str "make")) (.cons (.cst (.str "stand")) .nil)))) (.cons (.setV 10 (.tup (.cons (.call 26 (.cons (.var 0) (.cons (.lst (.cons (.cst (.str "make")) (.cons (.cst (.str "stand")) .nil))) .nil))) (.cons (.call 42 (.cons (.idx (.var 10) (.cst (.int 1))) (.cons (.var 5) .nil))) .nil)))) .nil) .nil) (.cons (.expr (.mutV .append 9 (.cons (.var 10) .nil))) .nil)) sB) fun r_1 => match r_1.1 with
            | .nx => SpD r kinds names values σ a .un rest (i + 1) r_1.2
            | .cnt => SpD r kinds names values σ a .un rest (i + 1) r_1.2
            | .brk => False
            | .ret v => False := by
        intro p k hk hp hpl ed hby
        rw [ed]
        have hkin : (k = ("make" : Str) ∨ k = ("stand" : Str)) = True := eq_true hk
        rcases ht with rfl | rfl <;> simp [Sx, hkin] <;> refine (pick_gen (n := n + 3) [.str "make", .str "stand"] (by simp)).bnd fun e zs he => ?_ <;> have epn := put_terms_spec (n := n + 4) (st := dr zs rest) p σ (by omega) (fun x hx => (hasK_iff σ x).mpr (h1 ▸ hp x hx)) <;> simp [epn, hesl] <;> simp only [List.mem_cons, List.not_mem_nil, or_false] at he <;> rcases he with rfl | rfl
        · exact ⟨es ++ [.make (p.by σ)], zs, .v (nmD σ), .v (Dd.make (p.by σ)).d, .inr rfl, by rw [et]; exact .snoc h3 (hby _ (.inl rfl)), by simp [Sx, Dd.d]⟩
        · exact ⟨es ++ [.stand (p.by σ)], zs, .v (nmD σ), .v (Dd.stand (p.by σ)).d, .inr rfl, by rw [et]; exact .snoc h3 (hby _ (.inr rfl)), by simp [Sx, Dd.d]⟩
        · exact ⟨es ++ [.make (p.by σ)], zs, .v (nmD σ), .v (Dd.make (p.by σ)).d, .inr rfl, by rw [et]; exact .snoc h3 (hby _ (.inl rfl)), by simp [Sx, Dd.d]⟩
        · exact ⟨es ++ [.stand (p.by σ)], zs, .v (nmD σ), .v (Dd.stand (p.by σ)).d, .inr rfl, by rw [et]; exact .snoc h3 (hby _ (.inr rfl)), by simp [Sx, Dd.d]⟩
      cases dd with
      | halt =>
        simp [Sx, Dd.d, hesl]
        exact ⟨es ++ [.halt], ys, t, _, ht, by rw [et]; exact .snoc h3 rfl, by simp [Sx, Dd.d]; rfl⟩
      | drop j =>
        simp [Sx, Dd.d, hesl]
        exact ⟨es ++ [.drop j], ys, t, _, ht, by rw [et]; exact .snoc h3 rfl, by simp [Sx, Dd.d]; rfl⟩
      | make p => exact hmk p "make" (.inl rfl) o1 (o2 p rfl) rfl (fun e he => he)
      | stand p => exact hmk p "stand" (.inr rfl) o1 (o2 p rfl) rfl (fun e he => he)
    · rintro ⟨fl, s⟩ (⟨g1, g2 | g2⟩ | ⟨v, g1, g2⟩)
      · rw [List.length_map] at g2
        exact ⟨g1, g2⟩
      · exact g2.elim
      · exact g2.elim
  rintro s0 ⟨es, ys, t, x, ht, h3, rfl⟩
  rw [List.take_length] at h3
  refine seq_ok (fun s => ∃ (qs : List Pat) (ys : List Int), qs.length ≤ 1 ∧ (∀ p ∈ qs, PatOf kinds names values p) ∧ s = Sx r kinds names values t a (.o (.lst ((r.ps.map (Pat.by σ) ++ qs).map fun p => (Cn.yes p).d))) .un (.o (.lst (es.map Dd.d))) x (dr ys rest)) ?_ ?_
  · simp [Sx]
    refine (take_gen (n := n + 4) 2 (by decide)).bnd fun e zs he => ?_
    obtain ⟨k, rfl, k0, k1⟩ := he
    simp
    refine ⟨fun _ => ?_, fun _ => ⟨[], by simp, by simp, by simp [Function.comp_def], zs, rfl⟩⟩
    refine (pattern_gen (n := n + 1) kinds names values hd.k0 (fun q hq => by have := hd.k2 q hq; omega) hd.v0).bnd fun e zs he => ?_
    obtain ⟨p, rfl, hp⟩ := he
    simp
    refine ⟨fun _ => ⟨[p], by simp, by simpa using hp, by simp [Function.comp_def, Cn.d], zs, rfl⟩, by omega⟩
  rintro s0 ⟨qs, ys, hq1, hq2, rfl⟩
  simp [Sx]
  refine ⟨⟨⟨0, (r.ps.map (Pat.by σ) ++ qs).map .yes, es⟩, by simp [Rl.d, Function.comp_def], ?_⟩, ys, rfl⟩
  have eps : Rl.ps ⟨0, (r.ps.map (Pat.by σ) ++ qs).map .yes, es⟩ = r.ps.map (Pat.by σ) ++ qs := ps_yes _ 0 es
  have hσv : ∀ x v, lk σ x = some v → TmOf names values v := by
    intro x v h
    unfold lk at h
    obtain ⟨q, hq, rfl⟩ := Option.map_eq_some_iff.mp h
    exact h2 q (List.mem_of_find?_eq_some hq)
  have hby : ∀ p ∈ r.ps, ∀ t ∈ (p.by σ).ts, TmOf names values t := by
    intro p hp t ht
    obtain ⟨u, hu, rfl⟩ := List.mem_map.mp ht
    have hu' := hr.tm p hp u hu
    cases u with
    | var y =>
      have hs := lks_some σ y
      rw [hks p hp y (names_iff.mpr hu)] at hs
      obtain ⟨v, hv⟩ := Option.isSome_iff_exists.mp hs
      simp only [Tm.by, hv, Option.getD_some]
      exact hσv y v hv
    | int j => exact hu'
    | str j => exact hu'
  have etm : ∀ p ∈ Rl.ps ⟨0, (r.ps.map (Pat.by σ) ++ qs).map .yes, es⟩, ∀ t ∈ p.ts, TmOf names values t := by
    rw [eps]
    intro p hp
    rcases List.mem_append.mp hp with h | h
    · obtain ⟨q, hq, rfl⟩ := List.mem_map.mp h
      exact hby q hq
    · exact (hq2 p h).2
  have e2 : ∀ p ∈ Rl.ps ⟨0, (r.ps.map (Pat.by σ) ++ qs).map .yes, es⟩, p.ts.length ≤ 2 := by
    rw [eps]
    intro p hp
    rcases List.mem_append.mp hp with h | h
    · obtain ⟨q, hq, rfl⟩ := List.mem_map.mp h
      have := hr.ok.tm q hq
      simpa [Pat.by] using this
    · exact hd.k2 _ (hq2 p h).1
  have hsub : ∀ p : Pat, p.sub (rwords r) → (p.by σ).sub (rwords ⟨0, (r.ps.map (Pat.by σ) ++ qs).map .yes, es⟩) := by
    intro p hp x hx
    obtain ⟨u, hu, e⟩ := List.mem_map.mp (names_iff.mp hx)
    cases u with
    | var y =>
      have hy : y ∈ rwords r := hp y (names_iff.mpr hu)
      obtain ⟨q, hq, hyq⟩ := List.mem_flatMap.mp ((rwords_mem r y).mp hy)
      rw [rwords_mem]
      refine List.mem_flatMap.mpr ⟨q.by σ, by rw [eps]; exact List.mem_append_left _ (List.mem_map_of_mem hq), ?_⟩
      rw [← e]
      exact List.mem_map_of_mem hyq
    | int j => cases e
    | str j => cases e
  have hesl := h3.len
  have hdl := hr.ok.dl
  refine ⟨⟨?_, e2, ?_, by show es.length ≤ 4; omega, rwords_le hd hn etm⟩, ?_, etm, by rw [eps]⟩
  · show ((r.ps.map (Pat.by σ) ++ qs).map Cn.yes).length ≤ 4
    simp
    omega
  · intro e he
    obtain ⟨d, hdm, hb⟩ := h3.mem e he
    obtain ⟨o1, o2⟩ := hr.ok.ds d hdm
    rw [eps]
    have hlen : ∀ p : Pat, p.ts.length ≤ 2 → (p.by σ).ts.length ≤ 2 := fun p hp => by simpa [Pat.by] using hp
    cases d with
    | halt =>
      cases hb
      exact ⟨trivial, fun p h => by cases h⟩
    | drop i =>
      cases hb
      refine ⟨?_, fun p h => by cases h⟩
      show i < (r.ps.map (Pat.by σ) ++ qs).length
      have : i < r.ps.length := o1
      simp
      omega
    | make p =>
      rcases hb with rfl | rfl
      · exact ⟨hsub p o1, fun q h => by cases h; exact hlen p (o2 p rfl)⟩
      · exact ⟨hsub p o1, fun q h => by cases h; exact hlen p (o2 p rfl)⟩
    | stand p =>
      rcases hb with rfl | rfl
      · exact ⟨hsub p o1, fun q h => by cases h; exact hlen p (o2 p rfl)⟩
      · exact ⟨hsub p o1, fun q h => by cases h; exact hlen p (o2 p rfl)⟩
  · simp
    omega
end K87

-- K87V
set_option autoImplicit true
set_option Elab.async false
set_option linter.all false
set_option maxRecDepth 100000
set_option maxHeartbeats 400000
namespace K87
open PySem PyProof.Rows Ev
variable {n : Nat} {st : List D}
theorem tm_of {kinds : List (Str × Nat)} {names : List Str} {values : List Tm} (hd : Dr kinds names values) {t : Tm} (h : TmOf names values t) : t.ok = true ∧ D.pt 100 1 t.d = true := by
  rcases h with ⟨x, hx, rfl⟩ | h
  · obtain ⟨a, b⟩ := hd.nw x hx
    have e3 : (Str.ofString "var").length ≤ 100 := by decide +kernel
    refine ⟨?_, ?_⟩
    · show (decide ((Str.ofString "var") = (Str.ofString "var")) && wordB x) = true
      simp [a]
    · show D.pt 100 1 (.tup [.str "var", .str x]) = true
      simp only [D.pt, D.pts, e3, List.length_cons, List.length_nil, decide_eq_true_eq, Bool.and_eq_true, Bool.and_true, decide_true, Bool.true_and]
      exact ⟨by decide, by omega⟩
  · obtain ⟨a, b, c⟩ := hd.vv t h
    refine ⟨b, ?_⟩
    cases t with
    | int i => simp [Tm.d, D.pt]
    | str x => have := c x rfl; simp [Tm.d, D.pt]; omega
    | var x => cases a
theorem told_pt {kinds : List (Str × Nat)} {names : List Str} {values : List Tm} (hd : Dr kinds names values) {τ : Nm} (hl : τ.length ≤ 3) (h1 : ∀ q ∈ τ, q.1 ∈ names) (h2 : ∀ q ∈ τ, TmOf names values q.2) : D.pt 100 3 (toldD τ) = true := by
  refine pt_tup.mpr ⟨by rw [List.length_map]; omega, fun x hx => ?_⟩
  obtain ⟨q, hq, rfl⟩ := List.mem_map.mp hx
  refine pt_tup.mpr ⟨by simp, fun y hy => ?_⟩
  simp only [List.mem_cons, List.not_mem_nil, or_false] at hy
  rcases hy with rfl | rfl
  · have := (hd.nw _ (h1 q hq)).2
    simp [D.pt]; omega
  · exact (tm_of hd (h2 q hq)).2
theorem rw_names {kinds : List (Str × Nat)} {names : List Str} {values : List Tm} (hd : Dr kinds names values) {k : Nat} {r : Rl} (h : RlGood k names values r) : ∀ x ∈ rwords r, x ∈ names := by
  intro x hx
  obtain ⟨p, hp, hpt⟩ := List.mem_flatMap.mp ((rwords_mem r x).mp hx)
  exact pat_names (kinds := kinds) hd.vv (h.tm p hp) x (names_iff.mpr hpt)
theorem right_pt {kinds : List (Str × Nat)} {names : List Str} {values : List Tm} (hd : Dr kinds names values) {r pl : Rl} (hr : RlGood 4 names values r) (hp : RlGood 4 names values pl) {i : Nat} {τ : Nm} (h : RightN r i pl τ) : D.pt 100 3 (toldD τ) = true ∧ ∀ q ∈ τ, q.2.ok = true := by
  have hv : ∀ q ∈ τ, TmOf names values q.2 := by
    intro q hq
    obtain ⟨p, hp', ht⟩ := List.mem_flatMap.mp (right_vals h q hq)
    exact hr.tm p hp' _ ht
  have hl := congrArg List.length h.1
  rw [List.length_map] at hl
  have := hp.ok.wl
  exact ⟨told_pt hd (by omega) (fun q hq => rw_names hd hp _ (h.1 ▸ List.mem_map_of_mem hq)) hv, fun q hq => (tm_of hd (hv q hq)).1⟩
def GoI (r pl : Rl) (i : Nat) (R : List Nm) (rest : List D) (s : S) : Prop := ∃ (ys : List Int) (a b c d : Sl), s = ⟨[.v (.ref 0), .v r.d, .v (.int i), .v pl.d, .v (.lst (R.map toldD)), a, b, c, d], dr ys rest⟩ ∧ fr1 (some a) = true ∧ fr1 (some c) = true
theorem goes_gen {kinds : List (Str × Nat)} {names : List Str} {values : List Tm} (hd : Dr kinds names values) (r pl : Rl) (i : Nat) (hr : RlGood 4 names values r) (hp : RlGood 4 names values pl) (hi : i < r.ds.length) :
    Gen (evF tb (n + 10)) 49 [r.d, .int i, pl.d] fun d => d = .bl true := by
  intro xs rest
  rw [evF_run (d := b49) rfl rfl (by decide)]
  have eN := fun (st : List D) => namings_spec (n := n + 5) (st := st) r pl i hr.ok hp.ok hi
  have hRm := fun τ => rightL_mem r i pl τ
  have hRl : (rightL r i pl).length ≤ 512 := by
    unfold rightL
    rw [lawN_eq, List.length_map]
    refine Nat.le_trans (List.length_filter_le _ _) ?_
    have := rows_small (termsL r) (rwords pl) (rwords pl).length (by have := termsL_len r; have := hr.ok.tms; omega) hp.ok.wl
    rwa [List.take_length] at this
  have ef := fun (st : List D) => naming_for_spec (n := n + 3) (st := st) r pl i hr.ok hp.ok hi
  rw [naming_head] at ef
  generalize hRR : rightL r i pl = R at eN hRm hRl ef
  have hpt : ∀ τ ∈ R, D.pt 100 3 (toldD τ) = true ∧ ∀ q ∈ τ, q.2.ok = true := fun τ h => right_pt hd hr hp ((hRm τ).mp h)
  have hjudge : ∀ (m : Nat) (d : D) (st : List D), m ≤ 50 → D.pt 1000 m d = true → evF tb (n + 9) 23 [r.d, .int i, pl.d, d] st = some (.bl (decide (d ∈ R.map toldD)), st) := by
    intro m d st hm hd'
    obtain ⟨⟨q1, q2⟩, e1, rfl, b, e2, hb⟩ := judge_spec (n := n + 3) (st := st) r pl i hr.ok hp.ok hi hm d hd'
    simp only at e2
    subst e2
    rw [e1]
    have : b = decide (d ∈ R.map toldD) := by
      rw [Bool.eq_iff_iff, hb, decide_eq_true_iff, List.mem_map]
      constructor
      · rintro ⟨τ, rfl, h1, h2, h3⟩
        exact ⟨τ, (hRm τ).mpr (judge_right.mp ⟨h1, h3⟩), rfl⟩
      · rintro ⟨τ, hτ, rfl⟩
        have h1 := (hRm τ).mp hτ
        exact ⟨τ, rfl, h1.1, (hpt τ hτ).2, (judge_right.mpr h1).2⟩
    rw [this]
  have hsb : ∀ (b : Bool) (st : List D), evF tb (n + 9) 27 [.bl b, .bl b] st = some (.bl true, st) := fun b st => same_spec 0 (.bl b) (by simp [D.bd]) (n + 8)
  have hso : ∀ (o : Option Nm) (st : List D), (∀ τ, o = some τ → τ ∈ R) → evF tb (n + 9) 27 [optD toldD o, optD toldD o] st = some (.bl true, st) := by
    intro o st ho
    refine same_spec 3 _ ?_ (n + 5)
    cases o with
    | none => simp [optD, D.bd]
    | some τ => exact pt_bd (by omega) _ (hpt τ (ho τ rfl)).1
  simp only [b49]
  rw [ok_bnd]
  refine seq_ok (fun s => s = ⟨[.v (.ref 0), .v r.d, .v (.int i), .v pl.d, .v (.lst (R.map toldD)), .un, .un, .un, .un], dr xs rest⟩) ?_ ?_
  · simp [eN]
  rintro s0 rfl
  refine seq_ok (GoI r pl i R rest) ?_ ?_
  · have e0 : L2.atI (R.map toldD ++ [D.non]) 0 = some (optD toldD R.head?) := by cases R <;> simp [optD]
    simp [ef, e0, hso R.head? (dr xs rest) (fun τ h => List.mem_of_mem_head? h), show R.length ≤ 16777215 by omega]
    exact ⟨xs, _, _, _, _, rfl, rfl, rfl⟩
  rintro s0 hs0
  refine seq_ok (GoI r pl i R rest) ?_ ?_
  · refine loopX_ok (fun d => ∃ τ ∈ R, d = toldD τ) (GoI r pl i R rest) ?_ ?_
    · obtain ⟨ys, a, b, c, d, rfl, ha, hc⟩ := hs0
      have l1 := cutD_len (R.map toldD) none (some 3)
      have l2 := cutD_len (R.map toldD) (some (-1)) none
      rw [List.length_map] at l1 l2
      simp
      refine imp_and (by omega) ⟨?_, ys, _, _, _, _, rfl, ha, hc⟩
      intro e he
      have hm : e ∈ R.map toldD := by
        rcases he with h | h
        · exact cutD_mem h
        · exact cutD_mem h
      obtain ⟨τ, hτ, rfl⟩ := List.mem_map.mp hm
      exact ⟨τ, hτ, rfl⟩
    · rintro d s2 ⟨τ, hτ, rfl⟩ ⟨ys, a, b, c, d, rfl, ha, hc⟩
      have ej := hjudge 3 (toldD τ) (dr ys rest) (by omega) (pt_mono (by omega) _ (Nat.le_refl _) (hpt τ hτ).1)
      have : decide (toldD τ ∈ R.map toldD) = true := decide_eq_true (List.mem_map_of_mem hτ)
      rw [this] at ej
      simp [ej]
      exact ⟨ys, _, _, _, _, rfl, rfl, hc⟩
  rintro s0 ⟨ys, a, b, c, d, rfl, ha, hc⟩
  refine seq_ok (fun s => s = ⟨[.v (.ref 0), .v r.d, .v (.int i), .v pl.d, .v (.lst (R.map toldD)), a, .v (nmD (own pl)), c, d], dr ys rest⟩) ?_ ?_
  · have ei := as_itself_spec (n := n + 6) (st := dr ys rest) pl hp.ok
    simp [ei]
  rintro s0 rfl
  have hol : (own pl).length ≤ 3 := by rw [own_eq, mk_len]; exact hp.ok.wl
  have hok : (own pl).map (·.1) = rwords pl := by rw [own_eq, keys_mk]
  have hbase : D.pt 100 3 (toldD (told (own pl))) = true := by
    have e : told (own pl) = mk Tm.var (sortS (rwords pl)) := by rw [own_eq, told_mk]
    rw [e]
    have hn := rw_names hd hp
    refine told_pt hd (by rw [mk_len, sortS_len]; exact hp.ok.wl) ?_ ?_
    · intro q hq
      obtain ⟨x, hx, rfl⟩ := List.mem_map.mp hq
      exact hn x (mem_sortS.mp hx)
    · intro q hq
      obtain ⟨x, hx, rfl⟩ := List.mem_map.mp hq
      exact .inl ⟨x, hn x (mem_sortS.mp hx), rfl⟩
  refine seq_ok (fun s => s = ⟨[.v (.ref 0), .v r.d, .v (.int i), .v pl.d, .v (.lst (R.map toldD)), a, .v (toldD (told (own pl))), c, d], dr ys rest⟩) ?_ ?_
  · simp [nmD]
    rw [compM D.str (sortS ((own pl).map (·.1))) (fun w => prD (w, (lk (own pl) w).getD default)) (by simp [show (own pl).length < 64 by omega]) (by simp [hc]) (by rw [sortS_len]; simp; omega) ?_]
    · simp [toldD, told, Function.comp_def]
    · intro w hw
      have hs := lks_some (own pl) w
      rw [(hasK_iff (own pl) w).mpr (mem_sortS.mp hw)] at hs
      obtain ⟨v, hv⟩ := Option.isSome_iff_exists.mp hs
      simp [hv, prD]
  rintro s0 rfl
  generalize toldD (told (own pl)) = base at hbase
  refine seq_ok (GoI r pl i R rest) ?_ ?_
  · refine loopX_ok (fun d => D.pt 1000 13 d = true) (GoI r pl i R rest) ?_ ?_
    · simp
      refine (spoilt_gen (n := n + 6) 3 base hbase).bnd fun e zs he => ?_
      simp
      obtain ⟨R2, eR2, hR2⟩ : ∃ R2 : List Nm, Ev.cutD (R.map toldD) none (some 2) = R2.map toldD ∧ R2.Sublist R := cutD_map toldD R none (some 2)
      have hR2l := hR2.length_le
      refine ok_mono (compG (items := R2.map toldD) (fun d => D.pt 1000 13 d = true) ?_ (by simp [ha]) (by simp; omega) ?_) ?_
      · simp [eR2]
        exact ⟨zs, rfl⟩
      · intro d hd' us
        obtain ⟨τ, hτ, rfl⟩ := List.mem_map.mp hd'
        simp
        refine (spoilt_gen (n := n + 6) 3 (toldD τ) (hpt τ (hR2.subset hτ)).1).bnd fun e zs he => ?_
        simp
        exact ⟨he, zs, rfl⟩
      · rintro q ⟨acc, us, rfl, h1, h2⟩
        rw [List.length_map] at h1
        simp
        refine imp_and (by omega) ⟨⟨pt_mono (by omega) _ (by omega) hbase, by simp [D.pt, D.pts], he, h2⟩, us, _, _, _, _, rfl, ha, hc⟩
    · rintro d s2 hd' ⟨ys, a, b, c, d2, rfl, ha, hc⟩
      have ej := hjudge 13 d (dr ys rest) (by omega) hd'
      have hgs : D.gds 3 (R.map toldD) = true := (gds_iff _ _).mpr fun x hx => by
        obtain ⟨τ, hτ, rfl⟩ := List.mem_map.mp hx
        exact pt_gd _ (hpt τ hτ).1
      have ein := c_inL (x := d) (ds := R.map toldD) (pt_gd d hd') hgs (by omega) (by omega)
      have es := hsb (decide (d ∈ R.map toldD)) (dr ys rest)
      simp [ej, ein, es, -List.mem_map]
      exact ⟨ys, _, _, _, _, rfl, ha, hc⟩
  rintro s0 ⟨ys, a, b, c, d, rfl, ha, hc⟩
  simp
  exact ⟨ys, rfl⟩
end K87

-- K87Y
set_option autoImplicit true
set_option Elab.async false
set_option linter.all false
set_option maxRecDepth 100000
set_option maxHeartbeats 400000
namespace K87
open PySem PyProof.Rows Ev
variable {n : Nat} {st : List D}
def wideR : Rl := ⟨0, [.yes ⟨"p", [.var "x", .var "y"]⟩], [.drop 0, .make ⟨"q", [.var "y"]⟩]⟩
def nearR : Rl := ⟨0, [.yes ⟨"p", [.var "z", .int 3]⟩, .yes ⟨"p", [.int 3, .int 3]⟩], [.stand ⟨"q", [.int 3]⟩, .halt]⟩
def X : Str := "x"
def Y : Str := "y"
def Z : Str := "z"
def xy : Nm := [(X, .int 3), (Y, .int 3)]
def zy : Nm := [(X, .var Z), (Y, .int 3)]
theorem sortS_id {l : List Str} (h : l.Pairwise fun a b => leS a b = true) : sortS l = l := sorted_unique (fun _ _ => leS_antisymm) (sortS_perm l) (sortS_pairwise l) h
theorem sXY : sortS [X, Y] = [X, Y] := sortS_id (by simp; decide +kernel)
theorem w_words : rwords wideR = [X, Y] := by
  have : varsOf wideR.tms = [X, Y] := by decide +kernel
  unfold rwords
  rw [this, sXY]
theorem n_words : rwords nearR = [Z] := by decide +kernel
theorem ex1 : minO nkey (progN nearR 0 wideR) = some xy := by
  have h : (nms wideR nearR).filter (fun σ => covers wideR σ nearR 0) = [zy, xy] := by decide +kernel
  unfold progN
  rw [h]
  have h1 : told zy = zy := by
    show (sortS [X, Y]).map _ = _
    rw [sXY]
    decide +kernel
  have h2 : told xy = xy := by
    show (sortS [X, Y]).map _ = _
    rw [sXY]
    decide +kernel
  rw [List.map_cons, List.map_cons, h1, h2]
  decide +kernel
theorem ex2 : minO nkey (progN nearR 1 wideR) = none := by decide +kernel
theorem ex3 : coverP [nearR, wideR] 0 0 = some (1, xy) := by
  simp [coverP, List.zipIdx, forN, ex1]
theorem ex4 : needlessP [nearR, wideR] 0 = false := by decide +kernel
theorem ex5 : judgeN nearR 0 wideR zy = true := by decide +kernel
theorem near_ok : RlOk nearR := by
  refine ⟨by decide, by decide, ?_, by decide, by rw [n_words]; decide⟩
  rw [n_words]
  intro d hd
  simp only [nearR, List.mem_cons, List.not_mem_nil, or_false] at hd
  rcases hd with rfl | rfl
  · refine ⟨?_, fun p h => by cases h; decide⟩
    intro x hx
    have := names_iff.mp hx
    simp at this
  · exact ⟨trivial, fun p h => by cases h⟩
theorem wide_ok : RlOk wideR := by
  refine ⟨by decide, by decide, ?_, by decide, by rw [w_words]; decide⟩
  rw [w_words]
  intro d hd
  simp only [wideR, List.mem_cons, List.not_mem_nil, or_false] at hd
  rcases hd with rfl | rfl
  · exact ⟨show 0 < 1 by decide, fun p h => by cases h⟩
  · refine ⟨?_, fun p h => by cases h; decide⟩
    intro x hx
    have := names_iff.mp hx
    simp only [List.mem_singleton, Tm.var.injEq] at this
    subst this
    exact List.mem_cons_of_mem _ List.mem_cons_self
/-- the end: the law's own example -/
def endIR : ISs := match b50.body with
  | .cons _ (.cons _ r) => r
  | _ => .nil
theorem end_ok (ρ : List Sl) (st : List D) (hρ : ∃ a0 a1 a2 a3 a4 a5 a6 a7 a8 a9 a10 a11 a12 a13 a14, ρ = [a0, a1, a2, a3, a4, a5, a6, a7, a8, a9, a10, a11, a12, a13, a14]) : ok (evSs (evF tb (n + 10)) endIR ⟨ρ, st⟩) fun r => r.1 = .ret (.bl true) ∧ r.2.st = st := by
  obtain ⟨a0, a1, a2, a3, a4, a5, a6, a7, a8, a9, a10, a11, a12, a13, a14, rfl⟩ := hρ
  have f1 := naming_for_spec (n := n + 4) (st := st) nearR wideR 0 near_ok wide_ok (by decide)
  have f2 := naming_for_spec (n := n + 4) (st := st) nearR wideR 1 near_ok wide_ok (by decide)
  rw [ex1] at f1
  rw [ex2] at f2
  have hall : ∀ r ∈ [nearR, wideR], RlOk r := by
    intro r hr
    simp only [List.mem_cons, List.not_mem_nil, or_false] at hr
    rcases hr with rfl | rfl
    · exact near_ok
    · exact wide_ok
  have f3 := covering_rule_spec (n := n + 3) (st := st) [nearR, wideR] 0 0 hall (by decide) (by decide)
  have f4 := is_needless_spec (n := n + 2) (st := st) [nearR, wideR] 0 hall (by decide)
  rw [ex3] at f3
  rw [ex4] at f4
  have f5 : evF tb (n + 10) 23 [nearR.d, .int 0, wideR.d, toldD zy] st = some (.bl true, st) := by
    obtain ⟨⟨q1, q2⟩, e, rfl, b, ex2, hb⟩ := judge_spec (n := n + 4) (st := st) nearR wideR 0 near_ok wide_ok (by decide) (m := 3) (by decide) (toldD zy) (by decide +kernel)
    simp only at ex2
    subst ex2
    have hk : zy.map (·.1) = rwords wideR := by rw [w_words]; rfl
    have ho : ∀ p ∈ zy, p.2.ok = true := by decide +kernel
    rw [hb.mpr ⟨zy, rfl, hk, ho, ex5⟩] at e
    exact e
  simp only [endIR, b50]
  refine seq_ok (fun s => s = ⟨[a0, a1, a2, a3, a4, a5, a6, a7, a8, a9, a10, a11, .v wideR.d, a13, a14], st⟩) ?_ ?_
  · simp
    rfl
  rintro s0 rfl
  refine seq_ok (fun s => s = ⟨[a0, a1, a2, a3, a4, a5, a6, a7, a8, a9, a10, a11, .v wideR.d, .v (.tup (nearR.ds.map Dd.d)), a14], st⟩) ?_ ?_
  · simp
    rfl
  rintro s0 rfl
  refine seq_ok (fun s => s = ⟨[a0, a1, a2, a3, a4, a5, a6, a7, a8, a9, a10, a11, .v wideR.d, .v (.tup (nearR.ds.map Dd.d)), .v nearR.d], st⟩) ?_ ?_
  · simp
    rfl
  rintro s0 rfl
  have f1' : evF tb (n + 10) 19 [nearR.d, .int 0, wideR.d] st = some (toldD xy, st) := f1
  have f2' : evF tb (n + 10) 19 [nearR.d, .int 1, wideR.d] st = some (.non, st) := f2
  have f3' : evF tb (n + 10) 20 [.tup [nearR.d, wideR.d], .int 0, .int 0] st = some (cvD (1, xy), st) := f3
  have f4' : evF tb (n + 10) 21 [.tup [nearR.d, wideR.d], .int 0] st = some (.bl false, st) := f4
  have f5' : evF tb (n + 10) 23 [nearR.d, .int 0, wideR.d, .tup [.tup [.str "x", .tup [.str "var", .str "z"]], .tup [.str "y", .int 3]]] st = some (.bl true, st) := f5
  have g1 : cmpD .ne (toldD xy) (.tup [.tup [.str "x", .int 3], .tup [.str "y", .int 3]]) = some false := by decide +kernel
  have g2 : cmpD .ne (cvD (1, xy)) (.tup [.int 1, .tup [.tup [.str "x", .int 3], .tup [.str "y", .int 3]]]) = some false := by decide +kernel
  simp [f1', f2', f3', f4', f5', g1, g2]
end K87

-- K87Z
set_option autoImplicit true
set_option Elab.async false
set_option linter.all false
set_option maxRecDepth 100000
set_option maxHeartbeats 800000
namespace K87
open PySem PyProof.Rows Ev
variable {n : Nat} {st : List D}
def LwI (x : D) (s : S) : Prop := ∃ (ys : List Int) (a2 a3 a4 a5 a6 a7 a8 a9 a10 a11 : Sl), s = ⟨[.v x, .v (.ref 0), a2, a3, a4, a5, a6, a7, a8, a9, a10, a11, .un, .un, .un], dr ys []⟩
/-- the rules of a turn -/
def LwR (x : D) (rs : List Rl) (s : S) : Prop := ∃ (ys : List Int) (a2 a3 a4 a5 a6 a8 a9 a10 a11 : Sl), s = ⟨[.v x, .v (.ref 0), a2, a3, a4, a5, a6, .v (.tup (rs.map Rl.d)), a8, a9, a10, a11, .un, .un, .un], dr ys []⟩
def LwD (x : D) (rs : List Rl) (k i : Nat) (s : S) : Prop := ∃ (ys : List Int) (a2 a3 a4 a5 a6 a10 a11 : Sl), s = ⟨[.v x, .v (.ref 0), a2, a3, a4, a5, a6, .v (.tup (rs.map Rl.d)), .v (.int k), .o (.lst (((List.range i).map fun d => (coverL rs k d).isSome).map .bl)), a10, a11, .un, .un, .un], dr ys []⟩
theorem good_mono {k k' : Nat} {names names' : List Str} {values : List Tm} {r : Rl} (h : RlGood k names values r) (hk : k ≤ k') (hn : ∀ x ∈ names, x ∈ names') : RlGood k' names' values r :=
  ⟨h.ok, Nat.le_trans h.cs hk, fun p hp t ht => by
    rcases h.tm p hp t ht with ⟨x, hx, e⟩ | q
    · exact .inl ⟨x, hn x hx, e⟩
    · exact .inr q, h.ys⟩
theorem cover_bd {kinds : List (Str × Nat)} {names : List Str} {values : List Tm} (hd : Dr kinds names values) {rs : List Rl} (hg : ∀ r ∈ rs, RlGood 4 names values r) {k i : Nat} (hk : k < rs.length) : D.bd 4 (optD cvD (coverL rs k i)) = true := by
  cases h : coverL rs k i with
  | none => simp [optD, D.bd]
  | some q =>
    obtain ⟨j, τ⟩ := q
    unfold coverL at h
    obtain ⟨x, hx, e⟩ := List.exists_of_findSome?_eq_some h
    have hx' := List.mem_range.mp hx
    split at e
    · cases e
    · obtain ⟨τ', hτ, e2⟩ := Option.map_eq_some_iff.mp e
      cases e2
      have hm := List.mem_of_mem_head? hτ
      have := (right_pt hd (hg _ (getD_mem hk)) (hg _ (getD_mem hx')) ((rightL_mem _ _ _ _).mp hm)).1
      exact bd_tup.mpr ⟨by simp, fun y hy => by
        simp only [List.mem_cons, List.not_mem_nil, or_false] at hy
        rcases hy with rfl | rfl
        · simp [D.bd]
        · exact pt_bd (by omega) _ this⟩
def rulesLoop : IS := match b50.body with
  | .cons _ (.cons (.loop _ _ _ (.cons _ (.cons _ (.cons _ (.cons _ (.cons _ (.cons _ (.cons _ (.cons _ (.cons l _)))))))))) _) => l
  | _ => .nop
theorem rules_ok (x : D) {kinds : List (Str × Nat)} {names : List Str} {values : List Tm} (hd : Dr kinds names values) (rs : List Rl) (h0 : rs ≠ []) (hl : rs.length ≤ 10) (hg : ∀ r ∈ rs, RlGood 4 names values r) (s : S) (hs : LwR x rs s) :
    ok (evS (evF tb (n + 10)) rulesLoop s) fun r => r.1 = .nx ∧ LwR x rs r.2 := by
  have hok : ∀ r ∈ rs, RlOk r := fun r hr => (hg r hr).ok
  refine ok_mono (loop_ok (items := (List.range rs.length).map fun (k : Nat) => .int (k : Int)) (fun _ => LwR x rs) (fun _ => False) (fun _ _ => False) ?_ ?_) ?_
  · obtain ⟨ys, a2, a3, a4, a5, a6, a8, a9, a10, a11, rfl⟩ := hs
    simp
    exact ⟨it_range (by omega), ys, _, _, _, _, _, _, _, _, _, rfl⟩
  · rintro k d s2 hk ⟨ys, a2, a3, a4, a5, a6, a8, a9, a10, a11, rfl⟩
    have hkl : k < rs.length := by have := (List.getElem?_eq_some_iff.mp hk).1; simpa using this
    obtain ⟨j, hj, rfl⟩ : ∃ j : Nat, k = j ∧ .int (j : Int) = d := by
      rw [List.getElem?_map] at hk
      obtain ⟨j, hj, e⟩ := Option.map_eq_some_iff.mp hk
      obtain ⟨h, e2⟩ := List.getElem?_eq_some_iff.mp hj
      rw [List.getElem_range] at e2
      exact ⟨j, e2, e⟩
    subst hj
    have hrk := getD_mem hkl
    have hdl := (hok _ hrk).dl
    rw [bindT_one, ok_some]
    refine seq_ok (LwD x rs k 0) ?_ ?_
    · simp
      exact ⟨ys, _, _, _, _, _, _, _, rfl⟩
    rintro s0 hs0
    refine seq_ok (LwD x rs k (rs.getD k default).ds.length) ?_ ?_
    · refine ok_mono (loop_ok (items := (List.range (rs.getD k default).ds.length).map fun (k : Nat) => .int (k : Int)) (LwD x rs k) (fun _ => False) (fun _ _ => False) ?_ ?_) ?_
      · obtain ⟨ys, a2, a3, a4, a5, a6, a10, a11, rfl⟩ := hs0
        simp [atI_nat (rls_at hkl), -List.getD_eq_getElem?_getD]
        exact ⟨it_range (by omega), ys, _, _, _, _, _, _, _, rfl⟩
      · rintro i d s2 hi ⟨ys, a2, a3, a4, a5, a6, a10, a11, rfl⟩
        have hil : i < (rs.getD k default).ds.length := by have := (List.getElem?_eq_some_iff.mp hi).1; simpa using this
        obtain ⟨j, hj, rfl⟩ : ∃ j : Nat, i = j ∧ .int (j : Int) = d := by
          rw [List.getElem?_map] at hi
          obtain ⟨j, hj, e⟩ := Option.map_eq_some_iff.mp hi
          obtain ⟨h, e2⟩ := List.getElem?_eq_some_iff.mp hj
          rw [List.getElem_range] at e2
          exact ⟨j, e2, e⟩
        subst hj
        have f1 := law_covering_spec (n := n + 5) (st := dr ys []) rs k i hok (by omega) hkl hil
        have f2 := covering_rule_spec (n := n + 3) (st := dr ys []) rs k i hok hkl hil
        rw [cover_eq] at f2
        have f3 := same_spec (st := dr ys []) 4 (optD cvD (coverL rs k i)) (cover_bd hd hg hkl) (n + 5)
        have hco : decide (optD cvD (coverL rs k i) = .non) = !(coverL rs k i).isSome := by cases coverL rs k i <;> simp [optD, cvD]
        rw [bindT_one, ok_some]
        refine seq_ok (fun s => s = ⟨[.v x, .v (.ref 0), a2, a3, a4, a5, a6, .v (.tup (rs.map Rl.d)), .v (.int k), .o (.lst (((List.range i).map fun d => (coverL rs k d).isSome).map .bl)), .v (.int i), .v (optD cvD (coverL rs k i)), .un, .un, .un], dr ys []⟩) ?_ ?_
        · simp [f1]
        rintro s0 rfl
        refine seq_ok (fun s => s = ⟨[.v x, .v (.ref 0), a2, a3, a4, a5, a6, .v (.tup (rs.map Rl.d)), .v (.int k), .o (.lst (((List.range (i + 1)).map fun d => (coverL rs k d).isSome).map .bl)), .v (.int i), .v (optD cvD (coverL rs k i)), .un, .un, .un], dr ys []⟩) ?_ ?_
        · simp [hco, List.range_succ]
          omega
        rintro s0 rfl
        generalize hbs : (((List.range (i + 1)).map fun d => (coverL rs k d).isSome).map D.bl) = bs
        refine seq_ok (fun s => s = ⟨[.v x, .v (.ref 0), a2, a3, a4, a5, a6, .v (.tup (rs.map Rl.d)), .v (.int k), .o (.lst bs), .v (.int i), .v (optD cvD (coverL rs k i)), .un, .un, .un], dr ys []⟩) ?_ ?_
        · simp [f2, f3]
        rintro s0 rfl
        simp [atI_nat (rls_at hkl), -List.getD_eq_getElem?_getD]
        have hne : rs.map Rl.d ≠ [] := by simpa using h0
        refine (pickT_gen (n := n + 8) (rs.map Rl.d) hne).bnd fun e zs he => ?_
        obtain ⟨pl, hpl, rfl⟩ := List.mem_map.mp he
        simp [-List.getD_eq_getElem?_getD]
        refine (goes_gen (n := n) hd (rs.getD k default) pl i (hg _ hrk) (hg _ hpl) hil).bnd fun e us he => ?_
        subst he
        simp
        exact ⟨us, _, _, _, _, _, _, _, by rw [hbs]⟩
      · rintro ⟨fl, s⟩ (⟨g1, g2 | g2⟩ | ⟨v, g1, g2⟩)
        · rw [List.length_map, List.length_range] at g2
          exact ⟨g1, g2⟩
        · exact g2.elim
        · exact g2.elim
    rintro s0 ⟨ys, a2, a3, a4, a5, a6, a10, a11, rfl⟩
    have f4 := is_needless_spec (n := n + 2) (st := dr ys []) rs k hok hkl
    have hnd : needlessP rs k = ((List.range (rs.getD k default).ds.length).map fun d => (coverL rs k d).isSome).all id := by
      unfold needlessP
      rw [List.all_map]
      congr 1
      funext d
      rw [cover_eq]
      rfl
    have f5 := bl_noFalse ((List.range (rs.getD k default).ds.length).map fun d => (coverL rs k d).isSome)
    rw [← hnd] at f5
    have f6 := same_spec (st := dr ys []) 0 (.bl (needlessP rs k)) (by simp [D.bd]) (n + 9)
    generalize (((List.range (rs.getD k default).ds.length).map fun d => (coverL rs k d).isSome).map D.bl) = bs at f5 ⊢
    simp [f4, f5, f6]
    exact ⟨ys, _, _, _, _, _, _, _, _, _, rfl⟩
  · rintro ⟨fl, s⟩ (⟨g1, g2 | g2⟩ | ⟨v, g1, g2⟩)
    · exact ⟨g1, g2⟩
    · exact g2.elim
    · exact g2.elim
theorem len7 {α : Type} : ∀ {l : List α}, l.length = 7 → ∃ a b c d e f g, l = [a, b, c, d, e, f, g]
  | [a, b, c, d, e, f, g], _ => ⟨a, b, c, d, e, f, g, rfl⟩
  | [], h => by cases h
  | [_], h => by cases h
  | [_, _], h => by cases h
  | [_, _, _], h => by cases h
  | [_, _, _, _], h => by cases h
  | [_, _, _, _, _], h => by cases h
  | [_, _, _, _, _, _], h => by cases h
  | _ :: _ :: _ :: _ :: _ :: _ :: _ :: _ :: _, h => by simp at h
theorem law_ok (ns : List Int) : ∃ st', evF tb (n + 11) 50 [.scr (ns.map .int)] [] = some (.bl true, st') := by
  have key : ok (evF tb (n + 11) 50 [.scr (ns.map .int)] []) fun r => r.1 = .bl true := by
    rw [evF_run (d := b50) rfl rfl (by decide)]
    simp only [b50]
    rw [ok_bnd]
    refine seq_ok (LwI (.scr (ns.map .int))) ?_ ?_
    · simp
      refine ok_mono (draws_spec (n := n + 9) (st := []) ns) ?_
      rintro q ⟨xs, rfl⟩
      simp
      exact ⟨xs, _, _, _, _, _, _, _, _, _, _, rfl⟩
    rintro s0 hs0
    generalize hx : D.scr (ns.map .int) = x at hs0
    refine seq_ok (LwI x) ?_ ?_
    · refine ok_mono (loop_ok (items := (List.range 3).map fun (k : Nat) => .int (k : Int)) (fun _ => LwI x) (fun _ => False) (fun _ _ => False) ?_ ?_) ?_
      · obtain ⟨ys, a2, a3, a4, a5, a6, a7, a8, a9, a10, a11, rfl⟩ := hs0
        simp
        exact ⟨it_range (n := 3) (by omega), ys, _, _, _, _, _, _, _, _, _, _, rfl⟩
      · rintro k d s2 hk ⟨ys, a2, a3, a4, a5, a6, a7, a8, a9, a10, a11, rfl⟩
        rw [bindT_one, ok_some]
        refine seq_ok (fun s => ∃ (ws : List Str) (ys : List Int), ws.length = 7 ∧ Words ws ∧ (∀ w ∈ ws, w.length ≤ 50) ∧ s = ⟨[.v x, .v (.ref 0), .v d, .v (.lst (ws.map .str)), a4, a5, a6, a7, a8, a9, a10, a11, .un, .un, .un], dr ys []⟩) ?_ ?_
        · simp
          refine (words_gen (n := n + 8) 7 (by omega)).bnd fun e zs he => ?_
          obtain ⟨ws, rfl, h1, h2, h3⟩ := he
          simp
          exact ⟨ws, h1, h2, h3, rfl, zs, rfl⟩
        rintro s0 ⟨ws, ys, h1, h2, h3, rfl⟩
        obtain ⟨w0, w1, w2, w3, w4, w5, w6, rfl⟩ := len7 h1
        have hw : ∀ w ∈ [w0, w1, w2, w3, w4, w5, w6], wordB w = true ∧ w.length ≤ 50 := fun w hw => ⟨h2.2 w hw, h3 w hw⟩
        have i5 : L2.atI [D.str w0, D.str w1, D.str w2, D.str w3, D.str w4, D.str w5, D.str w6] 5 = some (.str w5) := atI_nat (k := 5) rfl
        refine seq_ok (fun s => ∃ (kinds : List (Str × Nat)) (ys : List Int), kinds ≠ [] ∧ (∀ q ∈ kinds, q.2 ≤ 2) ∧ s = ⟨[.v x, .v (.ref 0), .v d, .v (.lst ([w0, w1, w2, w3, w4, w5, w6].map .str)), .v (.lst (kinds.map kindD)), a5, a6, a7, a8, a9, a10, a11, .un, .un, .un], dr ys []⟩) ?_ ?_
        · simp
          refine (pick_gen _ (by simp)).bnd fun e zs he => ?_
          simp only [List.mem_cons, List.not_mem_nil, or_false] at he
          have : ∃ j : Nat, e = .int (j : Int) ∧ j ≤ 2 := by
            rcases he with h | h | h
            · exact ⟨2, h, by omega⟩
            · exact ⟨1, h, by omega⟩
            · exact ⟨0, h, by omega⟩
          obtain ⟨j, rfl, hj⟩ := this
          simp
          exact ⟨[(w0, 1), (w1, j)], by simp, by simp; omega, by simp [kindD], zs, rfl⟩
        rintro s0 ⟨kinds, ys, k1, k2, rfl⟩
        refine seq_ok (fun s => ∃ (names : List Str) (ys : List Int), names.length ≤ 3 ∧ (∀ w ∈ names, w ∈ [w0, w1, w2, w3, w4, w5, w6]) ∧ s = ⟨[.v x, .v (.ref 0), .v d, .v (.lst ([w0, w1, w2, w3, w4, w5, w6].map .str)), .v (.lst (kinds.map kindD)), .v (.lst (names.map .str)), a6, a7, a8, a9, a10, a11, .un, .un, .un], dr ys []⟩) ?_ ?_
        · simp
          refine (take_gen (n := n + 9) 3 (by decide)).bnd fun e zs he => ?_
          obtain ⟨k, rfl, q0, q1⟩ := he
          have hcut : ∃ names : List Str, Ev.cutD [D.str w0, D.str w1, D.str w2, D.str w3, D.str w4, D.str w5, D.str w6] (some 1) (some (2 + k)) = names.map .str ∧ names.length ≤ 3 ∧ ∀ w ∈ names, w ∈ [w0, w1, w2, w3, w4, w5, w6] := by
            obtain rfl | rfl | rfl : k = 0 ∨ k = 1 ∨ k = 2 := by omega
            · exact ⟨[w1], rfl, by simp, by simp⟩
            · exact ⟨[w1, w2], rfl, by simp, by simp⟩
            · exact ⟨[w1, w2, w3], rfl, by simp, by simp⟩
          obtain ⟨names, ec, hn1, hn2⟩ := hcut
          simp [ec]
          exact ⟨names, hn1, by simpa using hn2, rfl, zs, rfl⟩
        rintro s0 ⟨names, ys, n1, n2, rfl⟩
        refine seq_ok (fun s => ∃ (values : List Tm) (ys : List Int), values ≠ [] ∧ (∀ v ∈ values, VOk v) ∧ s = ⟨[.v x, .v (.ref 0), .v d, .v (.lst ([w0, w1, w2, w3, w4, w5, w6].map .str)), .v (.lst (kinds.map kindD)), .v (.lst (names.map .str)), .v (.lst (values.map Tm.d)), a7, a8, a9, a10, a11, .un, .un, .un], dr ys []⟩) ?_ ?_
        · simp [i5]
          refine (take_gen (n := n + 9) 2 (by decide)).bnd fun e zs he => ?_
          obtain ⟨k, rfl, q0, q1⟩ := he
          obtain ⟨b1, b2⟩ := hw w5 (by simp)
          simp
          refine (few_values_gen (n := n + 7) w5 b1 b2 (1 + k) (by omega)).bnd fun e zs he => ?_
          obtain ⟨vs, rfl, v1, -, v2⟩ := he
          simp
          exact ⟨vs, v1, v2, rfl, zs, rfl⟩
        rintro s0 ⟨values, ys, v1, v2, rfl⟩
        have hd : Dr kinds names values := ⟨k1, k2, fun y hy => hw y (n2 y hy), v1, v2⟩
        have hd3 : Dr kinds [w4, w5] values := ⟨k1, k2, fun y hy => hw y (by
          simp only [List.mem_cons, List.not_mem_nil, or_false] at hy ⊢
          rcases hy with h | h <;> simp [h]), v1, v2⟩
        have hdA : Dr kinds [w0, w1, w2, w3, w4, w5, w6] values := ⟨k1, k2, hw, v1, v2⟩
        have i46 : Ev.cutD [D.str w0, D.str w1, D.str w2, D.str w3, D.str w4, D.str w5, D.str w6] (some 4) (some 6) = [w4, w5].map .str := rfl
        refine seq_ok (fun s => ∃ (r1 : Rl) (ys : List Int), RlGood 3 names values r1 ∧ s = ⟨[.v x, .v (.ref 0), .v d, .v (.lst ([w0, w1, w2, w3, w4, w5, w6].map .str)), .v (.lst (kinds.map kindD)), .v (.lst (names.map .str)), .v (.lst (values.map Tm.d)), .o (.lst [r1.d]), a8, a9, a10, a11, .un, .un, .un], dr ys []⟩) ?_ ?_
        · simp
          refine (plain_rule_gen (n := n + 4) kinds names values hd n1 3 (by omega) (by omega)).bnd fun e zs he => ?_
          obtain ⟨r1, rfl, g1⟩ := he
          simp
          exact ⟨r1, g1, rfl, zs, rfl⟩
        rintro s0 ⟨r1, ys, g1, rfl⟩
        refine seq_ok (fun s => ∃ (r2 : Rl) (ys : List Int), RlGood 4 names values r2 ∧ s = ⟨[.v x, .v (.ref 0), .v d, .v (.lst ([w0, w1, w2, w3, w4, w5, w6].map .str)), .v (.lst (kinds.map kindD)), .v (.lst (names.map .str)), .v (.lst (values.map Tm.d)), .o (.lst [r1.d, r2.d]), a8, a9, a10, a11, .un, .un, .un], dr ys []⟩) ?_ ?_
        · simp
          refine (special_gen (n := n + 4) r1 kinds names values hd n1 g1).bnd fun e zs he => ?_
          obtain ⟨r2, rfl, g2⟩ := he
          simp
          exact ⟨r2, g2, rfl, zs, rfl⟩
        rintro s0 ⟨r2, ys, g2, rfl⟩
        refine seq_ok (fun s => ∃ (r3 : Rl) (ys : List Int), RlGood 3 [w4, w5] values r3 ∧ s = ⟨[.v x, .v (.ref 0), .v d, .v (.lst ([w0, w1, w2, w3, w4, w5, w6].map .str)), .v (.lst (kinds.map kindD)), .v (.lst (names.map .str)), .v (.lst (values.map Tm.d)), .o (.lst [r1.d, r2.d, r3.d]), a8, a9, a10, a11, .un, .un, .un], dr ys []⟩) ?_ ?_
        · simp [i46]
          refine (plain_rule_gen (n := n + 4) kinds [w4, w5] values hd3 (by simp) 2 (by omega) (by omega)).bnd fun e zs he => ?_
          obtain ⟨r3, rfl, g3⟩ := he
          simp
          exact ⟨r3, g3, rfl, zs, rfl⟩
        rintro s0 ⟨r3, ys, g3, rfl⟩
        refine seq_ok (fun s => ∃ rs : List Rl, rs.length = 3 ∧ (∀ r ∈ rs, RlGood 4 [w0, w1, w2, w3, w4, w5, w6] values r) ∧ LwR x rs s) ?_ ?_
        · simp
          refine (shuffled_gen (n := n + 8) [r1.d, r2.d, r3.d] (by simp)).bnd fun e zs he => ?_
          obtain ⟨us, rfl, hp⟩ := he
          have hall : ∀ u ∈ us, ∃ r : Rl, u = r.d ∧ RlGood 4 [w0, w1, w2, w3, w4, w5, w6] values r := by
            intro u hu
            have := hp.mem_iff.mp hu
            simp only [List.mem_cons, List.not_mem_nil, or_false] at this
            rcases this with rfl | rfl | rfl
            · exact ⟨r1, rfl, good_mono g1 (by omega) n2⟩
            · exact ⟨r2, rfl, good_mono g2 (by omega) n2⟩
            · exact ⟨r3, rfl, good_mono g3 (by omega) (fun y hy => by
                simp only [List.mem_cons, List.not_mem_nil, or_false] at hy ⊢
                rcases hy with h | h <;> simp [h])⟩
          obtain ⟨rs, rfl, hrs⟩ := map_of_all Rl.d (RlGood 4 [w0, w1, w2, w3, w4, w5, w6] values) hall
          have hlen := hp.length_eq
          rw [List.length_map] at hlen
          simp
          exact ⟨rs, hlen, hrs, zs, _, _, _, _, _, _, _, _, _, rfl⟩
        rintro s0 ⟨rs, hlen, hrs, hs⟩
        refine seq_ok (LwR x rs) ?_ ?_
        · exact rules_ok x hdA rs (fun e => by rw [e] at hlen; cases hlen) (by omega) hrs s0 hs
        rintro s1 ⟨ys, b2, b3, b4, b5, b6, b8, b9, b10, b11, rfl⟩
        simp
        exact ⟨ys, _, _, _, _, _, _, _, _, _, _, rfl⟩
      · rintro ⟨fl, s⟩ (⟨g1, g2 | g2⟩ | ⟨v, g1, g2⟩)
        · exact ⟨g1, g2⟩
        · exact g2.elim
        · exact g2.elim
    rintro s1 ⟨ys, a2, a3, a4, a5, a6, a7, a8, a9, a10, a11, rfl⟩
    refine ok_mono (end_ok (n := n) _ _ ⟨_, _, _, _, _, _, _, _, _, _, _, _, _, _, _, rfl⟩) ?_
    rintro ⟨fl, s⟩ ⟨g1, g2⟩
    simp only at g1
    subst g1
    simp
  obtain ⟨⟨q1, q2⟩, e, rfl⟩ := key
  exact ⟨q2, e⟩
def law_depth : Nat := 11
end K87

-- end
set_option autoImplicit true
set_option Elab.async false
set_option linter.all false
set_option maxRecDepth 100000
set_option maxHeartbeats 0
namespace K87
open PySem PySem.Spec PyProof.Rows L2 Ev
theorem chk_all : chkGlob glob = true := by kernel_rfl
abbrev R : PySem.W.OpenRow := PySem.W.OpenLaw.row PySem.Challenge.rw_matchweb_k87_namings
def names : List PySem.Str := (glob.ents.map (·.x)).dropLast ++ glob.con.map (·.1)
def iLaw : Nat := 58
abbrev hk : PySem.W.Hook := He.hookD 4 glob.fas glob.dDs
def ob (s : PySem.W.SharedT) : He.AlD := He.obsDG 4 glob.fas glob.dDs (HandSHeadRun.getT s)
theorem ob_eq (s : PySem.W.SharedT) : ob s = hk.obs s.abs := He.obsDG_eq (HandSHeadRun.getT_eq s)
theorem run (w : World) : HandSHeadRun.RunEq R (PySem.W.view R.prog [iLaw]) hk ob 2000 names w := by
  intro os
  kernel_rfl
theorem args_ok : glob.argsOk = true := by kernel_rfl
theorem tab_tb : glob.tab = tb := rfl
theorem holds_ev : LawHolds glob 60 50 := by
  intro ns _
  rw [tab_tb]
  exact law_ok (n := 49) ns
end K87
open PySem PySem.W PySem.Calls PyProof.Rows
theorem PySem.Challenge.cw_matchweb_k87_namings_holds : PySem.Challenge.rw_matchweb_k87_namings.Holds := by
  w_on; o_law
  refine HandSHeadRun.head_any (r := OpenLaw.row PySem.Challenge.rw_matchweb_k87_namings) (q := view (OpenLaw.row PySem.Challenge.rw_matchweb_k87_namings).prog [K87.iLaw]) (H := K87.hk) (ob := K87.ob) (M := 2000) (loose := K87.names) (d := HandSHeadRun.topDef (OpenLaw.row PySem.Challenge.rw_matchweb_k87_namings).prog K87.iLaw) (kwd := []) K87.ob_eq
    (by kernel_rfl) (fun s => by kernel_rfl) K87.run (by kernel_rfl) (by kernel_rfl) (by kernel_rfl) (by rfl) (by first | assumption | decide +kernel) (by decide +kernel) ⟨rfl, rfl, rfl, rfl, rfl, by decide +kernel⟩ ?hw ?hc
  case hw => w_witness2
  case hc =>
    refine L2.walk_ofE (l := PySem.Challenge.rw_matchweb_k87_namings) (n := 63) (k := 180) (x := "script") (CX := Ev.CXn) rfl (by decide) (by kernel_rfl) ⟨rfl, by decide, by decide⟩ ?F (fun _ _ _ _ z => z)
    intro w mg fa h Y G hmg0
    obtain ⟨K, KX, c⟩ := Y
    have hmg : mg K87.e50.x = some (.ref fa) := by
      have e : (HandSHeadRun.topDef (OpenLaw.row PySem.Challenge.rw_matchweb_k87_namings).prog K87.iLaw).name = K87.e50.x := by kernel_rfl
      rw [← e]
      exact hmg0
    obtain ⟨fd, hb, hF⟩ := Ev.law_end (g := K87.glob) (P := (PySem.Challenge.rw_matchweb_k87_namings).prog) (w := w) (n := 60) (f := 50) (e := K87.e50) (x := "script") rfl rfl rfl KX G hmg c K87.args_ok K87.chk_all
    exact ⟨K, fd, Ev.spD K (Ev.evF K87.glob.tab 60) 50 false, KX, hb, fun H a ns hl _ hS => Ev.end_of K87.holds_ev K H a ns hl hS, hF⟩

